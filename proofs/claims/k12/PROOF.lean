import PyProof.Rows.All
import Wide.All
import OpenK.AllK
import Wide.FinOn
import HandS.ForMost
import HandS.IsInst
import HandS.ExcInit
import HandS.Exc
import HandS.Style
import HandS.Wide
import HandS.StrMore
import HandS.SetFor
import PyProof.LongRange
import HandS.Codes
import KE.SortData
import HandS.ClsMeth
import PyProof.Rows.StrRev
import PyProof.StrOps2
import HandS.Defaults
import HandS.More
import HandS.ExcOwn
import HandS.WordsExc
import HandS.TryOnly
import HandS.ExcIs
import HandS.Deep
import HandS.Text
import PyProof.EqKinds
import PyProof.P3In
import HandS.Dict
import PyProof.DictMoreH
import HandS.SetKeys
import KE.KDictWalk
import HandS.Iter
import HandS.Strs
import PyProof.Rows.SetFrom
import HandS.Head0
import HandS.Head1
import HandS.Head2
import HandS.HeadEnd
import HandS.HeadHook1
import HandS.HeadHook2
import HandS.List
import HandS.ExcValue
import HandS.ExcField
import KE.KExcIs
import KE.KExcLine
import HandS.HotCalls
import PyProof.SeqRoads2
import HandS.ExcCtx
import HandS.SuiteRaise
import HandS.RaiseFrom
import HandS.ExcInitHot
import PySem.Challenge.RW_coverroll_k12_no_amounts
set_option Elab.async false
set_option linter.all false
set_option maxRecDepth 100000
set_option maxHeartbeats 4000000
namespace M
open PySem L2

/-- data that no one changes any more -/
inductive D where
  | non | bl (b : Bool) | int (i : Int) | str (x : Str) | ty (n : String) | opq (a : Addr) | exc (C : Addr) (f : Option (Str × Int)) | hx (a : Addr) (d : Option Addr) (f : Option (Str × Int))
  | tup (ds : List D) | lst (ds : List D) | ins (C : Addr) (ns : List Str) (ds : List D)
  | dct (ks : List Key) (ds : List D) | dctT (ks : List (List Key)) (ds : List D)
/-- an error: its class, its attribute -/
structure Er where
  C : Addr
  fld : Option (Str × D) := none
/-- things of the def's own, that may be changed; rs: nothing comes back, an error is raised; vw: a list that stays as it is while the def runs -/
inductive O where
  | fz (d : D) | vw (ds : List D) | lst (os : List O) | tup (os : List O) | ins (C : Addr) (ns : List Str) (os : List O)
  | dct (ks : List Key) (os : List O) | dctT (ks : List (List Key)) (os : List O)
  | at (a : Addr) (C : Addr) (ns : List Str) (os : List O)
  | vwa (a : Addr) (ds : List D)
  | loc (a : Addr) (o : O)
  | pt (a : Addr)
  | rs (e : Er)
  | lk (o : O)

def Ex (H H' : Hp) : Prop := ∀ a o, H a = some o → H' a = some o
theorem Ex.refl (H : Hp) : Ex H H := fun _ _ h => h
theorem Ex.trans {H H1 H2 : Hp} (a : Ex H H1) (b : Ex H1 H2) : Ex H H2 := fun x o h => b x o (a x o h)
theorem Ex.new {H : Hp} {p : Addr} {o : HO} (h : H p = none) : Ex H (upd H p o) := fun a u e => by
  rw [upd_ne (ne_of_none e h)]
  exact e
theorem Ex.free {H H' : Hp} {p : Addr} (e : Ex H H') (h : H' p = none) : H p = none := by
  cases h1 : H p with
  | none => rfl
  | some o =>
    rw [e p o h1] at h
    cases h
theorem ex_rd {H H' : Hp} {a : Addr} {u : HO} (e : Ex H H') (h : Rd H a u) : Rd H' a u := by
  rcases h with h | ⟨o, h⟩
  · exact .inl (e a _ h)
  · exact .inr ⟨o, e a _ h⟩
theorem ex_l {K : PySem.W.Frag} {H H' : Hp} {a : Addr} {xs : List V} (e : Ex H H') (h : SqL K H a xs) : SqL K H' a xs := by
  rcases h with h | h
  · exact .inl (ex_rd e h)
  · exact .inr h
/-- the field that an error of its own class may have -/
def ExF (Z : Hp) (d : Option Addr) : Option (Str × Int) → Prop
  | none => d = none
  | some p => ∃ dd, d = some dd ∧ Z dd = some (exd dd [(p.1, .int p.2)])
theorem ExF.mono {Z Z' : Hp} {d : Option Addr} (e : Ex Z Z') : ∀ {f : Option (Str × Int)}, ExF Z d f → ExF Z' d f
  | none, h => h
  | some _, ⟨dd, h, q⟩ => ⟨dd, h, e _ _ q⟩
/-- the field of the error that a suite holds -/
def ExH (Z : Hp) (d : Option Addr) : Option (Str × Int) → Prop
  | none => d = none
  | some p => ∃ dd, d = some dd ∧ Z dd = some (.xd [(p.1, .int p.2)])
theorem ExH.mono {Z Z' : Hp} {d : Option Addr} (e : Ex Z Z') : ∀ {f : Option (Str × Int)}, ExH Z d f → ExH Z' d f
  | none, h => h
  | some _, ⟨dd, h, q⟩ => ⟨dd, h, e _ _ q⟩
mutual
inductive Rep (K : PySem.W.Frag) (Z : Hp) : V → D → Prop where
  | non : Rep K Z .non .non
  | bl (b : Bool) : Rep K Z (.bl b) (.bl b)
  | int (i : Int) : Rep K Z (.int i) (.int i)
  | str (x : Str) : Rep K Z (.str x) (.str x)
  | ty (n : String) : Rep K Z (.ty n) (.ty n)
  | opq (a : Addr) : Rep K Z (.ref a) (.opq a)
  | exc {a C : Addr} {d : Option Addr} {f : Option (Str × Int)} : Z a = some (exo a C d) → ExF Z d f → Rep K Z (.ref a) (.exc C f)
  | hx {a : Addr} {d : Option Addr} {f : Option (Str × Int)} : ExH Z d f → Rep K Z (.ref a) (.hx a d f)
  | tup {a : Addr} {vs : List V} {ds : List D} : Z a = some (.tup vs) → RepL K Z vs ds → Rep K Z (.ref a) (.tup ds)
  | lst {a : Addr} {vs : List V} {ds : List D} : SqL K Z a vs → RepL K Z vs ds → Rep K Z (.ref a) (.lst ds)
  | ins {a C dx : Addr} {ns : List Str} {vs : List V} {ds : List D} : Z a = some (.ins C dx (ns.zip vs)) → RepL K Z vs ds → Rep K Z (.ref a) (.ins C ns ds)
  | dct {a : Addr} {ks : List Key} {vs : List V} {ds : List D} : Z a = some (.dK (ks.zip vs)) → RepL K Z vs ds → Rep K Z (.ref a) (.dct ks ds)
  | dctT {a : Addr} {ks : List (List Key)} {vs : List V} {ds : List D} : Z a = some (.dT (ks.zip vs)) → RepL K Z vs ds → Rep K Z (.ref a) (.dctT ks ds)
inductive RepL (K : PySem.W.Frag) (Z : Hp) : List V → List D → Prop where
  | nil : RepL K Z [] []
  | cons {v : V} {vs : List V} {d : D} {ds : List D} : Rep K Z v d → RepL K Z vs ds → RepL K Z (v :: vs) (d :: ds)
end
mutual
/-- a thing that is looked at: its cells lie in F -/
inductive RepK (K : PySem.W.Frag) (Z F : Hp) : V → O → Prop where
  | fz {v : V} {d : D} : Rep K Z v d → RepK K Z F v (.fz d)
  | vw {a : Addr} {vs : List V} {ds : List D} : SqL K F a vs → RepL K Z vs ds → RepK K Z F (.ref a) (.vw ds)
  | vwa {a : Addr} {vs : List V} {ds : List D} : SqL K F a vs → RepL K Z vs ds → RepK K Z F (.ref a) (.vwa a ds)
  | lst {a : Addr} {vs : List V} {os : List O} : F a = some (.lst vs) → RepKL K Z F vs os → RepK K Z F (.ref a) (.lst os)
  | tup {a : Addr} {vs : List V} {os : List O} : F a = some (.tup vs) → RepKL K Z F vs os → RepK K Z F (.ref a) (.tup os)
  | ins {a C dx : Addr} {ns : List Str} {vs : List V} {os : List O} : F a = some (.ins C dx (ns.zip vs)) → RepKL K Z F vs os → RepK K Z F (.ref a) (.ins C ns os)
  | at {a C dx : Addr} {ns : List Str} {vs : List V} {os : List O} : F a = some (.ins C dx (ns.zip vs)) → RepKL K Z F vs os → RepK K Z F (.ref a) (.at a C ns os)
  | dct {a : Addr} {ks : List Key} {vs : List V} {os : List O} : F a = some (.dK (ks.zip vs)) → RepKL K Z F vs os → RepK K Z F (.ref a) (.dct ks os)
  | dctT {a : Addr} {ks : List (List Key)} {vs : List V} {os : List O} : F a = some (.dT (ks.zip vs)) → RepKL K Z F vs os → RepK K Z F (.ref a) (.dctT ks os)
  | loc {a : Addr} {o : O} : RepK K Z F (.ref a) o → RepK K Z F (.ref a) (.loc a o)
  | pt {a : Addr} : RepK K Z F (.ref a) (.pt a)
  | lk {v : V} {o : O} : RepK K Z F v o → RepK K Z F v (.lk o)
inductive RepKL (K : PySem.W.Frag) (Z F : Hp) : List V → List O → Prop where
  | nil : RepKL K Z F [] []
  | cons {v : V} {vs : List V} {o : O} {os : List O} : RepK K Z F v o → RepKL K Z F vs os → RepKL K Z F (v :: vs) (o :: os)
end
mutual
inductive RepO (K : PySem.W.Frag) (Z F H : Hp) : V → O → List Addr → Prop where
  | fz {v : V} {d : D} : Rep K Z v d → RepO K Z F H v (.fz d) []
  | vw {a : Addr} {vs : List V} {ds : List D} : SqL K F a vs → RepL K Z vs ds → RepO K Z F H (.ref a) (.vw ds) []
  | vwa {a : Addr} {vs : List V} {ds : List D} : SqL K F a vs → RepL K Z vs ds → RepO K Z F H (.ref a) (.vwa a ds) []
  | lst {a : Addr} {vs : List V} {os : List O} {A : List Addr} : H a = some (.lst vs) → RepOL K Z F H vs os A → RepO K Z F H (.ref a) (.lst os) (a :: A)
  | tup {a : Addr} {vs : List V} {os : List O} {A : List Addr} : H a = some (.tup vs) → RepOL K Z F H vs os A → RepO K Z F H (.ref a) (.tup os) (a :: A)
  | ins {a C dx : Addr} {ns : List Str} {vs : List V} {os : List O} {A : List Addr} : H a = some (.ins C dx (ns.zip vs)) → RepOL K Z F H vs os A → RepO K Z F H (.ref a) (.ins C ns os) (a :: A)
  | at {a C dx : Addr} {ns : List Str} {vs : List V} {os : List O} {A : List Addr} : H a = some (.ins C dx (ns.zip vs)) → RepOL K Z F H vs os A → RepO K Z F H (.ref a) (.at a C ns os) (a :: A)
  | dct {a : Addr} {ks : List Key} {vs : List V} {os : List O} {A : List Addr} : H a = some (.dK (ks.zip vs)) → RepOL K Z F H vs os A → RepO K Z F H (.ref a) (.dct ks os) (a :: A)
  | dctT {a : Addr} {ks : List (List Key)} {vs : List V} {os : List O} {A : List Addr} : H a = some (.dT (ks.zip vs)) → RepOL K Z F H vs os A → RepO K Z F H (.ref a) (.dctT ks os) (a :: A)
  | loc {a : Addr} {o : O} {A : List Addr} : RepO K Z F H (.ref a) o A → RepO K Z F H (.ref a) (.loc a o) A
  | pt {a : Addr} : RepO K Z F H (.ref a) (.pt a) []
  | lk {v : V} {o : O} : RepK K Z F v o → RepO K Z F H v (.lk o) []
inductive RepOL (K : PySem.W.Frag) (Z F H : Hp) : List V → List O → List Addr → Prop where
  | nil : RepOL K Z F H [] [] []
  | cons {v : V} {vs : List V} {o : O} {os : List O} {A B : List Addr} : RepO K Z F H v o A → RepOL K Z F H vs os B → RepOL K Z F H (v :: vs) (o :: os) (A ++ B)
end

section
variable {K : PySem.W.Frag} {Z Z' F F' H H' : Hp}
mutual
theorem Rep.mono (e : Ex Z Z') : ∀ {v : V} {d : D}, Rep K Z v d → Rep K Z' v d
  | _, _, .non => .non
  | _, _, .bl b => .bl b
  | _, _, .int i => .int i
  | _, _, .str x => .str x
  | _, _, .ty n => .ty n
  | _, _, .opq a => .opq a
  | _, _, .exc h q => .exc (e _ _ h) (q.mono e)
  | _, _, .hx q => .hx (q.mono e)
  | _, _, .tup h r => .tup (e _ _ h) (RepL.mono e r)
  | _, _, .lst h r => .lst (ex_l e h) (RepL.mono e r)
  | _, _, .ins h r => .ins (e _ _ h) (RepL.mono e r)
  | _, _, .dct h r => .dct (e _ _ h) (RepL.mono e r)
  | _, _, .dctT h r => .dctT (e _ _ h) (RepL.mono e r)
theorem RepL.mono (e : Ex Z Z') : ∀ {vs : List V} {ds : List D}, RepL K Z vs ds → RepL K Z' vs ds
  | _, _, .nil => .nil
  | _, _, .cons h r => .cons (Rep.mono e h) (RepL.mono e r)
end
mutual
theorem RepK.mono (e : Ex Z Z') (f : Ex F F') : ∀ {v : V} {o : O}, RepK K Z F v o → RepK K Z' F' v o
  | _, _, .fz h => .fz (h.mono e)
  | _, _, .vw h r => .vw (ex_l f h) (r.mono e)
  | _, _, .vwa h r => .vwa (ex_l f h) (r.mono e)
  | _, _, .lst h r => .lst (f _ _ h) (RepKL.mono e f r)
  | _, _, .tup h r => .tup (f _ _ h) (RepKL.mono e f r)
  | _, _, .ins h r => .ins (f _ _ h) (RepKL.mono e f r)
  | _, _, .at h r => .at (f _ _ h) (RepKL.mono e f r)
  | _, _, .dct h r => .dct (f _ _ h) (RepKL.mono e f r)
  | _, _, .dctT h r => .dctT (f _ _ h) (RepKL.mono e f r)
  | _, .loc _ o, .loc h => .loc (RepK.mono (o := o) e f h)
  | _, _, .pt => .pt
  | _, .lk o, .lk h => .lk (RepK.mono (o := o) e f h)
theorem RepKL.mono (e : Ex Z Z') (f : Ex F F') : ∀ {vs : List V} {os : List O}, RepKL K Z F vs os → RepKL K Z' F' vs os
  | _, _, .nil => .nil
  | _, _, .cons h r => .cons (RepK.mono e f h) (RepKL.mono e f r)
end
mutual
theorem RepO.mono (e : Ex Z Z') (f : Ex F F') : ∀ {v : V} {o : O} {A : List Addr}, RepO K Z F H v o A → (∀ a ∈ A, ∀ u, H a = some u → H' a = some u) → RepO K Z' F' H' v o A
  | _, _, _, .fz h, _ => .fz (h.mono e)
  | _, _, _, .vw h r, _ => .vw (ex_l f h) (r.mono e)
  | _, _, _, .vwa h r, _ => .vwa (ex_l f h) (r.mono e)
  | _, _, _, .lk h, _ => .lk (h.mono e f)
  | _, _, _, .lst h r, k => .lst (k _ List.mem_cons_self _ h) (RepOL.mono e f r fun a m => k a (List.mem_cons_of_mem _ m))
  | _, _, _, .tup h r, k => .tup (k _ List.mem_cons_self _ h) (RepOL.mono e f r fun a m => k a (List.mem_cons_of_mem _ m))
  | _, _, _, .ins h r, k => .ins (k _ List.mem_cons_self _ h) (RepOL.mono e f r fun a m => k a (List.mem_cons_of_mem _ m))
  | _, _, _, .loc h, k => .loc (RepO.mono e f h k)
  | _, _, _, .pt, _ => .pt
  | _, _, _, .at h r, k => .at (k _ List.mem_cons_self _ h) (RepOL.mono e f r fun a m => k a (List.mem_cons_of_mem _ m))
  | _, _, _, .dct h r, k => .dct (k _ List.mem_cons_self _ h) (RepOL.mono e f r fun a m => k a (List.mem_cons_of_mem _ m))
  | _, _, _, .dctT h r, k => .dctT (k _ List.mem_cons_self _ h) (RepOL.mono e f r fun a m => k a (List.mem_cons_of_mem _ m))
theorem RepOL.mono (e : Ex Z Z') (f : Ex F F') : ∀ {vs : List V} {os : List O} {A : List Addr}, RepOL K Z F H vs os A → (∀ a ∈ A, ∀ u, H a = some u → H' a = some u) → RepOL K Z' F' H' vs os A
  | _, _, _, .nil, _ => .nil
  | _, _, _, .cons h r, k => .cons (RepO.mono e f h fun a m => k a (List.mem_append_left _ m)) (RepOL.mono e f r fun a m => k a (List.mem_append_right _ m))
end
mutual
theorem RepO.there : ∀ {v : V} {o : O} {A : List Addr}, RepO K Z F H v o A → ∀ a ∈ A, ∃ u, H a = some u
  | _, _, _, .fz _, _, m => nomatch m
  | _, _, _, .vw _ _, _, m => nomatch m
  | _, _, _, .vwa _ _, _, m => nomatch m
  | _, _, _, .lk _, _, m => nomatch m
  | _, _, _, .lst h r, a, m => (List.mem_cons.mp m).elim (fun e => ⟨_, e ▸ h⟩) fun m => RepOL.there r a m
  | _, _, _, .tup h r, a, m => (List.mem_cons.mp m).elim (fun e => ⟨_, e ▸ h⟩) fun m => RepOL.there r a m
  | _, _, _, .ins h r, a, m => (List.mem_cons.mp m).elim (fun e => ⟨_, e ▸ h⟩) fun m => RepOL.there r a m
  | _, _, _, .loc h, a, m => RepO.there h a m
  | _, _, _, .pt, _, m => nomatch m
  | _, _, _, .at h r, a, m => (List.mem_cons.mp m).elim (fun e => ⟨_, e ▸ h⟩) fun m => RepOL.there r a m
  | _, _, _, .dct h r, a, m => (List.mem_cons.mp m).elim (fun e => ⟨_, e ▸ h⟩) fun m => RepOL.there r a m
  | _, _, _, .dctT h r, a, m => (List.mem_cons.mp m).elim (fun e => ⟨_, e ▸ h⟩) fun m => RepOL.there r a m
theorem RepOL.there : ∀ {vs : List V} {os : List O} {A : List Addr}, RepOL K Z F H vs os A → ∀ a ∈ A, ∃ u, H a = some u
  | _, _, _, .nil, _, m => nomatch m
  | _, _, _, .cons h r, a, m => (List.mem_append.mp m).elim (fun m => RepO.there h a m) fun m => RepOL.there r a m
end
theorem RepO.ex {v : V} {o : O} {A : List Addr} (e : Ex Z Z') (g : Ex H H') (r : RepO K Z F H v o A) : RepO K Z' F H' v o A := r.mono e (Ex.refl _) fun a _ u h => g a u h
theorem RepO.frame {v : V} {o : O} {A : List Addr} (r : RepO K Z F H v o A) (k : ∀ a ∈ A, H' a = H a) : RepO K Z F H' v o A := r.mono (Ex.refl _) (Ex.refl _) fun a m u h => (k a m).trans h
theorem RepKL.length : ∀ {vs : List V} {os : List O}, RepKL K Z F vs os → vs.length = os.length
  | _, _, .nil => rfl
  | _, _, .cons _ r => congrArg (· + 1) r.length
theorem RepKL.get : ∀ {vs : List V} {os : List O} {i : Nat} {o : O}, RepKL K Z F vs os → os[i]? = some o → ∃ v, vs[i]? = some v ∧ RepK K Z F v o
  | _, _, _, _, .nil, e => by simp at e
  | _, _, 0, _, .cons h _, e => by
    simp at e
    subst e
    exact ⟨_, rfl, h⟩
  | _, _, i + 1, o, .cons _ r, e => by
    obtain ⟨v, h1, h2⟩ := RepKL.get (i := i) (o := o) r (by simpa using e)
    exact ⟨v, by simpa using h1, h2⟩
theorem RepKL.fzs : ∀ {ds : List D} {vs : List V}, RepKL K Z F vs (ds.map .fz) → RepL K Z vs ds
  | [], _, .nil => .nil
  | _ :: _, _, .cons (.fz h) r => .cons h r.fzs
theorem RepL.length : ∀ {vs : List V} {ds : List D}, RepL K Z vs ds → vs.length = ds.length
  | _, _, .nil => rfl
  | _, _, .cons _ r => congrArg (· + 1) r.length
theorem RepL.get : ∀ {vs : List V} {ds : List D} {i : Nat} {d : D}, RepL K Z vs ds → ds[i]? = some d → ∃ v, vs[i]? = some v ∧ Rep K Z v d
  | _, _, _, _, .nil, e => by simp at e
  | _, _, 0, _, .cons h _, e => by
    simp at e
    subst e
    exact ⟨_, rfl, h⟩
  | _, _, i + 1, d, .cons _ r, e => by
    obtain ⟨v, h1, h2⟩ := RepL.get (i := i) (d := d) r (by simpa using e)
    exact ⟨v, by simpa using h1, h2⟩
theorem RepL.append : ∀ {vs ws : List V} {ds es : List D}, RepL K Z vs ds → RepL K Z ws es → RepL K Z (vs ++ ws) (ds ++ es)
  | _, _, _, _, .nil, s => s
  | _, _, _, _, .cons h r, s => .cons h (r.append s)
theorem RepL.set {v : V} {d : D} (h : Rep K Z v d) : ∀ {vs : List V} {ds : List D} (i : Nat), RepL K Z vs ds → RepL K Z (vs.set i v) (ds.set i d)
  | _, _, _, .nil => .nil
  | _, _, 0, .cons _ r => .cons h r
  | _, _, i + 1, .cons g r => .cons g (RepL.set h i r)
theorem RepL.take : ∀ {vs : List V} {ds : List D} (n : Nat), RepL K Z vs ds → RepL K Z (vs.take n) (ds.take n)
  | _, _, 0, _ => .nil
  | _, _, _ + 1, .nil => .nil
  | _, _, n + 1, .cons h r => .cons h (RepL.take n r)
theorem RepL.drop : ∀ {vs : List V} {ds : List D} (n : Nat), RepL K Z vs ds → RepL K Z (vs.drop n) (ds.drop n)
  | _, _, 0, r => r
  | _, _, _ + 1, .nil => .nil
  | _, _, n + 1, .cons _ r => RepL.drop n r
/-- a list of frozen things -/
theorem RepOL.fzs : ∀ {ds : List D} {vs : List V} {A : List Addr}, RepOL K Z F H vs (ds.map .fz) A → A = [] ∧ RepL K Z vs ds
  | [], _, _, .nil => ⟨rfl, .nil⟩
  | _ :: _, _, _, .cons (.fz h) r => by
    obtain ⟨e, q⟩ := RepOL.fzs r
    exact ⟨by rw [e]; rfl, .cons h q⟩
theorem RepL.own : ∀ {vs : List V} {ds : List D}, RepL K Z vs ds → RepOL K Z F H vs (ds.map .fz) []
  | _, _, .nil => .nil
  | _, _, .cons h r => .cons (A := []) (B := []) (.fz h) r.own
theorem RepL.ints : ∀ {ns : List Int} {vs : List V}, RepL K Z vs (ns.map .int) → vs = ns.map V.int
  | [], _, .nil => rfl
  | _ :: _, _, .cons (.int _) r => by rw [r.ints]; rfl
theorem RepL.ofInts : ∀ {ns : List Int}, RepL K Z (ns.map V.int) (ns.map .int)
  | [] => .nil
  | n :: r => .cons (.int n) (RepL.ofInts (ns := r))
end

mutual
def O.frz : O → D
  | .fz d => d
  | .vw ds => .lst ds
  | .vwa _ ds => .lst ds
  | .lk o => o.frz
  | .lst os => .lst (O.frzL os)
  | .tup os => .tup (O.frzL os)
  | .ins C ns os => .ins C ns (O.frzL os)
  | .at _ C ns os => .ins C ns (O.frzL os)
  | .loc _ o => o.frz
  | .pt a => .opq a
  | .rs _ => .non
  | .dct ks os => .dct ks (O.frzL os)
  | .dctT ks os => .dctT ks (O.frzL os)
def O.frzL : List O → List D
  | [] => []
  | o :: r => o.frz :: O.frzL r
end
mutual
def O.nv : O → Bool
  | .fz _ => true
  | .vw _ => false
  | .vwa _ _ => false
  | .lk _ => false
  | .lst os => O.nvL os
  | .tup os => O.nvL os
  | .ins _ _ os => O.nvL os
  | .at _ _ _ os => O.nvL os
  | .loc _ o => o.nv
  | .pt _ => true
  | .rs _ => false
  | .dct _ os => O.nvL os
  | .dctT _ os => O.nvL os
def O.nvL : List O → Bool
  | [] => true
  | o :: r => o.nv && O.nvL r
end
theorem O.frzL_fz : ∀ ds : List D, O.frzL (ds.map .fz) = ds
  | [] => rfl
  | d :: r => by
    show O.frz (.fz d) :: O.frzL (r.map .fz) = d :: r
    rw [O.frzL_fz r]
    rfl
theorem O.nvL_fz : ∀ ds : List D, O.nvL (ds.map .fz) = true
  | [] => rfl
  | d :: r => by
    show (O.nv (.fz d) && O.nvL (r.map .fz)) = true
    rw [O.nvL_fz r]
    rfl
section
variable {K : PySem.W.Frag} {Z Z' F H : Hp}
mutual
theorem RepO.frz (e : Ex Z Z') : ∀ {v : V} {o : O} {A : List Addr}, RepO K Z F H v o A → (∀ a ∈ A, Z' a = H a) → o.nv = true → Rep K Z' v o.frz
  | _, _, _, .fz h, _, _ => h.mono e
  | _, _, _, .vw _ _, _, n => nomatch n
  | _, _, _, .vwa _ _, _, n => nomatch n
  | _, _, _, .lk _, _, n => nomatch n
  | _, _, _, .lst h r, k, n => .lst (SqL.of ((k _ List.mem_cons_self).trans h)) (RepOL.frz e r (fun a m => k a (List.mem_cons_of_mem _ m)) n)
  | _, _, _, .tup h r, k, n => .tup ((k _ List.mem_cons_self).trans h) (RepOL.frz e r (fun a m => k a (List.mem_cons_of_mem _ m)) n)
  | _, _, _, .ins h r, k, n => .ins ((k _ List.mem_cons_self).trans h) (RepOL.frz e r (fun a m => k a (List.mem_cons_of_mem _ m)) n)
  | _, .loc _ o, _, .loc h, k, n => by
    have h : RepO K Z F H _ o _ := h
    exact (show Rep K Z' _ o.frz from RepO.frz (o := o) e h k n)
  | _, _, _, .pt, _, _ => .opq _
  | _, _, _, .at h r, k, n => .ins ((k _ List.mem_cons_self).trans h) (RepOL.frz e r (fun a m => k a (List.mem_cons_of_mem _ m)) n)
  | _, _, _, .dct h r, k, n => .dct ((k _ List.mem_cons_self).trans h) (RepOL.frz e r (fun a m => k a (List.mem_cons_of_mem _ m)) n)
  | _, _, _, .dctT h r, k, n => .dctT ((k _ List.mem_cons_self).trans h) (RepOL.frz e r (fun a m => k a (List.mem_cons_of_mem _ m)) n)
theorem RepOL.frz (e : Ex Z Z') : ∀ {vs : List V} {os : List O} {A : List Addr}, RepOL K Z F H vs os A → (∀ a ∈ A, Z' a = H a) → O.nvL os = true → RepL K Z' vs (O.frzL os)
  | _, _, _, .nil, _, _ => .nil
  | _, _, _, .cons h r, k, n => .cons (RepO.frz e h (fun a m => k a (List.mem_append_left _ m)) (Bool.and_eq_true_iff.mp n).1) (RepOL.frz e r (fun a m => k a (List.mem_append_right _ m)) (Bool.and_eq_true_iff.mp n).2)
end
end
/-- Z and the cells at A -/
def frzAt (Z H : Hp) (A : List Addr) : Hp := fun a => if a ∈ A then H a else Z a
theorem frzAt_in {Z H : Hp} {A : List Addr} {a : Addr} (h : a ∈ A) : frzAt Z H A a = H a := if_pos h
theorem frzAt_out {Z H : Hp} {A : List Addr} {a : Addr} (h : a ∉ A) : frzAt Z H A a = Z a := if_neg h
theorem ex_frzAt {Z H : Hp} {A : List Addr} (e : Ex Z H) : Ex Z (frzAt Z H A) := fun a u h => by
  by_cases m : a ∈ A
  · rw [frzAt_in m]
    exact e a u h
  · rw [frzAt_out m]
    exact h
theorem frzAt_ex {Z H : Hp} {A : List Addr} (e : Ex Z H) : Ex (frzAt Z H A) H := fun a u h => by
  by_cases m : a ∈ A
  · rw [frzAt_in m] at h
    exact h
  · rw [frzAt_out m] at h
    exact e a u h

/-- the heap grows: frozen part Z, all H -/
structure Gr (Z H Z' H' : Hp) : Prop where
  zz : Ex Z Z'
  hh : Ex H H'
  zh : Ex Z' H'
  nw : ∀ a o, H a = some o → Z' a = Z a
theorem Gr.trans {Z H Z1 H1 Z2 H2 : Hp} (a : Gr Z H Z1 H1) (b : Gr Z1 H1 Z2 H2) : Gr Z H Z2 H2 :=
  ⟨a.zz.trans b.zz, a.hh.trans b.hh, b.zh, fun x o h => (b.nw x o (a.hh x o h)).trans (a.nw x o h)⟩
theorem Gr.refl {Z H : Hp} (h : Ex Z H) : Gr Z H Z H := ⟨Ex.refl _, Ex.refl _, h, fun _ _ _ => rfl⟩
/-- a new object that is not frozen -/
theorem Gr.new {Z H : Hp} {p : Addr} {o : HO} (h : Ex Z H) (hp : H p = none) : Gr Z H Z (upd H p o) := ⟨Ex.refl _, Ex.new hp, h.trans (Ex.new hp), fun _ _ _ => rfl⟩
/-- .. frozen at once -/
theorem Gr.newz {Z H : Hp} {p : Addr} {o : HO} (h : Ex Z H) (hp : H p = none) : Gr Z H (upd Z p o) (upd H p o) :=
  ⟨Ex.new (h.free hp), Ex.new hp, fun a u e => by
    by_cases ha : a = p
    · subst ha
      rw [upd_same] at e ⊢
      exact e
    · rw [upd_ne ha] at e ⊢
      exact h a u e, fun a u e => upd_ne (ne_of_none e hp)⟩

abbrev Slots := List (Option O)
inductive StL (K : PySem.W.Frag) (Z F H : Hp) : Slots → L2.St → List Addr → Prop where
  | nil : StL K Z F H [] [] []
  | no {s : Option V} {ρ : Slots} {σ : L2.St} {A : List Addr} : StL K Z F H ρ σ A → StL K Z F H (none :: ρ) (s :: σ) A
  | so {v : V} {o : O} {ρ : Slots} {σ : L2.St} {A B : List Addr} : RepO K Z F H v o A → StL K Z F H ρ σ B → StL K Z F H (some o :: ρ) (some v :: σ) (A ++ B)
structure StR (K : PySem.W.Frag) (ρ : Slots) (Z0 F Z : Hp) (σ : L2.St) (H : Hp) : Prop where
  gr : Gr Z0 F Z H
  st : ∃ A, StL K Z F H ρ σ A ∧ A.Nodup ∧ ∀ a ∈ A, Z a = none ∧ F a = none
section
variable {K : PySem.W.Frag} {Z0 Z Z' F H H' : Hp} {ρ : Slots} {σ : L2.St}
theorem StL.mono (e : Ex Z Z') : ∀ {ρ : Slots} {σ : L2.St} {A : List Addr}, StL K Z F H ρ σ A → (∀ a ∈ A, ∀ u, H a = some u → H' a = some u) → StL K Z' F H' ρ σ A
  | _, _, _, .nil, _ => .nil
  | _, _, _, .no h, k => .no (h.mono e k)
  | _, _, _, .so r h, k => .so (r.mono e (Ex.refl _) fun a m => k a (List.mem_append_left _ m)) (h.mono e fun a m => k a (List.mem_append_right _ m))
theorem StL.there : ∀ {ρ : Slots} {σ : L2.St} {A : List Addr}, StL K Z F H ρ σ A → ∀ a ∈ A, ∃ u, H a = some u
  | _, _, _, .nil, _, m => nomatch m
  | _, _, _, .no h, a, m => h.there a m
  | _, _, _, .so r h, a, m => (List.mem_append.mp m).elim (fun m => r.there a m) fun m => h.there a m
theorem StL.length : ∀ {ρ : Slots} {σ : L2.St} {A : List Addr}, StL K Z F H ρ σ A → σ.length = ρ.length
  | _, _, _, .nil => rfl
  | _, _, _, .no h => congrArg (· + 1) h.length
  | _, _, _, .so _ h => congrArg (· + 1) h.length
theorem StL.get : ∀ {ρ : Slots} {σ : L2.St} {A : List Addr} {i : Nat} {o : O}, StL K Z F H ρ σ A → ρ[i]? = some (some o) → ∃ v B, σ[i]? = some (some v) ∧ RepO K Z F H v o B ∧ ∀ a ∈ B, a ∈ A
  | _, _, _, _, _, .nil, e => by simp at e
  | _, _, _, 0, _, .no h, e => by simp at e
  | _, _, _, i + 1, _, .no h, e => by
    obtain ⟨v, B, h1, h2, h3⟩ := h.get (i := i) (by simpa using e)
    exact ⟨v, B, by simpa using h1, h2, h3⟩
  | _, _, _, 0, _, .so r h, e => by
    simp at e
    subst e
    exact ⟨_, _, rfl, r, fun a m => List.mem_append_left _ m⟩
  | _, _, _, i + 1, _, .so r h, e => by
    obtain ⟨v, B, h1, h2, h3⟩ := h.get (i := i) (by simpa using e)
    exact ⟨v, B, by simpa using h1, h2, fun a m => List.mem_append_right _ (h3 a m)⟩
/-- a slot is stored anew -/
theorem StL.put {v : V} {o : O} {B : List Addr} (r : RepO K Z F H v o B) : ∀ {ρ : Slots} {σ : L2.St} {A : List Addr} {i : Nat}, StL K Z F H ρ σ A → i < ρ.length → A.Nodup → B.Nodup → (∀ a ∈ B, a ∉ A) →
    ∃ A', StL K Z F H (ρ.set i (some o)) (σ.set i (some v)) A' ∧ A'.Nodup ∧ ∀ a ∈ A', a ∈ A ∨ a ∈ B
  | _, _, _, _, .nil, hi, _, _, _ => by simp at hi
  | _, _, _, 0, .no h, _, nA, nB, d => ⟨_, .so r h, by
      refine List.nodup_append.mpr ⟨nB, nA, fun a ha b hb e => ?_⟩
      subst e
      exact d a ha hb, fun a m => (List.mem_append.mp m).symm⟩
  | _, _, _, i + 1, .no h, hi, nA, nB, d => by
    obtain ⟨A', h1, h2, h3⟩ := StL.put r (i := i) h (by simpa using hi) nA nB d
    exact ⟨A', .no h1, h2, h3⟩
  | _, _, _, 0, .so (A := A1) (B := A2) _ h, _, nA, nB, d => ⟨_, .so r h, by
      refine List.nodup_append.mpr ⟨nB, (List.nodup_append.mp nA).2.1, fun a ha b hb e => ?_⟩
      subst e
      exact d a ha (List.mem_append_right _ hb), fun a m => (List.mem_append.mp m).elim .inr fun m => .inl (List.mem_append_right _ m)⟩
  | _, _, _, i + 1, .so (A := A1) (B := A2) q h, hi, nA, nB, d => by
    obtain ⟨n1, n2, n3⟩ := List.nodup_append.mp nA
    obtain ⟨A', h1, h2, h3⟩ := StL.put r (i := i) h (by simpa using hi) n2 nB fun a ha hb => d a ha (List.mem_append_right _ hb)
    refine ⟨_, .so q h1, List.nodup_append.mpr ⟨n1, h2, fun a ha b hb e => ?_⟩, fun a m => ?_⟩
    · subst e
      rcases h3 a hb with z | z
      · exact n3 a ha a z rfl
      · exact d a z (List.mem_append_left _ ha)
    · rcases List.mem_append.mp m with m | m
      · exact .inl (List.mem_append_left _ m)
      · exact (h3 a m).imp (List.mem_append_right _) id
/-- a slot's own thing is changed in place -/
theorem StL.at : ∀ {ρ : Slots} {σ : L2.St} {A : List Addr} {i : Nat} {o : O}, StL K Z F H ρ σ A → ρ[i]? = some (some o) → A.Nodup →
    ∃ v B, σ[i]? = some (some v) ∧ RepO K Z F H v o B ∧ B.Nodup ∧ (∀ a ∈ B, a ∈ A) ∧ ∀ {Z' H' : Hp} {v' : V} {o' : O} {B' : List Addr}, Ex Z Z' → (∀ a ∈ A, a ∉ B → ∀ u, H a = some u → H' a = some u) → RepO K Z' F H' v' o' B' → B'.Nodup → (∀ a ∈ B', a ∈ A → a ∈ B) →
      ∃ A', StL K Z' F H' (ρ.set i (some o')) (σ.set i (some v')) A' ∧ A'.Nodup ∧ ∀ a ∈ A', (a ∈ A ∧ a ∉ B) ∨ a ∈ B'
  | _, _, _, _, _, .nil, e, _ => by simp at e
  | _, _, _, 0, _, .no h, e, _ => by simp at e
  | _, _, _, i + 1, _, .no h, e, nA => by
    obtain ⟨v, B, h1, h2, h3, h4, h5⟩ := StL.at (i := i) h (by simpa using e) nA
    refine ⟨v, B, by simpa using h1, h2, h3, h4, fun ez k r n d => ?_⟩
    obtain ⟨A', q1, q2, q3⟩ := h5 ez k r n d
    exact ⟨A', .no q1, q2, q3⟩
  | _, _, _, 0, _, .so (A := A1) (B := A2) q h, e, nA => by
    simp at e
    subst e
    obtain ⟨n1, n2, n3⟩ := List.nodup_append.mp nA
    refine ⟨_, A1, rfl, q, n1, fun a m => List.mem_append_left _ m, fun ez k r n d => ?_⟩
    refine ⟨_, .so r (h.mono ez fun a m => k a (List.mem_append_right _ m) fun z => n3 a z a m rfl), List.nodup_append.mpr ⟨n, n2, fun a ha b hb e => ?_⟩, fun a m => ?_⟩
    · subst e
      exact n3 a (d a ha (List.mem_append_right _ hb)) a hb rfl
    · rcases List.mem_append.mp m with m | m
      · exact .inr m
      · exact .inl ⟨List.mem_append_right _ m, fun z => n3 a z a m rfl⟩
  | _, _, _, i + 1, _, .so (A := A1) (B := A2) q h, e, nA => by
    obtain ⟨n1, n2, n3⟩ := List.nodup_append.mp nA
    obtain ⟨v, B, h1, h2, h3, h4, h5⟩ := StL.at (i := i) h (by simpa using e) n2
    refine ⟨v, B, by simpa using h1, h2, h3, fun a m => List.mem_append_right _ (h4 a m), fun ez k r n d => ?_⟩
    obtain ⟨A', q1, q2, q3⟩ := h5 ez (fun a m nb => k a (List.mem_append_right _ m) nb) r n fun a m z => d a m (List.mem_append_right _ z)
    refine ⟨_, .so (q.mono ez (Ex.refl _) fun a m => k a (List.mem_append_left _ m) fun z => n3 a m a (h4 a z) rfl) q1, List.nodup_append.mpr ⟨n1, q2, fun a ha b hb e => ?_⟩, fun a m => ?_⟩
    · subst e
      rcases q3 a hb with z | z
      · exact n3 a ha a z.1 rfl
      · exact n3 a ha a (h4 a (d a z (List.mem_append_left _ ha))) rfl
    · rcases List.mem_append.mp m with m | m
      · exact .inl ⟨List.mem_append_left _ m, fun z => n3 a m a (h4 a z) rfl⟩
      · exact (q3 a m).imp (fun z => ⟨List.mem_append_right _ z.1, z.2⟩) id

theorem StR.ex (s : StR K ρ Z0 F Z σ H) : Ex Z H := s.gr.zh
theorem StR.grow (s : StR K ρ Z0 F Z σ H) (g : Gr Z H Z' H') : StR K ρ Z0 F Z' σ H' := by
  obtain ⟨A, h1, h2, h3⟩ := s.st
  refine ⟨s.gr.trans g, A, h1.mono g.zz fun a _ u e => g.hh a u e, h2, fun a m => ⟨?_, (h3 a m).2⟩⟩
  obtain ⟨u, e⟩ := h1.there a m
  rw [g.nw a u e]
  exact (h3 a m).1
theorem StR.len (s : StR K ρ Z0 F Z σ H) : σ.length = ρ.length := let ⟨_, h, _⟩ := s.st; h.length
/-- what is new: not there ahead, not frozen -/
def New (H Z' : Hp) (A : List Addr) : Prop := A.Nodup ∧ ∀ a ∈ A, H a = none ∧ Z' a = none
theorem New.nil {H Z' : Hp} : New H Z' [] := ⟨List.nodup_nil, fun _ m => nomatch m⟩
theorem StR.put {v : V} {o : O} {B : List Addr} {i : Nat} (s : StR K ρ Z0 F Z σ H) (g : Gr Z H Z' H') (r : RepO K Z' F H' v o B) (n : New H Z' B) (hi : i < ρ.length) : StR K (ρ.set i (some o)) Z0 F Z' (σ.set i (some v)) H' := by
  have s' := s.grow g
  obtain ⟨A, h1, h2, h3⟩ := s.st
  have m1 : StL K Z' F H' ρ σ A := h1.mono g.zz fun a _ u e => g.hh a u e
  obtain ⟨A', q1, q2, q3⟩ := StL.put r m1 hi h2 n.1 fun a ha hb => by
    obtain ⟨u, e⟩ := h1.there a hb
    rw [(n.2 a ha).1] at e
    cases e
  refine ⟨s'.gr, A', q1, q2, fun a m => ?_⟩
  rcases q3 a m with z | z
  · obtain ⟨u, e⟩ := h1.there a z
    exact ⟨(g.nw a u e).trans (h3 a z).1, (h3 a z).2⟩
  · exact ⟨(n.2 a z).2, s.gr.hh.free (n.2 a z).1⟩
theorem set_same {σ : L2.St} {i : Nat} {v : V} (q : σ[i]? = some (some v)) : σ.set i (some v) = σ := by
  apply List.ext_getElem?
  intro j
  by_cases hj : i = j
  · subst hj
    rw [List.getElem?_set_self (List.getElem?_eq_some_iff.mp q).1, q]
  · rw [List.getElem?_set_ne hj]
/-- a slot's own thing changes -/
theorem StR.upd {i : Nat} {o : O} (s : StR K ρ Z0 F Z σ H) (hi : ρ[i]? = some (some o)) : ∃ v A, σ[i]? = some (some v) ∧ RepO K Z F H v o A ∧ A.Nodup ∧ (∀ a ∈ A, Z a = none ∧ F a = none) ∧
    ∀ {Z' H' : Hp} {o' : O} {A' : List Addr}, Ex Z Z' → (∀ a u, H a = some u → Z' a = Z a) → Ex Z' H' → (∀ a, a ∉ A → ∀ u, H a = some u → H' a = some u) → RepO K Z' F H' v o' A' → A'.Nodup → (∀ a ∈ A', a ∈ A ∨ (H a = none ∧ Z' a = none)) →
      StR K (ρ.set i (some o')) Z0 F Z' σ H' := by
  obtain ⟨A, h1, h2, h3⟩ := s.st
  obtain ⟨v, B, q1, q2, q3, q4, q5⟩ := h1.at hi h2
  refine ⟨v, B, q1, q2, q3, fun a m => h3 a (q4 a m), fun {Z' H' o' A'} ez nz zh k r n d => ?_⟩
  obtain ⟨A2, r1, r2, r3⟩ := q5 (v' := v) ez (fun a _ nb u e => k a nb u e) r n fun a m ma => by
    rcases d a m with z | z
    · exact z
    · obtain ⟨u, e⟩ := h1.there a ma
      rw [z.1] at e
      cases e
  rw [set_same q1] at r1
  have hF : ∀ a u, F a = some u → a ∉ B := fun a u e m => by
    rw [(h3 a (q4 a m)).2] at e
    cases e
  refine ⟨⟨s.gr.zz.trans ez, fun a u e => k a (hF a u e) u (s.gr.hh a u e), zh, fun a u e => (nz a u (s.gr.hh a u e)).trans (s.gr.nw a u e)⟩, A2, r1, r2, fun a m => ?_⟩
  have old : ∀ a ∈ A, Z' a = none ∧ F a = none := fun a m => by
    obtain ⟨u, e⟩ := h1.there a m
    exact ⟨(nz a u e).trans (h3 a m).1, (h3 a m).2⟩
  rcases r3 a m with z | z
  · exact old a z.1
  · rcases d a z with y | y
    · exact old a (q4 a y)
    · exact ⟨y.2, s.gr.hh.free y.1⟩
/-- slots are forgotten -/
inductive Le : Slots → Slots → Prop where
  | nil : Le [] []
  | no {x : Option O} {ρ τ : Slots} : Le ρ τ → Le (x :: ρ) (none :: τ)
  | eq {x : Option O} {ρ τ : Slots} : Le ρ τ → Le (x :: ρ) (x :: τ)
theorem Le.refl : ∀ ρ : Slots, Le ρ ρ
  | [] => .nil
  | _ :: r => .eq (Le.refl r)
theorem StL.le : ∀ {ρ τ : Slots} {σ : L2.St} {A : List Addr}, Le ρ τ → StL K Z F H ρ σ A → A.Nodup → ∃ A', StL K Z F H τ σ A' ∧ A'.Nodup ∧ ∀ a ∈ A', a ∈ A
  | _, _, _, _, .nil, .nil, n => ⟨_, .nil, n, fun _ m => m⟩
  | _, _, _, _, .no l, .no h, n => by
    obtain ⟨A', q1, q2, q3⟩ := StL.le l h n
    exact ⟨A', .no q1, q2, q3⟩
  | _, _, _, _, .no l, .so _ h, n => by
    obtain ⟨A', q1, q2, q3⟩ := StL.le l h (List.nodup_append.mp n).2.1
    exact ⟨A', .no q1, q2, fun a m => List.mem_append_right _ (q3 a m)⟩
  | _, _, _, _, .eq l, .no h, n => by
    obtain ⟨A', q1, q2, q3⟩ := StL.le l h n
    exact ⟨A', .no q1, q2, q3⟩
  | _, _, _, _, .eq l, .so r h, n => by
    obtain ⟨n1, n2, n3⟩ := List.nodup_append.mp n
    obtain ⟨A', q1, q2, q3⟩ := StL.le l h n2
    refine ⟨_, .so r q1, List.nodup_append.mpr ⟨n1, q2, fun a ha b hb => n3 a ha b (q3 b hb)⟩, fun a m => ?_⟩
    rcases List.mem_append.mp m with m | m
    · exact List.mem_append_left _ m
    · exact List.mem_append_right _ (q3 a m)
theorem StR.le {τ : Slots} (s : StR K ρ Z0 F Z σ H) (l : Le ρ τ) : StR K τ Z0 F Z σ H := by
  obtain ⟨A, h1, h2, h3⟩ := s.st
  obtain ⟨A', q1, q2, q3⟩ := h1.le l h2
  exact ⟨s.gr, A', q1, q2, fun a m => h3 a (q3 a m)⟩
end
end M
namespace M
open PySem L2

def wE (X : Cx) (e : Expr) : TE := fun σ H Q => ∀ (pins : List (Addr × Obj)) (s : Shared), Inv X pins σ H s → wpAny (model X.prog X.w) X.A (eval e X.env) (EP X pins σ Q) X.xe s
def wT (X : Cx) (e : Expr) : TT := fun σ H Q => ∀ (pins : List (Addr × Obj)) (s : Shared), Inv X pins σ H s → wpAny (model X.prog X.w) X.A (isTrue e X.env (eval e X.env)) (TP X pins σ Q) X.xe s
def wA (X : Cx) (es : List Expr) : TA := fun σ H Q => ∀ (pos : Pos) (pins : List (Addr × Obj)) (s : Shared), Inv X pins σ H s → wpAny (model X.prog X.w) X.A (spliced (backTo pos (starEach es X.env))) (AP X pins σ Q) X.xe s
def wS1 (X : Cx) (st : Stmt) : TS := fun D σ H => ∀ (pins : List (Addr × Obj)) (s : Shared), Inv X pins σ H s → wpAny (model X.prog X.w) X.A (exec st X.env) (SP X pins D) X.xe s
def wS (X : Cx) (st : List Stmt) : TS := fun D σ H => ∀ (pins : List (Addr × Obj)) (s : Shared), Inv X pins σ H s → wpAny (model X.prog X.w) X.A (execs st X.env) (SP X pins D) X.xe s
section
variable {X : Cx} {e : Expr} {es : List Expr} {st : Stmt} {sts : List Stmt}
theorem pe_w : PE X e (wE X e) := ⟨fun pins s _ _ _ I h => h pins s I⟩
theorem pt_w : PT X e (wT X e) := ⟨fun pins s _ _ _ I h => h pins s I⟩
theorem pa_w : PA X es (wA X es) := ⟨fun pos pins s _ _ _ I h => h pos pins s I⟩
theorem ps_w : PS X st (wS1 X st) := ⟨fun pins s _ _ _ I h => h pins s I⟩
theorem pss_w : PSs X sts (wS X sts) := ⟨fun pins s _ _ _ I h => h pins s I⟩
theorem PE_w {t : TE} (p : PE X e t) {σ : L2.St} {H : Hp} {Q : VK} (h : t σ H Q) : wE X e σ H Q := fun pins s I => p.run pins s σ H Q I h
theorem PT_w {t : TT} (p : PT X e t) {σ : L2.St} {H : Hp} {Q : Bool → Hp → Prop} (h : t σ H Q) : wT X e σ H Q := fun pins s I => p.run pins s σ H Q I h
theorem PA_w {t : TA} (p : PA X es t) {σ : L2.St} {H : Hp} {Q : List V → Hp → Prop} (h : t σ H Q) : wA X es σ H Q := fun pos pins s I => p.run pos pins s σ H Q I h
theorem PS_w {t : TS} (p : PS X st t) {σ : L2.St} {H : Hp} {D : Ends} (h : t D σ H) : wS1 X st D σ H := fun pins s I => p.run pins s σ H D I h
theorem PSs_w {t : TS} (p : PSs X sts t) {σ : L2.St} {H : Hp} {D : Ends} (h : t D σ H) : wS X sts D σ H := fun pins s I => p.run pins s σ H D I h
end

/-- a new thing (or a frozen one) -/
structure ME (X : Cx) (ρ : Slots) (e : Expr) (o : O) : Prop where
  run : ∀ (Z0 F Z : Hp) (σ : L2.St) (H : Hp), StR X.K ρ Z0 F Z σ H → ∀ Q : VK,
  (∀ v Z' H' A, Gr Z H Z' H' → RepO X.K Z' F H' v o A → New H Z' A → Q v H') → wE X e σ H Q
/-- a thing that is looked at -/
structure MV (X : Cx) (ρ : Slots) (e : Expr) (o : O) : Prop where
  run : ∀ (Z0 F Z : Hp) (σ : L2.St) (H : Hp), StR X.K ρ Z0 F Z σ H → ∀ Q : VK,
  (∀ v Z' H' A, Gr Z H Z' H' → RepO X.K Z' F H' v o A → Q v H') → wE X e σ H Q
/-- a list that is looked at -/
structure ML (X : Cx) (ρ : Slots) (e : Expr) (ds : List D) : Prop where
  run : ∀ (Z0 F Z : Hp) (σ : L2.St) (H : Hp), StR X.K ρ Z0 F Z σ H → ∀ Q : VK,
  (∀ a vs Z' H', Gr Z H Z' H' → SqL X.K H' a vs → RepL X.K Z' vs ds → Q (.ref a) H') → wE X e σ H Q
/-- a tuple that is looked at -/
structure MU (X : Cx) (ρ : Slots) (e : Expr) (ds : List D) : Prop where
  run : ∀ (Z0 F Z : Hp) (σ : L2.St) (H : Hp), StR X.K ρ Z0 F Z σ H → ∀ Q : VK,
  (∀ a vs Z' H', Gr Z H Z' H' → SqT X.K H' a vs → RepL X.K Z' vs ds → Q (.ref a) H') → wE X e σ H Q
structure MT (X : Cx) (ρ : Slots) (e : Expr) (b : Bool) : Prop where
  run : ∀ (Z0 F Z : Hp) (σ : L2.St) (H : Hp), StR X.K ρ Z0 F Z σ H → ∀ Q : Bool → Hp → Prop,
  (∀ Z' H', Gr Z H Z' H' → Q b H') → wT X e σ H Q
/-- arguments: frozen things, lists that are looked at -/
structure MA (X : Cx) (ρ : Slots) (es : List Expr) (os : List O) : Prop where
  run : ∀ (Z0 F Z : Hp) (σ : L2.St) (H : Hp), StR X.K ρ Z0 F Z σ H → ∀ Q : List V → Hp → Prop,
  (∀ vs Z' H', Gr Z H Z' H' → RepOL X.K Z' H' H' vs os [] → Q vs H') → wA X es σ H Q
/-- what is handed back: own slots may go with it -/
structure MR (X : Cx) (ρ : Slots) (e : Expr) (o : O) : Prop where
  run : ∀ (Z0 F Z : Hp) (σ : L2.St) (H : Hp), StR X.K ρ Z0 F Z σ H → ∀ Q : VK,
  (∀ v Z' H' A, Gr Z H Z' H' → RepO X.K Z' F H' v o A → A.Nodup → (∀ a ∈ A, Z' a = none ∧ F a = none) → Q v H') → wE X e σ H Q

structure Go where
  nx : Slots → Prop := fun _ => False
  rt : O → Prop := fun _ => False
  bk : Slots → Prop := fun _ => False
  ct : Slots → Prop := fun _ => False
  rs : O → Slots → Prop := fun _ _ => False
/-- the error e is taken -/
def Thrown (K : PySem.W.Frag) (W : WX) (e : Er) (Z : Hp) (σ : L2.St) (H : Hp) : Prop := match e.fld with
  | none => W (.ref e.C) none σ H
  | some (f, d) => ∀ (a : Addr) (v : V), H a = none → Rep K Z v d → W (.ref e.C) (some a) σ (upd H a (.xd [(f, v)]))
/-- the errors r are taken -/
def GX (X : Cx) (Z0 F : Hp) (r : O → Prop) : Prop := ∃ W : WX, Takes X W ∧ ∀ (e : Er) (ρ : Slots) (Z : Hp) (σ : L2.St) (H : Hp), r (.rs e) → StR X.K ρ Z0 F Z σ H → Thrown X.K W e Z σ H
theorem GX.never {X : Cx} {Z0 F : Hp} {r : O → Prop} (n : ∀ e, ¬ r (.rs e)) : GX X Z0 F r := ⟨fun _ _ _ _ => False, fun _ _ ⟨_, _, _, _, _, _, _, _, _, _, _, _, _, _, _, _, w⟩ => w.elim, fun e _ _ _ _ k _ => (n e k).elim⟩
theorem GX.imp {X : Cx} {Z0 F : Hp} {r r' : O → Prop} (g : GX X Z0 F r) (h : ∀ o, r' o → r o) : GX X Z0 F r' := by
  obtain ⟨W, t, k⟩ := g
  exact ⟨W, t, fun e ρ Z σ H q s => k e ρ Z σ H (h _ q) s⟩
structure GD (X : Cx) (Z0 F : Hp) (G : Go) (D : Ends) : Prop where
  nx : ∀ ρ Z σ H, G.nx ρ → StR X.K ρ Z0 F Z σ H → D.nx σ H
  bk : ∀ ρ Z σ H, G.bk ρ → StR X.K ρ Z0 F Z σ H → D.bk σ H
  ct : ∀ ρ Z σ H, G.ct ρ → StR X.K ρ Z0 F Z σ H → D.ct σ H
  rt : ∀ o v Z H A, G.rt o → Gr Z0 F Z H → RepO X.K Z F H v o A → New F Z A → D.rt v H
  rs : ∀ o ρ v Z σ H, G.rs o ρ → StR X.K (ρ ++ [some o]) Z0 F Z (σ ++ [some v]) H → D.rt v H
  ex : GX X Z0 F G.rt
structure MS1 (X : Cx) (ρ : Slots) (st : Stmt) (G : Go) : Prop where
  run : ∀ (Z0 F Z : Hp) (σ : L2.St) (H : Hp) (D : Ends), StR X.K ρ Z0 F Z σ H → GD X Z0 F G D → wS1 X st D σ H
structure MS (X : Cx) (ρ : Slots) (sts : List Stmt) (G : Go) : Prop where
  run : ∀ (Z0 F Z : Hp) (σ : L2.St) (H : Hp) (D : Ends), StR X.K ρ Z0 F Z σ H → GD X Z0 F G D → wS X sts D σ H
/-- then the rest -/
def Go.th (G : Go) (X : Cx) (sts : List Stmt) : Go := { G with nx := fun ρ => MS X ρ sts G }

section
variable {X : Cx} {ρ : Slots} {e : Expr} {es : List Expr} {st : Stmt} {sts : List Stmt} {G : Go} {o : O} {d : D} {ds : List D} {pos : Pos}
theorem ms_nil (h : G.nx ρ) : MS X ρ [] G := .mk fun Z0 F Z σ H D s g => PSs_w pss_nil (g.nx ρ Z σ H h s)
theorem ms_cons (h : MS1 X ρ st (G.th X sts)) : MS X ρ (st :: sts) G := .mk fun Z0 F Z σ H D s g =>
  PSs_w (pss_cons ps_w pss_w) (h.run Z0 F Z σ H _ s ⟨fun ρ' Z' σ' H' m s' => m.run Z0 F Z' σ' H' D s' g, g.bk, g.ct, g.rt, g.rs, g.ex⟩)
theorem ms_one (h : MS1 X ρ st G) : MS X ρ [st] G := .mk fun Z0 F Z σ H D s g => PSs_w (pss_one ps_w) (h.run Z0 F Z σ H _ s g)

theorem ME.v (h : ME X ρ e o) : MV X ρ e o := .mk fun Z0 F Z σ H s Q q => h.run Z0 F Z σ H s Q fun v Z' H' A g r _ => q v Z' H' A g r
theorem MV.em (h : MV X ρ e (.fz d)) : ME X ρ e (.fz d) := .mk fun Z0 F Z σ H s Q q => h.run Z0 F Z σ H s Q fun v Z' H' A g r => by
  cases r with
  | fz r => exact q v Z' H' [] g (.fz r) .nil
theorem ME.r (h : ME X ρ e o) : MR X ρ e o := .mk fun Z0 F Z σ H s Q q => h.run Z0 F Z σ H s Q fun v Z' H' A g r n => q v Z' H' A g r n.1 fun a m => ⟨(n.2 a m).2, s.gr.hh.free (n.2 a m).1⟩
/-- the lists that can be looked at -/
inductive IsLst : O → List D → Prop where
  | fz (ds : List D) : IsLst (.fz (.lst ds)) ds
  | vw (ds : List D) : IsLst (.vw ds) ds
  | vwa (a : Addr) (ds : List D) : IsLst (.vwa a ds) ds
  | own (ds : List D) : IsLst (.lst (ds.map .fz)) ds
inductive IsTp : O → List D → Prop where
  | fz (ds : List D) : IsTp (.fz (.tup ds)) ds
  | own (ds : List D) : IsTp (.tup (ds.map .fz)) ds
theorem MV.l (h : MV X ρ e o) (i : IsLst o ds) : ML X ρ e ds := .mk fun Z0 F Z σ H s Q q => h.run Z0 F Z σ H s Q fun v Z' H' A g r => by
  cases i with
  | fz ds =>
    cases r with
    | fz r =>
      cases r with
      | lst a b => exact q _ _ Z' H' g (ex_l g.zh a) b
  | vw ds =>
    cases r with
    | vw a b => exact q _ _ Z' H' g (ex_l (s.gr.hh.trans g.hh) a) b
  | vwa a ds =>
    cases r with
    | vwa a b => exact q _ _ Z' H' g (ex_l (s.gr.hh.trans g.hh) a) b
  | own ds =>
    cases r with
    | lst a b => exact q _ _ Z' H' g (.of a) (RepOL.fzs b).2
theorem MV.u (h : MV X ρ e o) (i : IsTp o ds) : MU X ρ e ds := .mk fun Z0 F Z σ H s Q q => h.run Z0 F Z σ H s Q fun v Z' H' A g r => by
  cases i with
  | fz ds =>
    cases r with
    | fz r =>
      cases r with
      | tup a b => exact q _ _ Z' H' g (.of (g.zh _ _ a)) b
  | own ds =>
    cases r with
    | tup a b => exact q _ _ Z' H' g (.of a) (RepOL.fzs b).2





/-- a new thing is frozen at once -/
theorem ME.frz (h : ME X ρ e o) (n : o.nv = true) : ME X ρ e (.fz o.frz) := .mk fun Z0 F Z σ H s Q q => h.run Z0 F Z σ H s Q fun v Z' H' A g r w => by
  refine q v (frzAt Z' H' A) H' [] ⟨g.zz.trans (ex_frzAt g.zh), g.hh, frzAt_ex g.zh, fun a u e => ?_⟩ (.fz (r.frz (ex_frzAt g.zh) (fun a m => frzAt_in m) n)) .nil
  have na : a ∉ A := fun m => by
    rw [(w.2 a m).1] at e
    cases e
  rw [frzAt_out na]
  exact g.nw a u e
theorem ME.frzl (h : ME X ρ e (.lst (ds.map .fz))) : ME X ρ e (.fz (.lst ds)) := by
  have q := h.frz (O.nvL_fz ds)
  rw [show (O.lst (ds.map .fz)).frz = .lst ds from congrArg D.lst (O.frzL_fz ds)] at q
  exact q
theorem ME.l (h : ME X ρ e (.lst (ds.map .fz))) : ML X ρ e ds := MV.l h.v (.own ds)

theorem mv_var {i : Nat} {x : Str} (p : PE X (.Name x pos) (tVar i)) (h : ρ[i]? = some (some o)) : MV X ρ (.Name x pos) o := .mk fun Z0 F Z σ H s Q q => by
  obtain ⟨A, h1, h2, h3⟩ := s.st
  obtain ⟨v, B, e, r, _⟩ := h1.get h
  exact PE_w p ⟨v, e, q v Z H B (Gr.refl s.ex) r⟩
theorem me_var {i : Nat} {x : Str} (p : PE X (.Name x pos) (tVar i)) (h : ρ[i]? = some (some (.fz d))) : ME X ρ (.Name x pos) (.fz d) := MV.em (mv_var p h)
/-- a value that is what it is -/
inductive Sc : D → V → Prop where
  | non : Sc .non .non
  | bl (b : Bool) : Sc (.bl b) (.bl b)
  | int (i : Int) : Sc (.int i) (.int i)
  | str (x : Str) : Sc (.str x) (.str x)
  | ty (n : String) : Sc (.ty n) (.ty n)
  | opq (a : Addr) : Sc (.opq a) (.ref a)
theorem Sc.rep {K : PySem.W.Frag} {Z : Hp} {v : V} (h : Sc d v) : Rep K Z v d := by
  cases h <;> constructor
theorem Sc.eq {K : PySem.W.Frag} {Z : Hp} {v w : V} (h : Sc d v) (r : Rep K Z w d) : w = v := by
  cases h <;> cases r <;> rfl
theorem me_c {v : V} (p : PE X e (tC v)) (h : Sc d v) : ME X ρ e (.fz d) := .mk fun Z0 F Z σ H s Q q => PE_w p (q v Z H [] (Gr.refl s.ex) (.fz h.rep) .nil)
theorem me_int {i : Int} {j : Nat} : ME X ρ (.Constant (.int i) j pos) (.fz (.int i)) := me_c pe_int (.int i)
theorem me_bl {b : Bool} {j : Nat} : ME X ρ (.Constant (.bool b) j pos) (.fz (.bl b)) := me_c pe_bl (.bl b)
theorem me_non {j : Nat} : ME X ρ (.Constant .none j pos) (.fz .non) := me_c pe_non .non
theorem me_str {x : Str} {j : Nat} : ME X ρ (.Constant (.str x) j pos) (.fz (.str x)) := me_c pe_str (.str x)

variable {a b : Expr} {d1 d2 d3 : D} {x y z : V}
theorem me_r2 {r : R2} {t : TE} (p : PE X e (tOp r (wE X a) (wE X b))) (ha : ME X ρ a (.fz d1)) (hb : ME X ρ b (.fz d2)) (s1 : Sc d1 x) (s2 : Sc d2 y) (s3 : Sc d3 z) (h : ∀ H (Q : VK), Q z H → r x y H Q) : ME X ρ e (.fz d3) := .mk fun Z0 F Z σ H s Q q => by
  refine PE_w p (ha.run Z0 F Z σ H s _ fun v Z1 H1 A1 g1 r1 n1 => ?_)
  refine hb.run Z0 F Z1 σ H1 (s.grow g1) _ fun w Z2 H2 A2 g2 r2 n2 => ?_
  cases r1 with
  | fz r1 =>
    cases r2 with
    | fz r2 =>
      rw [s1.eq r1, s2.eq r2]
      exact h H2 Q (q z Z2 H2 [] (g1.trans g2) (.fz s3.rep) .nil)
theorem me_op {op : Operator} {r : R2} (ho : OpR X (binaryOp op) r) (ha : ME X ρ a (.fz d1)) (hb : ME X ρ b (.fz d2)) (s1 : Sc d1 x) (s2 : Sc d2 y) (s3 : Sc d3 z) (h : ∀ H (Q : VK), Q z H → r x y H Q) : ME X ρ (.BinOp a op b pos) (.fz d3) :=
  me_r2 (t := tOp r (wE X a) (wE X b)) (pe_op ho pe_w pe_w) ha hb s1 s2 s3 h
variable {i j : Int}
theorem me_add (ha : ME X ρ a (.fz (.int i))) (hb : ME X ρ b (.fz (.int j))) : ME X ρ (.BinOp a .Add b pos) (.fz (.int (i + j))) := me_op op_add ha hb (.int i) (.int j) (.int _) fun _ _ q => ⟨i, j, rfl, rfl, q⟩
theorem me_mul (ha : ME X ρ a (.fz (.int i))) (hb : ME X ρ b (.fz (.int j))) (c : CMul i j := by first | exact Or.inr (by decide) | exact Or.inl (by decide)) : ME X ρ (.BinOp a .Mult b pos) (.fz (.int (i * j))) := me_op op_mul ha hb (.int i) (.int j) (.int _) fun _ _ q => ⟨i, j, rfl, rfl, c, q⟩
theorem me_fdiv (ha : ME X ρ a (.fz (.int i))) (hb : ME X ρ b (.fz (.int j))) (c : CDiv i j := by exact ⟨by decide, by decide⟩) : ME X ρ (.BinOp a .FloorDiv b pos) (.fz (.int (i / j))) := me_op op_fdiv ha hb (.int i) (.int j) (.int _) fun _ _ q => ⟨i, j, rfl, rfl, c, q⟩
theorem me_mod (ha : ME X ρ a (.fz (.int i))) (hb : ME X ρ b (.fz (.int j))) (c : 0 < j := by decide) : ME X ρ (.BinOp a .Mod b pos) (.fz (.int (i % j))) := me_op op_mod ha hb (.int i) (.int j) (.int _) fun _ _ q => ⟨i, j, rfl, rfl, c, q⟩
theorem me_pow (ha : ME X ρ a (.fz (.int i))) (hb : ME X ρ b (.fz (.int j))) (c : CPow i j := by exact ⟨by decide, by decide, by decide⟩) : ME X ρ (.BinOp a .Pow b pos) (.fz (.int (i ^ j.toNat))) := me_op op_pow ha hb (.int i) (.int j) (.int _) fun _ _ q => ⟨i, j, rfl, rfl, c, q⟩
variable {p q : Str}
theorem me_cat (ha : ME X ρ a (.fz (.str p))) (hb : ME X ρ b (.fz (.str q))) (c : p.length + q.length ≤ sizeLine) : ME X ρ (.BinOp a .Add b pos) (.fz (.str (p ++ q))) := me_op op_add_str ha hb (.str p) (.str q) (.str _) fun _ _ k => ⟨p, q, rfl, rfl, c, k⟩
theorem me_neg (ha : ME X ρ a (.fz (.int i))) : ME X ρ (.UnaryOp .USub a pos) (.fz (.int (-i))) := .mk fun Z0 F Z σ H s Q q => by
  refine PE_w (pe_un un_neg pe_w) (ha.run Z0 F Z σ H s _ fun v Z1 H1 A1 g1 r1 n1 => ?_)
  cases r1 with
  | fz r1 =>
    cases r1
    exact ⟨i, rfl, q _ Z1 H1 [] g1 (.fz (.int _)) .nil⟩

theorem me_cmp {op : CmpOp} {r : R2} {k : Bool} (ho : OpR X (compareOp op) r) (ha : ME X ρ a (.fz d1)) (hb : ME X ρ b (.fz d2)) (s1 : Sc d1 x) (s2 : Sc d2 y) (h : ∀ H (Q : VK), Q (.bl k) H → r x y H Q) (hm : behindInMarks op b = false) : ME X ρ (.Compare a [op] [b] pos) (.fz (.bl k)) :=
  me_r2 (t := tOp r (wE X a) (wE X b)) (pe_cmpR ho pe_w pe_w hm) ha hb s1 s2 (.bl k) h
theorem mt_cmp {op : CmpOp} {r : R2} {k : Bool} (ho : OpR X (compareOp op) r) (ha : ME X ρ a (.fz d1)) (hb : ME X ρ b (.fz d2)) (s1 : Sc d1 x) (s2 : Sc d2 y) (h : ∀ H (Q : VK), Q (.bl k) H → r x y H Q) (hm : behindInMarks op b = false) : MT X ρ (.Compare a [op] [b] pos) k := .mk fun Z0 F Z σ H s Q q => by
  refine PT_w (pt_cmpR ho pe_w pe_w hm) (ha.run Z0 F Z σ H s _ fun v Z1 H1 A1 g1 r1 n1 => ?_)
  refine hb.run Z0 F Z1 σ H1 (s.grow g1) _ fun w Z2 H2 A2 g2 r2 n2 => ?_
  cases r1 with
  | fz r1 =>
    cases r2 with
    | fz r2 =>
      rw [s1.eq r1, s2.eq r2]
      exact h H2 _ ⟨k, rfl, q Z2 H2 (g1.trans g2)⟩
theorem me_lt (ha : ME X ρ a (.fz (.int i))) (hb : ME X ρ b (.fz (.int j))) : ME X ρ (.Compare a [.Lt] [b] pos) (.fz (.bl (decide (i < j)))) := me_cmp op_lt ha hb (.int i) (.int j) (fun _ _ k => ⟨i, j, rfl, rfl, k⟩) (nomark _)
theorem mt_lt (ha : ME X ρ a (.fz (.int i))) (hb : ME X ρ b (.fz (.int j))) : MT X ρ (.Compare a [.Lt] [b] pos) (decide (i < j)) := mt_cmp op_lt ha hb (.int i) (.int j) (fun _ _ k => ⟨i, j, rfl, rfl, k⟩) (nomark _)
theorem mt_gt (ha : ME X ρ a (.fz (.int i))) (hb : ME X ρ b (.fz (.int j))) : MT X ρ (.Compare a [.Gt] [b] pos) (decide (j < i)) := mt_cmp op_gt ha hb (.int i) (.int j) (fun _ _ k => ⟨i, j, rfl, rfl, k⟩) (nomark _)
theorem me_ge (ha : ME X ρ a (.fz (.int i))) (hb : ME X ρ b (.fz (.int j))) : ME X ρ (.Compare a [.GtE] [b] pos) (.fz (.bl (decide (j ≤ i)))) := me_cmp op_ge ha hb (.int i) (.int j) (fun _ _ k => ⟨i, j, rfl, rfl, k⟩) (nomark _)
theorem me_eqI (ha : ME X ρ a (.fz (.int i))) (hb : ME X ρ b (.fz (.int j))) : ME X ρ (.Compare a [.Eq] [b] pos) (.fz (.bl (i == j))) := me_cmp op_eq ha hb (.int i) (.int j) (fun _ _ k => ⟨rfl, by rw [dec_int]; exact k⟩) (nomark _)
theorem mt_eqI (ha : ME X ρ a (.fz (.int i))) (hb : ME X ρ b (.fz (.int j))) : MT X ρ (.Compare a [.Eq] [b] pos) (i == j) := mt_cmp op_eq ha hb (.int i) (.int j) (fun _ _ k => ⟨rfl, by rw [dec_int]; exact k⟩) (nomark _)
theorem mt_neI (ha : ME X ρ a (.fz (.int i))) (hb : ME X ρ b (.fz (.int j))) : MT X ρ (.Compare a [.NotEq] [b] pos) (!(i == j)) := mt_cmp op_ne ha hb (.int i) (.int j) (fun _ _ k => ⟨rfl, by rw [dec_int]; exact k⟩) (nomark _)
theorem mt_eqS (ha : ME X ρ a (.fz (.str p))) (hb : ME X ρ b (.fz (.str q))) : MT X ρ (.Compare a [.Eq] [b] pos) (p == q) := mt_cmp op_eq ha hb (.str p) (.str q) (fun _ _ k => ⟨rfl, by rw [dec_str]; exact k⟩) (nomark _)
theorem mt_neS (ha : ME X ρ a (.fz (.str p))) (hb : ME X ρ b (.fz (.str q))) : MT X ρ (.Compare a [.NotEq] [b] pos) (!(p == q)) := mt_cmp op_ne ha hb (.str p) (.str q) (fun _ _ k => ⟨rfl, by rw [dec_str]; exact k⟩) (nomark _)

/-- a value that is a bool, as a test -/
theorem mt_val {k : Bool} (ha : ME X ρ e (.fz (.bl k))) (he : ∀ whole, isTrue e X.env whole = (do let v ← whole; standAt e.pos; holding [v] (truthy v)) := by intro _; rfl) : MT X ρ e k := .mk fun Z0 F Z σ H s Q q => by
  refine PT_w (pt_val pe_w he) (ha.run Z0 F Z σ H s _ fun v Z1 H1 A1 g1 r1 n1 => ?_)
  cases r1 with
  | fz r1 =>
    cases r1
    exact ⟨k, rfl, q Z1 H1 g1⟩

def wW (X : Cx) (e : Expr) : TT := fun σ H Q => ∀ (whole : Sem Value) (pins : List (Addr × Obj)) (s : Shared), Inv X pins σ H s → wpAny (model X.prog X.w) X.A (isTrue e X.env whole) (TP X pins σ Q) X.xe s
theorem pw_w : PW X e (wW X e) := ⟨fun whole pins s _ _ _ I h => h whole pins s I⟩
theorem PW_w {t : TT} (p : PW X e t) {σ : L2.St} {H : Hp} {Q : Bool → Hp → Prop} (h : t σ H Q) : wW X e σ H Q := fun whole pins s I => p.run whole pins s σ H Q I h
structure MW (X : Cx) (ρ : Slots) (e : Expr) (b : Bool) : Prop where
  run : ∀ (Z0 F Z : Hp) (σ : L2.St) (H : Hp), StR X.K ρ Z0 F Z σ H → ∀ Q : Bool → Hp → Prop,
  (∀ Z' H', Gr Z H Z' H' → Q b H') → wW X e σ H Q
variable {k l : Bool} {rest : List Expr}
theorem MW.t (h : MW X ρ e k) : MT X ρ e k := .mk fun Z0 F Z σ H s Q q => PT_w (PW.pt pw_w) (h.run Z0 F Z σ H s Q q)
theorem mw_and1 (h : MT X ρ a k) : MW X ρ (.BoolOp .And [a] pos) k := .mk fun Z0 F Z σ H s Q q => PW_w (pw_and1 pt_w) (h.run Z0 F Z σ H s Q q)
theorem mw_or1 (h : MT X ρ a k) : MW X ρ (.BoolOp .Or [a] pos) k := .mk fun Z0 F Z σ H s Q q => PW_w (pw_or1 pt_w) (h.run Z0 F Z σ H s Q q)
theorem mw_and (h : MT X ρ a k) (h2 : k = true → MW X ρ (.BoolOp .And (b :: rest) pos) l) : MW X ρ (.BoolOp .And (a :: b :: rest) pos) (k && l) := .mk fun Z0 F Z σ H s Q q =>
  PW_w (pw_and pt_w pw_w) (h.run Z0 F Z σ H s _ fun Z1 H1 g1 => by
    cases k with
    | true => exact (h2 rfl).run Z0 F Z1 σ H1 (s.grow g1) Q fun Z2 H2 g2 => q Z2 H2 (g1.trans g2)
    | false => exact q Z1 H1 g1)
theorem mw_or (h : MT X ρ a k) (h2 : k = false → MW X ρ (.BoolOp .Or (b :: rest) pos) l) : MW X ρ (.BoolOp .Or (a :: b :: rest) pos) (k || l) := .mk fun Z0 F Z σ H s Q q =>
  PW_w (pw_or pt_w pw_w) (h.run Z0 F Z σ H s _ fun Z1 H1 g1 => by
    cases k with
    | true => exact q Z1 H1 g1
    | false => exact (h2 rfl).run Z0 F Z1 σ H1 (s.grow g1) Q fun Z2 H2 g2 => q Z2 H2 (g1.trans g2))
theorem mt_not (h : MT X ρ a k) : MT X ρ (.UnaryOp .Not a pos) (!k) := .mk fun Z0 F Z σ H s Q q => PT_w (pt_not pt_w) (h.run Z0 F Z σ H s _ fun Z1 H1 g1 => q Z1 H1 g1)
theorem me_one {op : BoolOp} (h : ME X ρ a o) : ME X ρ (.BoolOp op [a] pos) o := .mk fun Z0 F Z σ H s Q q => PE_w (pe_one pe_w) (h.run Z0 F Z σ H s Q q)
theorem me_and (h : ME X ρ a (.fz (.bl k))) (h2 : k = true → ME X ρ (.BoolOp .And (b :: rest) pos) (.fz (.bl l))) : ME X ρ (.BoolOp .And (a :: b :: rest) pos) (.fz (.bl (k && l))) := .mk fun Z0 F Z σ H s Q q =>
  PE_w (pe_and pe_w pe_w) (h.run Z0 F Z σ H s _ fun v Z1 H1 A1 g1 r1 n1 => by
    cases r1 with
    | fz r1 =>
      cases r1
      refine ⟨k, rfl, ?_⟩
      cases k with
      | true =>
        refine (h2 rfl).run Z0 F Z1 σ H1 (s.grow g1) Q fun w Z2 H2 A2 g2 r2 n2 => ?_
        cases r2 with
        | fz r2 => exact q w Z2 H2 [] (g1.trans g2) (.fz r2) .nil
      | false => exact q _ Z1 H1 [] g1 (.fz (.bl false)) .nil)
theorem me_not (h : ME X ρ a (.fz (.bl k))) : ME X ρ (.UnaryOp .Not a pos) (.fz (.bl (!k))) := .mk fun Z0 F Z σ H s Q q =>
  PE_w (pe_not pe_w) (h.run Z0 F Z σ H s _ fun v Z1 H1 A1 g1 r1 n1 => by
    cases r1 with
    | fz r1 =>
      cases r1
      exact ⟨k, rfl, q _ Z1 H1 [] g1 (.fz (.bl _)) .nil⟩)
/-- not starred -/
abbrev NS (X : Cx) (e : Expr) : Prop := ∀ es, starEach (e :: es) X.env = (false, eval e X.env) :: starEach es X.env
/-- frozen things -/
structure MF (X : Cx) (ρ : Slots) (es : List Expr) (ds : List D) : Prop where
  run : ∀ (Z0 F Z : Hp) (σ : L2.St) (H : Hp), StR X.K ρ Z0 F Z σ H → ∀ Q : List V → Hp → Prop,
  (∀ vs Z' H', Gr Z H Z' H' → RepL X.K Z' vs ds → Q vs H') → wA X es σ H Q
theorem mf_nil : MF X ρ [] [] := .mk fun Z0 F Z σ H s Q q => PA_w pa_nil (q [] Z H (Gr.refl s.ex) .nil)
theorem mf_cons (h : ME X ρ e (.fz d)) (h2 : MF X ρ es ds) (hs : starEach (e :: es) X.env = (false, eval e X.env) :: starEach es X.env := by rfl) : MF X ρ (e :: es) (d :: ds) := .mk fun Z0 F Z σ H s Q q =>
  PA_w (pa_cons pe_w pa_w hs) (h.run Z0 F Z σ H s _ fun v Z1 H1 A1 g1 r1 n1 => by
    cases r1 with
    | fz r1 => exact h2.run Z0 F Z1 σ H1 (s.grow g1) _ fun vs Z2 H2 g2 r2 => q _ Z2 H2 (g1.trans g2) (.cons (r1.mono g2.zz) r2))
theorem ma_nil : MA X ρ [] [] := .mk fun Z0 F Z σ H s Q q => PA_w pa_nil (q [] Z H (Gr.refl s.ex) .nil)
theorem ma_fz {os : List O} (h : ME X ρ e (.fz d)) (h2 : MA X ρ es os) (hs : starEach (e :: es) X.env = (false, eval e X.env) :: starEach es X.env := by rfl) : MA X ρ (e :: es) (.fz d :: os) := .mk fun Z0 F Z σ H s Q q =>
  PA_w (pa_cons pe_w pa_w hs) (h.run Z0 F Z σ H s _ fun v Z1 H1 A1 g1 r1 n1 => by
    cases r1 with
    | fz r1 => exact h2.run Z0 F Z1 σ H1 (s.grow g1) _ fun vs Z2 H2 g2 r2 => q _ Z2 H2 (g1.trans g2) (.cons (A := []) (B := []) (.fz (r1.mono g2.zz)) r2))
theorem ma_vw {os : List O} (h : ML X ρ e ds) (h2 : MA X ρ es os) (hs : starEach (e :: es) X.env = (false, eval e X.env) :: starEach es X.env := by rfl) : MA X ρ (e :: es) (.vw ds :: os) := .mk fun Z0 F Z σ H s Q q =>
  PA_w (pa_cons pe_w pa_w hs) (h.run Z0 F Z σ H s _ fun a vs Z1 H1 g1 l1 r1 =>
    h2.run Z0 F Z1 σ H1 (s.grow g1) _ fun ws Z2 H2 g2 r2 => q _ Z2 H2 (g1.trans g2) (.cons (A := []) (B := []) (.vw (ex_l g2.hh l1) (r1.mono g2.zz)) r2))
theorem new_one {H Z : Hp} {p : Addr} (h : H p = none) (h2 : Z p = none) : New H Z [p] := ⟨List.nodup_cons.mpr ⟨(fun m => nomatch m), List.nodup_nil⟩, fun a m => by
  cases List.mem_singleton.mp m
  exact ⟨h, h2⟩⟩
theorem me_tup {n : Nat} (h : MF X ρ es ds) (hl : ds.length ≤ 1000 := by first | decide | (simp; done)) : ME X ρ (.Tuple es n pos) (.fz (.tup ds)) := .mk fun Z0 F Z σ H s Q q =>
  PE_w (pe_tup pa_w) (h.run Z0 F Z σ H s _ fun vs Z1 H1 g1 r1 => ⟨(by rw [r1.length]; exact Nat.le_of_lt (small1000 hl)), fun p hp => by
    exact q _ (upd Z1 p (.tup vs)) _ [] (g1.trans (Gr.newz g1.zh hp)) (.fz (.tup upd_same (r1.mono (Ex.new (g1.zh.free hp))))) .nil⟩)
theorem me_lst (h : MF X ρ es ds) (hl : ds.length ≤ 1000 := by first | decide | (simp; done)) : ME X ρ (.List es pos) (.lst (ds.map .fz)) := .mk fun Z0 F Z σ H s Q q =>
  PE_w (pe_lst pa_w) (h.run Z0 F Z σ H s _ fun vs Z1 H1 g1 r1 => ⟨(by rw [r1.length]; exact Nat.le_of_lt (small1000 hl)), fun p hp => by
    refine q _ Z1 _ [p] (g1.trans (Gr.new g1.zh hp)) (.lst upd_same r1.own) (new_one (g1.hh.free hp) (g1.zh.free hp))⟩)

theorem RepL.atI {K : PySem.W.Frag} {Z : Hp} {vs : List V} {ds : List D} {i : Int} {d : D} (r : RepL K Z vs ds) (h : L2.atI ds i = some d) : ∃ v, L2.atI vs i = some v ∧ Rep K Z v d := by
  unfold L2.atI at h ⊢
  rw [r.length]
  cases e : ixN ds.length i with
  | none =>
    rw [e] at h
    cases h
  | some n =>
    rw [e] at h
    exact r.get h
theorem me_ixL (ha : ML X ρ a ds) (hb : ME X ρ b (.fz (.int i))) (h : L2.atI ds i = some d) (hp : PlainIx b := by exact fun _ _ => rfl) : ME X ρ (.Subscript a b pos) (.fz d) := .mk fun Z0 F Z σ H s Q q =>
  PE_w (pe_ix ix_list pe_w pe_w hp) (ha.run Z0 F Z σ H s _ fun l vs Z1 H1 g1 l1 r1 => hb.run Z0 F Z1 σ H1 (s.grow g1) _ fun w Z2 H2 A2 g2 r2 n2 => by
    cases r2 with
    | fz r2 =>
      cases r2
      obtain ⟨v, e, rv⟩ := (r1.mono g2.zz).atI h
      exact ⟨l, vs, i, v, rfl, rfl, ex_l g2.hh l1, e, q v Z2 H2 [] (g1.trans g2) (.fz rv) .nil⟩)
theorem me_ixS {c : Nat} (ha : ME X ρ a (.fz (.str p))) (hb : ME X ρ b (.fz (.int i))) (hl : p.length ≤ sizeLine) (h : L2.atI p.cps.toList i = some c) (hp : PlainIx b := by exact fun _ _ => rfl) : ME X ρ (.Subscript a b pos) (.fz (.str ⟨#[c]⟩)) :=
  me_r2 (t := tOp rIxS (wE X a) (wE X b)) (pe_ix ix_str pe_w pe_w hp) ha hb (.str p) (.int i) (.str _) fun _ _ k => ⟨p, i, c, rfl, rfl, hl, h, k⟩
theorem RepOL.get {K : PySem.W.Frag} {Z F H : Hp} : ∀ {vs : List V} {os : List O} {A : List Addr} {i : Nat} {o : O}, RepOL K Z F H vs os A → os[i]? = some o → ∃ v B, vs[i]? = some v ∧ RepO K Z F H v o B
  | _, _, _, _, _, .nil, e => by simp at e
  | _, _, _, 0, _, .cons h _, e => by
    simp at e
    subst e
    exact ⟨_, _, rfl, h⟩
  | _, _, _, i + 1, _, .cons _ r, e => by
    obtain ⟨v, B, h1, h2⟩ := RepOL.get (i := i) r (by simpa using e)
    exact ⟨v, B, by simpa using h1, h2⟩
theorem RepOL.length {K : PySem.W.Frag} {Z F H : Hp} : ∀ {vs : List V} {os : List O} {A : List Addr}, RepOL K Z F H vs os A → vs.length = os.length
  | _, _, _, .nil => rfl
  | _, _, _, .cons _ r => congrArg (· + 1) r.length
theorem RepOL.atI {K : PySem.W.Frag} {Z F H : Hp} {vs : List V} {os : List O} {A : List Addr} {i : Int} {o : O} (r : RepOL K Z F H vs os A) (h : L2.atI os i = some o) : ∃ v B, L2.atI vs i = some v ∧ RepO K Z F H v o B := by
  unfold L2.atI at h ⊢
  rw [r.length]
  cases e : ixN os.length i with
  | none =>
    rw [e] at h
    cases h
  | some n =>
    rw [e] at h
    exact r.get h
variable {nm T id : Str} {p0 p1 p2 : Pos}
theorem me_len (hg : Gl X "len") (hm : X.mg "len" = none) (ha : ML X ρ a ds) (n1 : NS X a := by exact fun _ => rfl) : ME X ρ (.Call (.Name "len" p0) [a] [] pos) (.fz (.int (ds.length : Int))) := .mk fun Z0 F Z σ H s Q q =>
  PE_w (pe_callB call_len_seq hg hm boot_len (pa_cons pe_w pa_nil (n1 _)) (he := n1 _)) (ha.run Z0 F Z σ H s _ fun l vs Z1 H1 g1 l1 r1 => ⟨l, vs, rfl, .inl l1, by rw [r1.length]; exact q _ Z1 H1 [] g1 (.fz (.int _)) .nil⟩)
theorem me_lenS (hg : Gl X "len") (hm : X.mg "len" = none) (ha : ME X ρ a (.fz (.str p))) (hl : p.length ≤ sizeLine) (n1 : NS X a := by exact fun _ => rfl) : ME X ρ (.Call (.Name "len" p0) [a] [] pos) (.fz (.int (p.length : Int))) := .mk fun Z0 F Z σ H s Q q =>
  PE_w (pe_callB call_len_str hg hm boot_len (pa_cons pe_w pa_nil (n1 _)) (he := n1 _)) (ha.run Z0 F Z σ H s _ fun v Z1 H1 A g1 r1 n1 => by
    cases r1 with
    | fz r1 =>
      cases r1
      exact ⟨p, rfl, hl, q _ Z1 H1 [] g1 (.fz (.int _)) .nil⟩)
inductive MO (X : Cx) (ρ : Slots) : Option Expr → Option Int → Prop where
  | none : MO X ρ none none
  | some {e : Expr} {i : Int} (h : ME X ρ e (.fz (.int i))) : MO X ρ (some e) (some i)
theorem MO.run {eo : Option Expr} {io : Option Int} (h : MO X ρ eo io) : ∃ t, PO X eo t ∧ ∀ (Z0 F Z : Hp) (σ : L2.St) (H : Hp), StR X.K ρ Z0 F Z σ H → ∀ Q : Option Int → Hp → Prop, (∀ Z' H', Gr Z H Z' H' → Q io H') → t σ H Q := by
  cases h with
  | none => exact ⟨_, po_none, fun Z0 F Z σ H s Q q => q Z H (Gr.refl s.ex)⟩
  | @some e i h => exact ⟨_, po_some pe_w, fun Z0 F Z σ H s Q q => h.run Z0 F Z σ H s _ fun v Z1 H1 A1 g1 r1 n1 => by
      cases r1 with
      | fz r1 =>
        cases r1
        exact ⟨i, rfl, q Z1 H1 g1⟩⟩
def cutG {α : Type} (xs : List α) (lo hi : Option Int) : List α := (xs.drop (HT.sIx xs.length 0 lo)).take (HT.sIx xs.length xs.length hi - HT.sIx xs.length 0 lo)
theorem RepL.cut {K : PySem.W.Frag} {Z : Hp} {vs : List V} {ds : List D} (r : RepL K Z vs ds) (lo hi : Option Int) : RepL K Z (cutV vs lo hi) (cutG ds lo hi) := by
  unfold cutV cutG
  rw [r.length]
  exact (r.drop _).take _
def D.tyN : D → Option String
  | .non => some "NoneType"
  | .bl _ => some "bool"
  | .int _ => some "int"
  | .str _ => some "str"
  | .tup _ => some "tuple"
  | .lst _ => some "list"
  | .dct _ _ => some "dict"
  | .dctT _ _ => some "dict"
  | _ => none
def O.tyN : O → Option String
  | .fz d => d.tyN
  | .vw _ => some "list"
  | .vwa _ _ => some "list"
  | .lk o => o.tyN
  | .lst _ => some "list"
  | .tup _ => some "tuple"
  | .dct _ _ => some "dict"
  | .dctT _ _ => some "dict"
  | .ins _ _ _ => none
  | .at _ _ _ _ => none
  | .loc _ o => o.tyN
  | .pt _ => none
  | .rs _ => none
theorem sql_ty {K : PySem.W.Frag} {H : Hp} {l : Addr} {vs : List V} (h : SqL K H l vs) : TyX K H (.ref l) (.type "list") := by
  rcases h with (h | ⟨o, h⟩) | ⟨o, its, n, h, c, _⟩
  · exact .base (.lst h)
  · exact .base (.frz h)
  · exact .kList h c
theorem sqt_ty {K : PySem.W.Frag} {H : Hp} {l : Addr} {vs : List V} (h : SqT K H l vs) : TyX K H (.ref l) (.type "tuple") := by
  rcases h with (h | ⟨o, h⟩) | ⟨o, its, n, h, c, _⟩
  · exact .base (.tup h)
  · exact .fTuple h
  · exact .kTuple h c
theorem Rep.ty' {K : PySem.W.Frag} {Z H : Hp} {v : V} {d : D} {t : String} (e : Ex Z H) (r : Rep K Z v d) (h : d.tyN = some t) : TyX K H v (.type t) := by
  cases r with
  | non => cases h; exact .base .non
  | bl b => cases h; exact .base (.bl b)
  | int i => cases h; exact .base (.int i)
  | str x => cases h; exact .base (.str x)
  | ty n => cases h
  | opq a => cases h
  | exc a b => cases h
  | hx a => cases h
  | tup a b => cases h; exact sqt_ty (.of (e _ _ a))
  | lst a b => cases h; exact sql_ty (ex_l e a)
  | ins a b => cases h
  | dct a b => cases h; exact .base (.dK (e _ _ a))
  | dctT a b => cases h; exact .base (.dT (e _ _ a))
theorem RepK.ty' {K : PySem.W.Frag} {Z F H : Hp} {t : String} (e : Ex Z H) (f : Ex F H) : ∀ {v : V} {o : O}, RepK K Z F v o → o.tyN = some t → TyX K H v (.type t)
  | _, _, .fz r, h => r.ty' e h
  | _, _, .vw a b, h => by cases h; exact sql_ty (ex_l f a)
  | _, _, .vwa a b, h => by cases h; exact sql_ty (ex_l f a)
  | _, .lk o, .lk r, h => RepK.ty' (o := o) e f r h
  | _, _, .lst a b, h => by cases h; exact .base (.lst (f _ _ a))
  | _, _, .tup a b, h => by cases h; exact .base (.tup (f _ _ a))
  | _, _, .ins a b, h => by cases h
  | _, _, .at a b, h => by cases h
  | _, _, .dct a b, h => by cases h; exact .base (.dK (f _ _ a))
  | _, _, .dctT a b, h => by cases h; exact .base (.dT (f _ _ a))
  | _, .loc _ o, .loc r, h => RepK.ty' (o := o) e f r h
  | _, _, .pt, h => by cases h
theorem RepO.ty' {K : PySem.W.Frag} {Z F H : Hp} {t : String} (e : Ex Z H) (f : Ex F H) : ∀ {v : V} {o : O} {A : List Addr}, RepO K Z F H v o A → o.tyN = some t → TyX K H v (.type t)
  | _, _, _, .fz r, h => r.ty' e h
  | _, _, _, .vw a b, h => by cases h; exact sql_ty (ex_l f a)
  | _, _, _, .vwa a b, h => by cases h; exact sql_ty (ex_l f a)
  | _, .lk o, _, .lk r, h => RepK.ty' (o := o) e f r h
  | _, _, _, .lst a b, h => by cases h; exact .base (.lst a)
  | _, _, _, .tup a b, h => by cases h; exact .base (.tup a)
  | _, _, _, .ins a b, h => by cases h
  | _, _, _, .at a b, h => by cases h
  | _, _, _, .dct a b, h => by cases h; exact .base (.dK a)
  | _, _, _, .dctT a b, h => by cases h; exact .base (.dT a)
  | _, _, _, .loc r, h => RepO.ty' e f r h
  | _, _, _, .pt, h => by cases h
theorem me_isi {T t : String} {TS : Str} {k : Bool} (hg : Gl X "isinstance") (hm : X.mg "isinstance" = none) (hT : PE X (.Name TS p1) (tC (.ty T))) (ha : MV X ρ a o) (ht : o.tyN = some t) (hk : kitB t T = some k) (n1 : NS X a := by exact fun _ => rfl) :
    ME X ρ (.Call (.Name "isinstance" p0) [a, .Name TS p1] [] pos) (.fz (.bl k)) := .mk fun Z0 F Z σ H s Q q =>
  PE_w (pe_callB call_isi hg hm (by decide +kernel) (pa_cons pe_w (pa_cons hT pa_nil) (n1 _)) (he := n1 _)) (ha.run Z0 F Z σ H s _ fun v Z1 H1 A1 g1 r1 =>
    ⟨v, .ty T, .type t, .type T, k, rfl, .ty T, r1.ty' g1.zh (s.gr.hh.trans g1.hh) ht, kit_ty hk, q _ Z1 H1 [] g1 (.fz (.bl k)) .nil⟩)
end
end M
namespace M
open PySem L2

section
variable {X : Cx} {ρ : Slots} {e : Expr} {es : List Expr} {st : Stmt} {sts : List Stmt} {G : Go} {o : O} {d : D} {ds : List D} {pos : Pos} {i : Nat}

theorem m_set (p : PS X st (tAsg (wE X e) (gName i))) (h : ME X ρ e o) (k : G.nx (ρ.set i (some o))) (hi : i < ρ.length := by exact Nat.le_of_ble_eq_true rfl) : MS1 X ρ st G := .mk fun Z0 F Z σ H D s g =>
  PS_w p (h.run Z0 F Z σ H s _ fun v Z1 H1 A g1 r n => g.nx _ Z1 _ H1 k (s.put g1 r n hi))
theorem m_expr (p : PS X st (tDrop (wE X e))) (h : ME X ρ e o) (k : G.nx ρ) : MS1 X ρ st G := .mk fun Z0 F Z σ H D s g =>
  PS_w p (h.run Z0 F Z σ H s _ fun v Z1 H1 A g1 r n => g.nx _ Z1 _ H1 k (s.grow g1))
theorem m_ret (p : PS X st (tRet (wE X e))) (h : MR X ρ e o) (k : G.rt o) : MS1 X ρ st G := .mk fun Z0 F Z σ H D s g =>
  PS_w p (h.run Z0 F Z σ H s _ fun v Z1 H1 A g1 r n d => g.rt o v Z1 H1 A k (s.gr.trans g1) r ⟨n, fun a m => ⟨(d a m).2, (d a m).1⟩⟩)
theorem m_if {c : Expr} {a b : List Stmt} {t : Bool} (hc : MT X ρ c t) (h1 : t = true → MS X ρ a G) (h2 : t = false → MS X ρ b G) : MS1 X ρ (.If c a b pos) G := .mk fun Z0 F Z σ H D s g =>
  PS_w (ps_if pt_w pss_w pss_w) (hc.run Z0 F Z σ H s _ fun Z1 H1 g1 => by
    cases t with
    | true => exact (h1 rfl).run Z0 F Z1 σ H1 D (s.grow g1) g
    | false => exact (h2 rfl).run Z0 F Z1 σ H1 D (s.grow g1) g)
theorem ms_le {τ : Slots} (l : Le ρ τ) (h : MS X τ sts G) : MS X ρ sts G := .mk fun Z0 F Z σ H D s g => h.run Z0 F Z σ H D (s.le l) g
theorem Go.le {τ : Slots} (h : MS X τ sts G) : ∀ ρ, Le ρ τ → MS X ρ sts G := fun _ l => ms_le l h
/-- another end -/
theorem ms_imp {G' : Go} (h : MS X ρ sts G) (n : ∀ ρ, G.nx ρ → G'.nx ρ) (r : ∀ o, G.rt o → G'.rt o) (b : ∀ ρ, G.bk ρ → G'.bk ρ) (c : ∀ ρ, G.ct ρ → G'.ct ρ) (rs : ∀ o ρ, G.rs o ρ → G'.rs o ρ := by exact fun _ _ h => h) : MS X ρ sts G' := .mk fun Z0 F Z σ H D s g =>
  h.run Z0 F Z σ H D s ⟨fun ρ Z σ H k => g.nx ρ Z σ H (n ρ k), fun ρ Z σ H k => g.bk ρ Z σ H (b ρ k), fun ρ Z σ H k => g.ct ρ Z σ H (c ρ k), fun o v Z H A k => g.rt o v Z H A (r o k), fun o ρ v Z σ H k => g.rs o ρ v Z σ H (rs o ρ k), g.ex.imp r⟩
end
end M
namespace M
open PySem L2 PySem.Spec PyProof.Rows

section
variable {K : PySem.W.Frag} {Z0 Z Z' F H H' : Hp} {ρ : Slots} {σ : L2.St} {G : Go} {D : Ends}
/-- from a later beginning -/
theorem StR.rebase {H1 : Hp} (s : StR K ρ Z0 F Z σ H) : StR K ρ Z F Z σ H := ⟨⟨Ex.refl _, s.gr.hh, s.gr.zh, fun _ _ _ => rfl⟩, s.st⟩
theorem Gr.base {Z1 H1 : Hp} (g0 : Gr Z0 F Z1 H1) (g : Gr Z1 F Z H) : Gr Z0 F Z H := ⟨g0.zz.trans g.zz, g.hh, g.zh, fun a u e => (g.nw a u e).trans (g0.nw a u e)⟩
theorem StR.unbase {Z1 H1 : Hp} (g0 : Gr Z0 F Z1 H1) (s : StR K ρ Z1 F Z σ H) : StR K ρ Z0 F Z σ H := ⟨g0.base s.gr, s.st⟩
theorem GX.rebase {X : Cx} {Z1 H1 : Hp} {r : O → Prop} (g0 : Gr Z0 F Z1 H1) (g : GX X Z0 F r) : GX X Z1 F r := by
  obtain ⟨W, t, k⟩ := g
  exact ⟨W, t, fun e ρ Z σ H q s => k e ρ Z σ H q (s.unbase g0)⟩
theorem GD.rebase {X : Cx} {Z1 H1 : Hp} (g0 : Gr Z0 F Z1 H1) (g : GD X Z0 F G D) : GD X Z1 F G D :=
  ⟨fun ρ Z σ H k s => g.nx ρ Z σ H k (s.unbase g0), fun ρ Z σ H k s => g.bk ρ Z σ H k (s.unbase g0), fun ρ Z σ H k s => g.ct ρ Z σ H k (s.unbase g0), fun o v Z H A k r => g.rt o v Z H A k (g0.base r), fun o ρ v Z σ H k s => g.rs o ρ v Z σ H k (s.unbase g0), g.ex.rebase g0⟩
end

/-- a list that stands still -/
structure MK (X : Cx) (ρ : Slots) (e : Expr) (ds : List D) : Prop where
  run : ∀ (Z0 F Z : Hp) (σ : L2.St) (H : Hp), StR X.K ρ Z0 F Z σ H → ∀ Q : VK,
  (∀ a vs Z' H', Gr Z H Z' H' → (SqL X.K Z' a vs ∨ SqL X.K F a vs) → RepL X.K Z' vs ds → Q (.ref a) H') → wE X e σ H Q
/-- what is walked: n items, from the heap Zs (frozen) and F on -/
structure Wk (K : PySem.W.Frag) (Zs F : Hp) (J : It) (ds : List D) : Prop where
  go : ∀ (i : Nat) (d : D) (Z H : Hp), ds[i]? = some d → Ex Zs Z → Ex F H → Ex Z H → J.go i H ∧ ∀ x H', J.yld i H x H' → ∃ Z', Gr Z H Z' H' ∧ Rep K Z' x d
  stop : ∀ (Z H : Hp), Ex Zs Z → Ex F H → Ex Z H → J.stop ds.length H
structure MI (X : Cx) (ρ : Slots) (wi : TI) (ds : List D) : Prop where
  run : ∀ (Z0 F Z : Hp) (σ : L2.St) (H : Hp), StR X.K ρ Z0 F Z σ H → ∀ R : It → Hp → Prop,
  (∀ J Z' H', Gr Z H Z' H' → Wk X.K Z' F J ds → R J H') → wi σ H R
/-- a target: d is stored; the slots at ws change alone -/
structure MTg (g : TG) (K : PySem.W.Frag) (ρ : Slots) (d : D) (ρ' : Slots) (ws : List Nat) : Prop where
  run : ∀ (Z0 F Z : Hp) (σ : L2.St) (H : Hp) (v : V), StR K ρ Z0 F Z σ H → Rep K Z v d → ∀ Q : L2.St → Hp → Prop,
  (∀ σ', StR K ρ' Z0 F Z σ' H → (∀ vs : List Nat, (∀ w ∈ ws, w ∈ vs) → wipe σ' vs = wipe σ vs) → Q σ' H) → g v σ H Q
structure MTgs (g : TGs) (K : PySem.W.Frag) (ρ : Slots) (ds : List D) (ρ' : Slots) (ws : List Nat) : Prop where
  run : ∀ (Z0 F Z : Hp) (σ : L2.St) (H : Hp) (vs : List V), StR K ρ Z0 F Z σ H → RepL K Z vs ds → ∀ Q : L2.St → Hp → Prop,
  (∀ σ', StR K ρ' Z0 F Z σ' H → (∀ vs : List Nat, (∀ w ∈ ws, w ∈ vs) → wipe σ' vs = wipe σ vs) → Q σ' H) → g vs σ H Q
theorem wipe_get (σ : L2.St) : ∀ (vs : List Nat) (j : Nat), (wipe σ vs)[j]? = if j ∈ vs then (if j < σ.length then some none else none) else σ[j]?
  | [], j => by simp [wipe]
  | v :: vs, j => by
    unfold wipe
    rw [List.getElem?_set, wipe_length, wipe_get σ vs j]
    by_cases h : v = j
    · subst h
      by_cases hl : v < σ.length
      · simp [hl]
      · simp [hl]
    · have h2 : ¬ j = v := fun q => h q.symm
      simp [h, h2]
theorem wipe_set {σ : L2.St} {vs : List Nat} {i : Nat} {x : Option V} (h : i ∈ vs) : wipe (σ.set i x) vs = wipe σ vs := by
  apply List.ext_getElem?
  intro j
  rw [wipe_get, wipe_get, List.length_set]
  by_cases hj : j ∈ vs
  · rw [if_pos hj, if_pos hj]
  · rw [if_neg hj, if_neg hj]
    exact List.getElem?_set_ne (fun q => hj (by rw [← q]; exact h))
section
variable {K : PySem.W.Frag} {ρ ρ' ρ2 : Slots} {d : D} {ds : List D} {i : Nat} {ws ws2 : List Nat}
theorem mg_name (hi : i < ρ.length := by exact Nat.le_of_ble_eq_true rfl) : MTg (gName i) K ρ d (ρ.set i (some (.fz d))) [i] := .mk fun Z0 F Z σ H v s r Q q =>
  q _ (s.put (Gr.refl s.ex) (.fz r) .nil hi) fun vs h => wipe_set (h i List.mem_cons_self)
theorem mgs_nil : MTgs gNil K ρ [] ρ [] := .mk fun Z0 F Z σ H vs s r Q q => by
  cases r
  exact ⟨rfl, q σ s fun _ _ => rfl⟩
theorem mgs_cons {t : TG} {u : TGs} (h1 : MTg t K ρ d ρ' ws) (h2 : MTgs u K ρ' ds ρ2 ws2) : MTgs (gCons t u) K ρ (d :: ds) ρ2 (ws ++ ws2) := .mk fun Z0 F Z σ H vs s r Q q => by
  cases r with
  | cons a b =>
    exact ⟨_, _, rfl, h1.run Z0 F Z σ H _ s a _ fun σ1 s1 w1 => h2.run Z0 F Z σ1 H _ s1 b _ fun σ2 s2 w2 => q σ2 s2 fun vs h =>
      (w2 vs fun w m => h w (List.mem_append_right _ m)).trans (w1 vs fun w m => h w (List.mem_append_left _ m))⟩
theorem mg_tup {n : Nat} {u : TGs} (h : MTgs u K ρ ds ρ' ws) (hn : ds.length = n) : MTg (gTup K n u) K ρ (.tup ds) ρ' ws := .mk fun Z0 F Z σ H v s r Q q => by
  cases r with
  | tup a b => exact ⟨_, _, rfl, .of (s.ex _ _ a), by rw [b.length, hn], h.run Z0 F Z σ H _ s b Q q⟩
end

section
variable {X : Cx} {ρ : Slots} {e : Expr} {es : List Expr} {st : Stmt} {sts : List Stmt} {G : Go} {o : O} {d : D} {ds : List D} {pos : Pos} {i : Nat}
theorem ME.k (h : ME X ρ e (.fz (.lst ds))) : MK X ρ e ds := .mk fun Z0 F Z σ H s Q q => h.run Z0 F Z σ H s Q fun v Z' H' A g r n => by
  cases r with
  | fz r =>
    cases r with
    | lst a b => exact q _ _ Z' H' g (.inl a) b
theorem MV.k (h : MV X ρ e (.vw ds)) : MK X ρ e ds := .mk fun Z0 F Z σ H s Q q => h.run Z0 F Z σ H s Q fun v Z' H' A g r => by
  cases r with
  | vw a b => exact q _ _ Z' H' g (.inr a) b
theorem MV.ka {a : Addr} (h : MV X ρ e (.vwa a ds)) : MK X ρ e ds := .mk fun Z0 F Z σ H s Q q => h.run Z0 F Z σ H s Q fun v Z' H' A g r => by
  cases r with
  | vwa a b => exact q _ _ Z' H' g (.inr a) b
theorem MK.l (h : MK X ρ e ds) : ML X ρ e ds := .mk fun Z0 F Z σ H s Q q => h.run Z0 F Z σ H s Q fun a vs Z' H' g l r => q a vs Z' H' g (l.elim (ex_l g.zh) (ex_l (s.gr.hh.trans g.hh))) r
/-- a text, sign by sign -/
def sgn (x : Str) : List D := x.cps.toList.map fun c => .str ⟨#[c]⟩
theorem mi_str {x : Str} (h : ME X ρ e (.fz (.str x))) : MI X ρ (iStr (wE X e)) (sgn x) := .mk fun Z0 F Z σ H s R q => h.run Z0 F Z σ H s _ fun v Z' H' A g r n => by
  cases r with
  | fz r =>
    cases r
    refine ⟨x, rfl, q _ Z' H' g ⟨fun j d Z2 H2 hd ez ef zh => ?_, fun Z2 H2 ez ef zh => ?_⟩⟩
    · unfold sgn at hd
      rw [List.getElem?_map] at hd
      cases e : x.cps.toList[j]? with
      | none =>
        rw [e] at hd
        cases hd
      | some c =>
        rw [e] at hd
        have hd2 : D.str ⟨#[c]⟩ = d := Option.some.inj hd
        subst hd2
        have e' : x.cps[j]? = some c := by simpa using e
        refine ⟨(Array.getElem?_eq_some_iff.mp e').1, fun y H3 hy => ?_⟩
        obtain ⟨e3, c2, h1, h2⟩ := hy
        subst e3 h2
        rw [e'] at h1
        cases h1
        exact ⟨Z2, Gr.refl zh, .str _⟩
    · show x.cps.size ≤ (sgn x).length
      unfold sgn
      simp
def rng (lo : Int) (n : Nat) : List D := (List.range n).map fun k => .int (lo + (k : Nat))
theorem rng_len (lo : Int) (n : Nat) : (rng lo n).length = n := by simp [rng]
theorem rng_get {lo : Int} {n i : Nat} {d : D} (h : (rng lo n)[i]? = some d) : i < n ∧ d = .int (lo + (i : Nat)) := by
  unfold rng at h
  rw [List.getElem?_map] at h
  by_cases hi : i < n
  · rw [List.getElem?_range hi] at h
    exact ⟨hi, (Option.some.inj h).symm⟩
  · rw [List.getElem?_eq_none (by simpa using hi)] at h
    cases h
theorem wk_rng {K : PySem.W.Frag} {Zs F : Hp} (lo : Int) (n : Nat) : Wk K Zs F (Itr lo n) (rng lo n) := ⟨fun i d Z H h _ _ zh => by
    obtain ⟨hi, e⟩ := rng_get h
    subst e
    refine ⟨hi, fun x H' hy => ?_⟩
    obtain ⟨e, ex⟩ := hy
    subst e ex
    exact ⟨Z, Gr.refl zh, .int _⟩, fun Z H _ _ _ => Nat.le_of_eq (rng_len lo n).symm⟩
theorem mi_range1 {j : Int} (h : MF X ρ es [.int j]) (h1 : -(2 ^ 62) ≤ j) (h2 : j < 2 ^ 62) : MI X ρ (iRng1 (wA X es)) (rng 0 j.toNat) := .mk fun Z0 F Z σ H s R q => h.run Z0 F Z σ H s _ fun vs Z' H' g r => by
  cases r with
  | cons a r =>
    cases a
    cases r
    exact ⟨j, rfl, h1, h2, q _ Z' H' g (wk_rng 0 _)⟩
/-- for: I i holds ahead of turn i -/
theorem m_for {wi : TI} {g : TG} {body : List Stmt} (p : PS X st (tFor wi g (wS X body))) (h : MI X ρ wi ds) (I : Nat → Slots → Prop) (h0 : I 0 ρ)
    (hs : ∀ (j : Nat) (d : D) (τ : Slots), ds[j]? = some d → I j τ → ∃ τ' ws, MTg g X.K τ d τ' ws ∧ MS X τ' body { nx := I (j + 1), ct := I (j + 1), bk := G.nx, rt := G.rt, rs := G.rs })
    (hd : ∀ τ, I ds.length τ → G.nx τ) : MS1 X ρ st G := .mk fun Z0 F Z σ H D s gd => by
  refine PS_w p (h.run Z0 F Z σ H s _ fun J Z1 H1 g1 wk => ?_)
  have s1 := s.grow g1
  have g0 : Gr Z0 F Z1 H1 := s1.gr
  refine ⟨fun j m σ H => m = ds.length - j ∧ j ≤ ds.length ∧ ∃ τ Z2, I j τ ∧ StR X.K τ Z1 F Z2 σ H, ⟨ds.length, by simp, Nat.zero_le _, ρ, Z1, h0, ⟨⟨Ex.refl _, g0.hh, g0.zh, fun _ _ _ => rfl⟩, s1.st⟩⟩, ?_⟩
  rintro j m σ2 H2 ⟨rfl, hj, τ, Z2, hI, s2⟩
  by_cases hlt : j < ds.length
  · obtain ⟨d, ed⟩ : ∃ d, ds[j]? = some d := ⟨ds[j], by simp [hlt]⟩
    obtain ⟨w1, w2⟩ := wk.go j d Z2 H2 ed s2.gr.zz s2.gr.hh s2.gr.zh
    refine .inr ⟨w1, fun σ' H' => ∃ τ Z2, I (j + 1) τ ∧ StR X.K τ Z1 F Z2 σ' H', fun σ' H' q => ⟨ds.length - (j + 1), by omega, rfl, hlt, q⟩, fun x H3 hy => ?_⟩
    obtain ⟨Z3, g3, r3⟩ := w2 x H3 hy
    have s3 := s2.grow g3
    obtain ⟨τ', ws, t1, t2⟩ := hs j d τ ed hI
    refine t1.run Z1 F Z3 σ2 H3 x s3 r3 _ fun σ4 s4 _ => ?_
    exact t2.run Z1 F Z3 σ4 H3 _ s4 ⟨fun τ Z σ H k s => ⟨τ, Z, k, s⟩, fun τ Z σ H k s => gd.nx τ Z σ H k (s.unbase g0), fun τ Z σ H k s => ⟨τ, Z, k, s⟩, fun o v Z H A k gr r n => gd.rt o v Z H A k (g0.base gr) r n, fun o ρ v Z σ H k s => gd.rs o ρ v Z σ H k (s.unbase g0), gd.ex.rebase g0⟩
  · have e : j = ds.length := by omega
    subst e
    exact .inl ⟨wk.stop Z2 H2 s2.gr.zz s2.gr.hh s2.gr.zh, gd.nx τ Z2 σ2 H2 (hd τ hI) (s2.unbase g0)⟩
/-- a, b = e, e a frozen tuple -/
theorem m_tgt {g : TG} {ρ' : Slots} {ws : List Nat} (p : PS X st (tAsg (wE X e) g)) (h : ME X ρ e (.fz d)) (t : MTg g X.K ρ d ρ' ws) (k : G.nx ρ') : MS1 X ρ st G := .mk fun Z0 F Z σ H D s gd =>
  PS_w p (h.run Z0 F Z σ H s _ fun v Z1 H1 A g1 r n => by
    cases r with
    | fz r => exact t.run Z0 F Z1 σ H1 v (s.grow g1) r _ fun σ2 s2 _ => gd.nx ρ' Z1 σ2 H1 k s2)
/-- the promise of a def: the arguments (frozen things, lists that stay as they are), what is handed back -/
def SpM {α : Type} (K : PySem.W.Frag) (ar : α → List O) (pre : α → Prop) (res : α → O) : Sp := fun vs H Q _ => ∃ (x : α) (Z : Hp), Ex Z H ∧ RepOL K Z H H vs (ar x) [] ∧ pre x ∧
  ∀ v Z' H' A, Gr Z H Z' H' → RepO K Z' (fun _ => none) H' v (res x) A → New H Z' A → Q v H'
theorem me_call {α : Type} {ar : α → List O} {pre : α → Prop} {res : α → O} {E : XK} (p : PE X e (tCall (SpM X.K ar pre res) [] E (wA X es))) (x : α) (ha : MA X ρ es (ar x)) (hp : pre x) : ME X ρ e (res x) := .mk fun Z0 F Z σ H s Q q =>
  PE_w p (ha.run Z0 F Z σ H s _ fun vs Z1 H1 g1 r1 => ⟨x, Z1, g1.zh, by rw [List.append_nil]; exact r1, hp, fun v Z2 H2 A g2 r2 n2 =>
    q v Z2 H2 A (g1.trans g2) (r2.mono (Ex.refl _) (fun _ _ z => by cases z) fun _ _ _ z => z) ⟨n2.1, fun a m => ⟨g1.hh.free (n2.2 a m).1, (n2.2 a m).2⟩⟩⟩)
mutual
theorem RepO.unF {K : PySem.W.Frag} {Z F F' H : Hp} : ∀ {v : V} {o : O} {A : List Addr}, RepO K Z F H v o A → o.nv = true → RepO K Z F' H v o A
  | _, _, _, .fz h, _ => .fz h
  | _, _, _, .vw _ _, n => nomatch n
  | _, _, _, .vwa _ _, n => nomatch n
  | _, _, _, .lk _, n => nomatch n
  | _, _, _, .lst h r, n => .lst h (RepOL.unF r n)
  | _, _, _, .tup h r, n => .tup h (RepOL.unF r n)
  | _, _, _, .ins h r, n => .ins h (RepOL.unF r n)
  | _, _, _, .at h r, n => .at h (RepOL.unF r n)
  | _, _, _, .loc h, n => .loc (RepO.unF h n)
  | _, _, _, .pt, _ => .pt
  | _, _, _, .dct h r, n => .dct h (RepOL.unF r n)
  | _, _, _, .dctT h r, n => .dctT h (RepOL.unF r n)
theorem RepOL.unF {K : PySem.W.Frag} {Z F F' H : Hp} : ∀ {vs : List V} {os : List O} {A : List Addr}, RepOL K Z F H vs os A → O.nvL os = true → RepOL K Z F' H vs os A
  | _, _, _, .nil, _ => .nil
  | _, _, _, .cons h r, n => .cons (RepO.unF h (Bool.and_eq_true_iff.mp n).1) (RepOL.unF r (Bool.and_eq_true_iff.mp n).2)
end
theorem stL_args {K : PySem.W.Frag} {Z F H : Hp} : ∀ {vs : List V} {os : List O} {A : List Addr}, RepOL K Z F H vs os A → StL K Z F H (os.map some) (vs.map some) A
  | _, _, _, .nil => .nil
  | _, _, _, .cons h r => .so h (stL_args r)
theorem stL_more {K : PySem.W.Frag} {Z F H : Hp} (n : Nat) : ∀ {ρ : Slots} {σ : L2.St} {A : List Addr}, StL K Z F H ρ σ A → StL K Z F H (ρ ++ List.replicate n none) (σ ++ List.replicate n none) A
  | _, _, _, .nil => by
    rw [List.nil_append, List.nil_append]
    induction n with
    | zero => exact .nil
    | succ n ih => exact .no ih
  | _, _, _, .no h => .no (stL_more n h)
  | _, _, _, .so r h => .so r (stL_more n h)
/-- a def's body keeps its promise -/
theorem fn_m {α : Type} {P : Program} {w : World} {K : PySem.W.Frag} {mg : Str → Option Value} {base : Heap} {x qual : Str} {st : Stmt} {f : Addr} {fd : FuncData} {N ps : List Str} {k : Nat} {ar : α → List O} {pre : α → Prop} {res : α → O}
    (F : Fun K x qual st f fd) (S : FnScope N ps (defScope st)) (hl : ∀ x, (ar x).length = ps.length) (hn : ∀ x, pre x → (res x).nv = true)
    (hb : ∀ (cdv : Value) (A : Around) (outer : List Env) (s : Shared) (H : Hp) (E : XK), Room k (A.deeper (envOfC qual (defScope st) s.heap.objs.size f cdv)) → ∀ x, pre x →
      MS (cxOf CX0 P w K mg base N qual (defScope st) f cdv A outer s H E).nox ((ar x).map some ++ List.replicate (N.length - ps.length) none) (defBody st) { nx := fun _ => res x = .fz .non, rt := fun o => o = res x }) :
    FnOk P w K mg base CX0 (k + 1) f fd ps (SpM K ar pre res) := by
  refine F.ok S (fun vs H Q E h => ?_) (fun cdv A outer s H vs Q E hr h => ?_)
  · obtain ⟨x, Z, _, r, _⟩ := h
    rw [r.length, hl]
  · obtain ⟨x, Z, ez, r, hp, q⟩ := h
    refine ⟨_, pss_w, (hb cdv A outer s H E hr x hp).run Z H Z _ H _ ⟨Gr.refl ez, [], ?_, List.nodup_nil, fun _ m => nomatch m⟩ ⟨fun ρ Z' σ H' e s' => ?_, fun _ _ _ _ z => z.elim, fun _ _ _ _ z => z.elim, fun o v Z' H' A e g r n => ?_, fun _ _ _ _ _ _ z => z.elim, GX.never fun e z => by
      have n := hn x hp
      rw [← show O.rs e = res x from z] at n
      cases n⟩⟩
    · have e : L2.start N vs = vs.map some ++ List.replicate (N.length - ps.length) none := by
        unfold L2.start
        rw [r.length, hl]
      rw [e]
      exact stL_more _ (stL_args r)
    · refine q _ Z' H' [] s'.gr ?_ .nil
      rw [e]
      exact .fz .non
    · subst e
      exact q _ Z' H' A g (r.unF (hn x hp)) n
end
end M
namespace M
open PySem L2 PySem.Spec PyProof.Rows

mutual
def D.py : D → PyData
  | .bl b => .bool b
  | .int i => .int i
  | .str x => .str x
  | .tup ds => .tuple (D.pyL ds)
  | .lst ds => .list (D.pyL ds)
  | _ => .none
def D.pyL : List D → List PyData
  | [] => []
  | d :: r => d.py :: D.pyL r
end
mutual
def D.pl : D → Bool
  | .non => true
  | .bl _ => true
  | .int _ => true
  | .str _ => true
  | .tup ds => D.plL ds
  | .lst ds => D.plL ds
  | _ => false
def D.plL : List D → Bool
  | [] => true
  | d :: r => d.pl && D.plL r
end
section
variable {K : PySem.W.Frag} {Z F H : Hp}
mutual
theorem Rep.dp (e : Ex Z H) : ∀ {v : V} {d : D}, Rep K Z v d → d.pl = true → Dp K H v d.py
  | _, _, .non, _ => .non
  | _, _, .bl b, _ => .bl b
  | _, _, .int i, _ => .int i
  | _, _, .str x, _ => .str x
  | _, _, .ty _, h => nomatch h
  | _, _, .opq _, h => nomatch h
  | _, _, .exc _ _, h => nomatch h
  | _, _, .hx _, h => nomatch h
  | _, _, .tup a r, h => .tup (.of (e _ _ a)) (RepL.dp e r h)
  | _, _, .lst a r, h => .lst (ex_l e a) (RepL.dp e r h)
  | _, _, .ins _ _, h => nomatch h
  | _, _, .dct _ _, h => nomatch h
  | _, _, .dctT _ _, h => nomatch h
theorem RepL.dp (e : Ex Z H) : ∀ {vs : List V} {ds : List D}, RepL K Z vs ds → D.plL ds = true → DpAll K H vs (D.pyL ds)
  | _, _, .nil, _ => .nil
  | _, _, .cons a r, h => .cons (Rep.dp e a (Bool.and_eq_true_iff.mp h).1) (RepL.dp e r (Bool.and_eq_true_iff.mp h).2)
end
mutual
theorem RepK.dp (e : Ex Z H) (f : Ex F H) : ∀ {v : V} {o : O}, RepK K Z F v o → o.frz.pl = true → Dp K H v o.frz.py
  | _, _, .fz r, h => r.dp e h
  | _, _, .vw a r, h => .lst (ex_l f a) (r.dp e h)
  | _, _, .vwa a r, h => .lst (ex_l f a) (r.dp e h)
  | _, .lk o, .lk r, h => RepK.dp (o := o) e f r h
  | _, _, .lst a r, h => .lst (.of (f _ _ a)) (RepKL.dp e f r h)
  | _, _, .tup a r, h => .tup (.of (f _ _ a)) (RepKL.dp e f r h)
  | _, .loc _ o, .loc r, h => RepK.dp (o := o) e f r h
  | _, _, .pt, h => nomatch h
  | _, _, .ins _ _, h => nomatch h
  | _, _, .at _ _, h => nomatch h
  | _, _, .dct _ _, h => nomatch h
  | _, _, .dctT _ _, h => nomatch h
theorem RepKL.dp (e : Ex Z H) (f : Ex F H) : ∀ {vs : List V} {os : List O}, RepKL K Z F vs os → D.plL (O.frzL os) = true → DpAll K H vs (D.pyL (O.frzL os))
  | _, _, .nil, _ => .nil
  | _, _, .cons a r, h => .cons (RepK.dp e f a (Bool.and_eq_true_iff.mp h).1) (RepKL.dp e f r (Bool.and_eq_true_iff.mp h).2)
end
mutual
theorem RepO.dp (e : Ex Z H) (f : Ex F H) : ∀ {v : V} {o : O} {A : List Addr}, RepO K Z F H v o A → o.frz.pl = true → Dp K H v o.frz.py
  | _, _, _, .fz r, h => r.dp e h
  | _, _, _, .vw a r, h => .lst (ex_l f a) (r.dp e h)
  | _, _, _, .vwa a r, h => .lst (ex_l f a) (r.dp e h)
  | _, .lk o, _, .lk r, h => RepK.dp (o := o) e f r h
  | _, _, _, .lst a r, h => .lst (.of a) (RepOL.dp e f r h)
  | _, _, _, .tup a r, h => .tup (.of a) (RepOL.dp e f r h)
  | _, .loc _ o, _, .loc r, h => RepO.dp (o := o) e f r h
  | _, _, _, .pt, h => nomatch h
  | _, _, _, .ins _ _, h => nomatch h
  | _, _, _, .dct _ _, h => nomatch h
  | _, _, _, .dctT _ _, h => nomatch h
theorem RepOL.dp (e : Ex Z H) (f : Ex F H) : ∀ {vs : List V} {os : List O} {A : List Addr}, RepOL K Z F H vs os A → D.plL (O.frzL os) = true → DpAll K H vs (D.pyL (O.frzL os))
  | _, _, _, .nil, _ => .nil
  | _, _, _, .cons a r, h => .cons (RepO.dp e f a (Bool.and_eq_true_iff.mp h).1) (RepOL.dp e f r (Bool.and_eq_true_iff.mp h).2)
end
end
/-- data that can be compared -/
def D.ok (d : D) : Prop := d.pl = true ∧ SeqAt.shaped d.py = true
section
variable {X : Cx} {ρ : Slots} {e a b elt : Expr} {es : List Expr} {st : Stmt} {sts : List Stmt} {G : Go} {o o1 o2 : O} {d : D} {ds : List D} {pos : Pos} {i : Nat}
/-- what is walked while nothing that stands changes -/
structure MIc (X : Cx) (ρ : Slots) (wi : TI) (ds : List D) : Prop where
  run : ∀ (Z0 F Z : Hp) (σ : L2.St) (H : Hp), StR X.K ρ Z0 F Z σ H → ∀ R : It → Hp → Prop,
  (∀ J Z' H', Gr Z H Z' H' → Wk X.K Z' H' J ds → R J H') → wi σ H R
theorem MI.c {wi : TI} (h : MI X ρ wi ds) : MIc X ρ wi ds := .mk fun Z0 F Z σ H s R q => h.run Z0 F Z σ H s R fun J Z' H' g wk =>
  q J Z' H' g ⟨fun i d Z2 H2 hd e f z => wk.go i d Z2 H2 hd e ((s.gr.hh.trans g.hh).trans f) z, fun Z2 H2 e f z => wk.stop Z2 H2 e ((s.gr.hh.trans g.hh).trans f) z⟩
def wipeS (ρ : Slots) : List Nat → Slots
  | [] => ρ
  | v :: vs => (wipeS ρ vs).set v none
theorem StL.none {K : PySem.W.Frag} {Z F H : Hp} (x : Option V) : ∀ {ρ : Slots} {σ : L2.St} {A : List Addr} (i : Nat), StL K Z F H ρ σ A → A.Nodup → ∃ A', StL K Z F H (ρ.set i Option.none) (σ.set i x) A' ∧ A'.Nodup ∧ ∀ a ∈ A', a ∈ A
  | _, _, _, _, .nil, n => ⟨_, .nil, n, fun _ m => m⟩
  | _, _, _, 0, .no h, n => ⟨_, .no h, n, fun _ m => m⟩
  | _, _, _, i + 1, .no h, n => by
    obtain ⟨A', q1, q2, q3⟩ := StL.none x i h n
    exact ⟨A', .no q1, q2, q3⟩
  | _, _, _, 0, .so _ h, n => ⟨_, .no h, (List.nodup_append.mp n).2.1, fun _ m => List.mem_append_right _ m⟩
  | _, _, _, i + 1, .so r h, n => by
    obtain ⟨n1, n2, n3⟩ := List.nodup_append.mp n
    obtain ⟨A', q1, q2, q3⟩ := StL.none x i h n2
    refine ⟨_, .so r q1, List.nodup_append.mpr ⟨n1, q2, fun a ha b hb => n3 a ha b (q3 b hb)⟩, fun a m => ?_⟩
    rcases List.mem_append.mp m with m | m
    · exact List.mem_append_left _ m
    · exact List.mem_append_right _ (q3 a m)
theorem StR.wipe {K : PySem.W.Frag} {Z0 F Z H : Hp} {σ : L2.St} (s : StR K ρ Z0 F Z σ H) : ∀ vs : List Nat, StR K (wipeS ρ vs) Z0 F Z (L2.wipe σ vs) H
  | [] => s
  | v :: vs => by
    obtain ⟨g, A, h1, h2, h3⟩ := StR.wipe s vs
    obtain ⟨A', q1, q2, q3⟩ := h1.none none v h2
    exact ⟨g, A', q1, q2, fun a m => h3 a (q3 a m)⟩
/-- (.., x, ..): a tuple of frozen things and one own slot's thing -/
structure MRs (X : Cx) (ρ : Slots) (es : List Expr) (os : List O) : Prop where
  run : ∀ (Z0 F Z : Hp) (σ : L2.St) (H : Hp), StR X.K ρ Z0 F Z σ H → ∀ Q : List V → Hp → Prop,
  (∀ vs Z' H' A, Gr Z H Z' H' → RepOL X.K Z' F H' vs os A → A.Nodup → (∀ a ∈ A, Z' a = none ∧ F a = none) → Q vs H') → wA X es σ H Q
theorem MF.rs (h : MF X ρ es ds) : MRs X ρ es (ds.map .fz) := .mk fun Z0 F Z σ H s Q q => h.run Z0 F Z σ H s Q fun vs Z' H' g r => q vs Z' H' [] g r.own List.nodup_nil fun _ m => nomatch m
end
end M
namespace M
open PySem L2 PySem.Spec PyProof.Rows
section
variable {X : Cx} {ρ : Slots} {e a b elt : Expr} {es : List Expr} {st : Stmt} {sts : List Stmt} {G : Go} {o o1 o2 : O} {d : D} {ds : List D} {pos p0 p1 : Pos} {i : Nat} {x nm : Str}
theorem ml_var (p : PE X (.Name x pos) (tVar i)) (h : ρ[i]? = some (some o)) (hl : IsLst o ds := by first | exact .vw _ | exact .fz _ | exact .own _ | exact .vwa _ _) : ML X ρ (.Name x pos) ds := MV.l (mv_var p h) hl
theorem le_auto {ρ τ : Slots} (l : Le ρ τ := by repeat (first | exact Le.nil | refine Le.no ?_ | refine Le.eq ?_)) : Le ρ τ := l
/-- .. by a state: S j x holds ahead of turn j -/
theorem m_forS {α : Type} {wi : TI} {g : TG} {body : List Stmt} (p : PS X st (tFor wi g (wS X body))) (h : MI X ρ wi ds) (R : α → Slots) (S : Nat → α → Prop) (h0 : ∃ x, S 0 x ∧ Le ρ (R x))
    (hs : ∀ (j : Nat) (d : D) (x : α), ds[j]? = some d → S j x → ∃ τ' ws, MTg g X.K (R x) d τ' ws ∧ MS X τ' body { nx := fun τ => ∃ y, S (j + 1) y ∧ Le τ (R y), ct := fun τ => ∃ y, S (j + 1) y ∧ Le τ (R y), bk := G.nx, rt := G.rt, rs := G.rs })
    (hd : ∀ τ x, S ds.length x → Le τ (R x) → G.nx τ) : MS1 X ρ st G := by
  refine m_for p h (fun j τ => ∃ x, S j x ∧ Le τ (R x)) h0 (fun j d τ hj l => ?_) fun τ ⟨x, h1, h2⟩ => hd τ x h1 h2
  obtain ⟨x, l1, l2⟩ := l
  obtain ⟨τ', ws, t1, t2⟩ := hs j d x hj l1
  exact ⟨τ', ws, .mk fun Z0 F Z σ H v s r Q q => t1.run Z0 F Z σ H v (s.le l2) r Q q, t2⟩
/-- an own def, as it is called by its name -/
structure Fn1 (P : Program) (w : World) (K : PySem.W.Frag) (mg : Str → Option Value) (base : Heap) (name : Str) (k : Nat) (ps : List Str) (sp : Sp) : Prop where
  ex : ∃ (f : Addr) (fd : FuncData), mg name = some (.ref f) ∧ PySem.W.keepIn K (.ref f) = true ∧ Binds K fd ps [] ∧ FnOk P w K mg base CX0 k f fd ps sp
theorem me_fn {α : Type} {ar : α → List O} {pre : α → Prop} {res : α → O} {k : Nat} {ps : List Str} (c : Fn1 X.prog X.w X.K X.mg X.base nm k ps (SpM X.K ar pre res)) (x : α) (ha : MA X ρ (e :: es) (ar x)) (hp : pre x) (hr : Room k X.A) {o : O} (hres : res x = o := by first | (dsimp only; done) | (dsimp only; rfl) | rfl) (hg : Gl X nm := by rfl)
    (hdb : (nm == ("__debug__" : Str)) = false := by decide) (he : starEach (e :: es) X.env = (false, eval e X.env) :: starEach es X.env := by rfl) (hpl : (backTo pos (starEach es X.env)).any (·.1) = false := by rfl) : ME X ρ (.Call (.Name nm p0) (e :: es) [] pos) o := by
  subst hres
  obtain ⟨f, fd, hm, hk, hb, F⟩ := c.ex
  exact me_call (pe_call F hr hg hm hk hb .nil pass0 pa_w hdb he hpl) x ha hp
end
end M
namespace M
open PySem L2 PySem.Spec PyProof.Rows
inductive Smp : Nat → D → Prop where
  | non {n : Nat} : Smp n .non
  | bl {n : Nat} (b : Bool) : Smp n (.bl b)
  | int {n : Nat} (i : Int) : Smp n (.int i)
  | str {n : Nat} {x : Str} (h : (PyData.str x).canLay0 = true) : Smp n (.str x)
  | tup {n : Nat} {ds : List D} (h : ∀ d ∈ ds, Smp n d) : Smp (n + 1) (.tup ds)
  | lst {n : Nat} {ds : List D} (h : ∀ d ∈ ds, Smp n d) : Smp (n + 1) (.lst ds)
theorem D.plL_all : ∀ {ds : List D}, (∀ d ∈ ds, d.pl = true) → D.plL ds = true
  | [], _ => rfl
  | d :: r, h => by
    show (d.pl && D.plL r) = true
    rw [h d List.mem_cons_self, D.plL_all fun e m => h e (List.mem_cons_of_mem _ m)]
    rfl
theorem canL_all : ∀ {ds : List D}, (∀ d ∈ ds, d.py.canLay0 = true) → PyData.canLayAll0 (D.pyL ds) = true
  | [], _ => rfl
  | d :: r, h => by
    show (d.py.canLay0 && PyData.canLayAll0 (D.pyL r)) = true
    rw [h d List.mem_cons_self, canL_all fun e m => h e (List.mem_cons_of_mem _ m)]
    rfl
theorem depL_all {n : Nat} : ∀ {ds : List D}, (∀ d ∈ ds, d.py.depth ≤ n) → PyData.depthAll (D.pyL ds) ≤ n
  | [], _ => Nat.zero_le _
  | d :: r, h => Nat.max_le.mpr ⟨h d List.mem_cons_self, depL_all fun e m => h e (List.mem_cons_of_mem _ m)⟩
theorem Smp.all {n : Nat} {d : D} (h : Smp n d) : d.pl = true ∧ d.py.canLay0 = true ∧ d.py.depth ≤ n := by
  induction h with
  | non => exact ⟨rfl, rfl, Nat.zero_le _⟩
  | bl b => exact ⟨rfl, rfl, Nat.zero_le _⟩
  | int i => exact ⟨rfl, rfl, Nat.zero_le _⟩
  | str h => exact ⟨rfl, h, Nat.zero_le _⟩
  | tup h ih => exact ⟨D.plL_all fun d m => (ih d m).1, canL_all fun d m => (ih d m).2.1, Nat.succ_le_succ (depL_all fun d m => (ih d m).2.2)⟩
  | lst h ih => exact ⟨D.plL_all fun d m => (ih d m).1, canL_all fun d m => (ih d m).2.1, Nat.succ_le_succ (depL_all fun d m => (ih d m).2.2)⟩
theorem Smp.ok {n : Nat} {d : D} (h : Smp n d) (hn : n ≤ 64 := by decide) : d.ok := by
  obtain ⟨h1, h2, h3⟩ := h.all
  refine ⟨h1, ?_⟩
  unfold SeqAt.shaped
  rw [h2, decide_eq_true (Nat.le_trans h3 hn)]
  rfl
section
variable {X : Cx} {ρ : Slots} {e a b elt : Expr} {es : List Expr} {st : Stmt} {sts : List Stmt} {G : Go} {o o1 o2 : O} {d : D} {ds : List D} {pos p0 p1 : Pos} {i : Nat} {x nm : Str}
end
section
variable {K : PySem.W.Frag} {Z0 Z Z' F H H' : Hp} {ρ : Slots} {σ : L2.St}
end
section
variable {X : Cx} {ρ : Slots} {e a b elt : Expr} {es : List Expr} {st : Stmt} {sts : List Stmt} {G : Go} {o o1 o2 : O} {d : D} {ds : List D} {pos p0 p1 : Pos} {i : Nat} {x nm : Str}
theorem ME.is {o' : O} (h : ME X ρ e o) (q : o = o') : ME X ρ e o' := q ▸ h
theorem m_forTS {α β : Type} {xs : List α} {enc : α → D} {wi : TI} {g : TG} {body : List Stmt} (p : PS X st (tFor wi g (wS X body))) (h : MI X ρ wi (xs.map enc)) (R : β → Slots) (S : Nat → β → Prop) (h0 : ∃ y, S 0 y ∧ Le ρ (R y))
    (hs : ∀ (j : Nat) (x : α) (y : β), xs[j]? = some x → S j y → ∃ τ' ws, MTg g X.K (R y) (enc x) τ' ws ∧ MS X τ' body { nx := fun τ => ∃ y, S (j + 1) y ∧ Le τ (R y), ct := fun τ => ∃ y, S (j + 1) y ∧ Le τ (R y), bk := G.nx, rt := G.rt, rs := G.rs })
    (hd : ∀ τ y, S xs.length y → Le τ (R y) → G.nx τ) : MS1 X ρ st G := by
  refine m_forS p h R S h0 (fun j d y hj => ?_) fun τ y h1 l => hd τ y (by rw [List.length_map] at h1; exact h1) l
  rw [List.getElem?_map] at hj
  obtain ⟨x, hx, rfl⟩ := Option.map_eq_some_iff.mp hj
  exact hs j x y hx
end
/-- a law's promise -/
def spLaw (K : PySem.W.Frag) : Sp := SpM K (fun ns : List Int => [.vw (ns.map .int)]) (fun ns => ns.length ≤ 63) (fun _ => .fz (.bl true))
theorem spLaw_of {K : PySem.W.Frag} {H : Hp} {a : Addr} {ns : List Int} {E : XK} (hS : SqL K H a (ns.map V.int)) (hl : ns.length ≤ 63) : spLaw K [.ref a] H (fun v _ => v = .bl true) E := by
  refine ⟨ns, fun _ => none, fun _ _ z => (by cases z), RepOL.cons (A := []) (B := []) (RepO.vw hS RepL.ofInts) RepOL.nil, hl, fun v Z' H' A g r n => ?_⟩
  cases r with
  | fz r =>
    cases r
    rfl
end M
namespace M
open PySem L2 PySem.Spec PyProof.Rows
theorem RepOL.set {K : PySem.W.Frag} {Z F H : Hp} {w : V} {d : D} (h : Rep K Z w d) : ∀ {vs : List V} {ds : List D} {A : List Addr} (j : Nat), RepOL K Z F H vs (ds.map .fz) A → RepOL K Z F H (vs.set j w) ((ds.set j d).map .fz) A
  | _, [], _, _, .nil => .nil
  | _, _ :: _, _, 0, .cons (.fz _) r => .cons (A := []) (.fz h) r
  | _, _ :: _, _, j + 1, .cons (.fz g) r => .cons (A := []) (.fz g) (RepOL.set h j r)
section
variable {X : Cx} {ρ : Slots} {e a b c elt : Expr} {es rest : List Expr} {st : Stmt} {sts : List Stmt} {G : Go} {o o1 o2 : O} {d : D} {ds : List D} {pos p0 p1 p2 p3 p4 p5 p6 : Pos} {i : Nat} {x nm : Str} {m n k : Int} {p q : Str}
theorem RepL.rep {K : PySem.W.Frag} {Z : Hp} {vs : List V} {ds : List D} (r : RepL K Z vs ds) : ∀ k : Nat, RepL K Z (List.replicate k vs).flatten (List.replicate k ds).flatten
  | 0 => .nil
  | k + 1 => by
    rw [List.replicate_succ, List.replicate_succ, List.flatten_cons, List.flatten_cons]
    exact r.append (r.rep k)
/-- xs + ys, lists of its own -/
theorem me_catL {es1 : List D} (ha : MV X ρ a (.lst (ds.map .fz))) (hb : MV X ρ b (.lst (es1.map .fz))) (hl : ds.length + es1.length ≤ sizeLine) : ME X ρ (.BinOp a .Add b pos) (.lst ((ds ++ es1).map .fz)) := .mk fun Z0 F Z σ H s Q q =>
  PE_w (pe_op op_cat pe_w pe_w) (ha.run Z0 F Z σ H s _ fun v Z1 H1 A1 g1 r1 => hb.run Z0 F Z1 σ H1 (s.grow g1) _ fun w Z2 H2 A2 g2 r2 => by
    cases r2 with
    | @lst l2 us _ A2 h2 r2 =>
      cases r1 with
      | @lst l vs _ A h0 r1 =>
        have g := g1.trans g2
        obtain ⟨_, r1⟩ := r1.fzs
        obtain ⟨_, r2⟩ := r2.fzs
        refine ⟨l, l2, vs, us, rfl, rfl, g2.hh _ _ h0, h2, by rw [r1.length, r2.length]; exact hl, fun p hp => ?_⟩
        exact q _ Z2 _ [p] (g.trans (Gr.new g.zh hp)) (.lst upd_same ((r1.mono g2.zz).append r2).own) (new_one (g.hh.free hp) (g.zh.free hp)))
theorem me_strI (hg : Gl X "str") (hm : X.mg "str" = none) (ha : ME X ρ a (.fz (.int m))) (hl : m.natAbs.log2 < 1920) (n1 : NS X a := by exact fun _ => rfl) : ME X ρ (.Call (.Name "str" p0) [a] [] pos) (.fz (.str (toString m))) := .mk fun Z0 F Z σ H s Q q =>
  PE_w (pe_callTy call_str_int hg hm (by decide +kernel) (pa_cons pe_w pa_nil (n1 _)) (he := n1 _)) (ha.run Z0 F Z σ H s _ fun v Z1 H1 A1 g1 r1 n1 => by
    cases r1 with
    | fz r1 =>
      cases r1
      exact ⟨m, rfl, hl, q _ Z1 H1 [] g1 (.fz (.str _)) .nil⟩)
theorem me_intS (hg : Gl X "int") (hm : X.mg "int" = none) (ha : ME X ρ a (.fz (.str p))) (hn : PySem.intText? p = some m) (hl : p.length ≤ 640) (n1 : NS X a := by exact fun _ => rfl) : ME X ρ (.Call (.Name "int" p0) [a] [] pos) (.fz (.int m)) := .mk fun Z0 F Z σ H s Q q =>
  PE_w (pe_callTy call_int_str hg hm (by decide +kernel) (pa_cons pe_w pa_nil (n1 _)) (he := n1 _)) (ha.run Z0 F Z σ H s _ fun v Z1 H1 A1 g1 r1 n1 => by
    cases r1 with
    | fz r1 =>
      cases r1
      exact ⟨p, m, rfl, hn, hl, q _ Z1 H1 [] g1 (.fz (.int _)) .nil⟩)
theorem mt_niS {ch : Nat} (ha : ME X ρ a (.fz (.str ⟨#[ch]⟩))) (hb : ME X ρ b (.fz (.str q))) (hm : behindInMarks .NotIn b = false := by rfl) : MT X ρ (.Compare a [.NotIn] [b] pos) (!decide (ch ∈ q.cps.toList)) := mt_cmp op_notIn_sign ha hb (.str _) (.str _) (fun _ _ k => ⟨ch, q, rfl, rfl, k⟩) hm
theorem me_gS {t : Tok} (hm : X.mg nm = some (.str p t)) (hg : Gl X nm := by rfl) (hd : (nm == ("__debug__" : Str)) = false := by decide) : ME X ρ (.Name nm pos) (.fz (.str p)) := me_c (pe_glob (v := .str p) hg hm ⟨t, rfl⟩ hd) (.str p)
end
end M
namespace M
open PySem L2 PySem.Spec PyProof.Rows
theorem Le.trans : ∀ {ρ τ υ : Slots}, Le ρ τ → Le τ υ → Le ρ υ
  | _, _, _, .nil, h => h
  | _, _, _, .no l, .no r => .no (l.trans r)
  | _, _, _, .no l, .eq r => .no (l.trans r)
  | _, _, _, .eq l, .no r => .no (l.trans r)
  | _, _, _, .eq l, .eq r => .eq (l.trans r)
/-- what the text tells of a class: its attributes' names are no names of the class -/
structure OC (K : PySem.W.Frag) (C : Addr) (ns : List Str) : Prop where
  cl : Cls K C
  na : ∀ f ∈ ns, NoAttr K C f
def xsPut {α : Type} : List Str → Str → List α → α → List α
  | n :: r, f, u :: us, v => if n = f then v :: us else u :: xsPut r f us v
  | _, _, _, v => [v]
section
variable {K : PySem.W.Frag} {Z Z' F F' H H' : Hp}
theorem RepOL.put {w : V} {o : O} {B : List Addr} (r : RepO K Z F H w o B) (nB : B.Nodup) : ∀ {ns : List Str} {f : Str} {vs : List V} {os : List O} {A : List Addr}, vs.length = ns.length → RepOL K Z F H vs os A → A.Nodup → (∀ a ∈ A, a ∉ B) →
    ∃ A', RepOL K Z F H (xsPut ns f vs w) (xsPut ns f os o) A' ∧ A'.Nodup ∧ ∀ a ∈ A', a ∈ A ∨ a ∈ B
  | [], f, [], [], _, _, .nil, _, _ => ⟨B ++ [], .cons r .nil, by rw [List.append_nil]; exact nB, fun a m => .inr (by rw [List.append_nil] at m; exact m)⟩
  | n :: ns, f, v :: vs, o1 :: os, _, hl, .cons (A := A1) (B := A2) h1 h2, nA, d => by
    obtain ⟨n1, n2, n3⟩ := List.nodup_append.mp nA
    unfold xsPut
    by_cases e : n = f
    · rw [if_pos e, if_pos e]
      refine ⟨B ++ A2, .cons r h2, List.nodup_append.mpr ⟨nB, n2, fun a ha b hb e => ?_⟩, fun a m => ?_⟩
      · subst e
        exact d a (List.mem_append_right _ hb) ha
      · rcases List.mem_append.mp m with m | m
        · exact .inr m
        · exact .inl (List.mem_append_right _ m)
    · rw [if_neg e, if_neg e]
      obtain ⟨A', q1, q2, q3⟩ := RepOL.put r nB (ns := ns) (f := f) (vs := vs) (os := os) (by simpa using hl) h2 n2 fun a m => d a (List.mem_append_right _ m)
      refine ⟨A1 ++ A', .cons h1 q1, List.nodup_append.mpr ⟨n1, q2, fun a ha b hb e => ?_⟩, fun a m => ?_⟩
      · subst e
        rcases q3 a hb with z | z
        · exact n3 a ha a z rfl
        · exact d a (List.mem_append_left _ ha) z
      · rcases List.mem_append.mp m with m | m
        · exact .inl (List.mem_append_left _ m)
        · exact (q3 a m).imp (List.mem_append_right _) id
end
section
variable {X : Cx} {ρ : Slots} {e a b c elt : Expr} {es rest : List Expr} {st : Stmt} {sts : List Stmt} {G : Go} {o o1 o2 : O} {d : D} {ds : List D} {os : List O} {pos p0 p1 p2 p3 p4 p5 p6 : Pos} {i : Nat} {x nm f : Str} {m n k : Int} {p q : Str} {C : Addr} {ns : List Str}
/-- the promise of an __init__: of a new instance it makes one with the attributes ns -/
def SpI {α : Type} (K : PySem.W.Frag) (C : Addr) (ns : List Str) (ar : α → List O) (pre : α → Prop) (res : α → List O) : Sp := fun vs H Q _ => ∃ (x : α) (Z F : Hp) (l dx : Addr) (vs' : List V), vs = .ref l :: vs' ∧ Ex Z F ∧ Ex F H ∧ F l = none ∧ H l = some (.ins C dx []) ∧ RepOL K Z F F vs' (ar x) [] ∧ pre x ∧
  ∀ Z' H' A, Gr Z F Z' H' → RepO K Z' (fun _ => none) H' (.ref l) (.at l C ns (res x)) A → New F Z' A → Q .non H'
structure Mk1 (P : Program) (w : World) (K : PySem.W.Frag) (mg : Str → Option Value) (base : Heap) (name : Str) (C : Addr) (k : Nat) (ps : List Str) (sp : Sp) : Prop where
  ex : ∃ (f : Addr) (fd : FuncData), mg name = some (.ref C) ∧ Mk K C f ∧ Binds K fd ps [] ∧ FnOk P w K mg base CX0 k f fd ps sp
end
end M
namespace M
open PySem L2 PySem.Spec PyProof.Rows
section
variable {X : Cx} {ρ : Slots} {e a b c elt : Expr} {es rest : List Expr} {st : Stmt} {sts : List Stmt} {G : Go} {o o1 o2 : O} {d : D} {ds : List D} {os : List O} {pos p0 p1 p2 p3 p4 p5 p6 : Pos} {i : Nat} {x nm f : Str} {m n k : Int} {p q : Str} {C : Addr} {ns : List Int}
/-- s.partition(t): a tuple of three texts -/
theorem me_partition (ha : ME X ρ a (.fz (.str p))) (hb : ME X ρ b (.fz (.str q))) (hq : (q.length == 0) = false) (hp : p.length ≤ sizeLine) (hs : starEach [b] X.env = [(false, eval b X.env)] := by rfl) (hbase : attributeBase a "partition" X.env (eval a X.env) = eval a X.env := by rfl) (hline : (p1.endLine == pos.line) = true := by rfl) :
    ME X ρ (.Call (.Attribute a "partition" p1) [b] [] pos) (.fz (.tup [.str (Txt.partition p q).1, .str (Txt.partition p q).2.1, .str (Txt.partition p q).2.2])) := .mk fun Z0 F Z σ H s Q qq =>
  PE_w (pe_partition pe_w pe_w hs hbase hline) (ha.run Z0 F Z σ H s _ fun v Z1 H1 A1 g1 r1 n1 => by
    cases r1 with
    | fz r1 =>
      cases r1
      refine ⟨⟨_, rfl⟩, hb.run Z0 F Z1 σ H1 (s.grow g1) _ fun v Z2 H2 A2 g2 r2 n2 => ?_⟩
      cases r2 with
      | fz r2 =>
        cases r2
        refine ⟨p, q, rfl, rfl, hq, hp, fun l hl => ?_⟩
        exact qq _ _ _ [] ((g1.trans g2).trans (Gr.newz g2.zh hl)) (.fz (.tup upd_same (.cons (.str _) (.cons (.str _) (.cons (.str _) .nil))))) .nil)
end
end M
namespace M
open PySem L2 PySem.Spec PyProof.Rows
section
variable {X : Cx} {tg : Expr}
end
section
variable {X : Cx} {ρ : Slots} {es : List Expr} {k j : Int}
end
end M
namespace M
open PySem L2 PySem.Spec PyProof.Rows
section
variable {X : Cx} {ρ : Slots} {a b : Expr} {pos : Pos} {k l : Bool}
theorem mt_niB (ha : ME X ρ a (.fz (.bl k))) (hb : ME X ρ b (.fz (.bl l))) : MT X ρ (.Compare a [.IsNot] [b] pos) (!decide (k = l)) := mt_cmp op_notBl ha hb (.bl k) (.bl l) (fun _ _ q => ⟨k, l, rfl, rfl, q⟩) (nomark _)
end
end M
namespace M
open PySem L2 PySem.Spec PyProof.Rows
section
variable {β : Type} {K : PySem.W.Frag} {Z : Hp} {enc : β → D}
end
section
variable {X : Cx} {ρ : Slots} {a : Expr} {pos p0 p1 p2 p3 p4 : Pos} {β : Type} {enc : β → D} {bs : List β}
end
section
variable {X : Cx} {ρ : Slots} {a b e : Expr} {G : Go} {pos p0 p1 p2 p3 p4 : Pos} {k l : Bool} {i : Nat} {x : Str} {d : D} {ds : List D}
theorem mt_neB (ha : ME X ρ a (.fz (.bl k))) (hb : ME X ρ b (.fz (.bl l))) : MT X ρ (.Compare a [.NotEq] [b] pos) (!(k == l)) := mt_cmp op_ne ha hb (.bl k) (.bl l) (fun _ _ q => ⟨rfl, by rw [dec_bl]; exact q⟩) (nomark _)
end
end M
namespace M
open PySem L2 PySem.Spec PyProof.Rows
section
variable {X : Cx} {ρ : Slots} {a : Expr} {pos p0 p1 : Pos} {C E : Addr} {ns : List Str} {ds : List D} {os : List O} {nm : Str} {k : Bool} {o : O}
end
section
variable {K : PySem.W.Frag} {Z0 Z Z' F F' H H' : Hp} {ρ : Slots} {σ : L2.St}
theorem StL.push {v : V} {o : O} {B : List Addr} (r : RepO K Z F H v o B) : ∀ {ρ : Slots} {σ : L2.St} {A : List Addr}, StL K Z F H ρ σ A → StL K Z F H (ρ ++ [some o]) (σ ++ [some v]) (A ++ B)
  | _, _, _, .nil => by
    have := StL.so r (.nil (K := K) (Z := Z) (F := F) (H := H))
    rw [List.append_nil] at this
    exact this
  | _, _, _, .no h => .no (h.push r)
  | _, _, _, .so q h => by
    rw [List.append_assoc]
    exact .so q (h.push r)
theorem StR.push {v : V} {o : O} {B : List Addr} (s : StR K ρ Z0 F Z σ H) (g : Gr Z H Z' H') (r : RepO K Z' F H' v o B) (n : New H Z' B) : StR K (ρ ++ [some o]) Z0 F Z' (σ ++ [some v]) H' := by
  have s' := s.grow g
  obtain ⟨A, h1, h2, h3⟩ := s.st
  have m1 : StL K Z' F H' ρ σ A := h1.mono g.zz fun a _ u e => g.hh a u e
  refine ⟨s'.gr, A ++ B, m1.push r, List.nodup_append.mpr ⟨h2, n.1, fun a ha b hb e => ?_⟩, fun a m => ?_⟩
  · subst e
    obtain ⟨u, e⟩ := h1.there a ha
    rw [(n.2 a hb).1] at e
    cases e
  · rcases List.mem_append.mp m with z | z
    · obtain ⟨u, e⟩ := h1.there a z
      exact ⟨(g.nw a u e).trans (h3 a z).1, (h3 a z).2⟩
    · exact ⟨(n.2 a z).2, s.gr.hh.free (n.2 a z).1⟩
theorem StL.last' : ∀ {τ : Slots} {υ : L2.St} {A : List Addr}, StL K Z F H τ υ A → A.Nodup → ∀ {ρ : Slots} {o : O} {σ : L2.St} {v : V}, τ = ρ ++ [some o] → υ = σ ++ [some v] → ∃ B C, StL K Z F H ρ σ B ∧ RepO K Z F H v o C ∧ (B ++ C).Nodup ∧ (∀ a ∈ B ++ C, a ∈ A)
  | _, _, _, .nil, _, ρ, o, σ, v, e1, e2 => by simp at e1
  | _, _, _, .no h, n, ρ, o, σ, v, e1, e2 => by
    cases ρ with
    | nil => simp at e1
    | cons x ρ =>
      cases σ with
      | nil =>
        have l := h.length
        simp at e1 e2
        rw [e1.2, e2.2] at l
        simp at l
      | cons y σ =>
        simp at e1 e2
        obtain ⟨e1a, e1b⟩ := e1
        obtain ⟨e2a, e2b⟩ := e2
        obtain ⟨B, C, q1, q2, q3, q4⟩ := h.last' n e1b e2b
        subst e1a
        exact ⟨B, C, .no q1, q2, q3, q4⟩
  | _, _, _, .so (A := A1) (B := A2) r h, n, ρ, o, σ, v, e1, e2 => by
    obtain ⟨n1, n2, n3⟩ := List.nodup_append.mp n
    cases ρ with
    | nil =>
      cases σ with
      | nil =>
        simp at e1 e2
        obtain ⟨e1a, e1b⟩ := e1
        obtain ⟨e2a, e2b⟩ := e2
        subst e1a e1b e2a e2b
        cases h
        exact ⟨[], A1, .nil, r, by simpa using n, fun a m => by simpa using m⟩
      | cons y σ =>
        have l := h.length
        simp at e1 e2
        rw [e1.2, e2.2] at l
        simp at l
    | cons x ρ =>
      cases σ with
      | nil =>
        have l := h.length
        simp at e1 e2
        rw [e1.2, e2.2] at l
        simp at l
      | cons y σ =>
        simp at e1 e2
        obtain ⟨e1a, e1b⟩ := e1
        obtain ⟨e2a, e2b⟩ := e2
        obtain ⟨B, C, q1, q2, q3, q4⟩ := h.last' n2 e1b e2b
        subst e1a e2a
        refine ⟨A1 ++ B, C, .so r q1, q2, ?_, fun a m => ?_⟩
        · rw [List.append_assoc]
          exact List.nodup_append.mpr ⟨n1, q3, fun a ha b hb => n3 a ha b (q4 b hb)⟩
        · rw [List.append_assoc] at m
          rcases List.mem_append.mp m with m | m
          · exact List.mem_append_left _ m
          · exact List.mem_append_right _ (q4 a m)
theorem StL.last {ρ : Slots} {o : O} {σ : L2.St} {v : V} {A : List Addr} (h : StL K Z F H (ρ ++ [some o]) (σ ++ [some v]) A) (n : A.Nodup) : ∃ B C, StL K Z F H ρ σ B ∧ RepO K Z F H v o C ∧ (B ++ C).Nodup ∧ (∀ a ∈ B ++ C, a ∈ A) := h.last' n rfl rfl
theorem StR.pop {v : V} {o : O} (s : StR K (ρ ++ [some o]) Z0 F Z (σ ++ [some v]) H) : StR K ρ Z0 F Z σ H := by
  obtain ⟨A, h1, h2, h3⟩ := s.st
  obtain ⟨B, C, q1, q2, q3, q4⟩ := h1.last h2
  exact ⟨s.gr, B, q1, (List.nodup_append.mp q3).1, fun a m => h3 a (q4 a (List.mem_append_left _ m))⟩
/-- what is behind comes to a slot -/
theorem StR.take {v : V} {o : O} {i : Nat} (s : StR K (ρ ++ [some o]) Z0 F Z (σ ++ [some v]) H) (hi : i < ρ.length) : StR K (ρ.set i (some o)) Z0 F Z (σ.set i (some v)) H := by
  obtain ⟨A, h1, h2, h3⟩ := s.st
  obtain ⟨B, C, q1, q2, q3, q4⟩ := h1.last h2
  obtain ⟨n1, n2, n3⟩ := List.nodup_append.mp q3
  obtain ⟨A', r1, r2, r3⟩ := StL.put q2 q1 hi n1 n2 fun a ha hb => n3 a hb a ha rfl
  refine ⟨s.gr, A', r1, r2, fun a m => h3 a (q4 a ?_)⟩
  rcases r3 a m with z | z
  · exact List.mem_append_left _ z
  · exact List.mem_append_right _ z
end
structure MX (X : Cx) (ρ : Slots) (e : Expr) (o : O) (ρ' : Slots) : Prop where
  run : ∀ (Z0 F Z : Hp) (σ : L2.St) (H : Hp), StR X.K ρ Z0 F Z σ H → ∀ Q : VK, (∀ v Z' H', StR X.K (ρ' ++ [some o]) Z0 F Z' (σ ++ [some v]) H' → Q v H') → wE X e σ H Q
section
variable {X : Cx} {ρ ρ' : Slots} {e : Expr} {st : Stmt} {G : Go} {o : O} {i : Nat}
theorem ME.x (h : ME X ρ e o) : MX X ρ e o ρ := .mk fun Z0 F Z σ H s Q q => h.run Z0 F Z σ H s Q fun v Z' H' A g r n => q v Z' H' (s.push g r n)
end
end M
namespace M
open PySem L2 PySem.Spec PyProof.Rows
def SpX {α : Type} (K : PySem.W.Frag) (ar : α → List O) (pre : α → Prop) (s0 s1 : Addr → α → O) (res : α → O) : Sp := fun vs H Q _ => ∃ (x : α) (Z F : Hp) (l : Addr) (vs' : List V) (A : List Addr), vs = .ref l :: vs' ∧ Ex Z F ∧ Ex F H ∧ A.Nodup ∧ (∀ a ∈ A, F a = none) ∧ RepO K Z F H (.ref l) (s0 l x) A ∧ RepOL K Z F F vs' (ar x) [] ∧ pre x ∧
  ∀ v Z' H' B, Gr Z F Z' H' → RepOL K Z' (fun _ => none) H' [.ref l, v] [s1 l x, res x] B → B.Nodup → (∀ a ∈ B, F a = none ∧ Z' a = none) → Q v H'
section
variable {X : Cx} {ρ : Slots} {e a b : Expr} {es : List Expr} {pos p0 p1 p2 : Pos} {i : Nat} {xx nm : Str} {C : Addr} {ns ns' all : List Str} {os os' : List O} {ds : List D} {o o' : O}
structure Cf1 (P : Program) (w : World) (K : PySem.W.Frag) (mg : Str → Option Value) (base : Heap) (nmC m : Str) (k : Nat) (ps : List Str) (sp : Sp) : Prop where
  ex : ∃ (C : Addr) (mc : Value) (f : Addr) (fd : FuncData), mg nmC = some (.ref C) ∧ ClX.CRead K C mc ∧ ClX.CVal K C mc m (.ref f) (.ref f) ∧ PySem.W.keepIn K (.ref f) = true ∧ Binds K fd ps [] ∧ FnOk P w K mg base CX0 k f fd ps sp
end
end M
namespace M
open PySem L2 PySem.Spec PyProof.Rows
def D.flat : D → Bool
  | .non => true
  | .bl _ => true
  | .int _ => true
  | .str _ => true
  | _ => false
def D.v : D → V
  | .bl b => .bl b
  | .int i => .int i
  | .str x => .str x
  | _ => .non
theorem Rep.flat {K : PySem.W.Frag} {Z : Hp} {v : V} {d : D} (r : Rep K Z v d) (h : d.flat = true) : v = d.v := by
  cases r with
  | non => rfl
  | bl b => rfl
  | int i => rfl
  | str x => rfl
  | _ => cases h
theorem RepL.flat {K : PySem.W.Frag} {Z : Hp} : ∀ {vs : List V} {ds : List D}, RepL K Z vs ds → ds.all D.flat = true → vs = ds.map D.v
  | _, _, .nil, _ => rfl
  | _, _, .cons a r, h => by
    rw [List.all_cons, Bool.and_eq_true] at h
    rw [List.map_cons, a.flat h.1, r.flat h.2]
theorem D.flat_v : ∀ {d : D}, d.flat = true → flatV d.v = true
  | .non, _ => rfl
  | .bl _, _ => rfl
  | .int _, _ => rfl
  | .str _, _ => rfl
theorem D.flat_vs : ∀ {ds : List D}, ds.all D.flat = true → (ds.map D.v).all flatV = true
  | [], _ => rfl
  | d :: r, h => by
    rw [List.all_cons, Bool.and_eq_true] at h
    rw [List.map_cons, List.all_cons, D.flat_v h.1, D.flat_vs h.2]
    rfl
/-- d stands among ds -/
def D.among (d : D) (ds : List D) : Bool := inV d.v (ds.map D.v)
section
variable {X : Cx} {ρ : Slots} {a b : Expr} {pos : Pos} {d : D} {ds : List D}
theorem inL_core {neg : Bool} {op : CmpOp} (ho : OpR X (compareOp op) (rIn X.K neg)) (ha : ME X ρ a (.fz d)) (hb : ML X ρ b ds) (hf : d.flat = true) (hfs : ds.all D.flat = true) {Z0 F Z : Hp} {σ : L2.St} {H : Hp} (s : StR X.K ρ Z0 F Z σ H) {Q : VK} (q : ∀ Z' H', Gr Z H Z' H' → Q (.bl (if neg then !(d.among ds) else d.among ds)) H') : tOp (rIn X.K neg) (wE X a) (wE X b) σ H Q :=
  ha.run Z0 F Z σ H s _ fun v Z1 H1 A1 g1 r1 n1 => by
    cases r1 with
    | fz r1 =>
      have e1 := r1.flat hf
      subst e1
      refine hb.run Z0 F Z1 σ H1 (s.grow g1) _ fun l vs Z2 H2 g2 l2 r2 => ?_
      have e2 := r2.flat hfs
      subst e2
      exact ⟨l, _, rfl, .inl l2, D.flat_v hf, D.flat_vs hfs, q Z2 H2 (g1.trans g2)⟩
end
end M
namespace M
open PySem L2 PySem.Spec PyProof.Rows
section
variable {X : Cx} {ρ : Slots} {a b c d : Expr} {ta tb tc td : TE} {pos : Pos} {m n k l : Int}
end
theorem kit_true {K : PySem.W.Frag} {C E : Addr} (h1 : PySem.W.isClsIn K E = true) (h2 : PySem.W.typeIn K (.ref E) = some (.type "type")) (h3 : PySem.W.mroIn K C (.ref E) = some true) : PySem.W.kitOne K (.ref C) (.ref E) = some true := by
  unfold PySem.W.kitOne
  split
  · rfl
  · show PySem.W.kitCls K (.ref C) (.ref E) = some true
    have e : PySem.W.kitCls K (.ref C) (.ref E) = if ((PySem.W.clsIn K E).isSome && PySem.W.typeIn K (.ref E) == some (.type "type")) = true then PySem.W.mroIn K C (.ref E) else none := rfl
    rw [e, if_pos, h3]
    rw [h2]
    show ((PySem.W.clsIn K E).isSome && _) = true
    rw [show (PySem.W.clsIn K E).isSome = true from h1]
    decide
end M
namespace M
open PySem L2 PySem.Spec PyProof.Rows
section
variable {X : Cx} {ρ : Slots} {a b c e : Expr} {es : List Expr} {pos p0 p1 : Pos} {p q : Str} {k : Bool} {ys : List Str}
end
end M
namespace M
open PySem L2 PySem.Spec PyProof.Rows
noncomputable def gd {α : Type} (p : Prop) (k : Option α) : Option α := @ite _ p (Classical.propDecidable p) k none
def bd {α β : Type} (o : Option α) (k : α → Option β) : Option β := o.bind k
def lt {α β : Type} (a : α) (k : α → Option β) : Option β := k a
section
variable {α β γ : Type}
theorem gd_some {p : Prop} {k : Option α} {r : α} (h : gd p k = some r) : p ∧ k = some r := by
  unfold gd at h
  by_cases hp : p
  · rw [if_pos hp] at h
    exact ⟨hp, h⟩
  · rw [if_neg hp] at h
    cases h
theorem gd_pos {p : Prop} {k : Option α} (h : p) : gd p k = k := if_pos h
theorem bd_some {o : Option α} {k : α → Option β} {r : β} (h : bd o k = some r) : ∃ a, o = some a ∧ k a = some r := Option.bind_eq_some_iff.mp h
theorem bd_of {o : Option α} {k : α → Option β} {a : α} (h : o = some a) : bd o k = k a := by rw [h]; rfl
theorem lt_some {a : α} {k : α → Option β} {r : β} (h : lt a k = some r) : ∃ x, x = a ∧ k x = some r := ⟨a, rfl, h⟩
theorem cond_t {c : Bool} {a b : α} {r : α} (h : cond c a b = r) (hc : c = true) : a = r := by rw [hc] at h; exact h
theorem cond_f {c : Bool} {a b : α} {r : α} (h : cond c a b = r) (hc : c = false) : b = r := by rw [hc] at h; exact h
theorem and_c {k c : Bool} {b : Option Bool} (h : cond k b (some false) = some c) : (k && c) = c := by
  cases k with
  | true => rfl
  | false => cases h; rfl
theorem or_c {k c : Bool} {b : Option Bool} (h : cond k (some true) b = some c) : (k || c) = c := by
  cases k with
  | true => cases h; rfl
  | false => rfl
end
/-- how a block ends: on, out of the loop, to its next turn, out of the def -/
inductive Ou (V W R : Type) where
  | nx (v : V) | bk (w : W) | ct (w : W) | rt (r : R)
def ouR {V W R : Type} : Ou V W R → (V → Option R) → Option R
  | .nx v, k => k v
  | .rt r, _ => some r
  | _, _ => none
def lpO {α V R : Type} (f : α → V → Option (Ou V V R)) : List α → V → Option (Ou V V R)
  | [], v => some (.nx v)
  | x :: xs, v => bd (f x v) fun o => match o with
    | .nx v' => lpO f xs v'
    | .ct v' => lpO f xs v'
    | .bk v' => some (.nx v')
    | .rt r => some (.rt r)
/-- a loop that runs to its end -/
theorem lpO_inv {α V R : Type} {f : α → V → Option (Ou V V R)} (I : Nat → V → Prop) {xs : List α} {v : V} (h0 : I 0 v) (h : ∀ (i : Nat) (x : α) (v : V), xs[i]? = some x → I i v → ∃ v', (f x v = some (.nx v') ∨ f x v = some (.ct v')) ∧ I (i + 1) v') : ∃ v', lpO f xs v = some (.nx v') ∧ I xs.length v' := by
  induction xs generalizing v I with
  | nil => exact ⟨v, rfl, h0⟩
  | cons x xs ih =>
    obtain ⟨v1, e, i1⟩ := h 0 x v rfl h0
    obtain ⟨v2, e2, i2⟩ := ih (fun i => I (i + 1)) i1 fun i y w hy hw => h (i + 1) y w (by simpa using hy) hw
    refine ⟨v2, ?_, i2⟩
    show bd (f x v) _ = _
    rcases e with e | e <;> rw [e] <;> exact e2
def goO {V W R : Type} (Rn : V → Slots) (Rw : W → Slots) (er : R → O) (o : Ou V W R) : Go :=
  { nx := fun τ => ∃ v, o = .nx v ∧ Le τ (Rn v), bk := fun τ => ∃ w, o = .bk w ∧ Le τ (Rw w), ct := fun τ => ∃ w, o = .ct w ∧ Le τ (Rw w), rt := fun q => ∃ r, o = .rt r ∧ q = er r }
section
variable {X : Cx} {ρ : Slots} {e a b c elt : Expr} {es : List Expr} {st : Stmt} {sts : List Stmt} {G : Go} {o o1 o2 : O} {d : D} {ds : List D} {pos p0 p1 p2 p3 p4 : Pos} {i : Nat} {x nm : Str} {α β V W R : Type}
/-- for with ways out -/
theorem m_forO {xs : List α} {enc : α → D} {wi : TI} {g : TG} {body : List Stmt} (p : PS X st (tFor wi g (wS X body))) (h : MI X ρ wi (xs.map enc)) {f : α → V → Option (Ou V V R)} {v0 : V} {out : Ou V V R} (hx : lpO f xs v0 = some out) (Rn : V → Slots) (er : R → O) (h0 : Le ρ (Rn v0))
    (hs : ∀ (x : α) (v : V) (o : Ou V V R), x ∈ xs → f x v = some o → ∃ τ' ws, MTg g X.K (Rn v) (enc x) τ' ws ∧ MS X τ' body (goO Rn Rn er o))
    (hd : ∀ v τ, out = .nx v → Le τ (Rn v) → G.nx τ) (hr : ∀ r, out = .rt r → G.rt (er r)) : MS1 X ρ st G := by
  refine m_forTS (xs := xs) (enc := enc) p h (fun v : V => Rn v) (fun j v => lpO f (xs.drop j) v = some out) ⟨v0, hx, h0⟩ (fun j y v hj hv => ?_) fun τ v hv l => ?_
  · obtain ⟨hi, ey⟩ := List.getElem?_eq_some_iff.mp hj
    rw [← List.getElem_cons_drop (h := hi), ey] at hv
    obtain ⟨o, e1, e2⟩ := bd_some hv
    obtain ⟨τ', ws, t1, t2⟩ := hs y v o (List.mem_of_getElem? hj) e1
    refine ⟨τ', ws, t1, ms_imp t2 (fun τ l => ?_) (fun q l => ?_) (fun τ l => ?_) (fun τ l => ?_) fun _ _ z => z.elim⟩
    · obtain ⟨v', rfl, l⟩ := l
      exact ⟨v', e2, l⟩
    · obtain ⟨r, rfl, rfl⟩ := l
      cases e2
      exact hr r rfl
    · obtain ⟨v', rfl, l⟩ := l
      cases e2
      exact hd v' τ rfl l
    · obtain ⟨v', rfl, l⟩ := l
      exact ⟨v', e2, l⟩
  · rw [List.drop_length] at hv
    cases hv
    exact hd v τ rfl l
/-- if whose ways come together, none leaves -/
theorem m_ifP {c : Expr} {a b : List Stmt} {t : Bool} {p : Pos} {out : V} (Rn : V → Slots) (hc : MT X ρ c t) (h1 : t = true → MS X ρ a { nx := fun τ => Le τ (Rn out) }) (h2 : t = false → MS X ρ b { nx := fun τ => Le τ (Rn out) })
    (kn : ∀ τ, Le τ (Rn out) → G.nx τ) : MS1 X ρ (.If c a b p) G := by
  have im : ∀ {s : List Stmt}, MS X ρ s { nx := fun τ => Le τ (Rn out) } → MS X ρ s G := fun h => ms_imp h (fun τ l => kn τ l) (fun q z => z.elim) (fun τ z => z.elim) (fun τ z => z.elim) fun _ _ z => z.elim
  exact m_if hc (fun h => im (h1 h)) fun h => im (h2 h)
theorem atI_map {enc : α → D} {xs : List α} {k : Int} {y : α} (h : L2.atI xs k = some y) : L2.atI (xs.map enc) k = some (enc y) := by
  unfold L2.atI at h ⊢
  rw [List.length_map]
  cases e : ixN xs.length k with
  | none => rw [e] at h; cases h
  | some n =>
    rw [e] at h
    have h : xs[n]? = some y := h
    show (xs.map enc)[n]? = some (enc y)
    rw [List.getElem?_map, h]
    rfl
theorem me_ixLT {xs : List α} {enc : α → D} {k : Int} {y : α} (h : L2.atI xs k = some y) (ha : ML X ρ a (xs.map enc)) (hb : ME X ρ b (.fz (.int k))) (hp : PlainIx b := by exact fun _ _ => rfl) : ME X ρ (.Subscript a b pos) (.fz (enc y)) := me_ixL ha hb (atI_map h) hp
theorem me_catLT {xs ys : List α} {enc : α → D} (hl : xs.length + ys.length ≤ sizeLine) (ha : MV X ρ a (.lst ((xs.map enc).map .fz))) (hb : MV X ρ b (.lst ((ys.map enc).map .fz))) : ME X ρ (.BinOp a .Add b pos) (.lst (((xs ++ ys).map enc).map .fz)) := ME.is (me_catL ha hb (by rw [List.length_map, List.length_map]; exact hl)) (congrArg (fun z => O.lst (List.map O.fz z)) List.map_append.symm)
theorem mi_rangeT {j : Int} (h : MF X ρ es [.int j]) (h1 : -(2 ^ 62) ≤ j ∧ j < 2 ^ 62) : MI X ρ (iRng1 (wA X es)) ((List.range j.toNat).map fun k : Nat => D.int (k : Nat)) := by
  have q := mi_range1 h h1.1 h1.2
  unfold rng at q
  simp only [Int.zero_add] at q
  exact q
theorem mi_strT {y : Str} (h : ME X ρ e (.fz (.str y))) : MI X ρ (iStr (wE X e)) (y.cps.toList.map fun c => D.str ⟨#[c]⟩) := mi_str h
end
/-- the promise of a def by its mirror -/
def SpF {A R : Type} (K : PySem.W.Frag) (ar : A → List O) (f : A → Option R) (er : R → O) : Sp := SpM K (fun x : A × R => ar x.1) (fun x => f x.1 = some x.2) (fun x => er x.2)
end M
namespace M
open PySem L2 PySem.Spec PyProof.Rows
abbrev sg1 (c : Nat) : Str := ⟨#[c]⟩
abbrev strI (m : Int) : Str := toString m
abbrev e_d (d : D) : D := d
def Ok {α : Type} (o : Option α) (P : α → Prop) : Prop := ∃ r, o = some r ∧ P r
section
variable {α β V W R : Type} {P : β → Prop}
theorem ok_gd {p : Prop} {k : Option β} (h : p) (hk : Ok k P) : Ok (gd p k) P := by rw [gd_pos h]; exact hk
theorem ok_bd {o : Option α} {k : α → Option β} {Q : α → Prop} (h : Ok o Q) (hk : ∀ a, Q a → Ok (k a) P) : Ok (bd o k) P := by
  obtain ⟨a, e, q⟩ := h
  rw [bd_of e]
  exact hk a q
theorem ok_lt {a : α} {k : α → Option β} (hk : Ok (k a) P) : Ok (lt a k) P := hk
theorem ok_ltx {a : α} {k : α → Option β} (hk : ∀ x, x = a → Ok (k x) P) : Ok (lt a k) P := hk a rfl
theorem ok_some {b : β} (h : P b) : Ok (some b) P := ⟨b, rfl, h⟩
theorem ok_cond {c : Bool} {a b : Option β} (h1 : c = true → Ok a P) (h2 : c = false → Ok b P) : Ok (cond c a b) P := by
  cases c with
  | true => exact h1 rfl
  | false => exact h2 rfl
theorem ok_t {c : Bool} {a b : Option β} (hc : c = true) (h : Ok a P) : Ok (cond c a b) P := by rw [hc]; exact h
theorem ok_f {c : Bool} {a b : Option β} (hc : c = false) (h : Ok b P) : Ok (cond c a b) P := by rw [hc]; exact h
theorem Ok.imp {Q : β → Prop} {o : Option β} (h : Ok o Q) (f : ∀ r, Q r → P r) : Ok o P := let ⟨r, e, q⟩ := h; ⟨r, e, f r q⟩
theorem Ok.eq {o : Option β} {b : β} (h : Ok o (· = b)) : o = some b := by obtain ⟨r, e, rfl⟩ := h; exact e
theorem Ok.of {o : Option β} {b : β} (h : o = some b) : Ok o (· = b) := ⟨b, h, rfl⟩
theorem ok_atI {xs : List α} {k : Int} {Q : α → Prop} (h0 : 0 ≤ k) (h1 : k < xs.length) (q : ∀ y, xs[k.toNat]? = some y → Q y) : Ok (L2.atI xs k) Q := by
  have hk : k.toNat < xs.length := by omega
  refine ⟨xs[k.toNat], ?_, q _ (List.getElem?_eq_getElem hk)⟩
  obtain ⟨n, rfl⟩ := Int.eq_ofNat_of_zero_le h0
  exact atI_nat (List.getElem?_eq_getElem (by simpa using hk))
theorem ok_atIm {xs : List α} {k : Int} {Q : α → Prop} (h0 : 0 ≤ k) (h1 : k < xs.length) (q : ∀ y ∈ xs, Q y) : Ok (L2.atI xs k) Q := ok_atI h0 h1 fun y e => q y (List.mem_of_getElem? e)
theorem ok_lpN {f : α → V → Option (Ou V V R)} {xs : List α} {v : V} {Q : Ou V V R → Prop} (I : Nat → V → Prop) (h0 : I 0 v) (h : ∀ (i : Nat) (x : α) (v : V), xs[i]? = some x → I i v → Ok (f x v) fun o => ∃ v', (o = .nx v' ∨ o = .ct v') ∧ I (i + 1) v') (hd : ∀ v, I xs.length v → Q (.nx v)) : Ok (lpO f xs v) Q := by
  obtain ⟨v', e, i⟩ := lpO_inv (f := f) I h0 fun i x v hx hv => by
    obtain ⟨o, e, v', e2, q⟩ := h i x v hx hv
    exact ⟨v', e2.imp (fun z => by rw [e, z]) (fun z => by rw [e, z]), q⟩
  exact ⟨_, e, hd v' i⟩
end
section
variable {X : Cx} {ρ : Slots} {e a b c elt : Expr} {es : List Expr} {st : Stmt} {sts : List Stmt} {G : Go} {o o1 o2 : O} {d : D} {ds : List D} {pos p0 p1 p2 p3 p4 : Pos} {i : Nat} {x nm : Str} {α β : Type} {p q : Str} {k l : Bool} {m n : Int}
theorem MT.is (h : MT X ρ e k) (q : k = l) : MT X ρ e l := q ▸ h
theorem MW.is (h : MW X ρ e k) (q : k = l) : MW X ρ e l := q ▸ h
theorem ME.isB (h : ME X ρ e (.fz (.bl k))) (q : k = l) : ME X ρ e (.fz (.bl l)) := q ▸ h
theorem me_lenLT {xs : List α} {enc : α → D} (hg : Gl X "len") (hm : X.mg "len" = none) (ha : ML X ρ a (xs.map enc)) (n1 : NS X a := by exact fun _ => rfl) : ME X ρ (.Call (.Name "len" p0) [a] [] pos) (.fz (.int (xs.length : Int))) := ME.is (me_len hg hm ha n1) (by rw [List.length_map])
theorem among_b {k : Bool} {xs : List Bool} : D.among (.bl k) (xs.map .bl) = xs.contains k := by
  unfold D.among inV
  rw [List.map_map, List.any_map]
  induction xs with
  | nil => rfl
  | cons y xs ih =>
    rw [List.any_cons, List.contains_cons, ih]
    congr 1
    exact BEq.comm
theorem flat_b {xs : List Bool} : (xs.map D.bl).all D.flat = true := by
  rw [List.all_map]
  exact List.all_eq_true.mpr fun _ _ => rfl
theorem me_inL (ha : ME X ρ a (.fz d)) (hb : ML X ρ b ds) (hf : d.flat = true := by rfl) (hfs : ds.all D.flat = true := by rfl) (hm : behindInMarks .In b = false := by rfl) : ME X ρ (.Compare a [.In] [b] pos) (.fz (.bl (d.among ds))) := .mk fun Z0 F Z σ H s Q q =>
  PE_w (pe_cmpR op_in_seq pe_w pe_w hm) (inL_core op_in_seq ha hb hf hfs s fun Z' H' g => q _ Z' H' [] g (.fz (.bl _)) .nil)
section
variable {xi : List Int} {xs : List Str} {xb : List Bool}
theorem me_inLT_b (ha : ME X ρ a (.fz (.bl k))) (hb : ML X ρ b (xb.map .bl)) (hm : behindInMarks .In b = false := by rfl) : ME X ρ (.Compare a [.In] [b] pos) (.fz (.bl (xb.contains k))) := (me_inL ha hb rfl flat_b hm).isB among_b
end
theorem me_slS {lo hi : Option Expr} {li hj : Option Int} (hz : p.length ≤ sizeLine) (ha : ME X ρ a (.fz (.str p))) (hl : MO X ρ lo li) (hh : MO X ρ hi hj) : ME X ρ (.Subscript a (.Slice lo hi none p2) pos) (.fz (.str (cutS p li hj))) := .mk fun Z0 F Z σ H s Q q => by
  obtain ⟨tl, pl, kl⟩ := hl.run
  obtain ⟨th, ph, kh⟩ := hh.run
  refine PE_w (pe_slice sl_str pe_w pl ph) (ha.run Z0 F Z σ H s _ fun v Z1 H1 A1 g1 r1 n1 => kl Z0 F Z1 σ H1 (s.grow g1) _ fun Z2 H2 g2 => kh Z0 F Z2 σ H2 (s.grow (g1.trans g2)) _ fun Z3 H3 g3 => ?_)
  cases r1 with
  | fz r1 =>
    cases r1
    exact ⟨p, rfl, hz, q _ Z3 H3 [] (g1.trans (g2.trans g3)) (.fz (.str _)) .nil⟩
end
end M
namespace M
open PySem L2 PySem.Spec PyProof.Rows
section
variable {X : Cx} {ρ : Slots} {e a b c elt : Expr} {es : List Expr} {st : Stmt} {sts : List Stmt} {G : Go} {o o1 o2 : O} {d : D} {ds : List D} {pos p0 p1 p2 p3 p4 : Pos} {i : Nat} {x nm : Str} {α β γ : Type} {p q : Str} {k l : Bool} {m n : Int} {te : TE}
def repS (z : Str) (n : Int) : Str := ⟨(List.replicate n.toNat z.cps.toList).flatten.toArray⟩
theorem foldl_app {γ : Type} : ∀ (n : Nat) (c a : Array γ), (List.replicate n c).foldl (· ++ ·) a = ⟨a.toList ++ (List.replicate n c.toList).flatten⟩
  | 0, c, a => by simp
  | n + 1, c, a => by
    rw [List.replicate_succ, List.foldl_cons, foldl_app n, List.replicate_succ, List.flatten_cons]
    simp
theorem op_mul_str : OpR X (binaryOp .Mult) (fun x y H Q => ∃ z n, x = .str z ∧ y = .int n ∧ ((-(2 ^ 63) ≤ n ∧ n < 2 ^ 63) ∧ z.length * n.toNat ≤ 16777216) ∧ Q (.str (repS z n)) H) := by
  intro pins s σ H x y v u Q I rx ry h
  obtain ⟨z, n, rfl, rfl, ⟨⟨h1, h2⟩, h3⟩, q⟩ := h
  obtain ⟨t, rfl⟩ := rx
  obtain ⟨t', rfl⟩ := ry
  have hle : ¬ n < 1 → z.length ≤ 16777216 := fun hn => by
    have : 1 ≤ n.toNat := by omega
    exact Nat.le_trans (by have := Nat.mul_le_mul_left z.length this; omega) h3
  refine PySem.P.mul_str (by rw [decide_eq_false (by omega), decide_eq_false (by omega)]; rfl) (fun hn h0 hb => ?_) (fun hn h0 => ?_) ?_
  · have h1 : ((z.length : Int)) * n ≤ 16777216 := by
      have e : (n.toNat : Int) = n := by omega
      have := Int.ofNat_le.mpr h3
      rw [Int.natCast_mul, e] at this
      exact this
    have hn1 : 1 ≤ n := by omega
    have hq : (2 ^ 63 - 1) / n ≥ (z.length : Int) := by
      rw [ge_iff_le, Int.le_ediv_iff_mul_le (by omega)]
      omega
    omega
  · show decide (z.length * n.toNat > 16777216) = false
    exact decide_eq_false (by omega)
  · by_cases hn : n < 1
    · rw [if_pos hn]
      have e : repS z n = Str.empty := by
        unfold repS
        rw [show n.toNat = 0 by omega]
        rfl
      rw [e] at q
      exact ⟨by decide, .str _, H, I.tok _, ⟨_, rfl⟩, q⟩
    · rw [if_neg hn]
      by_cases h0 : (n == 1 || z.length == 0) = true
      · rw [if_pos h0]
        have e : repS z n = z := by
          unfold repS
          rw [Bool.or_eq_true, beq_iff_eq, beq_iff_eq] at h0
          rcases h0 with h0 | h0
          · subst h0
            simp
          · have : z.cps.toList = [] := by
              apply List.eq_nil_of_length_eq_zero
              rw [Array.length_toList]
              exact h0
            rw [this]
            have e2 : (List.replicate n.toNat ([] : List Nat)).flatten = [] := by simp
            rw [e2]
            obtain ⟨⟨l⟩⟩ := z
            have this : l = [] := this
            rw [this]
        rw [e] at q
        exact ⟨.str _, H, I, ⟨_, rfl⟩, q⟩
      · rw [if_neg h0]
        have e : (⟨(List.replicate n.toNat z.cps).foldl (· ++ ·) #[]⟩ : Str) = repS z n := by
          rw [foldl_app]
          rfl
        rw [e]
        refine ⟨?_, .str _, H, I.tok _, ⟨_, rfl⟩, q⟩
        have : (repS z n).length = n.toNat * z.length := by simp [repS, Str.length, List.length_flatten]
        rw [this, Nat.mul_comm]
        exact h3
theorem me_repS {kk : Int} (h : (-(2 ^ 63) ≤ kk ∧ kk < 2 ^ 63) ∧ p.length * kk.toNat ≤ 16777216) (ha : ME X ρ a (.fz (.str p))) (hb : ME X ρ b (.fz (.int kk))) : ME X ρ (.BinOp a .Mult b pos) (.fz (.str (repS p kk))) := me_op op_mul_str ha hb (.str p) (.int kk) (.str _) fun _ _ q => ⟨p, kk, rfl, rfl, h, q⟩
end
end M
namespace M
open PySem L2 PySem.Spec PyProof.Rows
section
variable {X : Cx} {ρ : Slots} {e a b c elt : Expr} {es : List Expr} {st : Stmt} {sts : List Stmt} {G : Go} {o o1 o2 : O} {d : D} {ds : List D} {os : List O} {pos p0 p1 p2 p3 p4 : Pos} {i : Nat} {x nm f : Str} {C : Addr} {ns : List Str}
theorem OC.take {K : PySem.W.Frag} {all : List Str} (n : Nat) (h : OC K C all) : OC K C (all.take n) := ⟨h.cl, fun f m => h.na f (List.mem_of_mem_take m)⟩
end
end M
namespace M
open PySem L2 PySem.Spec PyProof.Rows
/-- slots that are fit for what follows: gone, of one's own, or a view at a known place that stands as it stood -/
inductive Kp : Slots → Slots → Prop where
  | nil : Kp [] []
  | no {x : Option O} {ρ τ : Slots} : Kp ρ τ → Kp (x :: ρ) (none :: τ)
  | nv {x : Option O} {o : O} {ρ τ : Slots} : o.nv = true → Kp ρ τ → Kp (x :: ρ) (some o :: τ)
  | va {a : Addr} {ds : List D} {ρ τ : Slots} : Kp ρ τ → Kp (some (.vwa a ds) :: ρ) (some (.vwa a ds) :: τ)
  | lk {a : Addr} {o : O} {ρ τ : Slots} : Kp ρ τ → Kp (some (.lk (.loc a o)) :: ρ) (some (.lk (.loc a o)) :: τ)
section
variable {K : PySem.W.Frag} {Z0 Z Z1 F F' H H1 : Hp}
theorem StL.monoF (f : Ex F F') : ∀ {ρ : Slots} {σ : L2.St} {A : List Addr}, StL K Z F H ρ σ A → StL K Z F' H ρ σ A
  | _, _, _, .nil => .nil
  | _, _, _, .no h => .no (h.monoF f)
  | _, _, _, .so r h => .so (r.mono (Ex.refl _) f fun _ _ _ e => e) (h.monoF f)
theorem RepO.lkAt {v : V} {a : Addr} {o : O} {A : List Addr} (r : RepO K Z F H v (.lk (.loc a o)) A) : v = .ref a ∧ A = [] ∧ RepK K Z F (.ref a) o := by
  cases r with
  | lk r =>
    cases r with
    | loc r => exact ⟨rfl, rfl, r⟩
theorem StL.kp (ef : Ex F F') (ez : Ex Z Z1) : ∀ {ρ τ : Slots} {σ0 σ : L2.St} {A0 A : List Addr}, Kp ρ τ → StL K Z F H ρ σ0 A0 → StL K Z1 F' H1 τ σ A → StL K Z1 F H1 τ σ A
  | _, _, _, _, _, _, .nil, .nil, .nil => .nil
  | _, _, _, _, _, _, .no k, .no h0, .no h => .no (StL.kp ef ez k h0 h)
  | _, _, _, _, _, _, .no k, .so _ h0, .no h => .no (StL.kp ef ez k h0 h)
  | _, _, _, _, _, _, .nv n k, .no h0, .so r h => .so (r.unF n) (StL.kp ef ez k h0 h)
  | _, _, _, _, _, _, .nv n k, .so _ h0, .so r h => .so (r.unF n) (StL.kp ef ez k h0 h)
  | _, _, _, _, _, _, .va k, .so r0 h0, .so r h => by
    cases r with
    | vwa r2 r3 =>
      cases r0 with
      | vwa r4 r5 => exact .so (.vwa r4 (r5.mono ez)) (StL.kp ef ez k h0 h)
  | _, _, _, _, _, _, .lk (a := a) (o := o) k, .so r0 h0, .so r h => by
    have e0 := RepO.lkAt r0
    have e1 := RepO.lkAt r
    rw [e1.1, e1.2.1]
    exact .so (.lk (.loc (e0.2.2.mono ez (Ex.refl _)))) (StL.kp ef ez k h0 h)
end
section
variable {X : Cx} {ρ : Slots} {st : Stmt} {sts : List Stmt} {G : Go} {o : O} {d : D} {ds : List D} {i : Nat}
end
end M
namespace M
open PySem L2 PySem.Spec PyProof.Rows
section
variable {X : Cx} {ρ : Slots} {a b : Expr} {pos : Pos} {p : Str} {m : Int} {k : Bool}
end
end M
namespace M
open PySem L2 PySem.Spec PyProof.Rows
def isiD (T : String) (d : D) : Option Bool := d.tyN.bind fun t => kitB t T
def asS : D → Option Str
  | .str x => some x
  | _ => none
theorem asS_is {d : D} {i : Str} (h : asS d = some i) : O.fz d = .fz (.str i) := by
  cases d <;> cases h
  rfl
section
variable {X : Cx} {ρ : Slots} {a b c e : Expr} {pos p0 p1 : Pos} {d : D} {k : Bool}
theorem me_isiD {T : String} {TS : Str} (hk : isiD T d = some k) (hg : Gl X "isinstance") (hm : X.mg "isinstance" = none) (hT : PE X (.Name TS p1) (tC (.ty T))) (ha : MV X ρ a (.fz d)) (n1 : NS X a := by exact fun _ => rfl) :
    ME X ρ (.Call (.Name "isinstance" p0) [a, .Name TS p1] [] pos) (.fz (.bl k)) := by
  obtain ⟨t, h1, h2⟩ := Option.bind_eq_some_iff.mp hk
  exact me_isi hg hm hT ha (o := .fz d) h1 h2 n1
end
end M
namespace M
open PySem L2 PySem.Spec PyProof.Rows
section
variable {X : Cx} {ρ : Slots} {e a b : Expr} {es : List Expr} {pos p0 p1 : Pos} {nm : Str} {C : Addr} {ns : List Str} {ds : List D} {o : O} {d : D}
/-- a default is a plain value -/
inductive Dfl : List V → List D → Prop where
  | nil : Dfl [] []
  | cons {v : V} {d : D} {vs : List V} {ds : List D} : Sc d v → Dfl vs ds → Dfl (v :: vs) (d :: ds)
theorem Dfl.own {K : PySem.W.Frag} {Z F H : Hp} : ∀ {vs : List V} {ds : List D}, Dfl vs ds → RepOL K Z F H vs (ds.map .fz) []
  | _, _, .nil => .nil
  | _, _, .cons h r => .cons (A := []) (B := []) (.fz h.rep) r.own
end
end M
namespace M
open PySem L2 PySem.Spec PyProof.Rows
section
variable {K : PySem.W.Frag} {Z0 Z Z' Z1 F F' H H' H1 : Hp} {ρ ρ' : Slots} {σ : L2.St}
theorem RepOL.foc : ∀ {vs : List V} {os : List O} {A : List Addr} {j : Nat} {o : O}, RepOL K Z F H vs os A → os[j]? = some o → A.Nodup →
    ∃ v B, vs[j]? = some v ∧ RepO K Z F H v o B ∧ B.Nodup ∧ (∀ a ∈ B, a ∈ A) ∧ ∀ {Z' H' : Hp} {o' : O} {B' : List Addr}, Ex Z Z' → (∀ a ∈ A, a ∉ B → ∀ u, H a = some u → H' a = some u) → RepO K Z' F H' v o' B' → B'.Nodup → (∀ a ∈ B', a ∈ A → a ∈ B) →
      ∃ A', RepOL K Z' F H' vs (os.set j o') A' ∧ A'.Nodup ∧ ∀ a ∈ A', (a ∈ A ∧ a ∉ B) ∨ a ∈ B'
  | _, _, _, _, _, .nil, e, _ => by simp at e
  | _, _, _, 0, _, .cons (A := A1) (B := A2) q h, e, nA => by
    simp at e
    subst e
    obtain ⟨n1, n2, n3⟩ := List.nodup_append.mp nA
    refine ⟨_, A1, rfl, q, n1, fun a m => List.mem_append_left _ m, fun ez k r n d => ?_⟩
    refine ⟨_, .cons r (RepOL.mono ez (Ex.refl _) h fun a m => k a (List.mem_append_right _ m) fun z => n3 a z a m rfl), List.nodup_append.mpr ⟨n, n2, fun a ha b hb e => ?_⟩, fun a m => ?_⟩
    · subst e
      exact n3 a (d a ha (List.mem_append_right _ hb)) a hb rfl
    · rcases List.mem_append.mp m with m | m
      · exact .inr m
      · exact .inl ⟨List.mem_append_right _ m, fun z => n3 a z a m rfl⟩
  | _, _, _, j + 1, _, .cons (A := A1) (B := A2) q h, e, nA => by
    obtain ⟨n1, n2, n3⟩ := List.nodup_append.mp nA
    obtain ⟨v, B, h1, h2, h3, h4, h5⟩ := RepOL.foc (j := j) h (by simpa using e) n2
    refine ⟨v, B, by simpa using h1, h2, h3, fun a m => List.mem_append_right _ (h4 a m), fun ez k r n d => ?_⟩
    obtain ⟨A', q1, q2, q3⟩ := h5 ez (fun a m nb => k a (List.mem_append_right _ m) nb) r n fun a m z => d a m (List.mem_append_right _ z)
    refine ⟨_, .cons (q.mono ez (Ex.refl _) fun a m => k a (List.mem_append_left _ m) fun z => n3 a m a (h4 a z) rfl) q1, List.nodup_append.mpr ⟨n1, q2, fun a ha b hb e => ?_⟩, fun a m => ?_⟩
    · subst e
      rcases q3 a hb with z | z
      · exact n3 a ha a z.1 rfl
      · exact n3 a ha a (h4 a (d a z (List.mem_append_left _ ha))) rfl
    · rcases List.mem_append.mp m with m | m
      · exact .inl ⟨List.mem_append_left _ m, fun z => n3 a m a (h4 a z) rfl⟩
      · exact (q3 a m).imp (fun z => ⟨List.mem_append_right _ z.1, z.2⟩) id
/-- a state with what it owns -/
structure StA (K : PySem.W.Frag) (ρ : Slots) (Z0 F Z : Hp) (σ : L2.St) (H : Hp) (A : List Addr) : Prop where
  gr : Gr Z0 F Z H
  st : StL K Z F H ρ σ A
  nd : A.Nodup
  ds : ∀ a ∈ A, Z a = none ∧ F a = none
theorem StA.r {A : List Addr} (s : StA K ρ Z0 F Z σ H A) : StR K ρ Z0 F Z σ H := ⟨s.gr, A, s.st, s.nd, s.ds⟩
theorem StR.a (s : StR K ρ Z0 F Z σ H) : ∃ A, StA K ρ Z0 F Z σ H A := let ⟨A, h1, h2, h3⟩ := s.st; ⟨A, s.gr, h1, h2, h3⟩
theorem StA.grow {A : List Addr} (s : StA K ρ Z0 F Z σ H A) (g : Gr Z H Z' H') : StA K ρ Z0 F Z' σ H' A := by
  refine ⟨s.gr.trans g, s.st.mono g.zz fun a _ u e => g.hh a u e, s.nd, fun a m => ⟨?_, (s.ds a m).2⟩⟩
  obtain ⟨u, e⟩ := s.st.there a m
  rw [g.nw a u e]
  exact (s.ds a m).1
/-- what a change at A must leave as it is -/
def Kept (F : Hp) (T A : List Addr) (a : Addr) : Prop := a ∉ A ∧ (a ∈ T ∨ ∃ u, F a = some u)
/-- the part at a place: what is there, and what comes of it where it is changed -/
structure FocA (K : PySem.W.Frag) (F Z : Hp) (Z0 : Hp) (σ : L2.St) (H : Hp) (T : List Addr) (v : V) (o : O) (R : O → Slots) (A : List Addr) : Prop where
  rp : RepO K Z F H v o A
  nd : A.Nodup
  ds : ∀ a ∈ A, a ∈ T ∧ Z a = none ∧ F a = none
  th : ∀ a ∈ T, ∃ u, H a = some u
  fh : Ex F H
  k : ∀ {Z' H' : Hp} {w : V} {o' p : O} {B : List Addr}, Ex Z Z' → (∀ a, Kept F T A a → Z' a = Z a) → Ex Z' H' → (∀ a, Kept F T A a → ∀ u, H a = some u → H' a = some u) → RepOL K Z' F H' [v, w] [o', p] B → B.Nodup → (∀ a ∈ B, (a ∈ A ∨ a ∉ T ∧ F a = none) ∧ Z' a = none) →
    StR K (R o' ++ [some p]) Z0 F Z' (σ ++ [some w]) H'
def Foc (K : PySem.W.Frag) (Z0 F Z : Hp) (σ : L2.St) (H : Hp) (T : List Addr) (v : V) (o : O) (R : O → Slots) : Prop := ∃ A, FocA K F Z Z0 σ H T v o R A
theorem StA.foc {T : List Addr} {i : Nat} {o : O} (s : StA K ρ Z0 F Z σ H T) (hi : ρ[i]? = some (some o)) : ∃ v, σ[i]? = some (some v) ∧ Foc K Z0 F Z σ H T v o (fun o' => ρ.set i (some o')) := by
  obtain ⟨v, B0, q1, q2, q3, q4, q5⟩ := s.st.at hi s.nd
  refine ⟨v, q1, B0, q2, q3, fun a m => ⟨q4 a m, s.ds a (q4 a m)⟩, s.st.there, s.gr.hh, fun {Z' H' w o' p B} ez nz zh k r n d => ?_⟩
  cases r with
  | @cons _ _ _ _ A1 B1 ra r =>
    cases r with
    | @cons _ _ _ _ A2 B2 rb r =>
      cases r
      rw [List.append_nil] at n d
      obtain ⟨n1, n2, n3⟩ := List.nodup_append.mp n
      have apart : ∀ a ∈ A1 ++ A2, a ∈ T → a ∈ B0 := fun a m ma => (d a m).1.elim id fun z => absurd ma z.1
      obtain ⟨A', r1, r2, r3⟩ := q5 (v' := v) ez (fun a m nb u e => k a ⟨nb, .inl m⟩ u e) ra n1 fun a m ma => apart a (List.mem_append_left _ m) ma
      rw [set_same q1] at r1
      have hF : ∀ a u, F a = some u → a ∉ B0 := fun a u e m => by
        rw [(s.ds a (q4 a m)).2] at e
        cases e
      refine ⟨⟨s.gr.zz.trans ez, fun a u e => k a ⟨hF a u e, .inr ⟨u, e⟩⟩ u (s.gr.hh a u e), zh, fun a u e => (nz a ⟨hF a u e, .inr ⟨u, e⟩⟩).trans (s.gr.nw a u e)⟩, A' ++ A2, r1.push rb, List.nodup_append.mpr ⟨r2, n2, fun a ha b hb e => ?_⟩, fun a m => ?_⟩
      · subst e
        rcases r3 a ha with z | z
        · exact z.2 (apart a (List.mem_append_right _ hb) z.1)
        · exact n3 a z a hb rfl
      · have new : a ∈ A1 ++ A2 → Z' a = none ∧ F a = none := fun y => by
          refine ⟨(d a y).2, ?_⟩
          rcases (d a y).1 with z | z
          · exact (s.ds a (q4 a z)).2
          · exact z.2
        rcases List.mem_append.mp m with m | m
        · rcases r3 a m with z | z
          · exact ⟨(nz a ⟨z.2, .inl z.1⟩).trans (s.ds a z.1).1, (s.ds a z.1).2⟩
          · exact new (List.mem_append_left _ z)
        · exact new (List.mem_append_right _ m)
theorem Foc.grow {T : List Addr} {v : V} {o : O} {R : O → Slots} (f : Foc K Z0 F Z σ H T v o R) (g : Gr Z H Z1 H1) : Foc K Z0 F Z1 σ H1 T v o R := by
  obtain ⟨A, f⟩ := f
  refine ⟨A, f.rp.ex g.zz g.hh, f.nd, fun a m => ⟨(f.ds a m).1, ?_, (f.ds a m).2.2⟩, fun a m => ?_, f.fh.trans g.hh, fun {Z' H' w o' p B} ez nz zh k r n d => ?_⟩
  · obtain ⟨u, e⟩ := f.rp.there a m
    exact (g.nw a u e).trans (f.ds a m).2.1
  · obtain ⟨u, e⟩ := f.th a m
    exact ⟨u, g.hh a u e⟩
  · refine f.k (g.zz.trans ez) (fun a ka => ?_) zh (fun a ka u e => k a ka u (g.hh a u e)) r n d
    have : ∃ u, H a = some u := ka.2.elim (f.th a) fun ⟨u, e⟩ => ⟨u, f.fh a u e⟩
    obtain ⟨u, e⟩ := this
    exact (nz a ka).trans (g.nw a u e)
theorem FocA.chg {T A : List Addr} {v : V} {o : O} {R : O → Slots} (f : FocA K F Z Z0 σ H T v o R A) {o' : O} {B : List Addr} (ez : Ex Z Z') (nz : ∀ a, Kept F T A a → Z' a = Z a) (zh : Ex Z' H') (k : ∀ a, Kept F T A a → ∀ u, H a = some u → H' a = some u) (r : RepO K Z' F H' v o' B) (n : B.Nodup) (d : ∀ a ∈ B, (a ∈ A ∨ a ∉ T ∧ F a = none) ∧ Z' a = none) : StR K (R o') Z0 F Z' σ H' := by
  have := f.k (w := .non) (p := .fz .non) ez nz zh k (.cons r (.cons (A := []) (.fz .non) .nil)) (by simpa using n) (fun a m => d a (by simpa using m))
  exact this.pop
/-- one step down -/
theorem FocA.down {X : Type} {T A : List Addr} {v : V} {mk : List O → O} {cell : X → List V → HO} {P : Addr → Prop} {R : O → Slots} {os : List O} {j : Nat} {o : O}
    (hmk : ∀ {Z H : Hp} {v : V} {os : List O} {A : List Addr}, RepO K Z F H v (mk os) A ↔ ∃ a x vs A1, P a ∧ v = .ref a ∧ A = a :: A1 ∧ H a = some (cell x vs) ∧ RepOL K Z F H vs os A1)
    (f : FocA K F Z Z0 σ H T v (mk os) R A) (hj : os[j]? = some o) : ∃ a x vs v', v = .ref a ∧ H a = some (cell x vs) ∧ vs.length = os.length ∧ vs[j]? = some v' ∧ Foc K Z0 F Z σ H T v' o (fun o' => R (mk (os.set j o'))) := by
  obtain ⟨a, x, vs, A1, pa, rfl, rfl, ha, rl⟩ := hmk.mp f.rp
  obtain ⟨na, nA⟩ := List.nodup_cons.mp f.nd
  obtain ⟨v', B, q1, q2, q3, q4, q5⟩ := rl.foc hj nA
  have lenL : ∀ {vs : List V} {os : List O} {A : List Addr}, RepOL K Z F H vs os A → vs.length = os.length := fun r => r.length
  refine ⟨a, x, vs, v', rfl, ha, lenL rl, q1, B, q2, q3, fun b m => f.ds b (List.mem_cons_of_mem _ (q4 b m)), f.th, f.fh, fun {Z' H' w o' p B2} ez nz zh k r n d => ?_⟩
  cases r with
  | @cons _ _ _ _ B3 _ ra r =>
    cases r with
    | @cons _ _ _ _ B4 _ rb r =>
      cases r
      rw [List.append_nil] at n d
      obtain ⟨n1, n2, n3⟩ := List.nodup_append.mp n
      have aB : a ∉ B := fun m => na (q4 a m)
      have kA : ∀ b ∈ A1, b ∉ B → Kept F T B b := fun b m nb => ⟨nb, .inl (f.ds b (List.mem_cons_of_mem _ m)).1⟩
      have kT : ∀ b, Kept F T (a :: A1) b → Kept F T B b := fun b kb => ⟨fun m => kb.1 (List.mem_cons_of_mem _ (q4 b m)), kb.2⟩
      have ka : Kept F T B a := ⟨aB, .inl (f.ds a List.mem_cons_self).1⟩
      have apart : ∀ b ∈ B3 ++ B4, b ∈ a :: A1 → b ∈ B := fun b m mb => (d b m).1.elim id fun z => absurd (f.ds b mb).1 z.1
      obtain ⟨A', t1, t2, t3⟩ := q5 ez (fun b m nb u e => k b (kA b m nb) u e) ra n1 fun b m mb => apart b (List.mem_append_left _ m) (List.mem_cons_of_mem _ mb)
      have rm : RepO K Z' F H' (.ref a) (mk (os.set j o')) (a :: A') := hmk.mpr ⟨a, x, vs, A', pa, rfl, rfl, k a ka _ ha, t1⟩
      have aA' : a ∉ A' := fun m => by
        rcases t3 a m with z | z
        · exact na z.1
        · exact aB (apart a (List.mem_append_left _ z) List.mem_cons_self)
      refine f.k ez (fun b kb => nz b (kT b kb)) zh (fun b kb u e => k b (kT b kb) u e) (.cons rm (.cons rb .nil)) ?_ fun b m => ?_
      · rw [List.append_nil]
        refine List.nodup_append.mpr ⟨List.nodup_cons.mpr ⟨aA', t2⟩, n2, fun b hb c hc e => ?_⟩
        subst e
        rcases List.mem_cons.mp hb with z | z
        · subst z
          exact aB (apart b (List.mem_append_right _ hc) List.mem_cons_self)
        · rcases t3 b z with y | y
          · exact y.2 (apart b (List.mem_append_right _ hc) (List.mem_cons_of_mem _ y.1))
          · exact n3 b y b hc rfl
      · rw [List.append_nil] at m
        have new : b ∈ B3 ++ B4 → (b ∈ a :: A1 ∨ b ∉ T ∧ F b = none) ∧ Z' b = none := fun y => ⟨(d b y).1.imp (fun z => List.mem_cons_of_mem _ (q4 b z)) id, (d b y).2⟩
        rcases List.mem_append.mp m with m | m
        · rcases List.mem_cons.mp m with z | z
          · subst z
            exact ⟨.inl List.mem_cons_self, (nz b ka).trans (f.ds b List.mem_cons_self).2.1⟩
          · rcases t3 b z with y | y
            · exact ⟨.inl (List.mem_cons_of_mem _ y.1), (nz b (kA b y.1 y.2)).trans (f.ds b (List.mem_cons_of_mem _ y.1)).2.1⟩
            · exact new (List.mem_append_left _ y)
        · exact new (List.mem_append_right _ m)
theorem hm_lst : ∀ {Z H : Hp} {v : V} {os : List O} {A : List Addr}, RepO K Z F H v (.lst os) A ↔ ∃ a, ∃ _ : Unit, ∃ vs A1, True ∧ v = .ref a ∧ A = a :: A1 ∧ H a = some (.lst vs) ∧ RepOL K Z F H vs os A1 := by
  intro Z H v os A
  constructor
  · intro r
    cases r with
    | lst h r => exact ⟨_, (), _, _, trivial, rfl, rfl, h, r⟩
  · rintro ⟨a, _, vs, A1, _, rfl, rfl, h, r⟩
    exact .lst h r
theorem hm_ins {C : Addr} {ns : List Str} : ∀ {Z H : Hp} {v : V} {os : List O} {A : List Addr}, RepO K Z F H v (.ins C ns os) A ↔ ∃ a, ∃ dx : Addr, ∃ vs A1, True ∧ v = .ref a ∧ A = a :: A1 ∧ H a = some (.ins C dx (ns.zip vs)) ∧ RepOL K Z F H vs os A1 := by
  intro Z H v os A
  constructor
  · intro r
    cases r with
    | ins h r => exact ⟨_, _, _, _, trivial, rfl, rfl, h, r⟩
  · rintro ⟨a, _, vs, A1, _, rfl, rfl, h, r⟩
    exact .ins h r
end
end M
namespace M
open PySem L2 PySem.Spec PyProof.Rows
section
variable {X : Cx} {ρ ρ' : Slots} {R : O → Slots} {e a b c elt : Expr} {es rest : List Expr} {st : Stmt} {sts : List Stmt} {G : Go} {o o1 o2 : O} {d : D} {ds : List D} {os : List O} {pos p0 p1 p2 p3 p4 p5 p6 : Pos} {i j : Nat} {x nm f : Str} {m n k : Int} {p q : Str} {C : Addr} {ns : List Str}
theorem Foc.unloc {K : PySem.W.Frag} {Z0 F Z H : Hp} {σ : L2.St} {T : List Addr} {v : V} {l : Addr} (f : Foc K Z0 F Z σ H T v (.loc l o) R) : v = .ref l ∧ Foc K Z0 F Z σ H T v o (fun o' => R (.loc l o')) := by
  obtain ⟨A, f⟩ := f
  have ev : v = .ref l := by
    cases f.rp with
    | loc r => rfl
  subst ev
  refine ⟨rfl, A, ?_, f.nd, f.ds, f.th, f.fh, fun ez nz zh k r n d => f.k ez nz zh k ?_ n d⟩
  · cases f.rp with
    | loc r => exact r
  · cases r with
    | cons r1 r2 => exact .cons (.loc r1) r2
theorem MV.unloc {l : Addr} (h : MV X ρ e (.loc l o)) : MV X ρ e o := .mk fun Z0 F Z σ H s Q q => h.run Z0 F Z σ H s Q fun v Z' H' A g r => by
  cases r with
  | loc r => exact q _ Z' H' A g r
end
end M
namespace M
open PySem L2 PySem.Spec PyProof.Rows
section
variable {X : Cx} {ρ ρ' : Slots} {R : O → Slots} {e a b c elt : Expr} {es rest : List Expr} {st : Stmt} {sts : List Stmt} {G : Go} {o o1 o2 : O} {d : D} {ds : List D} {os : List O} {pos p0 p1 p2 p3 p4 p5 p6 : Pos} {i j : Nat} {x nm f : Str} {m n k : Int} {C : Addr} {ns : List Str}
end
end M
namespace M
open PySem L2 PySem.Spec PyProof.Rows
section
variable {X : Cx} {ρ ρ' : Slots} {R : O → Slots} {e a b c elt : Expr} {es rest : List Expr} {st : Stmt} {sts : List Stmt} {G : Go} {o o1 o2 : O} {d : D} {ds ds1 ds2 : List D} {os : List O} {pos p0 p1 p2 p3 p4 p5 p6 : Pos} {i j : Nat} {nm : Str} {C : Addr} {ns : List Str}
end
end M
namespace M
open PySem L2 PySem.Spec PyProof.Rows
section
variable {V W R : Type}
variable {X : Cx} {ρ ρ' : Slots} {e a c elt : Expr} {st : Stmt} {sts : List Stmt} {G : Go} {pos p0 : Pos}
end
end M
namespace M
open PySem L2 PySem.Spec PyProof.Rows
section
variable {X : Cx} {ρ ρ' : Slots} {R' : O → Slots} {e a b c elt : Expr} {es : List Expr} {st : Stmt} {sts : List Stmt} {G : Go} {o o1 o2 : O} {d : D} {ds : List D} {os : List O} {pos p0 p1 p2 p3 p4 : Pos} {i n : Nat} {x nm : Str} {α β V W R : Type}
theorem Le.get : ∀ {ρ τ : Slots} {n : Nat} {o : O}, Le ρ τ → τ[n]? = some (some o) → ρ[n]? = some (some o)
  | _, _, _, _, .nil, h => h
  | _, _, 0, _, .no _, h => by simp at h
  | _, _, 0, _, .eq _, h => h
  | _, _, n + 1, _, .no l, h => by
    simp only [List.getElem?_cons_succ] at h ⊢
    exact Le.get l h
  | _, _, n + 1, _, .eq l, h => by
    simp only [List.getElem?_cons_succ] at h ⊢
    exact Le.get l h
end
end M
namespace M
open PySem L2 PySem.Spec PyProof.Rows
/-- what a def tells: a result or an error -/
inductive Xr (E R : Type) where
  | ok (r : R) | er (e : E)
def exO {E R : Type} (te : E → Er) (er : R → O) : Xr E R → O
  | .ok r => er r
  | .er e => .rs (te e)
def ThrE (K : PySem.W.Frag) (E : XK) (e : Er) (Z H : Hp) : Prop := Thrown K (fun c d _ H => E c d H) e Z [] H
theorem thrown_of {K : PySem.W.Frag} {E : XK} {e : Er} {Z H : Hp} {σ : L2.St} (h : ThrE K E e Z H) : Thrown K (fun c d _ H => E c d H) e Z σ H := by
  unfold ThrE Thrown at h
  unfold Thrown
  cases hf : e.fld with
  | none => rw [hf] at h; exact h
  | some p => rw [hf] at h; exact h
def EW (W : WX) : XK := fun c d H => ∀ σ, W c d σ H
theorem thrE_of {K : PySem.W.Frag} {W : WX} {e : Er} {Z H : Hp} (h : ∀ σ, Thrown K W e Z σ H) : ThrE K (EW W) e Z H := by
  unfold Thrown at h
  unfold ThrE Thrown
  cases hf : e.fld with
  | none => intro σ; have := h σ; rw [hf] at this; exact this
  | some p => intro a v na r σ; have := h σ; rw [hf] at this; exact this a v na r
theorem stL_blank {K : PySem.W.Frag} {Z F H : Hp} : ∀ σ : L2.St, StL K Z F H (List.replicate σ.length none) σ []
  | [] => .nil
  | _ :: σ => .no (stL_blank σ)
theorem StR.blank {K : PySem.W.Frag} {Z0 F Z' H' : Hp} (g : Gr Z0 F Z' H') (σ : L2.St) : StR K (List.replicate σ.length none) Z0 F Z' σ H' := ⟨g, [], stL_blank σ, List.nodup_nil, fun _ m => nomatch m⟩
theorem pass_ew {X : Cx} {W : WX} (tk : Takes X W) : Passes (L2.CX X.prog X.w) X (EW W) := passes_call tk fun _ _ σ _ h => h σ
/-- a def that is known to refuse nothing -/
theorem _root_.L2.FnOk.known {P : Program} {w : World} {K : PySem.W.Frag} {mg : Str → Option Value} {base : Heap} {k : Nat} {f : Addr} {fd : FuncData} {ps : List Str} {sp sp' : Sp} (F : FnOk P w K mg base (L2.CX P w) k f fd ps sp)
    (h : ∀ vs H Q E, sp' vs H Q E → sp vs H Q (fun _ _ _ => False)) : FnOk P w K mg base CX0 k f fd ps sp' :=
  ⟨fun vs H Q E q => F.len vs H Q _ (h _ _ _ _ q), fun A outer s H args us vs Q E hr he hb hv hs => codeAny_mono (F.run A outer s H args us vs Q _ hr he hb hv (h _ _ _ _ hs)) fun r s' q => by
    cases r with
    | ok r => cases r <;> exact q
    | error e =>
      obtain ⟨_, _, _, _, _, _, _, _, _, _, _, _, z⟩ := q
      exact z.elim⟩
def SpE {α : Type} (K : PySem.W.Frag) (ar : α → List O) (pre : α → Prop) (res : α → O) : Sp := fun vs H Q E => ∃ (x : α) (Z : Hp), Ex Z H ∧ RepOL K Z H H vs (ar x) [] ∧ pre x ∧
  (∀ v Z' H' A, Gr Z H Z' H' → RepO K Z' (fun _ => none) H' v (res x) A → New H Z' A → Q v H') ∧ ∀ e Z' H', res x = .rs e → Gr Z H Z' H' → ThrE K E e Z' H'
/-- its body keeps its promise -/
theorem fn_mE {α : Type} {P : Program} {w : World} {K : PySem.W.Frag} {mg : Str → Option Value} {base : Heap} {x qual : Str} {st : Stmt} {f : Addr} {fd : FuncData} {N ps : List Str} {k : Nat} {ar : α → List O} {pre : α → Prop} {res : α → O}
    (F : Fun K x qual st f fd) (S : FnScope N ps (defScope st)) (hl : ∀ x, (ar x).length = ps.length) (hn : ∀ x, pre x → (res x).nv = true ∨ ∃ e, res x = .rs e)
    (hb : ∀ (cdv : Value) (A : Around) (outer : List Env) (s : Shared) (H : Hp) (E : XK), Room k (A.deeper (envOfC qual (defScope st) s.heap.objs.size f cdv)) →
      PassesOwn (model P w) (A.deeper (envOfC qual (defScope st) s.heap.objs.size f cdv)) (cxOf (L2.CX P w) P w K mg base N qual (defScope st) f cdv A outer s H E).env (cxOf (L2.CX P w) P w K mg base N qual (defScope st) f cdv A outer s H E).xe → ∀ x, pre x →
      MS (cxOf (L2.CX P w) P w K mg base N qual (defScope st) f cdv A outer s H E) ((ar x).map some ++ List.replicate (N.length - ps.length) none) (defBody st) { nx := fun _ => res x = .fz .non, rt := fun o => o = res x }) :
    FnOk P w K mg base (L2.CX P w) (k + 1) f fd ps (SpE K ar pre res) := by
  refine F.okX S (fun vs H Q E h => ?_) (fun cdv A outer s H vs Q E hr h => ?_)
  · obtain ⟨x, Z, _, r, _⟩ := h
    rw [r.length, hl]
  · obtain ⟨x, Z, ez, r, hp, q, qx⟩ := h
    refine ⟨_, pss_w, (hb cdv A outer s H E hr (passes_of rfl) x hp).run Z H Z _ H _ ⟨Gr.refl ez, [], ?_, List.nodup_nil, fun _ m => nomatch m⟩ ⟨fun ρ Z' σ H' e s' => ?_, fun _ _ _ _ z => z.elim, fun _ _ _ _ z => z.elim, fun o v Z' H' A e g r n => ?_, fun _ _ _ _ _ _ z => z.elim, ⟨_, takes_of rfl rfl rfl rfl, fun e ρ Z' σ H' k s' => thrown_of (qx e Z' H' k.symm s'.gr)⟩⟩⟩
    · have e : L2.start N vs = vs.map some ++ List.replicate (N.length - ps.length) none := by
        unfold L2.start
        rw [r.length, hl]
      rw [e]
      exact stL_more _ (stL_args r)
    · refine q _ Z' H' [] s'.gr ?_ .nil
      rw [e]
      exact .fz .non
    · subst e
      rcases hn x hp with hn | ⟨e, hn⟩
      · exact q _ Z' H' A g (r.unF hn) n
      · rw [hn] at r
        cases r
structure Fn1E (P : Program) (w : World) (K : PySem.W.Frag) (mg : Str → Option Value) (base : Heap) (name : Str) (k : Nat) (ps : List Str) (sp : Sp) : Prop where
  ex : ∃ (f : Addr) (fd : FuncData), mg name = some (.ref f) ∧ PySem.W.keepIn K (.ref f) = true ∧ Binds K fd ps [] ∧ FnOk P w K mg base (L2.CX P w) k f fd ps sp
theorem Fn1E.ok {P : Program} {w : World} {K : PySem.W.Frag} {mg : Str → Option Value} {base : Heap} {name : Str} {k : Nat} {ps : List Str} {α : Type} {ar : α → List O} {pre : α → Prop} {res : α → O} (c : Fn1E P w K mg base name k ps (SpE K ar pre res)) : Fn1 P w K mg base name k ps (SpM K ar (fun x => pre x ∧ ∀ e, res x ≠ .rs e) res) := by
  obtain ⟨f, fd, hm, hk, hb, F⟩ := c.ex
  exact ⟨f, fd, hm, hk, hb, F.known fun vs H Q E ⟨x, Z, ez, r, ⟨hp, hn⟩, q⟩ => ⟨x, Z, ez, r, hp, q, fun e _ _ z => absurd z (hn e)⟩⟩
/-- an expression that raises -/
structure MRz (X : Cx) (ρ : Slots) (e : Expr) (er : Er) : Prop where
  run : ∀ (Z0 F Z : Hp) (σ : L2.St) (H : Hp), StR X.K ρ Z0 F Z σ H → ∀ (W : WX), Takes X W → (∀ σ' Z' H', Gr Z0 F Z' H' → Thrown X.K W er Z' σ' H') → ∀ Q : VK, wE X e σ H Q
section
variable {X : Cx} {ρ : Slots} {e a b elt : Expr} {es : List Expr} {st : Stmt} {sts : List Stmt} {G : Go} {o o1 o2 : O} {d : D} {ds : List D} {pos p0 p1 p2 p3 : Pos} {i : Nat} {x nm f : Str} {er : Er}
/-- a call that raises -/
theorem mz_fn {α : Type} {ar : α → List O} {pre : α → Prop} {res : α → O} {k : Nat} {ps : List Str} (c : Fn1E X.prog X.w X.K X.mg X.base nm k ps (SpE X.K ar pre res)) (x : α) (ha : MA X ρ (e :: es) (ar x)) (hp : pre x) (hr : Room k X.A) (hres : res x = .rs er := by first | (dsimp only; done) | (dsimp only; rfl) | rfl) (hg : Gl X nm := by rfl)
    (hdb : (nm == ("__debug__" : Str)) = false := by decide) (he : starEach (e :: es) X.env = (false, eval e X.env) :: starEach es X.env := by rfl) (hpl : (backTo pos (starEach es X.env)).any (·.1) = false := by rfl) : MRz X ρ (.Call (.Name nm p0) (e :: es) [] pos) er := by
  obtain ⟨f, fd, hm, hk, hb, F⟩ := c.ex
  exact .mk fun Z0 F0 Z σ H s W tk qx Q => PE_w (pe_call F hr hg hm hk hb .nil (pass_ew tk) pa_w hdb he hpl) (ha.run Z0 F0 Z σ H s _ fun vs Z1 H1 g1 r1 =>
    ⟨x, Z1, g1.zh, by rw [List.append_nil]; exact r1, hp, (fun v Z2 H2 A g2 r2 n2 => by
      rw [hres] at r2
      cases r2), (fun e Z2 H2 z g2 => by
      rw [hres] at z
      cases z
      exact thrE_of fun σ' => qx σ' Z2 H2 (s.gr.trans (g1.trans g2)))⟩)
theorem gx_thrown {Z0 F : Hp} {r : O → Prop} (g : GX X Z0 F r) (k : r (.rs er)) : ∃ W : WX, Takes X W ∧ ∀ σ' Z' H', Gr Z0 F Z' H' → Thrown X.K W er Z' σ' H' := by
  obtain ⟨W, tk, kk⟩ := g
  exact ⟨W, tk, fun σ' Z' H' g => kk er _ Z' σ' H' k (StR.blank g σ')⟩
theorem m_rzDrop (p : PS X st (tDrop (wE X e))) (h : MRz X ρ e er) (k : G.rt (.rs er)) : MS1 X ρ st G := .mk fun Z0 F Z σ H D s gd => by
  obtain ⟨W, tk, kk⟩ := gx_thrown gd.ex k
  exact PS_w p (h.run Z0 F Z σ H s W tk kk _)
/-- raise C('m') -/
theorem m_raise {C : Addr} (pm : PMk X e (fun _ H Q => Q (.ref C) none H)) (k : G.rt (.rs ⟨C, none⟩)) (hc : X.calm = true := by rfl) : MS1 X ρ (.Raise (some e) none pos) G := .mk fun Z0 F Z σ H D s gd => by
  obtain ⟨W, tk, kk⟩ := gd.ex
  exact PS_w (ps_raise hc tk pm) (kk ⟨C, none⟩ ρ Z σ H k s)
end
/-- a class of errors without an __init__ of its own -/
structure XcC (K : PySem.W.Frag) (mg : Str → Option Value) (nm : Str) (C : Addr) : Prop where
  q : PySem.W.excIn K C [.type "ValueError", .type "Exception", .type "BaseException", .type "object"] "ValueError.__new__" = true
  g : mg nm = some (.ref C)
  k : PySem.W.keepIn K (.ref C) = true
  b : PySem.W.subIn K (.ref C) (.type "BaseException") = some true
  t : PySem.W.typeIn K (.ref C) = some (.type "type")
theorem pm_own {X : Cx} {nm m : Str} {C : Addr} {j : Nat} {p p2 pos : Pos} (c : XcC X.K X.mg nm C) (hg : Gl X nm := by rfl) (hdb : (nm == ("__debug__" : Str)) = false := by decide) : PMk X (.Call (.Name nm p) [.Constant (.str m) j p2] [] pos) (fun _ H Q => Q (.ref C) none H) :=
  pmk_own PySem.F.excBase_ValueError c.q c.g c.k (raises_own c.b c.t) hg hdb
def SpXE {α : Type} (K : PySem.W.Frag) (ar : α → List O) (pre : α → Prop) (s0 s1 : Addr → α → O) (res : α → O) : Sp := fun vs H Q E => ∃ (x : α) (Z F : Hp) (l : Addr) (vs' : List V) (A : List Addr), vs = .ref l :: vs' ∧ Ex Z F ∧ Ex F H ∧ A.Nodup ∧ (∀ a ∈ A, F a = none) ∧ RepO K Z F H (.ref l) (s0 l x) A ∧ RepOL K Z F F vs' (ar x) [] ∧ pre x ∧
  (∀ v Z' H' B, Gr Z F Z' H' → RepOL K Z' (fun _ => none) H' [.ref l, v] [s1 l x, res x] B → B.Nodup → (∀ a ∈ B, F a = none ∧ Z' a = none) → Q v H') ∧ ∀ e Z' H', res x = .rs e → Gr Z F Z' H' → ThrE K E e Z' H'
/-- of a new instance -/
def SpIE {α : Type} (K : PySem.W.Frag) (C : Addr) (ns : List Str) (ar : α → List O) (pre : α → Prop) (res : α → List O) (er : α → Option Er) : Sp := fun vs H Q E => ∃ (x : α) (Z F : Hp) (l dx : Addr) (vs' : List V), vs = .ref l :: vs' ∧ Ex Z F ∧ Ex F H ∧ F l = none ∧ H l = some (.ins C dx []) ∧ RepOL K Z F F vs' (ar x) [] ∧ pre x ∧
  (er x = none → ∀ Z' H' A, Gr Z F Z' H' → RepO K Z' (fun _ => none) H' (.ref l) (.at l C ns (res x)) A → New F Z' A → Q .non H') ∧ ∀ e Z' H', er x = some e → Gr Z F Z' H' → ThrE K E e Z' H'
structure Mk1E (P : Program) (w : World) (K : PySem.W.Frag) (mg : Str → Option Value) (base : Heap) (name : Str) (C : Addr) (k : Nat) (ps : List Str) (sp : Sp) : Prop where
  ex : ∃ (f : Addr) (fd : FuncData), mg name = some (.ref C) ∧ Mk K C f ∧ Binds K fd ps [] ∧ FnOk P w K mg base (L2.CX P w) k f fd ps sp
structure Cf1E (P : Program) (w : World) (K : PySem.W.Frag) (mg : Str → Option Value) (base : Heap) (nmC m : Str) (k : Nat) (ps : List Str) (sp : Sp) : Prop where
  ex : ∃ (C : Addr) (mc : Value) (f : Addr) (fd : FuncData), mg nmC = some (.ref C) ∧ ClX.CRead K C mc ∧ ClX.CVal K C mc m (.ref f) (.ref f) ∧ PySem.W.keepIn K (.ref f) = true ∧ Binds K fd ps [] ∧ FnOk P w K mg base (L2.CX P w) k f fd ps sp
section
variable {P : Program} {w : World} {K : PySem.W.Frag} {mg : Str → Option Value} {base : Heap} {name m : Str} {k : Nat} {ps : List Str} {α : Type} {C : Addr} {ns : List Str} {ar : α → List O} {pre : α → Prop}
theorem Mk1E.ok {res : α → List O} {er : α → Option Er} (c : Mk1E P w K mg base name C k ps (SpIE K C ns ar pre res er)) : Mk1 P w K mg base name C k ps (SpI K C ns ar (fun x => pre x ∧ er x = none) res) := by
  obtain ⟨f, fd, hm, hk, hb, F⟩ := c.ex
  exact ⟨f, fd, hm, hk, hb, F.known fun vs H Q E ⟨x, Z, F, l, dx, vs', e, ez, ef, nl, hi, r, ⟨hp, hn⟩, q⟩ => ⟨x, Z, F, l, dx, vs', e, ez, ef, nl, hi, r, hp, fun _ => q, fun e _ _ z => by rw [hn] at z; cases z⟩⟩
theorem Cf1E.ok {s0 s1 : Addr → α → O} {res : α → O} (c : Cf1E P w K mg base name m k ps (SpXE K ar pre s0 s1 res)) : Cf1 P w K mg base name m k ps (SpX K ar (fun x => pre x ∧ ∀ e, res x ≠ .rs e) s0 s1 res) := by
  obtain ⟨C, mc, f, fd, hm, h1, h2, hk, hb, F⟩ := c.ex
  exact ⟨C, mc, f, fd, hm, h1, h2, hk, hb, F.known fun vs H Q E ⟨x, Z, F, l, vs', A, e, ez, ef, nA, fA, rs, r, ⟨hp, hn⟩, q⟩ => ⟨x, Z, F, l, vs', A, e, ez, ef, nA, fA, rs, r, hp, q, fun e _ _ z => absurd z (hn e)⟩⟩
end
section
variable {X : Cx} {ρ : Slots} {e : Expr} {es : List Expr} {pos p0 p1 p2 : Pos} {i : Nat} {xx nm : Str} {C : Addr} {ns all : List Str} {os : List O} {ds : List D} {er : Er}
end
def SpFE {A E R : Type} (K : PySem.W.Frag) (ar : A → List O) (f : A → Option (Xr E R)) (te : E → Er) (er : R → O) : Sp := SpE K (fun x : A × Xr E R => ar x.1) (fun x => f x.1 = some x.2) (fun x => exO te er x.2)
def bdo {E R S V W : Type} : Option (Xr E R) → (R → Option (Ou V W (Xr E S))) → Option (Ou V W (Xr E S))
  | some (.ok r), k => k r
  | some (.er e), _ => some (.rt (.er e))
  | none, _ => none
theorem bdo_some {E R S V W : Type} {m : Option (Xr E R)} {k : R → Option (Ou V W (Xr E S))} {y : Ou V W (Xr E S)} (h : bdo m k = some y) : (∃ e, m = some (.er e) ∧ (some (.rt (.er e)) : Option (Ou V W (Xr E S))) = some y) ∨ ∃ v, m = some (.ok v) ∧ k v = some y := by
  cases m with
  | none => cases h
  | some m =>
    cases m with
    | ok x => exact .inr ⟨x, rfl, h⟩
    | er x => exact .inl ⟨x, rfl, h⟩
theorem exO_nv {E R : Type} {te : E → Er} {er : R → O} (h : ∀ r, (er r).nv = true) : ∀ y : Xr E R, (exO te er y).nv = true ∨ ∃ e, exO te er y = .rs e
  | .ok r => .inl (h r)
  | .er e => .inr ⟨_, rfl⟩
end M
namespace M
open PySem L2 PySem.Spec PyProof.Rows
def tryR {V E R S : Type} : Ou V Unit (Xr E R) → (V → Option S) → (R → Option S) → (E → Option S) → Option S
  | .nx v, k, _, _ => k v
  | .rt (.ok r), _, kr, _ => kr r
  | .rt (.er e), _, _, kx => kx e
  | _, _, _, _ => none
theorem le_none : ∀ ρ : Slots, Le ρ (List.replicate ρ.length none)
  | [] => .nil
  | _ :: ρ => .no (le_none ρ)
theorem le_blank {x : Option O} : ∀ (ρ : Slots) (i : Nat), Le (ρ.set i x) ((List.replicate ρ.length none).set i x)
  | [], _ => .nil
  | _ :: ρ, 0 => .eq (le_none ρ)
  | _ :: ρ, i + 1 => .no (le_blank ρ i)
section
variable {X : Cx} {ρ : Slots} {G : Go}
theorem m_tryO {E R V : Type} {xc n : Str} {C : Addr} {i : Nat} {body suite : List Stmt} {b0 : Stmt} {np pos pos' : Pos} {out : Ou V Unit (Xr E R)} (Rn : V → Slots) (te : E → Er) (er : R → O)
    (hN : X.N.Nodup) (hi : X.N[i]? = some n) (hln : X.env.kindOf n = some .local) (hc : Names X xc (.ref C)) (hne : ∀ r e, er r ≠ .rs e) (hnf : ∀ e, (te e).fld = none)
    (hb : ∀ (pn : List (Addr × Obj)) (xe : Value → Shared → Prop), PassesOwn (model X.prog X.w) X.A X.env xe → MS (X.tr pn xe) ρ body (goO Rn (fun _ : Unit => []) (exO te er) out))
    (kb : ∀ w, out ≠ .bk w) (kc : ∀ w, out ≠ .ct w) (kr : ∀ r, out = .rt (.ok r) → G.rt (er r))
    (hm : ∀ e, out = .rt (.er e) → PySem.W.exmOne X.K (.ref (te e).C) (.ref C) = some true)
    (hs : ∀ e, out = .rt (.er e) → ∀ (a : Addr) (oe : Obj) (pn : List (Addr × Obj)), Zc (.ref (te e).C) none oe → (∃ vs, oe.data = .fields vs) → MS (X.suite a ((a, oe) :: pn)) ((List.replicate X.N.length none).set i (some (.pt a))) (b0 :: suite) { rt := fun o => G.rt o ∧ ∀ e, o ≠ .rs e })
    (kn : ∀ v τ, out = .nx v → Le τ (Rn v) → G.nx τ)
    (e1 : X.stack = X.env :: X.outer := by rfl) (e2 : X.env.frame = some X.env.locals := by rfl) : MS1 X ρ (.Try body [.ExceptHandler (some (.Name xc np)) (some n) (b0 :: suite) pos'] [] [] pos) G := .mk fun Z0 F Z σ H D s g => by
  obtain ⟨Wout, tk, kk⟩ := g.ex
  refine PS_w (ps_try_as (i := i) (tb := fun W => fun D σ H => ∀ pn xe, Takes (X.tr pn xe) W → PassesOwn (model X.prog X.w) X.A X.env xe → wS (X.tr pn xe) body D σ H)
    (ts := fun a cls d => fun D σ H => ∀ (oe : Obj) (pn : List (Addr × Obj)), Zc cls d oe → (∃ vs, oe.data = .fields vs) → wS (X.suite a ((a, oe) :: pn)) (b0 :: suite) D σ H) e1 e2 hN hi hln hc tk
    (fun W pn xe t po => ⟨fun pins s σ H D I h => h pn xe t po pins s I⟩) (fun a oe cls d pn hz hf => ⟨fun pins s σ H D I h => h oe pn hz hf pins s I⟩)) ?_
  intro pn xe t po
  refine (hb pn xe po).run Z0 F Z σ H D s ⟨fun τ Z σ H ⟨v, e, l⟩ s' => g.nx τ Z σ H (kn v τ e l) s', fun _ _ _ _ ⟨w, e, _⟩ => absurd e (kb w), fun _ _ _ _ ⟨w, e, _⟩ => absurd e (kc w), fun o v Z' H' A k g' r n => ?_, fun _ _ _ _ _ _ z => z.elim, ⟨_, t, fun e ρ' Z' σ' H' k s' => ?_⟩⟩
  · obtain ⟨x, e, rfl⟩ := k
    cases x with
    | ok x => exact g.rt _ v Z' H' A (kr x e) g' r n
    | er x => cases r
  · obtain ⟨x, eo, ex⟩ := k
    cases x with
    | ok x => exact absurd ex.symm (hne x e)
    | er x =>
      cases ex
      unfold Thrown
      rw [hnf x]
      refine ⟨true, hm x eo, fun _ a na oe pn' hz hf => ?_, fun z => nomatch z⟩
      intro pins s2 I2
      have ln : σ'.length = X.N.length := by
        have := I2.len
        rw [List.length_set] at this
        exact this
      have lr : ρ'.length = X.N.length := by rw [← s'.len, ln]
      have hl : i < ρ'.length := by
        rw [lr]
        exact (List.getElem?_eq_some_iff.mp hi).1
      have s3 := s'.put (v := .ref a) (Gr.refl s'.ex) (RepO.pt (a := a)) .nil hl
      have le := le_blank (x := some (O.pt a)) ρ' i
      rw [lr] at le
      exact (hs x eo a oe pn' hz hf).run Z0 F Z' _ H' { nx := fun σ' H' => D.nx (σ'.set i none) H', rt := D.rt, bk := fun σ' H' => D.bk (σ'.set i none) H', ct := fun σ' H' => D.ct (σ'.set i none) H' } (s3.le le) ⟨fun _ _ _ _ z => z.elim, fun _ _ _ _ z => z.elim, fun _ _ _ _ z => z.elim, fun o v Z H A k g' r n => g.rt o v Z H A k.1 g' r n, fun _ _ _ _ _ _ z => z.elim, GX.never fun e z => z.2 e rfl⟩ pins s2 I2
end
section
variable {X : Cx} {ρ : Slots} {a C E : Addr} {oe : Obj} {pn : List (Addr × Obj)} {i : Nat} {n nm : Str} {p0 p1 p2 pos : Pos} {b : Bool} {T : String}
theorem me_isiE (c : ExcC X.K C) (hz : Zc (.ref C) none oe) (hf : ∃ vs, oe.data = .fields vs) (hg : Gl X "isinstance") (hm : X.mg "isinstance" = none) (hE : X.mg nm = some (.ref E)) (p : PE (X.suite a ((a, oe) :: pn)) (.Name n p2) (tVar i)) (hi : ρ[i]? = some (some (.pt a))) (hk : PySem.W.kitOne X.K (.ref C) (.ref E) = some b) (hgE : Gl X nm := by rfl) (hd : (nm == ("__debug__" : Str)) = false := by decide) :
    ME (X.suite a ((a, oe) :: pn)) ρ (.Call (.Name "isinstance" p0) [.Name n p2, .Name nm p1] [] pos) (.fz (.bl b)) := .mk fun Z0 F Z σ H s Q q =>
  PE_w (pe_callB (call_isE c hz hf) hg hm (by decide +kernel) (pa_cons pe_w (pa_cons (pe_glob (v := .ref E) hgE hE rfl hd) pa_nil) rfl) (he := rfl)) ((mv_var p hi).run Z0 F Z σ H s _ fun v Z1 H1 A1 g1 r1 => by
    cases r1
    exact ⟨.ref E, .ref E, b, rfl, fun u r => r, hk, q _ Z1 H1 [] g1 (.fz (.bl b)) .nil⟩)
theorem me_isiEB (c : ExcC X.K C) (hz : Zc (.ref C) none oe) (hf : ∃ vs, oe.data = .fields vs) (hg : Gl X "isinstance") (hm : X.mg "isinstance" = none) (hT : PE (X.suite a ((a, oe) :: pn)) (.Name nm p1) (tC (.ty T))) (p : PE (X.suite a ((a, oe) :: pn)) (.Name n p2) (tVar i)) (hi : ρ[i]? = some (some (.pt a))) (hk : PySem.W.kitOne X.K (.ref C) (.type T) = some b) :
    ME (X.suite a ((a, oe) :: pn)) ρ (.Call (.Name "isinstance" p0) [.Name n p2, .Name nm p1] [] pos) (.fz (.bl b)) := .mk fun Z0 F Z σ H s Q q =>
  PE_w (pe_callB (call_isE c hz hf) hg hm (by decide +kernel) (pa_cons pe_w (pa_cons hT pa_nil) rfl) (he := rfl)) ((mv_var p hi).run Z0 F Z σ H s _ fun v Z1 H1 A1 g1 r1 => by
    cases r1
    exact ⟨.ty T, .type T, b, rfl, fun u r => r, hk, q _ Z1 H1 [] g1 (.fz (.bl b)) .nil⟩)
end
end M
namespace M
open PySem L2 PySem.Spec PyProof.Rows
section
open PySem.SeqAt
open PySem.AutoSeq1 (wpAny_loadPart')
open PySem.MeetsSeq PySem.MeetsSeq2 PySem.MeetsSeq3
end
section
variable {X : Cx} {pins : List (Addr × Obj)} {σ : L2.St} {H Z : Hp} {s : Shared}
end
section
variable {X : Cx} {ρ : Slots} {a b : Expr} {d : D} {xs : List Str} {pos p1 p2 p3 : Pos} {x : Str}
/-- {}, frozen -/
theorem me_dict0 : ME X ρ (.Dict [] [] pos) (.fz (.dct [] [])) := .mk fun Z0 F Z σ H s Q q => PE_w pe_dnewK fun p hp => by
  refine q (.ref p) _ _ [] (Gr.newz (o := .dK []) s.ex hp) (.fz (.dct (ks := []) (vs := []) upd_same .nil)) .nil
end
theorem kit_false {K : PySem.W.Frag} {C E : Addr} (h0 : PySem.W.mroIn K C (.ref C) = some true) (h1 : PySem.W.isClsIn K E = true) (h2 : PySem.W.typeIn K (.ref E) = some (.type "type")) (h3 : PySem.W.mroIn K C (.ref E) = some false) : PySem.W.kitOne K (.ref C) (.ref E) = some false := by
  unfold PySem.W.kitOne
  split
  · rename_i h
    have h := eq_of_beq h
    cases h
    rw [h0] at h3
    cases h3
  · have e : PySem.W.kitCls K (.ref C) (.ref E) = if ((PySem.W.clsIn K E).isSome && PySem.W.typeIn K (.ref E) == some (.type "type")) = true then PySem.W.mroIn K C (.ref E) else none := rfl
    rw [e, if_pos, h3]
    rw [h2]
    show ((PySem.W.clsIn K E).isSome && _) = true
    rw [show (PySem.W.clsIn K E).isSome = true from h1]
    decide
theorem kit_ty {K : PySem.W.Frag} {C : Addr} {T : String} {b : Bool} (h1 : PySem.W.kitMeta T = true) (h3 : PySem.W.mroIn K C (.type T) = some b) : PySem.W.kitOne K (.ref C) (.type T) = some b := by
  unfold PySem.W.kitOne
  split
  · rename_i h
    have h := eq_of_beq h
    cases h
  · have e : PySem.W.kitCls K (.ref C) (.type T) = if PySem.W.kitMeta T = true then PySem.W.mroIn K C (.type T) else none := rfl
    rw [e, if_pos h1, h3]
end M
namespace M
open PySem L2 PySem.Spec PyProof.Rows
section
variable {X : Cx} {ρ : Slots} {a b : Expr} {d y : D} {ds : List D} {k : Int} {pos p0 p1 : Pos} {x z : Str}
end
end M
namespace M
open PySem L2 PySem.Spec PyProof.Rows
section
variable {X : Cx} {ρ : Slots} {a b c : Expr} {o : O} {os : List O} {sts : List Stmt} {G : Go} {k : Bool} {pos : Pos} {x : Str} {i j : Nat} {l : Addr}
end
end M
namespace M
open PySem L2 PySem.Spec PyProof.Rows
section
variable {X : Cx}
variable {ρ : Slots} {a : Expr} {α : Type}
end
section
variable {X : Cx}
variable {ρ : Slots} {a b : Expr} {α : Type} {pos : Pos}
end
end M
namespace M
open PySem L2 PySem.Spec PyProof.Rows
section
variable {X : Cx} {ρ : Slots} {e : Expr} {d d' : D}
theorem MV.as (h : MV X ρ e (.fz d)) (q : d = d') : MV X ρ e (.fz d') := q ▸ h
theorem ME.as (h : ME X ρ e (.fz d)) (q : d = d') : ME X ρ e (.fz d') := q ▸ h
end
section
variable {X : Cx} {ρ : Slots} {e f : Expr} {pos dpos apos cpos : Pos} {s : Str} {d : Int} {keys : List (Option Expr)} {values : List Expr} {kvs : List (Str × Int)}
end
end M
namespace M
open PySem L2 PySem.Spec PyProof.Rows
section
variable {X : Cx} {ρ : Slots} {a b : Expr} {o2 : O} {d : D} {ds : List D} {pos : Pos}
variable {α : Type} {enc : α → D} {xs : List α}
end
end M
namespace M
open PySem L2 PySem.Spec PyProof.Rows
section
variable {X : Cx} {ρ : Slots} {G : Go}
theorem m_tryK {body : List Stmt} {h0 : ExceptHandler} {hs : List ExceptHandler} {pos : Pos} (hb : MS X ρ body G) (hX : X.nox = X := by rfl) : MS1 X ρ (.Try body (h0 :: hs) [] [] pos) G := .mk fun Z0 F Z σ H D s g =>
  PS_w (ps_try_thru0 (t := wS X body) (by rw [hX]; exact pss_w)) (hb.run Z0 F Z σ H D s g)
end
section
variable {X : Cx} {ρ : Slots} {e : Expr} {pos dpos : Pos} {s v : Str} {keys : List (Option Expr)} {values : List Expr} {kvs : List (Str × Str)}
end
section
variable {X : Cx} {ρ : Slots} {e : Expr} {pos dpos : Pos} {s : Str} {v : Int} {keys : List (Option Expr)} {values : List Expr} {kvs : List (Str × Int)}
end
end M
namespace M
open PySem L2 PySem.Spec PyProof.Rows
section
variable {K : PySem.W.Frag} {Z F H : Hp}
mutual
theorem RepK.rep (e : Ex Z H) (f : Ex F H) : ∀ {v : V} {o : O}, RepK K Z F v o → Rep K H v o.frz
  | _, _, .fz h => h.mono e
  | _, _, .vw h r => .lst (ex_l f h) (r.mono e)
  | _, _, .vwa h r => .lst (ex_l f h) (r.mono e)
  | _, .lk o, .lk h => RepK.rep (o := o) e f h
  | _, _, .lst h r => .lst (SqL.of (f _ _ h)) (RepKL.rep e f r)
  | _, _, .tup h r => .tup (f _ _ h) (RepKL.rep e f r)
  | _, _, .ins h r => .ins (f _ _ h) (RepKL.rep e f r)
  | _, .loc _ o, .loc h => RepK.rep (o := o) e f h
  | _, _, .pt => .opq _
  | _, _, .at h r => .ins (f _ _ h) (RepKL.rep e f r)
  | _, _, .dct h r => .dct (f _ _ h) (RepKL.rep e f r)
  | _, _, .dctT h r => .dctT (f _ _ h) (RepKL.rep e f r)
theorem RepKL.rep (e : Ex Z H) (f : Ex F H) : ∀ {vs : List V} {os : List O}, RepKL K Z F vs os → RepL K H vs (O.frzL os)
  | _, _, .nil => .nil
  | _, _, .cons h r => .cons (RepK.rep e f h) (RepKL.rep e f r)
end
mutual
theorem RepO.rep (e : Ex Z H) (f : Ex F H) : ∀ {v : V} {o : O} {A : List Addr}, RepO K Z F H v o A → Rep K H v o.frz
  | _, _, _, .fz h => h.mono e
  | _, _, _, .vw h r => .lst (ex_l f h) (r.mono e)
  | _, _, _, .vwa h r => .lst (ex_l f h) (r.mono e)
  | _, .lk o, _, .lk h => RepK.rep (o := o) e f h
  | _, _, _, .lst h r => .lst (SqL.of h) (RepOL.rep e f r)
  | _, _, _, .tup h r => .tup h (RepOL.rep e f r)
  | _, _, _, .ins h r => .ins h (RepOL.rep e f r)
  | _, .loc _ o, _, .loc h => RepO.rep (o := o) e f h
  | _, _, _, .pt => .opq _
  | _, _, _, .at h r => .ins h (RepOL.rep e f r)
  | _, _, _, .dct h r => .dct h (RepOL.rep e f r)
  | _, _, _, .dctT h r => .dctT h (RepOL.rep e f r)
theorem RepOL.rep (e : Ex Z H) (f : Ex F H) : ∀ {vs : List V} {os : List O} {A : List Addr}, RepOL K Z F H vs os A → RepL K H vs (O.frzL os)
  | _, _, _, .nil => .nil
  | _, _, _, .cons h r => .cons (RepO.rep e f h) (RepOL.rep e f r)
end
end
/-- an expression that tells a thing, which is d now -/
structure MD (X : Cx) (ρ : Slots) (e : Expr) (d : D) : Prop where
  run : ∀ (Z0 F Z : Hp) (σ : L2.St) (H : Hp), StR X.K ρ Z0 F Z σ H → ∀ Q : VK, (∀ v Z' H', Gr Z H Z' H' → Rep X.K H' v d → Q v H') → wE X e σ H Q
section
variable {κ : Type} [DecidableEq κ] {β γ : Type}
/-- tables alike: entry by entry -/
def Tb (P : β → γ → Prop) : List (κ × β) → List (κ × γ) → Prop
  | [], [] => True
  | p :: r, q :: t => p.1 = q.1 ∧ P p.2 q.2 ∧ Tb P r t
  | _, _ => False
end
theorem RepL.tb {K : PySem.W.Frag} {Z : Hp} {κ : Type} [DecidableEq κ] : ∀ {m : List (κ × D)} {vs : List V}, RepL K Z vs (m.map (·.2)) → Tb (fun d v => Rep K Z v d) m ((m.map (·.1)).zip vs)
  | [], _, .nil => trivial
  | p :: r, _, .cons h t => ⟨rfl, h, RepL.tb t⟩
section
variable {X : Cx} {ρ : Slots} {R : O → Slots} {e e1 e2 f o a : Expr} {es : List Expr} {d y : D} {ds vs : List D} {pos p1 p2 p3 apos cpos : Pos} {C : Addr} {ns : List Str} {nm : Str} {oo : O} {G : Go}
theorem MV.now (h : MV X ρ e oo) : MD X ρ e oo.frz := .mk fun Z0 F Z σ H s Q q => h.run Z0 F Z σ H s Q fun v Z' H' A g r => q v Z' H' g (r.rep g.zh (s.gr.hh.trans g.hh))
end
end M
namespace M
open PySem L2 PySem.Spec PyProof.Rows
section
variable {X : Cx} {pins : List (Addr × Obj)} {σ : L2.St} {H : Hp} {s : Shared} {a b : Addr} {r : Value} {d : V} {k : List Key} {A : Around} {E : Value → Shared → Prop}
end
section
variable {κ : Type} [DecidableEq κ] {β : Type}
end
section
variable {X : Cx} {ρ ρ' : Slots} {R R' : O → Slots} {e a f call : Expr} {d y : D} {ds : List D} {pos p1 p2 p3 apos cpos dpos : Pos} {i : Nat} {st : Stmt} {sts : List Stmt} {G : Go} {oo o' : O} {nm : Str}
end
end M
namespace M
open PySem L2 PySem.Spec PyProof.Rows
section
variable {X : Cx} {ρ ρ' : Slots} {R R' : O → Slots} {e a b f call : Expr} {es : List Expr} {d y : D} {ds : List D} {pos p0 p1 p2 p3 apos cpos dpos : Pos} {i j : Nat} {st : Stmt} {sts : List Stmt} {G : Go} {oo o o' : O} {nm : Str} {C : Addr} {ns : List Str} {os : List O} {k : Int}
end
class Nv (o : O) : Prop where
  nv : o.nv = true
instance {d : D} : Nv (.fz d) := ⟨rfl⟩
instance {ds : List D} : Nv (.lst (ds.map .fz)) := ⟨O.nvL_fz ds⟩
instance {a : Addr} {o : O} [h : Nv o] : Nv (.loc a o) := ⟨h.nv⟩
instance {a : Addr} : Nv (.pt a) := ⟨rfl⟩
class NvL (os : List O) : Prop where
  nv : O.nvL os = true
instance : NvL [] := ⟨rfl⟩
instance {o : O} {os : List O} [h : Nv o] [t : NvL os] : NvL (o :: os) := ⟨by show (o.nv && O.nvL os) = true; rw [h.nv, t.nv]; rfl⟩
instance (priority := low) {β : Type} {g : β → O} {xs : List β} [h : ∀ x, Nv (g x)] : NvL (xs.map g) := ⟨by
  induction xs with
  | nil => rfl
  | cons x r ih => show ((g x).nv && O.nvL (r.map g)) = true; rw [(h x).nv, ih]; rfl⟩
instance {os : List O} [h : NvL os] : Nv (.lst os) := ⟨h.nv⟩
instance {os : List O} [h : NvL os] : Nv (.tup os) := ⟨h.nv⟩
instance {C : Addr} {ns : List Str} {os : List O} [h : NvL os] : Nv (.ins C ns os) := ⟨h.nv⟩
instance {ks : List Key} {os : List O} [h : NvL os] : Nv (.dct ks os) := ⟨h.nv⟩
instance {ks : List (List Key)} {os : List O} [h : NvL os] : Nv (.dctT ks os) := ⟨h.nv⟩
instance {a C : Addr} {ns : List Str} {os : List O} [h : NvL os] : Nv (.at a C ns os) := ⟨h.nv⟩
theorem Nv.is (o : O) [h : Nv o] : o.nv = true := h.nv
end M
namespace M
open PySem L2 PySem.Spec PyProof.Rows
section
variable {β : Type}
end
section
variable {X : Cx} {ρ ρ' : Slots} {R R' : O → Slots} {e a b f call o : Expr} {es : List Expr} {d y dk : D} {ds : List D} {pos p0 p1 p2 p3 p4 apos cpos dpos : Pos} {i j : Nat} {st : Stmt} {sts : List Stmt} {G : Go} {oo o' : O} {nm : Str} {C : Addr} {ns : List Str} {os : List O} {β : Type} {g : β → O} {enc : β → D} {k : Key} {ks : List Key} {y0 y1 : β}
end
section
variable {K : PySem.W.Frag} {Z0 F Z Z' H H' : Hp} {σ : L2.St} {T A B : List Addr} {v : V} {o o' : O} {R : O → Slots}
theorem FocA.step (f : FocA K F Z Z0 σ H T v o R A) (ez : Ex Z Z') (nz : ∀ a, Kept F T A a → Z' a = Z a) (zh : Ex Z' H') (k : ∀ a, Kept F T A a → ∀ u, H a = some u → H' a = some u) (th : ∀ a ∈ A, ∃ u, H' a = some u) (fh : Ex F H') (r : RepO K Z' F H' v o' B) (n : B.Nodup) (d : ∀ a ∈ B, (a ∈ A ∨ a ∉ T ∧ F a = none) ∧ Z' a = none) : FocA K F Z' Z0 σ H' (T ++ B) v o' R B := by
  have nB : ∀ a, Kept F T A a → a ∉ B := fun a ka m => by
    rcases (d a m).1 with z | z
    · exact ka.1 z
    · rcases ka.2 with y | ⟨u, y⟩
      · exact z.1 y
      · rw [z.2] at y; cases y
  have kB : ∀ a, Kept F T A a → Kept F (T ++ B) B a := fun a ka => ⟨nB a ka, ka.2.imp (List.mem_append_left _) id⟩
  refine ⟨r, n, fun a m => ⟨List.mem_append_right _ m, (d a m).2, ?_⟩, fun a m => ?_, fh, fun {Z2 H2 w o2 p B2} ez2 nz2 zh2 k2 r2 n2 d2 => ?_⟩
  · rcases (d a m).1 with z | z
    · exact (f.ds a z).2.2
    · exact z.2
  · rcases List.mem_append.mp m with m | m
    · by_cases ma : a ∈ A
      · exact th a ma
      · obtain ⟨u, e⟩ := f.th a m
        exact ⟨u, k a ⟨ma, .inl m⟩ u e⟩
    · exact r.there a m
  · refine f.k (ez.trans ez2) (fun a ka => (nz2 a (kB a ka)).trans (nz a ka)) zh2 (fun a ka u e => k2 a (kB a ka) u (k a ka u e)) r2 n2 fun a m => ⟨?_, (d2 a m).2⟩
    rcases (d2 a m).1 with z | z
    · exact (d a z).1
    · exact .inr ⟨fun y => z.1 (List.mem_append_left _ y), z.2⟩
end
section
variable {κ : Type} [DecidableEq κ] {β : Type}
end
end M
namespace M
open PySem L2 PySem.Spec PyProof.Rows
section
variable {κ : Type} [DecidableEq κ] {β γ : Type}
end
structure FQ (X : Cx) (ρ : Slots) (o : O) (R : O → Slots) : Prop where
  run : ∀ (Z0 F Z : Hp) (σ : L2.St) (H : Hp) (T : List Addr), StA X.K ρ Z0 F Z σ H T → ∃ v, Foc X.K Z0 F Z σ H T v o R
section
variable {X : Cx} {ρ ρ' : Slots} {R R' : O → Slots} {e a f : Expr} {d dk : D} {ds : List D} {pos p0 p1 p2 p3 apos cpos dpos : Pos} {i j : Nat} {st : Stmt} {sts : List Stmt} {G : Go} {oo o o' : O} {nm : Str} {C l b : Addr} {ns : List Str} {os : List O} {β : Type} {g : β → O} {k : Key} {ks : List Key} {y0 : β}
theorem FQ.loc (h : FQ X ρ (.loc l o) R) : FQ X ρ o (fun o' => R (.loc l o')) := .mk fun Z0 F Z σ H T s => by
  obtain ⟨v, f⟩ := h.run Z0 F Z σ H T s
  exact ⟨v, f.unloc.2⟩
theorem FQ.fld (h : FQ X ρ (.ins C ns os) R) (hd : os[j]? = some o) : FQ X ρ o (fun o' => R (.ins C ns (os.set j o'))) := .mk fun Z0 F Z σ H T s => by
  obtain ⟨v, A, f⟩ := h.run Z0 F Z σ H T s
  obtain ⟨_, _, _, v', _, _, _, _, f'⟩ := f.down hm_ins hd
  exact ⟨v', f'⟩
theorem FQ.it (h : FQ X ρ (.lst os) R) (hd : os[j]? = some o) : FQ X ρ o (fun o' => R (.lst (os.set j o'))) := .mk fun Z0 F Z σ H T s => by
  obtain ⟨v, A, f⟩ := h.run Z0 F Z σ H T s
  obtain ⟨_, _, _, v', _, _, _, _, f'⟩ := f.down hm_lst hd
  exact ⟨v', f'⟩
theorem FocA.same {K : PySem.W.Frag} {Z0 F Z H : Hp} {σ : L2.St} {T A : List Addr} {v : V} (f : FocA K F Z Z0 σ H T v o R A) (zh : Ex Z H) (hw : RepO K Z F H v o' A) : StR K (R o') Z0 F Z σ H :=
  f.chg (Ex.refl _) (fun _ _ => rfl) zh (fun _ _ _ e => e) hw f.nd fun a m => ⟨.inl m, (f.ds a m).2.1⟩
end
end M
namespace L2
open PySem PySem.Spec PyProof.Rows
section
variable {X : Cx} {pins : List (Addr × Obj)} {σ : St} {H : Hp} {s : Shared} {d : Addr} {o : Obj}
end
end L2
namespace M
open PySem L2 PySem.Spec PyProof.Rows
mutual
def O.nt : O → Bool
  | .lst os => O.ntL os
  | .tup _ => false
  | .ins _ _ os => O.ntL os
  | .at _ _ _ os => O.ntL os
  | .loc _ o => o.nt
  | .dct _ os => O.ntL os
  | .dctT _ os => O.ntL os
  | _ => true
def O.ntL : List O → Bool
  | [] => true
  | o :: r => o.nt && O.ntL r
end
section
variable {K : PySem.W.Frag} {Z F H : Hp}
mutual
theorem RepO.nt : ∀ {v : V} {o : O} {A : List Addr}, RepO K Z F H v o A → o.nt = true → ∀ a ∈ A, ∀ xs, H a ≠ some (.tup xs)
  | _, _, _, .fz _, _, _, m => nomatch m
  | _, _, _, .vw _ _, _, _, m => nomatch m
  | _, _, _, .vwa _ _, _, _, m => nomatch m
  | _, _, _, .lk _, _, _, m => nomatch m
  | _, _, _, .pt, _, _, m => nomatch m
  | _, _, _, .tup _ _, n, _, _ => nomatch n
  | _, .loc _ o, _, .loc h, n, a, m => RepO.nt (o := o) h n a m
  | _, _, _, .lst h r, n, a, m => (List.mem_cons.mp m).elim (fun e xs z => by rw [e, h] at z; cases z) fun m => RepOL.nt r n a m
  | _, _, _, .ins h r, n, a, m => (List.mem_cons.mp m).elim (fun e xs z => by rw [e, h] at z; cases z) fun m => RepOL.nt r n a m
  | _, _, _, .at h r, n, a, m => (List.mem_cons.mp m).elim (fun e xs z => by rw [e, h] at z; cases z) fun m => RepOL.nt r n a m
  | _, _, _, .dct h r, n, a, m => (List.mem_cons.mp m).elim (fun e xs z => by rw [e, h] at z; cases z) fun m => RepOL.nt r n a m
  | _, _, _, .dctT h r, n, a, m => (List.mem_cons.mp m).elim (fun e xs z => by rw [e, h] at z; cases z) fun m => RepOL.nt r n a m
theorem RepOL.nt : ∀ {vs : List V} {os : List O} {A : List Addr}, RepOL K Z F H vs os A → O.ntL os = true → ∀ a ∈ A, ∀ xs, H a ≠ some (.tup xs)
  | _, _, _, .nil, _, _, m => nomatch m
  | _, _, _, .cons h r, n, a, m => (List.mem_append.mp m).elim (fun m => RepO.nt h (Bool.and_eq_true_iff.mp n).1 a m) fun m => RepOL.nt r (Bool.and_eq_true_iff.mp n).2 a m
end
theorem StL.nt : ∀ {ρ : Slots} {σ : L2.St} {A : List Addr}, StL K Z F H ρ σ A → (∀ o, some o ∈ ρ → o.nt = true) → ∀ a ∈ A, ∀ xs, H a ≠ some (.tup xs)
  | _, _, _, .nil, _, _, m => nomatch m
  | _, _, _, .no h, n, a, m => h.nt (fun o z => n o (List.mem_cons_of_mem _ z)) a m
  | _, _, _, .so r h, n, a, m => (List.mem_append.mp m).elim (fun m => r.nt (n _ List.mem_cons_self) a m) fun m => h.nt (fun o z => n o (List.mem_cons_of_mem _ z)) a m
end
class Nt (o : O) : Prop where
  nt : o.nt = true
class NtL (os : List O) : Prop where
  nt : O.ntL os = true
instance {d : D} : Nt (.fz d) := ⟨rfl⟩
instance {o : O} : Nt (.lk o) := ⟨rfl⟩
instance {ds : List D} : Nt (.vw ds) := ⟨rfl⟩
instance {a : Addr} {ds : List D} : Nt (.vwa a ds) := ⟨rfl⟩
instance {a : Addr} : Nt (.pt a) := ⟨rfl⟩
instance {a : Addr} {o : O} [h : Nt o] : Nt (.loc a o) := ⟨h.nt⟩
instance : NtL [] := ⟨rfl⟩
instance {o : O} {os : List O} [h : Nt o] [t : NtL os] : NtL (o :: os) := ⟨by show (o.nt && O.ntL os) = true; rw [h.nt, t.nt]; rfl⟩
instance (priority := low) {β : Type} {g : β → O} {xs : List β} [h : ∀ x, Nt (g x)] : NtL (xs.map g) := ⟨by
  induction xs with
  | nil => rfl
  | cons x r ih => show ((g x).nt && O.ntL (r.map g)) = true; rw [(h x).nt, ih]; rfl⟩
instance {os : List O} [h : NtL os] : Nt (.lst os) := ⟨h.nt⟩
instance {C : Addr} {ns : List Str} {os : List O} [h : NtL os] : Nt (.ins C ns os) := ⟨h.nt⟩
instance {a C : Addr} {ns : List Str} {os : List O} [h : NtL os] : Nt (.at a C ns os) := ⟨h.nt⟩
instance {ks : List Key} {os : List O} [h : NtL os] : Nt (.dct ks os) := ⟨h.nt⟩
instance {ks : List (List Key)} {os : List O} [h : NtL os] : Nt (.dctT ks os) := ⟨h.nt⟩
class NtS (ρ : Slots) : Prop where
  nt : ∀ o, some o ∈ ρ → o.nt = true
instance : NtS [] := ⟨fun _ m => nomatch m⟩
instance {ρ : Slots} [t : NtS ρ] : NtS (none :: ρ) := ⟨fun o m => (List.mem_cons.mp m).elim (fun z => nomatch z) (t.nt o)⟩
instance {o : O} {ρ : Slots} [h : Nt o] [t : NtS ρ] : NtS (some o :: ρ) := ⟨fun o m => (List.mem_cons.mp m).elim (fun z => by cases z; exact h.nt) (t.nt o)⟩
section
variable {K : PySem.W.Frag} {Z0 F Z H : Hp} {ρ τ : Slots} {σ : L2.St} {i : Nat} {l d : Addr} {o : O} {u lu : HO} {qs : List Addr}
def lkF (F H : Hp) (B qs : List Addr) (d : Addr) (lu : HO) : Hp := fun a => if a = d then some lu else if a ∈ B ∨ a ∈ qs then H a else F a
theorem lkF_d {B : List Addr} : lkF F H B qs d lu d = some lu := if_pos rfl
theorem lkF_in {B : List Addr} {a : Addr} (h : a ≠ d) (m : a ∈ B ∨ a ∈ qs) : lkF F H B qs d lu a = H a := by unfold lkF; rw [if_neg h, if_pos m]
theorem lkF_out {B : List Addr} {a : Addr} (h : a ≠ d) (m : ¬ (a ∈ B ∨ a ∈ qs)) : lkF F H B qs d lu a = F a := by unfold lkF; rw [if_neg h, if_neg m]
theorem locked (s : StR K ρ Z0 F Z σ H) (hi : ρ[i]? = some (some (.loc l o))) (nt : ∀ o, some o ∈ ρ → o.nt = true) : σ[i]? = some (some (.ref l)) ∧ ∃ B, RepO K Z F H (.ref l) o B ∧ B.Nodup ∧ (∀ a ∈ B, Z a = none ∧ F a = none) ∧
    ∀ {d : Addr} {u lu : HO} {qs : List Addr}, d ∈ B → H d = some u → (∀ q ∈ qs, ∃ xs, H q = some (.tup xs)) →
      Ex F (lkF F H B qs d lu) ∧ StR K (ρ.set i (some (.pt l))) Z (lkF F H B qs d lu) Z σ (upd H d lu) ∧
      ∀ {τ : Slots} {Zn Hn : Hp} {σn : L2.St}, StR K τ Z (lkF F H B qs d lu) Zn σn Hn → τ[i]? = some (some (.pt l)) → Kp (ρ.set i (some (.pt l))) τ → o.nv = true → StR K (τ.set i (some (.loc l o))) Z0 F Zn σn (upd Hn d u) := by
  obtain ⟨A, h1, h2, h3⟩ := s.st
  obtain ⟨v, B, q1, q2, q3, q4, q5⟩ := h1.at hi h2
  have ev : v = .ref l := by cases q2 with | loc _ => rfl
  subst ev
  have r0 : RepO K Z F H (.ref l) o B := by cases q2 with | loc r => exact r
  refine ⟨q1, B, r0, q3, fun a m => h3 a (q4 a m), fun {d u lu qs} hd hu hq => ?_⟩
  generalize eF : lkF F H B qs d lu = F1
  have zd : Z d = none := (h3 d (q4 d hd)).1
  have fd : F d = none := (h3 d (q4 d hd)).2
  have F1d : F1 d = some lu := by rw [← eF]; exact lkF_d
  have F1i : ∀ a, a ≠ d → (a ∈ B ∨ a ∈ qs) → F1 a = H a := fun a n m => by rw [← eF]; exact lkF_in n m
  have F1o : ∀ a, a ≠ d → ¬ (a ∈ B ∨ a ∈ qs) → F1 a = F a := fun a n m => by rw [← eF]; exact lkF_out n m
  have ef : Ex F F1 := fun a w e => by
    have n : a ≠ d := fun z => by rw [z, fd] at e; cases e
    by_cases m : a ∈ B ∨ a ∈ qs
    · rw [F1i a n m]; exact s.gr.hh a w e
    · rw [F1o a n m]; exact e
  have eh : Ex F1 (upd H d lu) := fun a w e => by
    by_cases n : a = d
    · subst n
      rw [F1d] at e
      rw [upd_same]; exact e
    · rw [upd_ne n]
      by_cases m : a ∈ B ∨ a ∈ qs
      · rw [F1i a n m] at e; exact e
      · rw [F1o a n m] at e; exact s.gr.hh a w e
  have zh : Ex Z (upd H d lu) := fun a w e => by
    rw [upd_ne fun z => by rw [z, zd] at e; cases e]
    exact s.gr.zh a w e
  obtain ⟨A', t1, t2, t3⟩ := q5 (Z' := Z) (H' := upd H d lu) (v' := .ref l) (o' := .pt l) (B' := []) (Ex.refl _) (fun a m nb w e => by
    rw [upd_ne (show a ≠ d from fun z => nb (by rw [z]; exact hd))]; exact e) .pt List.nodup_nil fun _ m => nomatch m
  rw [set_same q1] at t1
  have ntA : ∀ a ∈ A, ∀ xs, H a ≠ some (.tup xs) := h1.nt nt
  have F1A : ∀ a ∈ A, a ∉ B → F1 a = none := fun a m nb => by
    have n : a ≠ d := fun z => nb (by rw [z]; exact hd)
    have nm : ¬ (a ∈ B ∨ a ∈ qs) := fun z => z.elim nb fun z => by
      obtain ⟨xs, e⟩ := hq a z
      exact ntA a m xs e
    rw [F1o a n nm]; exact (h3 a m).2
  refine ⟨ef, ⟨⟨Ex.refl _, eh, zh, fun _ _ _ => rfl⟩, A', t1.monoF ef, t2, fun a m => ?_⟩, fun {τ Zn Hn σn} sn hp hk hv => ?_⟩
  · rcases t3 a m with z | z
    · exact ⟨(h3 a z.1).1, F1A a z.1 z.2⟩
    · exact nomatch z
  · obtain ⟨An, l1, l2, l3⟩ := sn.st
    obtain ⟨w, Bn, u1, u2, u3, u4, u5⟩ := l1.at hp l2
    have ew : w = .ref l := by cases u2; rfl
    subst ew
    have nd : ∀ a ∈ An, a ≠ d := fun a m z => by rw [z] at m; rw [(l3 d m).2] at F1d; cases F1d
    have HnB : ∀ a ∈ B, a ≠ d → Hn a = H a := fun a m n => by
      obtain ⟨w, e⟩ := r0.there a m
      rw [e]
      exact sn.gr.hh a w (by rw [F1i a n (.inl m)]; exact e)
    have rB : RepO K Zn F (upd Hn d u) (.ref l) (.loc l o) B := .loc (r0.mono sn.gr.zz (Ex.refl _) fun a m w e => by
      by_cases n : a = d
      · subst n
        rw [hu] at e
        rw [upd_same]; exact e
      · rw [upd_ne n, HnB a m n]; exact e)
    have ZnB : ∀ a ∈ B, Zn a = none := fun a m => by
      have : ∃ w, F1 a = some w := by
        by_cases n : a = d
        · exact ⟨_, by rw [n]; exact F1d⟩
        · obtain ⟨w, e⟩ := r0.there a m
          exact ⟨w, by rw [F1i a n (.inl m)]; exact e⟩
      obtain ⟨w, e⟩ := this
      rw [sn.gr.nw a w e]
      exact (h3 a (q4 a m)).1
    have l1' : StL K Zn F1 (upd Hn d u) τ σn An := l1.mono (Ex.refl _) fun a m w e => by rw [upd_ne (nd a m)]; exact e
    have l2' : StL K Zn F (upd Hn d u) τ σn An := StL.kp ef sn.gr.zz hk t1 (by
      exact l1')
    obtain ⟨w2, Bn2, y1, y2, y3, y4, y5⟩ := l2'.at hp l2
    have eB2 : Bn2 = [] := by cases y2; rfl
    subst eB2
    have BA : ∀ a ∈ B, a ∉ An := fun a m z => by
      have := (l3 a z).2
      by_cases n : a = d
      · rw [n, F1d] at this; cases this
      · obtain ⟨w, e⟩ := r0.there a m
        rw [F1i a n (.inl m), e] at this; cases this
    obtain ⟨A2, x1, x2, x3⟩ := y5 (Z' := Zn) (H' := upd Hn d u) (v' := .ref l) (o' := .loc l o) (B' := B) (Ex.refl _) (fun _ _ _ _ e => e) rB q3 fun a m z => absurd z (BA a m)
    rw [set_same u1] at x1
    have znd : Zn d = none := ZnB d hd
    refine ⟨⟨s.gr.zz.trans sn.gr.zz, fun a w e => ?_, fun a w e => ?_, fun a w e => (sn.gr.nw a w (ef a w e)).trans (s.gr.nw a w e)⟩, A2, x1, x2, fun a m => ?_⟩
    · rw [upd_ne fun z => by rw [z, fd] at e; cases e]
      exact sn.gr.hh a w (ef a w e)
    · rw [upd_ne fun z => by rw [z, znd] at e; cases e]
      exact sn.gr.zh a w e
    · rcases x3 a m with z | z
      · refine ⟨(l3 a z.1).1, ?_⟩
        have n := nd a z.1
        have := (l3 a z.1).2
        by_cases mm : a ∈ B ∨ a ∈ qs
        · cases e : F a with
          | none => rfl
          | some w =>
            have := ef a w e
            rw [(l3 a z.1).2] at this
            cases this
        · rw [F1o a n mm] at this; exact this
      · exact ⟨ZnB a z, (h3 a (q4 a z)).2⟩
end
end M
namespace M
open PySem L2 PySem.Spec PyProof.Rows
section
variable {X : Cx} {ρ : Slots} {e : Expr} {st : Stmt} {G : Go} {o : O} {pos p0 p1 p2 : Pos} {i i1 i2 j : Nat} {nm x : Str} {C l : Addr} {ns : List Str} {os : List O} {β V : Type} {g : β → O}
end
end M
namespace M
open PySem PySem.Spec PyProof.Rows
/-- each text once, in the order of their first coming -/
def dd1 (σ : List Str) (x : Str) : List Str := if σ.any (· == x) = true then σ else σ ++ [x]
def dd (xs : List Str) : List Str := xs.foldl dd1 []
section
variable {prog : Program} {w : World} {A : Around}
end
end M
namespace M
open PySem L2 PySem.Spec PyProof.Rows
section
variable {X : Cx} {ρ : Slots} {e : Expr} {p p2 q pos : Pos}
end
end M
namespace M
open PySem L2 PySem.Spec PyProof.Rows
section
variable {X : Cx} {ρ ρ' : Slots} {R R' : O → Slots} {e a b c f : Expr} {es : List Expr} {d d1 dk : D} {ds : List D} {pos p0 p1 p2 p3 p4 : Pos} {i j : Nat} {st : Stmt} {sts : List Stmt} {G : Go} {o o' : O} {nm : Str} {C l : Addr} {ns : List Str} {os : List O} {β : Type} {g : β → O} {enc : β → D} {k : Key} {ks : List Key} {y1 : β} {n : Int}
end
end M
namespace M
open PySem L2 PySem.Spec PyProof.Rows
section
variable {X : Cx} {ρ ρ' : Slots} {R R' : O → Slots} {e a b c f : Expr} {es : List Expr} {d d1 dk : D} {ds : List D} {pos p0 p1 p2 p3 p4 : Pos} {i j : Nat} {st : Stmt} {sts : List Stmt} {G : Go} {o o' : O} {nm x : Str} {C l : Addr} {ns : List Str} {os : List O} {β : Type} {g : β → O} {enc : β → D}
end
end M
namespace L2
open PySem PySem.Spec PyProof.Rows
section
variable {X : Cx} {a C fI : Addr} {bmB : List Value} {B newId initId : String} {x : Str} {e : Expr} {es : List Expr} {te ta0 : TE} {ta : TA} {p p1 p2 pos : Pos} {n : Str}
end
end L2
namespace M
open PySem L2 PySem.Spec PyProof.Rows
section
variable {X : Cx} {ρ : Slots} {C E : Addr} {e : Expr} {o : O} {nm fld n : Str} {f : Option (Str × Int)} {i : Int} {p0 p1 p2 pos : Pos} {b : Bool} {T : String} {k : Nat} {ps : List Str}
theorem ExF.dict {Z H : Hp} {d : Option Addr} (z : Ex Z H) : ∀ {f : Option (Str × Int)}, ExF Z d f → ∀ dd, d = some dd → ∃ fs, H dd = some (exd dd fs)
  | none, h, dd, e => by rw [show d = none from h] at e; cases e
  | some _, ⟨_, h, q⟩, dd, e => by
    rw [h] at e
    cases e
    exact ⟨_, z _ _ q⟩
end
end M
namespace L2
open PySem PySem.Spec PyProof.Rows
section
variable {X : Cx} {a D : Addr} {oe : Obj} {d : Option Addr} {pn : List (Addr × Obj)}
end
end L2
namespace M
open PySem L2 PySem.Spec PyProof.Rows
theorem ExH.dict {Z H : Hp} {d : Option Addr} (z : Ex Z H) : ∀ {f : Option (Str × Int)}, ExH Z d f → ∀ dd, d = some dd → ∃ fs, H dd = some (.xd fs)
  | none, h, dd, e => by rw [show d = none from h] at e; cases e
  | some _, ⟨_, h, q⟩, dd, e => by
    rw [h] at e
    cases e
    exact ⟨_, z _ _ q⟩
section
variable {X : Cx} {ρ : Slots} {G : Go}
end
section
variable {X : Cx} {ρ : Slots} {a C E : Addr} {oe : Obj} {d : Option Addr} {fo : Option (Str × Int)} {pn : List (Addr × Obj)} {i : Nat} {n nm f : Str} {p0 p1 p2 pos : Pos} {b : Bool} {T : String} {k : Int}
end
end M
namespace M
open PySem L2 PySem.Spec PyProof.Rows
section
variable {X : Cx} {ρ : Slots} {G : Go} {C : Addr} {e : Expr} {nm fld : Str} {i : Int} {p0 pos pos' : Pos} {k : Nat} {ps : List Str}
end
end M
namespace HotX
open PySem PySem.Spec PyProof.Rows
section
variable {prog : Program} {w : World} {A : Around} {E : Value → Shared → Prop} {s : Shared}
theorem pyNext_ascii_end_hot {it x1 : Addr} {x : Str} {t : Tok} {i : Nat} {Q : Option Value → Shared → Prop} (hot : HotAt A x1 s.heap) (hne : x1 ≠ it) (hit : s.heap.IsStrIter it "str_ascii_iterator" x t i) (hx : x.cps[i]? = none)
    (hQ : ∀ h', (∀ b o, b ≠ it → s.heap.get? b = some o → h'.get? b = some o) → Q none { s with heap := h' }) : wpAny (model prog w) A (pyNext (.ref it)) Q E s := by
  obtain ⟨o, ho, hc, hd⟩ := id hit
  obtain ⟨hh, o1, vs1, h1, d1, c1⟩ := hot
  unfold pyNext
  refine wpAny_bind (wpAny_attempt (wpAny_callSpecial?_slot (name := Str.ofString "__next__") hit.typeIs PySem.F.slot_str_ascii_iterator_next
    (wpAny_call_entry PySem.F.slot_str_ascii_iterator_next hit.typeIs PySem.F.entry_str_ascii_iterator_next ?_ (PySem.F.args_str_ascii_iterator_next_1 _))))
  show wpAny _ _ (field (.ref it) 0 >>= _) _ _ s
  refine wpAny_bind (wpAny_field ho hd (x := .str x t) rfl ?_)
  show wpAny _ _ (field (.ref it) 1 >>= _) _ _ s
  refine wpAny_bind (wpAny_field ho hd (x := .int i 0) rfl ?_)
  simp only [Int.toNat_natCast, hx]
  refine wpAny_bind (wpAny_rule (wpAny_bind (wpAny_setField ho hd (by simp) (wpAny_bind (wpAny_letGo ?_)))))
  have h2 : ∀ v, (s.heap.update it (Obj.mapFields (·.setIfInBounds 0 v))).get? x1 = some o1 := fun v => by
    rw [Heap.get?_update_other _ _ (Ne.symm hne)]
    exact h1
  show wpAny _ _ (newExc (.type "StopIteration") [] >>= _) _ _ _
  refine wpAny_bind ?_
  simp only [newExc, newTuple]
  refine wpAny_bind (wpAny_newObj_type ?_ (by size_fits))
  refine wpAny_bind (m := firstArgMember _ _) (wpAny_of_eq (a := Value.none) (by first | rfl | (simp only [firstArgMember]; rfl)) ?_)
  refine wpAny_newObj_type ?_ (by size_fits)
  refine raiseNew_hot ⟨hh, o1, vs1, Heap.get?_push_of_some _ (Heap.get?_push_of_some _ (h2 _)), d1, c1⟩ (Nat.ne_of_lt (Heap.lt_size (Heap.get?_push_of_some _ (h2 _)))) (Heap.get?_push_size _ rfl) rfl (by first | (simp; done) | (simp; omega) | (simp only [Array.size_append]; simp; omega)) ?_
  refine wpAny_bind (wpAny_isInstance (T := "StopIteration") (b := true) ⟨_, Heap.get?_update_self _ (Heap.get?_push_size _ rfl) rfl, rfl⟩ isSubtype_stop ?_)
  refine wpAny_pure (hQ _ fun b o nb e => ?_)
  have e2 : ∀ v, (s.heap.update it (Obj.mapFields (·.setIfInBounds 0 v))).get? b = some o := fun v => by
    rw [Heap.get?_update_other _ _ (Ne.symm nb)]
    exact e
  rw [Heap.get?_update_other _ _ (Nat.ne_of_gt (Heap.lt_size (Heap.get?_push_of_some _ (e2 _))))]
  exact Heap.get?_push_of_some _ (Heap.get?_push_of_some _ (e2 _))
theorem pyNext_wide_end_hot {it x1 : Addr} {x : Str} {t : Tok} {i : Nat} {Q : Option Value → Shared → Prop} (hot : HotAt A x1 s.heap) (hne : x1 ≠ it) (hit : s.heap.IsStrIter it "str_iterator" x t i) (hx : x.cps[i]? = none)
    (hQ : ∀ h', (∀ b o, b ≠ it → s.heap.get? b = some o → h'.get? b = some o) → Q none { s with heap := h' }) : wpAny (model prog w) A (pyNext (.ref it)) Q E s := by
  obtain ⟨o, ho, hc, hd⟩ := id hit
  obtain ⟨hh, o1, vs1, h1, d1, c1⟩ := hot
  unfold pyNext
  refine wpAny_bind (wpAny_attempt (wpAny_callSpecial?_slot (name := Str.ofString "__next__") hit.typeIs PySem.F.slot_str_iterator_next
    (wpAny_call_entry PySem.F.slot_str_iterator_next hit.typeIs PySem.F.entry_str_iterator_next ?_ (PySem.F.args_str_iterator_next_1 _))))
  show wpAny _ _ (field (.ref it) 0 >>= _) _ _ s
  refine wpAny_bind (wpAny_field ho hd (x := .str x t) rfl ?_)
  show wpAny _ _ (field (.ref it) 1 >>= _) _ _ s
  refine wpAny_bind (wpAny_field ho hd (x := .int i 0) rfl ?_)
  simp only [Int.toNat_natCast, hx]
  refine wpAny_bind (wpAny_rule (wpAny_bind (wpAny_setField ho hd (by simp) (wpAny_bind (wpAny_letGo ?_)))))
  have h2 : ∀ v, (s.heap.update it (Obj.mapFields (·.setIfInBounds 0 v))).get? x1 = some o1 := fun v => by
    rw [Heap.get?_update_other _ _ (Ne.symm hne)]
    exact h1
  show wpAny _ _ (newExc (.type "StopIteration") [] >>= _) _ _ _
  refine wpAny_bind ?_
  simp only [newExc, newTuple]
  refine wpAny_bind (wpAny_newObj_type ?_ (by size_fits))
  refine wpAny_bind (m := firstArgMember _ _) (wpAny_of_eq (a := Value.none) (by first | rfl | (simp only [firstArgMember]; rfl)) ?_)
  refine wpAny_newObj_type ?_ (by size_fits)
  refine raiseNew_hot ⟨hh, o1, vs1, Heap.get?_push_of_some _ (Heap.get?_push_of_some _ (h2 _)), d1, c1⟩ (Nat.ne_of_lt (Heap.lt_size (Heap.get?_push_of_some _ (h2 _)))) (Heap.get?_push_size _ rfl) rfl (by first | (simp; done) | (simp; omega) | (simp only [Array.size_append]; simp; omega)) ?_
  refine wpAny_bind (wpAny_isInstance (T := "StopIteration") (b := true) ⟨_, Heap.get?_update_self _ (Heap.get?_push_size _ rfl) rfl, rfl⟩ isSubtype_stop ?_)
  refine wpAny_pure (hQ _ fun b o nb e => ?_)
  have e2 : ∀ v, (s.heap.update it (Obj.mapFields (·.setIfInBounds 0 v))).get? b = some o := fun v => by
    rw [Heap.get?_update_other _ _ (Ne.symm nb)]
    exact e
  rw [Heap.get?_update_other _ _ (Nat.ne_of_gt (Heap.lt_size (Heap.get?_push_of_some _ (e2 _))))]
  exact Heap.get?_push_of_some _ (Heap.get?_push_of_some _ (e2 _))
end
end HotX
namespace L2H
open PySem PySem.Spec PyProof.Rows L2 HotX
theorem turn_strH {P : Program} {w : World} {K : PySem.W.Frag} {tg : Expr} (it : Addr) (x : Str) (t : Tok) (ty : String) (hty : ty = "str_ascii_iterator" ∨ ty = "str_iterator") :
    TurnH P w K tg (Its x) [it] it (fun i h => h.IsStrIter it ty x t i) where
  mem := by simp
  obj := fun i h st b hb => by
    have e : b = it := by simpa using hb
    subst e
    obtain ⟨o, e, c, d⟩ := st
    exact ⟨o, e, fun v z => by rw [d] at z; cases z⟩
  keep := fun i h h' st k => let ⟨o, ho, r⟩ := st; ⟨o, k it (by simp) o ho, r⟩
  item := by
    intro X hP hw hK hc i pins s σ H E I hf st hg
    subst hP hw hK
    obtain ⟨f0, f1, f2, f3, f4, f5⟩ := hf it (by simp)
    obtain ⟨c, hcx⟩ : ∃ c, x.cps[i]? = some c := ⟨_, Array.getElem?_eq_getElem hg⟩
    have hno : ["enumerate", "zip", "dict_itemiterator", "dict_reverseitemiterator", "odict_iterator", "itertools.zip_longest", "itertools.pairwise"].contains ty = false := by
      rcases hty with e | e
      · rw [e]; decide
      · rw [e]; decide
    have fin : ∀ h', h'.IsStrIter it ty x t (i + 1) → Heap.SameBut it s.heap h' → ∃ u, (some (Value.str ⟨#[c]⟩ s.toks) : Option Value) = some u ∧
        wpAny (model X.prog X.w) X.A (letOwnedTupleGo tg (.ref it) u) (fun _ s2 => ∃ x' H', Inv X pins σ H' s2 ∧ RelV x' u ∧ (Its x).yld i H x' H' ∧ s2.heap.IsStrIter it ty x t (i + 1) ∧ ∀ b ∈ [it], H' b = none) E { s with heap := h', toks := s.toks + 1 } := fun h' st' sb => by
      have I1 : Inv X pins σ H { s with heap := h', toks := s.toks + 1 } := I.turned (fun b o hb e => (sb.2 b hb).trans e) f0 f1 f3 f4 f5
      obtain ⟨oi, e, cc, dd⟩ := id st'
      exact ⟨_, rfl, go_of (s := { s with heap := h', toks := s.toks + 1 }) e cc dd hno ⟨.str ⟨#[c]⟩, H, I1, ⟨s.toks, rfl⟩, ⟨rfl, c, hcx, rfl⟩, st', fun b hb => (hf b hb).1⟩⟩
    rcases hty with e | e
    · subst e
      exact wpAny_pyNext_ascii_item st hcx fin
    · subst e
      exact wpAny_pyNext_wide_item st hcx fin
  done := by
    intro X hP hw hK hc i pins s σ H E I hf st hg
    subst hP hw hK
    obtain ⟨f0, f1, f2, f3, f4, f5⟩ := hf it (by simp)
    have hx : x.cps[i]? = none := Array.getElem?_eq_none hg
    obtain ⟨p, ⟨hh, v1, e1, c1⟩, hp⟩ := hc
    have P1 := (I.pin p (List.mem_append_left _ hp)).1
    have hot : HotAt X.A p.1 s.heap := ⟨hh, p.2, v1, P1, e1, c1⟩
    have nit : p.1 ≠ it := fun z => (hf it (by simp)).2.2.2.2.2 p (List.mem_append_left _ hp) z
    rcases hty with e | e
    · rw [e] at st
      exact pyNext_ascii_end_hot hot nit st hx fun h' eb => ⟨rfl, I.turned (t' := s.toks) (fun b o hb e => eb b o hb e) f0 f1 f3 f4 f5⟩
    · rw [e] at st
      exact pyNext_wide_end_hot hot nit st hx fun h' eb => ⟨rfl, I.turned (t' := s.toks) (fun b o hb e => eb b o hb e) f0 f1 f3 f4 f5⟩
  self := fun A i s Q E st h => by
    rcases hty with e | e
    · rw [e] at st; exact wpAny_pyIter_striter_ascii st h
    · rw [e] at st; exact wpAny_pyIter_striter_wide st h
theorem pi_oneH {X : Cx} {tg : Expr} {pins : List (Addr × Obj)} {σ : St} {H : Hp} {s : Shared} {R : It → Hp → Prop} {J : It} {tn : Nat → Heap → Prop} {tk : Nat} (I : Inv X pins σ H s) (o : Obj)
    (T : TurnH X.prog X.w X.K tg J [s.heap.objs.size] s.heap.objs.size tn) (h0 : tn 0 (s.heap.push o)) (q : R J H) : PIEH X pins σ tg R (.ref s.heap.objs.size) { s with heap := s.heap.push o, toks := tk } := by
  refine ⟨s.heap.objs.size, [s.heap.objs.size], tn, J, H, rfl, I.kept (t' := tk) fun b u e => Heap.get?_push_of_some _ e, T, h0, fun b hb => ?_, q⟩
  have e : b = s.heap.objs.size := by simpa using hb
  subst e
  exact I.fpOk (Nat.le_refl _) (I.hok.fresh (Nat.le_refl _))
theorem pi_strH {X : Cx} {tg e : Expr} {te : TE} (he : PE X e te) : PIH X tg e (iStr te) := by
  refine ⟨fun pins s σ H R I h => ?_⟩
  refine thn (he.run pins s σ H _ I h) fun v s1 ⟨y, H1, I1, r1, x, ex, q⟩ => ?_
  subst ex
  obtain ⟨t, rfl⟩ := r1
  cases ha : x.cps.all (· < 128)
  · exact wpAny_pyIter_wide ha (pi_oneH (tk := s1.toks) I1 _ (turn_strH _ x t "str_iterator" (.inr rfl)) ⟨_, Heap.get?_push_size _ rfl, rfl, rfl⟩ q)
  · exact wpAny_pyIter_ascii ha (pi_oneH (tk := s1.toks) I1 _ (turn_strH _ x t "str_ascii_iterator" (.inl rfl)) ⟨_, Heap.get?_push_size _ rfl, rfl, rfl⟩ q)
end L2H
namespace M
open PySem L2 PySem.Spec PyProof.Rows
section
variable {X : Cx} {ρ ρ' : Slots} {R' : O → Slots} {a b e : Expr} {bs : List Str} {k : Str} {p1 p2 p3 p4 pos : Pos} {G : Go}
end
section
variable {X : Cx} {ρ : Slots} {e : Expr} {es : List Expr} {er : Er} {d : D} {pos p0 : Pos} {nm : Str} {C : Addr} {ns : List Str}
end
end M
namespace MH
open PySem L2 PySem.Spec PyProof.Rows M
def GX (X : Cx) (Z0 F : Hp) (r : O → Prop) : Prop := ∃ W : WX, L2N.Takes X W ∧ ∀ (e : Er) (ρ : Slots) (Z : Hp) (σ : L2.St) (H : Hp), r (.rs e) → StR X.K ρ Z0 F Z σ H → Thrown X.K W e Z σ H
structure GD (X : Cx) (Z0 F : Hp) (G : Go) (D : Ends) : Prop where
  nx : ∀ ρ Z σ H, G.nx ρ → StR X.K ρ Z0 F Z σ H → D.nx σ H
  bk : ∀ ρ Z σ H, G.bk ρ → StR X.K ρ Z0 F Z σ H → D.bk σ H
  ct : ∀ ρ Z σ H, G.ct ρ → StR X.K ρ Z0 F Z σ H → D.ct σ H
  rt : ∀ o v Z H A, G.rt o → Gr Z0 F Z H → RepO X.K Z F H v o A → New F Z A → D.rt v H
  rs : ∀ o ρ v Z σ H, G.rs o ρ → StR X.K (ρ ++ [some o]) Z0 F Z (σ ++ [some v]) H → D.rt v H
  ex : GX X Z0 F G.rt
structure MS1 (X : Cx) (ρ : Slots) (st : Stmt) (G : Go) : Prop where
  run : ∀ (Z0 F Z : Hp) (σ : L2.St) (H : Hp) (D : Ends), StR X.K ρ Z0 F Z σ H → GD X Z0 F G D → wS1 X st D σ H
structure MS (X : Cx) (ρ : Slots) (sts : List Stmt) (G : Go) : Prop where
  run : ∀ (Z0 F Z : Hp) (σ : L2.St) (H : Hp) (D : Ends), StR X.K ρ Z0 F Z σ H → GD X Z0 F G D → wS X sts D σ H
def th (G : Go) (X : Cx) (sts : List Stmt) : Go := { G with nx := fun ρ => MS X ρ sts G }
section
variable {X : Cx} {ρ : Slots} {e : Expr} {es : List Expr} {st : Stmt} {sts : List Stmt} {G : Go} {o : O} {d : D} {ds : List D} {pos : Pos} {i : Nat}
theorem ms_nil (h : G.nx ρ) : MS X ρ [] G := .mk fun Z0 F Z σ H D s g => PSs_w pss_nil (g.nx ρ Z σ H h s)
theorem ms_cons (h : MS1 X ρ st (th G X sts)) : MS X ρ (st :: sts) G := .mk fun Z0 F Z σ H D s g =>
  PSs_w (pss_cons ps_w pss_w) (h.run Z0 F Z σ H _ s ⟨fun ρ' Z' σ' H' m s' => m.run Z0 F Z' σ' H' D s' g, g.bk, g.ct, g.rt, g.rs, g.ex⟩)
theorem ms_one (h : MS1 X ρ st G) : MS X ρ [st] G := .mk fun Z0 F Z σ H D s g => PSs_w (pss_one ps_w) (h.run Z0 F Z σ H _ s g)
theorem m_set (p : PS X st (tAsg (wE X e) (gName i))) (h : ME X ρ e o) (k : G.nx (ρ.set i (some o))) (hi : i < ρ.length := by exact Nat.le_of_ble_eq_true rfl) : MS1 X ρ st G := .mk fun Z0 F Z σ H D s g =>
  PS_w p (h.run Z0 F Z σ H s _ fun v Z1 H1 A g1 r n => g.nx _ Z1 _ H1 k (s.put g1 r n hi))
theorem m_ret (p : PS X st (tRet (wE X e))) (h : MR X ρ e o) (k : G.rt o) : MS1 X ρ st G := .mk fun Z0 F Z σ H D s g =>
  PS_w p (h.run Z0 F Z σ H s _ fun v Z1 H1 A g1 r n d => g.rt o v Z1 H1 A k (s.gr.trans g1) r ⟨n, fun a m => ⟨(d a m).2, (d a m).1⟩⟩)
theorem m_if {c : Expr} {a b : List Stmt} {t : Bool} (hc : MT X ρ c t) (h1 : t = true → MS X ρ a G) (h2 : t = false → MS X ρ b G) : MS1 X ρ (.If c a b pos) G := .mk fun Z0 F Z σ H D s g =>
  PS_w (ps_if pt_w pss_w pss_w) (hc.run Z0 F Z σ H s _ fun Z1 H1 g1 => by
    cases t with
    | true => exact (h1 rfl).run Z0 F Z1 σ H1 D (s.grow g1) g
    | false => exact (h2 rfl).run Z0 F Z1 σ H1 D (s.grow g1) g)
theorem m_tgt {g : TG} {ρ' : Slots} {ws : List Nat} (p : PS X st (tAsg (wE X e) g)) (h : ME X ρ e (.fz d)) (t : MTg g X.K ρ d ρ' ws) (k : G.nx ρ') : MS1 X ρ st G := .mk fun Z0 F Z σ H D s gd =>
  PS_w p (h.run Z0 F Z σ H s _ fun v Z1 H1 A g1 r n => by
    cases r with
    | fz r => exact t.run Z0 F Z1 σ H1 v (s.grow g1) r _ fun σ2 s2 _ => gd.nx ρ' Z1 σ2 H1 k s2)

theorem m_raise {C : Addr} (pm : L2N.PMk X e (fun _ H Q => Q (.ref C) none H)) (k : G.rt (.rs ⟨C, none⟩)) (hc : X.calm = true := by rfl) : MS1 X ρ (.Raise (some e) none pos) G := .mk fun Z0 F Z σ H D s gd => by
  obtain ⟨W, tk, kk⟩ := gd.ex
  exact PS_w (L2N.ps_raise hc tk pm) (kk ⟨C, none⟩ ρ Z σ H k s)
end
theorem pm_own {X : Cx} {nm m : Str} {C : Addr} {j : Nat} {p p2 pos : Pos} (c : XcC X.K X.mg nm C) (hg : Gl X nm := by rfl) (hdb : (nm == ("__debug__" : Str)) = false := by decide) : L2N.PMk X (.Call (.Name nm p) [.Constant (.str m) j p2] [] pos) (fun _ H Q => Q (.ref C) none H) :=
  L2N.pmk_own PySem.F.excBase_ValueError c.q c.g c.k (raises_own c.b c.t) hg hdb
theorem okXN {P : Program} {w : World} {K : PySem.W.Frag} {mg : Str → Option Value} {base : Heap} {x qual : Str} {st : Stmt} {f : Addr} {fd : FuncData} {N ps : List Str} {k : Nat} {sp : Sp} (F : Fun K x qual st f fd) (S : FnScope N ps (defScope st)) (len : ∀ vs H Q E, sp vs H Q E → vs.length = ps.length)
    (hbody : ∀ (cdv : Value) (A : Around) (outer : List Env) (s : Shared) (H : Hp) (vs : List V) (Q : VK) (E : XK), Room k (A.deeper (envOfC qual (defScope st) s.heap.objs.size f cdv)) → sp vs H Q E →
      ∃ t, PSs (cxOf (L2N.CX P w) P w K mg base N qual (defScope st) f cdv A outer s H E) (defBody st) t ∧ t { nx := fun _ H' => Q .non H', rt := Q } (start N vs) H) : FnOk P w K mg base (L2N.CX P w) (k + 1) f fd ps sp := by
  obtain ⟨oc, od, kV, doc, pm, an, cdv, ct, osl, rfl, lk, hcd⟩ := F.ex
  exact fn_of lk hcd S len fun A outer s H vs Q E hr hsp => hbody cdv A outer s H vs Q E hr hsp
/-- its body keeps its promise -/
theorem fn_mE {α : Type} {P : Program} {w : World} {K : PySem.W.Frag} {mg : Str → Option Value} {base : Heap} {x qual : Str} {st : Stmt} {f : Addr} {fd : FuncData} {N ps : List Str} {k : Nat} {ar : α → List O} {pre : α → Prop} {res : α → O}
    (F : Fun K x qual st f fd) (S : FnScope N ps (defScope st)) (hl : ∀ x, (ar x).length = ps.length) (hn : ∀ x, pre x → (res x).nv = true ∨ ∃ e, res x = .rs e)
    (hb : ∀ (cdv : Value) (A : Around) (outer : List Env) (s : Shared) (H : Hp) (E : XK), Room k (A.deeper (envOfC qual (defScope st) s.heap.objs.size f cdv)) →
      PassesOwn (model P w) (A.deeper (envOfC qual (defScope st) s.heap.objs.size f cdv)) (cxOf (L2N.CX P w) P w K mg base N qual (defScope st) f cdv A outer s H E).env (cxOf (L2N.CX P w) P w K mg base N qual (defScope st) f cdv A outer s H E).xe → ∀ x, pre x →
      MS (cxOf (L2N.CX P w) P w K mg base N qual (defScope st) f cdv A outer s H E) ((ar x).map some ++ List.replicate (N.length - ps.length) none) (defBody st) { nx := fun _ => res x = .fz .non, rt := fun o => o = res x }) :
    FnOk P w K mg base (L2N.CX P w) (k + 1) f fd ps (SpE K ar pre res) := by
  refine okXN F S (fun vs H Q E h => ?_) (fun cdv A outer s H vs Q E hr h => ?_)
  · obtain ⟨x, Z, _, r, _⟩ := h
    rw [r.length, hl]
  · obtain ⟨x, Z, ez, r, hp, q, qx⟩ := h
    refine ⟨_, pss_w, (hb cdv A outer s H E hr (passes_of rfl) x hp).run Z H Z _ H _ ⟨Gr.refl ez, [], ?_, List.nodup_nil, fun _ m => nomatch m⟩ ⟨fun ρ Z' σ H' e s' => ?_, fun _ _ _ _ z => z.elim, fun _ _ _ _ z => z.elim, fun o v Z' H' A e g r n => ?_, fun _ _ _ _ _ _ z => z.elim, ⟨_, L2N.takes_of rfl rfl rfl rfl, fun e ρ Z' σ H' k s' => thrown_of (qx e Z' H' k.symm s'.gr)⟩⟩⟩
    · have e : L2.start N vs = vs.map some ++ List.replicate (N.length - ps.length) none := by
        unfold L2.start
        rw [r.length, hl]
      rw [e]
      exact stL_more _ (stL_args r)
    · refine q _ Z' H' [] s'.gr ?_ .nil
      rw [e]
      exact .fz .non
    · subst e
      rcases hn x hp with hn | ⟨e, hn⟩
      · exact q _ Z' H' A g (r.unF hn) n
      · rw [hn] at r
        cases r

theorem known {P : Program} {w : World} {K : PySem.W.Frag} {mg : Str → Option Value} {base : Heap} {k : Nat} {f : Addr} {fd : FuncData} {ps : List Str} {sp sp' : Sp} (F : FnOk P w K mg base (L2N.CX P w) k f fd ps sp)
    (h : ∀ vs H Q E, sp' vs H Q E → sp vs H Q (fun _ _ _ => False)) : FnOk P w K mg base CX0 k f fd ps sp' :=
  ⟨fun vs H Q E q => F.len vs H Q _ (h _ _ _ _ q), fun A outer s H args us vs Q E hr he hb hv hs => codeAny_mono (F.run A outer s H args us vs Q _ hr he hb hv (h _ _ _ _ hs)) fun r s' q => by
    cases r with
    | ok r => cases r <;> exact q
    | error e =>
      obtain ⟨_, _, _, _, _, _, _, _, _, _, _, _, z⟩ := q
      exact z.elim⟩
structure Fn1E (P : Program) (w : World) (K : PySem.W.Frag) (mg : Str → Option Value) (base : Heap) (name : Str) (k : Nat) (ps : List Str) (sp : Sp) : Prop where
  ex : ∃ (f : Addr) (fd : FuncData), mg name = some (.ref f) ∧ PySem.W.keepIn K (.ref f) = true ∧ Binds K fd ps [] ∧ FnOk P w K mg base (L2N.CX P w) k f fd ps sp
theorem Fn1E.ok {P : Program} {w : World} {K : PySem.W.Frag} {mg : Str → Option Value} {base : Heap} {name : Str} {k : Nat} {ps : List Str} {α : Type} {ar : α → List O} {pre : α → Prop} {res : α → O} (c : Fn1E P w K mg base name k ps (SpE K ar pre res)) : Fn1 P w K mg base name k ps (SpM K ar (fun x => pre x ∧ ∀ e, res x ≠ .rs e) res) := by
  obtain ⟨f, fd, hm, hk, hb, F⟩ := c.ex
  exact ⟨f, fd, hm, hk, hb, known F fun vs H Q E ⟨x, Z, ez, r, ⟨hp, hn⟩, q⟩ => ⟨x, Z, ez, r, hp, q, fun e _ _ z => absurd z (hn e)⟩⟩
end MH
namespace M
open PySem L2 PySem.Spec PyProof.Rows L2H
section
variable {X : Cx} {ρ : Slots} {G : Go}
end
end M
namespace HotX
open PySem PySem.Spec PyProof.Rows
section
variable {prog : Program} {w : World} {A : Around} {E : Value → Shared → Prop} {s : Shared}
theorem next_tuple_end_hot {it t x1 : Addr} {i : Nat} {items : Array Value} {Q : Option Value → Shared → Prop} (hot : HotAt A x1 s.heap) (hne : x1 ≠ it)
    (hit : IsTupIter s.heap it t i) (ht : IsTup s.heap t items) (hx : items[i]? = none)
    (hQ : ∀ h', Heap.ExtBut it s.heap h' → Q none { s with heap := h' }) : wpAny (model prog w) A (pyNext (.ref it)) Q E s := by
  obtain ⟨o, ho, hc, hd⟩ := id hit
  obtain ⟨ol, hol, _, nl, hdl⟩ := ht
  obtain ⟨hh, o1, vs1, h1, d1, c1⟩ := hot
  unfold pyNext
  refine wpAny_bind (wpAny_attempt (wpAny_callSpecial?_slot (name := Str.ofString "__next__") hit.typeIs slot_tupleiter_next
    (wpAny_call_entry slot_tupleiter_next hit.typeIs entry_tupleiter_next ?_ (args_tupleiter_next _))))
  show wpAny _ _ (field (.ref it) 0 >>= _) _ _ s
  refine wpAny_bind (wpAny_field ho hd (x := .ref t) rfl ?_)
  show wpAny _ _ (if (Value.ref t == Value.none) = true then _ else _) _ _ s
  rw [if_neg (show ¬ ((Value.ref t == Value.none) = true) from Bool.false_ne_true)]
  show wpAny _ _ (field (.ref it) 1 >>= _) _ _ s
  refine wpAny_bind (wpAny_field ho hd (x := .int i 0) rfl ?_)
  show wpAny _ _ (seqItems? (.ref t) >>= _) _ _ s
  refine wpAny_bind (wpAny_seqItems hol hdl ?_)
  simp only [Int.toNat_natCast, hx]
  refine wpAny_bind (wpAny_rule (wpAny_bind (wpAny_setField ho hd (by simp) ?_)))
  have h2 : ∀ v, (s.heap.update it (Obj.mapFields (·.setIfInBounds 0 v))).get? x1 = some o1 := fun v => by
    rw [Heap.get?_update_other _ _ (Ne.symm hne)]
    exact h1
  show wpAny _ _ (newExc (.type "StopIteration") [] >>= _) _ _ _
  refine wpAny_bind ?_
  simp only [newExc, newTuple]
  refine wpAny_bind (wpAny_newObj_type ?_ (by size_fits))
  refine wpAny_bind (m := firstArgMember _ _) (wpAny_of_eq (a := Value.none) (by first | rfl | (simp only [firstArgMember]; rfl)) ?_)
  refine wpAny_newObj_type ?_ (by size_fits)
  refine raiseNew_hot ⟨hh, o1, vs1, Heap.get?_push_of_some _ (Heap.get?_push_of_some _ (h2 _)), d1, c1⟩ (Nat.ne_of_lt (Heap.lt_size (Heap.get?_push_of_some _ (h2 _)))) (Heap.get?_push_size _ rfl) rfl (by first | (simp; done) | (simp; omega) | (simp only [Array.size_append]; simp; omega)) ?_
  refine wpAny_bind (wpAny_isInstance (T := "StopIteration") (b := true) ⟨_, Heap.get?_update_self _ (Heap.get?_push_size _ rfl) rfl, rfl⟩ isSubtype_stop ?_)
  refine wpAny_pure (hQ _ fun b o nb e => ?_)
  have e2 : ∀ v, (s.heap.update it (Obj.mapFields (·.setIfInBounds 0 v))).get? b = some o := fun v => by
    rw [Heap.get?_update_other _ _ (Ne.symm nb)]
    exact e
  rw [Heap.get?_update_other _ _ (Nat.ne_of_gt (Heap.lt_size (Heap.get?_push_of_some _ (e2 _))))]
  exact Heap.get?_push_of_some _ (Heap.get?_push_of_some _ (e2 _))
theorem unpackItems_hot {t x1 : Addr} {items : Array Value} {Q : List Value → Shared → Prop} (hot : HotAt A x1 s.heap) (ht : IsTup s.heap t items)
    (hQ : ∀ h', Heap.ExtBut s.heap.objs.size s.heap h' → Q items.toList { s with heap := h' }) : wpAny (model prog w) A (unpackItems (.ref t) items.size none) Q E s := by
  have hlt : t ≠ s.heap.objs.size := by obtain ⟨o, ho, _⟩ := ht; exact Nat.ne_of_lt (Heap.lt_size ho)
  obtain ⟨hh, o1, vs1, h1, d1, c1⟩ := id hot
  have hx1 : x1 ≠ s.heap.objs.size := Nat.ne_of_lt (Heap.lt_size h1)
  unfold unpackItems
  refine wpAny_bind ?_
  · unfold notIterableAtAll
    refine wpAny_bind (wpAny_specialOf ht.typeIs slot_tuple_iter.lookup ?_)
    refine wpAny_pure ?_
    simp only [Bool.false_eq_true, if_false]
    refine wpAny_bind (wpAny_holding (iter_tuple ht ?_))
    refine wpAny_bind (wpAny_holding (draw_tuple hlt items.size 0 _ _ ⟨_, Heap.get?_push_size _ rfl, rfl, rfl⟩ (ht.push _) (by omega) fun h₁ hit₁ hs₁ => ?_))
    have hall : List.take items.size (List.drop 0 items.toList) = items.toList := by
      rw [List.drop_zero]; exact List.take_of_length_le (by simp)
    rw [hall]
    rw [if_neg (by simp)]
    have ht₁ : IsTup h₁ t items := (ht.push _).extBut hs₁.extBut hlt
    have hot₁ : HotAt A x1 h₁ := ⟨hh, o1, vs1, hs₁.extBut x1 o1 hx1 (Heap.get?_push_of_some _ h1), d1, c1⟩
    refine wpAny_bind (wpAny_holding (next_tuple_end_hot hot₁ hx1 hit₁ ht₁ (by simp) fun h₂ he₂ => ?_))
    simp only [Option.isSome_none, Bool.false_eq_true, if_false]
    refine wpAny_pure (hQ h₂ fun b o hb e => he₂ b o hb (hs₁.extBut b o hb (Heap.get?_push_of_some _ e)))
theorem assign_Tuple_hot {env : Env} {elts : List Expr} {k} {pos : Pos} {t x1 : Addr} {items : Array Value} {Q : Unit → Shared → Prop} (hot : HotAt A x1 s.heap) (ht : IsTup s.heap t items)
    (hn : (assignEach elts env).length = items.size) (hstar : (assignEach elts env).findIdx? (·.1) = none)
    (h : ∀ h', Heap.ExtBut s.heap.objs.size s.heap h' → wpAny (model prog w) A (assignInOrder ((assignEach elts env).map (·.2)) items.toList) Q E { s with heap := h' }) :
    wpAny (model prog w) A (assign (.Tuple elts k pos) env (.ref t)) Q E s := by
  rw [assign_Tuple]
  refine wpAny_bind (wpAny_standAt ?_)
  unfold unpack
  rw [hn, hstar]
  exact wpAny_bind (wpAny_holding (unpackItems_hot hot ht h))
end
end HotX
namespace L2H
open PySem PySem.Spec PyProof.Rows L2 HotX
/-- what a def promises there, of the exception that is handled -/
structure FnHP0 (P : Program) (w : World) (K : PySem.W.Frag) (mg : Str → Option Value) (base : Heap) (CX : CXT) (k : Nat) (f : Addr) (fd : FuncData) (ps : List Str) (sp : Addr × Obj → Sp) : Prop where
  len : ∀ p vs H Q E, sp p vs H Q E → vs.length = ps.length
  run : ∀ (A : Around) (outer : List Env) (s : Shared) (H : Hp) (args : Args) (us : List Value) (vs : List V) (Q : VK) (E : XK) (p : Addr × Obj), RoomH k A → PinOk outer H s p → Env0 P w K mg base A outer s H → BindsTo s fd args (ps.zip us) → Vals vs us → sp p vs H Q E →
    codeAny (model P w) A (.call (.ref f) args) (CR CX outer P w H s Q E) s
theorem fn_ofHP0 {CX : CXT} {P : Program} {w : World} {K : PySem.W.Frag} {mg : Str → Option Value} {base : Heap} {k : Nat} {f : Addr} {name qual : Str} {params : Arguments} {body : List Stmt} {scope : Scope} {dV kV doc pm cdv ct oc : Value} {an od : Option Addr}
    {osl : Array (Option Value)} {N ps : List Str} {sp : Addr × Obj → Sp} (lk : K.lookup f = some ⟨oc, od, .func (PySem.W.fnOf name qual params body scope dV kV doc pm an cdv ct), osl⟩) (hcd : PySem.W.codeIn K cdv qual = true) (S : FnScope N ps scope)
    (len : ∀ p vs H Q E, sp p vs H Q E → vs.length = ps.length)
    (hbody : ∀ (A : Around) (outer : List Env) (s : Shared) (H : Hp) (vs : List V) (Q : VK) (E : XK) (p : Addr × Obj), RoomH k (A.deeper (envOfC qual scope s.heap.objs.size f cdv)) → sp p vs H Q E →
      ∃ t, PSs (cxH CX P w K mg base N qual scope f cdv A outer s H E p) body t ∧ t { nx := fun _ H' => Q .non H', rt := Q } (L2.start N vs) H) :
    FnHP0 P w K mg base CX (k + 1) f (PySem.W.fnOf name qual params body scope dV kV doc pm an cdv ct) ps sp := by
  refine ⟨len, fun A outer s H args us vs Q E p hr hpin e0 hb r hsp => ?_⟩
  have hl := len _ _ _ _ _ hsp
  have KX : K.In s.heap := e0.mod.kin.keeps fun b o e => (e0.bs b o e).1
  have lim : s.heap.NoLimit := e0.mod.nolimit.keeps fun b o e => (e0.bs b o e).1
  have hkind : ∀ y ∈ ps.zip us, scope.names.lookup y.1 = some .local ∨ (scope.names.lookup y.1 = some .cell ∧ ((cellsFrom (s.heap.objs.size + 1) scope.names []).lookup y.1).isSome = true) := fun ⟨n, v⟩ hy => by
    rcases S.par n (List.of_mem_zip hy).1 with q | q
    · exact .inl q
    · exact .inr ⟨q, PySem.W.cellsFrom_some _ _ _ (.inl q)⟩
  refine codeAny_call_function hr.depth (KX _ _ lk) rfl S.co S.gen rfl (PySem.W.codeRec_of KX hcd) (hb _ _ _ _ ?_)
  refine wpAny_newFunctionEnv_cells S.kind hkind fun env he s1 x => ?_
  subst he
  refine ⟨lim.keeps x.toInCall.keep, codeAny_func ?_⟩
  obtain ⟨t, ht, hq⟩ := hbody A outer s H vs Q E p (hr.deeper _) hsp
  have I : Inv (cxH CX P w K mg base N qual scope f cdv A outer s H E p) [] (L2.start N vs) H s1 := inv_startH S hpin e0 hl r x
  refine wpAny_mono (ht.run [] s1 (L2.start N vs) H _ I hq) (fun fl s' hs => ?_) fun e s' hs => hs
  have fin : ∀ {σ' : St} {H' : Hp} {v : V} {u : Value}, Inv (cxH CX P w K mg base N qual scope f cdv A outer s H E p) [] σ' H' s' → RelV v u → Q v H' → CE outer P w H s Q u s' :=
    fun {σ' H' v u} J rv q => ⟨v, H', J.os, J.bare, J.base, J.hok, rv, q⟩
  cases fl with
  | ret u =>
    obtain ⟨v, σ', H', J, rv, q⟩ := hs
    exact fin J rv q
  | next =>
    obtain ⟨σ', H', J, q⟩ := hs
    exact fin (v := V.non) (u := Value.none) J rfl q
  | brk =>
    obtain ⟨_, _, _, q⟩ := hs
    exact False.elim q
  | cont =>
    obtain ⟨_, _, _, q⟩ := hs
    exact False.elim q
section
variable {X : Cx} {CX : CXT} {k : Nat} {f : Addr} {fd : FuncData} {ps : List Str} {sp : Addr × Obj → Sp} {E : St → XK} {x : Str} {q pos : Pos} {e : Expr} {es : List Expr} {t : TA} {p : Addr × Obj}
theorem run_fnHP0 {pins : List (Addr × Obj)} {σ : St} {H : Hp} {s : Shared} {Q : VK} {us : List Value} {vs : List V} (F : FnHP0 X.prog X.w X.K X.mg X.base CX k f fd ps sp) (hr : RoomH k X.A) (hp : p ∈ X.pn) (hb : Binds X.K fd ps []) (hx : PassesAt CX X σ (E σ))
    (I : Inv X pins σ H s) (r : Vals vs us) (h : sp p vs H Q (E σ)) : wpAny (model X.prog X.w) X.A (call (.ref f) us) (EP X pins σ Q) X.xe s := by
  have hl : us.length = ps.length := by rw [← r.length]; exact F.len _ _ _ _ _ h
  have b := hb s us I.kIn (by rw [List.append_nil]; exact hl)
  rw [List.append_nil] at b
  have P1 := I.pin p (List.mem_append_left _ hp)
  have hpin : PinOk X.stack H s p := ⟨P1.1, P1.2.1, fun hm => (List.mem_cons.mp (I.stkSub p.1 hm)).elim P1.2.2.1 P1.2.2.2.1, P1.2.2.2.2⟩
  refine wpAny_call (codeAny_mono (F.run X.A X.stack s H ⟨us, []⟩ us vs Q (E σ) p hr hpin I.env0 b r h) fun r s' hq => ?_)
  cases r with
  | error e => exact hx pins H s e s' I hq
  | ok fl =>
    cases fl with
    | ret u => exact I.after hq
    | next => exact False.elim hq
    | brk => exact False.elim hq
    | cont => exact False.elim hq
theorem pe_callHP0 (F : FnHP0 X.prog X.w X.K X.mg X.base CX k f fd ps sp) (hr : RoomH k X.A) (hp : p ∈ X.pn) (hg : Gl X x) (hm : X.mg x = some (.ref f)) (hk : PySem.W.keepIn X.K (.ref f) = true) (hb : Binds X.K fd ps []) (hx : ∀ σ, PassesAt CX X σ (E σ))
    (ha : PA X (e :: es) t) (hdb : (x == ("__debug__" : Str)) = false := by decide) (he : starEach (e :: es) X.env = (false, eval e X.env) :: starEach es X.env := by rfl) (hpl : (backTo pos (starEach es X.env)).any (·.1) = false := by rfl) :
    PE X (.Call (.Name x q) (e :: es) [] pos) (tCallS (sp p) E t) := by
  refine ⟨fun pins s σ H Q I h => ?_⟩
  refine wpAny_Call_Name_kw (ld_glob I hg hm ?_ hdb)
  refine PySem.W.callWith_K (h₀ := X.base) I.ok.mod.kin hk (thn (ha.run pos pins s σ H _ I h) fun us s1 ⟨vs, H1, I1, r, q⟩ => ⟨I1.kIn, ?_⟩) he hpl
  exact run_fnHP0 F hr hp hb (hx σ) I1 r q
/-- isinstance of a pinned exception -/
theorem call_isP0 {D : Addr} (C : ExcC X.K D) (hp : p ∈ X.pn) (hz : Zc (.ref D) none p.2) (hf : ∃ vs, p.2.data = .fields vs) : CallR X (.builtin "isinstance") (rIsE X.K D p.1) := by
  intro pins s σ H xs us Q I r h
  obtain ⟨c, cv, b, rfl, hcv, e, q⟩ := h
  cases r with
  | cons rx rr =>
    cases rr with
    | cons rt rr =>
      cases rr
      cases rx
      have ec := hcv _ rt
      subst ec
      obtain ⟨hget, _⟩ := I.pin p (List.mem_append.mpr (.inl hp))
      obtain ⟨vs, hv⟩ := hf
      have J : PySem.W.InstAt s.heap p.1 p.2 D none := by
        obtain ⟨a, oc, od, oda, osl⟩ := p
        obtain ⟨h1, h2⟩ := hz
        dsimp only at h1 h2 hv
        subst h1 h2 hv
        exact ⟨hget, rfl, rfl, trivial⟩
      exact PySem.W.kia_one (PySem.W.handS_kitx_exc C.hg C.hk C.hs C.hd C.ha C.hn C.ht C.hm) I.kIn J e (fun z => nomatch z) fun tk => ⟨.bl b, H, I.kept (t' := tk) fun _ _ z => z, rfl, q⟩
end
theorem HotC.tr {X : Cx} {pn : List (Addr × Obj)} {xe : Value → Shared → Prop} (h : HotC X) (hp : ∀ q ∈ X.pn, q ∈ pn) : HotC (X.tr pn xe) := by
  obtain ⟨p, h1, h2⟩ := h
  exact ⟨p, h1, hp p h2⟩
theorem pg_tupH {X : Cx} {es : List Expr} {k : Nat} {pos : Pos} {t : TGs} {n : Nat} (hc : HotC X) (h : PGs X es t)
    (hn : (assignEach es X.env).length = n := by rfl) (hst : (assignEach es X.env).findIdx? (·.1) = none := by rfl) : PG X (.Tuple es k pos) (gTup X.K n t) := by
  refine ⟨fun pins s σ H v u Q I r hw => ?_⟩
  obtain ⟨a, xs, e1, hq, hl, hw⟩ := hw
  subst e1
  cases r
  obtain ⟨its, rv, ht, hz⟩ := I.tuple hq
  obtain ⟨x1, hot⟩ := hc.at I
  refine HotX.assign_Tuple_hot hot ht (by simp [hn, ← hl, rv.length]) hst fun h' hx => ?_
  have I1 : Inv X pins σ H { s with heap := h' } := I.kept (t' := s.toks) fun b o e => hx b o (Nat.ne_of_lt (Heap.lt_size e)) e
  exact h.run pins _ σ H xs _ Q I1 (by simpa using rv) hw
end L2H
namespace M
open PySem L2 PySem.Spec PyProof.Rows
section
variable {X : Cx} {ρ : Slots} {C E : Addr} {p : Addr × Obj} {i : Nat} {n nm : Str} {p0 p1 p2 pos : Pos} {b : Bool} {T : String}
theorem me_isiP0 (c : ExcC X.K C) (hp : p ∈ X.pn) (hz : Zc (.ref C) none p.2) (hf : ∃ vs, p.2.data = .fields vs) (hg : Gl X "isinstance") (hm : X.mg "isinstance" = none) (hE : X.mg nm = some (.ref E)) (q : PE X (.Name n p2) (tVar i)) (hi : ρ[i]? = some (some (.pt p.1))) (hk : PySem.W.kitOne X.K (.ref C) (.ref E) = some b) (hgE : Gl X nm := by rfl) (hd : (nm == ("__debug__" : Str)) = false := by decide) :
    ME X ρ (.Call (.Name "isinstance" p0) [.Name n p2, .Name nm p1] [] pos) (.fz (.bl b)) := .mk fun Z0 F Z σ H s Q qq =>
  PE_w (pe_callB (L2H.call_isP0 c hp hz hf) hg hm (by decide +kernel) (pa_cons pe_w (pa_cons (pe_glob (v := .ref E) hgE hE rfl hd) pa_nil) rfl) (he := rfl)) ((mv_var q hi).run Z0 F Z σ H s _ fun v Z1 H1 A1 g1 r1 => by
    cases r1
    exact ⟨.ref E, .ref E, b, rfl, fun u r => r, hk, qq _ Z1 H1 [] g1 (.fz (.bl b)) .nil⟩)
end
/-- its body keeps its promise -/
theorem fn_mH0 {α : Type} {P : Program} {w : World} {K : PySem.W.Frag} {mg : Str → Option Value} {base : Heap} {x qual : Str} {st : Stmt} {f : Addr} {fd : FuncData} {N ps : List Str} {k : Nat} {ar : Addr × Obj → α → List O} {pre : Addr × Obj → α → Prop} {res : α → O}
    (F : Fun K x qual st f fd) (S : FnScope N ps (defScope st)) (hl : ∀ p x, (ar p x).length = ps.length) (hn : ∀ p x, pre p x → (res x).nv = true)
    (hb : ∀ (cdv : Value) (A : Around) (outer : List Env) (s : Shared) (H : Hp) (E : XK) (p : Addr × Obj), L2H.RoomH k (A.deeper (envOfC qual (defScope st) s.heap.objs.size f cdv)) → ∀ x, pre p x →
      MS (L2H.cxH CX0 P w K mg base N qual (defScope st) f cdv A outer s H E p) ((ar p x).map some ++ List.replicate (N.length - ps.length) none) (defBody st) { nx := fun _ => res x = .fz .non, rt := fun o => o = res x }) :
    L2H.FnHP0 P w K mg base CX0 (k + 1) f fd ps (fun p => SpM K (ar p) (pre p) res) := by
  obtain ⟨oc, od, kV, doc, pm, an, cdv, ct, osl, rfl, lk, hcd⟩ := F.ex
  refine L2H.fn_ofHP0 lk hcd S (fun p vs H Q E h => ?_) fun A outer s H vs Q E p hr h => ?_
  · obtain ⟨x, Z, _, r, _⟩ := h
    rw [r.length, hl]
  · obtain ⟨x, Z, ez, r, hp, q⟩ := h
    refine ⟨_, pss_w, (hb cdv A outer s H E p hr x hp).run Z H Z _ H _ ⟨Gr.refl ez, [], ?_, List.nodup_nil, fun _ m => nomatch m⟩ ⟨fun ρ Z' σ H' e s' => ?_, fun _ _ _ _ z => z.elim, fun _ _ _ _ z => z.elim, fun o v Z' H' A e g r n => ?_, fun _ _ _ _ _ _ z => z.elim, GX.never fun e z => by
      have n := hn p x hp
      rw [← show O.rs e = res x from z] at n
      cases n⟩⟩
    · have e : L2.start N vs = vs.map some ++ List.replicate (N.length - ps.length) none := by
        unfold L2.start
        rw [r.length, hl]
      rw [e]
      exact stL_more _ (stL_args r)
    · refine q _ Z' H' [] s'.gr ?_ .nil
      rw [e]
      exact .fz .non
    · subst e
      exact q _ Z' H' A g (r.unF (hn p x hp)) n
structure Fn1H0 (P : Program) (w : World) (K : PySem.W.Frag) (mg : Str → Option Value) (base : Heap) (name : Str) (k : Nat) (ps : List Str) (sp : Addr × Obj → Sp) : Prop where
  ex : ∃ (f : Addr) (fd : FuncData), mg name = some (.ref f) ∧ PySem.W.keepIn K (.ref f) = true ∧ Binds K fd ps [] ∧ L2H.FnHP0 P w K mg base CX0 k f fd ps sp
/-- f(e) in a suite, e the exception that is held -/
theorem me_fnH0 {α : Type} {X : Cx} {ρ : Slots} {C a : Addr} {oe : Obj} {pn : List (Addr × Obj)} {i k : Nat} {n nm : Str} {p0 p2 pos : Pos} {pre : Addr × Obj → α → Prop} {res : α → O} {ps : List Str} (c : Fn1H0 X.prog X.w X.K X.mg X.base nm k ps (fun p => SpM X.K (fun _ : α => [.pt p.1]) (pre p) res)) (x : α)
    (hz : Zc (.ref C) none oe) (hf : ∃ vs, oe.data = .fields vs) (q : PE (X.suite a ((a, oe) :: pn)) (.Name n p2) (tVar i)) (hi : ρ[i]? = some (some (.pt a))) (hp : pre (a, oe) x) (hr : L2H.RoomH k X.A) {o : O} (hres : res x = o := by first | (dsimp only; done) | (dsimp only; rfl) | rfl) (hg : Gl X nm := by rfl)
    (hdb : (nm == ("__debug__" : Str)) = false := by decide) : ME (X.suite a ((a, oe) :: pn)) ρ (.Call (.Name nm p0) [.Name n p2] [] pos) o := by
  subst hres
  obtain ⟨f, fd, hm, hk, hb, F⟩ := c.ex
  have hrr : L2H.RoomH k (X.suite a ((a, oe) :: pn)).A := ⟨hr.dp, hr.un⟩
  refine .mk fun Z0 F0 Z σ H s Q qq => PE_w (L2H.pe_callHP0 (X := X.suite a ((a, oe) :: pn)) (E := fun _ _ _ _ => True) F hrr List.mem_cons_self hg hm hk hb (fun _ _ _ _ _ _ _ h => h.elim) (pa_cons q pa_nil) hdb) ?_
  obtain ⟨A0, t1, _, _⟩ := s.st
  obtain ⟨v, B, e1, r1, _⟩ := t1.get hi
  cases r1
  exact ⟨_, e1, x, Z, s.gr.zh, .cons (A := []) (B := []) .pt .nil, hp, fun v Z2 H2 A g2 r2 n2 => qq v Z2 H2 A g2 (r2.mono (Ex.refl _) (fun _ _ z => by cases z) fun _ _ _ z => z) n2⟩
/-- a def called by its name while an exception is handled -/
structure Fn1Hot (CX : CXT) (P : Program) (w : World) (K : PySem.W.Frag) (mg : Str → Option Value) (base : Heap) (name : Str) (k : Nat) (ps : List Str) (sp : Sp) : Prop where
  ex : ∃ (f : Addr) (fd : FuncData), mg name = some (.ref f) ∧ PySem.W.keepIn K (.ref f) = true ∧ Binds K fd ps [] ∧ L2H.FnH P w K mg base CX k f fd ps sp
theorem okHX {CX : CXT} {P : Program} {w : World} {K : PySem.W.Frag} {mg : Str → Option Value} {base : Heap} {x qual : Str} {st : Stmt} {f : Addr} {fd : FuncData} {N ps : List Str} {k : Nat} {sp : Sp} (F : Fun K x qual st f fd) (S : FnScope N ps (defScope st)) (len : ∀ vs H Q E, sp vs H Q E → vs.length = ps.length)
    (hbody : ∀ (cdv : Value) (A : Around) (outer : List Env) (s : Shared) (H : Hp) (vs : List V) (Q : VK) (E : XK) (p : Addr × Obj), L2H.Hot1 A p → L2H.RoomH k (A.deeper (envOfC qual (defScope st) s.heap.objs.size f cdv)) → sp vs H Q E →
      ∃ t, PSs (L2H.cxH CX P w K mg base N qual (defScope st) f cdv A outer s H E p) (defBody st) t ∧ t { nx := fun _ H' => Q .non H', rt := Q } (L2.start N vs) H) : L2H.FnH P w K mg base CX (k + 1) f fd ps sp := by
  obtain ⟨oc, od, kV, doc, pm, an, cdv, ct, osl, rfl, lk, hcd⟩ := F.ex
  exact L2H.fn_ofH lk hcd S len fun A outer s H vs Q E p hot hr hsp => hbody cdv A outer s H vs Q E p hot hr hsp
theorem fn_mHot {α : Type} {P : Program} {w : World} {K : PySem.W.Frag} {mg : Str → Option Value} {base : Heap} {x qual : Str} {st : Stmt} {f : Addr} {fd : FuncData} {N ps : List Str} {k : Nat} {ar : α → List O} {pre : α → Prop} {res : α → O}
    (F : Fun K x qual st f fd) (S : FnScope N ps (defScope st)) (hl : ∀ x, (ar x).length = ps.length) (hn : ∀ x, pre x → (res x).nv = true)
    (hb : ∀ (cdv : Value) (A : Around) (outer : List Env) (s : Shared) (H : Hp) (E : XK) (p : Addr × Obj), L2H.HotC (L2H.cxH CX0 P w K mg base N qual (defScope st) f cdv A outer s H E p).nox → L2H.RoomH k (A.deeper (envOfC qual (defScope st) s.heap.objs.size f cdv)) → ∀ x, pre x →
      MS (L2H.cxH CX0 P w K mg base N qual (defScope st) f cdv A outer s H E p).nox ((ar x).map some ++ List.replicate (N.length - ps.length) none) (defBody st) { nx := fun _ => res x = .fz .non, rt := fun o => o = res x }) :
    L2H.FnH P w K mg base CX0 (k + 1) f fd ps (SpM K ar pre res) := by
  refine okHX F S (fun vs H Q E h => ?_) (fun cdv A outer s H vs Q E p hot hr h => ?_)
  · obtain ⟨x, Z, _, r, _⟩ := h
    rw [r.length, hl]
  · obtain ⟨x, Z, ez, r, hp, q⟩ := h
    refine ⟨_, PSs.nox pss_w, (hb cdv A outer s H E p ⟨p, ⟨hot.1, hot.2⟩, List.mem_cons_self⟩ hr x hp).run Z H Z _ H _ ⟨Gr.refl ez, [], ?_, List.nodup_nil, fun _ m => nomatch m⟩ ⟨fun ρ Z' σ H' e s' => ?_, fun _ _ _ _ z => z.elim, fun _ _ _ _ z => z.elim, fun o v Z' H' A e g r n => ?_, fun _ _ _ _ _ _ z => z.elim, GX.never fun e z => by
      have n := hn x hp
      rw [← show O.rs e = res x from z] at n
      cases n⟩⟩
    · have e : L2.start N vs = vs.map some ++ List.replicate (N.length - ps.length) none := by
        unfold L2.start
        rw [r.length, hl]
      rw [e]
      exact stL_more _ (stL_args r)
    · refine q _ Z' H' [] s'.gr ?_ .nil
      rw [e]
      exact .fz .non
    · subst e
      exact q _ Z' H' A g (r.unF (hn x hp)) n
theorem fn_mEHot {α : Type} {P : Program} {w : World} {K : PySem.W.Frag} {mg : Str → Option Value} {base : Heap} {x qual : Str} {st : Stmt} {f : Addr} {fd : FuncData} {N ps : List Str} {k : Nat} {ar : α → List O} {pre : α → Prop} {res : α → O}
    (F : Fun K x qual st f fd) (S : FnScope N ps (defScope st)) (hl : ∀ x, (ar x).length = ps.length) (hn : ∀ x, pre x → (res x).nv = true ∨ ∃ e, res x = .rs e)
    (hb : ∀ (cdv : Value) (A : Around) (outer : List Env) (s : Shared) (H : Hp) (E : XK) (p : Addr × Obj), L2H.HotC (L2H.cxH (L2.CX P w) P w K mg base N qual (defScope st) f cdv A outer s H E p) → L2H.RoomH k (A.deeper (envOfC qual (defScope st) s.heap.objs.size f cdv)) → ∀ x, pre x →
      MS (L2H.cxH (L2.CX P w) P w K mg base N qual (defScope st) f cdv A outer s H E p) ((ar x).map some ++ List.replicate (N.length - ps.length) none) (defBody st) { nx := fun _ => res x = .fz .non, rt := fun o => o = res x }) :
    L2H.FnH P w K mg base (L2.CX P w) (k + 1) f fd ps (SpE K ar pre res) := by
  refine okHX F S (fun vs H Q E h => ?_) (fun cdv A outer s H vs Q E p hot hr h => ?_)
  · obtain ⟨x, Z, _, r, _⟩ := h
    rw [r.length, hl]
  · obtain ⟨x, Z, ez, r, hp, q, qx⟩ := h
    refine ⟨_, pss_w, (hb cdv A outer s H E p ⟨p, ⟨hot.1, hot.2⟩, List.mem_cons_self⟩ hr x hp).run Z H Z _ H _ ⟨Gr.refl ez, [], ?_, List.nodup_nil, fun _ m => nomatch m⟩ ⟨fun ρ Z' σ H' e s' => ?_, fun _ _ _ _ z => z.elim, fun _ _ _ _ z => z.elim, fun o v Z' H' A e g r n => ?_, fun _ _ _ _ _ _ z => z.elim, ⟨_, takes_of rfl rfl rfl rfl, fun e ρ Z' σ H' k s' => thrown_of (qx e Z' H' k.symm s'.gr)⟩⟩⟩
    · have e : L2.start N vs = vs.map some ++ List.replicate (N.length - ps.length) none := by
        unfold L2.start
        rw [r.length, hl]
      rw [e]
      exact stL_more _ (stL_args r)
    · refine q _ Z' H' [] s'.gr ?_ .nil
      rw [e]
      exact .fz .non
    · subst e
      rcases hn x hp with hn | ⟨e, hn⟩
      · exact q _ Z' H' A g (r.unF hn) n
      · rw [hn] at r
        cases r
section
variable {X : Cx} {ρ : Slots} {G : Go} {e : Expr} {es : List Expr} {nm : Str} {p0 pos : Pos} {er : Er}
theorem me_fnHot {α : Type} {ar : α → List O} {pre : α → Prop} {res : α → O} {k : Nat} {ps : List Str} (c : Fn1Hot CX0 X.prog X.w X.K X.mg X.base nm k ps (SpM X.K ar pre res)) (hc : L2H.HotC X) (x : α) (ha : MA X ρ (e :: es) (ar x)) (hp : pre x) (hr : L2H.RoomH k X.A) {o : O} (hres : res x = o := by first | (dsimp only; done) | (dsimp only; rfl) | rfl) (hg : Gl X nm := by rfl)
    (hdb : (nm == ("__debug__" : Str)) = false := by decide) (he : starEach (e :: es) X.env = (false, eval e X.env) :: starEach es X.env := by rfl) (hpl : (backTo pos (starEach es X.env)).any (·.1) = false := by rfl) : ME X ρ (.Call (.Name nm p0) (e :: es) [] pos) o := by
  subst hres
  obtain ⟨f, fd, hm, hk, hb, F⟩ := c.ex
  exact .mk fun Z0 F0 Z σ H s Q q => PE_w (L2H.pe_callH (E := fun _ _ _ _ => True) F hr hc hg hm hk hb (fun _ _ _ _ _ _ _ h => h.elim) pa_w hdb he hpl) (ha.run Z0 F0 Z σ H s _ fun vs Z1 H1 g1 r1 =>
    ⟨x, Z1, g1.zh, r1, hp, fun v Z2 H2 A g2 r2 n2 => q v Z2 H2 A (g1.trans g2) (r2.mono (Ex.refl _) (fun _ _ z => by cases z) fun _ _ _ z => z) ⟨n2.1, fun a m => ⟨g1.hh.free (n2.2 a m).1, (n2.2 a m).2⟩⟩⟩)
theorem mz_fnHot {α : Type} {ar : α → List O} {pre : α → Prop} {res : α → O} {k : Nat} {ps : List Str} (c : Fn1Hot (L2.CX X.prog X.w) X.prog X.w X.K X.mg X.base nm k ps (SpE X.K ar pre res)) (hc : L2H.HotC X) (x : α) (ha : MA X ρ (e :: es) (ar x)) (hp : pre x) (hr : L2H.RoomH k X.A) (hres : res x = .rs er := by first | (dsimp only; done) | (dsimp only; rfl) | rfl) (hg : Gl X nm := by rfl)
    (hdb : (nm == ("__debug__" : Str)) = false := by decide) (he : starEach (e :: es) X.env = (false, eval e X.env) :: starEach es X.env := by rfl) (hpl : (backTo pos (starEach es X.env)).any (·.1) = false := by rfl) : MRz X ρ (.Call (.Name nm p0) (e :: es) [] pos) er := by
  obtain ⟨f, fd, hm, hk, hb, F⟩ := c.ex
  exact .mk fun Z0 F0 Z σ H s W tk qx Q => PE_w (L2H.pe_callH (E := fun _ => EW W) F hr hc hg hm hk hb (fun σ pins H s e s' I c => pass_ew tk pins σ H s e s' I c) pa_w hdb he hpl) (ha.run Z0 F0 Z σ H s _ fun vs Z1 H1 g1 r1 =>
    ⟨x, Z1, g1.zh, r1, hp, (fun v Z2 H2 A g2 r2 n2 => by
      rw [hres] at r2
      cases r2), (fun e Z2 H2 z g2 => by
      rw [hres] at z
      cases z
      exact thrE_of fun σ' => qx σ' Z2 H2 (s.gr.trans (g1.trans g2)))⟩)
theorem mk_fnHot {α : Type} {ar : α → List O} {pre : α → Prop} {res : α → O} {k : Nat} {ps : List Str} (c : Fn1Hot (L2.CX X.prog X.w) X.prog X.w X.K X.mg X.base nm k ps (SpE X.K ar pre res)) (hc : L2H.HotC X) (x : α) (ha : MA X ρ (e :: es) (ar x)) (hp : pre x) (hr : L2H.RoomH k X.A) (hne : ∀ e, res x ≠ .rs e) {o : O} (hres : res x = o := by first | (dsimp only; done) | (dsimp only; rfl) | rfl) (hg : Gl X nm := by rfl)
    (hdb : (nm == ("__debug__" : Str)) = false := by decide) (he : starEach (e :: es) X.env = (false, eval e X.env) :: starEach es X.env := by rfl) (hpl : (backTo pos (starEach es X.env)).any (·.1) = false := by rfl) : ME X ρ (.Call (.Name nm p0) (e :: es) [] pos) o := by
  subst hres
  obtain ⟨f, fd, hm, hk, hb, F⟩ := c.ex
  exact .mk fun Z0 F0 Z σ H s Q q => PE_w (L2H.pe_callH (E := fun _ _ _ _ => False) F hr hc hg hm hk hb (fun σ pins H s e s' I c => by
      obtain ⟨_, _, _, _, _, _, _, _, _, _, _, _, z⟩ := c
      exact z.elim) pa_w hdb he hpl) (ha.run Z0 F0 Z σ H s _ fun vs Z1 H1 g1 r1 =>
    ⟨x, Z1, g1.zh, r1, hp, (fun v Z2 H2 A g2 r2 n2 => q v Z2 H2 A (g1.trans g2) (r2.mono (Ex.refl _) (fun _ _ z => by cases z) fun _ _ _ z => z) ⟨n2.1, fun a m => ⟨g1.hh.free (n2.2 a m).1, (n2.2 a m).2⟩⟩), fun e _ _ z => absurd z (hne e)⟩)
/-- raise C('m') while an exception is handled -/
theorem m_raiseH {C : Addr} (hc : L2H.HotC X) (pm : L2N.PMk X e (fun _ H Q => Q (.ref C) none H)) (k : G.rt (.rs ⟨C, none⟩)) : MS1 X ρ (.Raise (some e) none pos) G := .mk fun Z0 F Z σ H D s gd => by
  obtain ⟨W, tk, kk⟩ := gd.ex
  exact PS_w (L2H.ps_raiseH hc tk pm) (kk ⟨C, none⟩ ρ Z σ H k s)
theorem m_tryOH {E R V : Type} {xc n : Str} {C : Addr} {i : Nat} {body suite : List Stmt} {b0 : Stmt} {np pos pos' : Pos} {out : Ou V Unit (Xr E R)} (Rn : V → Slots) (te : E → Er) (er : R → O)
    (hN : X.N.Nodup) (hi : X.N[i]? = some n) (hln : X.env.kindOf n = some .local) (hc : Names X xc (.ref C)) (hne : ∀ r e, er r ≠ .rs e) (hnf : ∀ e, (te e).fld = none)
    (hb : ∀ (pn : List (Addr × Obj)) (xe : Value → Shared → Prop), (∀ q ∈ X.pn, q ∈ pn) → PassesOwn (model X.prog X.w) X.A X.env xe → MS (X.tr pn xe) ρ body (goO Rn (fun _ : Unit => []) (exO te er) out))
    (kb : ∀ w, out ≠ .bk w) (kc : ∀ w, out ≠ .ct w) (kr : ∀ r, out = .rt (.ok r) → G.rt (er r))
    (hm : ∀ e, out = .rt (.er e) → PySem.W.exmOne X.K (.ref (te e).C) (.ref C) = some true)
    (hs : ∀ e, out = .rt (.er e) → ∀ (a : Addr) (oe : Obj) (pn : List (Addr × Obj)), Zc (.ref (te e).C) none oe → (∃ vs, oe.data = .fields vs) → MS (X.suite a ((a, oe) :: pn)) ((List.replicate X.N.length none).set i (some (.pt a))) (b0 :: suite) { rt := fun o => G.rt o ∧ ∀ e, o ≠ .rs e })
    (kn : ∀ v τ, out = .nx v → Le τ (Rn v) → G.nx τ)
    (e1 : X.stack = X.env :: X.outer := by rfl) (e2 : X.env.frame = some X.env.locals := by rfl) : MS1 X ρ (.Try body [.ExceptHandler (some (.Name xc np)) (some n) (b0 :: suite) pos'] [] [] pos) G := .mk fun Z0 F Z σ H D s g => by
  obtain ⟨Wout, tk, kk⟩ := g.ex
  refine PS_w (L2H.ps_try_asH (i := i) (tb := fun W => fun D σ H => ∀ pn xe, (∀ q ∈ X.pn, q ∈ pn) → Takes (X.tr pn xe) W → PassesOwn (model X.prog X.w) X.A X.env xe → wS (X.tr pn xe) body D σ H)
    (ts := fun a cls d => fun D σ H => ∀ (oe : Obj) (pn : List (Addr × Obj)), Zc cls d oe → (∃ vs, oe.data = .fields vs) → wS (X.suite a ((a, oe) :: pn)) (b0 :: suite) D σ H) e1 e2 hN hi hln hc tk
    (fun W pn xe hq t po => ⟨fun pins s σ H D I h => h pn xe hq t po pins s I⟩) (fun a oe cls d pn hz hf => ⟨fun pins s σ H D I h => h oe pn hz hf pins s I⟩)) ?_
  intro pn xe hq t po
  refine (hb pn xe hq po).run Z0 F Z σ H D s ⟨fun τ Z σ H ⟨v, e, l⟩ s' => g.nx τ Z σ H (kn v τ e l) s', fun _ _ _ _ ⟨w, e, _⟩ => absurd e (kb w), fun _ _ _ _ ⟨w, e, _⟩ => absurd e (kc w), fun o v Z' H' A k g' r n => ?_, fun _ _ _ _ _ _ z => z.elim, ⟨_, t, fun e ρ' Z' σ' H' k s' => ?_⟩⟩
  · obtain ⟨x, e, rfl⟩ := k
    cases x with
    | ok x => exact g.rt _ v Z' H' A (kr x e) g' r n
    | er x => cases r
  · obtain ⟨x, eo, ex⟩ := k
    cases x with
    | ok x => exact absurd ex.symm (hne x e)
    | er x =>
      cases ex
      unfold Thrown
      rw [hnf x]
      refine ⟨true, hm x eo, fun _ a na oe pn' hz hf => ?_, fun z => nomatch z⟩
      intro pins s2 I2
      have ln : σ'.length = X.N.length := by
        have := I2.len
        rw [List.length_set] at this
        exact this
      have lr : ρ'.length = X.N.length := by rw [← s'.len, ln]
      have hl : i < ρ'.length := by
        rw [lr]
        exact (List.getElem?_eq_some_iff.mp hi).1
      have s3 := s'.put (v := .ref a) (Gr.refl s'.ex) (RepO.pt (a := a)) .nil hl
      have le := le_blank (x := some (O.pt a)) ρ' i
      rw [lr] at le
      exact (hs x eo a oe pn' hz hf).run Z0 F Z' _ H' { nx := fun σ' H' => D.nx (σ'.set i none) H', rt := D.rt, bk := fun σ' H' => D.bk (σ'.set i none) H', ct := fun σ' H' => D.ct (σ'.set i none) H' } (s3.le le) ⟨fun _ _ _ _ z => z.elim, fun _ _ _ _ z => z.elim, fun _ _ _ _ z => z.elim, fun o v Z H A k g' r n => g.rt o v Z H A k.1 g' r n, fun _ _ _ _ _ _ z => z.elim, GX.never fun e z => z.2 e rfl⟩ pins s2 I2
/-- try: v = f(..) except C: suite, where f raises -/
theorem m_tryT {α : Type} {ar : α → List O} {pre : α → Prop} {res : α → O} {k i : Nat} {ps : List Str} {fnm v xc : Str} {es : List Expr} {er : Er} {C : Addr} {p0 p1 p2 pos np pos' pos2 : Pos} {b0 : Stmt} {suite : List Stmt}
    (hset : ∀ (pn : List (Addr × Obj)) (xe : Value → Shared → Prop) (t : TE), PE (X.tr pn xe) (.Call (.Name fnm p0) (e :: es) [] pos) t → PS (X.tr pn xe) (.Assign [.Name v p1] (.Call (.Name fnm p0) (e :: es) [] pos) p2) (tAsg t (gName i)))
    (c : MH.Fn1E X.prog X.w X.K X.mg X.base fnm k ps (SpE X.K ar pre res)) (x : α)
    (ha : ∀ (pn : List (Addr × Obj)) (xe : Value → Shared → Prop), MA (X.tr pn xe) ρ (e :: es) (ar x)) (hp : pre x) (hres : res x = .rs er) (hf : er.fld = none) (hm : PySem.W.exmOne X.K (.ref er.C) (.ref C) = some true) (hc : Names X xc (.ref C))
    (hpa : ∀ hd : Option Value, PassesOwnAt (model X.prog X.w) (X.A.mark hd) X.A X.env X.xe)
    (hr : Room k X.A) (hs : ∀ (a : Addr) (oe : Obj) (pn : List (Addr × Obj)), L2H.HotC (L2H.suiteX X a ((a, oe) :: pn)) → MS (L2H.suiteX X a ((a, oe) :: pn)) ρ (b0 :: suite) { G with rt := fun o => G.rt o ∧ ∀ e, o ≠ .rs e }) (e1 : X.stack = X.env :: X.outer := by rfl) (e2 : X.env.frame = some X.env.locals := by rfl) (hg : Gl X fnm := by rfl)
    (hdb : (fnm == ("__debug__" : Str)) = false := by decide) (he : starEach (e :: es) X.env = (false, eval e X.env) :: starEach es X.env := by rfl) (hpl : (backTo pos (starEach es X.env)).any (·.1) = false := by rfl) :
    MS1 X ρ (.Try [.Assign [.Name v p1] (.Call (.Name fnm p0) (e :: es) [] pos) p2] [.ExceptHandler (some (.Name xc np)) none (b0 :: suite) pos'] [] [] pos2) G := .mk fun Z0 F Z σ H DD s g => by
  obtain ⟨W, tk, kk⟩ := g.ex
  obtain ⟨f, fd, hfm, hk, hb, FF⟩ := c.ex
  refine PS_w (L2H.ps_try_onlyX (x := xc) (c := .ref C) (Wout := W) e1 e2 hc hpa tk
    (tb := fun W' => fun D σ H => ∀ (pn : List (Addr × Obj)) (xe : Value → Shared → Prop), L2N.Takes (X.tr pn xe) W' → wS (X.tr pn xe) [.Assign [.Name v p1] (.Call (.Name fnm p0) (e :: es) [] pos) p2] D σ H)
    (ts := fun a cls d => fun D σ H => ∀ (oe : Obj) (pn : List (Addr × Obj)), L2N.Zn cls d oe → (∃ vs, oe.data = .fields vs) → L2.Takes (L2H.suiteX X a ((a, oe) :: pn)) W → L2H.HotC (L2H.suiteX X a ((a, oe) :: pn)) → wS (L2H.suiteX X a ((a, oe) :: pn)) (b0 :: suite) D σ H)
    (fun W' pn xe t1 t2 po => ⟨fun pins s σ H D I h => h pn xe t1 pins s I⟩)
    (fun a oe cls d pn hz hf t hot => ⟨fun pins s σ H D I h => h oe pn hz hf t hot pins s I⟩)) ?_
  intro pn xe t1
  refine PSs_w (pss_one (hset pn xe _ (pe_callS (X := X.tr pn xe) (E := fun σ => fun c d H => wOnly X.K (.ref C) _ W DD c d σ H) FF hr hg hfm hk hb (fun σ => L2N.passAt t1 σ) pa_w hdb he hpl))) ?_
  refine (ha pn xe).run Z0 F Z σ H s _ fun vs Z1 H1 g1 r1 => ⟨x, Z1, g1.zh, r1, hp, (fun v Z2 H2 A g2 r2 n2 => by rw [hres] at r2; cases r2), (fun e' Z2 H2 z g2 => ?_)⟩
  rw [hres] at z
  cases z
  unfold ThrE Thrown
  rw [hf]
  refine ⟨true, hm, fun _ a na oe pn' hz hf' t hot => ?_, fun z => nomatch z⟩
  exact (hs a oe pn' hot).run Z0 F Z2 σ H2 DD ((s.grow g1).grow g2) ⟨g.nx, g.bk, g.ct, fun o v Z H A k g' r n => g.rt o v Z H A k.1 g' r n, g.rs, GX.never fun e z => z.2 e rfl⟩
end
/-- a call whose refusals are caught -/
def trT {E R S : Type} (m : Option (Xr E R)) (k : R → Option S) (y : Option S) : Option S := match m with
  | some (.ok r) => k r
  | some (.er _) => y
  | none => none
theorem trT_some {E R S : Type} {m : Option (Xr E R)} {k : R → Option S} {y : Option S} {z : S} (h : trT m k y = some z) : (∃ e, m = some (.er e) ∧ y = some z) ∨ ∃ r, m = some (.ok r) ∧ k r = some z := by
  unfold trT at h
  cases m with
  | none => cases h
  | some x =>
    cases x with
    | ok r => exact .inr ⟨r, rfl, h⟩
    | er e => exact .inl ⟨e, rfl, h⟩
end M
namespace MH
open PySem L2 PySem.Spec PyProof.Rows M
theorem cx_weak {P : Program} {w : World} {outer : List Env} {H : Hp} {s : Shared} {E : XK} {u : Value} {s' : Shared} (h : L2N.CX P w outer H s E u s') : L2.CX P w outer H s E u s' := by
  obtain ⟨a, B, H', cls, d, e, fl, r⟩ := h
  exact ⟨a, B, H', cls, d, e, L2H.flyingZ_imp (fun o z => z.zc) fl, r⟩
theorem Fn1E.weak {P : Program} {w : World} {K : PySem.W.Frag} {mg : Str → Option Value} {base : Heap} {name : Str} {k : Nat} {ps : List Str} {sp : Sp} (c : Fn1E P w K mg base name k ps sp) : M.Fn1E P w K mg base name k ps sp := by
  obtain ⟨f, fd, hm, hk, hb, F⟩ := c.ex
  exact ⟨f, fd, hm, hk, hb, ⟨F.len, fun A outer s H args us vs Q E hr he hb hv hs => codeAny_mono (F.run A outer s H args us vs Q E hr he hb hv hs) fun r s' q => by
    cases r with
    | ok r => cases r <;> exact q
    | error e => exact cx_weak q⟩⟩
end MH
namespace K12
open PySem L2 M
def top (i : Nat) : Stmt := PySem.Challenge.pw_coverroll_k12_no_amounts.main.body.getD i (.Pass ⟨0, 0, 0, 0⟩)
abbrev s_is_whole : Stmt := top 18
abbrev s_all_figures : Stmt := top 19
abbrev s_read_cents : Stmt := top 20
abbrev s__law_cell : Stmt := top 22
abbrev s__law_whole : Stmt := top 23
abbrev s__law_read : Stmt := top 24
abbrev s__law_text : Stmt := top 25
abbrev s__law_spoilt : Stmt := top 26
abbrev s__law_other : Stmt := top 27
abbrev s__law_refused : Stmt := top 28
abbrev s__law_taken : Stmt := top 29
abbrev s_law : Stmt := top 30
section
variable {P : Program} {w : World} {K : PySem.W.Frag} {mg : Str → Option Value} {base : Heap} {C_CoverError C_NoAmount C_NoShares C_NoEntry C_NoWords C_TooDeep C_NoClause C_NoCover C_NoBook C_Twice C_Late C_NotTold C_TooWide C_NoText C_NoRow : Addr}
inductive Xc where
  | NoAmount
abbrev t_Xc (C_NoAmount : Addr) : Xc → Er
  | .NoAmount => ⟨C_NoAmount, none⟩
noncomputable def M_is_whole (thing : D) : Option Bool :=
  bd (isiD "int" thing) fun k1 =>
  bd (cond k1 (bd (isiD "bool" thing) fun k2 => some (!k2)) (some false)) fun v3 =>
  some v3
def sp_is_whole (K : PySem.W.Frag) : Sp := SpF K (fun x : D => [.fz x]) (fun x => M_is_whole x) (fun r => .fz (.bl r))
abbrev N_is_whole : List Str := ["thing"]
theorem sc_is_whole : FnScope N_is_whole ["thing"] (defScope s_is_whole) := ⟨rfl, rfl, rfl, by decide +kernel, rfl, by decide +kernel, by decide +kernel⟩
theorem ok_is_whole {f : Addr} {fd : FuncData} (F : Fun K "is_whole" "is_whole" s_is_whole f fd) (z_isinstance : mg "isinstance" = none) (z_int : mg "int" = none) (z_bool : mg "bool" = none) : FnOk P w K mg base CX0 1 f fd ["thing"] (sp_is_whole K) := by
  refine fn_m F sc_is_whole (fun x => rfl) (fun x _ => rfl) fun cdv A outer s H E hr x hx => ?_
  obtain ⟨thing, r⟩ := x
  replace hx : M_is_whole thing = some r := hx
  have nd := sc_is_whole.nd
  unfold M_is_whole at hx
  show MS _ [some (.fz thing)] _ _
  replace hx := bd_some hx
  obtain ⟨k1, hk1, hx⟩ := hx
  replace hx := bd_some hx
  obtain ⟨v3, hv3, hx⟩ := hx
  refine ms_one (m_ret (ps_ret pe_w) (ME.r (ME.isB (me_and (me_isiD (T := "int") hk1 (by rfl) z_isinstance (pe_bltn (v := .ty "int") (by rfl) z_int (by decide +kernel) rfl) (mv_var (pv 0) rfl)) fun q4 => (by have hx := cond_t hv3 q4; replace hx := bd_some hx; obtain ⟨k2, hk2, hx⟩ := hx; cases hx; exact (me_one (me_not (me_isiD (T := "bool") hk2 (by rfl) z_isinstance (pe_bltn (v := .ty "bool") (by rfl) z_bool (by decide +kernel) rfl) (mv_var (pv 0) rfl)))))) (and_c hv3))) ?_)
  cases hx; rfl

noncomputable def M_all_figures (text : Str) : Option Bool :=
  bd (lpO (fun (x2 : Nat) (p1 : Unit) => (cond (!decide (x2 ∈ ("0123456789" : Str).cps.toList)) (some (.rt false)) <|
    some (.nx ()) : Option (Ou (Unit) (Unit) Bool))) text.cps.toList ()) fun o3 => ouR o3 fun p1 =>
  some true
def sp_all_figures (K : PySem.W.Frag) : Sp := SpF K (fun x : Str => [.fz (.str x)]) (fun x => M_all_figures x) (fun r => .fz (.bl r))
abbrev N_all_figures : List Str := ["text", "sign"]
theorem sc_all_figures : FnScope N_all_figures ["text"] (defScope s_all_figures) := ⟨rfl, rfl, rfl, by decide +kernel, rfl, by decide +kernel, by decide +kernel⟩
theorem ok_all_figures {f : Addr} {fd : FuncData} (F : Fun K "all_figures" "all_figures" s_all_figures f fd) (g_FIGURES : mg "FIGURES" = some (.str "0123456789" tkFIGURES)) : FnOk P w K mg base CX0 1 f fd ["text"] (sp_all_figures K) := by
  refine fn_m F sc_all_figures (fun x => rfl) (fun x _ => rfl) fun cdv A outer s H E hr x hx => ?_
  obtain ⟨text, r⟩ := x
  replace hx : M_all_figures text = some r := hx
  have nd := sc_all_figures.nd
  unfold M_all_figures at hx
  show MS _ [some (.fz (.str text)), none] _ _
  replace hx := bd_some hx
  obtain ⟨o3, ho3, hx⟩ := hx
  refine ms_cons (m_forO (xs := text.cps.toList) (enc := (fun c => D.str ⟨#[c]⟩)) (ps_for PassesOwn.never rfl (pi_str pe_w) (pg_name (i := 1) nd rfl (Or.inl rfl)) pss_w) (by exact (mi_strT (me_var (pv 0) rfl))) ho3 (fun p1 => [some (.fz (.str text)), none]) (fun r => .fz (.bl r)) le_auto (fun x2 p1 p1o mx hx => ?_) (fun p1 τ e le => ?_) fun q e => ?_)
  ·
    refine ⟨_, _, mg_name, ?_⟩
    show MS _ [some (.fz (.str text)), some (.fz (.str (sg1 x2)))] _ _
    refine ms_one (m_if (t := (!decide (x2 ∈ ("0123456789" : Str).cps.toList))) (mt_niS (me_var (pv 1) rfl) (me_gS g_FIGURES)) (fun h => ?_) fun h => ms_nil ?_)
    · replace hx := cond_t hx h
      refine ms_one (m_ret (ps_ret pe_w) (ME.r me_bl) ?_)
      cases hx; exact ⟨_, rfl, rfl⟩
    replace hx := cond_f hx h
    cases hx; exact ⟨_, rfl, le_auto⟩
  · subst e
    dsimp only [ouR] at hx
    refine ms_le le ?_
    show MS _ [some (.fz (.str text)), none] _ _
    refine ms_one (m_ret (ps_ret pe_w) (ME.r me_bl) ?_)
    cases hx; rfl
  · subst e; cases hx; rfl

noncomputable def M_read_cents (text : D) : Option (Xr Xc Int) :=
  bd (isiD "str" text) fun k1 =>
  cond (!k1) (some (.er .NoAmount)) <|
  bd (asS text) fun v2 =>
  gd (v2.length ≤ sizeLine) <|
  bd (cond (((Txt.partition v2 ("." : Str)).2.1 == ("" : Str))) (some true) (gd (((Txt.partition v2 ("." : Str)).2.2).length ≤ sizeLine) <| bd (cond (!((((Txt.partition v2 ("." : Str)).2.2).length : Int) == 2)) (some true) (bd (M_all_figures ((Txt.partition v2 ("." : Str)).2.2)) fun v5 => some (!v5))) fun v6 => some v6)) fun v8 =>
  cond v8 (some (.er .NoAmount)) <|
  gd (((Txt.partition v2 ("." : Str)).1).length ≤ sizeLine) <|
  bd (cond (decide ((((Txt.partition v2 ("." : Str)).1).length : Int) < 1)) (some true) (gd (((Txt.partition v2 ("." : Str)).1).length ≤ sizeLine) <| bd (cond (decide (10 < (((Txt.partition v2 ("." : Str)).1).length : Int))) (some true) (bd (M_all_figures ((Txt.partition v2 ("." : Str)).1)) fun v12 => some (!v12))) fun v13 => some v13)) fun v15 =>
  cond v15 (some (.er .NoAmount)) <|
  bd (L2.atI ((Txt.partition v2 ("." : Str)).1).cps.toList (0 : Int)) fun c17 =>
  gd (((Txt.partition v2 ("." : Str)).1).length ≤ sizeLine) <|
  bd (cond (((sg1 c17) == ("0" : Str))) (gd (((Txt.partition v2 ("." : Str)).1).length ≤ sizeLine) <| some (decide (1 < (((Txt.partition v2 ("." : Str)).1).length : Int)))) (some false)) fun v20 =>
  cond v20 (some (.er .NoAmount)) <|
  bd (PySem.intText? ((Txt.partition v2 ("." : Str)).1)) fun n22 =>
  gd (((Txt.partition v2 ("." : Str)).1).length ≤ 640) <|
  bd (PySem.intText? ((Txt.partition v2 ("." : Str)).2.2)) fun n24 =>
  gd (((Txt.partition v2 ("." : Str)).2.2).length ≤ 640) <|
  some (.ok ((n22 * 100) + n24))
def sp_read_cents (K : PySem.W.Frag) (C_NoAmount : Addr) : Sp := SpFE K (fun x : D => [.fz x]) (fun x => M_read_cents x) (t_Xc C_NoAmount) (fun r => .fz (.int r))
abbrev N_read_cents : List Str := ["text", "whole", "point", "part"]
theorem sc_read_cents : FnScope N_read_cents ["text"] (defScope s_read_cents) := ⟨rfl, rfl, rfl, by decide +kernel, rfl, by decide +kernel, by decide +kernel⟩
theorem ok_read_cents {f : Addr} {fd : FuncData} (F : Fun K "read_cents" "read_cents" s_read_cents f fd) (z_isinstance : mg "isinstance" = none) (z_str : mg "str" = none) (z_len : mg "len" = none) (z_int : mg "int" = none) (x_NoAmount : XcC K mg "NoAmount" C_NoAmount) (c_all_figures : Fn1 P w K mg base "all_figures" 1 ["text"] (sp_all_figures K)) : FnOk P w K mg base (L2N.CX P w) 2 f fd ["text"] (sp_read_cents K C_NoAmount) := by
  refine MH.fn_mE F sc_read_cents (fun x => rfl) (fun x _ => exO_nv (fun _ => rfl) x.2) fun cdv A outer s H E hr po x hx => ?_
  obtain ⟨text, r⟩ := x
  replace hx : M_read_cents text = some r := hx
  have nd := sc_read_cents.nd
  unfold M_read_cents at hx
  show MH.MS _ [some (.fz text), none, none, none] _ _
  replace hx := bd_some hx
  obtain ⟨k1, hk1, hx⟩ := hx
  refine MH.ms_cons (MH.m_if (t := (!k1)) (mt_not (mt_val (me_isiD (T := "str") hk1 (by rfl) z_isinstance (pe_bltn (v := .ty "str") (by rfl) z_str (by decide +kernel) rfl) (mv_var (pv 0) rfl)))) (fun h => ?_) fun h => MH.ms_nil ?_)
  · replace hx := cond_t hx h
    refine MH.ms_one (MH.m_raise (MH.pm_own x_NoAmount) ?_)
    cases hx; rfl
  replace hx := cond_f hx h
  replace hx := bd_some hx
  obtain ⟨v2, hv2, hx⟩ := hx
  replace hx := gd_some hx
  obtain ⟨g3, hx⟩ := hx
  refine MH.ms_cons (MH.m_tgt (ps_asg pe_w (pg_tup (n := 3) rfl (pgs_cons (pg_name (i := 1) nd rfl (Or.inl rfl)) (pgs_cons (pg_name (i := 2) nd rfl (Or.inl rfl)) (pgs_cons (pg_name (i := 3) nd rfl (Or.inl rfl)) pgs_nil))))) (me_partition (ME.is (o' := .fz (.str v2)) (me_var (pv 0) rfl) (asS_is hv2)) me_str rfl g3) (mg_tup (mgs_cons mg_name (mgs_cons mg_name (mgs_cons mg_name mgs_nil))) rfl) ?_)
  show MH.MS _ [some (.fz text), some (.fz (.str ((Txt.partition v2 ("." : Str)).1))), some (.fz (.str ((Txt.partition v2 ("." : Str)).2.1))), some (.fz (.str ((Txt.partition v2 ("." : Str)).2.2)))] _ _
  replace hx := bd_some hx
  obtain ⟨v8, hv8, hx⟩ := hx
  refine MH.ms_cons (MH.m_if (t := v8) (MW.t (MW.is (mw_or (mt_eqS (me_var (pv 2) rfl) me_str) fun q9 => (by have hx := cond_f hv8 q9; replace hx := gd_some hx; obtain ⟨g4, hx⟩ := hx; replace hx := bd_some hx; obtain ⟨v6, hv6, hx⟩ := hx; first | (cases hx; exact (MW.is (mw_or (mt_neI (me_lenS (by rfl) z_len (me_var (pv 3) rfl) g4) me_int) fun q7 => (by have hx := cond_f hv6 q7; replace hx := bd_some hx; obtain ⟨v5, hv5, hx⟩ := hx; cases hx; exact (mw_or1 (mt_not (mt_val (me_fn c_all_figures ((Txt.partition v2 ("." : Str)).2.2, v5) (ma_fz (me_var (pv 3) rfl) ma_nil) hv5 (hr.mono (by decide)))))))) (or_c hv6))) | (injection hx with hx; subst hx; exact (MW.is (mw_or (mt_neI (me_lenS (by rfl) z_len (me_var (pv 3) rfl) g4) me_int) fun q7 => (by have hx := cond_f hv6 q7; replace hx := bd_some hx; obtain ⟨v5, hv5, hx⟩ := hx; cases hx; exact (mw_or1 (mt_not (mt_val (me_fn c_all_figures ((Txt.partition v2 ("." : Str)).2.2, v5) (ma_fz (me_var (pv 3) rfl) ma_nil) hv5 (hr.mono (by decide)))))))) (or_c hv6))))) (or_c hv8))) (fun h => ?_) fun h => MH.ms_nil ?_)
  · replace hx := cond_t hx h
    refine MH.ms_one (MH.m_raise (MH.pm_own x_NoAmount) ?_)
    cases hx; rfl
  replace hx := cond_f hx h
  replace hx := gd_some hx
  obtain ⟨g10, hx⟩ := hx
  replace hx := bd_some hx
  obtain ⟨v15, hv15, hx⟩ := hx
  refine MH.ms_cons (MH.m_if (t := v15) (MW.t (MW.is (mw_or (mt_lt (me_lenS (by rfl) z_len (me_var (pv 1) rfl) g10) me_int) fun q16 => (by have hx := cond_f hv15 q16; replace hx := gd_some hx; obtain ⟨g11, hx⟩ := hx; replace hx := bd_some hx; obtain ⟨v13, hv13, hx⟩ := hx; first | (cases hx; exact (MW.is (mw_or (mt_gt (me_lenS (by rfl) z_len (me_var (pv 1) rfl) g11) me_int) fun q14 => (by have hx := cond_f hv13 q14; replace hx := bd_some hx; obtain ⟨v12, hv12, hx⟩ := hx; cases hx; exact (mw_or1 (mt_not (mt_val (me_fn c_all_figures ((Txt.partition v2 ("." : Str)).1, v12) (ma_fz (me_var (pv 1) rfl) ma_nil) hv12 (hr.mono (by decide)))))))) (or_c hv13))) | (injection hx with hx; subst hx; exact (MW.is (mw_or (mt_gt (me_lenS (by rfl) z_len (me_var (pv 1) rfl) g11) me_int) fun q14 => (by have hx := cond_f hv13 q14; replace hx := bd_some hx; obtain ⟨v12, hv12, hx⟩ := hx; cases hx; exact (mw_or1 (mt_not (mt_val (me_fn c_all_figures ((Txt.partition v2 ("." : Str)).1, v12) (ma_fz (me_var (pv 1) rfl) ma_nil) hv12 (hr.mono (by decide)))))))) (or_c hv13))))) (or_c hv15))) (fun h => ?_) fun h => MH.ms_nil ?_)
  · replace hx := cond_t hx h
    refine MH.ms_one (MH.m_raise (MH.pm_own x_NoAmount) ?_)
    cases hx; rfl
  replace hx := cond_f hx h
  replace hx := bd_some hx
  obtain ⟨c17, hc17, hx⟩ := hx
  replace hx := gd_some hx
  obtain ⟨g18, hx⟩ := hx
  replace hx := bd_some hx
  obtain ⟨v20, hv20, hx⟩ := hx
  refine MH.ms_cons (MH.m_if (t := v20) (MW.t (MW.is (mw_and (mt_eqS (me_ixS (me_var (pv 1) rfl) me_int g18 hc17) me_str) fun q21 => (by have hx := cond_t hv20 q21; replace hx := gd_some hx; obtain ⟨g19, hx⟩ := hx; cases hx; exact (mw_and1 (mt_gt (me_lenS (by rfl) z_len (me_var (pv 1) rfl) g19) me_int)))) (and_c hv20))) (fun h => ?_) fun h => MH.ms_nil ?_)
  · replace hx := cond_t hx h
    refine MH.ms_one (MH.m_raise (MH.pm_own x_NoAmount) ?_)
    cases hx; rfl
  replace hx := cond_f hx h
  replace hx := bd_some hx
  obtain ⟨n22, hn22, hx⟩ := hx
  replace hx := gd_some hx
  obtain ⟨g23, hx⟩ := hx
  replace hx := bd_some hx
  obtain ⟨n24, hn24, hx⟩ := hx
  replace hx := gd_some hx
  obtain ⟨g25, hx⟩ := hx
  refine MH.ms_one (MH.m_ret (ps_ret pe_w) (ME.r (me_add (me_mul (me_intS (by rfl) z_int (me_var (pv 1) rfl) hn22 g23) me_int (.inr ⟨by decide, by decide⟩)) (me_intS (by rfl) z_int (me_var (pv 3) rfl) hn24 g25))) ?_)
  cases hx; rfl
noncomputable def M__law_cell (script : (List Int)) (k_0 : Int) : Option Int :=
  cond (decide (k_0 < (script.length : Int))) (bd (L2.atI script k_0) fun v1 =>
    some v1) <|
  some (0 : Int)
def sp__law_cell (K : PySem.W.Frag) : Sp := SpF K (fun x : (List Int) × Int => [.vw (x.1.map D.int), .fz (.int x.2)]) (fun x => M__law_cell x.1 x.2) (fun r => .fz (.int r))
abbrev N__law_cell : List Str := ["_law_script", "_law_k"]
theorem sc__law_cell : FnScope N__law_cell ["_law_script", "_law_k"] (defScope s__law_cell) := ⟨rfl, rfl, rfl, by decide +kernel, rfl, by decide +kernel, by decide +kernel⟩
theorem ok__law_cell {f : Addr} {fd : FuncData} (F : Fun K "_law_cell" "_law_cell" s__law_cell f fd) (z_len : mg "len" = none) : FnOk P w K mg base CX0 1 f fd ["_law_script", "_law_k"] (sp__law_cell K) := by
  refine fn_m F sc__law_cell (fun x => rfl) (fun x _ => rfl) fun cdv A outer s H E hr x hx => ?_
  obtain ⟨⟨script, k_0⟩, r⟩ := x
  replace hx : M__law_cell script k_0 = some r := hx
  have nd := sc__law_cell.nd
  unfold M__law_cell at hx
  show MS _ [some (.vw (script.map D.int)), some (.fz (.int k_0))] _ _
  refine ms_cons (m_if (t := (decide (k_0 < (script.length : Int)))) (mt_lt (me_var (pv 1) rfl) (me_lenLT (xs := script) (enc := D.int) (by rfl) z_len (ml_var (pv 0) rfl))) (fun h => ?_) fun h => ms_nil ?_)
  · replace hx := cond_t hx h
    replace hx := bd_some hx
    obtain ⟨v1, hv1, hx⟩ := hx
    refine ms_one (m_ret (ps_ret pe_w) (ME.r (me_ixLT (xs := script) (enc := D.int) hv1 (ml_var (pv 0) rfl) (me_var (pv 1) rfl))) ?_)
    cases hx; rfl
  replace hx := cond_f hx h
  refine ms_one (m_ret (ps_ret pe_w) (ME.r me_int) ?_)
  cases hx; rfl

noncomputable def M__law_whole (found : D) : Option Bool :=
  bd (isiD "int" found) fun k1 =>
  bd (cond k1 (bd (isiD "bool" found) fun k2 => some (!k2)) (some false)) fun v3 =>
  some v3
def sp__law_whole (K : PySem.W.Frag) : Sp := SpF K (fun x : D => [.fz x]) (fun x => M__law_whole x) (fun r => .fz (.bl r))
abbrev N__law_whole : List Str := ["_law_found"]
theorem sc__law_whole : FnScope N__law_whole ["_law_found"] (defScope s__law_whole) := ⟨rfl, rfl, rfl, by decide +kernel, rfl, by decide +kernel, by decide +kernel⟩
theorem ok__law_whole {f : Addr} {fd : FuncData} (F : Fun K "_law_whole" "_law_whole" s__law_whole f fd) (z_isinstance : mg "isinstance" = none) (z_int : mg "int" = none) (z_bool : mg "bool" = none) : FnOk P w K mg base CX0 1 f fd ["_law_found"] (sp__law_whole K) := by
  refine fn_m F sc__law_whole (fun x => rfl) (fun x _ => rfl) fun cdv A outer s H E hr x hx => ?_
  obtain ⟨found, r⟩ := x
  replace hx : M__law_whole found = some r := hx
  have nd := sc__law_whole.nd
  unfold M__law_whole at hx
  show MS _ [some (.fz found)] _ _
  replace hx := bd_some hx
  obtain ⟨k1, hk1, hx⟩ := hx
  replace hx := bd_some hx
  obtain ⟨v3, hv3, hx⟩ := hx
  refine ms_one (m_ret (ps_ret pe_w) (ME.r (ME.isB (me_and (me_isiD (T := "int") hk1 (by rfl) z_isinstance (pe_bltn (v := .ty "int") (by rfl) z_int (by decide +kernel) rfl) (mv_var (pv 0) rfl)) fun q4 => (by have hx := cond_t hv3 q4; replace hx := bd_some hx; obtain ⟨k2, hk2, hx⟩ := hx; cases hx; exact (me_one (me_not (me_isiD (T := "bool") hk2 (by rfl) z_isinstance (pe_bltn (v := .ty "bool") (by rfl) z_bool (by decide +kernel) rfl) (mv_var (pv 0) rfl)))))) (and_c hv3))) ?_)
  cases hx; rfl

noncomputable def M__law_read (text_here : Str) : Option Int :=
  gd (text_here.length ≤ sizeLine) <|
  bd (cond (decide ((text_here.length : Int) < 4)) (some true) (bd (L2.atI text_here.cps.toList (-(3 : Int))) fun c2 => gd (text_here.length ≤ sizeLine) <| some (!((sg1 c2) == ("." : Str))))) fun v4 =>
  cond v4 (some (-(1 : Int))) <|
  gd (text_here.length ≤ sizeLine) <|
  lt (cutS text_here none (some (-(3 : Int)))) fun ahead =>
  gd (text_here.length ≤ sizeLine) <|
  lt (cutS text_here (some (-(2 : Int))) none) fun behind =>
  gd (ahead.length + behind.length ≤ sizeLine) <|
  bd (lpO (fun (x10 : Nat) (p9 : Unit) => (cond (!decide (x10 ∈ ("0123456789" : Str).cps.toList)) (some (.rt (-(1 : Int)))) <|
    some (.nx ()) : Option (Ou (Unit) (Unit) Int))) ((ahead ++ behind).cps.toList) ()) fun o11 => ouR o11 fun p9 =>
  gd (ahead.length ≤ sizeLine) <|
  bd (cond (decide (10 < (ahead.length : Int))) (some true) (bd (L2.atI ahead.cps.toList (0 : Int)) fun c13 => gd (ahead.length ≤ sizeLine) <| bd (cond (((sg1 c13) == ("0" : Str))) (gd (ahead.length ≤ sizeLine) <| some (decide (1 < (ahead.length : Int)))) (some false)) fun v16 => some v16)) fun v18 =>
  cond v18 (some (-(1 : Int))) <|
  bd (PySem.intText? ahead) fun n20 =>
  gd (ahead.length ≤ 640) <|
  bd (PySem.intText? behind) fun n22 =>
  gd (behind.length ≤ 640) <|
  some ((n20 * 100) + n22)
def sp__law_read (K : PySem.W.Frag) : Sp := SpF K (fun x : Str => [.fz (.str x)]) (fun x => M__law_read x) (fun r => .fz (.int r))
abbrev N__law_read : List Str := ["_law_text_here", "_law_ahead", "_law_behind", "_law_sign"]
theorem sc__law_read : FnScope N__law_read ["_law_text_here"] (defScope s__law_read) := ⟨rfl, rfl, rfl, by decide +kernel, rfl, by decide +kernel, by decide +kernel⟩
theorem ok__law_read {f : Addr} {fd : FuncData} (F : Fun K "_law_read" "_law_read" s__law_read f fd) (z_len : mg "len" = none) (z_int : mg "int" = none) : FnOk P w K mg base CX0 1 f fd ["_law_text_here"] (sp__law_read K) := by
  refine fn_m F sc__law_read (fun x => rfl) (fun x _ => rfl) fun cdv A outer s H E hr x hx => ?_
  obtain ⟨text_here, r⟩ := x
  replace hx : M__law_read text_here = some r := hx
  have nd := sc__law_read.nd
  unfold M__law_read at hx
  show MS _ [some (.fz (.str text_here)), none, none, none] _ _
  replace hx := gd_some hx
  obtain ⟨g1, hx⟩ := hx
  replace hx := bd_some hx
  obtain ⟨v4, hv4, hx⟩ := hx
  refine ms_cons (m_if (t := v4) (MW.t (MW.is (mw_or (mt_lt (me_lenS (by rfl) z_len (me_var (pv 0) rfl) g1) me_int) fun q5 => (by have hx := cond_f hv4 q5; replace hx := bd_some hx; obtain ⟨c2, hc2, hx⟩ := hx; replace hx := gd_some hx; obtain ⟨g3, hx⟩ := hx; cases hx; exact (mw_or1 (mt_neS (me_ixS (me_var (pv 0) rfl) (me_neg me_int) g3 hc2) me_str)))) (or_c hv4))) (fun h => ?_) fun h => ms_nil ?_)
  · replace hx := cond_t hx h
    refine ms_one (m_ret (ps_ret pe_w) (ME.r (me_neg me_int)) ?_)
    cases hx; rfl
  replace hx := cond_f hx h
  replace hx := gd_some hx
  obtain ⟨g6, hx⟩ := hx
  replace hx := lt_some hx
  obtain ⟨ahead, eahead, hx⟩ := hx
  refine ms_cons (m_set (ps_set (i := 1) nd rfl (Or.inl rfl) pe_w) (ME.is (o' := (.fz (.str ahead))) (me_slS g6 (me_var (pv 0) rfl) .none (.some (me_neg me_int))) (by rw [eahead] <;> rfl)) ?_)
  show MS _ [some (.fz (.str text_here)), some (.fz (.str ahead)), none, none] _ _
  replace hx := gd_some hx
  obtain ⟨g7, hx⟩ := hx
  replace hx := lt_some hx
  obtain ⟨behind, ebehind, hx⟩ := hx
  refine ms_cons (m_set (ps_set (i := 2) nd rfl (Or.inl rfl) pe_w) (ME.is (o' := (.fz (.str behind))) (me_slS g7 (me_var (pv 0) rfl) (.some (me_neg me_int)) .none) (by rw [ebehind] <;> rfl)) ?_)
  show MS _ [some (.fz (.str text_here)), some (.fz (.str ahead)), some (.fz (.str behind)), none] _ _
  replace hx := gd_some hx
  obtain ⟨g8, hx⟩ := hx
  replace hx := bd_some hx
  obtain ⟨o11, ho11, hx⟩ := hx
  refine ms_cons (m_forO (xs := (ahead ++ behind).cps.toList) (enc := (fun c => D.str ⟨#[c]⟩)) (ps_for PassesOwn.never rfl (pi_str pe_w) (pg_name (i := 3) nd rfl (Or.inl rfl)) pss_w) (by exact (mi_strT (me_cat (me_var (pv 1) rfl) (me_var (pv 2) rfl) g8))) ho11 (fun p9 => [some (.fz (.str text_here)), some (.fz (.str ahead)), some (.fz (.str behind)), none]) (fun r => .fz (.int r)) le_auto (fun x10 p9 p9o mx hx => ?_) (fun p9 τ e le => ?_) fun q e => ?_)
  ·
    refine ⟨_, _, mg_name, ?_⟩
    show MS _ [some (.fz (.str text_here)), some (.fz (.str ahead)), some (.fz (.str behind)), some (.fz (.str (sg1 x10)))] _ _
    refine ms_one (m_if (t := (!decide (x10 ∈ ("0123456789" : Str).cps.toList))) (mt_niS (me_var (pv 3) rfl) me_str) (fun h => ?_) fun h => ms_nil ?_)
    · replace hx := cond_t hx h
      refine ms_one (m_ret (ps_ret pe_w) (ME.r (me_neg me_int)) ?_)
      cases hx; exact ⟨_, rfl, rfl⟩
    replace hx := cond_f hx h
    cases hx; exact ⟨_, rfl, le_auto⟩
  · subst e
    dsimp only [ouR] at hx
    refine ms_le le ?_
    show MS _ [some (.fz (.str text_here)), some (.fz (.str ahead)), some (.fz (.str behind)), none] _ _
    replace hx := gd_some hx
    obtain ⟨g12, hx⟩ := hx
    replace hx := bd_some hx
    obtain ⟨v18, hv18, hx⟩ := hx
    refine ms_cons (m_if (t := v18) (MW.t (MW.is (mw_or (mt_gt (me_lenS (by rfl) z_len (me_var (pv 1) rfl) g12) me_int) fun q19 => (by have hx := cond_f hv18 q19; replace hx := bd_some hx; obtain ⟨c13, hc13, hx⟩ := hx; replace hx := gd_some hx; obtain ⟨g14, hx⟩ := hx; replace hx := bd_some hx; obtain ⟨v16, hv16, hx⟩ := hx; first | (cases hx; exact (mw_or1 (MW.t (MW.is (mw_and (mt_eqS (me_ixS (me_var (pv 1) rfl) me_int g14 hc13) me_str) fun q17 => (by have hx := cond_t hv16 q17; replace hx := gd_some hx; obtain ⟨g15, hx⟩ := hx; cases hx; exact (mw_and1 (mt_gt (me_lenS (by rfl) z_len (me_var (pv 1) rfl) g15) me_int)))) (and_c hv16))))) | (injection hx with hx; subst hx; exact (mw_or1 (MW.t (MW.is (mw_and (mt_eqS (me_ixS (me_var (pv 1) rfl) me_int g14 hc13) me_str) fun q17 => (by have hx := cond_t hv16 q17; replace hx := gd_some hx; obtain ⟨g15, hx⟩ := hx; cases hx; exact (mw_and1 (mt_gt (me_lenS (by rfl) z_len (me_var (pv 1) rfl) g15) me_int)))) (and_c hv16))))))) (or_c hv18))) (fun h => ?_) fun h => ms_nil ?_)
    · replace hx := cond_t hx h
      refine ms_one (m_ret (ps_ret pe_w) (ME.r (me_neg me_int)) ?_)
      cases hx; rfl
    replace hx := cond_f hx h
    replace hx := bd_some hx
    obtain ⟨n20, hn20, hx⟩ := hx
    replace hx := gd_some hx
    obtain ⟨g21, hx⟩ := hx
    replace hx := bd_some hx
    obtain ⟨n22, hn22, hx⟩ := hx
    replace hx := gd_some hx
    obtain ⟨g23, hx⟩ := hx
    refine ms_one (m_ret (ps_ret pe_w) (ME.r (me_add (me_mul (me_intS (by rfl) z_int (me_var (pv 1) rfl) hn20 g21) me_int (.inr ⟨by decide, by decide⟩)) (me_intS (by rfl) z_int (me_var (pv 2) rfl) hn22 g23))) ?_)
    cases hx; rfl
  · subst e; cases hx; rfl

noncomputable def M__law_text (cell_here : Int) (other_here : Int) : Option Str :=
  bd (L2.atI [10, 100, 1000, 100000, 100000000, 100000000000, 1000000000000, 10000000000000, 100000000000000] (other_here % 9)) fun v1 =>
  gd (0 < v1) <|
  lt (cell_here % v1) fun cents =>
  gd ((cents / 100).natAbs.log2 < 1920) <|
  lt (strI (cents / 100)) fun ahead =>
  bd (cond ((((other_here / 9) % 6) == 1)) (gd ((-(2 ^ 63) ≤ (1 + ((other_here / 54) % 3)) ∧ (1 + ((other_here / 54) % 3)) < 2 ^ 63) ∧ ("0" : Str).length * (1 + ((other_here / 54) % 3)).toNat ≤ 16777216) <|
    gd ((repS ("0" : Str) (1 + ((other_here / 54) % 3))).length + ahead.length ≤ sizeLine) <|
    lt ((repS ("0" : Str) (1 + ((other_here / 54) % 3))) ++ ahead) fun ahead_1 =>
    some ahead_1) (some ahead) : Option (Str)) fun p4 =>
  gd (p4.length + ("." : Str).length ≤ sizeLine) <|
  gd (((cents / 10) % 10).natAbs.log2 < 1920) <|
  gd ((p4 ++ ("." : Str)).length + (strI ((cents / 10) % 10)).length ≤ sizeLine) <|
  gd ((cents % 10).natAbs.log2 < 1920) <|
  gd (((p4 ++ ("." : Str)) ++ (strI ((cents / 10) % 10))).length + (strI (cents % 10)).length ≤ sizeLine) <|
  some (((p4 ++ ("." : Str)) ++ (strI ((cents / 10) % 10))) ++ (strI (cents % 10)))
def sp__law_text (K : PySem.W.Frag) : Sp := SpF K (fun x : Int × Int => [.fz (.int x.1), .fz (.int x.2)]) (fun x => M__law_text x.1 x.2) (fun r => .fz (.str r))
abbrev N__law_text : List Str := ["_law_cell_here", "_law_other_here", "_law_most", "_law_cents", "_law_ahead"]
theorem sc__law_text : FnScope N__law_text ["_law_cell_here", "_law_other_here"] (defScope s__law_text) := ⟨rfl, rfl, rfl, by decide +kernel, rfl, by decide +kernel, by decide +kernel⟩
theorem ok__law_text {f : Addr} {fd : FuncData} (F : Fun K "_law_text" "_law_text" s__law_text f fd) (z_str : mg "str" = none) : FnOk P w K mg base CX0 1 f fd ["_law_cell_here", "_law_other_here"] (sp__law_text K) := by
  refine fn_m F sc__law_text (fun x => rfl) (fun x _ => rfl) fun cdv A outer s H E hr x hx => ?_
  obtain ⟨⟨cell_here, other_here⟩, r⟩ := x
  replace hx : M__law_text cell_here other_here = some r := hx
  have nd := sc__law_text.nd
  unfold M__law_text at hx
  show MS _ [some (.fz (.int cell_here)), some (.fz (.int other_here)), none, none, none] _ _
  replace hx := bd_some hx
  obtain ⟨v1, hv1, hx⟩ := hx
  refine ms_cons (m_set (ps_set (i := 2) nd rfl (Or.inl rfl) pe_w) (me_ixLT (xs := [10, 100, 1000, 100000, 100000000, 100000000000, 1000000000000, 10000000000000, 100000000000000]) (enc := D.int) hv1 (ME.l (me_lst (ds := [10, 100, 1000, 100000, 100000000, 100000000000, 1000000000000, 10000000000000, 100000000000000].map D.int) (mf_cons me_int (mf_cons me_int (mf_cons me_int (mf_cons (ME.is (o' := .fz (.int 100000)) (me_pow me_int me_int ⟨by decide, by decide, by decide⟩) rfl) (mf_cons (ME.is (o' := .fz (.int 100000000)) (me_pow me_int me_int ⟨by decide, by decide, by decide⟩) rfl) (mf_cons (ME.is (o' := .fz (.int 100000000000)) (me_pow me_int me_int ⟨by decide, by decide, by decide⟩) rfl) (mf_cons (ME.is (o' := .fz (.int 1000000000000)) (me_pow me_int me_int ⟨by decide, by decide, by decide⟩) rfl) (mf_cons (ME.is (o' := .fz (.int 10000000000000)) (me_pow me_int me_int ⟨by decide, by decide, by decide⟩) rfl) (mf_cons (ME.is (o' := .fz (.int 100000000000000)) (me_pow me_int me_int ⟨by decide, by decide, by decide⟩) rfl) mf_nil))))))))))) (me_mod (me_var (pv 1) rfl) me_int (by decide))) ?_)
  show MS _ [some (.fz (.int cell_here)), some (.fz (.int other_here)), some (.fz (.int v1)), none, none] _ _
  replace hx := gd_some hx
  obtain ⟨g2, hx⟩ := hx
  replace hx := lt_some hx
  obtain ⟨cents, ecents, hx⟩ := hx
  refine ms_cons (m_set (ps_set (i := 3) nd rfl (Or.inl rfl) pe_w) (ME.is (o' := (.fz (.int cents))) (me_mod (me_var (pv 0) rfl) (me_var (pv 2) rfl) g2) (by rw [ecents] <;> rfl)) ?_)
  show MS _ [some (.fz (.int cell_here)), some (.fz (.int other_here)), some (.fz (.int v1)), some (.fz (.int cents)), none] _ _
  replace hx := gd_some hx
  obtain ⟨g3, hx⟩ := hx
  replace hx := lt_some hx
  obtain ⟨ahead, eahead, hx⟩ := hx
  refine ms_cons (m_set (ps_set (i := 4) nd rfl (Or.inl rfl) pe_w) (ME.is (o' := (.fz (.str ahead))) (me_strI (by rfl) z_str (me_fdiv (me_var (pv 3) rfl) me_int ⟨by decide, by decide⟩) g3) (by rw [eahead] <;> rfl)) ?_)
  show MS _ [some (.fz (.int cell_here)), some (.fz (.int other_here)), some (.fz (.int v1)), some (.fz (.int cents)), some (.fz (.str ahead))] _ _
  replace hx := bd_some hx
  obtain ⟨p4, hp4, hx⟩ := hx
  refine ms_cons (m_ifP (out := p4) (fun p4 => [some (.fz (.int cell_here)), some (.fz (.int other_here)), some (.fz (.int v1)), some (.fz (.int cents)), some (.fz (.str p4))]) (t := ((((other_here / 9) % 6) == 1))) (mt_eqI (me_mod (me_fdiv (me_var (pv 1) rfl) me_int ⟨by decide, by decide⟩) me_int (by decide)) me_int) (fun h => ?_) (fun h => ?_) fun τ le => ?_)
  · replace hx := cond_t hp4 h
    replace hx := gd_some hx
    obtain ⟨g5, hx⟩ := hx
    replace hx := gd_some hx
    obtain ⟨g6, hx⟩ := hx
    replace hx := lt_some hx
    obtain ⟨ahead_1, eahead_1, hx⟩ := hx
    refine ms_one (m_set (ps_set (i := 4) nd rfl (Or.inl rfl) pe_w) (ME.is (o' := (.fz (.str ahead_1))) (me_cat (me_repS g5 me_str (me_add me_int (me_mod (me_fdiv (me_var (pv 1) rfl) me_int ⟨by decide, by decide⟩) me_int (by decide)))) (me_var (pv 4) rfl) g6) (by rw [eahead_1] <;> rfl)) ?_)
    cases hx; exact le_auto
  · replace hx := cond_f hp4 h
    refine ms_nil ?_
    cases hx; exact le_auto
  refine ms_le le ?_
  show MS _ [some (.fz (.int cell_here)), some (.fz (.int other_here)), some (.fz (.int v1)), some (.fz (.int cents)), some (.fz (.str p4))] _ _
  replace hx := gd_some hx
  obtain ⟨g7, hx⟩ := hx
  replace hx := gd_some hx
  obtain ⟨g8, hx⟩ := hx
  replace hx := gd_some hx
  obtain ⟨g9, hx⟩ := hx
  replace hx := gd_some hx
  obtain ⟨g10, hx⟩ := hx
  replace hx := gd_some hx
  obtain ⟨g11, hx⟩ := hx
  refine ms_one (m_ret (ps_ret pe_w) (ME.r (me_cat (me_cat (me_cat (me_var (pv 4) rfl) me_str g7) (me_strI (by rfl) z_str (me_mod (me_fdiv (me_var (pv 3) rfl) me_int ⟨by decide, by decide⟩) me_int (by decide)) g8) g9) (me_strI (by rfl) z_str (me_mod (me_var (pv 3) rfl) me_int (by decide)) g10) g11)) ?_)
  cases hx; rfl

noncomputable def M__law_spoilt (text_here : Str) (cell_here : Int) : Option Str :=
  lt ("0123456789.,-+ _eE:;aOol'\"/xX$#\n\tn*()=~" : Str) fun signs =>
  gd (signs.length ≤ sizeLine) <|
  gd (0 < (signs.length : Int)) <|
  bd (L2.atI signs.cps.toList ((cell_here / 8) % (signs.length : Int))) fun c3 =>
  gd (signs.length ≤ sizeLine) <|
  lt (sg1 c3) fun sign =>
  gd (text_here.length ≤ sizeLine) <|
  gd (0 < (text_here.length : Int)) <|
  lt ((cell_here / 400) % (text_here.length : Int)) fun at_0 =>
  lt (cell_here % 8) fun way =>
  cond ((way == 1)) (gd (text_here.length ≤ sizeLine) <|
    gd ((cutS text_here none (some at_0)).length + sign.length ≤ sizeLine) <|
    gd (text_here.length ≤ sizeLine) <|
    gd (((cutS text_here none (some at_0)) ++ sign).length + (cutS text_here (some at_0) none).length ≤ sizeLine) <|
    some (((cutS text_here none (some at_0)) ++ sign) ++ (cutS text_here (some at_0) none))) <|
  cond ((way == 2)) (gd (text_here.length ≤ sizeLine) <|
    gd (text_here.length ≤ sizeLine) <|
    gd ((cutS text_here none (some at_0)).length + (cutS text_here (some (at_0 + 1)) none).length ≤ sizeLine) <|
    some ((cutS text_here none (some at_0)) ++ (cutS text_here (some (at_0 + 1)) none))) <|
  cond ((way == 3)) (gd (text_here.length ≤ sizeLine) <|
    bd (L2.atI text_here.cps.toList at_0) fun c15 =>
    gd (text_here.length ≤ sizeLine) <|
    gd ((cutS text_here none (some at_0)).length + (sg1 c15).length ≤ sizeLine) <|
    gd (text_here.length ≤ sizeLine) <|
    gd (((cutS text_here none (some at_0)) ++ (sg1 c15)).length + (cutS text_here (some at_0) none).length ≤ sizeLine) <|
    some (((cutS text_here none (some at_0)) ++ (sg1 c15)) ++ (cutS text_here (some at_0) none))) <|
  cond ((way == 4)) (gd (text_here.length ≤ sizeLine) <|
    gd ((cutS text_here none (some at_0)).length + sign.length ≤ sizeLine) <|
    gd (text_here.length ≤ sizeLine) <|
    gd (((cutS text_here none (some at_0)) ++ sign).length + (cutS text_here (some (at_0 + 1)) none).length ≤ sizeLine) <|
    some (((cutS text_here none (some at_0)) ++ sign) ++ (cutS text_here (some (at_0 + 1)) none))) <|
  cond ((way == 5)) (gd (text_here.length + sign.length ≤ sizeLine) <|
    some (text_here ++ sign)) <|
  some text_here
def sp__law_spoilt (K : PySem.W.Frag) : Sp := SpF K (fun x : Str × Int => [.fz (.str x.1), .fz (.int x.2)]) (fun x => M__law_spoilt x.1 x.2) (fun r => .fz (.str r))
abbrev N__law_spoilt : List Str := ["_law_text_here", "_law_cell_here", "_law_signs", "_law_sign", "_law_at", "_law_way"]
theorem sc__law_spoilt : FnScope N__law_spoilt ["_law_text_here", "_law_cell_here"] (defScope s__law_spoilt) := ⟨rfl, rfl, rfl, by decide +kernel, rfl, by decide +kernel, by decide +kernel⟩
theorem ok__law_spoilt {f : Addr} {fd : FuncData} (F : Fun K "_law_spoilt" "_law_spoilt" s__law_spoilt f fd) (z_len : mg "len" = none) : FnOk P w K mg base CX0 1 f fd ["_law_text_here", "_law_cell_here"] (sp__law_spoilt K) := by
  refine fn_m F sc__law_spoilt (fun x => rfl) (fun x _ => rfl) fun cdv A outer s H E hr x hx => ?_
  obtain ⟨⟨text_here, cell_here⟩, r⟩ := x
  replace hx : M__law_spoilt text_here cell_here = some r := hx
  have nd := sc__law_spoilt.nd
  unfold M__law_spoilt at hx
  show MS _ [some (.fz (.str text_here)), some (.fz (.int cell_here)), none, none, none, none] _ _
  replace hx := lt_some hx
  obtain ⟨signs, esigns, hx⟩ := hx
  refine ms_cons (m_set (ps_set (i := 2) nd rfl (Or.inl rfl) pe_w) (ME.is (o' := (.fz (.str signs))) me_str (by rw [esigns] <;> rfl)) ?_)
  show MS _ [some (.fz (.str text_here)), some (.fz (.int cell_here)), some (.fz (.str signs)), none, none, none] _ _
  replace hx := gd_some hx
  obtain ⟨g1, hx⟩ := hx
  replace hx := gd_some hx
  obtain ⟨g2, hx⟩ := hx
  replace hx := bd_some hx
  obtain ⟨c3, hc3, hx⟩ := hx
  replace hx := gd_some hx
  obtain ⟨g4, hx⟩ := hx
  replace hx := lt_some hx
  obtain ⟨sign, esign, hx⟩ := hx
  refine ms_cons (m_set (ps_set (i := 3) nd rfl (Or.inl rfl) pe_w) (ME.is (o' := (.fz (.str sign))) (me_ixS (me_var (pv 2) rfl) (me_mod (me_fdiv (me_var (pv 1) rfl) me_int ⟨by decide, by decide⟩) (me_lenS (by rfl) z_len (me_var (pv 2) rfl) g1) g2) g4 hc3) (by rw [esign] <;> rfl)) ?_)
  show MS _ [some (.fz (.str text_here)), some (.fz (.int cell_here)), some (.fz (.str signs)), some (.fz (.str sign)), none, none] _ _
  replace hx := gd_some hx
  obtain ⟨g5, hx⟩ := hx
  replace hx := gd_some hx
  obtain ⟨g6, hx⟩ := hx
  replace hx := lt_some hx
  obtain ⟨at_0, eat_0, hx⟩ := hx
  refine ms_cons (m_set (ps_set (i := 4) nd rfl (Or.inl rfl) pe_w) (ME.is (o' := (.fz (.int at_0))) (me_mod (me_fdiv (me_var (pv 1) rfl) me_int ⟨by decide, by decide⟩) (me_lenS (by rfl) z_len (me_var (pv 0) rfl) g5) g6) (by rw [eat_0] <;> rfl)) ?_)
  show MS _ [some (.fz (.str text_here)), some (.fz (.int cell_here)), some (.fz (.str signs)), some (.fz (.str sign)), some (.fz (.int at_0)), none] _ _
  replace hx := lt_some hx
  obtain ⟨way, eway, hx⟩ := hx
  refine ms_cons (m_set (ps_set (i := 5) nd rfl (Or.inl rfl) pe_w) (ME.is (o' := (.fz (.int way))) (me_mod (me_var (pv 1) rfl) me_int (by decide)) (by rw [eway] <;> rfl)) ?_)
  show MS _ [some (.fz (.str text_here)), some (.fz (.int cell_here)), some (.fz (.str signs)), some (.fz (.str sign)), some (.fz (.int at_0)), some (.fz (.int way))] _ _
  refine ms_cons (m_if (t := ((way == 1))) (mt_eqI (me_var (pv 5) rfl) me_int) (fun h => ?_) fun h => ms_nil ?_)
  · replace hx := cond_t hx h
    replace hx := gd_some hx
    obtain ⟨g7, hx⟩ := hx
    replace hx := gd_some hx
    obtain ⟨g8, hx⟩ := hx
    replace hx := gd_some hx
    obtain ⟨g9, hx⟩ := hx
    replace hx := gd_some hx
    obtain ⟨g10, hx⟩ := hx
    refine ms_one (m_ret (ps_ret pe_w) (ME.r (me_cat (me_cat (me_slS g7 (me_var (pv 0) rfl) .none (.some (me_var (pv 4) rfl))) (me_var (pv 3) rfl) g8) (me_slS g9 (me_var (pv 0) rfl) (.some (me_var (pv 4) rfl)) .none) g10)) ?_)
    cases hx; rfl
  replace hx := cond_f hx h
  refine ms_cons (m_if (t := ((way == 2))) (mt_eqI (me_var (pv 5) rfl) me_int) (fun h => ?_) fun h => ms_nil ?_)
  · replace hx := cond_t hx h
    replace hx := gd_some hx
    obtain ⟨g11, hx⟩ := hx
    replace hx := gd_some hx
    obtain ⟨g12, hx⟩ := hx
    replace hx := gd_some hx
    obtain ⟨g13, hx⟩ := hx
    refine ms_one (m_ret (ps_ret pe_w) (ME.r (me_cat (me_slS g11 (me_var (pv 0) rfl) .none (.some (me_var (pv 4) rfl))) (me_slS g12 (me_var (pv 0) rfl) (.some (me_add (me_var (pv 4) rfl) me_int)) .none) g13)) ?_)
    cases hx; rfl
  replace hx := cond_f hx h
  refine ms_cons (m_if (t := ((way == 3))) (mt_eqI (me_var (pv 5) rfl) me_int) (fun h => ?_) fun h => ms_nil ?_)
  · replace hx := cond_t hx h
    replace hx := gd_some hx
    obtain ⟨g14, hx⟩ := hx
    replace hx := bd_some hx
    obtain ⟨c15, hc15, hx⟩ := hx
    replace hx := gd_some hx
    obtain ⟨g16, hx⟩ := hx
    replace hx := gd_some hx
    obtain ⟨g17, hx⟩ := hx
    replace hx := gd_some hx
    obtain ⟨g18, hx⟩ := hx
    replace hx := gd_some hx
    obtain ⟨g19, hx⟩ := hx
    refine ms_one (m_ret (ps_ret pe_w) (ME.r (me_cat (me_cat (me_slS g14 (me_var (pv 0) rfl) .none (.some (me_var (pv 4) rfl))) (me_ixS (me_var (pv 0) rfl) (me_var (pv 4) rfl) g16 hc15) g17) (me_slS g18 (me_var (pv 0) rfl) (.some (me_var (pv 4) rfl)) .none) g19)) ?_)
    cases hx; rfl
  replace hx := cond_f hx h
  refine ms_cons (m_if (t := ((way == 4))) (mt_eqI (me_var (pv 5) rfl) me_int) (fun h => ?_) fun h => ms_nil ?_)
  · replace hx := cond_t hx h
    replace hx := gd_some hx
    obtain ⟨g20, hx⟩ := hx
    replace hx := gd_some hx
    obtain ⟨g21, hx⟩ := hx
    replace hx := gd_some hx
    obtain ⟨g22, hx⟩ := hx
    replace hx := gd_some hx
    obtain ⟨g23, hx⟩ := hx
    refine ms_one (m_ret (ps_ret pe_w) (ME.r (me_cat (me_cat (me_slS g20 (me_var (pv 0) rfl) .none (.some (me_var (pv 4) rfl))) (me_var (pv 3) rfl) g21) (me_slS g22 (me_var (pv 0) rfl) (.some (me_add (me_var (pv 4) rfl) me_int)) .none) g23)) ?_)
    cases hx; rfl
  replace hx := cond_f hx h
  refine ms_cons (m_if (t := ((way == 5))) (mt_eqI (me_var (pv 5) rfl) me_int) (fun h => ?_) fun h => ms_nil ?_)
  · replace hx := cond_t hx h
    replace hx := gd_some hx
    obtain ⟨g24, hx⟩ := hx
    refine ms_one (m_ret (ps_ret pe_w) (ME.r (me_cat (me_var (pv 0) rfl) (me_var (pv 3) rfl) g24)) ?_)
    cases hx; rfl
  replace hx := cond_f hx h
  refine ms_one (m_ret (ps_ret pe_w) (ME.r (me_var (pv 0) rfl)) ?_)
  cases hx; rfl
noncomputable def M__law_other : Option Bool :=
  lt [false, false, false, false] fun some_0 =>
  gd (some_0.length + [false, false, false, false].length ≤ sizeLine) <|
  lt (some_0 ++ [false, false, false, false]) fun some_1 =>
  gd (some_1.length + [false, false, false].length ≤ sizeLine) <|
  lt (some_1 ++ [false, false, false]) fun some_2 =>
  gd (some_2.length + [false, false].length ≤ sizeLine) <|
  some (((some_2 ++ [false, false]).contains true))
def sp__law_other (K : PySem.W.Frag) (C_NoAmount : Addr) : Addr × Obj → Sp := fun p => SpM K (fun _ : Bool => [.pt p.1]) (fun r => M__law_other = some r ∧ Zc (.ref C_NoAmount) none p.2 ∧ ∃ vs, p.2.data = .fields vs) (fun r => .fz (.bl r))
abbrev N__law_other : List Str := ["_law_e", "_law_some"]
theorem sc__law_other : FnScope N__law_other ["_law_e"] (defScope s__law_other) := ⟨rfl, rfl, rfl, by decide +kernel, rfl, by decide +kernel, by decide +kernel⟩
theorem ok__law_other {f : Addr} {fd : FuncData} (F : Fun K "_law_other" "_law_other" s__law_other f fd) (z_isinstance : mg "isinstance" = none) (w_NoAmount : ExcC K C_NoAmount) (e_NoShares : mg "NoShares" = some (.ref C_NoShares)) (q_NoAmount_NoShares : PySem.W.kitOne K (.ref C_NoAmount) (.ref C_NoShares) = some false) (e_NoEntry : mg "NoEntry" = some (.ref C_NoEntry)) (q_NoAmount_NoEntry : PySem.W.kitOne K (.ref C_NoAmount) (.ref C_NoEntry) = some false) (e_NoWords : mg "NoWords" = some (.ref C_NoWords)) (q_NoAmount_NoWords : PySem.W.kitOne K (.ref C_NoAmount) (.ref C_NoWords) = some false) (e_TooDeep : mg "TooDeep" = some (.ref C_TooDeep)) (q_NoAmount_TooDeep : PySem.W.kitOne K (.ref C_NoAmount) (.ref C_TooDeep) = some false) (e_NoClause : mg "NoClause" = some (.ref C_NoClause)) (q_NoAmount_NoClause : PySem.W.kitOne K (.ref C_NoAmount) (.ref C_NoClause) = some false) (e_NoCover : mg "NoCover" = some (.ref C_NoCover)) (q_NoAmount_NoCover : PySem.W.kitOne K (.ref C_NoAmount) (.ref C_NoCover) = some false) (e_NoBook : mg "NoBook" = some (.ref C_NoBook)) (q_NoAmount_NoBook : PySem.W.kitOne K (.ref C_NoAmount) (.ref C_NoBook) = some false) (e_Twice : mg "Twice" = some (.ref C_Twice)) (q_NoAmount_Twice : PySem.W.kitOne K (.ref C_NoAmount) (.ref C_Twice) = some false) (e_Late : mg "Late" = some (.ref C_Late)) (q_NoAmount_Late : PySem.W.kitOne K (.ref C_NoAmount) (.ref C_Late) = some false) (e_NotTold : mg "NotTold" = some (.ref C_NotTold)) (q_NoAmount_NotTold : PySem.W.kitOne K (.ref C_NoAmount) (.ref C_NotTold) = some false) (e_TooWide : mg "TooWide" = some (.ref C_TooWide)) (q_NoAmount_TooWide : PySem.W.kitOne K (.ref C_NoAmount) (.ref C_TooWide) = some false) (e_NoText : mg "NoText" = some (.ref C_NoText)) (q_NoAmount_NoText : PySem.W.kitOne K (.ref C_NoAmount) (.ref C_NoText) = some false) (e_NoRow : mg "NoRow" = some (.ref C_NoRow)) (q_NoAmount_NoRow : PySem.W.kitOne K (.ref C_NoAmount) (.ref C_NoRow) = some false) : L2H.FnHP0 P w K mg base CX0 1 f fd ["_law_e"] (sp__law_other K C_NoAmount) := by
  refine fn_mH0 F sc__law_other (fun p x => rfl) (fun p x _ => rfl) fun cdv A outer s H E p hr r hx => ?_
  obtain ⟨hx, hz, hf⟩ := hx
  have hin : p ∈ (L2H.cxH CX0 P w K mg base N__law_other "_law_other" (defScope s__law_other) f cdv A outer s H E p).pn := List.mem_cons_self
  have nd := sc__law_other.nd
  unfold M__law_other at hx
  show MS _ [some (.pt p.1), none] _ _
  replace hx := lt_some hx
  obtain ⟨some_0, esome_0, hx⟩ := hx
  refine ms_cons (m_set (ps_set (i := 1) nd rfl (Or.inl rfl) pe_w) (ME.is (o' := (.lst ((some_0.map D.bl).map .fz))) (me_lst (ds := [false, false, false, false].map D.bl) (mf_cons (me_isiP0 w_NoAmount hin hz hf rfl z_isinstance e_NoShares (pv 0) rfl q_NoAmount_NoShares) (mf_cons (me_isiP0 w_NoAmount hin hz hf rfl z_isinstance e_NoEntry (pv 0) rfl q_NoAmount_NoEntry) (mf_cons (me_isiP0 w_NoAmount hin hz hf rfl z_isinstance e_NoWords (pv 0) rfl q_NoAmount_NoWords) (mf_cons (me_isiP0 w_NoAmount hin hz hf rfl z_isinstance e_TooDeep (pv 0) rfl q_NoAmount_TooDeep) mf_nil))))) (by rw [esome_0] <;> rfl)) ?_)
  show MS _ [some (.pt p.1), some (.lst ((some_0.map D.bl).map .fz))] _ _
  replace hx := gd_some hx
  obtain ⟨g1, hx⟩ := hx
  replace hx := lt_some hx
  obtain ⟨some_1, esome_1, hx⟩ := hx
  refine ms_cons (m_set (ps_set (i := 1) nd rfl (Or.inl rfl) pe_w) (ME.is (o' := (.lst ((some_1.map D.bl).map .fz))) (me_catLT (xs := some_0) (ys := [false, false, false, false]) (enc := D.bl) g1 (mv_var (pv 1) rfl) (ME.v (me_lst (ds := [false, false, false, false].map D.bl) (mf_cons (me_isiP0 w_NoAmount hin hz hf rfl z_isinstance e_NoClause (pv 0) rfl q_NoAmount_NoClause) (mf_cons (me_isiP0 w_NoAmount hin hz hf rfl z_isinstance e_NoCover (pv 0) rfl q_NoAmount_NoCover) (mf_cons (me_isiP0 w_NoAmount hin hz hf rfl z_isinstance e_NoBook (pv 0) rfl q_NoAmount_NoBook) (mf_cons (me_isiP0 w_NoAmount hin hz hf rfl z_isinstance e_Twice (pv 0) rfl q_NoAmount_Twice) mf_nil))))))) (by rw [esome_1] <;> rfl)) ?_)
  show MS _ [some (.pt p.1), some (.lst ((some_1.map D.bl).map .fz))] _ _
  replace hx := gd_some hx
  obtain ⟨g2, hx⟩ := hx
  replace hx := lt_some hx
  obtain ⟨some_2, esome_2, hx⟩ := hx
  refine ms_cons (m_set (ps_set (i := 1) nd rfl (Or.inl rfl) pe_w) (ME.is (o' := (.lst ((some_2.map D.bl).map .fz))) (me_catLT (xs := some_1) (ys := [false, false, false]) (enc := D.bl) g2 (mv_var (pv 1) rfl) (ME.v (me_lst (ds := [false, false, false].map D.bl) (mf_cons (me_isiP0 w_NoAmount hin hz hf rfl z_isinstance e_Late (pv 0) rfl q_NoAmount_Late) (mf_cons (me_isiP0 w_NoAmount hin hz hf rfl z_isinstance e_NotTold (pv 0) rfl q_NoAmount_NotTold) (mf_cons (me_isiP0 w_NoAmount hin hz hf rfl z_isinstance e_TooWide (pv 0) rfl q_NoAmount_TooWide) mf_nil)))))) (by rw [esome_2] <;> rfl)) ?_)
  show MS _ [some (.pt p.1), some (.lst ((some_2.map D.bl).map .fz))] _ _
  replace hx := gd_some hx
  obtain ⟨g3, hx⟩ := hx
  refine ms_one (m_ret (ps_ret pe_w) (ME.r (me_inLT_b (xb := (some_2 ++ [false, false])) me_bl (ME.l (me_catLT (xs := some_2) (ys := [false, false]) (enc := D.bl) g3 (mv_var (pv 1) rfl) (ME.v (me_lst (ds := [false, false].map D.bl) (mf_cons (me_isiP0 w_NoAmount hin hz hf rfl z_isinstance e_NoText (pv 0) rfl q_NoAmount_NoText) (mf_cons (me_isiP0 w_NoAmount hin hz hf rfl z_isinstance e_NoRow (pv 0) rfl q_NoAmount_NoRow) mf_nil)))))))) ?_)
  cases hx; rfl
noncomputable def M__law_refused (thing : D) : Option Bool :=
  bd (bdo (M_read_cents thing) fun v3 =>
    some (.nx ()) : Option (Ou (Unit) Unit (Xr Xc Bool))) fun o2 => tryR o2 (fun p1 =>
  some false) (fun r => some r) (fun xe => bd (cond true (bd (cond true (bd M__law_other fun v5 => some (!v5)) (some false)) fun v6 => some v6) (some false)) fun v8 =>
    some v8)
def sp__law_refused (K : PySem.W.Frag) : Sp := SpF K (fun x : D => [.fz x]) (fun x => M__law_refused x) (fun r => .fz (.bl r))
abbrev N__law_refused : List Str := ["_law_thing", "_law_e"]
theorem sc__law_refused : FnScope N__law_refused ["_law_thing"] (defScope s__law_refused) := ⟨rfl, rfl, rfl, by decide +kernel, rfl, by decide +kernel, by decide +kernel⟩
theorem ok__law_refused {f : Addr} {fd : FuncData} (F : Fun K "_law_refused" "_law_refused" s__law_refused f fd) (z_isinstance : mg "isinstance" = none) (z_ValueError : mg "ValueError" = none) (e_CoverError : mg "CoverError" = some (.ref C_CoverError)) (v_NoAmount_CoverError : PySem.W.exmOne K (.ref C_NoAmount) (.ref C_CoverError) = some true) (c_read_cents : MH.Fn1E P w K mg base "read_cents" 2 ["text"] (sp_read_cents K C_NoAmount)) (e_NoAmount : mg "NoAmount" = some (.ref C_NoAmount)) (w_NoAmount : ExcC K C_NoAmount) (q_NoAmount_NoAmount : PySem.W.kitOne K (.ref C_NoAmount) (.ref C_NoAmount) = some true) (q_NoAmount_ValueError : PySem.W.kitOne K (.ref C_NoAmount) (.type "ValueError") = some true) (c__law_other : Fn1H0 P w K mg base "_law_other" 1 ["_law_e"] (sp__law_other K C_NoAmount)) : FnOk P w K mg base CX0 3 f fd ["_law_thing"] (sp__law_refused K) := by
  refine fn_m F sc__law_refused (fun x => rfl) (fun x _ => rfl) fun cdv A outer s H E hr x hx => ?_
  obtain ⟨thing, r⟩ := x
  replace hx : M__law_refused thing = some r := hx
  have nd := sc__law_refused.nd
  unfold M__law_refused at hx
  show MS _ [some (.fz thing), none] _ _
  replace hx := bd_some hx
  obtain ⟨o2, ho2, hx⟩ := hx
  refine ms_cons (m_tryO (i := 1) (out := o2) (fun p1 => [some (.fz thing), none]) (t_Xc C_NoAmount) (fun r => .fz (.bl r)) nd rfl rfl ⟨rfl, by decide, .inl e_CoverError⟩ (by intro _ _ z; cases z) (fun e => by cases e <;> rfl) (fun pn xe po => ?_) (fun _ e => ?_) (fun _ e => ?_) (fun q e => ?_) (fun e _ => (by cases e with | NoAmount => exact v_NoAmount_CoverError)) (fun xe e a oe pn hz hf => ?_) (fun p1 τ e le => ?_))
  · replace hx := ho2
    show MS _ [some (.fz thing), none] _ _
    rcases bdo_some hx with ⟨xe4, hv3, hx⟩ | ⟨v3, hv3, hx⟩
    · refine ms_one (m_rzDrop (ps_expr pe_w) (mz_fn (MH.Fn1E.weak c_read_cents) (thing, .er xe4) (ma_fz (me_var (pv 0) rfl) ma_nil) hv3 (hr.mono (by decide))) ?_)
      cases hx; exact ⟨_, rfl, rfl⟩
    refine ms_one (m_expr (ps_expr pe_w) (me_fn (MH.Fn1E.ok c_read_cents) (thing, .ok v3) (ma_fz (me_var (pv 0) rfl) ma_nil) ⟨hv3, (by intro _ z; cases z)⟩ (hr.mono (by decide))) ?_)
    cases hx; exact ⟨_, rfl, le_auto⟩
  · subst e; cases hx
  · subst e; cases hx
  · subst e; dsimp only [tryR] at hx; cases hx; rfl
  · subst e
    dsimp only [tryR] at hx
    show MS _ [none, some (.pt a)] _ _
    replace hx := bd_some hx
    obtain ⟨v8, hv8, hx⟩ := hx
    refine ms_one (m_ret (ps_ret pe_w) (ME.r (ME.isB (me_and (show ME _ _ _ (.fz (.bl true)) from by cases xe with | NoAmount => exact me_isiE w_NoAmount hz hf rfl z_isinstance e_NoAmount (pv 1) rfl q_NoAmount_NoAmount) fun q9 => (by have hx := cond_t hv8 q9; replace hx := bd_some hx; obtain ⟨v6, hv6, hx⟩ := hx; first | (cases hx; exact (ME.isB (me_and (show ME _ _ _ (.fz (.bl true)) from by cases xe with | NoAmount => exact me_isiEB w_NoAmount hz hf rfl z_isinstance (pe_bltn (v := .ty "ValueError") (by rfl) z_ValueError (by decide +kernel) rfl) (pv 1) rfl q_NoAmount_ValueError) fun q7 => (by have hx := cond_t hv6 q7; replace hx := bd_some hx; obtain ⟨v5, hv5, hx⟩ := hx; cases hx; exact (me_one (me_not (show ME _ _ _ (.fz (.bl v5)) from by cases xe with | NoAmount => exact me_fnH0 c__law_other v5 hz hf (pv 1) rfl ⟨hv5, hz, hf⟩ (L2H.roomH_of (hr.mono (by decide)))))))) (and_c hv6))) | (injection hx with hx; subst hx; exact (ME.isB (me_and (show ME _ _ _ (.fz (.bl true)) from by cases xe with | NoAmount => exact me_isiEB w_NoAmount hz hf rfl z_isinstance (pe_bltn (v := .ty "ValueError") (by rfl) z_ValueError (by decide +kernel) rfl) (pv 1) rfl q_NoAmount_ValueError) fun q7 => (by have hx := cond_t hv6 q7; replace hx := bd_some hx; obtain ⟨v5, hv5, hx⟩ := hx; cases hx; exact (me_one (me_not (show ME _ _ _ (.fz (.bl v5)) from by cases xe with | NoAmount => exact me_fnH0 c__law_other v5 hz hf (pv 1) rfl ⟨hv5, hz, hf⟩ (L2H.roomH_of (hr.mono (by decide)))))))) (and_c hv6))))) (and_c hv8))) ?_)
    cases hx; exact ⟨rfl, fun _ h => nomatch h⟩
  · subst e
    dsimp only [tryR] at hx
    refine ms_le le ?_
    show MS _ [some (.fz thing), none] _ _
    refine ms_one (m_ret (ps_ret pe_w) (ME.r me_bl) ?_)
    cases hx; rfl
theorem ok_all_figures_h {f : Addr} {fd : FuncData} (F : Fun K "all_figures" "all_figures" s_all_figures f fd) (g_FIGURES : mg "FIGURES" = some (.str "0123456789" tkFIGURES)) : L2H.FnH P w K mg base CX0 1 f fd ["text"] (sp_all_figures K) := by
  refine fn_mHot F sc_all_figures (fun x => rfl) (fun x _ => rfl) fun cdv A outer s H E p hotc hr x hx => ?_
  obtain ⟨text, r⟩ := x
  replace hx : M_all_figures text = some r := hx
  have nd := sc_all_figures.nd
  unfold M_all_figures at hx
  show MS _ [some (.fz (.str text)), none] _ _
  replace hx := bd_some hx
  obtain ⟨o3, ho3, hx⟩ := hx
  refine ms_cons (m_forO (xs := text.cps.toList) (enc := (fun c => D.str ⟨#[c]⟩)) (L2H.ps_forH PassesOwn.never hotc (L2H.pi_strH pe_w) (pg_name (i := 1) nd rfl (Or.inl rfl)) pss_w) (by exact (mi_strT (me_var (pv 0) rfl))) ho3 (fun p1 => [some (.fz (.str text)), none]) (fun r => .fz (.bl r)) le_auto (fun x2 p1 p1o mx hx => ?_) (fun p1 τ e le => ?_) fun q e => ?_)
  ·
    refine ⟨_, _, mg_name, ?_⟩
    show MS _ [some (.fz (.str text)), some (.fz (.str (sg1 x2)))] _ _
    refine ms_one (m_if (t := (!decide (x2 ∈ ("0123456789" : Str).cps.toList))) (mt_niS (me_var (pv 1) rfl) (me_gS g_FIGURES)) (fun h => ?_) fun h => ms_nil ?_)
    · replace hx := cond_t hx h
      refine ms_one (m_ret (ps_ret pe_w) (ME.r me_bl) ?_)
      cases hx; exact ⟨_, rfl, rfl⟩
    replace hx := cond_f hx h
    cases hx; exact ⟨_, rfl, le_auto⟩
  · subst e
    dsimp only [ouR] at hx
    refine ms_le le ?_
    show MS _ [some (.fz (.str text)), none] _ _
    refine ms_one (m_ret (ps_ret pe_w) (ME.r me_bl) ?_)
    cases hx; rfl
  · subst e; cases hx; rfl

theorem ok_read_cents_h {f : Addr} {fd : FuncData} (F : Fun K "read_cents" "read_cents" s_read_cents f fd) (z_isinstance : mg "isinstance" = none) (z_str : mg "str" = none) (z_len : mg "len" = none) (z_int : mg "int" = none) (x_NoAmount : XcC K mg "NoAmount" C_NoAmount) (c_all_figures_h : Fn1Hot CX0 P w K mg base "all_figures" 1 ["text"] (sp_all_figures K)) : L2H.FnH P w K mg base (L2.CX P w) 2 f fd ["text"] (sp_read_cents K C_NoAmount) := by
  refine fn_mEHot F sc_read_cents (fun x => rfl) (fun x _ => exO_nv (fun _ => rfl) x.2) fun cdv A outer s H E p hotc hr x hx => ?_
  obtain ⟨text, r⟩ := x
  replace hx : M_read_cents text = some r := hx
  have nd := sc_read_cents.nd
  unfold M_read_cents at hx
  show MS _ [some (.fz text), none, none, none] _ _
  replace hx := bd_some hx
  obtain ⟨k1, hk1, hx⟩ := hx
  refine ms_cons (m_if (t := (!k1)) (mt_not (mt_val (me_isiD (T := "str") hk1 (by rfl) z_isinstance (pe_bltn (v := .ty "str") (by rfl) z_str (by decide +kernel) rfl) (mv_var (pv 0) rfl)))) (fun h => ?_) fun h => ms_nil ?_)
  · replace hx := cond_t hx h
    refine ms_one (m_raiseH hotc (MH.pm_own x_NoAmount) ?_)
    cases hx; rfl
  replace hx := cond_f hx h
  replace hx := bd_some hx
  obtain ⟨v2, hv2, hx⟩ := hx
  replace hx := gd_some hx
  obtain ⟨g3, hx⟩ := hx
  refine ms_cons (m_tgt (ps_asg pe_w (L2H.pg_tupH (n := 3) hotc (pgs_cons (pg_name (i := 1) nd rfl (Or.inl rfl)) (pgs_cons (pg_name (i := 2) nd rfl (Or.inl rfl)) (pgs_cons (pg_name (i := 3) nd rfl (Or.inl rfl)) pgs_nil))))) (me_partition (ME.is (o' := .fz (.str v2)) (me_var (pv 0) rfl) (asS_is hv2)) me_str rfl g3) (mg_tup (mgs_cons mg_name (mgs_cons mg_name (mgs_cons mg_name mgs_nil))) rfl) ?_)
  show MS _ [some (.fz text), some (.fz (.str ((Txt.partition v2 ("." : Str)).1))), some (.fz (.str ((Txt.partition v2 ("." : Str)).2.1))), some (.fz (.str ((Txt.partition v2 ("." : Str)).2.2)))] _ _
  replace hx := bd_some hx
  obtain ⟨v8, hv8, hx⟩ := hx
  refine ms_cons (m_if (t := v8) (MW.t (MW.is (mw_or (mt_eqS (me_var (pv 2) rfl) me_str) fun q9 => (by have hx := cond_f hv8 q9; replace hx := gd_some hx; obtain ⟨g4, hx⟩ := hx; replace hx := bd_some hx; obtain ⟨v6, hv6, hx⟩ := hx; first | (cases hx; exact (MW.is (mw_or (mt_neI (me_lenS (by rfl) z_len (me_var (pv 3) rfl) g4) me_int) fun q7 => (by have hx := cond_f hv6 q7; replace hx := bd_some hx; obtain ⟨v5, hv5, hx⟩ := hx; cases hx; exact (mw_or1 (mt_not (mt_val (me_fnHot c_all_figures_h hotc ((Txt.partition v2 ("." : Str)).2.2, v5) (ma_fz (me_var (pv 3) rfl) ma_nil) hv5 (hr.mono (by decide)))))))) (or_c hv6))) | (injection hx with hx; subst hx; exact (MW.is (mw_or (mt_neI (me_lenS (by rfl) z_len (me_var (pv 3) rfl) g4) me_int) fun q7 => (by have hx := cond_f hv6 q7; replace hx := bd_some hx; obtain ⟨v5, hv5, hx⟩ := hx; cases hx; exact (mw_or1 (mt_not (mt_val (me_fnHot c_all_figures_h hotc ((Txt.partition v2 ("." : Str)).2.2, v5) (ma_fz (me_var (pv 3) rfl) ma_nil) hv5 (hr.mono (by decide)))))))) (or_c hv6))))) (or_c hv8))) (fun h => ?_) fun h => ms_nil ?_)
  · replace hx := cond_t hx h
    refine ms_one (m_raiseH hotc (MH.pm_own x_NoAmount) ?_)
    cases hx; rfl
  replace hx := cond_f hx h
  replace hx := gd_some hx
  obtain ⟨g10, hx⟩ := hx
  replace hx := bd_some hx
  obtain ⟨v15, hv15, hx⟩ := hx
  refine ms_cons (m_if (t := v15) (MW.t (MW.is (mw_or (mt_lt (me_lenS (by rfl) z_len (me_var (pv 1) rfl) g10) me_int) fun q16 => (by have hx := cond_f hv15 q16; replace hx := gd_some hx; obtain ⟨g11, hx⟩ := hx; replace hx := bd_some hx; obtain ⟨v13, hv13, hx⟩ := hx; first | (cases hx; exact (MW.is (mw_or (mt_gt (me_lenS (by rfl) z_len (me_var (pv 1) rfl) g11) me_int) fun q14 => (by have hx := cond_f hv13 q14; replace hx := bd_some hx; obtain ⟨v12, hv12, hx⟩ := hx; cases hx; exact (mw_or1 (mt_not (mt_val (me_fnHot c_all_figures_h hotc ((Txt.partition v2 ("." : Str)).1, v12) (ma_fz (me_var (pv 1) rfl) ma_nil) hv12 (hr.mono (by decide)))))))) (or_c hv13))) | (injection hx with hx; subst hx; exact (MW.is (mw_or (mt_gt (me_lenS (by rfl) z_len (me_var (pv 1) rfl) g11) me_int) fun q14 => (by have hx := cond_f hv13 q14; replace hx := bd_some hx; obtain ⟨v12, hv12, hx⟩ := hx; cases hx; exact (mw_or1 (mt_not (mt_val (me_fnHot c_all_figures_h hotc ((Txt.partition v2 ("." : Str)).1, v12) (ma_fz (me_var (pv 1) rfl) ma_nil) hv12 (hr.mono (by decide)))))))) (or_c hv13))))) (or_c hv15))) (fun h => ?_) fun h => ms_nil ?_)
  · replace hx := cond_t hx h
    refine ms_one (m_raiseH hotc (MH.pm_own x_NoAmount) ?_)
    cases hx; rfl
  replace hx := cond_f hx h
  replace hx := bd_some hx
  obtain ⟨c17, hc17, hx⟩ := hx
  replace hx := gd_some hx
  obtain ⟨g18, hx⟩ := hx
  replace hx := bd_some hx
  obtain ⟨v20, hv20, hx⟩ := hx
  refine ms_cons (m_if (t := v20) (MW.t (MW.is (mw_and (mt_eqS (me_ixS (me_var (pv 1) rfl) me_int g18 hc17) me_str) fun q21 => (by have hx := cond_t hv20 q21; replace hx := gd_some hx; obtain ⟨g19, hx⟩ := hx; cases hx; exact (mw_and1 (mt_gt (me_lenS (by rfl) z_len (me_var (pv 1) rfl) g19) me_int)))) (and_c hv20))) (fun h => ?_) fun h => ms_nil ?_)
  · replace hx := cond_t hx h
    refine ms_one (m_raiseH hotc (MH.pm_own x_NoAmount) ?_)
    cases hx; rfl
  replace hx := cond_f hx h
  replace hx := bd_some hx
  obtain ⟨n22, hn22, hx⟩ := hx
  replace hx := gd_some hx
  obtain ⟨g23, hx⟩ := hx
  replace hx := bd_some hx
  obtain ⟨n24, hn24, hx⟩ := hx
  replace hx := gd_some hx
  obtain ⟨g25, hx⟩ := hx
  refine ms_one (m_ret (ps_ret pe_w) (ME.r (me_add (me_mul (me_intS (by rfl) z_int (me_var (pv 1) rfl) hn22 g23) me_int (.inr ⟨by decide, by decide⟩)) (me_intS (by rfl) z_int (me_var (pv 3) rfl) hn24 g25))) ?_)
  cases hx; rfl

theorem ok__law_refused_h {f : Addr} {fd : FuncData} (F : Fun K "_law_refused" "_law_refused" s__law_refused f fd) (z_isinstance : mg "isinstance" = none) (z_ValueError : mg "ValueError" = none) (e_CoverError : mg "CoverError" = some (.ref C_CoverError)) (v_NoAmount_CoverError : PySem.W.exmOne K (.ref C_NoAmount) (.ref C_CoverError) = some true) (c_read_cents_h : Fn1Hot (L2.CX P w) P w K mg base "read_cents" 2 ["text"] (sp_read_cents K C_NoAmount)) (e_NoAmount : mg "NoAmount" = some (.ref C_NoAmount)) (w_NoAmount : ExcC K C_NoAmount) (q_NoAmount_NoAmount : PySem.W.kitOne K (.ref C_NoAmount) (.ref C_NoAmount) = some true) (q_NoAmount_ValueError : PySem.W.kitOne K (.ref C_NoAmount) (.type "ValueError") = some true) (c__law_other : Fn1H0 P w K mg base "_law_other" 1 ["_law_e"] (sp__law_other K C_NoAmount)) : L2H.FnH P w K mg base CX0 3 f fd ["_law_thing"] (sp__law_refused K) := by
  refine fn_mHot F sc__law_refused (fun x => rfl) (fun x _ => rfl) fun cdv A outer s H E p hotc hr x hx => ?_
  obtain ⟨thing, r⟩ := x
  replace hx : M__law_refused thing = some r := hx
  have nd := sc__law_refused.nd
  unfold M__law_refused at hx
  show MS _ [some (.fz thing), none] _ _
  replace hx := bd_some hx
  obtain ⟨o2, ho2, hx⟩ := hx
  refine ms_cons (m_tryOH (i := 1) (out := o2) (fun p1 => [some (.fz thing), none]) (t_Xc C_NoAmount) (fun r => .fz (.bl r)) nd rfl rfl ⟨rfl, by decide, .inl e_CoverError⟩ (by intro _ _ z; cases z) (fun e => by cases e <;> rfl) (fun pn xe hq po => ?_) (fun _ e => ?_) (fun _ e => ?_) (fun q e => ?_) (fun e _ => (by cases e with | NoAmount => exact v_NoAmount_CoverError)) (fun xe e a oe pn hz hf => ?_) (fun p1 τ e le => ?_))
  · replace hx := ho2
    show MS _ [some (.fz thing), none] _ _
    rcases bdo_some hx with ⟨xe4, hv3, hx⟩ | ⟨v3, hv3, hx⟩
    · refine ms_one (m_rzDrop (ps_expr pe_w) (mz_fnHot c_read_cents_h (hotc.tr hq) (thing, .er xe4) (ma_fz (me_var (pv 0) rfl) ma_nil) hv3 (hr.mono (by decide))) ?_)
      cases hx; exact ⟨_, rfl, rfl⟩
    refine ms_one (m_expr (ps_expr pe_w) (mk_fnHot c_read_cents_h (hotc.tr hq) (thing, .ok v3) (ma_fz (me_var (pv 0) rfl) ma_nil) hv3 (hr.mono (by decide)) (by intro _ z; cases z)) ?_)
    cases hx; exact ⟨_, rfl, le_auto⟩
  · subst e; cases hx
  · subst e; cases hx
  · subst e; dsimp only [tryR] at hx; cases hx; rfl
  · subst e
    dsimp only [tryR] at hx
    show MS _ [none, some (.pt a)] _ _
    replace hx := bd_some hx
    obtain ⟨v8, hv8, hx⟩ := hx
    refine ms_one (m_ret (ps_ret pe_w) (ME.r (ME.isB (me_and (show ME _ _ _ (.fz (.bl true)) from by cases xe with | NoAmount => exact me_isiE w_NoAmount hz hf rfl z_isinstance e_NoAmount (pv 1) rfl q_NoAmount_NoAmount) fun q9 => (by have hx := cond_t hv8 q9; replace hx := bd_some hx; obtain ⟨v6, hv6, hx⟩ := hx; first | (cases hx; exact (ME.isB (me_and (show ME _ _ _ (.fz (.bl true)) from by cases xe with | NoAmount => exact me_isiEB w_NoAmount hz hf rfl z_isinstance (pe_bltn (v := .ty "ValueError") (by rfl) z_ValueError (by decide +kernel) rfl) (pv 1) rfl q_NoAmount_ValueError) fun q7 => (by have hx := cond_t hv6 q7; replace hx := bd_some hx; obtain ⟨v5, hv5, hx⟩ := hx; cases hx; exact (me_one (me_not (show ME _ _ _ (.fz (.bl v5)) from by cases xe with | NoAmount => exact me_fnH0 c__law_other v5 hz hf (pv 1) rfl ⟨hv5, hz, hf⟩ (hr.mono (by decide))))))) (and_c hv6))) | (injection hx with hx; subst hx; exact (ME.isB (me_and (show ME _ _ _ (.fz (.bl true)) from by cases xe with | NoAmount => exact me_isiEB w_NoAmount hz hf rfl z_isinstance (pe_bltn (v := .ty "ValueError") (by rfl) z_ValueError (by decide +kernel) rfl) (pv 1) rfl q_NoAmount_ValueError) fun q7 => (by have hx := cond_t hv6 q7; replace hx := bd_some hx; obtain ⟨v5, hv5, hx⟩ := hx; cases hx; exact (me_one (me_not (show ME _ _ _ (.fz (.bl v5)) from by cases xe with | NoAmount => exact me_fnH0 c__law_other v5 hz hf (pv 1) rfl ⟨hv5, hz, hf⟩ (hr.mono (by decide))))))) (and_c hv6))))) (and_c hv8))) ?_)
    cases hx; exact ⟨rfl, fun _ h => nomatch h⟩
  · subst e
    dsimp only [tryR] at hx
    refine ms_le le ?_
    show MS _ [some (.fz thing), none] _ _
    refine ms_one (m_ret (ps_ret pe_w) (ME.r me_bl) ?_)
    cases hx; rfl
noncomputable def M__law_taken (text_here : Str) : Option Bool :=
  bd (M__law_read text_here) fun v1 =>
  lt (-(1 : Int)) fun found =>
  trT (M_read_cents (.str text_here)) (fun v2 =>
  bd (cond (decide (0 ≤ v1)) (bd (M__law_whole (.int v2)) fun v7 => some (v7 && ((v2 == v1)))) (some false)) fun v8 =>
  some v8) (bd (cond (decide (v1 < 0)) (bd (M__law_refused (.str text_here)) fun v4 => some v4) (some false)) fun v5 =>
    some v5)
def sp__law_taken (K : PySem.W.Frag) : Sp := SpF K (fun x : Str => [.fz (.str x)]) (fun x => M__law_taken x) (fun r => .fz (.bl r))
abbrev N__law_taken : List Str := ["_law_text_here", "_law_due", "_law_found"]
theorem sc__law_taken : FnScope N__law_taken ["_law_text_here"] (defScope s__law_taken) := ⟨rfl, rfl, rfl, by decide +kernel, rfl, by decide +kernel, by decide +kernel⟩
theorem ok__law_taken {f : Addr} {fd : FuncData} (F : Fun K "_law_taken" "_law_taken" s__law_taken f fd) (c__law_read : Fn1 P w K mg base "_law_read" 1 ["_law_text_here"] (sp__law_read K)) (c_read_cents : MH.Fn1E P w K mg base "read_cents" 2 ["text"] (sp_read_cents K C_NoAmount)) (e_NoAmount : mg "NoAmount" = some (.ref C_NoAmount)) (v_NoAmount_NoAmount : PySem.W.exmOne K (.ref C_NoAmount) (.ref C_NoAmount) = some true) (c__law_refused_h : Fn1Hot CX0 P w K mg base "_law_refused" 3 ["_law_thing"] (sp__law_refused K)) (c__law_whole : Fn1 P w K mg base "_law_whole" 1 ["_law_found"] (sp__law_whole K)) : FnOk P w K mg base CX0 4 f fd ["_law_text_here"] (sp__law_taken K) := by
  refine fn_m F sc__law_taken (fun x => rfl) (fun x _ => rfl) fun cdv A outer s H E hr x hx => ?_
  obtain ⟨text_here, r⟩ := x
  replace hx : M__law_taken text_here = some r := hx
  have nd := sc__law_taken.nd
  unfold M__law_taken at hx
  show MS _ [some (.fz (.str text_here)), none, none] _ _
  replace hx := bd_some hx
  obtain ⟨v1, hv1, hx⟩ := hx
  refine ms_cons (m_set (ps_set (i := 1) nd rfl (Or.inl rfl) pe_w) (me_fn c__law_read (text_here, v1) (ma_fz (me_var (pv 0) rfl) ma_nil) hv1 (hr.mono (by decide))) ?_)
  show MS _ [some (.fz (.str text_here)), some (.fz (.int v1)), none] _ _
  replace hx := lt_some hx
  obtain ⟨found, efound, hx⟩ := hx
  refine ms_cons (m_set (ps_set (i := 2) nd rfl (Or.inl rfl) pe_w) (ME.is (o' := (.fz (.int found))) (me_neg me_int) (by rw [efound] <;> rfl)) ?_)
  show MS _ [some (.fz (.str text_here)), some (.fz (.int v1)), some (.fz (.int found))] _ _
  rcases trT_some hx with ⟨xe3, hv2, hx⟩ | ⟨v2, hv2, hx⟩
  · refine ms_cons (m_tryT (hset := fun pn xe t h => ps_set (i := 2) nd rfl (Or.inl rfl) h) c_read_cents ((.str text_here), .er xe3) (fun pn xe => (ma_fz (me_var (pv 0) rfl) ma_nil)) hv2 rfl (by cases xe3; rfl) (show PySem.W.exmOne K (.ref ((t_Xc C_NoAmount) xe3).C) (.ref C_NoAmount) = some true from by cases xe3 with | NoAmount => exact v_NoAmount_NoAmount) ⟨rfl, by decide, .inl e_NoAmount⟩ (fun hd => PassesOwnAt.never) (hr.mono (by decide)) (fun a oe pn hotc => ?_))
    show MS _ [some (.fz (.str text_here)), some (.fz (.int v1)), some (.fz (.int found))] _ _
    replace hx := bd_some hx
    obtain ⟨v5, hv5, hx⟩ := hx
    refine ms_one (m_ret (ps_ret pe_w) (ME.r (ME.isB (me_and (me_lt (me_var (pv 1) rfl) me_int) fun q6 => (by have hx := cond_t hv5 q6; replace hx := bd_some hx; obtain ⟨v4, hv4, hx⟩ := hx; first | (cases hx; exact (me_one (me_fnHot c__law_refused_h hotc (((.str text_here), v4)) (ma_fz (me_var (pv 0) rfl) ma_nil) hv4 (L2H.roomH_mark (hr.mono (by decide)) _)))) | (injection hx with hx; subst hx; exact (me_one (me_fnHot c__law_refused_h hotc (((.str text_here), v4)) (ma_fz (me_var (pv 0) rfl) ma_nil) hv4 (L2H.roomH_mark (hr.mono (by decide)) _)))))) (and_c hv5))) ?_)
    cases hx; exact ⟨rfl, fun _ h => nomatch h⟩
  refine ms_cons (m_tryK ?_)
  refine ms_one (m_set (ps_set (i := 2) nd rfl (Or.inl rfl) pe_w) (me_fn (MH.Fn1E.ok c_read_cents) ((.str text_here), .ok v2) (ma_fz (me_var (pv 0) rfl) ma_nil) ⟨hv2, (by intro _ z; cases z)⟩ (hr.mono (by decide))) ?_)
  replace hx := bd_some hx
  obtain ⟨v8, hv8, hx⟩ := hx
  refine ms_one (m_ret (ps_ret pe_w) (ME.r (ME.isB (me_and (me_ge (me_var (pv 1) rfl) me_int) fun q9 => (by have hx := cond_t hv8 q9; replace hx := bd_some hx; obtain ⟨v7, hv7, hx⟩ := hx; cases hx; exact (me_and (me_fn c__law_whole ((.int v2), v7) (ma_fz (me_var (pv 2) rfl) ma_nil) hv7 (hr.mono (by decide))) fun _ => (me_one (me_eqI (me_var (pv 2) rfl) (me_var (pv 1) rfl)))))) (and_c hv8))) ?_)
  cases hx; rfl
abbrev e_T_s (p : Str) : D := .tup [.str p]
noncomputable def M_law (script : (List Int)) : Option Bool :=
  bd (lpO (fun (x2 : Nat) (p1 : Unit) => (bd (M__law_cell script (3 * (x2 : Int))) fun v4 =>
    bd (M__law_cell script ((3 * (x2 : Int)) + 1)) fun v5 =>
    bd (M__law_text v4 (v5 % 1000003)) fun v6 =>
    bd (M__law_taken v6) fun v7 =>
    cond (!v7) (some (.rt false)) <|
    bd (M__law_cell script ((3 * (x2 : Int)) + 2)) fun v8 =>
    bd (M__law_spoilt v6 (v8 % 1000003)) fun v9 =>
    bd (M__law_taken v9) fun v10 =>
    cond (!v10) (some (.rt false)) <|
    some (.nx ()) : Option (Ou (Unit) (Unit) Bool))) (List.range (20 : Int).toNat) ()) fun o3 => ouR o3 fun p1 =>
  lt ([(.non), (.bl true), (.bl false), (.int (5 : Int)), (.lst ([("1.00" : Str)].map D.str)), (e_T_s ("1.00" : Str)), (.dct [] [] : D), (.int (-(12 : Int))), (.lst [] : D)] : (List D)) fun things =>
  bd (M__law_cell script (1 : Int)) fun v11 =>
  bd (L2.atI things (v11 % 9)) fun v12 =>
  bd (M__law_refused v12) fun v13 =>
  bd (cond (!v13) (some true) (bd (M__law_refused (.str ("" : Str))) fun v14 => bd (cond (!v14) (some true) (bd (M__law_refused (.str ("." : Str))) fun v15 => some (!v15))) fun v16 => some v16)) fun v18 =>
  cond v18 (some false) <|
  bd (M_is_whole v12) fun v20 =>
  bd (cond (!true) (some true) (bd (M__law_whole v12) fun v21 => bd (cond (!(v20 == v21)) (some true) (bd (M_is_whole (.str ("1" : Str))) fun v22 => some (!decide (v22 = false)))) fun v23 => some v23)) fun v25 =>
  cond v25 (some false) <|
  bd (M__law_taken ("0.00" : Str)) fun v27 =>
  bd (cond v27 (bd (M__law_taken ("9999999999.99" : Str)) fun v28 => bd (cond v28 (bd (M__law_taken ("10000000000.00" : Str)) fun v29 => some v29) (some false)) fun v30 => some v30) (some false)) fun v32 =>
  some v32
open SX TL
def Sm (x : Str) (n : Nat) : Prop := x.length ≤ n ∧ x.cps.toList.all (· < 128) = true
theorem Sm.mono {x : Str} {n m : Nat} (h : Sm x n) (l : n ≤ m) : Sm x m := ⟨Nat.le_trans h.1 l, h.2⟩
def Lc (x : Str) (n : Nat) : Prop := x.length ≤ n ∧ x.cps.toList.all (fun c => 97 ≤ c && c ≤ 122) = true
theorem Lc.mono {x : Str} {n m : Nat} (h : Lc x n) (l : n ≤ m) : Lc x m := ⟨Nat.le_trans h.1 l, h.2⟩
theorem strI_n (n : Nat) : strI (n : Int) = S (numL n) := num_S n
theorem lg_of {m : Int} (h : m.natAbs < 2 ^ 250) : m.natAbs.log2 < 1920 := Nat.lt_of_lt_of_le (PySem.Flt.log2_lt_of (k := 250) (by decide) h) (by decide)
theorem dot_S : ((".") : Str) = S [46] := by decide +kernel
open SX TL
theorem sz {n : Nat} (h : n ≤ 1001) : n ≤ sizeLine := Nat.le_trans h (by show 1001 ≤ 16777216; decide)
theorem str_is (t : Str) : isiD "str" (.str t) = some true := (by decide +kernel : kitB "str" "str" = some true)
theorem lp_all {R : Type} (F : List Nat) (r : R) : ∀ cs : List Nat, lpO (fun (x6 : Nat) (_ : Unit) => (cond (!decide (x6 ∈ F)) (some (.rt r)) <| some (.nx ()) : Option (Ou (Unit) (Unit) R))) cs () = some (if cs.all (fun c => decide (c ∈ F)) then .nx () else .rt r)
  | [] => rfl
  | c :: cs => by
    show bd (cond (!decide (c ∈ F)) _ _) _ = _
    rw [List.all_cons]
    by_cases h : c ∈ F
    · rw [decide_eq_true h, Bool.true_and]
      exact lp_all F r cs
    · rw [decide_eq_false h, Bool.false_and]
      rfl
abbrev FIG : List Nat := ("0123456789" : Str).cps.toList
def figB (x : Str) : Bool := x.cps.toList.all fun c => decide (c ∈ FIG)
theorem figs_is (x : Str) : M_all_figures x = some (figB x) := by
  unfold M_all_figures
  rw [lp_all, bd_of rfl]
  unfold figB
  cases (x.cps.toList.all fun c => decide (c ∈ FIG)) <;> rfl
theorem sg0 {c : Nat} : (sg1 c == ("0" : Str)) = decide (c = 48) := by
  by_cases h : c = 48
  · subst h
    rw [decide_eq_true rfl]
    decide +kernel
  · rw [decide_eq_false h, beq_eq_false_iff_ne]
    intro q
    have z : (("0") : Str) = S [48] := by decide +kernel
    rw [z] at q
    have := S_inj (a := [c]) (b := [48]) q
    exact h (by simpa using this)

theorem fig_iff {c : Nat} : decide (c ∈ FIG) = (decide (48 ≤ c) && decide (c ≤ 57)) := by
  have e : FIG = [48, 49, 50, 51, 52, 53, 54, 55, 56, 57] := by decide +kernel
  rw [e, ← Bool.decide_and]
  congr 1
  simp only [List.mem_cons, List.not_mem_nil, or_false, eq_iff_iff]
  omega
theorem figB_S (l : List Nat) : figB (S l) = l.all fun c => decide (48 ≤ c) && decide (c ≤ 57) := by
  show (l.all fun c => decide (c ∈ FIG)) = _
  exact congrArg (fun f => l.all f) (funext fun c => fig_iff)
/-- the parts of a text that writes no amount -/
def badP (w s b : List Nat) : Bool := s.isEmpty || (!(b.length == 2) || (!(figB (S b)) || (decide (w.length < 1) || (decide (10 < w.length) || (!(figB (S w)) || (decide (w[0]? = some 48) && decide (1 < w.length)))))))
theorem rd_steps {x : Str} {w s b : List Nat} (e : Txt.partition x (".") = (S w, S s, S b)) (lx : x.length ≤ 100) (lw : w.length ≤ 100) (lb : b.length ≤ 100) :
    (badP w s b = true → M_read_cents (.str x) = some (.er .NoAmount)) ∧ ∀ n1 n2 : Int, badP w s b = false → intText? (S w) = some n1 → intText? (S b) = some n2 → M_read_cents (.str x) = some (.ok (n1 * 100 + n2)) := by
  have lw2 : (S w).length = w.length := S_len _
  have lb2 : (S b).length = b.length := S_len _
  have es : (S s == ("" : Str)) = s.isEmpty := by
    have z : ("" : Str) = S [] := by decide +kernel
    rw [z]
    cases s with
    | nil => rw [beq_self_eq_true]; rfl
    | cons c r => exact beq_eq_false_iff_ne.mpr fun q => by have := S_inj q; cases this
  have eb : (!(((S b).length : Int) == 2)) = !(b.length == 2) := by
    rw [lb2]
    congr 1
    by_cases q : b.length = 2
    · rw [q]; rfl
    · rw [beq_eq_false_iff_ne.mpr q, beq_eq_false_iff_ne]; omega
  have c1 : decide (((S w).length : Int) < 1) = decide (w.length < 1) := by
    rw [lw2]
    by_cases q : w.length < 1
    · rw [decide_eq_true q]; exact decide_eq_true (by omega)
    · rw [decide_eq_false q]; exact decide_eq_false (by omega)
  have c2 : decide (10 < ((S w).length : Int)) = decide (10 < w.length) := by
    rw [lw2]
    by_cases q : 10 < w.length
    · rw [decide_eq_true q]; exact decide_eq_true (by omega)
    · rw [decide_eq_false q]; exact decide_eq_false (by omega)
  have c3 : decide (1 < ((S w).length : Int)) = decide (1 < w.length) := by
    rw [lw2]
    by_cases q : 1 < w.length
    · rw [decide_eq_true q]; exact decide_eq_true (by omega)
    · rw [decide_eq_false q]; exact decide_eq_false (by omega)
  have zw : (S w).length ≤ sizeLine := sz (by omega)
  have zb : (S b).length ≤ sizeLine := sz (by omega)
  have key : ∀ (P : Xr Xc Int → Prop), (badP w s b = true → P (.er .NoAmount)) → (∀ n1 n2 : Int, badP w s b = false → intText? (S w) = some n1 → intText? (S b) = some n2 → P (.ok (n1 * 100 + n2))) → (badP w s b = false → ∃ n1 n2 : Int, intText? (S w) = some n1 ∧ intText? (S b) = some n2) → Ok (M_read_cents (.str x)) P := by
    intro P h1 h2 h3
    unfold M_read_cents
    rw [bd_of (str_is x)]
    refine ok_f rfl ?_
    rw [bd_of (show asS (.str x) = some x from rfl), e]
    refine ok_gd (sz (by omega)) ?_
    rw [figs_is, figs_is]
    show Ok (bd (cond (S s == ("" : Str)) (some true) (gd ((S b).length ≤ sizeLine) <| bd (cond (!(((S b).length : Int) == 2)) (some true) (bd (some (figB (S b))) fun v5 => some (!v5))) fun v6 => some v6)) _) _
    rw [es, eb]
    unfold badP at h1 h2 h3
    cases q1 : s.isEmpty with
    | true => exact ok_bd (Q := fun v => v = true) (ok_some rfl) fun v hv => ok_t hv (ok_some (h1 (by rw [q1]; rfl)))
    | false =>
    rw [q1] at h1 h2 h3
    cases q2 : !(b.length == 2) with
    | true => exact ok_bd (Q := fun v => v = true) (ok_f rfl (ok_gd zb (ok_bd (Q := fun v => v = true) (ok_some rfl) fun v hv => ok_some hv))) fun v hv => ok_t hv (ok_some (h1 (by rw [q2]; rfl)))
    | false =>
    rw [q2] at h1 h2 h3
    cases q3 : !(figB (S b)) with
    | true => exact ok_bd (Q := fun v => v = true) (ok_f rfl (ok_gd zb (ok_bd (Q := fun v => v = true) (ok_f rfl (ok_some q3)) fun v hv => ok_some hv))) fun v hv => ok_t hv (ok_some (h1 (by rw [q3]; rfl)))
    | false =>
    rw [q3] at h1 h2 h3
    refine ok_bd (Q := fun v => v = false) (ok_f rfl (ok_gd zb (ok_bd (Q := fun v => v = false) (ok_f rfl (ok_some q3)) fun v hv => ok_some hv))) fun v hv => ok_f hv (ok_gd zw ?_)
    show Ok (bd (cond (decide (((S w).length : Int) < 1)) (some true) (gd ((S w).length ≤ sizeLine) <| bd (cond (decide (10 < ((S w).length : Int))) (some true) (bd (some (figB (S w))) fun v12 => some (!v12))) fun v13 => some v13)) _) _
    rw [c1, c2]
    cases q4 : decide (w.length < 1) with
    | true => exact ok_bd (Q := fun v => v = true) (ok_t rfl (ok_some rfl)) fun v hv => ok_t hv (ok_some (h1 (by rw [q4]; rfl)))
    | false =>
    rw [q4] at h1 h2 h3
    cases q5 : decide (10 < w.length) with
    | true => exact ok_bd (Q := fun v => v = true) (ok_f rfl (ok_gd zw (ok_bd (Q := fun v => v = true) (ok_t rfl (ok_some rfl)) fun v hv => ok_some hv))) fun v hv => ok_t hv (ok_some (h1 (by rw [q5]; rfl)))
    | false =>
    rw [q5] at h1 h2 h3
    cases q6 : !(figB (S w)) with
    | true => exact ok_bd (Q := fun v => v = true) (ok_f rfl (ok_gd zw (ok_bd (Q := fun v => v = true) (ok_f rfl (ok_some q6)) fun v hv => ok_some hv))) fun v hv => ok_t hv (ok_some (h1 (by rw [q6]; rfl)))
    | false =>
    rw [q6] at h1 h2 h3
    refine ok_bd (Q := fun v => v = false) (ok_f rfl (ok_gd zw (ok_bd (Q := fun v => v = false) (ok_f rfl (ok_some q6)) fun v hv => ok_some hv))) fun v hv => ok_f hv ?_
    have w0 : 0 < w.length := by have := of_decide_eq_false q4; omega
    rw [bd_of (show L2.atI (S w).cps.toList 0 = some w[0] from atI_nat (j := 0) (List.getElem?_eq_getElem w0))]
    refine ok_gd zw ?_
    rw [sg0]
    have e7 : decide (w[0]? = some 48) = decide (w[0] = 48) := by
      rw [List.getElem?_eq_getElem w0]
      by_cases q : w[0] = 48
      · rw [decide_eq_true q]; exact decide_eq_true (congrArg some q)
      · rw [decide_eq_false q]; exact decide_eq_false fun z => q (Option.some.inj z)
    rw [e7] at h1 h2 h3
    refine ok_bd (Q := fun v => v = (decide (w[0] = 48) && decide (1 < w.length))) ?_ fun v hv => ok_cond (fun hb => ok_some (h1 (by rw [← hv, hb]; rfl))) fun hb => ?_
    · show Ok (cond (decide (w[0] = 48)) (gd ((S w).length ≤ sizeLine) <| some (decide (1 < ((S w).length : Int)))) (some false)) _
      rw [c3]
      cases decide (w[0] = 48) with
      | true => exact ok_t rfl (ok_gd zw (ok_some rfl))
      | false => exact ok_f rfl (ok_some rfl)
    · have hb2 : (decide (w[0] = 48) && decide (1 < w.length)) = false := by rw [← hv, hb]
      rw [hb2] at h2 h3
      obtain ⟨n1, n2, i1, i2⟩ := h3 rfl
      show Ok (bd (intText? (S w)) _) _
      rw [bd_of i1]
      refine ok_gd (by show (S w).length ≤ 640; omega) ?_
      show Ok (bd (intText? (S b)) _) _
      rw [bd_of i2]
      exact ok_gd (by show (S b).length ≤ 640; omega) (ok_some (h2 n1 n2 rfl i1 i2))
  refine ⟨fun h => Ok.eq (key (· = _) (fun _ => rfl) (fun n1 n2 z => by rw [h] at z; cases z) (fun z => by rw [h] at z; cases z)), fun n1 n2 h i1 i2 => Ok.eq (key (· = _) (fun z => by rw [h] at z; cases z) (fun m1 m2 _ j1 j2 => by
    rw [i1] at j1
    rw [i2] at j2
    cases j1
    cases j2
    rfl) (fun _ => ⟨n1, n2, i1, i2⟩))⟩
theorem cutS_m3 {l : List Nat} (h : 3 ≤ l.length) : cutS (S l) none (some (-(3 : Int))) = S (l.take (l.length - 3)) := by
  show S ((l.drop (HT.sIx (S l).length 0 none)).take (HT.sIx (S l).length (S l).length (some (-(3 : Int))) - HT.sIx (S l).length 0 none)) = _
  have e1 : HT.sIx (S l).length 0 none = 0 := rfl
  have e2 : HT.sIx (S l).length (S l).length (some (-(3 : Int))) = l.length - 3 := by
    rw [S_len]
    unfold HT.sIx
    simp only []
    rw [if_pos (by decide)]
    omega
  rw [e1, e2, List.drop_zero, Nat.sub_zero]
theorem cutS_m2 {l : List Nat} (h : 2 ≤ l.length) : cutS (S l) (some (-(2 : Int))) none = S (l.drop (l.length - 2)) := by
  show S ((l.drop (HT.sIx (S l).length 0 (some (-(2 : Int))))).take (HT.sIx (S l).length (S l).length none - HT.sIx (S l).length 0 (some (-(2 : Int))))) = _
  have e1 : HT.sIx (S l).length (S l).length none = l.length := S_len l
  have e2 : HT.sIx (S l).length 0 (some (-(2 : Int))) = l.length - 2 := by
    rw [S_len]
    unfold HT.sIx
    simp only []
    rw [if_pos (by decide)]
    omega
  rw [e1, e2, List.take_of_length_le (by rw [List.length_drop]; omega)]
theorem atI_m3 {l : List Nat} (h : 3 ≤ l.length) : L2.atI l (-(3 : Int)) = l[l.length - 3]? := by
  unfold L2.atI L2.ixN
  rw [if_neg (by decide), if_pos (by omega)]
  show l[(-(3 : Int) + (l.length : Int)).toNat]? = _
  congr 1
  omega
theorem sg46 {c : Nat} : (sg1 c == ("." : Str)) = decide (c = 46) := by
  by_cases h : c = 46
  · subst h
    rw [decide_eq_true rfl]
    decide +kernel
  · rw [decide_eq_false h, beq_eq_false_iff_ne]
    intro q
    rw [dot_S] at q
    have := S_inj (a := [c]) (b := [46]) q
    exact h (by simpa using this)
/-- the law's own way: the third last sign is a point, the others are figures .. -/
theorem lread_steps {l : List Nat} (lx : l.length ≤ 63) (P : Int → Prop) (h1 : (l.length < 4 ∨ l[l.length - 3]? ≠ some 46) → P (-1)) (h2 : 4 ≤ l.length → l[l.length - 3]? = some 46 → figB (S (l.take (l.length - 3) ++ l.drop (l.length - 2))) = false → P (-1))
    (h3 : 4 ≤ l.length → l[l.length - 3]? = some 46 → figB (S (l.take (l.length - 3) ++ l.drop (l.length - 2))) = true → ∀ w b, l.take (l.length - 3) = w → l.drop (l.length - 2) = b → ((10 < w.length ∨ (w[0]? = some 48 ∧ 1 < w.length)) → P (-1)) ∧ (w.length ≤ 10 → ¬ (w[0]? = some 48 ∧ 1 < w.length) → ∃ n1 n2 : Int, intText? (S w) = some n1 ∧ intText? (S b) = some n2 ∧ P (n1 * 100 + n2))) : Ok (M__law_read (S l)) P := by
  have ll : (S l).length = l.length := S_len _
  unfold M__law_read
  refine ok_gd (sz (by omega)) ?_
  by_cases c1 : l.length < 4
  · exact ok_bd (Q := fun v => v = true) (ok_t (decide_eq_true (by omega)) (ok_some rfl)) fun v hv => ok_t hv (ok_some (h1 (.inl c1)))
  have l4 : 4 ≤ l.length := by omega
  have i3 : l.length - 3 < l.length := by omega
  by_cases c2 : l[l.length - 3]? = some 46
  · refine ok_bd (Q := fun v => v = false) (ok_f (decide_eq_false (by omega)) ?_) fun v hv => ok_f hv ?_
    · rw [bd_of (show L2.atI (S l).cps.toList (-(3 : Int)) = some 46 from (atI_m3 (l := l) (by omega)).trans c2)]
      exact ok_gd (sz (by omega)) (ok_some (by rw [sg46]; rfl))
    refine ok_gd (sz (by omega)) ?_
    rw [cutS_m3 (by omega), cutS_m2 (by omega)]
    have h2 := h2 l4 c2
    have h3 := h3 l4 c2
    generalize ew : l.take (l.length - 3) = w at h2 h3 ⊢
    generalize eb : l.drop (l.length - 2) = b at h2 h3 ⊢
    have lw : w.length ≤ 63 := by rw [← ew, List.length_take]; omega
    have w0 : 0 < w.length := by rw [← ew, List.length_take]; omega
    have lb : b.length ≤ 63 := by rw [← eb, List.length_drop]; omega
    have lw2 : (S w).length = w.length := S_len _
    have lb2 : (S b).length = b.length := S_len _
    refine ok_lt (ok_gd (sz (by omega)) (ok_lt (ok_gd (sz (by omega)) ?_)))
    rw [S_cat]
    show Ok (bd (lpO _ (w ++ b) ()) _) _
    rw [lp_all, bd_of rfl]
    have ef : ((w ++ b).all fun c => decide (c ∈ ("0123456789" : Str).cps.toList)) = figB (S (w ++ b)) := rfl
    rw [ef]
    cases q : figB (S (w ++ b)) with
    | false => exact ok_some (h2 q)
    | true =>
      obtain ⟨k1, k2⟩ := h3 q w b rfl rfl
      show Ok (gd ((S w).length ≤ sizeLine) _) _
      refine ok_gd (sz (by omega)) ?_
      have ea : L2.atI (S w).cps.toList 0 = some w[0] := atI_nat (j := 0) (List.getElem?_eq_getElem w0)
      have e0 : w[0]? = some w[0] := List.getElem?_eq_getElem w0
      by_cases d1 : 10 < w.length
      · exact ok_bd (Q := fun v => v = true) (ok_t (decide_eq_true (by omega)) (ok_some rfl)) fun v hv => ok_t hv (ok_some (k1 (.inl d1)))
      by_cases d2 : w[0]? = some 48 ∧ 1 < w.length
      · refine ok_bd (Q := fun v => v = true) (ok_f (decide_eq_false (by omega)) ?_) fun v hv => ok_t hv (ok_some (k1 (.inr d2)))
        rw [bd_of ea]
        have : w[0] = 48 := by rw [e0] at d2; exact Option.some.inj d2.1
        refine ok_gd (sz (by omega)) (ok_bd (Q := fun v => v = true) (ok_t (by rw [sg0, this]; rfl) (ok_gd (sz (by omega)) (ok_some (decide_eq_true (by omega))))) fun v hv => ok_some hv)
      · refine ok_bd (Q := fun v => v = false) (ok_f (decide_eq_false (by omega)) ?_) fun v hv => ok_f hv ?_
        · rw [bd_of ea]
          refine ok_gd (sz (by omega)) (ok_bd (Q := fun v => v = false) (ok_cond (fun h => ok_gd (sz (by omega)) (ok_some (decide_eq_false ?_))) fun _ => ok_some rfl) fun v hv => ok_some hv)
          rw [sg0] at h
          have h := of_decide_eq_true h
          intro z
          exact d2 ⟨by rw [e0, h], by omega⟩
        · obtain ⟨n1, n2, i1, i2, hp⟩ := k2 (by omega) d2
          rw [bd_of i1]
          refine ok_gd (by omega) ?_
          rw [bd_of i2]
          exact ok_gd (by omega) (ok_some hp)
  · obtain ⟨c, hc⟩ : ∃ c, l[l.length - 3]? = some c := ⟨_, List.getElem?_eq_getElem i3⟩
    refine ok_bd (Q := fun v => v = true) (ok_f (decide_eq_false (by omega)) ?_) fun v hv => ok_t hv (ok_some (h1 (.inr c2)))
    rw [bd_of (show L2.atI (S l).cps.toList (-(3 : Int)) = some c from (atI_m3 (l := l) (by omega)).trans hc)]
    refine ok_gd (sz (by omega)) (ok_some ?_)
    rw [sg46, decide_eq_false fun z => c2 (by rw [hc, z])]
    rfl
/-- both ways agree -/
def Agree (x : Str) : Prop := (∃ n : Int, 0 ≤ n ∧ M_read_cents (.str x) = some (.ok n) ∧ M__law_read x = some n) ∨ (M_read_cents (.str x) = some (.er .NoAmount) ∧ M__law_read x = some (-1))
theorem fst_dot : ∀ l : List Nat, 46 ∉ l ∨ ∃ a b, l = a ++ 46 :: b ∧ 46 ∉ a
  | [] => .inl (fun m => nomatch m)
  | c :: l => by
    by_cases h : c = 46
    · exact .inr ⟨[], l, by rw [h]; rfl, fun m => nomatch m⟩
    · rcases fst_dot l with q | ⟨a, b, e, q⟩
      · exact .inl fun m => (List.mem_cons.mp m).elim (fun z => h z.symm) q
      · exact .inr ⟨c :: a, b, by rw [e]; rfl, fun m => (List.mem_cons.mp m).elim (fun z => h z.symm) q⟩
theorem agree {x : Str} (lx : x.length ≤ 63) : Agree x := by
  have ex : S x.cps.toList = x := S_tl x
  have lx2 : x.cps.toList.length ≤ 63 := by rw [← TL.len_tl]; exact lx
  generalize x.cps.toList = l at ex lx2
  subst ex
  clear lx
  rcases fst_dot l with h | ⟨a, b, rfl, h⟩
  · -- no point
    have e : Txt.partition (S l) (".") = (S l, S [], S []) := by rw [dot_S]; exact partition_none (by simp) (par_head_none h)
    obtain ⟨r1, _⟩ := rd_steps e (by rw [S_len]; omega) (by omega) (by decide)
    refine .inr ⟨r1 rfl, Ok.eq (lread_steps lx2 _ (fun _ => rfl) (fun _ _ _ => rfl) fun _ q => ?_)⟩
    exact absurd (List.mem_of_getElem? q) h
  · have e : Txt.partition (S (a ++ 46 :: b)) (".") = (S a, S [46], S b) := by rw [dot_S]; exact partition_some (by simp) (par_head b h)
    have ll : (a ++ 46 :: b).length = a.length + (b.length + 1) := by rw [List.length_append, List.length_cons]
    rw [ll] at lx2
    obtain ⟨r1, r2⟩ := rd_steps e (by rw [S_len, ll]; omega) (by omega) (by omega)
    by_cases hb : b.length = 2
    · have ln3 : (a ++ 46 :: b).length - 3 = a.length := by omega
      have ln2 : (a ++ 46 :: b).length - 2 = a.length + 1 := by omega
      have etk : (a ++ 46 :: b).take ((a ++ 46 :: b).length - 3) = a := by rw [ln3, List.take_left]
      have edr : (a ++ 46 :: b).drop ((a ++ 46 :: b).length - 2) = b := by
        rw [ln2, List.drop_length_add_append]
        rfl
      have eat : (a ++ 46 :: b)[(a ++ 46 :: b).length - 3]? = some 46 := by
        rw [ln3, List.getElem?_append_right (Nat.le_refl _), Nat.sub_self]
        rfl
      have hb2 : (b.length == 2) = true := by rw [hb]; rfl
      have ffs : figB (S (a ++ b)) = (figB (S a) && figB (S b)) := by rw [figB_S, figB_S, figB_S, List.all_append]
      by_cases good : badP a [46] b = false
      · have good2 := good
        unfold badP at good2
        rw [hb2] at good2
        simp only [List.isEmpty_cons, Bool.not_true, Bool.false_or, Bool.or_eq_false_iff, Bool.not_eq_false', decide_eq_false_iff_not, Bool.and_eq_false_iff] at good2
        obtain ⟨g1, g2, g3, g4, g5⟩ := good2
        have d1 : intText? (S a) = some ((NumText.digitsVal a : Nat) : Int) := int_S (by rw [← figB_S]; exact g4) (fun z => by rw [z] at g2; exact g2 (by decide)) (by omega)
        have d2 : intText? (S b) = some ((NumText.digitsVal b : Nat) : Int) := int_S (by rw [← figB_S]; exact g1) (fun z => by rw [z] at hb; cases hb) (by omega)
        refine .inl ⟨_, by omega, r2 _ _ good d1 d2, Ok.eq (lread_steps (by rw [ll]; exact lx2) _ (fun z => ?_) (fun _ _ z => ?_) fun _ _ _ w b' ew eb => ⟨fun z => ?_, fun _ _ => ?_⟩)⟩
        · rcases z with z | z
          · omega
          · exact absurd eat z
        · rw [etk, edr, ffs, g4, g1] at z
          cases z
        · rw [etk] at ew
          subst ew
          rcases z with z | z
          · exact absurd z g3
          · rcases g5 with g5 | g5
            · exact absurd z.1 g5
            · exact absurd z.2 g5
        · rw [etk] at ew
          rw [edr] at eb
          subst ew eb
          exact ⟨_, _, d1, d2, rfl⟩
      · have bad : badP a [46] b = true := by cases q : badP a [46] b; exact absurd q good; rfl
        refine .inr ⟨r1 bad, Ok.eq (lread_steps (by rw [ll]; exact lx2) _ (fun _ => rfl) (fun _ _ _ => rfl) fun h4 _ hf w b' ew eb => ⟨fun _ => rfl, fun w10 wz => ?_⟩)⟩
        exfalso
        rw [etk] at ew
        subst ew
        rw [etk, edr, ffs] at hf
        obtain ⟨f1, f2⟩ := Bool.and_eq_true_iff.mp hf
        unfold badP at bad
        rw [hb2, f1, f2, decide_eq_false (show ¬ a.length < 1 by omega), decide_eq_false (show ¬ 10 < a.length by omega)] at bad
        have bad : (decide (a[0]? = some 48) && decide (1 < a.length)) = true := bad
        have bad := Bool.and_eq_true_iff.mp bad
        exact wz ⟨of_decide_eq_true bad.1, of_decide_eq_true bad.2⟩
    · have hb2 : (b.length == 2) = false := beq_eq_false_iff_ne.mpr hb
      refine .inr ⟨r1 (by unfold badP; rw [hb2]; rfl), Ok.eq (lread_steps (by rw [ll]; exact lx2) _ (fun _ => rfl) (fun _ _ _ => rfl) fun h4 hd hf w b' ew eb => ⟨fun _ => rfl, fun w10 wz => ?_⟩)⟩
      exfalso
      by_cases b3 : 2 < b.length
      · have m46 : 46 ∈ (a ++ 46 :: b).take ((a ++ 46 :: b).length - 3) := by
          refine List.mem_of_getElem? (i := a.length) ?_
          rw [List.getElem?_take_of_lt (by omega), List.getElem?_append_right (Nat.le_refl _), Nat.sub_self]
          rfl
        rw [figB_S, List.all_append] at hf
        have := List.all_eq_true.mp (Bool.and_eq_true_iff.mp hf).1 46 m46
        exact absurd this (by decide)
      · rw [List.getElem?_append_left (by omega)] at hd
        exact h (List.mem_of_getElem? hd)
open SX TL
theorem other_is : M__law_other = some false := by
  unfold M__law_other
  exact Ok.eq (ok_lt (ok_gd (by show 8 ≤ 16777216; decide) (ok_lt (ok_gd (by show 11 ≤ 16777216; decide) (ok_lt (ok_gd (by show 13 ≤ 16777216; decide) (ok_some rfl)))))))
theorem refused_is {d : D} (h : M_read_cents d = some (.er .NoAmount)) : M__law_refused d = some true := by
  unfold M__law_refused
  rw [show bdo (M_read_cents d) (fun v3 => (some (.nx ()) : Option (Ou Unit Unit (Xr Xc Bool)))) = some (.rt (.er .NoAmount)) from by rw [h]; rfl]
  show bd (cond true (bd (cond true (bd M__law_other fun v5 => some (!v5)) (some false)) fun v6 => some v6) (some false)) _ = _
  rw [other_is]
  rfl
theorem nostr_er {d : D} (h : isiD "str" d = some false) : M_read_cents d = some (.er .NoAmount) := by
  unfold M_read_cents
  rw [bd_of h]
  exact Ok.eq (ok_t rfl (ok_some rfl))
theorem whole_int (i : Int) : M__law_whole (.int i) = some true := by
  unfold M__law_whole
  rw [bd_of (show isiD "int" (.int i) = some true from (by decide +kernel : kitB "int" "int" = some true))]
  refine Ok.eq (ok_bd (Q := fun v => v = true) (ok_t rfl ?_) fun v hv => ok_some hv)
  rw [bd_of (show isiD "bool" (.int i) = some false from (by decide +kernel : kitB "int" "bool" = some false))]
  exact ok_some rfl
theorem whole_no {d : D} (h : isiD "int" d = some false) : M_is_whole d = some false := by
  unfold M_is_whole
  rw [bd_of h]
  exact Ok.eq (ok_bd (Q := fun v => v = false) (ok_f rfl (ok_some rfl)) fun v hv => ok_some hv)
theorem whole_yes {d : D} {k : Bool} (h : isiD "int" d = some true) (h2 : isiD "bool" d = some k) : M_is_whole d = some (!k) := by
  unfold M_is_whole
  rw [bd_of h]
  refine Ok.eq (ok_bd (Q := fun v => v = !k) (ok_t rfl ?_) fun v hv => ok_some hv)
  rw [bd_of h2]
  exact ok_some rfl
theorem taken_ok {x : Str} (lx : x.length ≤ 63) : M__law_taken x = some true := by
  unfold M__law_taken
  rcases agree lx with ⟨n, n0, h1, h2⟩ | ⟨h1, h2⟩
  · rw [bd_of h2, h1]
    refine Ok.eq (ok_lt ?_)
    show Ok (bd (cond (decide (0 ≤ n)) _ _) _) _
    refine ok_bd (Q := fun v => v = true) (ok_t (decide_eq_true n0) ?_) fun v hv => ok_some hv
    rw [bd_of (whole_int n)]
    exact ok_some (by rw [beq_self_eq_true]; rfl)
  · rw [bd_of h2, h1]
    refine Ok.eq (ok_lt ?_)
    show Ok (bd (cond (decide ((-1 : Int) < 0)) _ _) _) _
    refine ok_bd (Q := fun v => v = true) (ok_t (by decide) ?_) fun v hv => ok_some hv
    rw [bd_of (refused_is h1)]
    exact ok_some rfl
theorem cutS_len (x : Str) (lo hi : Option Int) : (cutS x lo hi).length ≤ x.length := by
  show (S _).length ≤ _
  rw [S_len, List.length_take, List.length_drop, ← TL.len_tl]
  omega
theorem app_len (x y : Str) : (x ++ y).length = x.length + y.length := by
  have e : x ++ y = S (x.cps.toList ++ y.cps.toList) := by rw [← S_cat, S_tl, S_tl]
  rw [e, S_len, List.length_append, TL.len_tl, TL.len_tl]
theorem sg1_len (c : Nat) : (sg1 c).length = 1 := rfl
theorem strI_len {n : Nat} (h : n < 10 ^ 12) : (strI (n : Int)).length ≤ 12 := by
  rw [strI_n, S_len]
  exact numL_len (n := n) (k := 12) (by decide) h
theorem strI_1 {n : Nat} (h : n < 10) : (strI (n : Int)).length ≤ 1 := by
  rw [strI_n, S_len]
  exact numL_len (n := n) (k := 1) (by decide) h
theorem zeros_len (m : Int) : (repS ("0" : Str) m).length = m.toNat := by
  show (S _).length = _
  have e : ("0" : Str).cps.toList = [48] := by decide +kernel
  rw [e, S_len]
  have : ∀ k : Nat, (List.replicate k [48]).flatten.length = k := fun k => by
    induction k with
    | zero => rfl
    | succ k ih => rw [List.replicate_succ, List.flatten_cons, List.length_append, ih]; show 1 + k = _; omega
  exact this _
theorem text_ok (a b : Int) : Ok (M__law_text a b) fun x => 1 ≤ x.length ∧ x.length ≤ 20 := by
  unfold M__law_text
  refine ok_bd (ok_atIm (Q := fun v : Int => 0 < v ∧ v ≤ 100000000000000) (by omega) (by show _ < (9 : Int); omega) fun y m => ?_) fun v1 ⟨h0, h1⟩ => ok_gd h0 (ok_ltx fun cents ec => ?_)
  · simp only [List.mem_cons, List.not_mem_nil, or_false] at m
    rcases m with rfl | rfl | rfl | rfl | rfl | rfl | rfl | rfl | rfl <;> exact ⟨by decide, by decide⟩
  have c0 : 0 ≤ cents ∧ cents < 100000000000000 := by
    have := Int.emod_nonneg a (show v1 ≠ 0 by omega)
    have := Int.emod_lt_of_pos a h0
    omega
  clear ec
  obtain ⟨n, rfl⟩ := Int.eq_ofNat_of_zero_le c0.1
  have lg : ∀ m : Int, m.natAbs < 10 ^ 15 → m.natAbs.log2 < 1920 := fun m hm => lg_of (Nat.lt_of_lt_of_le hm (by decide))
  have e1 : (n : Int) / 100 = ((n / 100 : Nat) : Int) := by omega
  have e2 : (n : Int) / 10 % 10 = ((n / 10 % 10 : Nat) : Int) := by omega
  have e3 : (n : Int) % 10 = ((n % 10 : Nat) : Int) := by omega
  rw [e1, e2, e3]
  have s1 := strI_len (n := n / 100) (by omega)
  have s2 := strI_1 (n := n / 10 % 10) (by omega)
  have s3 := strI_1 (n := n % 10) (by omega)
  have z1 : ("0" : Str).length = 1 := by decide +kernel
  have d1 : ("." : Str).length = 1 := by decide +kernel
  refine ok_gd (lg _ (by omega)) (ok_lt (ok_bd (Q := fun p => p.length ≤ 15) (ok_cond (fun _ => ok_gd ⟨⟨by omega, by omega⟩, by rw [z1]; omega⟩ (ok_gd (sz (by rw [zeros_len]; omega)) (ok_lt (ok_some (by rw [app_len, zeros_len]; omega))))) fun _ => ok_some (by omega)) fun p4 l4 => ?_))
  refine ok_gd (sz (by omega)) (ok_gd (lg _ (by omega)) (ok_gd (sz (by rw [app_len]; omega)) (ok_gd (lg _ (by omega)) (ok_gd (sz (by rw [app_len, app_len]; omega)) (ok_some ?_)))))
  rw [app_len, app_len, app_len]
  omega
theorem spoilt_ok {x : Str} (h : 1 ≤ x.length ∧ x.length ≤ 20) (c : Int) : Ok (M__law_spoilt x c) fun y => y.length ≤ 63 := by
  have cl := cutS_len x
  have z : x.length ≤ sizeLine := sz (by omega)
  unfold M__law_spoilt
  refine ok_ltx fun signs es => ?_
  have ls : signs.length = 39 := by rw [es]; decide +kernel
  have ls2 : signs.cps.toList.length = 39 := by rw [← TL.len_tl]; exact ls
  clear es
  refine ok_gd (sz (by omega)) (ok_gd (by omega) (ok_bd (ok_atIm (Q := fun _ => True) (by rw [ls]; omega) (by rw [ls, ls2]; omega) fun _ _ => trivial) fun c3 _ => ok_gd (sz (by omega)) (ok_ltx fun sign eg => ok_gd z (ok_gd (by omega) (ok_ltx fun at_ ea => ok_lt ?_)))))
  have lg : sign.length = 1 := by rw [eg]; rfl
  have a0 : 0 ≤ at_ ∧ at_ < (x.length : Int) := by
    have := Int.emod_nonneg (c / 400) (show (x.length : Int) ≠ 0 by omega)
    have := Int.emod_lt_of_pos (c / 400) (show 0 < (x.length : Int) by omega)
    omega
  have c1 := cl none (some at_)
  have c2 := cl (some at_) none
  have c3 := cl (some (at_ + 1)) none
  refine ok_cond (fun _ => ok_gd z (ok_gd (sz (by omega)) (ok_gd z (ok_gd (sz (by rw [app_len]; omega)) (ok_some ?_))))) fun _ => ok_cond (fun _ => ok_gd z (ok_gd z (ok_gd (sz (by omega)) (ok_some ?_)))) fun _ => ok_cond (fun _ => ok_gd z (ok_bd (ok_atIm (Q := fun _ => True) a0.1 (by rw [← TL.len_tl]; exact a0.2) fun _ _ => trivial) fun c15 _ => ok_gd z (ok_gd (sz (by rw [sg1_len]; omega)) (ok_gd z (ok_gd (sz (by rw [app_len, sg1_len]; omega)) (ok_some ?_)))))) fun _ => ok_cond (fun _ => ok_gd z (ok_gd (sz (by omega)) (ok_gd z (ok_gd (sz (by rw [app_len]; omega)) (ok_some ?_))))) fun _ => ok_cond (fun _ => ok_gd (sz (by omega)) (ok_some ?_)) fun _ => ok_some (by omega)
  · rw [app_len, app_len]; omega
  · rw [app_len]; omega
  · rw [app_len, app_len, sg1_len]; omega
  · rw [app_len, app_len]; omega
  · rw [app_len]; omega
theorem cell_any {ns : List Int} {k : Int} (h : 0 ≤ k) : Ok (M__law_cell ns k) fun _ => True := by
  unfold M__law_cell
  exact ok_cond (fun h1 => ok_bd (ok_atI h (of_decide_eq_true h1) (Q := fun _ => True) fun y _ => trivial) fun y _ => ok_some trivial) fun _ => ok_some trivial
/-- a thing that is no text -/
def ThD (d : D) : Prop := isiD "str" d = some false ∧ ∃ b, M_is_whole d = some b
theorem law_true (ns : List Int) (_h : ns.length ≤ 63) : M_law ns = some true := by
  unfold M_law
  refine Ok.eq (ok_bd (ok_lpN (Q := fun o => o = .nx ()) (fun _ _ => True) trivial (fun i x v hx _ => ?_) fun v _ => rfl) fun o ho => ?_)
  · obtain ⟨hj, ej⟩ := List.getElem?_eq_some_iff.mp hx
    rw [List.length_range] at hj
    rw [List.getElem_range] at ej
    subst ej
    refine ok_bd (cell_any (by omega)) fun v4 _ => ok_bd (cell_any (by omega)) fun v5 _ => ok_bd (text_ok v4 _) fun v6 h6 => ?_
    rw [bd_of (taken_ok (by omega))]
    refine ok_f rfl (ok_bd (cell_any (by omega)) fun v8 _ => ok_bd (spoilt_ok h6 _) fun v9 h9 => ?_)
    rw [bd_of (taken_ok h9)]
    exact ok_f rfl (ok_some ⟨_, .inl rfl, trivial⟩)
  · subst ho
    refine ok_lt (ok_bd (cell_any (by decide)) fun v11 _ => ?_)
    refine ok_bd (ok_atIm (Q := ThD) (by omega) (by show _ < (9 : Int); omega) fun d m => ?_) fun v12 ⟨h1, b, hb⟩ => ?_
    · simp only [List.mem_cons, List.not_mem_nil, or_false] at m
      rcases m with rfl | rfl | rfl | rfl | rfl | rfl | rfl | rfl | rfl
      · exact ⟨(by decide +kernel : kitB "NoneType" "str" = some false), _, whole_no (by decide +kernel : kitB "NoneType" "int" = some false)⟩
      · exact ⟨(by decide +kernel : kitB "bool" "str" = some false), _, whole_yes (by decide +kernel : kitB "bool" "int" = some true) (by decide +kernel : kitB "bool" "bool" = some true)⟩
      · exact ⟨(by decide +kernel : kitB "bool" "str" = some false), _, whole_yes (by decide +kernel : kitB "bool" "int" = some true) (by decide +kernel : kitB "bool" "bool" = some true)⟩
      · exact ⟨(by decide +kernel : kitB "int" "str" = some false), _, whole_yes (by decide +kernel : kitB "int" "int" = some true) (by decide +kernel : kitB "int" "bool" = some false)⟩
      · exact ⟨(by decide +kernel : kitB "list" "str" = some false), _, whole_no (by decide +kernel : kitB "list" "int" = some false)⟩
      · exact ⟨(by decide +kernel : kitB "tuple" "str" = some false), _, whole_no (by decide +kernel : kitB "tuple" "int" = some false)⟩
      · exact ⟨(by decide +kernel : kitB "dict" "str" = some false), _, whole_no (by decide +kernel : kitB "dict" "int" = some false)⟩
      · exact ⟨(by decide +kernel : kitB "int" "str" = some false), _, whole_yes (by decide +kernel : kitB "int" "int" = some true) (by decide +kernel : kitB "int" "bool" = some false)⟩
      · exact ⟨(by decide +kernel : kitB "list" "str" = some false), _, whole_no (by decide +kernel : kitB "list" "int" = some false)⟩
    have no : ∀ x : Str, x.length ≤ 63 → M__law_read x = some (-1) → M__law_refused (.str x) = some true := fun x lx hx => by
      rcases agree lx with ⟨n, n0, _, h2⟩ | ⟨h2, _⟩
      · rw [hx] at h2
        cases h2
        exact absurd n0 (by decide)
      · exact refused_is h2
    have short : ∀ x : Str, x.length < 4 → M__law_read x = some (-1) := fun x lx => by
      unfold M__law_read
      exact Ok.eq (ok_gd (sz (by omega)) (ok_bd (Q := fun v => v = true) (ok_t (decide_eq_true (by omega)) (ok_some rfl)) fun v hv => ok_t hv (ok_some rfl)))
    rw [bd_of (refused_is (nostr_er h1))]
    refine ok_bd (Q := fun v => v = false) (ok_f rfl ?_) fun v hv => ok_f hv ?_
    · rw [bd_of (no ("" : Str) (by decide +kernel) (short _ (by decide +kernel)))]
      refine ok_bd (Q := fun v => v = false) (ok_f rfl ?_) fun v hv => ok_some hv
      rw [bd_of (no ("." : Str) (by decide +kernel) (short _ (by decide +kernel)))]
      exact ok_some rfl
    rw [bd_of hb]
    refine ok_bd (Q := fun v => v = false) (ok_f rfl ?_) fun v hv => ok_f hv ?_
    · rw [bd_of (show M__law_whole v12 = some b from hb)]
      refine ok_bd (Q := fun v => v = false) (ok_f (by rw [beq_self_eq_true]; rfl) ?_) fun v hv => ok_some hv
      rw [bd_of (whole_no (d := .str ("1" : Str)) (by decide +kernel : kitB "str" "int" = some false))]
      exact ok_some rfl
    rw [bd_of (taken_ok (by decide +kernel))]
    refine ok_bd (Q := fun v => v = true) (ok_t rfl ?_) fun v hv => ok_some hv
    rw [bd_of (taken_ok (by decide +kernel))]
    refine ok_bd (Q := fun v => v = true) (ok_t rfl ?_) fun v hv => ok_some hv
    rw [bd_of (taken_ok (by decide +kernel))]
    exact ok_some rfl
abbrev N_law : List Str := ["_law_script", "_law_k", "_law_cell_here", "_law_text_here", "_law_things", "_law_thing", "_law_found"]
theorem sc_law : FnScope N_law ["_law_script"] (defScope s_law) := ⟨rfl, rfl, rfl, by decide +kernel, rfl, by decide +kernel, by decide +kernel⟩
theorem ok_law {f : Addr} {fd : FuncData} (F : Fun K "law" "law" s_law f fd) (z_range : mg "range" = none) (z_isinstance : mg "isinstance" = none) (z_bool : mg "bool" = none) (c__law_cell : Fn1 P w K mg base "_law_cell" 1 ["_law_script", "_law_k"] (sp__law_cell K)) (c__law_text : Fn1 P w K mg base "_law_text" 1 ["_law_cell_here", "_law_other_here"] (sp__law_text K)) (c__law_taken : Fn1 P w K mg base "_law_taken" 4 ["_law_text_here"] (sp__law_taken K)) (c__law_spoilt : Fn1 P w K mg base "_law_spoilt" 1 ["_law_text_here", "_law_cell_here"] (sp__law_spoilt K)) (c__law_refused : Fn1 P w K mg base "_law_refused" 3 ["_law_thing"] (sp__law_refused K)) (c_is_whole : Fn1 P w K mg base "is_whole" 1 ["thing"] (sp_is_whole K)) (c__law_whole : Fn1 P w K mg base "_law_whole" 1 ["_law_found"] (sp__law_whole K)) : FnOk P w K mg base CX0 5 f fd ["_law_script"] (spLaw K) := by
  refine fn_m F sc_law (fun x => rfl) (fun x _ => rfl) fun cdv A outer s H E hr script hx => ?_
  have hx : M_law script = some true := law_true script hx
  have nd := sc_law.nd
  unfold M_law at hx
  show MS _ [some (.vw (script.map D.int)), none, none, none, none, none, none] _ _
  replace hx := bd_some hx
  obtain ⟨o3, ho3, hx⟩ := hx
  refine ms_cons (m_forO (xs := (List.range (20 : Int).toNat)) (enc := (fun k : Nat => D.int (k : Nat))) (ps_for PassesOwn.never rfl (pi_range1 (by rfl) z_range pa_w) (pg_name (i := 1) nd rfl (Or.inl rfl)) pss_w) (by exact (mi_rangeT (mf_cons me_int mf_nil) ⟨by decide, by decide⟩)) ho3 (fun p1 => [some (.vw (script.map D.int)), none, none, none, none, none, none]) (fun r => .fz (.bl r)) le_auto (fun x2 p1 p1o mx hx => ?_) (fun p1 τ e le => ?_) fun q e => ?_)
  ·
    refine ⟨_, _, mg_name, ?_⟩
    show MS _ [some (.vw (script.map D.int)), some (.fz (.int (x2 : Int))), none, none, none, none, none] _ _
    replace hx := bd_some hx
    obtain ⟨v4, hv4, hx⟩ := hx
    refine ms_cons (m_set (ps_set (i := 2) nd rfl (Or.inl rfl) pe_w) (me_fn c__law_cell ((script, (3 * (x2 : Int))), v4) (ma_vw (ml_var (pv 0) rfl) (ma_fz (me_mul me_int (me_var (pv 1) rfl) (.inl ⟨by decide, by decide⟩)) ma_nil)) hv4 (hr.mono (by decide))) ?_)
    show MS _ [some (.vw (script.map D.int)), some (.fz (.int (x2 : Int))), some (.fz (.int v4)), none, none, none, none] _ _
    replace hx := bd_some hx
    obtain ⟨v5, hv5, hx⟩ := hx
    replace hx := bd_some hx
    obtain ⟨v6, hv6, hx⟩ := hx
    refine ms_cons (m_set (ps_set (i := 3) nd rfl (Or.inl rfl) pe_w) (me_fn c__law_text ((v4, (v5 % 1000003)), v6) (ma_fz (me_var (pv 2) rfl) (ma_fz (me_mod (me_fn c__law_cell ((script, ((3 * (x2 : Int)) + 1)), v5) (ma_vw (ml_var (pv 0) rfl) (ma_fz (me_add (me_mul me_int (me_var (pv 1) rfl) (.inl ⟨by decide, by decide⟩)) me_int) ma_nil)) hv5 (hr.mono (by decide))) me_int (by decide)) ma_nil)) hv6 (hr.mono (by decide))) ?_)
    show MS _ [some (.vw (script.map D.int)), some (.fz (.int (x2 : Int))), some (.fz (.int v4)), some (.fz (.str v6)), none, none, none] _ _
    replace hx := bd_some hx
    obtain ⟨v7, hv7, hx⟩ := hx
    refine ms_cons (m_if (t := (!v7)) (mt_not (mt_val (me_fn c__law_taken (v6, v7) (ma_fz (me_var (pv 3) rfl) ma_nil) hv7 (hr.mono (by decide))))) (fun h => ?_) fun h => ms_nil ?_)
    · replace hx := cond_t hx h
      refine ms_one (m_ret (ps_ret pe_w) (ME.r me_bl) ?_)
      cases hx; exact ⟨_, rfl, rfl⟩
    replace hx := cond_f hx h
    replace hx := bd_some hx
    obtain ⟨v8, hv8, hx⟩ := hx
    replace hx := bd_some hx
    obtain ⟨v9, hv9, hx⟩ := hx
    replace hx := bd_some hx
    obtain ⟨v10, hv10, hx⟩ := hx
    refine ms_one (m_if (t := (!v10)) (mt_not (mt_val (me_fn c__law_taken (v9, v10) (ma_fz (me_fn c__law_spoilt ((v6, (v8 % 1000003)), v9) (ma_fz (me_var (pv 3) rfl) (ma_fz (me_mod (me_fn c__law_cell ((script, ((3 * (x2 : Int)) + 2)), v8) (ma_vw (ml_var (pv 0) rfl) (ma_fz (me_add (me_mul me_int (me_var (pv 1) rfl) (.inl ⟨by decide, by decide⟩)) me_int) ma_nil)) hv8 (hr.mono (by decide))) me_int (by decide)) ma_nil)) hv9 (hr.mono (by decide))) ma_nil) hv10 (hr.mono (by decide))))) (fun h => ?_) fun h => ms_nil ?_)
    · replace hx := cond_t hx h
      refine ms_one (m_ret (ps_ret pe_w) (ME.r me_bl) ?_)
      cases hx; exact ⟨_, rfl, rfl⟩
    replace hx := cond_f hx h
    cases hx; exact ⟨_, rfl, le_auto⟩
  · subst e
    dsimp only [ouR] at hx
    refine ms_le le ?_
    show MS _ [some (.vw (script.map D.int)), none, none, none, none, none, none] _ _
    replace hx := lt_some hx
    obtain ⟨things, ethings, hx⟩ := hx
    refine ms_cons (m_set (ps_set (i := 4) nd rfl (Or.inl rfl) pe_w) (ME.is (o' := (.lst ((things.map e_d).map .fz))) (me_lst (ds := [(.non), (.bl true), (.bl false), (.int (5 : Int)), (.lst ([("1.00" : Str)].map D.str)), (e_T_s ("1.00" : Str)), (.dct [] [] : D), (.int (-(12 : Int))), (.lst [] : D)].map e_d) (mf_cons me_non (mf_cons me_bl (mf_cons me_bl (mf_cons me_int (mf_cons (ME.frzl (me_lst (ds := [("1.00" : Str)].map D.str) (mf_cons me_str mf_nil))) (mf_cons (me_tup (mf_cons me_str mf_nil)) (mf_cons me_dict0 (mf_cons (me_neg me_int) (mf_cons (ME.frzl (me_lst mf_nil)) mf_nil)))))))))) (by rw [ethings] <;> rfl)) ?_)
    show MS _ [some (.vw (script.map D.int)), none, none, none, some (.lst ((things.map e_d).map .fz)), none, none] _ _
    replace hx := bd_some hx
    obtain ⟨v11, hv11, hx⟩ := hx
    replace hx := bd_some hx
    obtain ⟨v12, hv12, hx⟩ := hx
    refine ms_cons (m_set (ps_set (i := 5) nd rfl (Or.inl rfl) pe_w) (me_ixLT (xs := things) (enc := e_d) hv12 (ml_var (pv 4) rfl) (me_mod (me_fn c__law_cell ((script, 1), v11) (ma_vw (ml_var (pv 0) rfl) (ma_fz me_int ma_nil)) hv11 (hr.mono (by decide))) me_int (by decide))) ?_)
    show MS _ [some (.vw (script.map D.int)), none, none, none, some (.lst ((things.map e_d).map .fz)), some (.fz v12), none] _ _
    replace hx := bd_some hx
    obtain ⟨v13, hv13, hx⟩ := hx
    replace hx := bd_some hx
    obtain ⟨v18, hv18, hx⟩ := hx
    refine ms_cons (m_if (t := v18) (MW.t (MW.is (mw_or (mt_not (mt_val (me_fn c__law_refused (v12, v13) (ma_fz (me_var (pv 5) rfl) ma_nil) hv13 (hr.mono (by decide))))) fun q19 => (by have hx := cond_f hv18 q19; replace hx := bd_some hx; obtain ⟨v14, hv14, hx⟩ := hx; replace hx := bd_some hx; obtain ⟨v16, hv16, hx⟩ := hx; first | (cases hx; exact (MW.is (mw_or (mt_not (mt_val (me_fn c__law_refused ((.str ("" : Str)), v14) (ma_fz me_str ma_nil) hv14 (hr.mono (by decide))))) fun q17 => (by have hx := cond_f hv16 q17; replace hx := bd_some hx; obtain ⟨v15, hv15, hx⟩ := hx; cases hx; exact (mw_or1 (mt_not (mt_val (me_fn c__law_refused ((.str ("." : Str)), v15) (ma_fz me_str ma_nil) hv15 (hr.mono (by decide)))))))) (or_c hv16))) | (injection hx with hx; subst hx; exact (MW.is (mw_or (mt_not (mt_val (me_fn c__law_refused ((.str ("" : Str)), v14) (ma_fz me_str ma_nil) hv14 (hr.mono (by decide))))) fun q17 => (by have hx := cond_f hv16 q17; replace hx := bd_some hx; obtain ⟨v15, hv15, hx⟩ := hx; cases hx; exact (mw_or1 (mt_not (mt_val (me_fn c__law_refused ((.str ("." : Str)), v15) (ma_fz me_str ma_nil) hv15 (hr.mono (by decide)))))))) (or_c hv16))))) (or_c hv18))) (fun h => ?_) fun h => ms_nil ?_)
    · replace hx := cond_t hx h
      refine ms_one (m_ret (ps_ret pe_w) (ME.r me_bl) ?_)
      first | (cases hx; done) | (cases hx; rfl) | (injection hx with hx; show O.fz (.bl _) = O.fz (.bl true); rw [hx])
    replace hx := cond_f hx h
    replace hx := bd_some hx
    obtain ⟨v20, hv20, hx⟩ := hx
    refine ms_cons (m_set (ps_set (i := 6) nd rfl (Or.inl rfl) pe_w) (me_fn c_is_whole (v12, v20) (ma_fz (me_var (pv 5) rfl) ma_nil) hv20 (hr.mono (by decide))) ?_)
    show MS _ [some (.vw (script.map D.int)), none, none, none, some (.lst ((things.map e_d).map .fz)), some (.fz v12), some (.fz (.bl v20))] _ _
    replace hx := bd_some hx
    obtain ⟨v25, hv25, hx⟩ := hx
    refine ms_cons (m_if (t := v25) (MW.t (MW.is (mw_or (mt_not (mt_val (me_isi (k := true) (by rfl) z_isinstance (pe_bltn (v := .ty "bool") (by rfl) z_bool (by decide +kernel) rfl) (mv_var (pv 6) rfl) rfl (by decide +kernel)))) fun q26 => (by have hx := cond_f hv25 q26; replace hx := bd_some hx; obtain ⟨v21, hv21, hx⟩ := hx; replace hx := bd_some hx; obtain ⟨v23, hv23, hx⟩ := hx; first | (cases hx; exact (MW.is (mw_or (mt_neB (me_var (pv 6) rfl) (me_fn c__law_whole (v12, v21) (ma_fz (me_var (pv 5) rfl) ma_nil) hv21 (hr.mono (by decide)))) fun q24 => (by have hx := cond_f hv23 q24; replace hx := bd_some hx; obtain ⟨v22, hv22, hx⟩ := hx; cases hx; exact (mw_or1 (mt_niB (me_fn c_is_whole ((.str ("1" : Str)), v22) (ma_fz me_str ma_nil) hv22 (hr.mono (by decide))) me_bl)))) (or_c hv23))) | (injection hx with hx; subst hx; exact (MW.is (mw_or (mt_neB (me_var (pv 6) rfl) (me_fn c__law_whole (v12, v21) (ma_fz (me_var (pv 5) rfl) ma_nil) hv21 (hr.mono (by decide)))) fun q24 => (by have hx := cond_f hv23 q24; replace hx := bd_some hx; obtain ⟨v22, hv22, hx⟩ := hx; cases hx; exact (mw_or1 (mt_niB (me_fn c_is_whole ((.str ("1" : Str)), v22) (ma_fz me_str ma_nil) hv22 (hr.mono (by decide))) me_bl)))) (or_c hv23))))) (or_c hv25))) (fun h => ?_) fun h => ms_nil ?_)
    · replace hx := cond_t hx h
      refine ms_one (m_ret (ps_ret pe_w) (ME.r me_bl) ?_)
      first | (cases hx; done) | (cases hx; rfl) | (injection hx with hx; show O.fz (.bl _) = O.fz (.bl true); rw [hx])
    replace hx := cond_f hx h
    replace hx := bd_some hx
    obtain ⟨v27, hv27, hx⟩ := hx
    replace hx := bd_some hx
    obtain ⟨v32, hv32, hx⟩ := hx
    refine ms_one (m_ret (ps_ret pe_w) (ME.r (ME.isB (me_and (me_fn c__law_taken (("0.00" : Str), v27) (ma_fz me_str ma_nil) hv27 (hr.mono (by decide))) fun q33 => (by have hx := cond_t hv32 q33; replace hx := bd_some hx; obtain ⟨v28, hv28, hx⟩ := hx; replace hx := bd_some hx; obtain ⟨v30, hv30, hx⟩ := hx; first | (cases hx; exact (ME.isB (me_and (me_fn c__law_taken (("9999999999.99" : Str), v28) (ma_fz me_str ma_nil) hv28 (hr.mono (by decide))) fun q31 => (by have hx := cond_t hv30 q31; replace hx := bd_some hx; obtain ⟨v29, hv29, hx⟩ := hx; first | (cases hx; exact (me_one (me_fn c__law_taken (("10000000000.00" : Str), v29) (ma_fz me_str ma_nil) hv29 (hr.mono (by decide))))) | (injection hx with hx; subst hx; exact (me_one (me_fn c__law_taken (("10000000000.00" : Str), v29) (ma_fz me_str ma_nil) hv29 (hr.mono (by decide))))))) (and_c hv30))) | (injection hx with hx; subst hx; exact (ME.isB (me_and (me_fn c__law_taken (("9999999999.99" : Str), v28) (ma_fz me_str ma_nil) hv28 (hr.mono (by decide))) fun q31 => (by have hx := cond_t hv30 q31; replace hx := bd_some hx; obtain ⟨v29, hv29, hx⟩ := hx; first | (cases hx; exact (me_one (me_fn c__law_taken (("10000000000.00" : Str), v29) (ma_fz me_str ma_nil) hv29 (hr.mono (by decide))))) | (injection hx with hx; subst hx; exact (me_one (me_fn c__law_taken (("10000000000.00" : Str), v29) (ma_fz me_str ma_nil) hv29 (hr.mono (by decide))))))) (and_c hv30))))) (and_c hv32))) ?_)
    first | (cases hx; done) | (cases hx; rfl) | (injection hx with hx; show O.fz (.bl _) = O.fz (.bl true); rw [hx])
  · subst e; cases hx; rfl
end
theorem all_mk {l : PySem.W.OpenLaw} {w : World} {K : PySem.W.Frag} {h : Heap} {mg : Str → Option Value} {fa : Addr} (X : K.In h) (G : h.Ns mainGlobals mg) (hfa : mg "law" = some (.ref fa))
    {C_NoShares : Addr} (a_NoShares : PySem.W.nsIn K mainGlobals "NoShares" = some (some (.ref C_NoShares)))
    {C_NoEntry : Addr} (a_NoEntry : PySem.W.nsIn K mainGlobals "NoEntry" = some (some (.ref C_NoEntry)))
    {C_NoWords : Addr} (a_NoWords : PySem.W.nsIn K mainGlobals "NoWords" = some (some (.ref C_NoWords)))
    {C_TooDeep : Addr} (a_TooDeep : PySem.W.nsIn K mainGlobals "TooDeep" = some (some (.ref C_TooDeep)))
    {C_NoClause : Addr} (a_NoClause : PySem.W.nsIn K mainGlobals "NoClause" = some (some (.ref C_NoClause)))
    {C_NoCover : Addr} (a_NoCover : PySem.W.nsIn K mainGlobals "NoCover" = some (some (.ref C_NoCover)))
    {C_NoBook : Addr} (a_NoBook : PySem.W.nsIn K mainGlobals "NoBook" = some (some (.ref C_NoBook)))
    {C_Twice : Addr} (a_Twice : PySem.W.nsIn K mainGlobals "Twice" = some (some (.ref C_Twice)))
    {C_Late : Addr} (a_Late : PySem.W.nsIn K mainGlobals "Late" = some (some (.ref C_Late)))
    {C_NotTold : Addr} (a_NotTold : PySem.W.nsIn K mainGlobals "NotTold" = some (some (.ref C_NotTold)))
    {C_TooWide : Addr} (a_TooWide : PySem.W.nsIn K mainGlobals "TooWide" = some (some (.ref C_TooWide)))
    {C_NoText : Addr} (a_NoText : PySem.W.nsIn K mainGlobals "NoText" = some (some (.ref C_NoText)))
    {C_NoRow : Addr} (a_NoRow : PySem.W.nsIn K mainGlobals "NoRow" = some (some (.ref C_NoRow)))
    {C_CoverError : Addr} (a_CoverError : PySem.W.nsIn K mainGlobals "CoverError" = some (some (.ref C_CoverError)))
    {C_NoAmount : Addr} (a_NoAmount : PySem.W.nsIn K mainGlobals "NoAmount" = some (some (.ref C_NoAmount)))
    (xq_NoAmount : PySem.W.excIn K C_NoAmount [.type "ValueError", .type "Exception", .type "BaseException", .type "object"] "ValueError.__new__" = true)
    (xk_NoAmount : PySem.W.keepIn K (.ref C_NoAmount) = true)
    (xb_NoAmount : PySem.W.subIn K (.ref C_NoAmount) (.type "BaseException") = some true)
    (xt_NoAmount : PySem.W.typeIn K (.ref C_NoAmount) = some (.type "type"))
    (xg_NoAmount : PySem.W.findIn K (.ref C_NoAmount) "__getattribute__" = some (some (.builtin "BaseException.__getattribute__")))
    (xh_NoAmount : PySem.W.findIn K (.ref C_NoAmount) "__getattr__" = some none)
    (xd_NoAmount : PySem.W.hasDictIn K C_NoAmount = true)
    (xa_NoAmount : PySem.W.findIn K (.ref C_NoAmount) "__class__" = some (some (.builtin "object.__class__")))
    (xm_NoAmount : PySem.W.mroIn K C_NoAmount (.type "object") = some true)
    (xn0 : PySem.W.specialIn K (.builtin "object.__class__") "__get__" = some (some (.builtin "getset_descriptor.__get__"))) (xt0 : PySem.W.takesIn K (.builtin "object.__class__") = some true)
    (xb_CoverError : PySem.W.subIn K (.ref C_CoverError) (.type "BaseException") = some true)
    (xd_CoverError : PySem.W.hasDictIn K C_CoverError = true)
    (xt_CoverError : PySem.W.typeIn K (.ref C_CoverError) = some (.type "type"))
    (xs_NoAmount_CoverError : PySem.W.subIn K (.ref C_NoAmount) (.ref C_CoverError) = some true)
    (xs_NoAmount_NoAmount : PySem.W.subIn K (.ref C_NoAmount) (.ref C_NoAmount) = some true)
    {f0 : Addr} {od0 an0 : Option Addr} {sl0 : Array (Option Value)} {oc0 kV0 dc0 pm0 cd0 ct0 : Value}
    (a0 : PySem.W.nsIn K mainGlobals "_law_cell" = some (some (.ref f0))) (l0 : K.lookup f0 = some ⟨oc0, od0, .func (PySem.W.fnOf "_law_cell" "_law_cell" (defArgs s__law_cell) (defBody s__law_cell) (defScope s__law_cell) .none kV0 dc0 pm0 an0 cd0 ct0), sl0⟩) (c0 : PySem.W.codeIn K cd0 "_law_cell" = true) (k0 : PySem.W.keepIn K (.ref f0) = true)
    {f1 : Addr} {od1 an1 : Option Addr} {sl1 : Array (Option Value)} {oc1 kV1 dc1 pm1 cd1 ct1 : Value}
    (a1 : PySem.W.nsIn K mainGlobals "_law_text" = some (some (.ref f1))) (l1 : K.lookup f1 = some ⟨oc1, od1, .func (PySem.W.fnOf "_law_text" "_law_text" (defArgs s__law_text) (defBody s__law_text) (defScope s__law_text) .none kV1 dc1 pm1 an1 cd1 ct1), sl1⟩) (c1 : PySem.W.codeIn K cd1 "_law_text" = true) (k1 : PySem.W.keepIn K (.ref f1) = true)
    {f2 : Addr} {od2 an2 : Option Addr} {sl2 : Array (Option Value)} {oc2 kV2 dc2 pm2 cd2 ct2 : Value}
    (a2 : PySem.W.nsIn K mainGlobals "_law_read" = some (some (.ref f2))) (l2 : K.lookup f2 = some ⟨oc2, od2, .func (PySem.W.fnOf "_law_read" "_law_read" (defArgs s__law_read) (defBody s__law_read) (defScope s__law_read) .none kV2 dc2 pm2 an2 cd2 ct2), sl2⟩) (c2 : PySem.W.codeIn K cd2 "_law_read" = true) (k2 : PySem.W.keepIn K (.ref f2) = true)
    {f3 : Addr} {od3 an3 : Option Addr} {sl3 : Array (Option Value)} {oc3 kV3 dc3 pm3 cd3 ct3 : Value}
    (a3 : PySem.W.nsIn K mainGlobals "all_figures" = some (some (.ref f3))) (l3 : K.lookup f3 = some ⟨oc3, od3, .func (PySem.W.fnOf "all_figures" "all_figures" (defArgs s_all_figures) (defBody s_all_figures) (defScope s_all_figures) .none kV3 dc3 pm3 an3 cd3 ct3), sl3⟩) (c3 : PySem.W.codeIn K cd3 "all_figures" = true) (k3 : PySem.W.keepIn K (.ref f3) = true)
    {f4 : Addr} {od4 an4 : Option Addr} {sl4 : Array (Option Value)} {oc4 kV4 dc4 pm4 cd4 ct4 : Value}
    (a4 : PySem.W.nsIn K mainGlobals "read_cents" = some (some (.ref f4))) (l4 : K.lookup f4 = some ⟨oc4, od4, .func (PySem.W.fnOf "read_cents" "read_cents" (defArgs s_read_cents) (defBody s_read_cents) (defScope s_read_cents) .none kV4 dc4 pm4 an4 cd4 ct4), sl4⟩) (c4 : PySem.W.codeIn K cd4 "read_cents" = true) (k4 : PySem.W.keepIn K (.ref f4) = true)
    {f5 : Addr} {od5 an5 : Option Addr} {sl5 : Array (Option Value)} {oc5 kV5 dc5 pm5 cd5 ct5 : Value}
    (a5 : PySem.W.nsIn K mainGlobals "all_figures" = some (some (.ref f5))) (l5 : K.lookup f5 = some ⟨oc5, od5, .func (PySem.W.fnOf "all_figures" "all_figures" (defArgs s_all_figures) (defBody s_all_figures) (defScope s_all_figures) .none kV5 dc5 pm5 an5 cd5 ct5), sl5⟩) (c5 : PySem.W.codeIn K cd5 "all_figures" = true) (k5 : PySem.W.keepIn K (.ref f5) = true)
    {f6 : Addr} {od6 an6 : Option Addr} {sl6 : Array (Option Value)} {oc6 kV6 dc6 pm6 cd6 ct6 : Value}
    (a6 : PySem.W.nsIn K mainGlobals "read_cents" = some (some (.ref f6))) (l6 : K.lookup f6 = some ⟨oc6, od6, .func (PySem.W.fnOf "read_cents" "read_cents" (defArgs s_read_cents) (defBody s_read_cents) (defScope s_read_cents) .none kV6 dc6 pm6 an6 cd6 ct6), sl6⟩) (c6 : PySem.W.codeIn K cd6 "read_cents" = true) (k6 : PySem.W.keepIn K (.ref f6) = true)
    {f7 : Addr} {od7 an7 : Option Addr} {sl7 : Array (Option Value)} {oc7 kV7 dc7 pm7 cd7 ct7 : Value}
    (a7 : PySem.W.nsIn K mainGlobals "_law_other" = some (some (.ref f7))) (l7 : K.lookup f7 = some ⟨oc7, od7, .func (PySem.W.fnOf "_law_other" "_law_other" (defArgs s__law_other) (defBody s__law_other) (defScope s__law_other) .none kV7 dc7 pm7 an7 cd7 ct7), sl7⟩) (c7 : PySem.W.codeIn K cd7 "_law_other" = true) (k7 : PySem.W.keepIn K (.ref f7) = true)
    {f8 : Addr} {od8 an8 : Option Addr} {sl8 : Array (Option Value)} {oc8 kV8 dc8 pm8 cd8 ct8 : Value}
    (a8 : PySem.W.nsIn K mainGlobals "_law_refused" = some (some (.ref f8))) (l8 : K.lookup f8 = some ⟨oc8, od8, .func (PySem.W.fnOf "_law_refused" "_law_refused" (defArgs s__law_refused) (defBody s__law_refused) (defScope s__law_refused) .none kV8 dc8 pm8 an8 cd8 ct8), sl8⟩) (c8 : PySem.W.codeIn K cd8 "_law_refused" = true) (k8 : PySem.W.keepIn K (.ref f8) = true)
    {f9 : Addr} {od9 an9 : Option Addr} {sl9 : Array (Option Value)} {oc9 kV9 dc9 pm9 cd9 ct9 : Value}
    (a9 : PySem.W.nsIn K mainGlobals "_law_whole" = some (some (.ref f9))) (l9 : K.lookup f9 = some ⟨oc9, od9, .func (PySem.W.fnOf "_law_whole" "_law_whole" (defArgs s__law_whole) (defBody s__law_whole) (defScope s__law_whole) .none kV9 dc9 pm9 an9 cd9 ct9), sl9⟩) (c9 : PySem.W.codeIn K cd9 "_law_whole" = true) (k9 : PySem.W.keepIn K (.ref f9) = true)
    {f10 : Addr} {od10 an10 : Option Addr} {sl10 : Array (Option Value)} {oc10 kV10 dc10 pm10 cd10 ct10 : Value}
    (a10 : PySem.W.nsIn K mainGlobals "_law_taken" = some (some (.ref f10))) (l10 : K.lookup f10 = some ⟨oc10, od10, .func (PySem.W.fnOf "_law_taken" "_law_taken" (defArgs s__law_taken) (defBody s__law_taken) (defScope s__law_taken) .none kV10 dc10 pm10 an10 cd10 ct10), sl10⟩) (c10 : PySem.W.codeIn K cd10 "_law_taken" = true) (k10 : PySem.W.keepIn K (.ref f10) = true)
    {f11 : Addr} {od11 an11 : Option Addr} {sl11 : Array (Option Value)} {oc11 kV11 dc11 pm11 cd11 ct11 : Value}
    (a11 : PySem.W.nsIn K mainGlobals "_law_spoilt" = some (some (.ref f11))) (l11 : K.lookup f11 = some ⟨oc11, od11, .func (PySem.W.fnOf "_law_spoilt" "_law_spoilt" (defArgs s__law_spoilt) (defBody s__law_spoilt) (defScope s__law_spoilt) .none kV11 dc11 pm11 an11 cd11 ct11), sl11⟩) (c11 : PySem.W.codeIn K cd11 "_law_spoilt" = true) (k11 : PySem.W.keepIn K (.ref f11) = true)
    {f12 : Addr} {od12 an12 : Option Addr} {sl12 : Array (Option Value)} {oc12 kV12 dc12 pm12 cd12 ct12 : Value}
    (a12 : PySem.W.nsIn K mainGlobals "_law_refused" = some (some (.ref f12))) (l12 : K.lookup f12 = some ⟨oc12, od12, .func (PySem.W.fnOf "_law_refused" "_law_refused" (defArgs s__law_refused) (defBody s__law_refused) (defScope s__law_refused) .none kV12 dc12 pm12 an12 cd12 ct12), sl12⟩) (c12 : PySem.W.codeIn K cd12 "_law_refused" = true) (k12 : PySem.W.keepIn K (.ref f12) = true)
    {f13 : Addr} {od13 an13 : Option Addr} {sl13 : Array (Option Value)} {oc13 kV13 dc13 pm13 cd13 ct13 : Value}
    (a13 : PySem.W.nsIn K mainGlobals "is_whole" = some (some (.ref f13))) (l13 : K.lookup f13 = some ⟨oc13, od13, .func (PySem.W.fnOf "is_whole" "is_whole" (defArgs s_is_whole) (defBody s_is_whole) (defScope s_is_whole) .none kV13 dc13 pm13 an13 cd13 ct13), sl13⟩) (c13 : PySem.W.codeIn K cd13 "is_whole" = true) (k13 : PySem.W.keepIn K (.ref f13) = true)
    {f14 : Addr} {od14 an14 : Option Addr} {sl14 : Array (Option Value)} {oc14 kV14 dc14 pm14 cd14 ct14 : Value}
    (a14 : PySem.W.nsIn K mainGlobals "law" = some (some (.ref f14))) (l14 : K.lookup f14 = some ⟨oc14, od14, .func (PySem.W.fnOf "law" "law" (defArgs s_law) (defBody s_law) (defScope s_law) .none kV14 dc14 pm14 an14 cd14 ct14), sl14⟩) (c14 : PySem.W.codeIn K cd14 "law" = true) (k14 : PySem.W.keepIn K (.ref f14) = true)
    (mr_NoAmount_NoShares : PySem.W.mroIn K C_NoAmount (.ref C_NoShares) = some false)
    (ms_NoAmount : PySem.W.mroIn K C_NoAmount (.ref C_NoAmount) = some true)
    (mr_NoAmount_NoEntry : PySem.W.mroIn K C_NoAmount (.ref C_NoEntry) = some false)
    (mr_NoAmount_NoWords : PySem.W.mroIn K C_NoAmount (.ref C_NoWords) = some false)
    (mr_NoAmount_TooDeep : PySem.W.mroIn K C_NoAmount (.ref C_TooDeep) = some false)
    (mr_NoAmount_NoClause : PySem.W.mroIn K C_NoAmount (.ref C_NoClause) = some false)
    (mr_NoAmount_NoCover : PySem.W.mroIn K C_NoAmount (.ref C_NoCover) = some false)
    (mr_NoAmount_NoBook : PySem.W.mroIn K C_NoAmount (.ref C_NoBook) = some false)
    (mr_NoAmount_Twice : PySem.W.mroIn K C_NoAmount (.ref C_Twice) = some false)
    (mr_NoAmount_Late : PySem.W.mroIn K C_NoAmount (.ref C_Late) = some false)
    (mr_NoAmount_NotTold : PySem.W.mroIn K C_NoAmount (.ref C_NotTold) = some false)
    (mr_NoAmount_TooWide : PySem.W.mroIn K C_NoAmount (.ref C_TooWide) = some false)
    (mr_NoAmount_NoText : PySem.W.mroIn K C_NoAmount (.ref C_NoText) = some false)
    (mr_NoAmount_NoRow : PySem.W.mroIn K C_NoAmount (.ref C_NoRow) = some false)
    (mr_NoAmount_NoAmount : PySem.W.mroIn K C_NoAmount (.ref C_NoAmount) = some true)
    (mr_NoAmount_ValueError : PySem.W.mroIn K C_NoAmount (.type "ValueError") = some true)
    (ic_Late : PySem.W.isClsIn K C_Late = true) (ti_Late : PySem.W.typeIn K (.ref C_Late) = some (.type "type"))
    (ic_NoAmount : PySem.W.isClsIn K C_NoAmount = true) (ti_NoAmount : PySem.W.typeIn K (.ref C_NoAmount) = some (.type "type"))
    (ic_NoBook : PySem.W.isClsIn K C_NoBook = true) (ti_NoBook : PySem.W.typeIn K (.ref C_NoBook) = some (.type "type"))
    (ic_NoClause : PySem.W.isClsIn K C_NoClause = true) (ti_NoClause : PySem.W.typeIn K (.ref C_NoClause) = some (.type "type"))
    (ic_NoCover : PySem.W.isClsIn K C_NoCover = true) (ti_NoCover : PySem.W.typeIn K (.ref C_NoCover) = some (.type "type"))
    (ic_NoEntry : PySem.W.isClsIn K C_NoEntry = true) (ti_NoEntry : PySem.W.typeIn K (.ref C_NoEntry) = some (.type "type"))
    (ic_NoRow : PySem.W.isClsIn K C_NoRow = true) (ti_NoRow : PySem.W.typeIn K (.ref C_NoRow) = some (.type "type"))
    (ic_NoShares : PySem.W.isClsIn K C_NoShares = true) (ti_NoShares : PySem.W.typeIn K (.ref C_NoShares) = some (.type "type"))
    (ic_NoText : PySem.W.isClsIn K C_NoText = true) (ti_NoText : PySem.W.typeIn K (.ref C_NoText) = some (.type "type"))
    (ic_NoWords : PySem.W.isClsIn K C_NoWords = true) (ti_NoWords : PySem.W.typeIn K (.ref C_NoWords) = some (.type "type"))
    (ic_NotTold : PySem.W.isClsIn K C_NotTold = true) (ti_NotTold : PySem.W.typeIn K (.ref C_NotTold) = some (.type "type"))
    (ic_TooDeep : PySem.W.isClsIn K C_TooDeep = true) (ti_TooDeep : PySem.W.typeIn K (.ref C_TooDeep) = some (.type "type"))
    (ic_TooWide : PySem.W.isClsIn K C_TooWide = true) (ti_TooWide : PySem.W.typeIn K (.ref C_TooWide) = some (.type "type"))
    (ic_Twice : PySem.W.isClsIn K C_Twice = true) (ti_Twice : PySem.W.typeIn K (.ref C_Twice) = some (.type "type"))
    (z_len : PySem.W.nsIn K mainGlobals "len" = some none)
    (z_str : PySem.W.nsIn K mainGlobals "str" = some none)
    (z_int : PySem.W.nsIn K mainGlobals "int" = some none)
    (z_isinstance : PySem.W.nsIn K mainGlobals "isinstance" = some none)
    (z_ValueError : PySem.W.nsIn K mainGlobals "ValueError" = some none)
    (z_bool : PySem.W.nsIn K mainGlobals "bool" = some none)
    (z_range : PySem.W.nsIn K mainGlobals "range" = some none)
    {tg_FIGURES : Tok} (g_FIGURES : PySem.W.nsIn K mainGlobals "FIGURES" = some (some (.str "0123456789" tg_FIGURES)))
    : ∃ fd : FuncData, (∀ (s : Shared) (v : Value), BindsTo s fd ⟨[v], []⟩ [("_law_script", v)]) ∧ ∀ base : Heap, K.In base → base.Ns mainGlobals mg → FnOk l.prog w K mg base CX0 5 fa fd ["_law_script"] (spLaw K) := by
  have e := hfa.symm.trans (PySem.W.mg_of X G a14)
  cases e
  have q_NoAmount_NoAmount := kit_true ic_NoAmount ti_NoAmount mr_NoAmount_NoAmount
  have q_NoAmount_NoShares := kit_false ms_NoAmount ic_NoShares ti_NoShares mr_NoAmount_NoShares
  have q_NoAmount_NoEntry := kit_false ms_NoAmount ic_NoEntry ti_NoEntry mr_NoAmount_NoEntry
  have q_NoAmount_NoWords := kit_false ms_NoAmount ic_NoWords ti_NoWords mr_NoAmount_NoWords
  have q_NoAmount_TooDeep := kit_false ms_NoAmount ic_TooDeep ti_TooDeep mr_NoAmount_TooDeep
  have q_NoAmount_NoClause := kit_false ms_NoAmount ic_NoClause ti_NoClause mr_NoAmount_NoClause
  have q_NoAmount_NoCover := kit_false ms_NoAmount ic_NoCover ti_NoCover mr_NoAmount_NoCover
  have q_NoAmount_NoBook := kit_false ms_NoAmount ic_NoBook ti_NoBook mr_NoAmount_NoBook
  have q_NoAmount_Twice := kit_false ms_NoAmount ic_Twice ti_Twice mr_NoAmount_Twice
  have q_NoAmount_Late := kit_false ms_NoAmount ic_Late ti_Late mr_NoAmount_Late
  have q_NoAmount_NotTold := kit_false ms_NoAmount ic_NotTold ti_NotTold mr_NoAmount_NotTold
  have q_NoAmount_TooWide := kit_false ms_NoAmount ic_TooWide ti_TooWide mr_NoAmount_TooWide
  have q_NoAmount_NoText := kit_false ms_NoAmount ic_NoText ti_NoText mr_NoAmount_NoText
  have q_NoAmount_NoRow := kit_false ms_NoAmount ic_NoRow ti_NoRow mr_NoAmount_NoRow
  have q_NoAmount_ValueError : PySem.W.kitOne K (.ref C_NoAmount) (.type "ValueError") = some true := kit_ty (by decide +kernel) mr_NoAmount_ValueError
  have z_len := PySem.W.mg_none_of X G z_len
  have z_str := PySem.W.mg_none_of X G z_str
  have z_int := PySem.W.mg_none_of X G z_int
  have z_isinstance := PySem.W.mg_none_of X G z_isinstance
  have z_ValueError := PySem.W.mg_none_of X G z_ValueError
  have z_bool := PySem.W.mg_none_of X G z_bool
  have z_range := PySem.W.mg_none_of X G z_range
  have g_FIGURES := PySem.W.mg_of X G g_FIGURES
  have F0 := fun_mk (st := s__law_cell) l0 c0 k0
  have b0 := F0.binds (ps := ["_law_script", "_law_k"]) fun _ _ _ _ _ _ us hl => match us, hl with | [_, _], _ => rfl
  have F1 := fun_mk (st := s__law_text) l1 c1 k1
  have b1 := F1.binds (ps := ["_law_cell_here", "_law_other_here"]) fun _ _ _ _ _ _ us hl => match us, hl with | [_, _], _ => rfl
  have F2 := fun_mk (st := s__law_read) l2 c2 k2
  have b2 := F2.binds (ps := ["_law_text_here"]) fun _ _ _ _ _ _ us hl => match us, hl with | [_], _ => rfl
  have F3 := fun_mk (st := s_all_figures) l3 c3 k3
  have b3 := F3.binds (ps := ["text"]) fun _ _ _ _ _ _ us hl => match us, hl with | [_], _ => rfl
  have F4 := fun_mk (st := s_read_cents) l4 c4 k4
  have b4 := F4.binds (ps := ["text"]) fun _ _ _ _ _ _ us hl => match us, hl with | [_], _ => rfl
  have F5 := fun_mk (st := s_all_figures) l5 c5 k5
  have b5 := F5.binds (ps := ["text"]) fun _ _ _ _ _ _ us hl => match us, hl with | [_], _ => rfl
  have F6 := fun_mk (st := s_read_cents) l6 c6 k6
  have b6 := F6.binds (ps := ["text"]) fun _ _ _ _ _ _ us hl => match us, hl with | [_], _ => rfl
  have F7 := fun_mk (st := s__law_other) l7 c7 k7
  have b7 := F7.binds (ps := ["_law_e"]) fun _ _ _ _ _ _ us hl => match us, hl with | [_], _ => rfl
  have F8 := fun_mk (st := s__law_refused) l8 c8 k8
  have b8 := F8.binds (ps := ["_law_thing"]) fun _ _ _ _ _ _ us hl => match us, hl with | [_], _ => rfl
  have F9 := fun_mk (st := s__law_whole) l9 c9 k9
  have b9 := F9.binds (ps := ["_law_found"]) fun _ _ _ _ _ _ us hl => match us, hl with | [_], _ => rfl
  have F10 := fun_mk (st := s__law_taken) l10 c10 k10
  have b10 := F10.binds (ps := ["_law_text_here"]) fun _ _ _ _ _ _ us hl => match us, hl with | [_], _ => rfl
  have F11 := fun_mk (st := s__law_spoilt) l11 c11 k11
  have b11 := F11.binds (ps := ["_law_text_here", "_law_cell_here"]) fun _ _ _ _ _ _ us hl => match us, hl with | [_, _], _ => rfl
  have F12 := fun_mk (st := s__law_refused) l12 c12 k12
  have b12 := F12.binds (ps := ["_law_thing"]) fun _ _ _ _ _ _ us hl => match us, hl with | [_], _ => rfl
  have F13 := fun_mk (st := s_is_whole) l13 c13 k13
  have b13 := F13.binds (ps := ["thing"]) fun _ _ _ _ _ _ us hl => match us, hl with | [_], _ => rfl
  have F14 := fun_mk (st := s_law) l14 c14 k14
  refine ⟨PySem.W.fnOf "law" "law" (defArgs s_law) (defBody s_law) (defScope s_law) .none kV14 dc14 pm14 an14 cd14 ct14, fun s v => .of_eq rfl, fun base _ _ => ?_⟩
  have n__law_cell : Fn1 l.prog w K mg base "_law_cell" 1 ["_law_script", "_law_k"] (sp__law_cell K) := ⟨_, _, PySem.W.mg_of X G a0, k0, b0, ok__law_cell F0 z_len⟩
  have n__law_text : Fn1 l.prog w K mg base "_law_text" 1 ["_law_cell_here", "_law_other_here"] (sp__law_text K) := ⟨_, _, PySem.W.mg_of X G a1, k1, b1, ok__law_text F1 z_str⟩
  have n__law_read : Fn1 l.prog w K mg base "_law_read" 1 ["_law_text_here"] (sp__law_read K) := ⟨_, _, PySem.W.mg_of X G a2, k2, b2, ok__law_read F2 z_len z_int⟩
  have n_all_figures : Fn1 l.prog w K mg base "all_figures" 1 ["text"] (sp_all_figures K) := ⟨_, _, PySem.W.mg_of X G a3, k3, b3, ok_all_figures F3 g_FIGURES⟩
  have n_read_cents : MH.Fn1E l.prog w K mg base "read_cents" 2 ["text"] (sp_read_cents K C_NoAmount) := ⟨_, _, PySem.W.mg_of X G a4, k4, b4, ok_read_cents F4 z_isinstance z_str z_len z_int ⟨xq_NoAmount, PySem.W.mg_of X G a_NoAmount, xk_NoAmount, xb_NoAmount, xt_NoAmount⟩ n_all_figures⟩
  have n_all_figures_h : Fn1Hot CX0 l.prog w K mg base "all_figures" 1 ["text"] (sp_all_figures K) := ⟨_, _, PySem.W.mg_of X G a5, k5, b5, ok_all_figures_h F5 g_FIGURES⟩
  have n_read_cents_h : Fn1Hot (L2.CX l.prog w) l.prog w K mg base "read_cents" 2 ["text"] (sp_read_cents K C_NoAmount) := ⟨_, _, PySem.W.mg_of X G a6, k6, b6, ok_read_cents_h F6 z_isinstance z_str z_len z_int ⟨xq_NoAmount, PySem.W.mg_of X G a_NoAmount, xk_NoAmount, xb_NoAmount, xt_NoAmount⟩ n_all_figures_h⟩
  have n__law_other : Fn1H0 l.prog w K mg base "_law_other" 1 ["_law_e"] (sp__law_other K C_NoAmount) := ⟨_, _, PySem.W.mg_of X G a7, k7, b7, ok__law_other F7 z_isinstance ⟨xg_NoAmount, xh_NoAmount, xb_NoAmount, xd_NoAmount, xa_NoAmount, xn0, xt0, xm_NoAmount⟩ (PySem.W.mg_of X G a_NoShares) q_NoAmount_NoShares (PySem.W.mg_of X G a_NoEntry) q_NoAmount_NoEntry (PySem.W.mg_of X G a_NoWords) q_NoAmount_NoWords (PySem.W.mg_of X G a_TooDeep) q_NoAmount_TooDeep (PySem.W.mg_of X G a_NoClause) q_NoAmount_NoClause (PySem.W.mg_of X G a_NoCover) q_NoAmount_NoCover (PySem.W.mg_of X G a_NoBook) q_NoAmount_NoBook (PySem.W.mg_of X G a_Twice) q_NoAmount_Twice (PySem.W.mg_of X G a_Late) q_NoAmount_Late (PySem.W.mg_of X G a_NotTold) q_NoAmount_NotTold (PySem.W.mg_of X G a_TooWide) q_NoAmount_TooWide (PySem.W.mg_of X G a_NoText) q_NoAmount_NoText (PySem.W.mg_of X G a_NoRow) q_NoAmount_NoRow⟩
  have n__law_refused_h : Fn1Hot CX0 l.prog w K mg base "_law_refused" 3 ["_law_thing"] (sp__law_refused K) := ⟨_, _, PySem.W.mg_of X G a8, k8, b8, ok__law_refused_h F8 z_isinstance z_ValueError (PySem.W.mg_of X G a_CoverError) (PySem.W.exm_ref xb_CoverError xd_CoverError xt_CoverError xs_NoAmount_CoverError) n_read_cents_h (PySem.W.mg_of X G a_NoAmount) ⟨xg_NoAmount, xh_NoAmount, xb_NoAmount, xd_NoAmount, xa_NoAmount, xn0, xt0, xm_NoAmount⟩ q_NoAmount_NoAmount q_NoAmount_ValueError n__law_other⟩
  have n__law_whole : Fn1 l.prog w K mg base "_law_whole" 1 ["_law_found"] (sp__law_whole K) := ⟨_, _, PySem.W.mg_of X G a9, k9, b9, ok__law_whole F9 z_isinstance z_int z_bool⟩
  have n__law_taken : Fn1 l.prog w K mg base "_law_taken" 4 ["_law_text_here"] (sp__law_taken K) := ⟨_, _, PySem.W.mg_of X G a10, k10, b10, ok__law_taken F10 n__law_read n_read_cents (PySem.W.mg_of X G a_NoAmount) (PySem.W.exm_ref xb_NoAmount xd_NoAmount xt_NoAmount xs_NoAmount_NoAmount) n__law_refused_h n__law_whole⟩
  have n__law_spoilt : Fn1 l.prog w K mg base "_law_spoilt" 1 ["_law_text_here", "_law_cell_here"] (sp__law_spoilt K) := ⟨_, _, PySem.W.mg_of X G a11, k11, b11, ok__law_spoilt F11 z_len⟩
  have n__law_refused : Fn1 l.prog w K mg base "_law_refused" 3 ["_law_thing"] (sp__law_refused K) := ⟨_, _, PySem.W.mg_of X G a12, k12, b12, ok__law_refused F12 z_isinstance z_ValueError (PySem.W.mg_of X G a_CoverError) (PySem.W.exm_ref xb_CoverError xd_CoverError xt_CoverError xs_NoAmount_CoverError) n_read_cents (PySem.W.mg_of X G a_NoAmount) ⟨xg_NoAmount, xh_NoAmount, xb_NoAmount, xd_NoAmount, xa_NoAmount, xn0, xt0, xm_NoAmount⟩ q_NoAmount_NoAmount q_NoAmount_ValueError n__law_other⟩
  have n_is_whole : Fn1 l.prog w K mg base "is_whole" 1 ["thing"] (sp_is_whole K) := ⟨_, _, PySem.W.mg_of X G a13, k13, b13, ok_is_whole F13 z_isinstance z_int z_bool⟩
  exact ok_law F14 z_range z_isinstance z_bool n__law_cell n__law_text n__law_taken n__law_spoilt n__law_refused n_is_whole n__law_whole
theorem walk {l : PySem.W.OpenLaw} {q : Program} {loose : List Str} {XP : (Str → Option Value) → Heap → Prop} {YP : World → Heap → Prop} {d : DefRec} {K : Params → PySem.W.Frag} (hn : l.most = some 63) (hdf : d.params.defaults = [])
    (hY : ∀ (w : World) (h : Heap), YP w h → (K w.params).In h)
    (F : ∀ (w : World) (mg : Str → Option Value) (fa : Addr) (h : Heap), (K w.params).In h → h.Ns mainGlobals mg → mg d.name = some (.ref fa) →
      ∃ fd : FuncData, (∀ (s : Shared) (u : Value), BindsTo s fd ⟨[u], []⟩ [("_law_script", u)]) ∧ ∀ base : Heap, (K w.params).In base → base.Ns mainGlobals mg → FnOk l.prog w (K w.params) mg base CX0 5 fa fd ["_law_script"] (spLaw (K w.params))) :
    PySem.W.WalkO q loose XP YP l.row.toRowW d [] (fun f vs => PySem.call f vs) :=
  L2.walk_of (n := 63) (k := 5) (x := "_law_script") (CX := fun _ => CX0) (sp := fun w => spLaw (K w.params)) hn (by decide) hdf ⟨rfl, by decide, by decide⟩ hY F (fun _ H a ns hl _ hS => spLaw_of hS hl) fun _ _ _ _ _ z => z
end K12

open PySem PySem.W PyProof.Rows in
set_option maxRecDepth 100000 in
set_option maxHeartbeats 0 in
theorem PySem.Challenge.cw_coverroll_k12_no_amounts_holds : PySem.Challenge.rw_coverroll_k12_no_amounts.Holds := by
  w_on; o_law; k_head; (case hw => w_witness2)
  k_fill
  refine K12.walk (l := PySem.Challenge.rw_coverroll_k12_no_amounts) rfl rfl (fun w h Y => PySem.W.kIn_of Y) ?F
  case F =>
    intro w mg fa h KX G hmg
    refine' K12.all_mk KX G hmg ?a_NoShares ?a_NoEntry ?a_NoWords ?a_TooDeep ?a_NoClause ?a_NoCover ?a_NoBook ?a_Twice ?a_Late ?a_NotTold ?a_TooWide ?a_NoText ?a_NoRow ?a_CoverError ?a_NoAmount ?xq_NoAmount ?xk_NoAmount ?xb_NoAmount ?xt_NoAmount ?xg_NoAmount ?xh_NoAmount ?xd_NoAmount ?xa_NoAmount ?xm_NoAmount ?xn0 ?xt0 ?xb_CoverError ?xd_CoverError ?xt_CoverError ?xs_NoAmount_CoverError ?xs_NoAmount_NoAmount ?a0 ?l0 ?c0 ?k0 ?a1 ?l1 ?c1 ?k1 ?a2 ?l2 ?c2 ?k2 ?a3 ?l3 ?c3 ?k3 ?a4 ?l4 ?c4 ?k4 ?a5 ?l5 ?c5 ?k5 ?a6 ?l6 ?c6 ?k6 ?a7 ?l7 ?c7 ?k7 ?a8 ?l8 ?c8 ?k8 ?a9 ?l9 ?c9 ?k9 ?a10 ?l10 ?c10 ?k10 ?a11 ?l11 ?c11 ?k11 ?a12 ?l12 ?c12 ?k12 ?a13 ?l13 ?c13 ?k13 ?a14 ?l14 ?c14 ?k14 ?mr_NoAmount_NoShares ?ms_NoAmount ?mr_NoAmount_NoEntry ?mr_NoAmount_NoWords ?mr_NoAmount_TooDeep ?mr_NoAmount_NoClause ?mr_NoAmount_NoCover ?mr_NoAmount_NoBook ?mr_NoAmount_Twice ?mr_NoAmount_Late ?mr_NoAmount_NotTold ?mr_NoAmount_TooWide ?mr_NoAmount_NoText ?mr_NoAmount_NoRow ?mr_NoAmount_NoAmount ?mr_NoAmount_ValueError ?ic_Late ?ti_Late ?ic_NoAmount ?ti_NoAmount ?ic_NoBook ?ti_NoBook ?ic_NoClause ?ti_NoClause ?ic_NoCover ?ti_NoCover ?ic_NoEntry ?ti_NoEntry ?ic_NoRow ?ti_NoRow ?ic_NoShares ?ti_NoShares ?ic_NoText ?ti_NoText ?ic_NoWords ?ti_NoWords ?ic_NotTold ?ti_NotTold ?ic_TooDeep ?ti_TooDeep ?ic_TooWide ?ti_TooWide ?ic_Twice ?ti_Twice ?z_len ?z_str ?z_int ?z_isinstance ?z_ValueError ?z_bool ?z_range ?g_FIGURES
    (case a_NoShares => k_is)
    (case a_NoEntry => k_is)
    (case a_NoWords => k_is)
    (case a_TooDeep => k_is)
    (case a_NoClause => k_is)
    (case a_NoCover => k_is)
    (case a_NoBook => k_is)
    (case a_Twice => k_is)
    (case a_Late => k_is)
    (case a_NotTold => k_is)
    (case a_TooWide => k_is)
    (case a_NoText => k_is)
    (case a_NoRow => k_is)
    (case a_CoverError => k_is)
    (case a_NoAmount => k_is)
    (case xq_NoAmount => k_exc)
    (case xk_NoAmount => k_is)
    (case xb_NoAmount => k_is)
    (case xt_NoAmount => k_is)
    (case xg_NoAmount => k_is)
    (case xh_NoAmount => k_is)
    (case xd_NoAmount => k_is)
    (case xa_NoAmount => k_is)
    (case xm_NoAmount => k_is)
    (case xn0 => k_is)
    (case xt0 => k_is)
    (case xb_CoverError => k_is)
    (case xd_CoverError => k_is)
    (case xt_CoverError => k_is)
    (case xs_NoAmount_CoverError => k_is)
    (case xs_NoAmount_NoAmount => k_is)
    (case a0 => k_is)
    (case l0 => k_is)
    (case c0 => k_is)
    (case k0 => k_is)
    (case a1 => k_is)
    (case l1 => k_is)
    (case c1 => k_is)
    (case k1 => k_is)
    (case a2 => k_is)
    (case l2 => k_is)
    (case c2 => k_is)
    (case k2 => k_is)
    (case a3 => k_is)
    (case l3 => k_is)
    (case c3 => k_is)
    (case k3 => k_is)
    (case a4 => k_is)
    (case l4 => k_is)
    (case c4 => k_is)
    (case k4 => k_is)
    (case a5 => k_is)
    (case l5 => k_is)
    (case c5 => k_is)
    (case k5 => k_is)
    (case a6 => k_is)
    (case l6 => k_is)
    (case c6 => k_is)
    (case k6 => k_is)
    (case a7 => k_is)
    (case l7 => k_is)
    (case c7 => k_is)
    (case k7 => k_is)
    (case a8 => k_is)
    (case l8 => k_is)
    (case c8 => k_is)
    (case k8 => k_is)
    (case a9 => k_is)
    (case l9 => k_is)
    (case c9 => k_is)
    (case k9 => k_is)
    (case a10 => k_is)
    (case l10 => k_is)
    (case c10 => k_is)
    (case k10 => k_is)
    (case a11 => k_is)
    (case l11 => k_is)
    (case c11 => k_is)
    (case k11 => k_is)
    (case a12 => k_is)
    (case l12 => k_is)
    (case c12 => k_is)
    (case k12 => k_is)
    (case a13 => k_is)
    (case l13 => k_is)
    (case c13 => k_is)
    (case k13 => k_is)
    (case a14 => k_is)
    (case l14 => k_is)
    (case c14 => k_is)
    (case k14 => k_is)
    (case mr_NoAmount_NoShares => k_is)
    (case ms_NoAmount => k_is)
    (case mr_NoAmount_NoEntry => k_is)
    (case mr_NoAmount_NoWords => k_is)
    (case mr_NoAmount_TooDeep => k_is)
    (case mr_NoAmount_NoClause => k_is)
    (case mr_NoAmount_NoCover => k_is)
    (case mr_NoAmount_NoBook => k_is)
    (case mr_NoAmount_Twice => k_is)
    (case mr_NoAmount_Late => k_is)
    (case mr_NoAmount_NotTold => k_is)
    (case mr_NoAmount_TooWide => k_is)
    (case mr_NoAmount_NoText => k_is)
    (case mr_NoAmount_NoRow => k_is)
    (case mr_NoAmount_NoAmount => k_is)
    (case mr_NoAmount_ValueError => k_is)
    (case ic_Late => k_is)
    (case ti_Late => k_is)
    (case ic_NoAmount => k_is)
    (case ti_NoAmount => k_is)
    (case ic_NoBook => k_is)
    (case ti_NoBook => k_is)
    (case ic_NoClause => k_is)
    (case ti_NoClause => k_is)
    (case ic_NoCover => k_is)
    (case ti_NoCover => k_is)
    (case ic_NoEntry => k_is)
    (case ti_NoEntry => k_is)
    (case ic_NoRow => k_is)
    (case ti_NoRow => k_is)
    (case ic_NoShares => k_is)
    (case ti_NoShares => k_is)
    (case ic_NoText => k_is)
    (case ti_NoText => k_is)
    (case ic_NoWords => k_is)
    (case ti_NoWords => k_is)
    (case ic_NotTold => k_is)
    (case ti_NotTold => k_is)
    (case ic_TooDeep => k_is)
    (case ti_TooDeep => k_is)
    (case ic_TooWide => k_is)
    (case ti_TooWide => k_is)
    (case ic_Twice => k_is)
    (case ti_Twice => k_is)
    (case z_len => k_is)
    (case z_str => k_is)
    (case z_int => k_is)
    (case z_isinstance => k_is)
    (case z_ValueError => k_is)
    (case z_bool => k_is)
    (case z_range => k_is)
    (case g_FIGURES => k_is)
