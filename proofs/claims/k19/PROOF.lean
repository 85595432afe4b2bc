import PyProof.Rows.All
import Wide.All
import OpenK.AllK
import Wide.FinOn
import HandS.ForMost
import HandS.IsInst
import HandS.ExcInit
import HandS.Exc
import HandS.Style
import HandS.Wide
import HandS.StrMore
import HandS.SetFor
import PyProof.LongRange
import HandS.Codes
import KE.SortData
import HandS.ClsMeth
import PyProof.Rows.StrRev
import PyProof.StrOps2
import HandS.Defaults
import HandS.More
import HandS.ExcOwn
import HandS.WordsExc
import HandS.TryOnly
import HandS.ExcIs
import HandS.Deep
import HandS.Text
import PyProof.EqKinds
import PyProof.P3In
import HandS.Dict
import PyProof.DictMoreH
import HandS.SetKeys
import KE.KDictWalk
import HandS.Iter
import HandS.Strs
import PyProof.Rows.SetFrom
import HandS.Head0
import HandS.Head1
import HandS.Head2
import HandS.HeadEnd
import HandS.HeadHook1
import HandS.HeadHook2
import HandS.List
import HandS.ExcValue
import HandS.ExcField
import KE.KExcIs
import KE.KExcLine
import PySem.Challenge.RW_coverroll_k19_refusals_apart
set_option Elab.async false
set_option linter.all false
set_option maxRecDepth 100000
set_option maxHeartbeats 4000000
namespace M
open PySem L2

/-- data that no one changes any more -/
inductive D where
  | non | bl (b : Bool) | int (i : Int) | str (x : Str) | ty (n : String) | opq (a : Addr) | exc (C : Addr) (f : Option (Str × Int))
  | tup (ds : List D) | lst (ds : List D) | ins (C : Addr) (ns : List Str) (ds : List D)
  | dct (ks : List Key) (ds : List D) | dctT (ks : List (List Key)) (ds : List D)
/-- an error: its class, its attribute -/
structure Er where
  C : Addr
  fld : Option (Str × D) := none
/-- things of the def's own, that may be changed; rs: nothing comes back, an error is raised; vw: a list that stays as it is while the def runs -/
inductive O where
  | fz (d : D) | vw (ds : List D) | lst (os : List O) | tup (os : List O) | ins (C : Addr) (ns : List Str) (os : List O)
  | dct (ks : List Key) (os : List O) | dctT (ks : List (List Key)) (os : List O)
  | at (a : Addr) (C : Addr) (ns : List Str) (os : List O)
  | vwa (a : Addr) (ds : List D)
  | loc (a : Addr) (o : O)
  | pt (a : Addr)
  | rs (e : Er)
  | lk (o : O)

def Ex (H H' : Hp) : Prop := ∀ a o, H a = some o → H' a = some o
theorem Ex.refl (H : Hp) : Ex H H := fun _ _ h => h
theorem Ex.trans {H H1 H2 : Hp} (a : Ex H H1) (b : Ex H1 H2) : Ex H H2 := fun x o h => b x o (a x o h)
theorem Ex.new {H : Hp} {p : Addr} {o : HO} (h : H p = none) : Ex H (upd H p o) := fun a u e => by
  rw [upd_ne (ne_of_none e h)]
  exact e
theorem Ex.free {H H' : Hp} {p : Addr} (e : Ex H H') (h : H' p = none) : H p = none := by
  cases h1 : H p with
  | none => rfl
  | some o =>
    rw [e p o h1] at h
    cases h
theorem Ex.mut {H H' : Hp} {p : Addr} {o : HO} (e : Ex H H') (h : H p = none) : Ex H (upd H' p o) := fun a u ha => by
  rw [upd_ne (ne_of_none ha h)]
  exact e a u ha
theorem ex_rd {H H' : Hp} {a : Addr} {u : HO} (e : Ex H H') (h : Rd H a u) : Rd H' a u := by
  rcases h with h | ⟨o, h⟩
  · exact .inl (e a _ h)
  · exact .inr ⟨o, e a _ h⟩
theorem ex_l {K : PySem.W.Frag} {H H' : Hp} {a : Addr} {xs : List V} (e : Ex H H') (h : SqL K H a xs) : SqL K H' a xs := by
  rcases h with h | h
  · exact .inl (ex_rd e h)
  · exact .inr h
theorem ex_t {K : PySem.W.Frag} {H H' : Hp} {a : Addr} {xs : List V} (e : Ex H H') (h : SqT K H a xs) : SqT K H' a xs := by
  rcases h with h | h
  · exact .inl (ex_rd e h)
  · exact .inr h

/-- the field that an error of its own class may have -/
def ExF (Z : Hp) (d : Option Addr) : Option (Str × Int) → Prop
  | none => d = none
  | some p => ∃ dd, d = some dd ∧ Z dd = some (exd dd [(p.1, .int p.2)])
theorem ExF.mono {Z Z' : Hp} {d : Option Addr} (e : Ex Z Z') : ∀ {f : Option (Str × Int)}, ExF Z d f → ExF Z' d f
  | none, h => h
  | some _, ⟨dd, h, q⟩ => ⟨dd, h, e _ _ q⟩
mutual
inductive Rep (K : PySem.W.Frag) (Z : Hp) : V → D → Prop where
  | non : Rep K Z .non .non
  | bl (b : Bool) : Rep K Z (.bl b) (.bl b)
  | int (i : Int) : Rep K Z (.int i) (.int i)
  | str (x : Str) : Rep K Z (.str x) (.str x)
  | ty (n : String) : Rep K Z (.ty n) (.ty n)
  | opq (a : Addr) : Rep K Z (.ref a) (.opq a)
  | exc {a C : Addr} {d : Option Addr} {f : Option (Str × Int)} : Z a = some (exo a C d) → ExF Z d f → Rep K Z (.ref a) (.exc C f)
  | tup {a : Addr} {vs : List V} {ds : List D} : SqT K Z a vs → RepL K Z vs ds → Rep K Z (.ref a) (.tup ds)
  | lst {a : Addr} {vs : List V} {ds : List D} : SqL K Z a vs → RepL K Z vs ds → Rep K Z (.ref a) (.lst ds)
  | ins {a C dx : Addr} {ns : List Str} {vs : List V} {ds : List D} : Z a = some (.ins C dx (ns.zip vs)) → RepL K Z vs ds → Rep K Z (.ref a) (.ins C ns ds)
  | dct {a : Addr} {ks : List Key} {vs : List V} {ds : List D} : Z a = some (.dK (ks.zip vs)) → RepL K Z vs ds → Rep K Z (.ref a) (.dct ks ds)
  | dctT {a : Addr} {ks : List (List Key)} {vs : List V} {ds : List D} : Z a = some (.dT (ks.zip vs)) → RepL K Z vs ds → Rep K Z (.ref a) (.dctT ks ds)
inductive RepL (K : PySem.W.Frag) (Z : Hp) : List V → List D → Prop where
  | nil : RepL K Z [] []
  | cons {v : V} {vs : List V} {d : D} {ds : List D} : Rep K Z v d → RepL K Z vs ds → RepL K Z (v :: vs) (d :: ds)
end
mutual
/-- a thing that is looked at: its cells lie in F -/
inductive RepK (K : PySem.W.Frag) (Z F : Hp) : V → O → Prop where
  | fz {v : V} {d : D} : Rep K Z v d → RepK K Z F v (.fz d)
  | vw {a : Addr} {vs : List V} {ds : List D} : SqL K F a vs → RepL K Z vs ds → RepK K Z F (.ref a) (.vw ds)
  | vwa {a : Addr} {vs : List V} {ds : List D} : SqL K F a vs → RepL K Z vs ds → RepK K Z F (.ref a) (.vwa a ds)
  | lst {a : Addr} {vs : List V} {os : List O} : F a = some (.lst vs) → RepKL K Z F vs os → RepK K Z F (.ref a) (.lst os)
  | tup {a : Addr} {vs : List V} {os : List O} : F a = some (.tup vs) → RepKL K Z F vs os → RepK K Z F (.ref a) (.tup os)
  | ins {a C dx : Addr} {ns : List Str} {vs : List V} {os : List O} : F a = some (.ins C dx (ns.zip vs)) → RepKL K Z F vs os → RepK K Z F (.ref a) (.ins C ns os)
  | at {a C dx : Addr} {ns : List Str} {vs : List V} {os : List O} : F a = some (.ins C dx (ns.zip vs)) → RepKL K Z F vs os → RepK K Z F (.ref a) (.at a C ns os)
  | dct {a : Addr} {ks : List Key} {vs : List V} {os : List O} : F a = some (.dK (ks.zip vs)) → RepKL K Z F vs os → RepK K Z F (.ref a) (.dct ks os)
  | dctT {a : Addr} {ks : List (List Key)} {vs : List V} {os : List O} : F a = some (.dT (ks.zip vs)) → RepKL K Z F vs os → RepK K Z F (.ref a) (.dctT ks os)
  | loc {a : Addr} {o : O} : RepK K Z F (.ref a) o → RepK K Z F (.ref a) (.loc a o)
  | pt {a : Addr} : RepK K Z F (.ref a) (.pt a)
  | lk {v : V} {o : O} : RepK K Z F v o → RepK K Z F v (.lk o)
inductive RepKL (K : PySem.W.Frag) (Z F : Hp) : List V → List O → Prop where
  | nil : RepKL K Z F [] []
  | cons {v : V} {vs : List V} {o : O} {os : List O} : RepK K Z F v o → RepKL K Z F vs os → RepKL K Z F (v :: vs) (o :: os)
end
mutual
inductive RepO (K : PySem.W.Frag) (Z F H : Hp) : V → O → List Addr → Prop where
  | fz {v : V} {d : D} : Rep K Z v d → RepO K Z F H v (.fz d) []
  | vw {a : Addr} {vs : List V} {ds : List D} : SqL K F a vs → RepL K Z vs ds → RepO K Z F H (.ref a) (.vw ds) []
  | vwa {a : Addr} {vs : List V} {ds : List D} : SqL K F a vs → RepL K Z vs ds → RepO K Z F H (.ref a) (.vwa a ds) []
  | lst {a : Addr} {vs : List V} {os : List O} {A : List Addr} : H a = some (.lst vs) → RepOL K Z F H vs os A → RepO K Z F H (.ref a) (.lst os) (a :: A)
  | tup {a : Addr} {vs : List V} {os : List O} {A : List Addr} : H a = some (.tup vs) → RepOL K Z F H vs os A → RepO K Z F H (.ref a) (.tup os) (a :: A)
  | ins {a C dx : Addr} {ns : List Str} {vs : List V} {os : List O} {A : List Addr} : H a = some (.ins C dx (ns.zip vs)) → RepOL K Z F H vs os A → RepO K Z F H (.ref a) (.ins C ns os) (a :: A)
  | at {a C dx : Addr} {ns : List Str} {vs : List V} {os : List O} {A : List Addr} : H a = some (.ins C dx (ns.zip vs)) → RepOL K Z F H vs os A → RepO K Z F H (.ref a) (.at a C ns os) (a :: A)
  | dct {a : Addr} {ks : List Key} {vs : List V} {os : List O} {A : List Addr} : H a = some (.dK (ks.zip vs)) → RepOL K Z F H vs os A → RepO K Z F H (.ref a) (.dct ks os) (a :: A)
  | dctT {a : Addr} {ks : List (List Key)} {vs : List V} {os : List O} {A : List Addr} : H a = some (.dT (ks.zip vs)) → RepOL K Z F H vs os A → RepO K Z F H (.ref a) (.dctT ks os) (a :: A)
  | loc {a : Addr} {o : O} {A : List Addr} : RepO K Z F H (.ref a) o A → RepO K Z F H (.ref a) (.loc a o) A
  | pt {a : Addr} : RepO K Z F H (.ref a) (.pt a) []
  | lk {v : V} {o : O} : RepK K Z F v o → RepO K Z F H v (.lk o) []
inductive RepOL (K : PySem.W.Frag) (Z F H : Hp) : List V → List O → List Addr → Prop where
  | nil : RepOL K Z F H [] [] []
  | cons {v : V} {vs : List V} {o : O} {os : List O} {A B : List Addr} : RepO K Z F H v o A → RepOL K Z F H vs os B → RepOL K Z F H (v :: vs) (o :: os) (A ++ B)
end

section
variable {K : PySem.W.Frag} {Z Z' F F' H H' : Hp}
mutual
theorem Rep.mono (e : Ex Z Z') : ∀ {v : V} {d : D}, Rep K Z v d → Rep K Z' v d
  | _, _, .non => .non
  | _, _, .bl b => .bl b
  | _, _, .int i => .int i
  | _, _, .str x => .str x
  | _, _, .ty n => .ty n
  | _, _, .opq a => .opq a
  | _, _, .exc h q => .exc (e _ _ h) (q.mono e)
  | _, _, .tup h r => .tup (ex_t e h) (RepL.mono e r)
  | _, _, .lst h r => .lst (ex_l e h) (RepL.mono e r)
  | _, _, .ins h r => .ins (e _ _ h) (RepL.mono e r)
  | _, _, .dct h r => .dct (e _ _ h) (RepL.mono e r)
  | _, _, .dctT h r => .dctT (e _ _ h) (RepL.mono e r)
theorem RepL.mono (e : Ex Z Z') : ∀ {vs : List V} {ds : List D}, RepL K Z vs ds → RepL K Z' vs ds
  | _, _, .nil => .nil
  | _, _, .cons h r => .cons (Rep.mono e h) (RepL.mono e r)
end
mutual
theorem RepK.mono (e : Ex Z Z') (f : Ex F F') : ∀ {v : V} {o : O}, RepK K Z F v o → RepK K Z' F' v o
  | _, _, .fz h => .fz (h.mono e)
  | _, _, .vw h r => .vw (ex_l f h) (r.mono e)
  | _, _, .vwa h r => .vwa (ex_l f h) (r.mono e)
  | _, _, .lst h r => .lst (f _ _ h) (RepKL.mono e f r)
  | _, _, .tup h r => .tup (f _ _ h) (RepKL.mono e f r)
  | _, _, .ins h r => .ins (f _ _ h) (RepKL.mono e f r)
  | _, _, .at h r => .at (f _ _ h) (RepKL.mono e f r)
  | _, _, .dct h r => .dct (f _ _ h) (RepKL.mono e f r)
  | _, _, .dctT h r => .dctT (f _ _ h) (RepKL.mono e f r)
  | _, .loc _ o, .loc h => .loc (RepK.mono (o := o) e f h)
  | _, _, .pt => .pt
  | _, .lk o, .lk h => .lk (RepK.mono (o := o) e f h)
theorem RepKL.mono (e : Ex Z Z') (f : Ex F F') : ∀ {vs : List V} {os : List O}, RepKL K Z F vs os → RepKL K Z' F' vs os
  | _, _, .nil => .nil
  | _, _, .cons h r => .cons (RepK.mono e f h) (RepKL.mono e f r)
end
mutual
theorem RepO.mono (e : Ex Z Z') (f : Ex F F') : ∀ {v : V} {o : O} {A : List Addr}, RepO K Z F H v o A → (∀ a ∈ A, ∀ u, H a = some u → H' a = some u) → RepO K Z' F' H' v o A
  | _, _, _, .fz h, _ => .fz (h.mono e)
  | _, _, _, .vw h r, _ => .vw (ex_l f h) (r.mono e)
  | _, _, _, .vwa h r, _ => .vwa (ex_l f h) (r.mono e)
  | _, _, _, .lk h, _ => .lk (h.mono e f)
  | _, _, _, .lst h r, k => .lst (k _ List.mem_cons_self _ h) (RepOL.mono e f r fun a m => k a (List.mem_cons_of_mem _ m))
  | _, _, _, .tup h r, k => .tup (k _ List.mem_cons_self _ h) (RepOL.mono e f r fun a m => k a (List.mem_cons_of_mem _ m))
  | _, _, _, .ins h r, k => .ins (k _ List.mem_cons_self _ h) (RepOL.mono e f r fun a m => k a (List.mem_cons_of_mem _ m))
  | _, _, _, .loc h, k => .loc (RepO.mono e f h k)
  | _, _, _, .pt, _ => .pt
  | _, _, _, .at h r, k => .at (k _ List.mem_cons_self _ h) (RepOL.mono e f r fun a m => k a (List.mem_cons_of_mem _ m))
  | _, _, _, .dct h r, k => .dct (k _ List.mem_cons_self _ h) (RepOL.mono e f r fun a m => k a (List.mem_cons_of_mem _ m))
  | _, _, _, .dctT h r, k => .dctT (k _ List.mem_cons_self _ h) (RepOL.mono e f r fun a m => k a (List.mem_cons_of_mem _ m))
theorem RepOL.mono (e : Ex Z Z') (f : Ex F F') : ∀ {vs : List V} {os : List O} {A : List Addr}, RepOL K Z F H vs os A → (∀ a ∈ A, ∀ u, H a = some u → H' a = some u) → RepOL K Z' F' H' vs os A
  | _, _, _, .nil, _ => .nil
  | _, _, _, .cons h r, k => .cons (RepO.mono e f h fun a m => k a (List.mem_append_left _ m)) (RepOL.mono e f r fun a m => k a (List.mem_append_right _ m))
end
mutual
theorem RepO.there : ∀ {v : V} {o : O} {A : List Addr}, RepO K Z F H v o A → ∀ a ∈ A, ∃ u, H a = some u
  | _, _, _, .fz _, _, m => nomatch m
  | _, _, _, .vw _ _, _, m => nomatch m
  | _, _, _, .vwa _ _, _, m => nomatch m
  | _, _, _, .lk _, _, m => nomatch m
  | _, _, _, .lst h r, a, m => (List.mem_cons.mp m).elim (fun e => ⟨_, e ▸ h⟩) fun m => RepOL.there r a m
  | _, _, _, .tup h r, a, m => (List.mem_cons.mp m).elim (fun e => ⟨_, e ▸ h⟩) fun m => RepOL.there r a m
  | _, _, _, .ins h r, a, m => (List.mem_cons.mp m).elim (fun e => ⟨_, e ▸ h⟩) fun m => RepOL.there r a m
  | _, _, _, .loc h, a, m => RepO.there h a m
  | _, _, _, .pt, _, m => nomatch m
  | _, _, _, .at h r, a, m => (List.mem_cons.mp m).elim (fun e => ⟨_, e ▸ h⟩) fun m => RepOL.there r a m
  | _, _, _, .dct h r, a, m => (List.mem_cons.mp m).elim (fun e => ⟨_, e ▸ h⟩) fun m => RepOL.there r a m
  | _, _, _, .dctT h r, a, m => (List.mem_cons.mp m).elim (fun e => ⟨_, e ▸ h⟩) fun m => RepOL.there r a m
theorem RepOL.there : ∀ {vs : List V} {os : List O} {A : List Addr}, RepOL K Z F H vs os A → ∀ a ∈ A, ∃ u, H a = some u
  | _, _, _, .nil, _, m => nomatch m
  | _, _, _, .cons h r, a, m => (List.mem_append.mp m).elim (fun m => RepO.there h a m) fun m => RepOL.there r a m
end
theorem RepO.ex {v : V} {o : O} {A : List Addr} (e : Ex Z Z') (g : Ex H H') (r : RepO K Z F H v o A) : RepO K Z' F H' v o A := r.mono e (Ex.refl _) fun a _ u h => g a u h
theorem RepKL.length : ∀ {vs : List V} {os : List O}, RepKL K Z F vs os → vs.length = os.length
  | _, _, .nil => rfl
  | _, _, .cons _ r => congrArg (· + 1) r.length
theorem RepKL.get : ∀ {vs : List V} {os : List O} {i : Nat} {o : O}, RepKL K Z F vs os → os[i]? = some o → ∃ v, vs[i]? = some v ∧ RepK K Z F v o
  | _, _, _, _, .nil, e => by simp at e
  | _, _, 0, _, .cons h _, e => by
    simp at e
    subst e
    exact ⟨_, rfl, h⟩
  | _, _, i + 1, o, .cons _ r, e => by
    obtain ⟨v, h1, h2⟩ := RepKL.get (i := i) (o := o) r (by simpa using e)
    exact ⟨v, by simpa using h1, h2⟩
theorem RepKL.fzs : ∀ {ds : List D} {vs : List V}, RepKL K Z F vs (ds.map .fz) → RepL K Z vs ds
  | [], _, .nil => .nil
  | _ :: _, _, .cons (.fz h) r => .cons h r.fzs
theorem RepL.length : ∀ {vs : List V} {ds : List D}, RepL K Z vs ds → vs.length = ds.length
  | _, _, .nil => rfl
  | _, _, .cons _ r => congrArg (· + 1) r.length
theorem RepL.get : ∀ {vs : List V} {ds : List D} {i : Nat} {d : D}, RepL K Z vs ds → ds[i]? = some d → ∃ v, vs[i]? = some v ∧ Rep K Z v d
  | _, _, _, _, .nil, e => by simp at e
  | _, _, 0, _, .cons h _, e => by
    simp at e
    subst e
    exact ⟨_, rfl, h⟩
  | _, _, i + 1, d, .cons _ r, e => by
    obtain ⟨v, h1, h2⟩ := RepL.get (i := i) (d := d) r (by simpa using e)
    exact ⟨v, by simpa using h1, h2⟩
theorem RepL.append : ∀ {vs ws : List V} {ds es : List D}, RepL K Z vs ds → RepL K Z ws es → RepL K Z (vs ++ ws) (ds ++ es)
  | _, _, _, _, .nil, s => s
  | _, _, _, _, .cons h r, s => .cons h (r.append s)
theorem RepL.set {v : V} {d : D} (h : Rep K Z v d) : ∀ {vs : List V} {ds : List D} (i : Nat), RepL K Z vs ds → RepL K Z (vs.set i v) (ds.set i d)
  | _, _, _, .nil => .nil
  | _, _, 0, .cons _ r => .cons h r
  | _, _, i + 1, .cons g r => .cons g (RepL.set h i r)
theorem RepL.take : ∀ {vs : List V} {ds : List D} (n : Nat), RepL K Z vs ds → RepL K Z (vs.take n) (ds.take n)
  | _, _, 0, _ => .nil
  | _, _, _ + 1, .nil => .nil
  | _, _, n + 1, .cons h r => .cons h (RepL.take n r)
theorem RepL.drop : ∀ {vs : List V} {ds : List D} (n : Nat), RepL K Z vs ds → RepL K Z (vs.drop n) (ds.drop n)
  | _, _, 0, r => r
  | _, _, _ + 1, .nil => .nil
  | _, _, n + 1, .cons _ r => RepL.drop n r
/-- a list of frozen things -/
theorem RepOL.fzs : ∀ {ds : List D} {vs : List V} {A : List Addr}, RepOL K Z F H vs (ds.map .fz) A → A = [] ∧ RepL K Z vs ds
  | [], _, _, .nil => ⟨rfl, .nil⟩
  | _ :: _, _, _, .cons (.fz h) r => by
    obtain ⟨e, q⟩ := RepOL.fzs r
    exact ⟨by rw [e]; rfl, .cons h q⟩
theorem RepL.own : ∀ {vs : List V} {ds : List D}, RepL K Z vs ds → RepOL K Z F H vs (ds.map .fz) []
  | _, _, .nil => .nil
  | _, _, .cons h r => .cons (A := []) (B := []) (.fz h) r.own
theorem RepL.ints : ∀ {ns : List Int} {vs : List V}, RepL K Z vs (ns.map .int) → vs = ns.map V.int
  | [], _, .nil => rfl
  | _ :: _, _, .cons (.int _) r => by rw [r.ints]; rfl
theorem RepL.ofInts : ∀ {ns : List Int}, RepL K Z (ns.map V.int) (ns.map .int)
  | [] => .nil
  | n :: r => .cons (.int n) (RepL.ofInts (ns := r))
end

mutual
def O.frz : O → D
  | .fz d => d
  | .vw ds => .lst ds
  | .vwa _ ds => .lst ds
  | .lk o => o.frz
  | .lst os => .lst (O.frzL os)
  | .tup os => .tup (O.frzL os)
  | .ins C ns os => .ins C ns (O.frzL os)
  | .at _ C ns os => .ins C ns (O.frzL os)
  | .loc _ o => o.frz
  | .pt a => .opq a
  | .rs _ => .non
  | .dct ks os => .dct ks (O.frzL os)
  | .dctT ks os => .dctT ks (O.frzL os)
def O.frzL : List O → List D
  | [] => []
  | o :: r => o.frz :: O.frzL r
end
mutual
def O.nv : O → Bool
  | .fz _ => true
  | .vw _ => false
  | .vwa _ _ => false
  | .lk _ => false
  | .lst os => O.nvL os
  | .tup os => O.nvL os
  | .ins _ _ os => O.nvL os
  | .at _ _ _ os => O.nvL os
  | .loc _ o => o.nv
  | .pt _ => true
  | .rs _ => false
  | .dct _ os => O.nvL os
  | .dctT _ os => O.nvL os
def O.nvL : List O → Bool
  | [] => true
  | o :: r => o.nv && O.nvL r
end
theorem O.frzL_fz : ∀ ds : List D, O.frzL (ds.map .fz) = ds
  | [] => rfl
  | d :: r => by
    show O.frz (.fz d) :: O.frzL (r.map .fz) = d :: r
    rw [O.frzL_fz r]
    rfl
theorem O.nvL_fz : ∀ ds : List D, O.nvL (ds.map .fz) = true
  | [] => rfl
  | d :: r => by
    show (O.nv (.fz d) && O.nvL (r.map .fz)) = true
    rw [O.nvL_fz r]
    rfl
section
variable {K : PySem.W.Frag} {Z Z' F H : Hp}
mutual
theorem RepO.frz (e : Ex Z Z') : ∀ {v : V} {o : O} {A : List Addr}, RepO K Z F H v o A → (∀ a ∈ A, Z' a = H a) → o.nv = true → Rep K Z' v o.frz
  | _, _, _, .fz h, _, _ => h.mono e
  | _, _, _, .vw _ _, _, n => nomatch n
  | _, _, _, .vwa _ _, _, n => nomatch n
  | _, _, _, .lk _, _, n => nomatch n
  | _, _, _, .lst h r, k, n => .lst (SqL.of ((k _ List.mem_cons_self).trans h)) (RepOL.frz e r (fun a m => k a (List.mem_cons_of_mem _ m)) n)
  | _, _, _, .tup h r, k, n => .tup (SqT.of ((k _ List.mem_cons_self).trans h)) (RepOL.frz e r (fun a m => k a (List.mem_cons_of_mem _ m)) n)
  | _, _, _, .ins h r, k, n => .ins ((k _ List.mem_cons_self).trans h) (RepOL.frz e r (fun a m => k a (List.mem_cons_of_mem _ m)) n)
  | _, .loc _ o, _, .loc h, k, n => by
    have h : RepO K Z F H _ o _ := h
    exact (show Rep K Z' _ o.frz from RepO.frz (o := o) e h k n)
  | _, _, _, .pt, _, _ => .opq _
  | _, _, _, .at h r, k, n => .ins ((k _ List.mem_cons_self).trans h) (RepOL.frz e r (fun a m => k a (List.mem_cons_of_mem _ m)) n)
  | _, _, _, .dct h r, k, n => .dct ((k _ List.mem_cons_self).trans h) (RepOL.frz e r (fun a m => k a (List.mem_cons_of_mem _ m)) n)
  | _, _, _, .dctT h r, k, n => .dctT ((k _ List.mem_cons_self).trans h) (RepOL.frz e r (fun a m => k a (List.mem_cons_of_mem _ m)) n)
theorem RepOL.frz (e : Ex Z Z') : ∀ {vs : List V} {os : List O} {A : List Addr}, RepOL K Z F H vs os A → (∀ a ∈ A, Z' a = H a) → O.nvL os = true → RepL K Z' vs (O.frzL os)
  | _, _, _, .nil, _, _ => .nil
  | _, _, _, .cons h r, k, n => .cons (RepO.frz e h (fun a m => k a (List.mem_append_left _ m)) (Bool.and_eq_true_iff.mp n).1) (RepOL.frz e r (fun a m => k a (List.mem_append_right _ m)) (Bool.and_eq_true_iff.mp n).2)
end
end
/-- Z and the cells at A -/
def frzAt (Z H : Hp) (A : List Addr) : Hp := fun a => if a ∈ A then H a else Z a
theorem frzAt_in {Z H : Hp} {A : List Addr} {a : Addr} (h : a ∈ A) : frzAt Z H A a = H a := if_pos h
theorem frzAt_out {Z H : Hp} {A : List Addr} {a : Addr} (h : a ∉ A) : frzAt Z H A a = Z a := if_neg h
theorem ex_frzAt {Z H : Hp} {A : List Addr} (e : Ex Z H) : Ex Z (frzAt Z H A) := fun a u h => by
  by_cases m : a ∈ A
  · rw [frzAt_in m]
    exact e a u h
  · rw [frzAt_out m]
    exact h
theorem frzAt_ex {Z H : Hp} {A : List Addr} (e : Ex Z H) : Ex (frzAt Z H A) H := fun a u h => by
  by_cases m : a ∈ A
  · rw [frzAt_in m] at h
    exact h
  · rw [frzAt_out m] at h
    exact e a u h

/-- the heap grows: frozen part Z, all H -/
structure Gr (Z H Z' H' : Hp) : Prop where
  zz : Ex Z Z'
  hh : Ex H H'
  zh : Ex Z' H'
  nw : ∀ a o, H a = some o → Z' a = Z a
theorem Gr.trans {Z H Z1 H1 Z2 H2 : Hp} (a : Gr Z H Z1 H1) (b : Gr Z1 H1 Z2 H2) : Gr Z H Z2 H2 :=
  ⟨a.zz.trans b.zz, a.hh.trans b.hh, b.zh, fun x o h => (b.nw x o (a.hh x o h)).trans (a.nw x o h)⟩
theorem Gr.refl {Z H : Hp} (h : Ex Z H) : Gr Z H Z H := ⟨Ex.refl _, Ex.refl _, h, fun _ _ _ => rfl⟩
/-- a new object that is not frozen -/
theorem Gr.new {Z H : Hp} {p : Addr} {o : HO} (h : Ex Z H) (hp : H p = none) : Gr Z H Z (upd H p o) := ⟨Ex.refl _, Ex.new hp, h.trans (Ex.new hp), fun _ _ _ => rfl⟩
/-- .. frozen at once -/
theorem Gr.newz {Z H : Hp} {p : Addr} {o : HO} (h : Ex Z H) (hp : H p = none) : Gr Z H (upd Z p o) (upd H p o) :=
  ⟨Ex.new (h.free hp), Ex.new hp, fun a u e => by
    by_cases ha : a = p
    · subst ha
      rw [upd_same] at e ⊢
      exact e
    · rw [upd_ne ha] at e ⊢
      exact h a u e, fun a u e => upd_ne (ne_of_none e hp)⟩

abbrev Slots := List (Option O)
inductive StL (K : PySem.W.Frag) (Z F H : Hp) : Slots → L2.St → List Addr → Prop where
  | nil : StL K Z F H [] [] []
  | no {s : Option V} {ρ : Slots} {σ : L2.St} {A : List Addr} : StL K Z F H ρ σ A → StL K Z F H (none :: ρ) (s :: σ) A
  | so {v : V} {o : O} {ρ : Slots} {σ : L2.St} {A B : List Addr} : RepO K Z F H v o A → StL K Z F H ρ σ B → StL K Z F H (some o :: ρ) (some v :: σ) (A ++ B)
structure StR (K : PySem.W.Frag) (ρ : Slots) (Z0 F Z : Hp) (σ : L2.St) (H : Hp) : Prop where
  gr : Gr Z0 F Z H
  st : ∃ A, StL K Z F H ρ σ A ∧ A.Nodup ∧ ∀ a ∈ A, Z a = none ∧ F a = none
section
variable {K : PySem.W.Frag} {Z0 Z Z' F H H' : Hp} {ρ : Slots} {σ : L2.St}
theorem StL.mono (e : Ex Z Z') : ∀ {ρ : Slots} {σ : L2.St} {A : List Addr}, StL K Z F H ρ σ A → (∀ a ∈ A, ∀ u, H a = some u → H' a = some u) → StL K Z' F H' ρ σ A
  | _, _, _, .nil, _ => .nil
  | _, _, _, .no h, k => .no (h.mono e k)
  | _, _, _, .so r h, k => .so (r.mono e (Ex.refl _) fun a m => k a (List.mem_append_left _ m)) (h.mono e fun a m => k a (List.mem_append_right _ m))
theorem StL.there : ∀ {ρ : Slots} {σ : L2.St} {A : List Addr}, StL K Z F H ρ σ A → ∀ a ∈ A, ∃ u, H a = some u
  | _, _, _, .nil, _, m => nomatch m
  | _, _, _, .no h, a, m => h.there a m
  | _, _, _, .so r h, a, m => (List.mem_append.mp m).elim (fun m => r.there a m) fun m => h.there a m
theorem StL.length : ∀ {ρ : Slots} {σ : L2.St} {A : List Addr}, StL K Z F H ρ σ A → σ.length = ρ.length
  | _, _, _, .nil => rfl
  | _, _, _, .no h => congrArg (· + 1) h.length
  | _, _, _, .so _ h => congrArg (· + 1) h.length
theorem StL.get : ∀ {ρ : Slots} {σ : L2.St} {A : List Addr} {i : Nat} {o : O}, StL K Z F H ρ σ A → ρ[i]? = some (some o) → ∃ v B, σ[i]? = some (some v) ∧ RepO K Z F H v o B ∧ ∀ a ∈ B, a ∈ A
  | _, _, _, _, _, .nil, e => by simp at e
  | _, _, _, 0, _, .no h, e => by simp at e
  | _, _, _, i + 1, _, .no h, e => by
    obtain ⟨v, B, h1, h2, h3⟩ := h.get (i := i) (by simpa using e)
    exact ⟨v, B, by simpa using h1, h2, h3⟩
  | _, _, _, 0, _, .so r h, e => by
    simp at e
    subst e
    exact ⟨_, _, rfl, r, fun a m => List.mem_append_left _ m⟩
  | _, _, _, i + 1, _, .so r h, e => by
    obtain ⟨v, B, h1, h2, h3⟩ := h.get (i := i) (by simpa using e)
    exact ⟨v, B, by simpa using h1, h2, fun a m => List.mem_append_right _ (h3 a m)⟩
/-- a slot is stored anew -/
theorem StL.put {v : V} {o : O} {B : List Addr} (r : RepO K Z F H v o B) : ∀ {ρ : Slots} {σ : L2.St} {A : List Addr} {i : Nat}, StL K Z F H ρ σ A → i < ρ.length → A.Nodup → B.Nodup → (∀ a ∈ B, a ∉ A) →
    ∃ A', StL K Z F H (ρ.set i (some o)) (σ.set i (some v)) A' ∧ A'.Nodup ∧ ∀ a ∈ A', a ∈ A ∨ a ∈ B
  | _, _, _, _, .nil, hi, _, _, _ => by simp at hi
  | _, _, _, 0, .no h, _, nA, nB, d => ⟨_, .so r h, by
      refine List.nodup_append.mpr ⟨nB, nA, fun a ha b hb e => ?_⟩
      subst e
      exact d a ha hb, fun a m => (List.mem_append.mp m).symm⟩
  | _, _, _, i + 1, .no h, hi, nA, nB, d => by
    obtain ⟨A', h1, h2, h3⟩ := StL.put r (i := i) h (by simpa using hi) nA nB d
    exact ⟨A', .no h1, h2, h3⟩
  | _, _, _, 0, .so (A := A1) (B := A2) _ h, _, nA, nB, d => ⟨_, .so r h, by
      refine List.nodup_append.mpr ⟨nB, (List.nodup_append.mp nA).2.1, fun a ha b hb e => ?_⟩
      subst e
      exact d a ha (List.mem_append_right _ hb), fun a m => (List.mem_append.mp m).elim .inr fun m => .inl (List.mem_append_right _ m)⟩
  | _, _, _, i + 1, .so (A := A1) (B := A2) q h, hi, nA, nB, d => by
    obtain ⟨n1, n2, n3⟩ := List.nodup_append.mp nA
    obtain ⟨A', h1, h2, h3⟩ := StL.put r (i := i) h (by simpa using hi) n2 nB fun a ha hb => d a ha (List.mem_append_right _ hb)
    refine ⟨_, .so q h1, List.nodup_append.mpr ⟨n1, h2, fun a ha b hb e => ?_⟩, fun a m => ?_⟩
    · subst e
      rcases h3 a hb with z | z
      · exact n3 a ha a z rfl
      · exact d a z (List.mem_append_left _ ha)
    · rcases List.mem_append.mp m with m | m
      · exact .inl (List.mem_append_left _ m)
      · exact (h3 a m).imp (List.mem_append_right _) id
/-- a slot's own thing is changed in place -/
theorem StL.at : ∀ {ρ : Slots} {σ : L2.St} {A : List Addr} {i : Nat} {o : O}, StL K Z F H ρ σ A → ρ[i]? = some (some o) → A.Nodup →
    ∃ v B, σ[i]? = some (some v) ∧ RepO K Z F H v o B ∧ B.Nodup ∧ (∀ a ∈ B, a ∈ A) ∧ ∀ {Z' H' : Hp} {v' : V} {o' : O} {B' : List Addr}, Ex Z Z' → (∀ a ∈ A, a ∉ B → ∀ u, H a = some u → H' a = some u) → RepO K Z' F H' v' o' B' → B'.Nodup → (∀ a ∈ B', a ∈ A → a ∈ B) →
      ∃ A', StL K Z' F H' (ρ.set i (some o')) (σ.set i (some v')) A' ∧ A'.Nodup ∧ ∀ a ∈ A', (a ∈ A ∧ a ∉ B) ∨ a ∈ B'
  | _, _, _, _, _, .nil, e, _ => by simp at e
  | _, _, _, 0, _, .no h, e, _ => by simp at e
  | _, _, _, i + 1, _, .no h, e, nA => by
    obtain ⟨v, B, h1, h2, h3, h4, h5⟩ := StL.at (i := i) h (by simpa using e) nA
    refine ⟨v, B, by simpa using h1, h2, h3, h4, fun ez k r n d => ?_⟩
    obtain ⟨A', q1, q2, q3⟩ := h5 ez k r n d
    exact ⟨A', .no q1, q2, q3⟩
  | _, _, _, 0, _, .so (A := A1) (B := A2) q h, e, nA => by
    simp at e
    subst e
    obtain ⟨n1, n2, n3⟩ := List.nodup_append.mp nA
    refine ⟨_, A1, rfl, q, n1, fun a m => List.mem_append_left _ m, fun ez k r n d => ?_⟩
    refine ⟨_, .so r (h.mono ez fun a m => k a (List.mem_append_right _ m) fun z => n3 a z a m rfl), List.nodup_append.mpr ⟨n, n2, fun a ha b hb e => ?_⟩, fun a m => ?_⟩
    · subst e
      exact n3 a (d a ha (List.mem_append_right _ hb)) a hb rfl
    · rcases List.mem_append.mp m with m | m
      · exact .inr m
      · exact .inl ⟨List.mem_append_right _ m, fun z => n3 a z a m rfl⟩
  | _, _, _, i + 1, _, .so (A := A1) (B := A2) q h, e, nA => by
    obtain ⟨n1, n2, n3⟩ := List.nodup_append.mp nA
    obtain ⟨v, B, h1, h2, h3, h4, h5⟩ := StL.at (i := i) h (by simpa using e) n2
    refine ⟨v, B, by simpa using h1, h2, h3, fun a m => List.mem_append_right _ (h4 a m), fun ez k r n d => ?_⟩
    obtain ⟨A', q1, q2, q3⟩ := h5 ez (fun a m nb => k a (List.mem_append_right _ m) nb) r n fun a m z => d a m (List.mem_append_right _ z)
    refine ⟨_, .so (q.mono ez (Ex.refl _) fun a m => k a (List.mem_append_left _ m) fun z => n3 a m a (h4 a z) rfl) q1, List.nodup_append.mpr ⟨n1, q2, fun a ha b hb e => ?_⟩, fun a m => ?_⟩
    · subst e
      rcases q3 a hb with z | z
      · exact n3 a ha a z.1 rfl
      · exact n3 a ha a (h4 a (d a z (List.mem_append_left _ ha))) rfl
    · rcases List.mem_append.mp m with m | m
      · exact .inl ⟨List.mem_append_left _ m, fun z => n3 a m a (h4 a z) rfl⟩
      · exact (q3 a m).imp (fun z => ⟨List.mem_append_right _ z.1, z.2⟩) id

theorem StR.ex (s : StR K ρ Z0 F Z σ H) : Ex Z H := s.gr.zh
theorem StR.grow (s : StR K ρ Z0 F Z σ H) (g : Gr Z H Z' H') : StR K ρ Z0 F Z' σ H' := by
  obtain ⟨A, h1, h2, h3⟩ := s.st
  refine ⟨s.gr.trans g, A, h1.mono g.zz fun a _ u e => g.hh a u e, h2, fun a m => ⟨?_, (h3 a m).2⟩⟩
  obtain ⟨u, e⟩ := h1.there a m
  rw [g.nw a u e]
  exact (h3 a m).1
theorem StR.len (s : StR K ρ Z0 F Z σ H) : σ.length = ρ.length := let ⟨_, h, _⟩ := s.st; h.length
/-- what is new: not there ahead, not frozen -/
def New (H Z' : Hp) (A : List Addr) : Prop := A.Nodup ∧ ∀ a ∈ A, H a = none ∧ Z' a = none
theorem New.nil {H Z' : Hp} : New H Z' [] := ⟨List.nodup_nil, fun _ m => nomatch m⟩
theorem StR.put {v : V} {o : O} {B : List Addr} {i : Nat} (s : StR K ρ Z0 F Z σ H) (g : Gr Z H Z' H') (r : RepO K Z' F H' v o B) (n : New H Z' B) (hi : i < ρ.length) : StR K (ρ.set i (some o)) Z0 F Z' (σ.set i (some v)) H' := by
  have s' := s.grow g
  obtain ⟨A, h1, h2, h3⟩ := s.st
  have m1 : StL K Z' F H' ρ σ A := h1.mono g.zz fun a _ u e => g.hh a u e
  obtain ⟨A', q1, q2, q3⟩ := StL.put r m1 hi h2 n.1 fun a ha hb => by
    obtain ⟨u, e⟩ := h1.there a hb
    rw [(n.2 a ha).1] at e
    cases e
  refine ⟨s'.gr, A', q1, q2, fun a m => ?_⟩
  rcases q3 a m with z | z
  · obtain ⟨u, e⟩ := h1.there a z
    exact ⟨(g.nw a u e).trans (h3 a z).1, (h3 a z).2⟩
  · exact ⟨(n.2 a z).2, s.gr.hh.free (n.2 a z).1⟩
theorem set_same {σ : L2.St} {i : Nat} {v : V} (q : σ[i]? = some (some v)) : σ.set i (some v) = σ := by
  apply List.ext_getElem?
  intro j
  by_cases hj : i = j
  · subst hj
    rw [List.getElem?_set_self (List.getElem?_eq_some_iff.mp q).1, q]
  · rw [List.getElem?_set_ne hj]
/-- a slot's own thing changes -/
theorem StR.upd {i : Nat} {o : O} (s : StR K ρ Z0 F Z σ H) (hi : ρ[i]? = some (some o)) : ∃ v A, σ[i]? = some (some v) ∧ RepO K Z F H v o A ∧ A.Nodup ∧ (∀ a ∈ A, Z a = none ∧ F a = none) ∧
    ∀ {Z' H' : Hp} {o' : O} {A' : List Addr}, Ex Z Z' → (∀ a u, H a = some u → Z' a = Z a) → Ex Z' H' → (∀ a, a ∉ A → ∀ u, H a = some u → H' a = some u) → RepO K Z' F H' v o' A' → A'.Nodup → (∀ a ∈ A', a ∈ A ∨ (H a = none ∧ Z' a = none)) →
      StR K (ρ.set i (some o')) Z0 F Z' σ H' := by
  obtain ⟨A, h1, h2, h3⟩ := s.st
  obtain ⟨v, B, q1, q2, q3, q4, q5⟩ := h1.at hi h2
  refine ⟨v, B, q1, q2, q3, fun a m => h3 a (q4 a m), fun {Z' H' o' A'} ez nz zh k r n d => ?_⟩
  obtain ⟨A2, r1, r2, r3⟩ := q5 (v' := v) ez (fun a _ nb u e => k a nb u e) r n fun a m ma => by
    rcases d a m with z | z
    · exact z
    · obtain ⟨u, e⟩ := h1.there a ma
      rw [z.1] at e
      cases e
  rw [set_same q1] at r1
  have hF : ∀ a u, F a = some u → a ∉ B := fun a u e m => by
    rw [(h3 a (q4 a m)).2] at e
    cases e
  refine ⟨⟨s.gr.zz.trans ez, fun a u e => k a (hF a u e) u (s.gr.hh a u e), zh, fun a u e => (nz a u (s.gr.hh a u e)).trans (s.gr.nw a u e)⟩, A2, r1, r2, fun a m => ?_⟩
  have old : ∀ a ∈ A, Z' a = none ∧ F a = none := fun a m => by
    obtain ⟨u, e⟩ := h1.there a m
    exact ⟨(nz a u e).trans (h3 a m).1, (h3 a m).2⟩
  rcases r3 a m with z | z
  · exact old a z.1
  · rcases d a z with y | y
    · exact old a (q4 a y)
    · exact ⟨y.2, s.gr.hh.free y.1⟩
/-- slots are forgotten -/
inductive Le : Slots → Slots → Prop where
  | nil : Le [] []
  | no {x : Option O} {ρ τ : Slots} : Le ρ τ → Le (x :: ρ) (none :: τ)
  | eq {x : Option O} {ρ τ : Slots} : Le ρ τ → Le (x :: ρ) (x :: τ)
theorem Le.refl : ∀ ρ : Slots, Le ρ ρ
  | [] => .nil
  | _ :: r => .eq (Le.refl r)
theorem StL.le : ∀ {ρ τ : Slots} {σ : L2.St} {A : List Addr}, Le ρ τ → StL K Z F H ρ σ A → A.Nodup → ∃ A', StL K Z F H τ σ A' ∧ A'.Nodup ∧ ∀ a ∈ A', a ∈ A
  | _, _, _, _, .nil, .nil, n => ⟨_, .nil, n, fun _ m => m⟩
  | _, _, _, _, .no l, .no h, n => by
    obtain ⟨A', q1, q2, q3⟩ := StL.le l h n
    exact ⟨A', .no q1, q2, q3⟩
  | _, _, _, _, .no l, .so _ h, n => by
    obtain ⟨A', q1, q2, q3⟩ := StL.le l h (List.nodup_append.mp n).2.1
    exact ⟨A', .no q1, q2, fun a m => List.mem_append_right _ (q3 a m)⟩
  | _, _, _, _, .eq l, .no h, n => by
    obtain ⟨A', q1, q2, q3⟩ := StL.le l h n
    exact ⟨A', .no q1, q2, q3⟩
  | _, _, _, _, .eq l, .so r h, n => by
    obtain ⟨n1, n2, n3⟩ := List.nodup_append.mp n
    obtain ⟨A', q1, q2, q3⟩ := StL.le l h n2
    refine ⟨_, .so r q1, List.nodup_append.mpr ⟨n1, q2, fun a ha b hb => n3 a ha b (q3 b hb)⟩, fun a m => ?_⟩
    rcases List.mem_append.mp m with m | m
    · exact List.mem_append_left _ m
    · exact List.mem_append_right _ (q3 a m)
theorem StR.le {τ : Slots} (s : StR K ρ Z0 F Z σ H) (l : Le ρ τ) : StR K τ Z0 F Z σ H := by
  obtain ⟨A, h1, h2, h3⟩ := s.st
  obtain ⟨A', q1, q2, q3⟩ := h1.le l h2
  exact ⟨s.gr, A', q1, q2, fun a m => h3 a (q3 a m)⟩
end
end M
namespace M
open PySem L2

def wE (X : Cx) (e : Expr) : TE := fun σ H Q => ∀ (pins : List (Addr × Obj)) (s : Shared), Inv X pins σ H s → wpAny (model X.prog X.w) X.A (eval e X.env) (EP X pins σ Q) X.xe s
def wT (X : Cx) (e : Expr) : TT := fun σ H Q => ∀ (pins : List (Addr × Obj)) (s : Shared), Inv X pins σ H s → wpAny (model X.prog X.w) X.A (isTrue e X.env (eval e X.env)) (TP X pins σ Q) X.xe s
def wA (X : Cx) (es : List Expr) : TA := fun σ H Q => ∀ (pos : Pos) (pins : List (Addr × Obj)) (s : Shared), Inv X pins σ H s → wpAny (model X.prog X.w) X.A (spliced (backTo pos (starEach es X.env))) (AP X pins σ Q) X.xe s
def wS1 (X : Cx) (st : Stmt) : TS := fun D σ H => ∀ (pins : List (Addr × Obj)) (s : Shared), Inv X pins σ H s → wpAny (model X.prog X.w) X.A (exec st X.env) (SP X pins D) X.xe s
def wS (X : Cx) (st : List Stmt) : TS := fun D σ H => ∀ (pins : List (Addr × Obj)) (s : Shared), Inv X pins σ H s → wpAny (model X.prog X.w) X.A (execs st X.env) (SP X pins D) X.xe s
section
variable {X : Cx} {e : Expr} {es : List Expr} {st : Stmt} {sts : List Stmt}
theorem pe_w : PE X e (wE X e) := ⟨fun pins s _ _ _ I h => h pins s I⟩
theorem pt_w : PT X e (wT X e) := ⟨fun pins s _ _ _ I h => h pins s I⟩
theorem pa_w : PA X es (wA X es) := ⟨fun pos pins s _ _ _ I h => h pos pins s I⟩
theorem ps_w : PS X st (wS1 X st) := ⟨fun pins s _ _ _ I h => h pins s I⟩
theorem pss_w : PSs X sts (wS X sts) := ⟨fun pins s _ _ _ I h => h pins s I⟩
theorem PE_w {t : TE} (p : PE X e t) {σ : L2.St} {H : Hp} {Q : VK} (h : t σ H Q) : wE X e σ H Q := fun pins s I => p.run pins s σ H Q I h
theorem PT_w {t : TT} (p : PT X e t) {σ : L2.St} {H : Hp} {Q : Bool → Hp → Prop} (h : t σ H Q) : wT X e σ H Q := fun pins s I => p.run pins s σ H Q I h
theorem PA_w {t : TA} (p : PA X es t) {σ : L2.St} {H : Hp} {Q : List V → Hp → Prop} (h : t σ H Q) : wA X es σ H Q := fun pos pins s I => p.run pos pins s σ H Q I h
theorem PS_w {t : TS} (p : PS X st t) {σ : L2.St} {H : Hp} {D : Ends} (h : t D σ H) : wS1 X st D σ H := fun pins s I => p.run pins s σ H D I h
theorem PSs_w {t : TS} (p : PSs X sts t) {σ : L2.St} {H : Hp} {D : Ends} (h : t D σ H) : wS X sts D σ H := fun pins s I => p.run pins s σ H D I h
end

/-- a new thing (or a frozen one) -/
structure ME (X : Cx) (ρ : Slots) (e : Expr) (o : O) : Prop where
  run : ∀ (Z0 F Z : Hp) (σ : L2.St) (H : Hp), StR X.K ρ Z0 F Z σ H → ∀ Q : VK,
  (∀ v Z' H' A, Gr Z H Z' H' → RepO X.K Z' F H' v o A → New H Z' A → Q v H') → wE X e σ H Q
/-- a thing that is looked at -/
structure MV (X : Cx) (ρ : Slots) (e : Expr) (o : O) : Prop where
  run : ∀ (Z0 F Z : Hp) (σ : L2.St) (H : Hp), StR X.K ρ Z0 F Z σ H → ∀ Q : VK,
  (∀ v Z' H' A, Gr Z H Z' H' → RepO X.K Z' F H' v o A → Q v H') → wE X e σ H Q
/-- a list that is looked at -/
structure ML (X : Cx) (ρ : Slots) (e : Expr) (ds : List D) : Prop where
  run : ∀ (Z0 F Z : Hp) (σ : L2.St) (H : Hp), StR X.K ρ Z0 F Z σ H → ∀ Q : VK,
  (∀ a vs Z' H', Gr Z H Z' H' → SqL X.K H' a vs → RepL X.K Z' vs ds → Q (.ref a) H') → wE X e σ H Q
/-- a tuple that is looked at -/
structure MU (X : Cx) (ρ : Slots) (e : Expr) (ds : List D) : Prop where
  run : ∀ (Z0 F Z : Hp) (σ : L2.St) (H : Hp), StR X.K ρ Z0 F Z σ H → ∀ Q : VK,
  (∀ a vs Z' H', Gr Z H Z' H' → SqT X.K H' a vs → RepL X.K Z' vs ds → Q (.ref a) H') → wE X e σ H Q
structure MT (X : Cx) (ρ : Slots) (e : Expr) (b : Bool) : Prop where
  run : ∀ (Z0 F Z : Hp) (σ : L2.St) (H : Hp), StR X.K ρ Z0 F Z σ H → ∀ Q : Bool → Hp → Prop,
  (∀ Z' H', Gr Z H Z' H' → Q b H') → wT X e σ H Q
/-- arguments: frozen things, lists that are looked at -/
structure MA (X : Cx) (ρ : Slots) (es : List Expr) (os : List O) : Prop where
  run : ∀ (Z0 F Z : Hp) (σ : L2.St) (H : Hp), StR X.K ρ Z0 F Z σ H → ∀ Q : List V → Hp → Prop,
  (∀ vs Z' H', Gr Z H Z' H' → RepOL X.K Z' H' H' vs os [] → Q vs H') → wA X es σ H Q
/-- what is handed back: own slots may go with it -/
structure MR (X : Cx) (ρ : Slots) (e : Expr) (o : O) : Prop where
  run : ∀ (Z0 F Z : Hp) (σ : L2.St) (H : Hp), StR X.K ρ Z0 F Z σ H → ∀ Q : VK,
  (∀ v Z' H' A, Gr Z H Z' H' → RepO X.K Z' F H' v o A → A.Nodup → (∀ a ∈ A, Z' a = none ∧ F a = none) → Q v H') → wE X e σ H Q

structure Go where
  nx : Slots → Prop := fun _ => False
  rt : O → Prop := fun _ => False
  bk : Slots → Prop := fun _ => False
  ct : Slots → Prop := fun _ => False
  rs : O → Slots → Prop := fun _ _ => False
/-- the error e is taken -/
def Thrown (K : PySem.W.Frag) (W : WX) (e : Er) (Z : Hp) (σ : L2.St) (H : Hp) : Prop := match e.fld with
  | none => W (.ref e.C) none σ H
  | some (f, d) => ∀ (a : Addr) (v : V), H a = none → Rep K Z v d → W (.ref e.C) (some a) σ (upd H a (.xd [(f, v)]))
/-- the errors r are taken -/
def GX (X : Cx) (Z0 F : Hp) (r : O → Prop) : Prop := ∃ W : WX, Takes X W ∧ ∀ (e : Er) (ρ : Slots) (Z : Hp) (σ : L2.St) (H : Hp), r (.rs e) → StR X.K ρ Z0 F Z σ H → Thrown X.K W e Z σ H
theorem GX.never {X : Cx} {Z0 F : Hp} {r : O → Prop} (n : ∀ e, ¬ r (.rs e)) : GX X Z0 F r := ⟨fun _ _ _ _ => False, fun _ _ ⟨_, _, _, _, _, _, _, _, _, _, _, _, _, _, _, _, w⟩ => w.elim, fun e _ _ _ _ k _ => (n e k).elim⟩
theorem GX.imp {X : Cx} {Z0 F : Hp} {r r' : O → Prop} (g : GX X Z0 F r) (h : ∀ o, r' o → r o) : GX X Z0 F r' := by
  obtain ⟨W, t, k⟩ := g
  exact ⟨W, t, fun e ρ Z σ H q s => k e ρ Z σ H (h _ q) s⟩
structure GD (X : Cx) (Z0 F : Hp) (G : Go) (D : Ends) : Prop where
  nx : ∀ ρ Z σ H, G.nx ρ → StR X.K ρ Z0 F Z σ H → D.nx σ H
  bk : ∀ ρ Z σ H, G.bk ρ → StR X.K ρ Z0 F Z σ H → D.bk σ H
  ct : ∀ ρ Z σ H, G.ct ρ → StR X.K ρ Z0 F Z σ H → D.ct σ H
  rt : ∀ o v Z H A, G.rt o → Gr Z0 F Z H → RepO X.K Z F H v o A → New F Z A → D.rt v H
  rs : ∀ o ρ v Z σ H, G.rs o ρ → StR X.K (ρ ++ [some o]) Z0 F Z (σ ++ [some v]) H → D.rt v H
  ex : GX X Z0 F G.rt
structure MS1 (X : Cx) (ρ : Slots) (st : Stmt) (G : Go) : Prop where
  run : ∀ (Z0 F Z : Hp) (σ : L2.St) (H : Hp) (D : Ends), StR X.K ρ Z0 F Z σ H → GD X Z0 F G D → wS1 X st D σ H
structure MS (X : Cx) (ρ : Slots) (sts : List Stmt) (G : Go) : Prop where
  run : ∀ (Z0 F Z : Hp) (σ : L2.St) (H : Hp) (D : Ends), StR X.K ρ Z0 F Z σ H → GD X Z0 F G D → wS X sts D σ H
/-- then the rest -/
def Go.th (G : Go) (X : Cx) (sts : List Stmt) : Go := { G with nx := fun ρ => MS X ρ sts G }

section
variable {X : Cx} {ρ : Slots} {e : Expr} {es : List Expr} {st : Stmt} {sts : List Stmt} {G : Go} {o : O} {d : D} {ds : List D} {pos : Pos}
theorem ms_nil (h : G.nx ρ) : MS X ρ [] G := .mk fun Z0 F Z σ H D s g => PSs_w pss_nil (g.nx ρ Z σ H h s)
theorem ms_cons (h : MS1 X ρ st (G.th X sts)) : MS X ρ (st :: sts) G := .mk fun Z0 F Z σ H D s g =>
  PSs_w (pss_cons ps_w pss_w) (h.run Z0 F Z σ H _ s ⟨fun ρ' Z' σ' H' m s' => m.run Z0 F Z' σ' H' D s' g, g.bk, g.ct, g.rt, g.rs, g.ex⟩)
theorem ms_one (h : MS1 X ρ st G) : MS X ρ [st] G := .mk fun Z0 F Z σ H D s g => PSs_w (pss_one ps_w) (h.run Z0 F Z σ H _ s g)

theorem ME.v (h : ME X ρ e o) : MV X ρ e o := .mk fun Z0 F Z σ H s Q q => h.run Z0 F Z σ H s Q fun v Z' H' A g r _ => q v Z' H' A g r
theorem MV.em (h : MV X ρ e (.fz d)) : ME X ρ e (.fz d) := .mk fun Z0 F Z σ H s Q q => h.run Z0 F Z σ H s Q fun v Z' H' A g r => by
  cases r with
  | fz r => exact q v Z' H' [] g (.fz r) .nil
theorem ME.r (h : ME X ρ e o) : MR X ρ e o := .mk fun Z0 F Z σ H s Q q => h.run Z0 F Z σ H s Q fun v Z' H' A g r n => q v Z' H' A g r n.1 fun a m => ⟨(n.2 a m).2, s.gr.hh.free (n.2 a m).1⟩
/-- the lists that can be looked at -/
inductive IsLst : O → List D → Prop where
  | fz (ds : List D) : IsLst (.fz (.lst ds)) ds
  | vw (ds : List D) : IsLst (.vw ds) ds
  | vwa (a : Addr) (ds : List D) : IsLst (.vwa a ds) ds
  | own (ds : List D) : IsLst (.lst (ds.map .fz)) ds
inductive IsTp : O → List D → Prop where
  | fz (ds : List D) : IsTp (.fz (.tup ds)) ds
  | own (ds : List D) : IsTp (.tup (ds.map .fz)) ds
theorem MV.l (h : MV X ρ e o) (i : IsLst o ds) : ML X ρ e ds := .mk fun Z0 F Z σ H s Q q => h.run Z0 F Z σ H s Q fun v Z' H' A g r => by
  cases i with
  | fz ds =>
    cases r with
    | fz r =>
      cases r with
      | lst a b => exact q _ _ Z' H' g (ex_l g.zh a) b
  | vw ds =>
    cases r with
    | vw a b => exact q _ _ Z' H' g (ex_l (s.gr.hh.trans g.hh) a) b
  | vwa a ds =>
    cases r with
    | vwa a b => exact q _ _ Z' H' g (ex_l (s.gr.hh.trans g.hh) a) b
  | own ds =>
    cases r with
    | lst a b => exact q _ _ Z' H' g (.of a) (RepOL.fzs b).2
theorem MV.u (h : MV X ρ e o) (i : IsTp o ds) : MU X ρ e ds := .mk fun Z0 F Z σ H s Q q => h.run Z0 F Z σ H s Q fun v Z' H' A g r => by
  cases i with
  | fz ds =>
    cases r with
    | fz r =>
      cases r with
      | tup a b => exact q _ _ Z' H' g (ex_t g.zh a) b
  | own ds =>
    cases r with
    | tup a b => exact q _ _ Z' H' g (.of a) (RepOL.fzs b).2





/-- a new thing is frozen at once -/
theorem ME.frz (h : ME X ρ e o) (n : o.nv = true) : ME X ρ e (.fz o.frz) := .mk fun Z0 F Z σ H s Q q => h.run Z0 F Z σ H s Q fun v Z' H' A g r w => by
  refine q v (frzAt Z' H' A) H' [] ⟨g.zz.trans (ex_frzAt g.zh), g.hh, frzAt_ex g.zh, fun a u e => ?_⟩ (.fz (r.frz (ex_frzAt g.zh) (fun a m => frzAt_in m) n)) .nil
  have na : a ∉ A := fun m => by
    rw [(w.2 a m).1] at e
    cases e
  rw [frzAt_out na]
  exact g.nw a u e
theorem ME.l (h : ME X ρ e (.lst (ds.map .fz))) : ML X ρ e ds := MV.l h.v (.own ds)

theorem mv_var {i : Nat} {x : Str} (p : PE X (.Name x pos) (tVar i)) (h : ρ[i]? = some (some o)) : MV X ρ (.Name x pos) o := .mk fun Z0 F Z σ H s Q q => by
  obtain ⟨A, h1, h2, h3⟩ := s.st
  obtain ⟨v, B, e, r, _⟩ := h1.get h
  exact PE_w p ⟨v, e, q v Z H B (Gr.refl s.ex) r⟩
theorem me_var {i : Nat} {x : Str} (p : PE X (.Name x pos) (tVar i)) (h : ρ[i]? = some (some (.fz d))) : ME X ρ (.Name x pos) (.fz d) := MV.em (mv_var p h)
/-- a value that is what it is -/
inductive Sc : D → V → Prop where
  | non : Sc .non .non
  | bl (b : Bool) : Sc (.bl b) (.bl b)
  | int (i : Int) : Sc (.int i) (.int i)
  | str (x : Str) : Sc (.str x) (.str x)
  | ty (n : String) : Sc (.ty n) (.ty n)
  | opq (a : Addr) : Sc (.opq a) (.ref a)
theorem Sc.rep {K : PySem.W.Frag} {Z : Hp} {v : V} (h : Sc d v) : Rep K Z v d := by
  cases h <;> constructor
theorem Sc.eq {K : PySem.W.Frag} {Z : Hp} {v w : V} (h : Sc d v) (r : Rep K Z w d) : w = v := by
  cases h <;> cases r <;> rfl
theorem me_c {v : V} (p : PE X e (tC v)) (h : Sc d v) : ME X ρ e (.fz d) := .mk fun Z0 F Z σ H s Q q => PE_w p (q v Z H [] (Gr.refl s.ex) (.fz h.rep) .nil)
theorem me_int {i : Int} {j : Nat} : ME X ρ (.Constant (.int i) j pos) (.fz (.int i)) := me_c pe_int (.int i)
theorem me_bl {b : Bool} {j : Nat} : ME X ρ (.Constant (.bool b) j pos) (.fz (.bl b)) := me_c pe_bl (.bl b)
theorem me_non {j : Nat} : ME X ρ (.Constant .none j pos) (.fz .non) := me_c pe_non .non
theorem me_str {x : Str} {j : Nat} : ME X ρ (.Constant (.str x) j pos) (.fz (.str x)) := me_c pe_str (.str x)

variable {a b : Expr} {d1 d2 d3 : D} {x y z : V}
theorem me_r2 {r : R2} {t : TE} (p : PE X e (tOp r (wE X a) (wE X b))) (ha : ME X ρ a (.fz d1)) (hb : ME X ρ b (.fz d2)) (s1 : Sc d1 x) (s2 : Sc d2 y) (s3 : Sc d3 z) (h : ∀ H (Q : VK), Q z H → r x y H Q) : ME X ρ e (.fz d3) := .mk fun Z0 F Z σ H s Q q => by
  refine PE_w p (ha.run Z0 F Z σ H s _ fun v Z1 H1 A1 g1 r1 n1 => ?_)
  refine hb.run Z0 F Z1 σ H1 (s.grow g1) _ fun w Z2 H2 A2 g2 r2 n2 => ?_
  cases r1 with
  | fz r1 =>
    cases r2 with
    | fz r2 =>
      rw [s1.eq r1, s2.eq r2]
      exact h H2 Q (q z Z2 H2 [] (g1.trans g2) (.fz s3.rep) .nil)
theorem me_op {op : Operator} {r : R2} (ho : OpR X (binaryOp op) r) (ha : ME X ρ a (.fz d1)) (hb : ME X ρ b (.fz d2)) (s1 : Sc d1 x) (s2 : Sc d2 y) (s3 : Sc d3 z) (h : ∀ H (Q : VK), Q z H → r x y H Q) : ME X ρ (.BinOp a op b pos) (.fz d3) :=
  me_r2 (t := tOp r (wE X a) (wE X b)) (pe_op ho pe_w pe_w) ha hb s1 s2 s3 h
variable {i j : Int}
theorem me_sub (ha : ME X ρ a (.fz (.int i))) (hb : ME X ρ b (.fz (.int j))) : ME X ρ (.BinOp a .Sub b pos) (.fz (.int (i - j))) := me_op op_sub ha hb (.int i) (.int j) (.int _) fun _ _ q => ⟨i, j, rfl, rfl, q⟩
theorem me_mod (ha : ME X ρ a (.fz (.int i))) (hb : ME X ρ b (.fz (.int j))) (c : 0 < j := by decide) : ME X ρ (.BinOp a .Mod b pos) (.fz (.int (i % j))) := me_op op_mod ha hb (.int i) (.int j) (.int _) fun _ _ q => ⟨i, j, rfl, rfl, c, q⟩
theorem me_pow (ha : ME X ρ a (.fz (.int i))) (hb : ME X ρ b (.fz (.int j))) (c : CPow i j := by exact ⟨by decide, by decide, by decide⟩) : ME X ρ (.BinOp a .Pow b pos) (.fz (.int (i ^ j.toNat))) := me_op op_pow ha hb (.int i) (.int j) (.int _) fun _ _ q => ⟨i, j, rfl, rfl, c, q⟩
variable {p q : Str}
theorem me_cat (ha : ME X ρ a (.fz (.str p))) (hb : ME X ρ b (.fz (.str q))) (c : p.length + q.length ≤ sizeLine) : ME X ρ (.BinOp a .Add b pos) (.fz (.str (p ++ q))) := me_op op_add_str ha hb (.str p) (.str q) (.str _) fun _ _ k => ⟨p, q, rfl, rfl, c, k⟩
theorem me_cmp {op : CmpOp} {r : R2} {k : Bool} (ho : OpR X (compareOp op) r) (ha : ME X ρ a (.fz d1)) (hb : ME X ρ b (.fz d2)) (s1 : Sc d1 x) (s2 : Sc d2 y) (h : ∀ H (Q : VK), Q (.bl k) H → r x y H Q) (hm : behindInMarks op b = false) : ME X ρ (.Compare a [op] [b] pos) (.fz (.bl k)) :=
  me_r2 (t := tOp r (wE X a) (wE X b)) (pe_cmpR ho pe_w pe_w hm) ha hb s1 s2 (.bl k) h
theorem mt_cmp {op : CmpOp} {r : R2} {k : Bool} (ho : OpR X (compareOp op) r) (ha : ME X ρ a (.fz d1)) (hb : ME X ρ b (.fz d2)) (s1 : Sc d1 x) (s2 : Sc d2 y) (h : ∀ H (Q : VK), Q (.bl k) H → r x y H Q) (hm : behindInMarks op b = false) : MT X ρ (.Compare a [op] [b] pos) k := .mk fun Z0 F Z σ H s Q q => by
  refine PT_w (pt_cmpR ho pe_w pe_w hm) (ha.run Z0 F Z σ H s _ fun v Z1 H1 A1 g1 r1 n1 => ?_)
  refine hb.run Z0 F Z1 σ H1 (s.grow g1) _ fun w Z2 H2 A2 g2 r2 n2 => ?_
  cases r1 with
  | fz r1 =>
    cases r2 with
    | fz r2 =>
      rw [s1.eq r1, s2.eq r2]
      exact h H2 _ ⟨k, rfl, q Z2 H2 (g1.trans g2)⟩
theorem mt_lt (ha : ME X ρ a (.fz (.int i))) (hb : ME X ρ b (.fz (.int j))) : MT X ρ (.Compare a [.Lt] [b] pos) (decide (i < j)) := mt_cmp op_lt ha hb (.int i) (.int j) (fun _ _ k => ⟨i, j, rfl, rfl, k⟩) (nomark _)
theorem me_eqI (ha : ME X ρ a (.fz (.int i))) (hb : ME X ρ b (.fz (.int j))) : ME X ρ (.Compare a [.Eq] [b] pos) (.fz (.bl (i == j))) := me_cmp op_eq ha hb (.int i) (.int j) (fun _ _ k => ⟨rfl, by rw [dec_int]; exact k⟩) (nomark _)
theorem mt_eqI (ha : ME X ρ a (.fz (.int i))) (hb : ME X ρ b (.fz (.int j))) : MT X ρ (.Compare a [.Eq] [b] pos) (i == j) := mt_cmp op_eq ha hb (.int i) (.int j) (fun _ _ k => ⟨rfl, by rw [dec_int]; exact k⟩) (nomark _)
/-- a value that is a bool, as a test -/
theorem mt_val {k : Bool} (ha : ME X ρ e (.fz (.bl k))) (he : ∀ whole, isTrue e X.env whole = (do let v ← whole; standAt e.pos; holding [v] (truthy v)) := by intro _; rfl) : MT X ρ e k := .mk fun Z0 F Z σ H s Q q => by
  refine PT_w (pt_val pe_w he) (ha.run Z0 F Z σ H s _ fun v Z1 H1 A1 g1 r1 n1 => ?_)
  cases r1 with
  | fz r1 =>
    cases r1
    exact ⟨k, rfl, q Z1 H1 g1⟩

def wW (X : Cx) (e : Expr) : TT := fun σ H Q => ∀ (whole : Sem Value) (pins : List (Addr × Obj)) (s : Shared), Inv X pins σ H s → wpAny (model X.prog X.w) X.A (isTrue e X.env whole) (TP X pins σ Q) X.xe s
theorem pw_w : PW X e (wW X e) := ⟨fun whole pins s _ _ _ I h => h whole pins s I⟩
theorem PW_w {t : TT} (p : PW X e t) {σ : L2.St} {H : Hp} {Q : Bool → Hp → Prop} (h : t σ H Q) : wW X e σ H Q := fun whole pins s I => p.run whole pins s σ H Q I h
structure MW (X : Cx) (ρ : Slots) (e : Expr) (b : Bool) : Prop where
  run : ∀ (Z0 F Z : Hp) (σ : L2.St) (H : Hp), StR X.K ρ Z0 F Z σ H → ∀ Q : Bool → Hp → Prop,
  (∀ Z' H', Gr Z H Z' H' → Q b H') → wW X e σ H Q
variable {k l : Bool} {rest : List Expr}
theorem MW.t (h : MW X ρ e k) : MT X ρ e k := .mk fun Z0 F Z σ H s Q q => PT_w (PW.pt pw_w) (h.run Z0 F Z σ H s Q q)
theorem mw_or1 (h : MT X ρ a k) : MW X ρ (.BoolOp .Or [a] pos) k := .mk fun Z0 F Z σ H s Q q => PW_w (pw_or1 pt_w) (h.run Z0 F Z σ H s Q q)
theorem mw_or (h : MT X ρ a k) (h2 : k = false → MW X ρ (.BoolOp .Or (b :: rest) pos) l) : MW X ρ (.BoolOp .Or (a :: b :: rest) pos) (k || l) := .mk fun Z0 F Z σ H s Q q =>
  PW_w (pw_or pt_w pw_w) (h.run Z0 F Z σ H s _ fun Z1 H1 g1 => by
    cases k with
    | true => exact q Z1 H1 g1
    | false => exact (h2 rfl).run Z0 F Z1 σ H1 (s.grow g1) Q fun Z2 H2 g2 => q Z2 H2 (g1.trans g2))
theorem mt_not (h : MT X ρ a k) : MT X ρ (.UnaryOp .Not a pos) (!k) := .mk fun Z0 F Z σ H s Q q => PT_w (pt_not pt_w) (h.run Z0 F Z σ H s _ fun Z1 H1 g1 => q Z1 H1 g1)
theorem me_one {op : BoolOp} (h : ME X ρ a o) : ME X ρ (.BoolOp op [a] pos) o := .mk fun Z0 F Z σ H s Q q => PE_w (pe_one pe_w) (h.run Z0 F Z σ H s Q q)
theorem me_and (h : ME X ρ a (.fz (.bl k))) (h2 : k = true → ME X ρ (.BoolOp .And (b :: rest) pos) (.fz (.bl l))) : ME X ρ (.BoolOp .And (a :: b :: rest) pos) (.fz (.bl (k && l))) := .mk fun Z0 F Z σ H s Q q =>
  PE_w (pe_and pe_w pe_w) (h.run Z0 F Z σ H s _ fun v Z1 H1 A1 g1 r1 n1 => by
    cases r1 with
    | fz r1 =>
      cases r1
      refine ⟨k, rfl, ?_⟩
      cases k with
      | true =>
        refine (h2 rfl).run Z0 F Z1 σ H1 (s.grow g1) Q fun w Z2 H2 A2 g2 r2 n2 => ?_
        cases r2 with
        | fz r2 => exact q w Z2 H2 [] (g1.trans g2) (.fz r2) .nil
      | false => exact q _ Z1 H1 [] g1 (.fz (.bl false)) .nil)
theorem me_not (h : ME X ρ a (.fz (.bl k))) : ME X ρ (.UnaryOp .Not a pos) (.fz (.bl (!k))) := .mk fun Z0 F Z σ H s Q q =>
  PE_w (pe_not pe_w) (h.run Z0 F Z σ H s _ fun v Z1 H1 A1 g1 r1 n1 => by
    cases r1 with
    | fz r1 =>
      cases r1
      exact ⟨k, rfl, q _ Z1 H1 [] g1 (.fz (.bl _)) .nil⟩)
/-- not starred -/
abbrev NS (X : Cx) (e : Expr) : Prop := ∀ es, starEach (e :: es) X.env = (false, eval e X.env) :: starEach es X.env
/-- frozen things -/
structure MF (X : Cx) (ρ : Slots) (es : List Expr) (ds : List D) : Prop where
  run : ∀ (Z0 F Z : Hp) (σ : L2.St) (H : Hp), StR X.K ρ Z0 F Z σ H → ∀ Q : List V → Hp → Prop,
  (∀ vs Z' H', Gr Z H Z' H' → RepL X.K Z' vs ds → Q vs H') → wA X es σ H Q
theorem mf_nil : MF X ρ [] [] := .mk fun Z0 F Z σ H s Q q => PA_w pa_nil (q [] Z H (Gr.refl s.ex) .nil)
theorem mf_cons (h : ME X ρ e (.fz d)) (h2 : MF X ρ es ds) (hs : starEach (e :: es) X.env = (false, eval e X.env) :: starEach es X.env := by rfl) : MF X ρ (e :: es) (d :: ds) := .mk fun Z0 F Z σ H s Q q =>
  PA_w (pa_cons pe_w pa_w hs) (h.run Z0 F Z σ H s _ fun v Z1 H1 A1 g1 r1 n1 => by
    cases r1 with
    | fz r1 => exact h2.run Z0 F Z1 σ H1 (s.grow g1) _ fun vs Z2 H2 g2 r2 => q _ Z2 H2 (g1.trans g2) (.cons (r1.mono g2.zz) r2))
theorem ma_nil : MA X ρ [] [] := .mk fun Z0 F Z σ H s Q q => PA_w pa_nil (q [] Z H (Gr.refl s.ex) .nil)
theorem ma_fz {os : List O} (h : ME X ρ e (.fz d)) (h2 : MA X ρ es os) (hs : starEach (e :: es) X.env = (false, eval e X.env) :: starEach es X.env := by rfl) : MA X ρ (e :: es) (.fz d :: os) := .mk fun Z0 F Z σ H s Q q =>
  PA_w (pa_cons pe_w pa_w hs) (h.run Z0 F Z σ H s _ fun v Z1 H1 A1 g1 r1 n1 => by
    cases r1 with
    | fz r1 => exact h2.run Z0 F Z1 σ H1 (s.grow g1) _ fun vs Z2 H2 g2 r2 => q _ Z2 H2 (g1.trans g2) (.cons (A := []) (B := []) (.fz (r1.mono g2.zz)) r2))
theorem ma_vw {os : List O} (h : ML X ρ e ds) (h2 : MA X ρ es os) (hs : starEach (e :: es) X.env = (false, eval e X.env) :: starEach es X.env := by rfl) : MA X ρ (e :: es) (.vw ds :: os) := .mk fun Z0 F Z σ H s Q q =>
  PA_w (pa_cons pe_w pa_w hs) (h.run Z0 F Z σ H s _ fun a vs Z1 H1 g1 l1 r1 =>
    h2.run Z0 F Z1 σ H1 (s.grow g1) _ fun ws Z2 H2 g2 r2 => q _ Z2 H2 (g1.trans g2) (.cons (A := []) (B := []) (.vw (ex_l g2.hh l1) (r1.mono g2.zz)) r2))
theorem new_one {H Z : Hp} {p : Addr} (h : H p = none) (h2 : Z p = none) : New H Z [p] := ⟨List.nodup_cons.mpr ⟨(fun m => nomatch m), List.nodup_nil⟩, fun a m => by
  cases List.mem_singleton.mp m
  exact ⟨h, h2⟩⟩
theorem me_lst (h : MF X ρ es ds) (hl : ds.length ≤ 1000 := by first | decide | (simp; done)) : ME X ρ (.List es pos) (.lst (ds.map .fz)) := .mk fun Z0 F Z σ H s Q q =>
  PE_w (pe_lst pa_w) (h.run Z0 F Z σ H s _ fun vs Z1 H1 g1 r1 => ⟨(by rw [r1.length]; exact Nat.le_of_lt (small1000 hl)), fun p hp => by
    refine q _ Z1 _ [p] (g1.trans (Gr.new g1.zh hp)) (.lst upd_same r1.own) (new_one (g1.hh.free hp) (g1.zh.free hp))⟩)

theorem RepL.atI {K : PySem.W.Frag} {Z : Hp} {vs : List V} {ds : List D} {i : Int} {d : D} (r : RepL K Z vs ds) (h : L2.atI ds i = some d) : ∃ v, L2.atI vs i = some v ∧ Rep K Z v d := by
  unfold L2.atI at h ⊢
  rw [r.length]
  cases e : ixN ds.length i with
  | none =>
    rw [e] at h
    cases h
  | some n =>
    rw [e] at h
    exact r.get h
theorem me_ixL (ha : ML X ρ a ds) (hb : ME X ρ b (.fz (.int i))) (h : L2.atI ds i = some d) (hp : PlainIx b := by exact fun _ _ => rfl) : ME X ρ (.Subscript a b pos) (.fz d) := .mk fun Z0 F Z σ H s Q q =>
  PE_w (pe_ix ix_list pe_w pe_w hp) (ha.run Z0 F Z σ H s _ fun l vs Z1 H1 g1 l1 r1 => hb.run Z0 F Z1 σ H1 (s.grow g1) _ fun w Z2 H2 A2 g2 r2 n2 => by
    cases r2 with
    | fz r2 =>
      cases r2
      obtain ⟨v, e, rv⟩ := (r1.mono g2.zz).atI h
      exact ⟨l, vs, i, v, rfl, rfl, ex_l g2.hh l1, e, q v Z2 H2 [] (g1.trans g2) (.fz rv) .nil⟩)
theorem RepOL.get {K : PySem.W.Frag} {Z F H : Hp} : ∀ {vs : List V} {os : List O} {A : List Addr} {i : Nat} {o : O}, RepOL K Z F H vs os A → os[i]? = some o → ∃ v B, vs[i]? = some v ∧ RepO K Z F H v o B
  | _, _, _, _, _, .nil, e => by simp at e
  | _, _, _, 0, _, .cons h _, e => by
    simp at e
    subst e
    exact ⟨_, _, rfl, h⟩
  | _, _, _, i + 1, _, .cons _ r, e => by
    obtain ⟨v, B, h1, h2⟩ := RepOL.get (i := i) r (by simpa using e)
    exact ⟨v, B, by simpa using h1, h2⟩
theorem RepOL.length {K : PySem.W.Frag} {Z F H : Hp} : ∀ {vs : List V} {os : List O} {A : List Addr}, RepOL K Z F H vs os A → vs.length = os.length
  | _, _, _, .nil => rfl
  | _, _, _, .cons _ r => congrArg (· + 1) r.length
theorem RepOL.atI {K : PySem.W.Frag} {Z F H : Hp} {vs : List V} {os : List O} {A : List Addr} {i : Int} {o : O} (r : RepOL K Z F H vs os A) (h : L2.atI os i = some o) : ∃ v B, L2.atI vs i = some v ∧ RepO K Z F H v o B := by
  unfold L2.atI at h ⊢
  rw [r.length]
  cases e : ixN os.length i with
  | none =>
    rw [e] at h
    cases h
  | some n =>
    rw [e] at h
    exact r.get h
variable {nm T id : Str} {p0 p1 p2 : Pos}
theorem me_len (hg : Gl X "len") (hm : X.mg "len" = none) (ha : ML X ρ a ds) (n1 : NS X a := by exact fun _ => rfl) : ME X ρ (.Call (.Name "len" p0) [a] [] pos) (.fz (.int (ds.length : Int))) := .mk fun Z0 F Z σ H s Q q =>
  PE_w (pe_callB call_len_seq hg hm boot_len (pa_cons pe_w pa_nil (n1 _)) (he := n1 _)) (ha.run Z0 F Z σ H s _ fun l vs Z1 H1 g1 l1 r1 => ⟨l, vs, rfl, .inl l1, by rw [r1.length]; exact q _ Z1 H1 [] g1 (.fz (.int _)) .nil⟩)
inductive MO (X : Cx) (ρ : Slots) : Option Expr → Option Int → Prop where
  | none : MO X ρ none none
  | some {e : Expr} {i : Int} (h : ME X ρ e (.fz (.int i))) : MO X ρ (some e) (some i)
theorem MO.run {eo : Option Expr} {io : Option Int} (h : MO X ρ eo io) : ∃ t, PO X eo t ∧ ∀ (Z0 F Z : Hp) (σ : L2.St) (H : Hp), StR X.K ρ Z0 F Z σ H → ∀ Q : Option Int → Hp → Prop, (∀ Z' H', Gr Z H Z' H' → Q io H') → t σ H Q := by
  cases h with
  | none => exact ⟨_, po_none, fun Z0 F Z σ H s Q q => q Z H (Gr.refl s.ex)⟩
  | @some e i h => exact ⟨_, po_some pe_w, fun Z0 F Z σ H s Q q => h.run Z0 F Z σ H s _ fun v Z1 H1 A1 g1 r1 n1 => by
      cases r1 with
      | fz r1 =>
        cases r1
        exact ⟨i, rfl, q Z1 H1 g1⟩⟩
def cutG {α : Type} (xs : List α) (lo hi : Option Int) : List α := (xs.drop (HT.sIx xs.length 0 lo)).take (HT.sIx xs.length xs.length hi - HT.sIx xs.length 0 lo)
theorem RepL.cut {K : PySem.W.Frag} {Z : Hp} {vs : List V} {ds : List D} (r : RepL K Z vs ds) (lo hi : Option Int) : RepL K Z (cutV vs lo hi) (cutG ds lo hi) := by
  unfold cutV cutG
  rw [r.length]
  exact (r.drop _).take _
def D.tyN : D → Option String
  | .non => some "NoneType"
  | .bl _ => some "bool"
  | .int _ => some "int"
  | .str _ => some "str"
  | .tup _ => some "tuple"
  | .lst _ => some "list"
  | .dct _ _ => some "dict"
  | .dctT _ _ => some "dict"
  | _ => none
def O.tyN : O → Option String
  | .fz d => d.tyN
  | .vw _ => some "list"
  | .vwa _ _ => some "list"
  | .lk o => o.tyN
  | .lst _ => some "list"
  | .tup _ => some "tuple"
  | .dct _ _ => some "dict"
  | .dctT _ _ => some "dict"
  | .ins _ _ _ => none
  | .at _ _ _ _ => none
  | .loc _ o => o.tyN
  | .pt _ => none
  | .rs _ => none
theorem sql_ty {K : PySem.W.Frag} {H : Hp} {l : Addr} {vs : List V} (h : SqL K H l vs) : TyX K H (.ref l) (.type "list") := by
  rcases h with (h | ⟨o, h⟩) | ⟨o, its, n, h, c, _⟩
  · exact .base (.lst h)
  · exact .base (.frz h)
  · exact .kList h c
theorem sqt_ty {K : PySem.W.Frag} {H : Hp} {l : Addr} {vs : List V} (h : SqT K H l vs) : TyX K H (.ref l) (.type "tuple") := by
  rcases h with (h | ⟨o, h⟩) | ⟨o, its, n, h, c, _⟩
  · exact .base (.tup h)
  · exact .fTuple h
  · exact .kTuple h c
theorem Rep.ty' {K : PySem.W.Frag} {Z H : Hp} {v : V} {d : D} {t : String} (e : Ex Z H) (r : Rep K Z v d) (h : d.tyN = some t) : TyX K H v (.type t) := by
  cases r with
  | non => cases h; exact .base .non
  | bl b => cases h; exact .base (.bl b)
  | int i => cases h; exact .base (.int i)
  | str x => cases h; exact .base (.str x)
  | ty n => cases h
  | opq a => cases h
  | exc a b => cases h
  | tup a b => cases h; exact sqt_ty (ex_t e a)
  | lst a b => cases h; exact sql_ty (ex_l e a)
  | ins a b => cases h
  | dct a b => cases h; exact .base (.dK (e _ _ a))
  | dctT a b => cases h; exact .base (.dT (e _ _ a))
theorem RepK.ty' {K : PySem.W.Frag} {Z F H : Hp} {t : String} (e : Ex Z H) (f : Ex F H) : ∀ {v : V} {o : O}, RepK K Z F v o → o.tyN = some t → TyX K H v (.type t)
  | _, _, .fz r, h => r.ty' e h
  | _, _, .vw a b, h => by cases h; exact sql_ty (ex_l f a)
  | _, _, .vwa a b, h => by cases h; exact sql_ty (ex_l f a)
  | _, .lk o, .lk r, h => RepK.ty' (o := o) e f r h
  | _, _, .lst a b, h => by cases h; exact .base (.lst (f _ _ a))
  | _, _, .tup a b, h => by cases h; exact .base (.tup (f _ _ a))
  | _, _, .ins a b, h => by cases h
  | _, _, .at a b, h => by cases h
  | _, _, .dct a b, h => by cases h; exact .base (.dK (f _ _ a))
  | _, _, .dctT a b, h => by cases h; exact .base (.dT (f _ _ a))
  | _, .loc _ o, .loc r, h => RepK.ty' (o := o) e f r h
  | _, _, .pt, h => by cases h
theorem RepO.ty' {K : PySem.W.Frag} {Z F H : Hp} {t : String} (e : Ex Z H) (f : Ex F H) : ∀ {v : V} {o : O} {A : List Addr}, RepO K Z F H v o A → o.tyN = some t → TyX K H v (.type t)
  | _, _, _, .fz r, h => r.ty' e h
  | _, _, _, .vw a b, h => by cases h; exact sql_ty (ex_l f a)
  | _, _, _, .vwa a b, h => by cases h; exact sql_ty (ex_l f a)
  | _, .lk o, _, .lk r, h => RepK.ty' (o := o) e f r h
  | _, _, _, .lst a b, h => by cases h; exact .base (.lst a)
  | _, _, _, .tup a b, h => by cases h; exact .base (.tup a)
  | _, _, _, .ins a b, h => by cases h
  | _, _, _, .at a b, h => by cases h
  | _, _, _, .dct a b, h => by cases h; exact .base (.dK a)
  | _, _, _, .dctT a b, h => by cases h; exact .base (.dT a)
  | _, _, _, .loc r, h => RepO.ty' e f r h
  | _, _, _, .pt, h => by cases h
theorem me_isi {T t : String} {TS : Str} {k : Bool} (hg : Gl X "isinstance") (hm : X.mg "isinstance" = none) (hT : PE X (.Name TS p1) (tC (.ty T))) (ha : MV X ρ a o) (ht : o.tyN = some t) (hk : kitB t T = some k) (n1 : NS X a := by exact fun _ => rfl) :
    ME X ρ (.Call (.Name "isinstance" p0) [a, .Name TS p1] [] pos) (.fz (.bl k)) := .mk fun Z0 F Z σ H s Q q =>
  PE_w (pe_callB call_isi hg hm (by decide +kernel) (pa_cons pe_w (pa_cons hT pa_nil) (n1 _)) (he := n1 _)) (ha.run Z0 F Z σ H s _ fun v Z1 H1 A1 g1 r1 =>
    ⟨v, .ty T, .type t, .type T, k, rfl, .ty T, r1.ty' g1.zh (s.gr.hh.trans g1.hh) ht, kit_ty hk, q _ Z1 H1 [] g1 (.fz (.bl k)) .nil⟩)
end
end M
namespace M
open PySem L2

section
variable {X : Cx} {ρ : Slots} {e : Expr} {es : List Expr} {st : Stmt} {sts : List Stmt} {G : Go} {o : O} {d : D} {ds : List D} {pos : Pos} {i : Nat}

theorem m_set (p : PS X st (tAsg (wE X e) (gName i))) (h : ME X ρ e o) (k : G.nx (ρ.set i (some o))) (hi : i < ρ.length := by exact Nat.le_of_ble_eq_true rfl) : MS1 X ρ st G := .mk fun Z0 F Z σ H D s g =>
  PS_w p (h.run Z0 F Z σ H s _ fun v Z1 H1 A g1 r n => g.nx _ Z1 _ H1 k (s.put g1 r n hi))
theorem m_ret (p : PS X st (tRet (wE X e))) (h : MR X ρ e o) (k : G.rt o) : MS1 X ρ st G := .mk fun Z0 F Z σ H D s g =>
  PS_w p (h.run Z0 F Z σ H s _ fun v Z1 H1 A g1 r n d => g.rt o v Z1 H1 A k (s.gr.trans g1) r ⟨n, fun a m => ⟨(d a m).2, (d a m).1⟩⟩)
theorem m_if {c : Expr} {a b : List Stmt} {t : Bool} (hc : MT X ρ c t) (h1 : t = true → MS X ρ a G) (h2 : t = false → MS X ρ b G) : MS1 X ρ (.If c a b pos) G := .mk fun Z0 F Z σ H D s g =>
  PS_w (ps_if pt_w pss_w pss_w) (hc.run Z0 F Z σ H s _ fun Z1 H1 g1 => by
    cases t with
    | true => exact (h1 rfl).run Z0 F Z1 σ H1 D (s.grow g1) g
    | false => exact (h2 rfl).run Z0 F Z1 σ H1 D (s.grow g1) g)
theorem ms_le {τ : Slots} (l : Le ρ τ) (h : MS X τ sts G) : MS X ρ sts G := .mk fun Z0 F Z σ H D s g => h.run Z0 F Z σ H D (s.le l) g
theorem Go.le {τ : Slots} (h : MS X τ sts G) : ∀ ρ, Le ρ τ → MS X ρ sts G := fun _ l => ms_le l h
/-- another end -/
theorem ms_imp {G' : Go} (h : MS X ρ sts G) (n : ∀ ρ, G.nx ρ → G'.nx ρ) (r : ∀ o, G.rt o → G'.rt o) (b : ∀ ρ, G.bk ρ → G'.bk ρ) (c : ∀ ρ, G.ct ρ → G'.ct ρ) (rs : ∀ o ρ, G.rs o ρ → G'.rs o ρ := by exact fun _ _ h => h) : MS X ρ sts G' := .mk fun Z0 F Z σ H D s g =>
  h.run Z0 F Z σ H D s ⟨fun ρ Z σ H k => g.nx ρ Z σ H (n ρ k), fun ρ Z σ H k => g.bk ρ Z σ H (b ρ k), fun ρ Z σ H k => g.ct ρ Z σ H (c ρ k), fun o v Z H A k => g.rt o v Z H A (r o k), fun o ρ v Z σ H k => g.rs o ρ v Z σ H (rs o ρ k), g.ex.imp r⟩
end
end M
namespace M
open PySem L2 PySem.Spec PyProof.Rows

section
variable {K : PySem.W.Frag} {Z0 Z Z' F H H' : Hp} {ρ : Slots} {σ : L2.St} {G : Go} {D : Ends}
/-- from a later beginning -/
theorem StR.rebase {H1 : Hp} (s : StR K ρ Z0 F Z σ H) : StR K ρ Z F Z σ H := ⟨⟨Ex.refl _, s.gr.hh, s.gr.zh, fun _ _ _ => rfl⟩, s.st⟩
theorem Gr.base {Z1 H1 : Hp} (g0 : Gr Z0 F Z1 H1) (g : Gr Z1 F Z H) : Gr Z0 F Z H := ⟨g0.zz.trans g.zz, g.hh, g.zh, fun a u e => (g.nw a u e).trans (g0.nw a u e)⟩
theorem StR.unbase {Z1 H1 : Hp} (g0 : Gr Z0 F Z1 H1) (s : StR K ρ Z1 F Z σ H) : StR K ρ Z0 F Z σ H := ⟨g0.base s.gr, s.st⟩
theorem GX.rebase {X : Cx} {Z1 H1 : Hp} {r : O → Prop} (g0 : Gr Z0 F Z1 H1) (g : GX X Z0 F r) : GX X Z1 F r := by
  obtain ⟨W, t, k⟩ := g
  exact ⟨W, t, fun e ρ Z σ H q s => k e ρ Z σ H q (s.unbase g0)⟩
theorem GD.rebase {X : Cx} {Z1 H1 : Hp} (g0 : Gr Z0 F Z1 H1) (g : GD X Z0 F G D) : GD X Z1 F G D :=
  ⟨fun ρ Z σ H k s => g.nx ρ Z σ H k (s.unbase g0), fun ρ Z σ H k s => g.bk ρ Z σ H k (s.unbase g0), fun ρ Z σ H k s => g.ct ρ Z σ H k (s.unbase g0), fun o v Z H A k r => g.rt o v Z H A k (g0.base r), fun o ρ v Z σ H k s => g.rs o ρ v Z σ H k (s.unbase g0), g.ex.rebase g0⟩
end

/-- a list that stands still -/
structure MK (X : Cx) (ρ : Slots) (e : Expr) (ds : List D) : Prop where
  run : ∀ (Z0 F Z : Hp) (σ : L2.St) (H : Hp), StR X.K ρ Z0 F Z σ H → ∀ Q : VK,
  (∀ a vs Z' H', Gr Z H Z' H' → (SqL X.K Z' a vs ∨ SqL X.K F a vs) → RepL X.K Z' vs ds → Q (.ref a) H') → wE X e σ H Q
/-- what is walked: n items, from the heap Zs (frozen) and F on -/
structure Wk (K : PySem.W.Frag) (Zs F : Hp) (J : It) (ds : List D) : Prop where
  go : ∀ (i : Nat) (d : D) (Z H : Hp), ds[i]? = some d → Ex Zs Z → Ex F H → Ex Z H → J.go i H ∧ ∀ x H', J.yld i H x H' → ∃ Z', Gr Z H Z' H' ∧ Rep K Z' x d
  stop : ∀ (Z H : Hp), Ex Zs Z → Ex F H → Ex Z H → J.stop ds.length H
structure MI (X : Cx) (ρ : Slots) (wi : TI) (ds : List D) : Prop where
  run : ∀ (Z0 F Z : Hp) (σ : L2.St) (H : Hp), StR X.K ρ Z0 F Z σ H → ∀ R : It → Hp → Prop,
  (∀ J Z' H', Gr Z H Z' H' → Wk X.K Z' F J ds → R J H') → wi σ H R
/-- a target: d is stored; the slots at ws change alone -/
structure MTg (g : TG) (K : PySem.W.Frag) (ρ : Slots) (d : D) (ρ' : Slots) (ws : List Nat) : Prop where
  run : ∀ (Z0 F Z : Hp) (σ : L2.St) (H : Hp) (v : V), StR K ρ Z0 F Z σ H → Rep K Z v d → ∀ Q : L2.St → Hp → Prop,
  (∀ σ', StR K ρ' Z0 F Z σ' H → (∀ vs : List Nat, (∀ w ∈ ws, w ∈ vs) → wipe σ' vs = wipe σ vs) → Q σ' H) → g v σ H Q
theorem wipe_get (σ : L2.St) : ∀ (vs : List Nat) (j : Nat), (wipe σ vs)[j]? = if j ∈ vs then (if j < σ.length then some none else none) else σ[j]?
  | [], j => by simp [wipe]
  | v :: vs, j => by
    unfold wipe
    rw [List.getElem?_set, wipe_length, wipe_get σ vs j]
    by_cases h : v = j
    · subst h
      by_cases hl : v < σ.length
      · simp [hl]
      · simp [hl]
    · have h2 : ¬ j = v := fun q => h q.symm
      simp [h, h2]
theorem wipe_set {σ : L2.St} {vs : List Nat} {i : Nat} {x : Option V} (h : i ∈ vs) : wipe (σ.set i x) vs = wipe σ vs := by
  apply List.ext_getElem?
  intro j
  rw [wipe_get, wipe_get, List.length_set]
  by_cases hj : j ∈ vs
  · rw [if_pos hj, if_pos hj]
  · rw [if_neg hj, if_neg hj]
    exact List.getElem?_set_ne (fun q => hj (by rw [← q]; exact h))
theorem wipe_wipe {σ : L2.St} {vs : List Nat} : wipe (wipe σ vs) vs = wipe σ vs := by
  apply List.ext_getElem?
  intro j
  rw [wipe_get, wipe_length, wipe_get]
  by_cases hj : j ∈ vs
  · rw [if_pos hj, if_pos hj]
  · rw [if_neg hj, if_neg hj]
section
variable {K : PySem.W.Frag} {ρ ρ' ρ2 : Slots} {d : D} {ds : List D} {i : Nat} {ws ws2 : List Nat}
theorem mg_name (hi : i < ρ.length := by exact Nat.le_of_ble_eq_true rfl) : MTg (gName i) K ρ d (ρ.set i (some (.fz d))) [i] := .mk fun Z0 F Z σ H v s r Q q =>
  q _ (s.put (Gr.refl s.ex) (.fz r) .nil hi) fun vs h => wipe_set (h i List.mem_cons_self)
end

section
variable {X : Cx} {ρ : Slots} {e : Expr} {es : List Expr} {st : Stmt} {sts : List Stmt} {G : Go} {o : O} {d : D} {ds : List D} {pos : Pos} {i : Nat}
theorem ME.k (h : ME X ρ e (.fz (.lst ds))) : MK X ρ e ds := .mk fun Z0 F Z σ H s Q q => h.run Z0 F Z σ H s Q fun v Z' H' A g r n => by
  cases r with
  | fz r =>
    cases r with
    | lst a b => exact q _ _ Z' H' g (.inl a) b
theorem MV.k (h : MV X ρ e (.vw ds)) : MK X ρ e ds := .mk fun Z0 F Z σ H s Q q => h.run Z0 F Z σ H s Q fun v Z' H' A g r => by
  cases r with
  | vw a b => exact q _ _ Z' H' g (.inr a) b
theorem MV.ka {a : Addr} (h : MV X ρ e (.vwa a ds)) : MK X ρ e ds := .mk fun Z0 F Z σ H s Q q => h.run Z0 F Z σ H s Q fun v Z' H' A g r => by
  cases r with
  | vwa a b => exact q _ _ Z' H' g (.inr a) b
theorem MK.l (h : MK X ρ e ds) : ML X ρ e ds := .mk fun Z0 F Z σ H s Q q => h.run Z0 F Z σ H s Q fun a vs Z' H' g l r => q a vs Z' H' g (l.elim (ex_l g.zh) (ex_l (s.gr.hh.trans g.hh))) r
def rng (lo : Int) (n : Nat) : List D := (List.range n).map fun k => .int (lo + (k : Nat))
theorem rng_len (lo : Int) (n : Nat) : (rng lo n).length = n := by simp [rng]
theorem rng_get {lo : Int} {n i : Nat} {d : D} (h : (rng lo n)[i]? = some d) : i < n ∧ d = .int (lo + (i : Nat)) := by
  unfold rng at h
  rw [List.getElem?_map] at h
  by_cases hi : i < n
  · rw [List.getElem?_range hi] at h
    exact ⟨hi, (Option.some.inj h).symm⟩
  · rw [List.getElem?_eq_none (by simpa using hi)] at h
    cases h
theorem wk_rng {K : PySem.W.Frag} {Zs F : Hp} (lo : Int) (n : Nat) : Wk K Zs F (Itr lo n) (rng lo n) := ⟨fun i d Z H h _ _ zh => by
    obtain ⟨hi, e⟩ := rng_get h
    subst e
    refine ⟨hi, fun x H' hy => ?_⟩
    obtain ⟨e, ex⟩ := hy
    subst e ex
    exact ⟨Z, Gr.refl zh, .int _⟩, fun Z H _ _ _ => Nat.le_of_eq (rng_len lo n).symm⟩
theorem mi_range1 {j : Int} (h : MF X ρ es [.int j]) (h1 : -(2 ^ 62) ≤ j) (h2 : j < 2 ^ 62) : MI X ρ (iRng1 (wA X es)) (rng 0 j.toNat) := .mk fun Z0 F Z σ H s R q => h.run Z0 F Z σ H s _ fun vs Z' H' g r => by
  cases r with
  | cons a r =>
    cases a
    cases r
    exact ⟨j, rfl, h1, h2, q _ Z' H' g (wk_rng 0 _)⟩
/-- for: I i holds ahead of turn i -/
theorem m_for {wi : TI} {g : TG} {body : List Stmt} (p : PS X st (tFor wi g (wS X body))) (h : MI X ρ wi ds) (I : Nat → Slots → Prop) (h0 : I 0 ρ)
    (hs : ∀ (j : Nat) (d : D) (τ : Slots), ds[j]? = some d → I j τ → ∃ τ' ws, MTg g X.K τ d τ' ws ∧ MS X τ' body { nx := I (j + 1), ct := I (j + 1), bk := G.nx, rt := G.rt, rs := G.rs })
    (hd : ∀ τ, I ds.length τ → G.nx τ) : MS1 X ρ st G := .mk fun Z0 F Z σ H D s gd => by
  refine PS_w p (h.run Z0 F Z σ H s _ fun J Z1 H1 g1 wk => ?_)
  have s1 := s.grow g1
  have g0 : Gr Z0 F Z1 H1 := s1.gr
  refine ⟨fun j m σ H => m = ds.length - j ∧ j ≤ ds.length ∧ ∃ τ Z2, I j τ ∧ StR X.K τ Z1 F Z2 σ H, ⟨ds.length, by simp, Nat.zero_le _, ρ, Z1, h0, ⟨⟨Ex.refl _, g0.hh, g0.zh, fun _ _ _ => rfl⟩, s1.st⟩⟩, ?_⟩
  rintro j m σ2 H2 ⟨rfl, hj, τ, Z2, hI, s2⟩
  by_cases hlt : j < ds.length
  · obtain ⟨d, ed⟩ : ∃ d, ds[j]? = some d := ⟨ds[j], by simp [hlt]⟩
    obtain ⟨w1, w2⟩ := wk.go j d Z2 H2 ed s2.gr.zz s2.gr.hh s2.gr.zh
    refine .inr ⟨w1, fun σ' H' => ∃ τ Z2, I (j + 1) τ ∧ StR X.K τ Z1 F Z2 σ' H', fun σ' H' q => ⟨ds.length - (j + 1), by omega, rfl, hlt, q⟩, fun x H3 hy => ?_⟩
    obtain ⟨Z3, g3, r3⟩ := w2 x H3 hy
    have s3 := s2.grow g3
    obtain ⟨τ', ws, t1, t2⟩ := hs j d τ ed hI
    refine t1.run Z1 F Z3 σ2 H3 x s3 r3 _ fun σ4 s4 _ => ?_
    exact t2.run Z1 F Z3 σ4 H3 _ s4 ⟨fun τ Z σ H k s => ⟨τ, Z, k, s⟩, fun τ Z σ H k s => gd.nx τ Z σ H k (s.unbase g0), fun τ Z σ H k s => ⟨τ, Z, k, s⟩, fun o v Z H A k gr r n => gd.rt o v Z H A k (g0.base gr) r n, fun o ρ v Z σ H k s => gd.rs o ρ v Z σ H k (s.unbase g0), gd.ex.rebase g0⟩
  · have e : j = ds.length := by omega
    subst e
    exact .inl ⟨wk.stop Z2 H2 s2.gr.zz s2.gr.hh s2.gr.zh, gd.nx τ Z2 σ2 H2 (hd τ hI) (s2.unbase g0)⟩
/-- the promise of a def: the arguments (frozen things, lists that stay as they are), what is handed back -/
def SpM {α : Type} (K : PySem.W.Frag) (ar : α → List O) (pre : α → Prop) (res : α → O) : Sp := fun vs H Q _ => ∃ (x : α) (Z : Hp), Ex Z H ∧ RepOL K Z H H vs (ar x) [] ∧ pre x ∧
  ∀ v Z' H' A, Gr Z H Z' H' → RepO K Z' (fun _ => none) H' v (res x) A → New H Z' A → Q v H'
theorem me_call {α : Type} {ar : α → List O} {pre : α → Prop} {res : α → O} {E : XK} (p : PE X e (tCall (SpM X.K ar pre res) [] E (wA X es))) (x : α) (ha : MA X ρ es (ar x)) (hp : pre x) : ME X ρ e (res x) := .mk fun Z0 F Z σ H s Q q =>
  PE_w p (ha.run Z0 F Z σ H s _ fun vs Z1 H1 g1 r1 => ⟨x, Z1, g1.zh, by rw [List.append_nil]; exact r1, hp, fun v Z2 H2 A g2 r2 n2 =>
    q v Z2 H2 A (g1.trans g2) (r2.mono (Ex.refl _) (fun _ _ z => by cases z) fun _ _ _ z => z) ⟨n2.1, fun a m => ⟨g1.hh.free (n2.2 a m).1, (n2.2 a m).2⟩⟩⟩)
mutual
theorem RepO.unF {K : PySem.W.Frag} {Z F F' H : Hp} : ∀ {v : V} {o : O} {A : List Addr}, RepO K Z F H v o A → o.nv = true → RepO K Z F' H v o A
  | _, _, _, .fz h, _ => .fz h
  | _, _, _, .vw _ _, n => nomatch n
  | _, _, _, .vwa _ _, n => nomatch n
  | _, _, _, .lk _, n => nomatch n
  | _, _, _, .lst h r, n => .lst h (RepOL.unF r n)
  | _, _, _, .tup h r, n => .tup h (RepOL.unF r n)
  | _, _, _, .ins h r, n => .ins h (RepOL.unF r n)
  | _, _, _, .at h r, n => .at h (RepOL.unF r n)
  | _, _, _, .loc h, n => .loc (RepO.unF h n)
  | _, _, _, .pt, _ => .pt
  | _, _, _, .dct h r, n => .dct h (RepOL.unF r n)
  | _, _, _, .dctT h r, n => .dctT h (RepOL.unF r n)
theorem RepOL.unF {K : PySem.W.Frag} {Z F F' H : Hp} : ∀ {vs : List V} {os : List O} {A : List Addr}, RepOL K Z F H vs os A → O.nvL os = true → RepOL K Z F' H vs os A
  | _, _, _, .nil, _ => .nil
  | _, _, _, .cons h r, n => .cons (RepO.unF h (Bool.and_eq_true_iff.mp n).1) (RepOL.unF r (Bool.and_eq_true_iff.mp n).2)
end
theorem stL_args {K : PySem.W.Frag} {Z F H : Hp} : ∀ {vs : List V} {os : List O} {A : List Addr}, RepOL K Z F H vs os A → StL K Z F H (os.map some) (vs.map some) A
  | _, _, _, .nil => .nil
  | _, _, _, .cons h r => .so h (stL_args r)
theorem stL_more {K : PySem.W.Frag} {Z F H : Hp} (n : Nat) : ∀ {ρ : Slots} {σ : L2.St} {A : List Addr}, StL K Z F H ρ σ A → StL K Z F H (ρ ++ List.replicate n none) (σ ++ List.replicate n none) A
  | _, _, _, .nil => by
    rw [List.nil_append, List.nil_append]
    induction n with
    | zero => exact .nil
    | succ n ih => exact .no ih
  | _, _, _, .no h => .no (stL_more n h)
  | _, _, _, .so r h => .so r (stL_more n h)
/-- a def's body keeps its promise -/
theorem fn_m {α : Type} {P : Program} {w : World} {K : PySem.W.Frag} {mg : Str → Option Value} {base : Heap} {x qual : Str} {st : Stmt} {f : Addr} {fd : FuncData} {N ps : List Str} {k : Nat} {ar : α → List O} {pre : α → Prop} {res : α → O}
    (F : Fun K x qual st f fd) (S : FnScope N ps (defScope st)) (hl : ∀ x, (ar x).length = ps.length) (hn : ∀ x, pre x → (res x).nv = true)
    (hb : ∀ (cdv : Value) (A : Around) (outer : List Env) (s : Shared) (H : Hp) (E : XK), Room k (A.deeper (envOfC qual (defScope st) s.heap.objs.size f cdv)) → ∀ x, pre x →
      MS (cxOf CX0 P w K mg base N qual (defScope st) f cdv A outer s H E).nox ((ar x).map some ++ List.replicate (N.length - ps.length) none) (defBody st) { nx := fun _ => res x = .fz .non, rt := fun o => o = res x }) :
    FnOk P w K mg base CX0 (k + 1) f fd ps (SpM K ar pre res) := by
  refine F.ok S (fun vs H Q E h => ?_) (fun cdv A outer s H vs Q E hr h => ?_)
  · obtain ⟨x, Z, _, r, _⟩ := h
    rw [r.length, hl]
  · obtain ⟨x, Z, ez, r, hp, q⟩ := h
    refine ⟨_, pss_w, (hb cdv A outer s H E hr x hp).run Z H Z _ H _ ⟨Gr.refl ez, [], ?_, List.nodup_nil, fun _ m => nomatch m⟩ ⟨fun ρ Z' σ H' e s' => ?_, fun _ _ _ _ z => z.elim, fun _ _ _ _ z => z.elim, fun o v Z' H' A e g r n => ?_, fun _ _ _ _ _ _ z => z.elim, GX.never fun e z => by
      have n := hn x hp
      rw [← show O.rs e = res x from z] at n
      cases n⟩⟩
    · have e : L2.start N vs = vs.map some ++ List.replicate (N.length - ps.length) none := by
        unfold L2.start
        rw [r.length, hl]
      rw [e]
      exact stL_more _ (stL_args r)
    · refine q _ Z' H' [] s'.gr ?_ .nil
      rw [e]
      exact .fz .non
    · subst e
      exact q _ Z' H' A g (r.unF (hn x hp)) n
end
end M
namespace M
open PySem L2 PySem.Spec PyProof.Rows

mutual
def D.py : D → PyData
  | .bl b => .bool b
  | .int i => .int i
  | .str x => .str x
  | .tup ds => .tuple (D.pyL ds)
  | .lst ds => .list (D.pyL ds)
  | _ => .none
def D.pyL : List D → List PyData
  | [] => []
  | d :: r => d.py :: D.pyL r
end
mutual
def D.pl : D → Bool
  | .non => true
  | .bl _ => true
  | .int _ => true
  | .str _ => true
  | .tup ds => D.plL ds
  | .lst ds => D.plL ds
  | _ => false
def D.plL : List D → Bool
  | [] => true
  | d :: r => d.pl && D.plL r
end
section
variable {K : PySem.W.Frag} {Z F H : Hp}
mutual
theorem Rep.dp (e : Ex Z H) : ∀ {v : V} {d : D}, Rep K Z v d → d.pl = true → Dp K H v d.py
  | _, _, .non, _ => .non
  | _, _, .bl b, _ => .bl b
  | _, _, .int i, _ => .int i
  | _, _, .str x, _ => .str x
  | _, _, .ty _, h => nomatch h
  | _, _, .opq _, h => nomatch h
  | _, _, .exc _ _, h => nomatch h
  | _, _, .tup a r, h => .tup (ex_t e a) (RepL.dp e r h)
  | _, _, .lst a r, h => .lst (ex_l e a) (RepL.dp e r h)
  | _, _, .ins _ _, h => nomatch h
  | _, _, .dct _ _, h => nomatch h
  | _, _, .dctT _ _, h => nomatch h
theorem RepL.dp (e : Ex Z H) : ∀ {vs : List V} {ds : List D}, RepL K Z vs ds → D.plL ds = true → DpAll K H vs (D.pyL ds)
  | _, _, .nil, _ => .nil
  | _, _, .cons a r, h => .cons (Rep.dp e a (Bool.and_eq_true_iff.mp h).1) (RepL.dp e r (Bool.and_eq_true_iff.mp h).2)
end
mutual
theorem RepK.dp (e : Ex Z H) (f : Ex F H) : ∀ {v : V} {o : O}, RepK K Z F v o → o.frz.pl = true → Dp K H v o.frz.py
  | _, _, .fz r, h => r.dp e h
  | _, _, .vw a r, h => .lst (ex_l f a) (r.dp e h)
  | _, _, .vwa a r, h => .lst (ex_l f a) (r.dp e h)
  | _, .lk o, .lk r, h => RepK.dp (o := o) e f r h
  | _, _, .lst a r, h => .lst (.of (f _ _ a)) (RepKL.dp e f r h)
  | _, _, .tup a r, h => .tup (.of (f _ _ a)) (RepKL.dp e f r h)
  | _, .loc _ o, .loc r, h => RepK.dp (o := o) e f r h
  | _, _, .pt, h => nomatch h
  | _, _, .ins _ _, h => nomatch h
  | _, _, .at _ _, h => nomatch h
  | _, _, .dct _ _, h => nomatch h
  | _, _, .dctT _ _, h => nomatch h
theorem RepKL.dp (e : Ex Z H) (f : Ex F H) : ∀ {vs : List V} {os : List O}, RepKL K Z F vs os → D.plL (O.frzL os) = true → DpAll K H vs (D.pyL (O.frzL os))
  | _, _, .nil, _ => .nil
  | _, _, .cons a r, h => .cons (RepK.dp e f a (Bool.and_eq_true_iff.mp h).1) (RepKL.dp e f r (Bool.and_eq_true_iff.mp h).2)
end
mutual
theorem RepO.dp (e : Ex Z H) (f : Ex F H) : ∀ {v : V} {o : O} {A : List Addr}, RepO K Z F H v o A → o.frz.pl = true → Dp K H v o.frz.py
  | _, _, _, .fz r, h => r.dp e h
  | _, _, _, .vw a r, h => .lst (ex_l f a) (r.dp e h)
  | _, _, _, .vwa a r, h => .lst (ex_l f a) (r.dp e h)
  | _, .lk o, _, .lk r, h => RepK.dp (o := o) e f r h
  | _, _, _, .lst a r, h => .lst (.of a) (RepOL.dp e f r h)
  | _, _, _, .tup a r, h => .tup (.of a) (RepOL.dp e f r h)
  | _, .loc _ o, _, .loc r, h => RepO.dp (o := o) e f r h
  | _, _, _, .pt, h => nomatch h
  | _, _, _, .ins _ _, h => nomatch h
  | _, _, _, .dct _ _, h => nomatch h
  | _, _, _, .dctT _ _, h => nomatch h
theorem RepOL.dp (e : Ex Z H) (f : Ex F H) : ∀ {vs : List V} {os : List O} {A : List Addr}, RepOL K Z F H vs os A → D.plL (O.frzL os) = true → DpAll K H vs (D.pyL (O.frzL os))
  | _, _, _, .nil, _ => .nil
  | _, _, _, .cons a r, h => .cons (RepO.dp e f a (Bool.and_eq_true_iff.mp h).1) (RepOL.dp e f r (Bool.and_eq_true_iff.mp h).2)
end
end
/-- data that can be compared -/
def D.ok (d : D) : Prop := d.pl = true ∧ SeqAt.shaped d.py = true
def D.eqv (d e : D) : Bool := PyData.eqv d.py e.py
section
variable {X : Cx} {ρ : Slots} {e a b elt : Expr} {es : List Expr} {st : Stmt} {sts : List Stmt} {G : Go} {o o1 o2 : O} {d : D} {ds : List D} {pos : Pos} {i : Nat}
theorem mt_rD {r : R2} {k : Bool} (p : PT X e (tTest (tOp r (wE X a) (wE X b)))) (ha : MV X ρ a o1) (hb : MV X ρ b o2) (h1 : o1.frz.pl = true) (h2 : o2.frz.pl = true)
    (h : ∀ x y H (Q : VK), Dp X.K H x o1.frz.py → Dp X.K H y o2.frz.py → Q (.bl k) H → r x y H Q) : MT X ρ e k := .mk fun Z0 F Z σ H s Q q => by
  refine PT_w p (ha.run Z0 F Z σ H s _ fun v Z1 H1 A1 g1 r1 => ?_)
  refine hb.run Z0 F Z1 σ H1 (s.grow g1) _ fun w Z2 H2 A2 g2 r2 => ?_
  have g := g1.trans g2
  exact h v w H2 _ ((r1.ex g2.zz g2.hh).dp g2.zh (s.gr.hh.trans g.hh) h1) (r2.dp g2.zh (s.gr.hh.trans g.hh) h2) ⟨k, rfl, q Z2 H2 g⟩
theorem mt_neD (hu : X.A.units + 64 < cLine) (ha : MV X ρ a o1) (hb : MV X ρ b o2) (h1 : o1.frz.ok) (h2 : o2.frz.ok) : MT X ρ (.Compare a [.NotEq] [b] pos) (!o1.frz.eqv o2.frz) :=
  mt_rD (pt_cmpR (op_neD hu) pe_w pe_w (nomark _)) ha hb h1.1 h2.1 fun x y H Q p1 p2 q => ⟨_, _, p1, p2, h1.2, h2.2, q⟩

/-- what is walked while nothing that stands changes -/
structure MIc (X : Cx) (ρ : Slots) (wi : TI) (ds : List D) : Prop where
  run : ∀ (Z0 F Z : Hp) (σ : L2.St) (H : Hp), StR X.K ρ Z0 F Z σ H → ∀ R : It → Hp → Prop,
  (∀ J Z' H', Gr Z H Z' H' → Wk X.K Z' H' J ds → R J H') → wi σ H R
theorem MI.c {wi : TI} (h : MI X ρ wi ds) : MIc X ρ wi ds := .mk fun Z0 F Z σ H s R q => h.run Z0 F Z σ H s R fun J Z' H' g wk =>
  q J Z' H' g ⟨fun i d Z2 H2 hd e f z => wk.go i d Z2 H2 hd e ((s.gr.hh.trans g.hh).trans f) z, fun Z2 H2 e f z => wk.stop Z2 H2 e ((s.gr.hh.trans g.hh).trans f) z⟩
def wipeS (ρ : Slots) : List Nat → Slots
  | [] => ρ
  | v :: vs => (wipeS ρ vs).set v none
theorem StL.none {K : PySem.W.Frag} {Z F H : Hp} (x : Option V) : ∀ {ρ : Slots} {σ : L2.St} {A : List Addr} (i : Nat), StL K Z F H ρ σ A → A.Nodup → ∃ A', StL K Z F H (ρ.set i Option.none) (σ.set i x) A' ∧ A'.Nodup ∧ ∀ a ∈ A', a ∈ A
  | _, _, _, _, .nil, n => ⟨_, .nil, n, fun _ m => m⟩
  | _, _, _, 0, .no h, n => ⟨_, .no h, n, fun _ m => m⟩
  | _, _, _, i + 1, .no h, n => by
    obtain ⟨A', q1, q2, q3⟩ := StL.none x i h n
    exact ⟨A', .no q1, q2, q3⟩
  | _, _, _, 0, .so _ h, n => ⟨_, .no h, (List.nodup_append.mp n).2.1, fun _ m => List.mem_append_right _ m⟩
  | _, _, _, i + 1, .so r h, n => by
    obtain ⟨n1, n2, n3⟩ := List.nodup_append.mp n
    obtain ⟨A', q1, q2, q3⟩ := StL.none x i h n2
    refine ⟨_, .so r q1, List.nodup_append.mpr ⟨n1, q2, fun a ha b hb => n3 a ha b (q3 b hb)⟩, fun a m => ?_⟩
    rcases List.mem_append.mp m with m | m
    · exact List.mem_append_left _ m
    · exact List.mem_append_right _ (q3 a m)
theorem StR.wipe {K : PySem.W.Frag} {Z0 F Z H : Hp} {σ : L2.St} (s : StR K ρ Z0 F Z σ H) : ∀ vs : List Nat, StR K (wipeS ρ vs) Z0 F Z (L2.wipe σ vs) H
  | [] => s
  | v :: vs => by
    obtain ⟨g, A, h1, h2, h3⟩ := StR.wipe s vs
    obtain ⟨A', q1, q2, q3⟩ := h1.none none v h2
    exact ⟨g, A', q1, q2, fun a m => h3 a (q3 a m)⟩
/-- the list that a comprehension makes -/
theorem lc_run {α : Type} {xs : List α} {enc : α → D} {wi : TI} {g : TG} {tt : TT} {te : TE} {vs : List Nat} (h : MIc X ρ wi (xs.map enc)) (pb : α → Bool) (f : α → D) (hz : xs.length < sizeLine)
    (hs : ∀ d ∈ xs, ∃ τ ws, MTg g X.K (wipeS ρ vs) (enc d) τ ws ∧ (∀ w ∈ ws, w ∈ vs) ∧
      (∀ (Z0 F Z : Hp) (σ : L2.St) (H : Hp), StR X.K τ Z0 F Z σ H → ∀ Q : Bool → Hp → Prop, (∀ Z' H', Gr Z H Z' H' → Q (pb d) H') → tt σ H Q) ∧
      (pb d = true → ∀ (Z0 F Z : Hp) (σ : L2.St) (H : Hp), StR X.K τ Z0 F Z σ H → ∀ Q : VK, (∀ v Z' H', Gr Z H Z' H' → Rep X.K Z' v (f d) → Q v H') → te σ H Q))
    {Z0 F Z : Hp} {σ : L2.St} {H : Hp} (s : StR X.K ρ Z0 F Z σ H) {Q : VK} (q : ∀ v Z' H' A, Gr Z H Z' H' → RepO X.K Z' F H' v (.lst (((xs.filter pb).map f).map .fz)) A → New H Z' A → Q v H') : tLc wi g tt te vs σ H Q := by
  refine h.run Z0 F Z σ H s _ fun J Z1 H1 g1 wk => ?_
  intro L hL
  have s1 := (s.grow g1).wipe vs
  refine ⟨fun j m H2 => m = xs.length - j ∧ j ≤ xs.length ∧ ∃ Z2 acc, Gr Z1 H1 Z2 H2 ∧ H2 L = some (.lst acc) ∧ Z2 L = none ∧ RepL X.K Z2 acc (((xs.take j).filter pb).map f),
    ⟨xs.length, by simp, Nat.zero_le _, Z1, [], Gr.new g1.zh hL, upd_same, g1.zh.free hL, .nil⟩, ?_⟩
  rintro j m H2 ⟨rfl, hj, Z2, acc, g2, hacc, zL, racc⟩
  by_cases hlt : j < xs.length
  · have ed : (xs.map enc)[j]? = some (enc xs[j]) := by simp [hlt]
    obtain ⟨w1, w2⟩ := wk.go j _ Z2 H2 ed g2.zz g2.hh g2.zh
    refine .inr ⟨w1, fun H3 => j + 1 ≤ xs.length ∧ ∃ Z2 acc, Gr Z1 H1 Z2 H3 ∧ H3 L = some (.lst acc) ∧ Z2 L = none ∧ RepL X.K Z2 acc (((xs.take (j + 1)).filter pb).map f), fun H3 q => ⟨xs.length - (j + 1), by omega, rfl, q⟩, fun x H3 hy => ?_⟩
    obtain ⟨Z3, g3, r3⟩ := w2 x H3 hy
    obtain ⟨τ, ws, t1, t2, t3, t4⟩ := hs _ (List.getElem_mem hlt)
    have g13 := g2.trans g3
    have etake : xs.take (j + 1) = xs.take j ++ [xs[j]] := (List.take_append_getElem hlt).symm
    refine t1.run Z0 F Z3 _ H3 x (s1.grow g13) r3 _ fun σ4 s4 w4 => ⟨by rw [w4 vs t2, wipe_wipe], ?_⟩
    refine t3 Z0 F Z3 σ4 H3 s4 _ fun Z5 H5 g5 => ?_
    have hL5 : H5 L = some (.lst acc) := g5.hh _ _ (g3.hh _ _ hacc)
    have zL5 : Z5 L = none := by rw [g5.nw L _ (g3.hh _ _ hacc), g3.nw L _ hacc, zL]
    have r5 := racc.mono (g3.zz.trans g5.zz)
    cases hp : pb xs[j] with
    | true =>
      rw [if_pos rfl]
      refine t4 hp Z0 F Z5 σ4 H5 (s4.grow g5) _ fun y Z6 H6 g6 r6 => ?_
      have hL6 := g6.hh _ _ hL5
      have zL6 : Z6 L = none := by rw [g6.nw L _ hL5, zL5]
      have hlen : acc.length < sizeLine := by
        rw [racc.length, List.length_map]
        exact Nat.lt_of_le_of_lt (Nat.le_trans (List.length_filter_le _ _) (by rw [List.length_take]; exact Nat.min_le_right _ _)) hz
      refine ⟨acc, hL6, hlen, hlt, Z6, acc ++ [y], ?_, upd_same, zL6, ?_⟩
      · have g16 := g13.trans (g5.trans g6)
        exact ⟨g16.zz, g16.hh.mut hL, g16.zh.mut zL6, g16.nw⟩
      · rw [etake, List.filter_append, List.map_append]
        have e1 : [xs[j]].filter pb = [xs[j]] := by simp [hp]
        rw [e1]
        exact (r5.mono g6.zz).append (.cons r6 .nil)
    | false =>
      rw [if_neg Bool.false_ne_true]
      refine ⟨hlt, Z5, acc, g13.trans g5, hL5, zL5, ?_⟩
      rw [etake, List.filter_append, List.map_append]
      have e1 : [xs[j]].filter pb = [] := by simp [hp]
      rw [e1, List.map_nil, List.append_nil]
      exact r5
  · have e : j = xs.length := by omega
    subst e
    have st := wk.stop Z2 H2 g2.zz g2.hh g2.zh
    rw [List.length_map] at st
    refine .inl ⟨st, q _ Z2 H2 [L] (g1.trans g2) (.lst hacc ?_) (new_one (g1.hh.free hL) zL)⟩
    rw [List.take_length] at racc
    exact racc.own
/-- [elt for target in source] -/
theorem me_lc {α : Type} {xs : List α} {enc : α → D} {wi : TI} {g : TG} {scope : Scope} {vs : List Nat} (p : ∀ te : TE, (∀ (s : Shared) (H : Hp) (C : Addr) (cl : List (Str × Addr)) (fp : List Addr), PE (X.blk s H scope (compEnvC scope cl C X.env) fp) elt te) → PE X e (tLc wi g tYes te vs))
    (h : MIc X ρ wi (xs.map enc)) (f : α → D) (hz : xs.length < sizeLine)
    (hs : ∀ d ∈ xs, ∃ τ ws, MTg g X.K (wipeS ρ vs) (enc d) τ ws ∧ (∀ w ∈ ws, w ∈ vs) ∧ ∀ (s : Shared) (H : Hp) (C : Addr) (cl : List (Str × Addr)) (fp : List Addr), ME (X.blk s H scope (compEnvC scope cl C X.env) fp) τ elt (.fz (f d))) :
    ME X ρ e (.lst ((xs.map f).map .fz)) := .mk fun Z0 F Z σ H s Q q => by
  refine PE_w (p (fun σ H Q => ∀ (s : Shared) (H' : Hp) (C : Addr) (cl : List (Str × Addr)) (fp : List Addr), wE (X.blk s H' scope (compEnvC scope cl C X.env) fp) elt σ H Q) fun s H' C cl fp => ⟨fun pins s' σ H Q I k => k s H' C cl fp pins s' I⟩) ?_
  refine lc_run h (fun _ => true) f hz (fun d m => ?_) s fun v Z' H' A g r n => q v Z' H' A g ?_ n
  · obtain ⟨τ, ws, t1, t2, t3⟩ := hs d m
    refine ⟨τ, ws, t1, t2, fun Z0 F Z σ H s Q q => q Z H (Gr.refl s.ex), fun _ Z0 F Z σ H s Q q s' H' C cl fp => (t3 s' H' C cl fp).run Z0 F Z σ H s Q fun v Z' H' A g r n => ?_⟩
    cases r with
    | fz r => exact q v Z' H' g r
  · rw [List.filter_eq_self.mpr fun _ _ => rfl] at r
    exact r
/-- (.., x, ..): a tuple of frozen things and one own slot's thing -/
structure MRs (X : Cx) (ρ : Slots) (es : List Expr) (os : List O) : Prop where
  run : ∀ (Z0 F Z : Hp) (σ : L2.St) (H : Hp), StR X.K ρ Z0 F Z σ H → ∀ Q : List V → Hp → Prop,
  (∀ vs Z' H' A, Gr Z H Z' H' → RepOL X.K Z' F H' vs os A → A.Nodup → (∀ a ∈ A, Z' a = none ∧ F a = none) → Q vs H') → wA X es σ H Q
theorem MF.rs (h : MF X ρ es ds) : MRs X ρ es (ds.map .fz) := .mk fun Z0 F Z σ H s Q q => h.run Z0 F Z σ H s Q fun vs Z' H' g r => q vs Z' H' [] g r.own List.nodup_nil fun _ m => nomatch m
end
end M
namespace M
open PySem L2 PySem.Spec PyProof.Rows
section
variable {X : Cx} {ρ : Slots} {e a b elt : Expr} {es : List Expr} {st : Stmt} {sts : List Stmt} {G : Go} {o o1 o2 : O} {d : D} {ds : List D} {pos p0 p1 : Pos} {i : Nat} {x nm : Str}
theorem ml_var (p : PE X (.Name x pos) (tVar i)) (h : ρ[i]? = some (some o)) (hl : IsLst o ds := by first | exact .vw _ | exact .fz _ | exact .own _ | exact .vwa _ _) : ML X ρ (.Name x pos) ds := MV.l (mv_var p h) hl
theorem le_auto {ρ τ : Slots} (l : Le ρ τ := by repeat (first | exact Le.nil | refine Le.no ?_ | refine Le.eq ?_)) : Le ρ τ := l
/-- .. by a state: S j x holds ahead of turn j -/
theorem m_forS {α : Type} {wi : TI} {g : TG} {body : List Stmt} (p : PS X st (tFor wi g (wS X body))) (h : MI X ρ wi ds) (R : α → Slots) (S : Nat → α → Prop) (h0 : ∃ x, S 0 x ∧ Le ρ (R x))
    (hs : ∀ (j : Nat) (d : D) (x : α), ds[j]? = some d → S j x → ∃ τ' ws, MTg g X.K (R x) d τ' ws ∧ MS X τ' body { nx := fun τ => ∃ y, S (j + 1) y ∧ Le τ (R y), ct := fun τ => ∃ y, S (j + 1) y ∧ Le τ (R y), bk := G.nx, rt := G.rt, rs := G.rs })
    (hd : ∀ τ x, S ds.length x → Le τ (R x) → G.nx τ) : MS1 X ρ st G := by
  refine m_for p h (fun j τ => ∃ x, S j x ∧ Le τ (R x)) h0 (fun j d τ hj l => ?_) fun τ ⟨x, h1, h2⟩ => hd τ x h1 h2
  obtain ⟨x, l1, l2⟩ := l
  obtain ⟨τ', ws, t1, t2⟩ := hs j d x hj l1
  exact ⟨τ', ws, .mk fun Z0 F Z σ H v s r Q q => t1.run Z0 F Z σ H v (s.le l2) r Q q, t2⟩
/-- an own def, as it is called by its name -/
structure Fn1 (P : Program) (w : World) (K : PySem.W.Frag) (mg : Str → Option Value) (base : Heap) (name : Str) (k : Nat) (ps : List Str) (sp : Sp) : Prop where
  ex : ∃ (f : Addr) (fd : FuncData), mg name = some (.ref f) ∧ PySem.W.keepIn K (.ref f) = true ∧ Binds K fd ps [] ∧ FnOk P w K mg base CX0 k f fd ps sp
theorem me_fn {α : Type} {ar : α → List O} {pre : α → Prop} {res : α → O} {k : Nat} {ps : List Str} (c : Fn1 X.prog X.w X.K X.mg X.base nm k ps (SpM X.K ar pre res)) (x : α) (ha : MA X ρ (e :: es) (ar x)) (hp : pre x) (hr : Room k X.A) {o : O} (hres : res x = o := by first | (dsimp only; done) | (dsimp only; rfl) | rfl) (hg : Gl X nm := by rfl)
    (hdb : (nm == ("__debug__" : Str)) = false := by decide) (he : starEach (e :: es) X.env = (false, eval e X.env) :: starEach es X.env := by rfl) (hpl : (backTo pos (starEach es X.env)).any (·.1) = false := by rfl) : ME X ρ (.Call (.Name nm p0) (e :: es) [] pos) o := by
  subst hres
  obtain ⟨f, fd, hm, hk, hb, F⟩ := c.ex
  exact me_call (pe_call F hr hg hm hk hb .nil pass0 pa_w hdb he hpl) x ha hp
end
end M
namespace M
open PySem L2 PySem.Spec PyProof.Rows
inductive Smp : Nat → D → Prop where
  | non {n : Nat} : Smp n .non
  | bl {n : Nat} (b : Bool) : Smp n (.bl b)
  | int {n : Nat} (i : Int) : Smp n (.int i)
  | str {n : Nat} {x : Str} (h : (PyData.str x).canLay0 = true) : Smp n (.str x)
  | tup {n : Nat} {ds : List D} (h : ∀ d ∈ ds, Smp n d) : Smp (n + 1) (.tup ds)
  | lst {n : Nat} {ds : List D} (h : ∀ d ∈ ds, Smp n d) : Smp (n + 1) (.lst ds)
theorem D.plL_all : ∀ {ds : List D}, (∀ d ∈ ds, d.pl = true) → D.plL ds = true
  | [], _ => rfl
  | d :: r, h => by
    show (d.pl && D.plL r) = true
    rw [h d List.mem_cons_self, D.plL_all fun e m => h e (List.mem_cons_of_mem _ m)]
    rfl
theorem canL_all : ∀ {ds : List D}, (∀ d ∈ ds, d.py.canLay0 = true) → PyData.canLayAll0 (D.pyL ds) = true
  | [], _ => rfl
  | d :: r, h => by
    show (d.py.canLay0 && PyData.canLayAll0 (D.pyL r)) = true
    rw [h d List.mem_cons_self, canL_all fun e m => h e (List.mem_cons_of_mem _ m)]
    rfl
theorem depL_all {n : Nat} : ∀ {ds : List D}, (∀ d ∈ ds, d.py.depth ≤ n) → PyData.depthAll (D.pyL ds) ≤ n
  | [], _ => Nat.zero_le _
  | d :: r, h => Nat.max_le.mpr ⟨h d List.mem_cons_self, depL_all fun e m => h e (List.mem_cons_of_mem _ m)⟩
theorem Smp.all {n : Nat} {d : D} (h : Smp n d) : d.pl = true ∧ d.py.canLay0 = true ∧ d.py.depth ≤ n := by
  induction h with
  | non => exact ⟨rfl, rfl, Nat.zero_le _⟩
  | bl b => exact ⟨rfl, rfl, Nat.zero_le _⟩
  | int i => exact ⟨rfl, rfl, Nat.zero_le _⟩
  | str h => exact ⟨rfl, h, Nat.zero_le _⟩
  | tup h ih => exact ⟨D.plL_all fun d m => (ih d m).1, canL_all fun d m => (ih d m).2.1, Nat.succ_le_succ (depL_all fun d m => (ih d m).2.2)⟩
  | lst h ih => exact ⟨D.plL_all fun d m => (ih d m).1, canL_all fun d m => (ih d m).2.1, Nat.succ_le_succ (depL_all fun d m => (ih d m).2.2)⟩
theorem Smp.ok {n : Nat} {d : D} (h : Smp n d) (hn : n ≤ 64 := by decide) : d.ok := by
  obtain ⟨h1, h2, h3⟩ := h.all
  refine ⟨h1, ?_⟩
  unfold SeqAt.shaped
  rw [h2, decide_eq_true (Nat.le_trans h3 hn)]
  rfl
theorem eqvL_refl : ∀ {ds : List D}, (∀ d ∈ ds, d.eqv d = true) → PyData.eqvAll (D.pyL ds) (D.pyL ds) = true
  | [], _ => rfl
  | d :: r, h => by
    show (PyData.eqv d.py d.py && PyData.eqvAll (D.pyL r) (D.pyL r)) = true
    rw [show PyData.eqv d.py d.py = true from h d List.mem_cons_self, eqvL_refl fun e m => h e (List.mem_cons_of_mem _ m)]
    rfl
theorem Smp.eqv {n : Nat} {d : D} (h : Smp n d) : d.eqv d = true := by
  induction h with
  | non => rfl
  | bl b => exact beq_self_eq_true b
  | int i => exact beq_self_eq_true i
  | str h => exact beq_self_eq_true _
  | tup h ih => exact eqvL_refl ih
  | lst h ih => exact eqvL_refl ih
theorem smps_map {α : Type} {n : Nat} {f : α → D} {xs : List α} (h : ∀ x ∈ xs, Smp n (f x)) : ∀ d ∈ xs.map f, Smp n d := fun d m => by
  obtain ⟨x, hx, rfl⟩ := List.mem_map.mp m
  exact h x hx
section
variable {X : Cx} {ρ : Slots} {e a b elt : Expr} {es : List Expr} {st : Stmt} {sts : List Stmt} {G : Go} {o o1 o2 : O} {d : D} {ds : List D} {pos p0 p1 : Pos} {i : Nat} {x nm : Str}
end
section
variable {K : PySem.W.Frag} {Z0 Z Z' F H H' : Hp} {ρ : Slots} {σ : L2.St}
end
section
variable {X : Cx} {ρ : Slots} {e a b elt : Expr} {es : List Expr} {st : Stmt} {sts : List Stmt} {G : Go} {o o1 o2 : O} {d : D} {ds : List D} {pos p0 p1 : Pos} {i : Nat} {x nm : Str}
theorem ME.is {o' : O} (h : ME X ρ e o) (q : o = o') : ME X ρ e o' := q ▸ h
theorem m_forTS {α β : Type} {xs : List α} {enc : α → D} {wi : TI} {g : TG} {body : List Stmt} (p : PS X st (tFor wi g (wS X body))) (h : MI X ρ wi (xs.map enc)) (R : β → Slots) (S : Nat → β → Prop) (h0 : ∃ y, S 0 y ∧ Le ρ (R y))
    (hs : ∀ (j : Nat) (x : α) (y : β), xs[j]? = some x → S j y → ∃ τ' ws, MTg g X.K (R y) (enc x) τ' ws ∧ MS X τ' body { nx := fun τ => ∃ y, S (j + 1) y ∧ Le τ (R y), ct := fun τ => ∃ y, S (j + 1) y ∧ Le τ (R y), bk := G.nx, rt := G.rt, rs := G.rs })
    (hd : ∀ τ y, S xs.length y → Le τ (R y) → G.nx τ) : MS1 X ρ st G := by
  refine m_forS p h R S h0 (fun j d y hj => ?_) fun τ y h1 l => hd τ y (by rw [List.length_map] at h1; exact h1) l
  rw [List.getElem?_map] at hj
  obtain ⟨x, hx, rfl⟩ := Option.map_eq_some_iff.mp hj
  exact hs j x y hx
end
/-- a law's promise -/
def spLaw (K : PySem.W.Frag) : Sp := SpM K (fun ns : List Int => [.vw (ns.map .int)]) (fun ns => ns.length ≤ 63) (fun _ => .fz (.bl true))
theorem spLaw_of {K : PySem.W.Frag} {H : Hp} {a : Addr} {ns : List Int} {E : XK} (hS : SqL K H a (ns.map V.int)) (hl : ns.length ≤ 63) : spLaw K [.ref a] H (fun v _ => v = .bl true) E := by
  refine ⟨ns, fun _ => none, fun _ _ z => (by cases z), RepOL.cons (A := []) (B := []) (RepO.vw hS RepL.ofInts) RepOL.nil, hl, fun v Z' H' A g r n => ?_⟩
  cases r with
  | fz r =>
    cases r
    rfl
end M
namespace M
open PySem L2 PySem.Spec PyProof.Rows
theorem RepOL.set {K : PySem.W.Frag} {Z F H : Hp} {w : V} {d : D} (h : Rep K Z w d) : ∀ {vs : List V} {ds : List D} {A : List Addr} (j : Nat), RepOL K Z F H vs (ds.map .fz) A → RepOL K Z F H (vs.set j w) ((ds.set j d).map .fz) A
  | _, [], _, _, .nil => .nil
  | _, _ :: _, _, 0, .cons (.fz _) r => .cons (A := []) (.fz h) r
  | _, _ :: _, _, j + 1, .cons (.fz g) r => .cons (A := []) (.fz g) (RepOL.set h j r)
section
variable {X : Cx} {ρ : Slots} {e a b c elt : Expr} {es rest : List Expr} {st : Stmt} {sts : List Stmt} {G : Go} {o o1 o2 : O} {d : D} {ds : List D} {pos p0 p1 p2 p3 p4 p5 p6 : Pos} {i : Nat} {x nm : Str} {m n k : Int} {p q : Str}
/-- [..] * n, a list of its own -/
def repG {α : Type} (xs : List α) (k : Int) : List α := (List.replicate k.toNat xs).flatten
theorem RepL.rep {K : PySem.W.Frag} {Z : Hp} {vs : List V} {ds : List D} (r : RepL K Z vs ds) : ∀ k : Nat, RepL K Z (List.replicate k vs).flatten (List.replicate k ds).flatten
  | 0 => .nil
  | k + 1 => by
    rw [List.replicate_succ, List.replicate_succ, List.flatten_cons, List.flatten_cons]
    exact r.append (r.rep k)
theorem me_rep (ha : MV X ρ a (.lst (ds.map .fz))) (hb : ME X ρ b (.fz (.int k))) (hk : -(2 ^ 63) ≤ k ∧ k < 2 ^ 63) (hl : ds.length * k.toNat ≤ sizeLine) : ME X ρ (.BinOp a .Mult b pos) (.lst ((repG ds k).map .fz)) := .mk fun Z0 F Z σ H s Q q =>
  PE_w (pe_op op_rep pe_w pe_w) (ha.run Z0 F Z σ H s _ fun v Z1 H1 A1 g1 r1 => hb.run Z0 F Z1 σ H1 (s.grow g1) _ fun w Z2 H2 A2 g2 r2 n2 => by
    cases r2 with
    | fz r2 =>
      cases r2
      cases r1 with
      | @lst l vs _ A h0 r1 =>
        have g := g1.trans g2
        obtain ⟨_, r1⟩ := r1.fzs
        refine ⟨l, k, vs, rfl, rfl, g2.hh _ _ h0, hk.1, hk.2, by rw [r1.length]; exact hl, fun p hp => ?_⟩
        exact q _ Z2 _ [p] (g.trans (Gr.new g.zh hp)) (.lst upd_same ((r1.mono g2.zz).rep _).own) (new_one (g.hh.free hp) (g.zh.free hp)))
/-- xs + ys, lists of its own -/
theorem me_catL {es1 : List D} (ha : MV X ρ a (.lst (ds.map .fz))) (hb : MV X ρ b (.lst (es1.map .fz))) (hl : ds.length + es1.length ≤ sizeLine) : ME X ρ (.BinOp a .Add b pos) (.lst ((ds ++ es1).map .fz)) := .mk fun Z0 F Z σ H s Q q =>
  PE_w (pe_op op_cat pe_w pe_w) (ha.run Z0 F Z σ H s _ fun v Z1 H1 A1 g1 r1 => hb.run Z0 F Z1 σ H1 (s.grow g1) _ fun w Z2 H2 A2 g2 r2 => by
    cases r2 with
    | @lst l2 us _ A2 h2 r2 =>
      cases r1 with
      | @lst l vs _ A h0 r1 =>
        have g := g1.trans g2
        obtain ⟨_, r1⟩ := r1.fzs
        obtain ⟨_, r2⟩ := r2.fzs
        refine ⟨l, l2, vs, us, rfl, rfl, g2.hh _ _ h0, h2, by rw [r1.length, r2.length]; exact hl, fun p hp => ?_⟩
        exact q _ Z2 _ [p] (g.trans (Gr.new g.zh hp)) (.lst upd_same ((r1.mono g2.zz).append r2).own) (new_one (g.hh.free hp) (g.zh.free hp)))
theorem me_strI (hg : Gl X "str") (hm : X.mg "str" = none) (ha : ME X ρ a (.fz (.int m))) (hl : m.natAbs.log2 < 1920) (n1 : NS X a := by exact fun _ => rfl) : ME X ρ (.Call (.Name "str" p0) [a] [] pos) (.fz (.str (toString m))) := .mk fun Z0 F Z σ H s Q q =>
  PE_w (pe_callTy call_str_int hg hm (by decide +kernel) (pa_cons pe_w pa_nil (n1 _)) (he := n1 _)) (ha.run Z0 F Z σ H s _ fun v Z1 H1 A1 g1 r1 n1 => by
    cases r1 with
    | fz r1 =>
      cases r1
      exact ⟨m, rfl, hl, q _ Z1 H1 [] g1 (.fz (.str _)) .nil⟩)
end
end M
namespace M
open PySem L2 PySem.Spec PyProof.Rows
theorem Le.trans : ∀ {ρ τ υ : Slots}, Le ρ τ → Le τ υ → Le ρ υ
  | _, _, _, .nil, h => h
  | _, _, _, .no l, .no r => .no (l.trans r)
  | _, _, _, .no l, .eq r => .no (l.trans r)
  | _, _, _, .eq l, .no r => .no (l.trans r)
  | _, _, _, .eq l, .eq r => .eq (l.trans r)
/-- what the text tells of a class: its attributes' names are no names of the class -/
structure OC (K : PySem.W.Frag) (C : Addr) (ns : List Str) : Prop where
  cl : Cls K C
  na : ∀ f ∈ ns, NoAttr K C f
def xsPut {α : Type} : List Str → Str → List α → α → List α
  | n :: r, f, u :: us, v => if n = f then v :: us else u :: xsPut r f us v
  | _, _, _, v => [v]
section
variable {K : PySem.W.Frag} {Z Z' F F' H H' : Hp}
theorem RepOL.put {w : V} {o : O} {B : List Addr} (r : RepO K Z F H w o B) (nB : B.Nodup) : ∀ {ns : List Str} {f : Str} {vs : List V} {os : List O} {A : List Addr}, vs.length = ns.length → RepOL K Z F H vs os A → A.Nodup → (∀ a ∈ A, a ∉ B) →
    ∃ A', RepOL K Z F H (xsPut ns f vs w) (xsPut ns f os o) A' ∧ A'.Nodup ∧ ∀ a ∈ A', a ∈ A ∨ a ∈ B
  | [], f, [], [], _, _, .nil, _, _ => ⟨B ++ [], .cons r .nil, by rw [List.append_nil]; exact nB, fun a m => .inr (by rw [List.append_nil] at m; exact m)⟩
  | n :: ns, f, v :: vs, o1 :: os, _, hl, .cons (A := A1) (B := A2) h1 h2, nA, d => by
    obtain ⟨n1, n2, n3⟩ := List.nodup_append.mp nA
    unfold xsPut
    by_cases e : n = f
    · rw [if_pos e, if_pos e]
      refine ⟨B ++ A2, .cons r h2, List.nodup_append.mpr ⟨nB, n2, fun a ha b hb e => ?_⟩, fun a m => ?_⟩
      · subst e
        exact d a (List.mem_append_right _ hb) ha
      · rcases List.mem_append.mp m with m | m
        · exact .inr m
        · exact .inl (List.mem_append_right _ m)
    · rw [if_neg e, if_neg e]
      obtain ⟨A', q1, q2, q3⟩ := RepOL.put r nB (ns := ns) (f := f) (vs := vs) (os := os) (by simpa using hl) h2 n2 fun a m => d a (List.mem_append_right _ m)
      refine ⟨A1 ++ A', .cons h1 q1, List.nodup_append.mpr ⟨n1, q2, fun a ha b hb e => ?_⟩, fun a m => ?_⟩
      · subst e
        rcases q3 a hb with z | z
        · exact n3 a ha a z rfl
        · exact d a (List.mem_append_left _ ha) z
      · rcases List.mem_append.mp m with m | m
        · exact .inl (List.mem_append_left _ m)
        · exact (q3 a m).imp (List.mem_append_right _) id
end
section
variable {X : Cx} {ρ : Slots} {e a b c elt : Expr} {es rest : List Expr} {st : Stmt} {sts : List Stmt} {G : Go} {o o1 o2 : O} {d : D} {ds : List D} {os : List O} {pos p0 p1 p2 p3 p4 p5 p6 : Pos} {i : Nat} {x nm f : Str} {m n k : Int} {p q : Str} {C : Addr} {ns : List Str}
/-- the promise of an __init__: of a new instance it makes one with the attributes ns -/
def SpI {α : Type} (K : PySem.W.Frag) (C : Addr) (ns : List Str) (ar : α → List O) (pre : α → Prop) (res : α → List O) : Sp := fun vs H Q _ => ∃ (x : α) (Z F : Hp) (l dx : Addr) (vs' : List V), vs = .ref l :: vs' ∧ Ex Z F ∧ Ex F H ∧ F l = none ∧ H l = some (.ins C dx []) ∧ RepOL K Z F F vs' (ar x) [] ∧ pre x ∧
  ∀ Z' H' A, Gr Z F Z' H' → RepO K Z' (fun _ => none) H' (.ref l) (.at l C ns (res x)) A → New F Z' A → Q .non H'
structure Mk1 (P : Program) (w : World) (K : PySem.W.Frag) (mg : Str → Option Value) (base : Heap) (name : Str) (C : Addr) (k : Nat) (ps : List Str) (sp : Sp) : Prop where
  ex : ∃ (f : Addr) (fd : FuncData), mg name = some (.ref C) ∧ Mk K C f ∧ Binds K fd ps [] ∧ FnOk P w K mg base CX0 k f fd ps sp
end
end M
namespace M
open PySem L2 PySem.Spec PyProof.Rows
section
variable {X : Cx} {ρ : Slots} {e a b c elt : Expr} {es rest : List Expr} {st : Stmt} {sts : List Stmt} {G : Go} {o o1 o2 : O} {d : D} {ds : List D} {os : List O} {pos p0 p1 p2 p3 p4 p5 p6 : Pos} {i : Nat} {x nm f : Str} {m n k : Int} {p q : Str} {C : Addr} {ns : List Int}
end
end M
namespace M
open PySem L2 PySem.Spec PyProof.Rows
section
variable {X : Cx} {tg : Expr}
end
section
variable {X : Cx} {ρ : Slots} {es : List Expr} {k j : Int}
end
end M
namespace M
open PySem L2 PySem.Spec PyProof.Rows
section
variable {X : Cx} {ρ : Slots} {a b : Expr} {pos : Pos} {k l : Bool}
end
end M
namespace M
open PySem L2 PySem.Spec PyProof.Rows
section
variable {β : Type} {K : PySem.W.Frag} {Z : Hp} {enc : β → D}
end
section
variable {X : Cx} {ρ : Slots} {a : Expr} {pos p0 p1 p2 p3 p4 : Pos} {β : Type} {enc : β → D} {bs : List β}
end
section
variable {X : Cx} {ρ : Slots} {a b e : Expr} {G : Go} {pos p0 p1 p2 p3 p4 : Pos} {k l : Bool} {i : Nat} {x : Str} {d : D} {ds : List D}
end
end M
namespace M
open PySem L2 PySem.Spec PyProof.Rows
section
variable {X : Cx} {ρ : Slots} {a : Expr} {pos p0 p1 : Pos} {C E : Addr} {ns : List Str} {ds : List D} {os : List O} {nm : Str} {k : Bool} {o : O}
end
section
variable {K : PySem.W.Frag} {Z0 Z Z' F F' H H' : Hp} {ρ : Slots} {σ : L2.St}
theorem StL.push {v : V} {o : O} {B : List Addr} (r : RepO K Z F H v o B) : ∀ {ρ : Slots} {σ : L2.St} {A : List Addr}, StL K Z F H ρ σ A → StL K Z F H (ρ ++ [some o]) (σ ++ [some v]) (A ++ B)
  | _, _, _, .nil => by
    have := StL.so r (.nil (K := K) (Z := Z) (F := F) (H := H))
    rw [List.append_nil] at this
    exact this
  | _, _, _, .no h => .no (h.push r)
  | _, _, _, .so q h => by
    rw [List.append_assoc]
    exact .so q (h.push r)
theorem StR.push {v : V} {o : O} {B : List Addr} (s : StR K ρ Z0 F Z σ H) (g : Gr Z H Z' H') (r : RepO K Z' F H' v o B) (n : New H Z' B) : StR K (ρ ++ [some o]) Z0 F Z' (σ ++ [some v]) H' := by
  have s' := s.grow g
  obtain ⟨A, h1, h2, h3⟩ := s.st
  have m1 : StL K Z' F H' ρ σ A := h1.mono g.zz fun a _ u e => g.hh a u e
  refine ⟨s'.gr, A ++ B, m1.push r, List.nodup_append.mpr ⟨h2, n.1, fun a ha b hb e => ?_⟩, fun a m => ?_⟩
  · subst e
    obtain ⟨u, e⟩ := h1.there a ha
    rw [(n.2 a hb).1] at e
    cases e
  · rcases List.mem_append.mp m with z | z
    · obtain ⟨u, e⟩ := h1.there a z
      exact ⟨(g.nw a u e).trans (h3 a z).1, (h3 a z).2⟩
    · exact ⟨(n.2 a z).2, s.gr.hh.free (n.2 a z).1⟩
theorem StL.last' : ∀ {τ : Slots} {υ : L2.St} {A : List Addr}, StL K Z F H τ υ A → A.Nodup → ∀ {ρ : Slots} {o : O} {σ : L2.St} {v : V}, τ = ρ ++ [some o] → υ = σ ++ [some v] → ∃ B C, StL K Z F H ρ σ B ∧ RepO K Z F H v o C ∧ (B ++ C).Nodup ∧ (∀ a ∈ B ++ C, a ∈ A)
  | _, _, _, .nil, _, ρ, o, σ, v, e1, e2 => by simp at e1
  | _, _, _, .no h, n, ρ, o, σ, v, e1, e2 => by
    cases ρ with
    | nil => simp at e1
    | cons x ρ =>
      cases σ with
      | nil =>
        have l := h.length
        simp at e1 e2
        rw [e1.2, e2.2] at l
        simp at l
      | cons y σ =>
        simp at e1 e2
        obtain ⟨e1a, e1b⟩ := e1
        obtain ⟨e2a, e2b⟩ := e2
        obtain ⟨B, C, q1, q2, q3, q4⟩ := h.last' n e1b e2b
        subst e1a
        exact ⟨B, C, .no q1, q2, q3, q4⟩
  | _, _, _, .so (A := A1) (B := A2) r h, n, ρ, o, σ, v, e1, e2 => by
    obtain ⟨n1, n2, n3⟩ := List.nodup_append.mp n
    cases ρ with
    | nil =>
      cases σ with
      | nil =>
        simp at e1 e2
        obtain ⟨e1a, e1b⟩ := e1
        obtain ⟨e2a, e2b⟩ := e2
        subst e1a e1b e2a e2b
        cases h
        exact ⟨[], A1, .nil, r, by simpa using n, fun a m => by simpa using m⟩
      | cons y σ =>
        have l := h.length
        simp at e1 e2
        rw [e1.2, e2.2] at l
        simp at l
    | cons x ρ =>
      cases σ with
      | nil =>
        have l := h.length
        simp at e1 e2
        rw [e1.2, e2.2] at l
        simp at l
      | cons y σ =>
        simp at e1 e2
        obtain ⟨e1a, e1b⟩ := e1
        obtain ⟨e2a, e2b⟩ := e2
        obtain ⟨B, C, q1, q2, q3, q4⟩ := h.last' n2 e1b e2b
        subst e1a e2a
        refine ⟨A1 ++ B, C, .so r q1, q2, ?_, fun a m => ?_⟩
        · rw [List.append_assoc]
          exact List.nodup_append.mpr ⟨n1, q3, fun a ha b hb => n3 a ha b (q4 b hb)⟩
        · rw [List.append_assoc] at m
          rcases List.mem_append.mp m with m | m
          · exact List.mem_append_left _ m
          · exact List.mem_append_right _ (q4 a m)
theorem StL.last {ρ : Slots} {o : O} {σ : L2.St} {v : V} {A : List Addr} (h : StL K Z F H (ρ ++ [some o]) (σ ++ [some v]) A) (n : A.Nodup) : ∃ B C, StL K Z F H ρ σ B ∧ RepO K Z F H v o C ∧ (B ++ C).Nodup ∧ (∀ a ∈ B ++ C, a ∈ A) := h.last' n rfl rfl
theorem StR.pop {v : V} {o : O} (s : StR K (ρ ++ [some o]) Z0 F Z (σ ++ [some v]) H) : StR K ρ Z0 F Z σ H := by
  obtain ⟨A, h1, h2, h3⟩ := s.st
  obtain ⟨B, C, q1, q2, q3, q4⟩ := h1.last h2
  exact ⟨s.gr, B, q1, (List.nodup_append.mp q3).1, fun a m => h3 a (q4 a (List.mem_append_left _ m))⟩
/-- what is behind comes to a slot -/
theorem StR.take {v : V} {o : O} {i : Nat} (s : StR K (ρ ++ [some o]) Z0 F Z (σ ++ [some v]) H) (hi : i < ρ.length) : StR K (ρ.set i (some o)) Z0 F Z (σ.set i (some v)) H := by
  obtain ⟨A, h1, h2, h3⟩ := s.st
  obtain ⟨B, C, q1, q2, q3, q4⟩ := h1.last h2
  obtain ⟨n1, n2, n3⟩ := List.nodup_append.mp q3
  obtain ⟨A', r1, r2, r3⟩ := StL.put q2 q1 hi n1 n2 fun a ha hb => n3 a hb a ha rfl
  refine ⟨s.gr, A', r1, r2, fun a m => h3 a (q4 a ?_)⟩
  rcases r3 a m with z | z
  · exact List.mem_append_left _ z
  · exact List.mem_append_right _ z
end
structure MX (X : Cx) (ρ : Slots) (e : Expr) (o : O) (ρ' : Slots) : Prop where
  run : ∀ (Z0 F Z : Hp) (σ : L2.St) (H : Hp), StR X.K ρ Z0 F Z σ H → ∀ Q : VK, (∀ v Z' H', StR X.K (ρ' ++ [some o]) Z0 F Z' (σ ++ [some v]) H' → Q v H') → wE X e σ H Q
section
variable {X : Cx} {ρ ρ' : Slots} {e : Expr} {st : Stmt} {G : Go} {o : O} {i : Nat}
theorem ME.x (h : ME X ρ e o) : MX X ρ e o ρ := .mk fun Z0 F Z σ H s Q q => h.run Z0 F Z σ H s Q fun v Z' H' A g r n => q v Z' H' (s.push g r n)
end
end M
namespace M
open PySem L2 PySem.Spec PyProof.Rows
def SpX {α : Type} (K : PySem.W.Frag) (ar : α → List O) (pre : α → Prop) (s0 s1 : Addr → α → O) (res : α → O) : Sp := fun vs H Q _ => ∃ (x : α) (Z F : Hp) (l : Addr) (vs' : List V) (A : List Addr), vs = .ref l :: vs' ∧ Ex Z F ∧ Ex F H ∧ A.Nodup ∧ (∀ a ∈ A, F a = none) ∧ RepO K Z F H (.ref l) (s0 l x) A ∧ RepOL K Z F F vs' (ar x) [] ∧ pre x ∧
  ∀ v Z' H' B, Gr Z F Z' H' → RepOL K Z' (fun _ => none) H' [.ref l, v] [s1 l x, res x] B → B.Nodup → (∀ a ∈ B, F a = none ∧ Z' a = none) → Q v H'
section
variable {X : Cx} {ρ : Slots} {e a b : Expr} {es : List Expr} {pos p0 p1 p2 : Pos} {i : Nat} {xx nm : Str} {C : Addr} {ns ns' all : List Str} {os os' : List O} {ds : List D} {o o' : O}
structure Cf1 (P : Program) (w : World) (K : PySem.W.Frag) (mg : Str → Option Value) (base : Heap) (nmC m : Str) (k : Nat) (ps : List Str) (sp : Sp) : Prop where
  ex : ∃ (C : Addr) (mc : Value) (f : Addr) (fd : FuncData), mg nmC = some (.ref C) ∧ ClX.CRead K C mc ∧ ClX.CVal K C mc m (.ref f) (.ref f) ∧ PySem.W.keepIn K (.ref f) = true ∧ Binds K fd ps [] ∧ FnOk P w K mg base CX0 k f fd ps sp
end
end M
namespace M
open PySem L2 PySem.Spec PyProof.Rows
def D.flat : D → Bool
  | .non => true
  | .bl _ => true
  | .int _ => true
  | .str _ => true
  | _ => false
def D.v : D → V
  | .bl b => .bl b
  | .int i => .int i
  | .str x => .str x
  | _ => .non
theorem Rep.flat {K : PySem.W.Frag} {Z : Hp} {v : V} {d : D} (r : Rep K Z v d) (h : d.flat = true) : v = d.v := by
  cases r with
  | non => rfl
  | bl b => rfl
  | int i => rfl
  | str x => rfl
  | _ => cases h
theorem RepL.flat {K : PySem.W.Frag} {Z : Hp} : ∀ {vs : List V} {ds : List D}, RepL K Z vs ds → ds.all D.flat = true → vs = ds.map D.v
  | _, _, .nil, _ => rfl
  | _, _, .cons a r, h => by
    rw [List.all_cons, Bool.and_eq_true] at h
    rw [List.map_cons, a.flat h.1, r.flat h.2]
/-- d stands among ds -/
def D.among (d : D) (ds : List D) : Bool := inV d.v (ds.map D.v)
section
variable {X : Cx} {ρ : Slots} {a b : Expr} {pos : Pos} {d : D} {ds : List D}
end
end M
namespace M
open PySem L2 PySem.Spec PyProof.Rows
section
variable {X : Cx} {ρ : Slots} {a b c d : Expr} {ta tb tc td : TE} {pos : Pos} {m n k l : Int}
end
theorem kit_true {K : PySem.W.Frag} {C E : Addr} (h1 : PySem.W.isClsIn K E = true) (h2 : PySem.W.typeIn K (.ref E) = some (.type "type")) (h3 : PySem.W.mroIn K C (.ref E) = some true) : PySem.W.kitOne K (.ref C) (.ref E) = some true := by
  unfold PySem.W.kitOne
  split
  · rfl
  · show PySem.W.kitCls K (.ref C) (.ref E) = some true
    have e : PySem.W.kitCls K (.ref C) (.ref E) = if ((PySem.W.clsIn K E).isSome && PySem.W.typeIn K (.ref E) == some (.type "type")) = true then PySem.W.mroIn K C (.ref E) else none := rfl
    rw [e, if_pos, h3]
    rw [h2]
    show ((PySem.W.clsIn K E).isSome && _) = true
    rw [show (PySem.W.clsIn K E).isSome = true from h1]
    decide
end M
namespace M
open PySem L2 PySem.Spec PyProof.Rows
section
variable {X : Cx} {ρ : Slots} {a b c e : Expr} {es : List Expr} {pos p0 p1 : Pos} {p q : Str} {k : Bool} {ys : List Str}
end
end M
namespace M
open PySem L2 PySem.Spec PyProof.Rows
noncomputable def gd {α : Type} (p : Prop) (k : Option α) : Option α := @ite _ p (Classical.propDecidable p) k none
def bd {α β : Type} (o : Option α) (k : α → Option β) : Option β := o.bind k
def lt {α β : Type} (a : α) (k : α → Option β) : Option β := k a
section
variable {α β γ : Type}
theorem gd_some {p : Prop} {k : Option α} {r : α} (h : gd p k = some r) : p ∧ k = some r := by
  unfold gd at h
  by_cases hp : p
  · rw [if_pos hp] at h
    exact ⟨hp, h⟩
  · rw [if_neg hp] at h
    cases h
theorem gd_pos {p : Prop} {k : Option α} (h : p) : gd p k = k := if_pos h
theorem bd_some {o : Option α} {k : α → Option β} {r : β} (h : bd o k = some r) : ∃ a, o = some a ∧ k a = some r := Option.bind_eq_some_iff.mp h
theorem bd_of {o : Option α} {k : α → Option β} {a : α} (h : o = some a) : bd o k = k a := by rw [h]; rfl
theorem lt_some {a : α} {k : α → Option β} {r : β} (h : lt a k = some r) : ∃ x, x = a ∧ k x = some r := ⟨a, rfl, h⟩
theorem cond_t {c : Bool} {a b : α} {r : α} (h : cond c a b = r) (hc : c = true) : a = r := by rw [hc] at h; exact h
theorem cond_f {c : Bool} {a b : α} {r : α} (h : cond c a b = r) (hc : c = false) : b = r := by rw [hc] at h; exact h
theorem or_c {k c : Bool} {b : Option Bool} (h : cond k (some true) b = some c) : (k || c) = c := by
  cases k with
  | true => cases h; rfl
  | false => rfl
end
/-- how a block ends: on, out of the loop, to its next turn, out of the def -/
inductive Ou (V W R : Type) where
  | nx (v : V) | bk (w : W) | ct (w : W) | rt (r : R)
def ouR {V W R : Type} : Ou V W R → (V → Option R) → Option R
  | .nx v, k => k v
  | .rt r, _ => some r
  | _, _ => none
def lpO {α V R : Type} (f : α → V → Option (Ou V V R)) : List α → V → Option (Ou V V R)
  | [], v => some (.nx v)
  | x :: xs, v => bd (f x v) fun o => match o with
    | .nx v' => lpO f xs v'
    | .ct v' => lpO f xs v'
    | .bk v' => some (.nx v')
    | .rt r => some (.rt r)
def mpO {α β : Type} (f : α → Option β) : List α → Option (List β)
  | [] => some []
  | x :: xs => bd (f x) fun y => bd (mpO f xs) fun ys => some (y :: ys)
theorem mpO_pure {α β : Type} (f : α → β) (xs : List α) : mpO (fun x => some (f x)) xs = some (xs.map f) := by
  induction xs with
  | nil => rfl
  | cons x xs ih => show bd (mpO _ xs) _ = _; rw [ih]; rfl
/-- a loop that runs to its end -/
theorem lpO_inv {α V R : Type} {f : α → V → Option (Ou V V R)} (I : Nat → V → Prop) {xs : List α} {v : V} (h0 : I 0 v) (h : ∀ (i : Nat) (x : α) (v : V), xs[i]? = some x → I i v → ∃ v', (f x v = some (.nx v') ∨ f x v = some (.ct v')) ∧ I (i + 1) v') : ∃ v', lpO f xs v = some (.nx v') ∧ I xs.length v' := by
  induction xs generalizing v I with
  | nil => exact ⟨v, rfl, h0⟩
  | cons x xs ih =>
    obtain ⟨v1, e, i1⟩ := h 0 x v rfl h0
    obtain ⟨v2, e2, i2⟩ := ih (fun i => I (i + 1)) i1 fun i y w hy hw => h (i + 1) y w (by simpa using hy) hw
    refine ⟨v2, ?_, i2⟩
    show bd (f x v) _ = _
    rcases e with e | e <;> rw [e] <;> exact e2
def goO {V W R : Type} (Rn : V → Slots) (Rw : W → Slots) (er : R → O) (o : Ou V W R) : Go :=
  { nx := fun τ => ∃ v, o = .nx v ∧ Le τ (Rn v), bk := fun τ => ∃ w, o = .bk w ∧ Le τ (Rw w), ct := fun τ => ∃ w, o = .ct w ∧ Le τ (Rw w), rt := fun q => ∃ r, o = .rt r ∧ q = er r }
section
variable {X : Cx} {ρ : Slots} {e a b c elt : Expr} {es : List Expr} {st : Stmt} {sts : List Stmt} {G : Go} {o o1 o2 : O} {d : D} {ds : List D} {pos p0 p1 p2 p3 p4 : Pos} {i : Nat} {x nm : Str} {α β V W R : Type}
/-- for with ways out -/
theorem m_forO {xs : List α} {enc : α → D} {wi : TI} {g : TG} {body : List Stmt} (p : PS X st (tFor wi g (wS X body))) (h : MI X ρ wi (xs.map enc)) {f : α → V → Option (Ou V V R)} {v0 : V} {out : Ou V V R} (hx : lpO f xs v0 = some out) (Rn : V → Slots) (er : R → O) (h0 : Le ρ (Rn v0))
    (hs : ∀ (x : α) (v : V) (o : Ou V V R), x ∈ xs → f x v = some o → ∃ τ' ws, MTg g X.K (Rn v) (enc x) τ' ws ∧ MS X τ' body (goO Rn Rn er o))
    (hd : ∀ v τ, out = .nx v → Le τ (Rn v) → G.nx τ) (hr : ∀ r, out = .rt r → G.rt (er r)) : MS1 X ρ st G := by
  refine m_forTS (xs := xs) (enc := enc) p h (fun v : V => Rn v) (fun j v => lpO f (xs.drop j) v = some out) ⟨v0, hx, h0⟩ (fun j y v hj hv => ?_) fun τ v hv l => ?_
  · obtain ⟨hi, ey⟩ := List.getElem?_eq_some_iff.mp hj
    rw [← List.getElem_cons_drop (h := hi), ey] at hv
    obtain ⟨o, e1, e2⟩ := bd_some hv
    obtain ⟨τ', ws, t1, t2⟩ := hs y v o (List.mem_of_getElem? hj) e1
    refine ⟨τ', ws, t1, ms_imp t2 (fun τ l => ?_) (fun q l => ?_) (fun τ l => ?_) (fun τ l => ?_) fun _ _ z => z.elim⟩
    · obtain ⟨v', rfl, l⟩ := l
      exact ⟨v', e2, l⟩
    · obtain ⟨r, rfl, rfl⟩ := l
      cases e2
      exact hr r rfl
    · obtain ⟨v', rfl, l⟩ := l
      cases e2
      exact hd v' τ rfl l
    · obtain ⟨v', rfl, l⟩ := l
      exact ⟨v', e2, l⟩
  · rw [List.drop_length] at hv
    cases hv
    exact hd v τ rfl l
/-- if whose ways come together, none leaves -/
theorem m_ifP {c : Expr} {a b : List Stmt} {t : Bool} {p : Pos} {out : V} (Rn : V → Slots) (hc : MT X ρ c t) (h1 : t = true → MS X ρ a { nx := fun τ => Le τ (Rn out) }) (h2 : t = false → MS X ρ b { nx := fun τ => Le τ (Rn out) })
    (kn : ∀ τ, Le τ (Rn out) → G.nx τ) : MS1 X ρ (.If c a b p) G := by
  have im : ∀ {s : List Stmt}, MS X ρ s { nx := fun τ => Le τ (Rn out) } → MS X ρ s G := fun h => ms_imp h (fun τ l => kn τ l) (fun q z => z.elim) (fun τ z => z.elim) (fun τ z => z.elim) fun _ _ z => z.elim
  exact m_if hc (fun h => im (h1 h)) fun h => im (h2 h)
theorem atI_map {enc : α → D} {xs : List α} {k : Int} {y : α} (h : L2.atI xs k = some y) : L2.atI (xs.map enc) k = some (enc y) := by
  unfold L2.atI at h ⊢
  rw [List.length_map]
  cases e : ixN xs.length k with
  | none => rw [e] at h; cases h
  | some n =>
    rw [e] at h
    have h : xs[n]? = some y := h
    show (xs.map enc)[n]? = some (enc y)
    rw [List.getElem?_map, h]
    rfl
theorem me_ixLT {xs : List α} {enc : α → D} {k : Int} {y : α} (h : L2.atI xs k = some y) (ha : ML X ρ a (xs.map enc)) (hb : ME X ρ b (.fz (.int k))) (hp : PlainIx b := by exact fun _ _ => rfl) : ME X ρ (.Subscript a b pos) (.fz (enc y)) := me_ixL ha hb (atI_map h) hp
theorem me_catLT {xs ys : List α} {enc : α → D} (hl : xs.length + ys.length ≤ sizeLine) (ha : MV X ρ a (.lst ((xs.map enc).map .fz))) (hb : MV X ρ b (.lst ((ys.map enc).map .fz))) : ME X ρ (.BinOp a .Add b pos) (.lst (((xs ++ ys).map enc).map .fz)) := ME.is (me_catL ha hb (by rw [List.length_map, List.length_map]; exact hl)) (congrArg (fun z => O.lst (List.map O.fz z)) List.map_append.symm)
theorem mi_rangeT {j : Int} (h : MF X ρ es [.int j]) (h1 : -(2 ^ 62) ≤ j ∧ j < 2 ^ 62) : MI X ρ (iRng1 (wA X es)) ((List.range j.toNat).map fun k : Nat => D.int (k : Nat)) := by
  have q := mi_range1 h h1.1 h1.2
  unfold rng at q
  simp only [Int.zero_add] at q
  exact q
theorem mpO_get {f : α → Option β} : ∀ {xs : List α} {ys : List β}, mpO f xs = some ys → (∀ x ∈ xs, ∃ y, f x = some y) ∧ ys = xs.filterMap f
  | [], _, h => by cases h; exact ⟨fun _ m => (nomatch m), rfl⟩
  | x :: xs, _, h => by
    obtain ⟨y, e1, h⟩ := bd_some h
    obtain ⟨ys, e2, h⟩ := bd_some h
    cases h
    obtain ⟨q1, q2⟩ := mpO_get e2
    refine ⟨fun z m => (List.mem_cons.mp m).elim (fun e => by rw [e]; exact ⟨y, e1⟩) (q1 z), ?_⟩
    rw [List.filterMap_cons, e1, q2]
noncomputable def ofO (enc : β → D) (f : α → Option β) (x : α) : D := match f x with
  | some y => enc y
  | none => .non
theorem mpO_map {enc : β → D} {f : α → Option β} : ∀ {xs : List α} {ys : List β}, mpO f xs = some ys → xs.map (ofO enc f) = ys.map enc
  | [], _, h => by cases h; rfl
  | x :: xs, _, h => by
    obtain ⟨y, e1, h⟩ := bd_some h
    obtain ⟨ys, e2, h⟩ := bd_some h
    cases h
    rw [List.map_cons, List.map_cons, mpO_map e2]
    unfold ofO
    rw [e1]
theorem me_lcO {xs : List α} {ys : List β} {enc : α → D} {enc2 : β → D} {f : α → Option β} (hy : mpO f xs = some ys) {wi : TI} {g : TG} {scope : Scope} {vs : List Nat} (p : ∀ te : TE, (∀ (s : Shared) (H : Hp) (C : Addr) (cl : List (Str × Addr)) (fp : List Addr), PE (X.blk s H scope (compEnvC scope cl C X.env) fp) elt te) → PE X e (tLc wi g tYes te vs))
    (h : MIc X ρ wi (xs.map enc)) (hz : xs.length < sizeLine)
    (hs : ∀ d ∈ xs, ∀ y, f d = some y → ∃ τ ws, MTg g X.K (wipeS ρ vs) (enc d) τ ws ∧ (∀ w ∈ ws, w ∈ vs) ∧ ∀ (s : Shared) (H : Hp) (C : Addr) (cl : List (Str × Addr)) (fp : List Addr), ME (X.blk s H scope (compEnvC scope cl C X.env) fp) τ elt (.fz (enc2 y))) :
    ME X ρ e (.lst ((ys.map enc2).map .fz)) := ME.is (me_lc p h (ofO enc2 f) hz fun d m => by
    obtain ⟨y, ey⟩ := (mpO_get hy).1 d m
    obtain ⟨τ, ws, t1, t2, t3⟩ := hs d m y ey
    exact ⟨τ, ws, t1, t2, fun s H C cl fp => ME.is (t3 s H C cl fp) (by unfold ofO; rw [ey])⟩) (by rw [mpO_map hy])
end
/-- the promise of a def by its mirror -/
def SpF {A R : Type} (K : PySem.W.Frag) (ar : A → List O) (f : A → Option R) (er : R → O) : Sp := SpM K (fun x : A × R => ar x.1) (fun x => f x.1 = some x.2) (fun x => er x.2)
end M
namespace M
open PySem L2 PySem.Spec PyProof.Rows
abbrev strI (m : Int) : Str := toString m
def Ok {α : Type} (o : Option α) (P : α → Prop) : Prop := ∃ r, o = some r ∧ P r
section
variable {α β V W R : Type} {P : β → Prop}
theorem ok_gd {p : Prop} {k : Option β} (h : p) (hk : Ok k P) : Ok (gd p k) P := by rw [gd_pos h]; exact hk
theorem ok_bd {o : Option α} {k : α → Option β} {Q : α → Prop} (h : Ok o Q) (hk : ∀ a, Q a → Ok (k a) P) : Ok (bd o k) P := by
  obtain ⟨a, e, q⟩ := h
  rw [bd_of e]
  exact hk a q
theorem ok_lt {a : α} {k : α → Option β} (hk : Ok (k a) P) : Ok (lt a k) P := hk
theorem ok_some {b : β} (h : P b) : Ok (some b) P := ⟨b, rfl, h⟩
theorem ok_cond {c : Bool} {a b : Option β} (h1 : c = true → Ok a P) (h2 : c = false → Ok b P) : Ok (cond c a b) P := by
  cases c with
  | true => exact h1 rfl
  | false => exact h2 rfl
theorem ok_f {c : Bool} {a b : Option β} (hc : c = false) (h : Ok b P) : Ok (cond c a b) P := by rw [hc]; exact h
theorem Ok.imp {Q : β → Prop} {o : Option β} (h : Ok o Q) (f : ∀ r, Q r → P r) : Ok o P := let ⟨r, e, q⟩ := h; ⟨r, e, f r q⟩
theorem Ok.eq {o : Option β} {b : β} (h : Ok o (· = b)) : o = some b := by obtain ⟨r, e, rfl⟩ := h; exact e
theorem Ok.of {o : Option β} {b : β} (h : o = some b) : Ok o (· = b) := ⟨b, h, rfl⟩
theorem ok_atI {xs : List α} {k : Int} {Q : α → Prop} (h0 : 0 ≤ k) (h1 : k < xs.length) (q : ∀ y, xs[k.toNat]? = some y → Q y) : Ok (L2.atI xs k) Q := by
  have hk : k.toNat < xs.length := by omega
  refine ⟨xs[k.toNat], ?_, q _ (List.getElem?_eq_getElem hk)⟩
  obtain ⟨n, rfl⟩ := Int.eq_ofNat_of_zero_le h0
  exact atI_nat (List.getElem?_eq_getElem (by simpa using hk))
theorem ok_lpN {f : α → V → Option (Ou V V R)} {xs : List α} {v : V} {Q : Ou V V R → Prop} (I : Nat → V → Prop) (h0 : I 0 v) (h : ∀ (i : Nat) (x : α) (v : V), xs[i]? = some x → I i v → Ok (f x v) fun o => ∃ v', (o = .nx v' ∨ o = .ct v') ∧ I (i + 1) v') (hd : ∀ v, I xs.length v → Q (.nx v)) : Ok (lpO f xs v) Q := by
  obtain ⟨v', e, i⟩ := lpO_inv (f := f) I h0 fun i x v hx hv => by
    obtain ⟨o, e, v', e2, q⟩ := h i x v hx hv
    exact ⟨v', e2.imp (fun z => by rw [e, z]) (fun z => by rw [e, z]), q⟩
  exact ⟨_, e, hd v' i⟩
end
section
variable {X : Cx} {ρ : Slots} {e a b c elt : Expr} {es : List Expr} {st : Stmt} {sts : List Stmt} {G : Go} {o o1 o2 : O} {d : D} {ds : List D} {pos p0 p1 p2 p3 p4 : Pos} {i : Nat} {x nm : Str} {α β : Type} {p q : Str} {k l : Bool} {m n : Int}
theorem MT.is (h : MT X ρ e k) (q : k = l) : MT X ρ e l := q ▸ h
theorem MW.is (h : MW X ρ e k) (q : k = l) : MW X ρ e l := q ▸ h
theorem frz_own {enc : α → D} {xs : List α} : (O.lst ((xs.map enc).map .fz)).frz = .lst (xs.map enc) := congrArg D.lst (O.frzL_fz _)
theorem me_lenLT {xs : List α} {enc : α → D} (hg : Gl X "len") (hm : X.mg "len" = none) (ha : ML X ρ a (xs.map enc)) (n1 : NS X a := by exact fun _ => rfl) : ME X ρ (.Call (.Name "len" p0) [a] [] pos) (.fz (.int (xs.length : Int))) := ME.is (me_len hg hm ha n1) (by rw [List.length_map])
theorem repG_map {enc : α → β} {xs : List α} {k : Int} : repG (xs.map enc) k = (repG xs k).map enc := by
  unfold repG
  rw [List.map_flatten, List.map_replicate]
theorem me_repT {xs : List α} {enc : α → D} {kk : Int} (h : (-(2 ^ 63) ≤ kk ∧ kk < 2 ^ 63) ∧ xs.length * kk.toNat ≤ sizeLine) (ha : MV X ρ a (.lst ((xs.map enc).map .fz))) (hb : ME X ρ b (.fz (.int kk))) : ME X ρ (.BinOp a .Mult b pos) (.lst (((repG xs kk).map enc).map .fz)) :=
  ME.is (me_rep ha hb h.1 (by rw [List.length_map]; exact h.2)) (by rw [repG_map])
theorem mt_neDT {d1 d2 : D} (hu : X.A.units + 64 < cLine) (h : d1.ok ∧ d2.ok) (e1 : o1.frz = d1) (e2 : o2.frz = d2) (ha : MV X ρ a o1) (hb : MV X ρ b o2) : MT X ρ (.Compare a [.NotEq] [b] pos) (!D.eqv d1 d2) := by
  subst e1 e2
  exact mt_neD hu ha hb h.1 h.2
section
variable {xi : List Int} {xs : List Str} {xb : List Bool}
end
end
end M
namespace M
open PySem L2 PySem.Spec PyProof.Rows
section
variable {X : Cx} {ρ : Slots} {e a b c elt : Expr} {es : List Expr} {st : Stmt} {sts : List Stmt} {G : Go} {o o1 o2 : O} {d : D} {ds : List D} {pos p0 p1 p2 p3 p4 : Pos} {i : Nat} {x nm : Str} {α β γ : Type} {p q : Str} {k l : Bool} {m n : Int} {te : TE}
end
end M
namespace M
open PySem L2 PySem.Spec PyProof.Rows
section
variable {X : Cx} {ρ : Slots} {e a b c elt : Expr} {es : List Expr} {st : Stmt} {sts : List Stmt} {G : Go} {o o1 o2 : O} {d : D} {ds : List D} {os : List O} {pos p0 p1 p2 p3 p4 : Pos} {i : Nat} {x nm f : Str} {C : Addr} {ns : List Str}
theorem OC.take {K : PySem.W.Frag} {all : List Str} (n : Nat) (h : OC K C all) : OC K C (all.take n) := ⟨h.cl, fun f m => h.na f (List.mem_of_mem_take m)⟩
end
end M
namespace M
open PySem L2 PySem.Spec PyProof.Rows
/-- slots that are fit for what follows: gone, of one's own, or a view at a known place that stands as it stood -/
inductive Kp : Slots → Slots → Prop where
  | nil : Kp [] []
  | no {x : Option O} {ρ τ : Slots} : Kp ρ τ → Kp (x :: ρ) (none :: τ)
  | nv {x : Option O} {o : O} {ρ τ : Slots} : o.nv = true → Kp ρ τ → Kp (x :: ρ) (some o :: τ)
  | va {a : Addr} {ds : List D} {ρ τ : Slots} : Kp ρ τ → Kp (some (.vwa a ds) :: ρ) (some (.vwa a ds) :: τ)
  | lk {a : Addr} {o : O} {ρ τ : Slots} : Kp ρ τ → Kp (some (.lk (.loc a o)) :: ρ) (some (.lk (.loc a o)) :: τ)
section
variable {K : PySem.W.Frag} {Z0 Z Z1 F F' H H1 : Hp}
theorem StL.monoF (f : Ex F F') : ∀ {ρ : Slots} {σ : L2.St} {A : List Addr}, StL K Z F H ρ σ A → StL K Z F' H ρ σ A
  | _, _, _, .nil => .nil
  | _, _, _, .no h => .no (h.monoF f)
  | _, _, _, .so r h => .so (r.mono (Ex.refl _) f fun _ _ _ e => e) (h.monoF f)
theorem RepO.lkAt {v : V} {a : Addr} {o : O} {A : List Addr} (r : RepO K Z F H v (.lk (.loc a o)) A) : v = .ref a ∧ A = [] ∧ RepK K Z F (.ref a) o := by
  cases r with
  | lk r =>
    cases r with
    | loc r => exact ⟨rfl, rfl, r⟩
theorem StL.kp (ef : Ex F F') (ez : Ex Z Z1) : ∀ {ρ τ : Slots} {σ0 σ : L2.St} {A0 A : List Addr}, Kp ρ τ → StL K Z F H ρ σ0 A0 → StL K Z1 F' H1 τ σ A → StL K Z1 F H1 τ σ A
  | _, _, _, _, _, _, .nil, .nil, .nil => .nil
  | _, _, _, _, _, _, .no k, .no h0, .no h => .no (StL.kp ef ez k h0 h)
  | _, _, _, _, _, _, .no k, .so _ h0, .no h => .no (StL.kp ef ez k h0 h)
  | _, _, _, _, _, _, .nv n k, .no h0, .so r h => .so (r.unF n) (StL.kp ef ez k h0 h)
  | _, _, _, _, _, _, .nv n k, .so _ h0, .so r h => .so (r.unF n) (StL.kp ef ez k h0 h)
  | _, _, _, _, _, _, .va k, .so r0 h0, .so r h => by
    cases r with
    | vwa r2 r3 =>
      cases r0 with
      | vwa r4 r5 => exact .so (.vwa r4 (r5.mono ez)) (StL.kp ef ez k h0 h)
  | _, _, _, _, _, _, .lk (a := a) (o := o) k, .so r0 h0, .so r h => by
    have e0 := RepO.lkAt r0
    have e1 := RepO.lkAt r
    rw [e1.1, e1.2.1]
    exact .so (.lk (.loc (e0.2.2.mono ez (Ex.refl _)))) (StL.kp ef ez k h0 h)
end
section
variable {X : Cx} {ρ : Slots} {st : Stmt} {sts : List Stmt} {G : Go} {o : O} {d : D} {ds : List D} {i : Nat}
end
end M
namespace M
open PySem L2 PySem.Spec PyProof.Rows
section
variable {X : Cx} {ρ : Slots} {a b : Expr} {pos : Pos} {p : Str} {m : Int} {k : Bool}
end
end M
namespace M
open PySem L2 PySem.Spec PyProof.Rows
section
variable {X : Cx} {ρ : Slots} {a b c e : Expr} {pos p0 p1 : Pos} {d : D} {k : Bool}
end
end M
namespace M
open PySem L2 PySem.Spec PyProof.Rows
section
variable {X : Cx} {ρ : Slots} {e a b : Expr} {es : List Expr} {pos p0 p1 : Pos} {nm : Str} {C : Addr} {ns : List Str} {ds : List D} {o : O} {d : D}
/-- a default is a plain value -/
inductive Dfl : List V → List D → Prop where
  | nil : Dfl [] []
  | cons {v : V} {d : D} {vs : List V} {ds : List D} : Sc d v → Dfl vs ds → Dfl (v :: vs) (d :: ds)
theorem Dfl.own {K : PySem.W.Frag} {Z F H : Hp} : ∀ {vs : List V} {ds : List D}, Dfl vs ds → RepOL K Z F H vs (ds.map .fz) []
  | _, _, .nil => .nil
  | _, _, .cons h r => .cons (A := []) (B := []) (.fz h.rep) r.own
end
end M
namespace M
open PySem L2 PySem.Spec PyProof.Rows
section
variable {K : PySem.W.Frag} {Z0 Z Z' Z1 F F' H H' H1 : Hp} {ρ ρ' : Slots} {σ : L2.St}
theorem RepOL.foc : ∀ {vs : List V} {os : List O} {A : List Addr} {j : Nat} {o : O}, RepOL K Z F H vs os A → os[j]? = some o → A.Nodup →
    ∃ v B, vs[j]? = some v ∧ RepO K Z F H v o B ∧ B.Nodup ∧ (∀ a ∈ B, a ∈ A) ∧ ∀ {Z' H' : Hp} {o' : O} {B' : List Addr}, Ex Z Z' → (∀ a ∈ A, a ∉ B → ∀ u, H a = some u → H' a = some u) → RepO K Z' F H' v o' B' → B'.Nodup → (∀ a ∈ B', a ∈ A → a ∈ B) →
      ∃ A', RepOL K Z' F H' vs (os.set j o') A' ∧ A'.Nodup ∧ ∀ a ∈ A', (a ∈ A ∧ a ∉ B) ∨ a ∈ B'
  | _, _, _, _, _, .nil, e, _ => by simp at e
  | _, _, _, 0, _, .cons (A := A1) (B := A2) q h, e, nA => by
    simp at e
    subst e
    obtain ⟨n1, n2, n3⟩ := List.nodup_append.mp nA
    refine ⟨_, A1, rfl, q, n1, fun a m => List.mem_append_left _ m, fun ez k r n d => ?_⟩
    refine ⟨_, .cons r (RepOL.mono ez (Ex.refl _) h fun a m => k a (List.mem_append_right _ m) fun z => n3 a z a m rfl), List.nodup_append.mpr ⟨n, n2, fun a ha b hb e => ?_⟩, fun a m => ?_⟩
    · subst e
      exact n3 a (d a ha (List.mem_append_right _ hb)) a hb rfl
    · rcases List.mem_append.mp m with m | m
      · exact .inr m
      · exact .inl ⟨List.mem_append_right _ m, fun z => n3 a z a m rfl⟩
  | _, _, _, j + 1, _, .cons (A := A1) (B := A2) q h, e, nA => by
    obtain ⟨n1, n2, n3⟩ := List.nodup_append.mp nA
    obtain ⟨v, B, h1, h2, h3, h4, h5⟩ := RepOL.foc (j := j) h (by simpa using e) n2
    refine ⟨v, B, by simpa using h1, h2, h3, fun a m => List.mem_append_right _ (h4 a m), fun ez k r n d => ?_⟩
    obtain ⟨A', q1, q2, q3⟩ := h5 ez (fun a m nb => k a (List.mem_append_right _ m) nb) r n fun a m z => d a m (List.mem_append_right _ z)
    refine ⟨_, .cons (q.mono ez (Ex.refl _) fun a m => k a (List.mem_append_left _ m) fun z => n3 a m a (h4 a z) rfl) q1, List.nodup_append.mpr ⟨n1, q2, fun a ha b hb e => ?_⟩, fun a m => ?_⟩
    · subst e
      rcases q3 a hb with z | z
      · exact n3 a ha a z.1 rfl
      · exact n3 a ha a (h4 a (d a z (List.mem_append_left _ ha))) rfl
    · rcases List.mem_append.mp m with m | m
      · exact .inl ⟨List.mem_append_left _ m, fun z => n3 a m a (h4 a z) rfl⟩
      · exact (q3 a m).imp (fun z => ⟨List.mem_append_right _ z.1, z.2⟩) id
/-- a state with what it owns -/
structure StA (K : PySem.W.Frag) (ρ : Slots) (Z0 F Z : Hp) (σ : L2.St) (H : Hp) (A : List Addr) : Prop where
  gr : Gr Z0 F Z H
  st : StL K Z F H ρ σ A
  nd : A.Nodup
  ds : ∀ a ∈ A, Z a = none ∧ F a = none
theorem StA.r {A : List Addr} (s : StA K ρ Z0 F Z σ H A) : StR K ρ Z0 F Z σ H := ⟨s.gr, A, s.st, s.nd, s.ds⟩
theorem StR.a (s : StR K ρ Z0 F Z σ H) : ∃ A, StA K ρ Z0 F Z σ H A := let ⟨A, h1, h2, h3⟩ := s.st; ⟨A, s.gr, h1, h2, h3⟩
theorem StA.grow {A : List Addr} (s : StA K ρ Z0 F Z σ H A) (g : Gr Z H Z' H') : StA K ρ Z0 F Z' σ H' A := by
  refine ⟨s.gr.trans g, s.st.mono g.zz fun a _ u e => g.hh a u e, s.nd, fun a m => ⟨?_, (s.ds a m).2⟩⟩
  obtain ⟨u, e⟩ := s.st.there a m
  rw [g.nw a u e]
  exact (s.ds a m).1
/-- what a change at A must leave as it is -/
def Kept (F : Hp) (T A : List Addr) (a : Addr) : Prop := a ∉ A ∧ (a ∈ T ∨ ∃ u, F a = some u)
/-- the part at a place: what is there, and what comes of it where it is changed -/
structure FocA (K : PySem.W.Frag) (F Z : Hp) (Z0 : Hp) (σ : L2.St) (H : Hp) (T : List Addr) (v : V) (o : O) (R : O → Slots) (A : List Addr) : Prop where
  rp : RepO K Z F H v o A
  nd : A.Nodup
  ds : ∀ a ∈ A, a ∈ T ∧ Z a = none ∧ F a = none
  th : ∀ a ∈ T, ∃ u, H a = some u
  fh : Ex F H
  k : ∀ {Z' H' : Hp} {w : V} {o' p : O} {B : List Addr}, Ex Z Z' → (∀ a, Kept F T A a → Z' a = Z a) → Ex Z' H' → (∀ a, Kept F T A a → ∀ u, H a = some u → H' a = some u) → RepOL K Z' F H' [v, w] [o', p] B → B.Nodup → (∀ a ∈ B, (a ∈ A ∨ a ∉ T ∧ F a = none) ∧ Z' a = none) →
    StR K (R o' ++ [some p]) Z0 F Z' (σ ++ [some w]) H'
def Foc (K : PySem.W.Frag) (Z0 F Z : Hp) (σ : L2.St) (H : Hp) (T : List Addr) (v : V) (o : O) (R : O → Slots) : Prop := ∃ A, FocA K F Z Z0 σ H T v o R A
theorem StA.foc {T : List Addr} {i : Nat} {o : O} (s : StA K ρ Z0 F Z σ H T) (hi : ρ[i]? = some (some o)) : ∃ v, σ[i]? = some (some v) ∧ Foc K Z0 F Z σ H T v o (fun o' => ρ.set i (some o')) := by
  obtain ⟨v, B0, q1, q2, q3, q4, q5⟩ := s.st.at hi s.nd
  refine ⟨v, q1, B0, q2, q3, fun a m => ⟨q4 a m, s.ds a (q4 a m)⟩, s.st.there, s.gr.hh, fun {Z' H' w o' p B} ez nz zh k r n d => ?_⟩
  cases r with
  | @cons _ _ _ _ A1 B1 ra r =>
    cases r with
    | @cons _ _ _ _ A2 B2 rb r =>
      cases r
      rw [List.append_nil] at n d
      obtain ⟨n1, n2, n3⟩ := List.nodup_append.mp n
      have apart : ∀ a ∈ A1 ++ A2, a ∈ T → a ∈ B0 := fun a m ma => (d a m).1.elim id fun z => absurd ma z.1
      obtain ⟨A', r1, r2, r3⟩ := q5 (v' := v) ez (fun a m nb u e => k a ⟨nb, .inl m⟩ u e) ra n1 fun a m ma => apart a (List.mem_append_left _ m) ma
      rw [set_same q1] at r1
      have hF : ∀ a u, F a = some u → a ∉ B0 := fun a u e m => by
        rw [(s.ds a (q4 a m)).2] at e
        cases e
      refine ⟨⟨s.gr.zz.trans ez, fun a u e => k a ⟨hF a u e, .inr ⟨u, e⟩⟩ u (s.gr.hh a u e), zh, fun a u e => (nz a ⟨hF a u e, .inr ⟨u, e⟩⟩).trans (s.gr.nw a u e)⟩, A' ++ A2, r1.push rb, List.nodup_append.mpr ⟨r2, n2, fun a ha b hb e => ?_⟩, fun a m => ?_⟩
      · subst e
        rcases r3 a ha with z | z
        · exact z.2 (apart a (List.mem_append_right _ hb) z.1)
        · exact n3 a z a hb rfl
      · have new : a ∈ A1 ++ A2 → Z' a = none ∧ F a = none := fun y => by
          refine ⟨(d a y).2, ?_⟩
          rcases (d a y).1 with z | z
          · exact (s.ds a (q4 a z)).2
          · exact z.2
        rcases List.mem_append.mp m with m | m
        · rcases r3 a m with z | z
          · exact ⟨(nz a ⟨z.2, .inl z.1⟩).trans (s.ds a z.1).1, (s.ds a z.1).2⟩
          · exact new (List.mem_append_left _ z)
        · exact new (List.mem_append_right _ m)
theorem Foc.grow {T : List Addr} {v : V} {o : O} {R : O → Slots} (f : Foc K Z0 F Z σ H T v o R) (g : Gr Z H Z1 H1) : Foc K Z0 F Z1 σ H1 T v o R := by
  obtain ⟨A, f⟩ := f
  refine ⟨A, f.rp.ex g.zz g.hh, f.nd, fun a m => ⟨(f.ds a m).1, ?_, (f.ds a m).2.2⟩, fun a m => ?_, f.fh.trans g.hh, fun {Z' H' w o' p B} ez nz zh k r n d => ?_⟩
  · obtain ⟨u, e⟩ := f.rp.there a m
    exact (g.nw a u e).trans (f.ds a m).2.1
  · obtain ⟨u, e⟩ := f.th a m
    exact ⟨u, g.hh a u e⟩
  · refine f.k (g.zz.trans ez) (fun a ka => ?_) zh (fun a ka u e => k a ka u (g.hh a u e)) r n d
    have : ∃ u, H a = some u := ka.2.elim (f.th a) fun ⟨u, e⟩ => ⟨u, f.fh a u e⟩
    obtain ⟨u, e⟩ := this
    exact (nz a ka).trans (g.nw a u e)
theorem FocA.chg {T A : List Addr} {v : V} {o : O} {R : O → Slots} (f : FocA K F Z Z0 σ H T v o R A) {o' : O} {B : List Addr} (ez : Ex Z Z') (nz : ∀ a, Kept F T A a → Z' a = Z a) (zh : Ex Z' H') (k : ∀ a, Kept F T A a → ∀ u, H a = some u → H' a = some u) (r : RepO K Z' F H' v o' B) (n : B.Nodup) (d : ∀ a ∈ B, (a ∈ A ∨ a ∉ T ∧ F a = none) ∧ Z' a = none) : StR K (R o') Z0 F Z' σ H' := by
  have := f.k (w := .non) (p := .fz .non) ez nz zh k (.cons r (.cons (A := []) (.fz .non) .nil)) (by simpa using n) (fun a m => d a (by simpa using m))
  exact this.pop
/-- one step down -/
theorem FocA.down {X : Type} {T A : List Addr} {v : V} {mk : List O → O} {cell : X → List V → HO} {P : Addr → Prop} {R : O → Slots} {os : List O} {j : Nat} {o : O}
    (hmk : ∀ {Z H : Hp} {v : V} {os : List O} {A : List Addr}, RepO K Z F H v (mk os) A ↔ ∃ a x vs A1, P a ∧ v = .ref a ∧ A = a :: A1 ∧ H a = some (cell x vs) ∧ RepOL K Z F H vs os A1)
    (f : FocA K F Z Z0 σ H T v (mk os) R A) (hj : os[j]? = some o) : ∃ a x vs v', v = .ref a ∧ H a = some (cell x vs) ∧ vs.length = os.length ∧ vs[j]? = some v' ∧ Foc K Z0 F Z σ H T v' o (fun o' => R (mk (os.set j o'))) := by
  obtain ⟨a, x, vs, A1, pa, rfl, rfl, ha, rl⟩ := hmk.mp f.rp
  obtain ⟨na, nA⟩ := List.nodup_cons.mp f.nd
  obtain ⟨v', B, q1, q2, q3, q4, q5⟩ := rl.foc hj nA
  have lenL : ∀ {vs : List V} {os : List O} {A : List Addr}, RepOL K Z F H vs os A → vs.length = os.length := fun r => r.length
  refine ⟨a, x, vs, v', rfl, ha, lenL rl, q1, B, q2, q3, fun b m => f.ds b (List.mem_cons_of_mem _ (q4 b m)), f.th, f.fh, fun {Z' H' w o' p B2} ez nz zh k r n d => ?_⟩
  cases r with
  | @cons _ _ _ _ B3 _ ra r =>
    cases r with
    | @cons _ _ _ _ B4 _ rb r =>
      cases r
      rw [List.append_nil] at n d
      obtain ⟨n1, n2, n3⟩ := List.nodup_append.mp n
      have aB : a ∉ B := fun m => na (q4 a m)
      have kA : ∀ b ∈ A1, b ∉ B → Kept F T B b := fun b m nb => ⟨nb, .inl (f.ds b (List.mem_cons_of_mem _ m)).1⟩
      have kT : ∀ b, Kept F T (a :: A1) b → Kept F T B b := fun b kb => ⟨fun m => kb.1 (List.mem_cons_of_mem _ (q4 b m)), kb.2⟩
      have ka : Kept F T B a := ⟨aB, .inl (f.ds a List.mem_cons_self).1⟩
      have apart : ∀ b ∈ B3 ++ B4, b ∈ a :: A1 → b ∈ B := fun b m mb => (d b m).1.elim id fun z => absurd (f.ds b mb).1 z.1
      obtain ⟨A', t1, t2, t3⟩ := q5 ez (fun b m nb u e => k b (kA b m nb) u e) ra n1 fun b m mb => apart b (List.mem_append_left _ m) (List.mem_cons_of_mem _ mb)
      have rm : RepO K Z' F H' (.ref a) (mk (os.set j o')) (a :: A') := hmk.mpr ⟨a, x, vs, A', pa, rfl, rfl, k a ka _ ha, t1⟩
      have aA' : a ∉ A' := fun m => by
        rcases t3 a m with z | z
        · exact na z.1
        · exact aB (apart a (List.mem_append_left _ z) List.mem_cons_self)
      refine f.k ez (fun b kb => nz b (kT b kb)) zh (fun b kb u e => k b (kT b kb) u e) (.cons rm (.cons rb .nil)) ?_ fun b m => ?_
      · rw [List.append_nil]
        refine List.nodup_append.mpr ⟨List.nodup_cons.mpr ⟨aA', t2⟩, n2, fun b hb c hc e => ?_⟩
        subst e
        rcases List.mem_cons.mp hb with z | z
        · subst z
          exact aB (apart b (List.mem_append_right _ hc) List.mem_cons_self)
        · rcases t3 b z with y | y
          · exact y.2 (apart b (List.mem_append_right _ hc) (List.mem_cons_of_mem _ y.1))
          · exact n3 b y b hc rfl
      · rw [List.append_nil] at m
        have new : b ∈ B3 ++ B4 → (b ∈ a :: A1 ∨ b ∉ T ∧ F b = none) ∧ Z' b = none := fun y => ⟨(d b y).1.imp (fun z => List.mem_cons_of_mem _ (q4 b z)) id, (d b y).2⟩
        rcases List.mem_append.mp m with m | m
        · rcases List.mem_cons.mp m with z | z
          · subst z
            exact ⟨.inl List.mem_cons_self, (nz b ka).trans (f.ds b List.mem_cons_self).2.1⟩
          · rcases t3 b z with y | y
            · exact ⟨.inl (List.mem_cons_of_mem _ y.1), (nz b (kA b y.1 y.2)).trans (f.ds b (List.mem_cons_of_mem _ y.1)).2.1⟩
            · exact new (List.mem_append_left _ y)
        · exact new (List.mem_append_right _ m)
theorem hm_lst : ∀ {Z H : Hp} {v : V} {os : List O} {A : List Addr}, RepO K Z F H v (.lst os) A ↔ ∃ a, ∃ _ : Unit, ∃ vs A1, True ∧ v = .ref a ∧ A = a :: A1 ∧ H a = some (.lst vs) ∧ RepOL K Z F H vs os A1 := by
  intro Z H v os A
  constructor
  · intro r
    cases r with
    | lst h r => exact ⟨_, (), _, _, trivial, rfl, rfl, h, r⟩
  · rintro ⟨a, _, vs, A1, _, rfl, rfl, h, r⟩
    exact .lst h r
theorem hm_ins {C : Addr} {ns : List Str} : ∀ {Z H : Hp} {v : V} {os : List O} {A : List Addr}, RepO K Z F H v (.ins C ns os) A ↔ ∃ a, ∃ dx : Addr, ∃ vs A1, True ∧ v = .ref a ∧ A = a :: A1 ∧ H a = some (.ins C dx (ns.zip vs)) ∧ RepOL K Z F H vs os A1 := by
  intro Z H v os A
  constructor
  · intro r
    cases r with
    | ins h r => exact ⟨_, _, _, _, trivial, rfl, rfl, h, r⟩
  · rintro ⟨a, _, vs, A1, _, rfl, rfl, h, r⟩
    exact .ins h r
end
end M
namespace M
open PySem L2 PySem.Spec PyProof.Rows
section
variable {X : Cx} {ρ ρ' : Slots} {R : O → Slots} {e a b c elt : Expr} {es rest : List Expr} {st : Stmt} {sts : List Stmt} {G : Go} {o o1 o2 : O} {d : D} {ds : List D} {os : List O} {pos p0 p1 p2 p3 p4 p5 p6 : Pos} {i j : Nat} {x nm f : Str} {m n k : Int} {p q : Str} {C : Addr} {ns : List Str}
theorem Foc.unloc {K : PySem.W.Frag} {Z0 F Z H : Hp} {σ : L2.St} {T : List Addr} {v : V} {l : Addr} (f : Foc K Z0 F Z σ H T v (.loc l o) R) : v = .ref l ∧ Foc K Z0 F Z σ H T v o (fun o' => R (.loc l o')) := by
  obtain ⟨A, f⟩ := f
  have ev : v = .ref l := by
    cases f.rp with
    | loc r => rfl
  subst ev
  refine ⟨rfl, A, ?_, f.nd, f.ds, f.th, f.fh, fun ez nz zh k r n d => f.k ez nz zh k ?_ n d⟩
  · cases f.rp with
    | loc r => exact r
  · cases r with
    | cons r1 r2 => exact .cons (.loc r1) r2
theorem MV.unloc {l : Addr} (h : MV X ρ e (.loc l o)) : MV X ρ e o := .mk fun Z0 F Z σ H s Q q => h.run Z0 F Z σ H s Q fun v Z' H' A g r => by
  cases r with
  | loc r => exact q _ Z' H' A g r
/-- a cell is changed in place -/
theorem FocA.mut {K : PySem.W.Frag} {Z0 F Z H : Hp} {σ : L2.St} {T A : List Addr} {v : V} (f : FocA K F Z Z0 σ H T v o R A) (zh : Ex Z H) {a : Addr} (ha : a ∈ A) {c : HO} {o' : O} {B : List Addr} (r : RepO K Z F (upd H a c) v o' B) (n : B.Nodup) (d : ∀ b ∈ B, b ∈ A ∨ (b ∉ T ∧ Z b = none ∧ F b = none)) : StR K (R o') Z0 F Z σ (upd H a c) := by
  refine f.chg (Ex.refl _) (fun _ _ => rfl) (zh.mut (f.ds a ha).2.1) (fun b kb u e => ?_) r n fun b m => ?_
  · rw [upd_ne fun q => kb.1 (by rw [q]; exact ha)]
    exact e
  · rcases d b m with z | z
    · exact ⟨.inl z, (f.ds b z).2.1⟩
    · exact ⟨.inr ⟨z.1, z.2.2⟩, z.2.1⟩
end
end M
namespace M
open PySem L2 PySem.Spec PyProof.Rows
section
variable {X : Cx} {ρ ρ' : Slots} {R : O → Slots} {e a b c elt : Expr} {es rest : List Expr} {st : Stmt} {sts : List Stmt} {G : Go} {o o1 o2 : O} {d : D} {ds : List D} {os : List O} {pos p0 p1 p2 p3 p4 p5 p6 : Pos} {i j : Nat} {x nm f : Str} {m n k : Int} {C : Addr} {ns : List Str}
end
end M
namespace M
open PySem L2 PySem.Spec PyProof.Rows
section
variable {X : Cx} {ρ ρ' : Slots} {R : O → Slots} {e a b c elt : Expr} {es rest : List Expr} {st : Stmt} {sts : List Stmt} {G : Go} {o o1 o2 : O} {d : D} {ds ds1 ds2 : List D} {os : List O} {pos p0 p1 p2 p3 p4 p5 p6 : Pos} {i j : Nat} {nm : Str} {C : Addr} {ns : List Str}
end
end M
namespace M
open PySem L2 PySem.Spec PyProof.Rows
section
variable {V W R : Type}
variable {X : Cx} {ρ ρ' : Slots} {e a c elt : Expr} {st : Stmt} {sts : List Stmt} {G : Go} {pos p0 : Pos}
end
end M
namespace M
open PySem L2 PySem.Spec PyProof.Rows
section
variable {X : Cx} {ρ ρ' : Slots} {R' : O → Slots} {e a b c elt : Expr} {es : List Expr} {st : Stmt} {sts : List Stmt} {G : Go} {o o1 o2 : O} {d : D} {ds : List D} {os : List O} {pos p0 p1 p2 p3 p4 : Pos} {i n : Nat} {x nm : Str} {α β V W R : Type}
theorem Le.get : ∀ {ρ τ : Slots} {n : Nat} {o : O}, Le ρ τ → τ[n]? = some (some o) → ρ[n]? = some (some o)
  | _, _, _, _, .nil, h => h
  | _, _, 0, _, .no _, h => by simp at h
  | _, _, 0, _, .eq _, h => h
  | _, _, n + 1, _, .no l, h => by
    simp only [List.getElem?_cons_succ] at h ⊢
    exact Le.get l h
  | _, _, n + 1, _, .eq l, h => by
    simp only [List.getElem?_cons_succ] at h ⊢
    exact Le.get l h
end
end M
namespace M
open PySem L2 PySem.Spec PyProof.Rows
def ThrE (K : PySem.W.Frag) (E : XK) (e : Er) (Z H : Hp) : Prop := Thrown K (fun c d _ H => E c d H) e Z [] H
/-- a def that is known to refuse nothing -/
theorem _root_.L2.FnOk.known {P : Program} {w : World} {K : PySem.W.Frag} {mg : Str → Option Value} {base : Heap} {k : Nat} {f : Addr} {fd : FuncData} {ps : List Str} {sp sp' : Sp} (F : FnOk P w K mg base (L2.CX P w) k f fd ps sp)
    (h : ∀ vs H Q E, sp' vs H Q E → sp vs H Q (fun _ _ _ => False)) : FnOk P w K mg base CX0 k f fd ps sp' :=
  ⟨fun vs H Q E q => F.len vs H Q _ (h _ _ _ _ q), fun A outer s H args us vs Q E hr he hb hv hs => codeAny_mono (F.run A outer s H args us vs Q _ hr he hb hv (h _ _ _ _ hs)) fun r s' q => by
    cases r with
    | ok r => cases r <;> exact q
    | error e =>
      obtain ⟨_, _, _, _, _, _, _, _, _, _, _, _, z⟩ := q
      exact z.elim⟩
def SpE {α : Type} (K : PySem.W.Frag) (ar : α → List O) (pre : α → Prop) (res : α → O) : Sp := fun vs H Q E => ∃ (x : α) (Z : Hp), Ex Z H ∧ RepOL K Z H H vs (ar x) [] ∧ pre x ∧
  (∀ v Z' H' A, Gr Z H Z' H' → RepO K Z' (fun _ => none) H' v (res x) A → New H Z' A → Q v H') ∧ ∀ e Z' H', res x = .rs e → Gr Z H Z' H' → ThrE K E e Z' H'
structure Fn1E (P : Program) (w : World) (K : PySem.W.Frag) (mg : Str → Option Value) (base : Heap) (name : Str) (k : Nat) (ps : List Str) (sp : Sp) : Prop where
  ex : ∃ (f : Addr) (fd : FuncData), mg name = some (.ref f) ∧ PySem.W.keepIn K (.ref f) = true ∧ Binds K fd ps [] ∧ FnOk P w K mg base (L2.CX P w) k f fd ps sp
theorem Fn1E.ok {P : Program} {w : World} {K : PySem.W.Frag} {mg : Str → Option Value} {base : Heap} {name : Str} {k : Nat} {ps : List Str} {α : Type} {ar : α → List O} {pre : α → Prop} {res : α → O} (c : Fn1E P w K mg base name k ps (SpE K ar pre res)) : Fn1 P w K mg base name k ps (SpM K ar (fun x => pre x ∧ ∀ e, res x ≠ .rs e) res) := by
  obtain ⟨f, fd, hm, hk, hb, F⟩ := c.ex
  exact ⟨f, fd, hm, hk, hb, F.known fun vs H Q E ⟨x, Z, ez, r, ⟨hp, hn⟩, q⟩ => ⟨x, Z, ez, r, hp, q, fun e _ _ z => absurd z (hn e)⟩⟩
section
variable {X : Cx} {ρ : Slots} {e a b elt : Expr} {es : List Expr} {st : Stmt} {sts : List Stmt} {G : Go} {o o1 o2 : O} {d : D} {ds : List D} {pos p0 p1 p2 p3 : Pos} {i : Nat} {x nm f : Str} {er : Er}
end
/-- a class of errors without an __init__ of its own -/
structure XcC (K : PySem.W.Frag) (mg : Str → Option Value) (nm : Str) (C : Addr) : Prop where
  q : PySem.W.excIn K C [.type "ValueError", .type "Exception", .type "BaseException", .type "object"] "ValueError.__new__" = true
  g : mg nm = some (.ref C)
  k : PySem.W.keepIn K (.ref C) = true
  b : PySem.W.subIn K (.ref C) (.type "BaseException") = some true
  t : PySem.W.typeIn K (.ref C) = some (.type "type")
def SpXE {α : Type} (K : PySem.W.Frag) (ar : α → List O) (pre : α → Prop) (s0 s1 : Addr → α → O) (res : α → O) : Sp := fun vs H Q E => ∃ (x : α) (Z F : Hp) (l : Addr) (vs' : List V) (A : List Addr), vs = .ref l :: vs' ∧ Ex Z F ∧ Ex F H ∧ A.Nodup ∧ (∀ a ∈ A, F a = none) ∧ RepO K Z F H (.ref l) (s0 l x) A ∧ RepOL K Z F F vs' (ar x) [] ∧ pre x ∧
  (∀ v Z' H' B, Gr Z F Z' H' → RepOL K Z' (fun _ => none) H' [.ref l, v] [s1 l x, res x] B → B.Nodup → (∀ a ∈ B, F a = none ∧ Z' a = none) → Q v H') ∧ ∀ e Z' H', res x = .rs e → Gr Z F Z' H' → ThrE K E e Z' H'
/-- of a new instance -/
def SpIE {α : Type} (K : PySem.W.Frag) (C : Addr) (ns : List Str) (ar : α → List O) (pre : α → Prop) (res : α → List O) (er : α → Option Er) : Sp := fun vs H Q E => ∃ (x : α) (Z F : Hp) (l dx : Addr) (vs' : List V), vs = .ref l :: vs' ∧ Ex Z F ∧ Ex F H ∧ F l = none ∧ H l = some (.ins C dx []) ∧ RepOL K Z F F vs' (ar x) [] ∧ pre x ∧
  (er x = none → ∀ Z' H' A, Gr Z F Z' H' → RepO K Z' (fun _ => none) H' (.ref l) (.at l C ns (res x)) A → New F Z' A → Q .non H') ∧ ∀ e Z' H', er x = some e → Gr Z F Z' H' → ThrE K E e Z' H'
structure Mk1E (P : Program) (w : World) (K : PySem.W.Frag) (mg : Str → Option Value) (base : Heap) (name : Str) (C : Addr) (k : Nat) (ps : List Str) (sp : Sp) : Prop where
  ex : ∃ (f : Addr) (fd : FuncData), mg name = some (.ref C) ∧ Mk K C f ∧ Binds K fd ps [] ∧ FnOk P w K mg base (L2.CX P w) k f fd ps sp
structure Cf1E (P : Program) (w : World) (K : PySem.W.Frag) (mg : Str → Option Value) (base : Heap) (nmC m : Str) (k : Nat) (ps : List Str) (sp : Sp) : Prop where
  ex : ∃ (C : Addr) (mc : Value) (f : Addr) (fd : FuncData), mg nmC = some (.ref C) ∧ ClX.CRead K C mc ∧ ClX.CVal K C mc m (.ref f) (.ref f) ∧ PySem.W.keepIn K (.ref f) = true ∧ Binds K fd ps [] ∧ FnOk P w K mg base (L2.CX P w) k f fd ps sp
section
variable {P : Program} {w : World} {K : PySem.W.Frag} {mg : Str → Option Value} {base : Heap} {name m : Str} {k : Nat} {ps : List Str} {α : Type} {C : Addr} {ns : List Str} {ar : α → List O} {pre : α → Prop}
theorem Mk1E.ok {res : α → List O} {er : α → Option Er} (c : Mk1E P w K mg base name C k ps (SpIE K C ns ar pre res er)) : Mk1 P w K mg base name C k ps (SpI K C ns ar (fun x => pre x ∧ er x = none) res) := by
  obtain ⟨f, fd, hm, hk, hb, F⟩ := c.ex
  exact ⟨f, fd, hm, hk, hb, F.known fun vs H Q E ⟨x, Z, F, l, dx, vs', e, ez, ef, nl, hi, r, ⟨hp, hn⟩, q⟩ => ⟨x, Z, F, l, dx, vs', e, ez, ef, nl, hi, r, hp, fun _ => q, fun e _ _ z => by rw [hn] at z; cases z⟩⟩
theorem Cf1E.ok {s0 s1 : Addr → α → O} {res : α → O} (c : Cf1E P w K mg base name m k ps (SpXE K ar pre s0 s1 res)) : Cf1 P w K mg base name m k ps (SpX K ar (fun x => pre x ∧ ∀ e, res x ≠ .rs e) s0 s1 res) := by
  obtain ⟨C, mc, f, fd, hm, h1, h2, hk, hb, F⟩ := c.ex
  exact ⟨C, mc, f, fd, hm, h1, h2, hk, hb, F.known fun vs H Q E ⟨x, Z, F, l, vs', A, e, ez, ef, nA, fA, rs, r, ⟨hp, hn⟩, q⟩ => ⟨x, Z, F, l, vs', A, e, ez, ef, nA, fA, rs, r, hp, q, fun e _ _ z => absurd z (hn e)⟩⟩
end
section
variable {X : Cx} {ρ : Slots} {e : Expr} {es : List Expr} {pos p0 p1 p2 : Pos} {i : Nat} {xx nm : Str} {C : Addr} {ns all : List Str} {os : List O} {ds : List D} {er : Er}
end
end M
namespace M
open PySem L2 PySem.Spec PyProof.Rows
section
variable {X : Cx} {ρ : Slots} {G : Go}
end
section
variable {X : Cx} {ρ : Slots} {a C E : Addr} {oe : Obj} {pn : List (Addr × Obj)} {i : Nat} {n nm : Str} {p0 p1 p2 pos : Pos} {b : Bool} {T : String}
end
end M
namespace M
open PySem L2 PySem.Spec PyProof.Rows
section
open PySem.SeqAt
open PySem.AutoSeq1 (wpAny_loadPart')
open PySem.MeetsSeq PySem.MeetsSeq2 PySem.MeetsSeq3
end
section
variable {X : Cx} {pins : List (Addr × Obj)} {σ : L2.St} {H Z : Hp} {s : Shared}
end
section
variable {X : Cx} {ρ : Slots} {a b : Expr} {d : D} {xs : List Str} {pos p1 p2 p3 : Pos} {x : Str}
end
theorem kit_false {K : PySem.W.Frag} {C E : Addr} (h0 : PySem.W.mroIn K C (.ref C) = some true) (h1 : PySem.W.isClsIn K E = true) (h2 : PySem.W.typeIn K (.ref E) = some (.type "type")) (h3 : PySem.W.mroIn K C (.ref E) = some false) : PySem.W.kitOne K (.ref C) (.ref E) = some false := by
  unfold PySem.W.kitOne
  split
  · rename_i h
    have h := eq_of_beq h
    cases h
    rw [h0] at h3
    cases h3
  · have e : PySem.W.kitCls K (.ref C) (.ref E) = if ((PySem.W.clsIn K E).isSome && PySem.W.typeIn K (.ref E) == some (.type "type")) = true then PySem.W.mroIn K C (.ref E) else none := rfl
    rw [e, if_pos, h3]
    rw [h2]
    show ((PySem.W.clsIn K E).isSome && _) = true
    rw [show (PySem.W.clsIn K E).isSome = true from h1]
    decide
theorem kit_ty {K : PySem.W.Frag} {C : Addr} {T : String} {b : Bool} (h1 : PySem.W.kitMeta T = true) (h3 : PySem.W.mroIn K C (.type T) = some b) : PySem.W.kitOne K (.ref C) (.type T) = some b := by
  unfold PySem.W.kitOne
  split
  · rename_i h
    have h := eq_of_beq h
    cases h
  · have e : PySem.W.kitCls K (.ref C) (.type T) = if PySem.W.kitMeta T = true then PySem.W.mroIn K C (.type T) else none := rfl
    rw [e, if_pos h1, h3]
end M
namespace M
open PySem L2 PySem.Spec PyProof.Rows
section
variable {X : Cx} {ρ : Slots} {a b : Expr} {d y : D} {ds : List D} {k : Int} {pos p0 p1 : Pos} {x z : Str}
end
end M
namespace M
open PySem L2 PySem.Spec PyProof.Rows
section
variable {X : Cx} {ρ : Slots} {a b c : Expr} {o : O} {os : List O} {sts : List Stmt} {G : Go} {k : Bool} {pos : Pos} {x : Str} {i j : Nat} {l : Addr}
end
end M
namespace M
open PySem L2 PySem.Spec PyProof.Rows
section
variable {X : Cx}
variable {ρ : Slots} {a : Expr} {α : Type}
end
section
variable {X : Cx}
variable {ρ : Slots} {a b : Expr} {α : Type} {pos : Pos}
end
end M
namespace M
open PySem L2 PySem.Spec PyProof.Rows
section
variable {X : Cx} {ρ : Slots} {e : Expr} {d d' : D}
theorem MV.as (h : MV X ρ e (.fz d)) (q : d = d') : MV X ρ e (.fz d') := q ▸ h
theorem ME.as (h : ME X ρ e (.fz d)) (q : d = d') : ME X ρ e (.fz d') := q ▸ h
end
section
variable {X : Cx} {ρ : Slots} {e f : Expr} {pos dpos apos cpos : Pos} {s : Str} {d : Int} {keys : List (Option Expr)} {values : List Expr} {kvs : List (Str × Int)}
end
end M
namespace M
open PySem L2 PySem.Spec PyProof.Rows
section
variable {X : Cx} {ρ : Slots} {a b : Expr} {o2 : O} {d : D} {ds : List D} {pos : Pos}
variable {α : Type} {enc : α → D} {xs : List α}
end
end M
namespace M
open PySem L2 PySem.Spec PyProof.Rows
section
variable {X : Cx} {ρ : Slots} {G : Go}
end
section
variable {X : Cx} {ρ : Slots} {e : Expr} {pos dpos : Pos} {s v : Str} {keys : List (Option Expr)} {values : List Expr} {kvs : List (Str × Str)}
end
section
variable {X : Cx} {ρ : Slots} {e : Expr} {pos dpos : Pos} {s : Str} {v : Int} {keys : List (Option Expr)} {values : List Expr} {kvs : List (Str × Int)}
end
end M
namespace M
open PySem L2 PySem.Spec PyProof.Rows
section
variable {K : PySem.W.Frag} {Z F H : Hp}
mutual
theorem RepK.rep (e : Ex Z H) (f : Ex F H) : ∀ {v : V} {o : O}, RepK K Z F v o → Rep K H v o.frz
  | _, _, .fz h => h.mono e
  | _, _, .vw h r => .lst (ex_l f h) (r.mono e)
  | _, _, .vwa h r => .lst (ex_l f h) (r.mono e)
  | _, .lk o, .lk h => RepK.rep (o := o) e f h
  | _, _, .lst h r => .lst (SqL.of (f _ _ h)) (RepKL.rep e f r)
  | _, _, .tup h r => .tup (SqT.of (f _ _ h)) (RepKL.rep e f r)
  | _, _, .ins h r => .ins (f _ _ h) (RepKL.rep e f r)
  | _, .loc _ o, .loc h => RepK.rep (o := o) e f h
  | _, _, .pt => .opq _
  | _, _, .at h r => .ins (f _ _ h) (RepKL.rep e f r)
  | _, _, .dct h r => .dct (f _ _ h) (RepKL.rep e f r)
  | _, _, .dctT h r => .dctT (f _ _ h) (RepKL.rep e f r)
theorem RepKL.rep (e : Ex Z H) (f : Ex F H) : ∀ {vs : List V} {os : List O}, RepKL K Z F vs os → RepL K H vs (O.frzL os)
  | _, _, .nil => .nil
  | _, _, .cons h r => .cons (RepK.rep e f h) (RepKL.rep e f r)
end
mutual
theorem RepO.rep (e : Ex Z H) (f : Ex F H) : ∀ {v : V} {o : O} {A : List Addr}, RepO K Z F H v o A → Rep K H v o.frz
  | _, _, _, .fz h => h.mono e
  | _, _, _, .vw h r => .lst (ex_l f h) (r.mono e)
  | _, _, _, .vwa h r => .lst (ex_l f h) (r.mono e)
  | _, .lk o, _, .lk h => RepK.rep (o := o) e f h
  | _, _, _, .lst h r => .lst (SqL.of h) (RepOL.rep e f r)
  | _, _, _, .tup h r => .tup (SqT.of h) (RepOL.rep e f r)
  | _, _, _, .ins h r => .ins h (RepOL.rep e f r)
  | _, .loc _ o, _, .loc h => RepO.rep (o := o) e f h
  | _, _, _, .pt => .opq _
  | _, _, _, .at h r => .ins h (RepOL.rep e f r)
  | _, _, _, .dct h r => .dct h (RepOL.rep e f r)
  | _, _, _, .dctT h r => .dctT h (RepOL.rep e f r)
theorem RepOL.rep (e : Ex Z H) (f : Ex F H) : ∀ {vs : List V} {os : List O} {A : List Addr}, RepOL K Z F H vs os A → RepL K H vs (O.frzL os)
  | _, _, _, .nil => .nil
  | _, _, _, .cons h r => .cons (RepO.rep e f h) (RepOL.rep e f r)
end
end
/-- an expression that tells a thing, which is d now -/
structure MD (X : Cx) (ρ : Slots) (e : Expr) (d : D) : Prop where
  run : ∀ (Z0 F Z : Hp) (σ : L2.St) (H : Hp), StR X.K ρ Z0 F Z σ H → ∀ Q : VK, (∀ v Z' H', Gr Z H Z' H' → Rep X.K H' v d → Q v H') → wE X e σ H Q
section
variable {κ : Type} [DecidableEq κ] {β γ : Type}
/-- tables alike: entry by entry -/
def Tb (P : β → γ → Prop) : List (κ × β) → List (κ × γ) → Prop
  | [], [] => True
  | p :: r, q :: t => p.1 = q.1 ∧ P p.2 q.2 ∧ Tb P r t
  | _, _ => False
end
theorem RepL.tb {K : PySem.W.Frag} {Z : Hp} {κ : Type} [DecidableEq κ] : ∀ {m : List (κ × D)} {vs : List V}, RepL K Z vs (m.map (·.2)) → Tb (fun d v => Rep K Z v d) m ((m.map (·.1)).zip vs)
  | [], _, .nil => trivial
  | p :: r, _, .cons h t => ⟨rfl, h, RepL.tb t⟩
section
variable {X : Cx} {ρ : Slots} {R : O → Slots} {e e1 e2 f o a : Expr} {es : List Expr} {d y : D} {ds vs : List D} {pos p1 p2 p3 apos cpos : Pos} {C : Addr} {ns : List Str} {nm : Str} {oo : O} {G : Go}
theorem MV.now (h : MV X ρ e oo) : MD X ρ e oo.frz := .mk fun Z0 F Z σ H s Q q => h.run Z0 F Z σ H s Q fun v Z' H' A g r => q v Z' H' g (r.rep g.zh (s.gr.hh.trans g.hh))
end
end M
namespace M
open PySem L2 PySem.Spec PyProof.Rows
section
variable {X : Cx} {pins : List (Addr × Obj)} {σ : L2.St} {H : Hp} {s : Shared} {a b : Addr} {r : Value} {d : V} {k : List Key} {A : Around} {E : Value → Shared → Prop}
end
section
variable {κ : Type} [DecidableEq κ] {β : Type}
end
section
variable {X : Cx} {ρ ρ' : Slots} {R R' : O → Slots} {e a f call : Expr} {d y : D} {ds : List D} {pos p1 p2 p3 apos cpos dpos : Pos} {i : Nat} {st : Stmt} {sts : List Stmt} {G : Go} {oo o' : O} {nm : Str}
structure FP (X : Cx) (ρ : Slots) (b : Addr) (o : O) (R : O → Slots) : Prop where
  run : ∀ (Z0 F Z : Hp) (σ : L2.St) (H : Hp) (T : List Addr), StA X.K ρ Z0 F Z σ H T → Foc X.K Z0 F Z σ H T (.ref b) o R
end
end M
namespace M
open PySem L2 PySem.Spec PyProof.Rows
section
variable {X : Cx} {ρ ρ' : Slots} {R R' : O → Slots} {e a b f call : Expr} {es : List Expr} {d y : D} {ds : List D} {pos p0 p1 p2 p3 apos cpos dpos : Pos} {i j : Nat} {st : Stmt} {sts : List Stmt} {G : Go} {oo o o' : O} {nm : Str} {C : Addr} {ns : List Str} {os : List O} {k : Int}
end
class Nv (o : O) : Prop where
  nv : o.nv = true
instance {d : D} : Nv (.fz d) := ⟨rfl⟩
instance {ds : List D} : Nv (.lst (ds.map .fz)) := ⟨O.nvL_fz ds⟩
instance {a : Addr} {o : O} [h : Nv o] : Nv (.loc a o) := ⟨h.nv⟩
instance {a : Addr} : Nv (.pt a) := ⟨rfl⟩
class NvL (os : List O) : Prop where
  nv : O.nvL os = true
instance : NvL [] := ⟨rfl⟩
instance {o : O} {os : List O} [h : Nv o] [t : NvL os] : NvL (o :: os) := ⟨by show (o.nv && O.nvL os) = true; rw [h.nv, t.nv]; rfl⟩
instance (priority := low) {β : Type} {g : β → O} {xs : List β} [h : ∀ x, Nv (g x)] : NvL (xs.map g) := ⟨by
  induction xs with
  | nil => rfl
  | cons x r ih => show ((g x).nv && O.nvL (r.map g)) = true; rw [(h x).nv, ih]; rfl⟩
instance {os : List O} [h : NvL os] : Nv (.lst os) := ⟨h.nv⟩
instance {os : List O} [h : NvL os] : Nv (.tup os) := ⟨h.nv⟩
instance {C : Addr} {ns : List Str} {os : List O} [h : NvL os] : Nv (.ins C ns os) := ⟨h.nv⟩
instance {ks : List Key} {os : List O} [h : NvL os] : Nv (.dct ks os) := ⟨h.nv⟩
instance {ks : List (List Key)} {os : List O} [h : NvL os] : Nv (.dctT ks os) := ⟨h.nv⟩
instance {a C : Addr} {ns : List Str} {os : List O} [h : NvL os] : Nv (.at a C ns os) := ⟨h.nv⟩
theorem Nv.is (o : O) [h : Nv o] : o.nv = true := h.nv
end M
namespace M
open PySem L2 PySem.Spec PyProof.Rows
section
variable {β : Type}
end
section
variable {X : Cx} {ρ ρ' : Slots} {R R' : O → Slots} {e a b f call o : Expr} {es : List Expr} {d y dk : D} {ds : List D} {pos p0 p1 p2 p3 p4 apos cpos dpos : Pos} {i j : Nat} {st : Stmt} {sts : List Stmt} {G : Go} {oo o' : O} {nm : Str} {C : Addr} {ns : List Str} {os : List O} {β : Type} {g : β → O} {enc : β → D} {k : Key} {ks : List Key} {y0 y1 : β}
end
section
variable {K : PySem.W.Frag} {Z0 F Z Z' H H' : Hp} {σ : L2.St} {T A B : List Addr} {v : V} {o o' : O} {R : O → Slots}
theorem FocA.step (f : FocA K F Z Z0 σ H T v o R A) (ez : Ex Z Z') (nz : ∀ a, Kept F T A a → Z' a = Z a) (zh : Ex Z' H') (k : ∀ a, Kept F T A a → ∀ u, H a = some u → H' a = some u) (th : ∀ a ∈ A, ∃ u, H' a = some u) (fh : Ex F H') (r : RepO K Z' F H' v o' B) (n : B.Nodup) (d : ∀ a ∈ B, (a ∈ A ∨ a ∉ T ∧ F a = none) ∧ Z' a = none) : FocA K F Z' Z0 σ H' (T ++ B) v o' R B := by
  have nB : ∀ a, Kept F T A a → a ∉ B := fun a ka m => by
    rcases (d a m).1 with z | z
    · exact ka.1 z
    · rcases ka.2 with y | ⟨u, y⟩
      · exact z.1 y
      · rw [z.2] at y; cases y
  have kB : ∀ a, Kept F T A a → Kept F (T ++ B) B a := fun a ka => ⟨nB a ka, ka.2.imp (List.mem_append_left _) id⟩
  refine ⟨r, n, fun a m => ⟨List.mem_append_right _ m, (d a m).2, ?_⟩, fun a m => ?_, fh, fun {Z2 H2 w o2 p B2} ez2 nz2 zh2 k2 r2 n2 d2 => ?_⟩
  · rcases (d a m).1 with z | z
    · exact (f.ds a z).2.2
    · exact z.2
  · rcases List.mem_append.mp m with m | m
    · by_cases ma : a ∈ A
      · exact th a ma
      · obtain ⟨u, e⟩ := f.th a m
        exact ⟨u, k a ⟨ma, .inl m⟩ u e⟩
    · exact r.there a m
  · refine f.k (ez.trans ez2) (fun a ka => (nz2 a (kB a ka)).trans (nz a ka)) zh2 (fun a ka u e => k2 a (kB a ka) u (k a ka u e)) r2 n2 fun a m => ⟨?_, (d2 a m).2⟩
    rcases (d2 a m).1 with z | z
    · exact (d a z).1
    · exact .inr ⟨fun y => z.1 (List.mem_append_left _ y), z.2⟩
end
section
variable {κ : Type} [DecidableEq κ] {β : Type}
end
end M
namespace M
open PySem L2 PySem.Spec PyProof.Rows
section
variable {κ : Type} [DecidableEq κ] {β γ : Type}
end
structure FQ (X : Cx) (ρ : Slots) (o : O) (R : O → Slots) : Prop where
  run : ∀ (Z0 F Z : Hp) (σ : L2.St) (H : Hp) (T : List Addr), StA X.K ρ Z0 F Z σ H T → ∃ v, Foc X.K Z0 F Z σ H T v o R
section
variable {X : Cx} {ρ ρ' : Slots} {R R' : O → Slots} {e a f : Expr} {d dk : D} {ds : List D} {pos p0 p1 p2 p3 apos cpos dpos : Pos} {i j : Nat} {st : Stmt} {sts : List Stmt} {G : Go} {oo o o' : O} {nm : Str} {C l b : Addr} {ns : List Str} {os : List O} {β : Type} {g : β → O} {k : Key} {ks : List Key} {y0 : β}
theorem FQ.loc (h : FQ X ρ (.loc l o) R) : FQ X ρ o (fun o' => R (.loc l o')) := .mk fun Z0 F Z σ H T s => by
  obtain ⟨v, f⟩ := h.run Z0 F Z σ H T s
  exact ⟨v, f.unloc.2⟩
theorem FQ.fp (h : FQ X ρ (.loc l o) R) : FP X ρ l o (fun o' => R (.loc l o')) := .mk fun Z0 F Z σ H T s => by
  obtain ⟨v, f⟩ := h.run Z0 F Z σ H T s
  have := f.unloc
  rw [← this.1]
  exact this.2
theorem FQ.fld (h : FQ X ρ (.ins C ns os) R) (hd : os[j]? = some o) : FQ X ρ o (fun o' => R (.ins C ns (os.set j o'))) := .mk fun Z0 F Z σ H T s => by
  obtain ⟨v, A, f⟩ := h.run Z0 F Z σ H T s
  obtain ⟨_, _, _, v', _, _, _, _, f'⟩ := f.down hm_ins hd
  exact ⟨v', f'⟩
theorem FQ.it (h : FQ X ρ (.lst os) R) (hd : os[j]? = some o) : FQ X ρ o (fun o' => R (.lst (os.set j o'))) := .mk fun Z0 F Z σ H T s => by
  obtain ⟨v, A, f⟩ := h.run Z0 F Z σ H T s
  obtain ⟨_, _, _, v', _, _, _, _, f'⟩ := f.down hm_lst hd
  exact ⟨v', f'⟩
theorem FocA.same {K : PySem.W.Frag} {Z0 F Z H : Hp} {σ : L2.St} {T A : List Addr} {v : V} (f : FocA K F Z Z0 σ H T v o R A) (zh : Ex Z H) (hw : RepO K Z F H v o' A) : StR K (R o') Z0 F Z σ H :=
  f.chg (Ex.refl _) (fun _ _ => rfl) zh (fun _ _ _ e => e) hw f.nd fun a m => ⟨.inl m, (f.ds a m).2.1⟩
end
end M
namespace L2
open PySem PySem.Spec PyProof.Rows
section
variable {X : Cx} {pins : List (Addr × Obj)} {σ : St} {H : Hp} {s : Shared} {d : Addr} {o : Obj}
end
end L2
namespace M
open PySem L2 PySem.Spec PyProof.Rows
mutual
def O.nt : O → Bool
  | .lst os => O.ntL os
  | .tup _ => false
  | .ins _ _ os => O.ntL os
  | .at _ _ _ os => O.ntL os
  | .loc _ o => o.nt
  | .dct _ os => O.ntL os
  | .dctT _ os => O.ntL os
  | _ => true
def O.ntL : List O → Bool
  | [] => true
  | o :: r => o.nt && O.ntL r
end
section
variable {K : PySem.W.Frag} {Z F H : Hp}
mutual
theorem RepO.nt : ∀ {v : V} {o : O} {A : List Addr}, RepO K Z F H v o A → o.nt = true → ∀ a ∈ A, ∀ xs, H a ≠ some (.tup xs)
  | _, _, _, .fz _, _, _, m => nomatch m
  | _, _, _, .vw _ _, _, _, m => nomatch m
  | _, _, _, .vwa _ _, _, _, m => nomatch m
  | _, _, _, .lk _, _, _, m => nomatch m
  | _, _, _, .pt, _, _, m => nomatch m
  | _, _, _, .tup _ _, n, _, _ => nomatch n
  | _, .loc _ o, _, .loc h, n, a, m => RepO.nt (o := o) h n a m
  | _, _, _, .lst h r, n, a, m => (List.mem_cons.mp m).elim (fun e xs z => by rw [e, h] at z; cases z) fun m => RepOL.nt r n a m
  | _, _, _, .ins h r, n, a, m => (List.mem_cons.mp m).elim (fun e xs z => by rw [e, h] at z; cases z) fun m => RepOL.nt r n a m
  | _, _, _, .at h r, n, a, m => (List.mem_cons.mp m).elim (fun e xs z => by rw [e, h] at z; cases z) fun m => RepOL.nt r n a m
  | _, _, _, .dct h r, n, a, m => (List.mem_cons.mp m).elim (fun e xs z => by rw [e, h] at z; cases z) fun m => RepOL.nt r n a m
  | _, _, _, .dctT h r, n, a, m => (List.mem_cons.mp m).elim (fun e xs z => by rw [e, h] at z; cases z) fun m => RepOL.nt r n a m
theorem RepOL.nt : ∀ {vs : List V} {os : List O} {A : List Addr}, RepOL K Z F H vs os A → O.ntL os = true → ∀ a ∈ A, ∀ xs, H a ≠ some (.tup xs)
  | _, _, _, .nil, _, _, m => nomatch m
  | _, _, _, .cons h r, n, a, m => (List.mem_append.mp m).elim (fun m => RepO.nt h (Bool.and_eq_true_iff.mp n).1 a m) fun m => RepOL.nt r (Bool.and_eq_true_iff.mp n).2 a m
end
theorem StL.nt : ∀ {ρ : Slots} {σ : L2.St} {A : List Addr}, StL K Z F H ρ σ A → (∀ o, some o ∈ ρ → o.nt = true) → ∀ a ∈ A, ∀ xs, H a ≠ some (.tup xs)
  | _, _, _, .nil, _, _, m => nomatch m
  | _, _, _, .no h, n, a, m => h.nt (fun o z => n o (List.mem_cons_of_mem _ z)) a m
  | _, _, _, .so r h, n, a, m => (List.mem_append.mp m).elim (fun m => r.nt (n _ List.mem_cons_self) a m) fun m => h.nt (fun o z => n o (List.mem_cons_of_mem _ z)) a m
end
class Nt (o : O) : Prop where
  nt : o.nt = true
class NtL (os : List O) : Prop where
  nt : O.ntL os = true
instance {d : D} : Nt (.fz d) := ⟨rfl⟩
instance {o : O} : Nt (.lk o) := ⟨rfl⟩
instance {ds : List D} : Nt (.vw ds) := ⟨rfl⟩
instance {a : Addr} {ds : List D} : Nt (.vwa a ds) := ⟨rfl⟩
instance {a : Addr} : Nt (.pt a) := ⟨rfl⟩
instance {a : Addr} {o : O} [h : Nt o] : Nt (.loc a o) := ⟨h.nt⟩
instance : NtL [] := ⟨rfl⟩
instance {o : O} {os : List O} [h : Nt o] [t : NtL os] : NtL (o :: os) := ⟨by show (o.nt && O.ntL os) = true; rw [h.nt, t.nt]; rfl⟩
instance (priority := low) {β : Type} {g : β → O} {xs : List β} [h : ∀ x, Nt (g x)] : NtL (xs.map g) := ⟨by
  induction xs with
  | nil => rfl
  | cons x r ih => show ((g x).nt && O.ntL (r.map g)) = true; rw [(h x).nt, ih]; rfl⟩
instance {os : List O} [h : NtL os] : Nt (.lst os) := ⟨h.nt⟩
instance {C : Addr} {ns : List Str} {os : List O} [h : NtL os] : Nt (.ins C ns os) := ⟨h.nt⟩
instance {a C : Addr} {ns : List Str} {os : List O} [h : NtL os] : Nt (.at a C ns os) := ⟨h.nt⟩
instance {ks : List Key} {os : List O} [h : NtL os] : Nt (.dct ks os) := ⟨h.nt⟩
instance {ks : List (List Key)} {os : List O} [h : NtL os] : Nt (.dctT ks os) := ⟨h.nt⟩
class NtS (ρ : Slots) : Prop where
  nt : ∀ o, some o ∈ ρ → o.nt = true
instance : NtS [] := ⟨fun _ m => nomatch m⟩
instance {ρ : Slots} [t : NtS ρ] : NtS (none :: ρ) := ⟨fun o m => (List.mem_cons.mp m).elim (fun z => nomatch z) (t.nt o)⟩
instance {o : O} {ρ : Slots} [h : Nt o] [t : NtS ρ] : NtS (some o :: ρ) := ⟨fun o m => (List.mem_cons.mp m).elim (fun z => by cases z; exact h.nt) (t.nt o)⟩
section
variable {K : PySem.W.Frag} {Z0 F Z H : Hp} {ρ τ : Slots} {σ : L2.St} {i : Nat} {l d : Addr} {o : O} {u lu : HO} {qs : List Addr}
def lkF (F H : Hp) (B qs : List Addr) (d : Addr) (lu : HO) : Hp := fun a => if a = d then some lu else if a ∈ B ∨ a ∈ qs then H a else F a
theorem lkF_d {B : List Addr} : lkF F H B qs d lu d = some lu := if_pos rfl
theorem lkF_in {B : List Addr} {a : Addr} (h : a ≠ d) (m : a ∈ B ∨ a ∈ qs) : lkF F H B qs d lu a = H a := by unfold lkF; rw [if_neg h, if_pos m]
theorem lkF_out {B : List Addr} {a : Addr} (h : a ≠ d) (m : ¬ (a ∈ B ∨ a ∈ qs)) : lkF F H B qs d lu a = F a := by unfold lkF; rw [if_neg h, if_neg m]
theorem locked (s : StR K ρ Z0 F Z σ H) (hi : ρ[i]? = some (some (.loc l o))) (nt : ∀ o, some o ∈ ρ → o.nt = true) : σ[i]? = some (some (.ref l)) ∧ ∃ B, RepO K Z F H (.ref l) o B ∧ B.Nodup ∧ (∀ a ∈ B, Z a = none ∧ F a = none) ∧
    ∀ {d : Addr} {u lu : HO} {qs : List Addr}, d ∈ B → H d = some u → (∀ q ∈ qs, ∃ xs, H q = some (.tup xs)) →
      Ex F (lkF F H B qs d lu) ∧ StR K (ρ.set i (some (.pt l))) Z (lkF F H B qs d lu) Z σ (upd H d lu) ∧
      ∀ {τ : Slots} {Zn Hn : Hp} {σn : L2.St}, StR K τ Z (lkF F H B qs d lu) Zn σn Hn → τ[i]? = some (some (.pt l)) → Kp (ρ.set i (some (.pt l))) τ → o.nv = true → StR K (τ.set i (some (.loc l o))) Z0 F Zn σn (upd Hn d u) := by
  obtain ⟨A, h1, h2, h3⟩ := s.st
  obtain ⟨v, B, q1, q2, q3, q4, q5⟩ := h1.at hi h2
  have ev : v = .ref l := by cases q2 with | loc _ => rfl
  subst ev
  have r0 : RepO K Z F H (.ref l) o B := by cases q2 with | loc r => exact r
  refine ⟨q1, B, r0, q3, fun a m => h3 a (q4 a m), fun {d u lu qs} hd hu hq => ?_⟩
  generalize eF : lkF F H B qs d lu = F1
  have zd : Z d = none := (h3 d (q4 d hd)).1
  have fd : F d = none := (h3 d (q4 d hd)).2
  have F1d : F1 d = some lu := by rw [← eF]; exact lkF_d
  have F1i : ∀ a, a ≠ d → (a ∈ B ∨ a ∈ qs) → F1 a = H a := fun a n m => by rw [← eF]; exact lkF_in n m
  have F1o : ∀ a, a ≠ d → ¬ (a ∈ B ∨ a ∈ qs) → F1 a = F a := fun a n m => by rw [← eF]; exact lkF_out n m
  have ef : Ex F F1 := fun a w e => by
    have n : a ≠ d := fun z => by rw [z, fd] at e; cases e
    by_cases m : a ∈ B ∨ a ∈ qs
    · rw [F1i a n m]; exact s.gr.hh a w e
    · rw [F1o a n m]; exact e
  have eh : Ex F1 (upd H d lu) := fun a w e => by
    by_cases n : a = d
    · subst n
      rw [F1d] at e
      rw [upd_same]; exact e
    · rw [upd_ne n]
      by_cases m : a ∈ B ∨ a ∈ qs
      · rw [F1i a n m] at e; exact e
      · rw [F1o a n m] at e; exact s.gr.hh a w e
  have zh : Ex Z (upd H d lu) := fun a w e => by
    rw [upd_ne fun z => by rw [z, zd] at e; cases e]
    exact s.gr.zh a w e
  obtain ⟨A', t1, t2, t3⟩ := q5 (Z' := Z) (H' := upd H d lu) (v' := .ref l) (o' := .pt l) (B' := []) (Ex.refl _) (fun a m nb w e => by
    rw [upd_ne (show a ≠ d from fun z => nb (by rw [z]; exact hd))]; exact e) .pt List.nodup_nil fun _ m => nomatch m
  rw [set_same q1] at t1
  have ntA : ∀ a ∈ A, ∀ xs, H a ≠ some (.tup xs) := h1.nt nt
  have F1A : ∀ a ∈ A, a ∉ B → F1 a = none := fun a m nb => by
    have n : a ≠ d := fun z => nb (by rw [z]; exact hd)
    have nm : ¬ (a ∈ B ∨ a ∈ qs) := fun z => z.elim nb fun z => by
      obtain ⟨xs, e⟩ := hq a z
      exact ntA a m xs e
    rw [F1o a n nm]; exact (h3 a m).2
  refine ⟨ef, ⟨⟨Ex.refl _, eh, zh, fun _ _ _ => rfl⟩, A', t1.monoF ef, t2, fun a m => ?_⟩, fun {τ Zn Hn σn} sn hp hk hv => ?_⟩
  · rcases t3 a m with z | z
    · exact ⟨(h3 a z.1).1, F1A a z.1 z.2⟩
    · exact nomatch z
  · obtain ⟨An, l1, l2, l3⟩ := sn.st
    obtain ⟨w, Bn, u1, u2, u3, u4, u5⟩ := l1.at hp l2
    have ew : w = .ref l := by cases u2; rfl
    subst ew
    have nd : ∀ a ∈ An, a ≠ d := fun a m z => by rw [z] at m; rw [(l3 d m).2] at F1d; cases F1d
    have HnB : ∀ a ∈ B, a ≠ d → Hn a = H a := fun a m n => by
      obtain ⟨w, e⟩ := r0.there a m
      rw [e]
      exact sn.gr.hh a w (by rw [F1i a n (.inl m)]; exact e)
    have rB : RepO K Zn F (upd Hn d u) (.ref l) (.loc l o) B := .loc (r0.mono sn.gr.zz (Ex.refl _) fun a m w e => by
      by_cases n : a = d
      · subst n
        rw [hu] at e
        rw [upd_same]; exact e
      · rw [upd_ne n, HnB a m n]; exact e)
    have ZnB : ∀ a ∈ B, Zn a = none := fun a m => by
      have : ∃ w, F1 a = some w := by
        by_cases n : a = d
        · exact ⟨_, by rw [n]; exact F1d⟩
        · obtain ⟨w, e⟩ := r0.there a m
          exact ⟨w, by rw [F1i a n (.inl m)]; exact e⟩
      obtain ⟨w, e⟩ := this
      rw [sn.gr.nw a w e]
      exact (h3 a (q4 a m)).1
    have l1' : StL K Zn F1 (upd Hn d u) τ σn An := l1.mono (Ex.refl _) fun a m w e => by rw [upd_ne (nd a m)]; exact e
    have l2' : StL K Zn F (upd Hn d u) τ σn An := StL.kp ef sn.gr.zz hk t1 (by
      exact l1')
    obtain ⟨w2, Bn2, y1, y2, y3, y4, y5⟩ := l2'.at hp l2
    have eB2 : Bn2 = [] := by cases y2; rfl
    subst eB2
    have BA : ∀ a ∈ B, a ∉ An := fun a m z => by
      have := (l3 a z).2
      by_cases n : a = d
      · rw [n, F1d] at this; cases this
      · obtain ⟨w, e⟩ := r0.there a m
        rw [F1i a n (.inl m), e] at this; cases this
    obtain ⟨A2, x1, x2, x3⟩ := y5 (Z' := Zn) (H' := upd Hn d u) (v' := .ref l) (o' := .loc l o) (B' := B) (Ex.refl _) (fun _ _ _ _ e => e) rB q3 fun a m z => absurd z (BA a m)
    rw [set_same u1] at x1
    have znd : Zn d = none := ZnB d hd
    refine ⟨⟨s.gr.zz.trans sn.gr.zz, fun a w e => ?_, fun a w e => ?_, fun a w e => (sn.gr.nw a w (ef a w e)).trans (s.gr.nw a w e)⟩, A2, x1, x2, fun a m => ?_⟩
    · rw [upd_ne fun z => by rw [z, fd] at e; cases e]
      exact sn.gr.hh a w (ef a w e)
    · rw [upd_ne fun z => by rw [z, znd] at e; cases e]
      exact sn.gr.zh a w e
    · rcases x3 a m with z | z
      · refine ⟨(l3 a z.1).1, ?_⟩
        have n := nd a z.1
        have := (l3 a z.1).2
        by_cases mm : a ∈ B ∨ a ∈ qs
        · cases e : F a with
          | none => rfl
          | some w =>
            have := ef a w e
            rw [(l3 a z.1).2] at this
            cases this
        · rw [F1o a n mm] at this; exact this
      · exact ⟨ZnB a z, (h3 a (q4 a z)).2⟩
end
end M
namespace M
open PySem L2 PySem.Spec PyProof.Rows
section
variable {X : Cx} {ρ : Slots} {e : Expr} {st : Stmt} {G : Go} {o : O} {pos p0 p1 p2 : Pos} {i i1 i2 j : Nat} {nm x : Str} {C l : Addr} {ns : List Str} {os : List O} {β V : Type} {g : β → O}
end
end M
namespace M
open PySem PySem.Spec PyProof.Rows
/-- each text once, in the order of their first coming -/
def dd1 (σ : List Str) (x : Str) : List Str := if σ.any (· == x) = true then σ else σ ++ [x]
def dd (xs : List Str) : List Str := xs.foldl dd1 []
section
variable {prog : Program} {w : World} {A : Around}
end
end M
namespace M
open PySem L2 PySem.Spec PyProof.Rows
section
variable {X : Cx} {ρ : Slots} {e : Expr} {p p2 q pos : Pos}
end
end M
namespace M
open PySem L2 PySem.Spec PyProof.Rows
section
variable {X : Cx} {ρ ρ' : Slots} {R R' : O → Slots} {e a b c f : Expr} {es : List Expr} {d d1 dk : D} {ds : List D} {pos p0 p1 p2 p3 p4 : Pos} {i j : Nat} {st : Stmt} {sts : List Stmt} {G : Go} {o o' : O} {nm : Str} {C l : Addr} {ns : List Str} {os : List O} {β : Type} {g : β → O} {enc : β → D} {k : Key} {ks : List Key} {y1 : β} {n : Int}
end
end M
namespace M
open PySem L2 PySem.Spec PyProof.Rows
section
variable {X : Cx} {ρ ρ' : Slots} {R R' : O → Slots} {e a b c f : Expr} {es : List Expr} {d d1 dk : D} {ds : List D} {pos p0 p1 p2 p3 p4 : Pos} {i j : Nat} {st : Stmt} {sts : List Stmt} {G : Go} {o o' : O} {nm x : Str} {C l : Addr} {ns : List Str} {os : List O} {β : Type} {g : β → O} {enc : β → D}
end
end M
namespace L2
open PySem PySem.Spec PyProof.Rows
section
variable {X : Cx} {a C fI : Addr} {bmB : List Value} {B newId initId : String} {x : Str} {e : Expr} {es : List Expr} {te ta0 : TE} {ta : TA} {p p1 p2 pos : Pos} {n : Str}
/-- X(e), a class of errors without an __init__ of its own, as a value -/
theorem pe_excV (F : ExcBaseFacts B newId initId bmB) (q : PySem.W.excIn X.K C bmB newId = true) (gC : X.mg x = some (.ref C)) (kC : PySem.W.keepIn X.K (.ref C) = true) (hg : Gl X x)
    (he : PE X e ta0) (hs : starEach [e] X.env = (false, eval e X.env) :: starEach [] X.env := by rfl) (hdb : (x == ("__debug__" : Str)) = false := by decide) :
    PE X (.Call (.Name x p) [e] [] pos) (fun σ H Q => ta0 σ H fun _ H1 => ∀ a, H1 a = none → Q (.ref a) (upd H1 a (exo a C none))) := by
  refine ⟨fun pins s σ H Q I h => ?_⟩
  refine wpAny_Call_Name_kw (ld_glob I hg gC ?_ hdb)
  refine PySem.W.callWith_K (h₀ := X.base) I.ok.mod.kin kC ?_ hs (by rfl)
  rw [hs]
  show wpAny _ _ (spliced ((false, eval e X.env) :: backTo pos (starEach [] X.env))) _ _ s
  refine Calls.spliced_cons (thn (he.run pins s σ H _ I h) fun u s1 ⟨v, H1, I1, r1, q1⟩ => ?_)
  refine Calls.spliced_nil ⟨I1.kIn, ?_⟩
  show wpAny _ _ (call (.ref C) [u]) _ _ _
  obtain ⟨bm, N, nm, qn, bs, hdct, sn, sub, ab, col, dd, k0, k1, k2, k3, k5, mN, hC, hN, hni, T⟩ := exc_obj I1.kIn q
  refine wpAny_call_exc_subT F T hC hN hni (fun h' a hm => ?_) (by show 1 ≤ sizeLine; rw [sizeLine_eq]; omega)
  have hn : H1 a = none := I1.hok.gone hm.new
  obtain ⟨t, ht, _, _⟩ := hm.there
  exact ⟨.ref a, upd H1 a (exo a C none), I1.laidN hm.keeps hm.new hn (exo_ok ht), rfl, q1 a hn⟩
/-- X(e, ..), X's own __init__ keeping sp, as a value -/
def tMkV (C : Addr) (sp : Sp) (ta : TA) : TE := fun σ H Q => ta σ H fun vs H1 => vs.length ≤ 1000 ∧ ∀ a, H1 a = none → sp (.ref a :: vs) (upd H1 a (exo a C none)) (fun v H2 => v = .non ∧ Q (.ref a) H2) (fun _ _ _ => False)
theorem pe_oexV {CX : CXT} {k : Nat} {fd : FuncData} {ps : List Str} {sp : Sp} (T : OexC X.K C) (iC : PySem.W.findIn X.K (.ref C) "__init__" = some (some (.ref fI))) (tI : PySem.W.typeIn X.K (.ref fI) = some (.type "function"))
    (F1 : FnOk X.prog X.w X.K X.mg X.base CX k fI fd ps sp) (hr : Room (k + 1) X.A) (hb : Binds X.K fd ps []) (hx : Passes CX X (fun _ _ _ => False)) (hg : Gl X x) (hm : X.mg x = some (.ref C)) (ha : PA X (e :: es) ta)
    (hdb : (x == ("__debug__" : Str)) = false := by decide) (he : starEach (e :: es) X.env = (false, eval e X.env) :: starEach es X.env := by rfl) (hpl : (backTo pos (starEach es X.env)).any (·.1) = false := by rfl) :
    PE X (.Call (.Name x p) (e :: es) [] pos) (tMkV C sp ta) := by
  refine ⟨fun pins s σ H Q I h => ?_⟩
  obtain ⟨nm, q, N, bs, bm, sn, sub, ab, col, dd, k0, k1, k2, k3, k5, hC, hbm⟩ := T.cls
  refine wpAny_Call_Name_kw (ld_glob I hg hm ?_ hdb)
  refine PySem.W.callWith_K (h₀ := X.base) I.ok.mod.kin T.kC (thn (ha.run pos pins s σ H _ I h) fun us s1 ⟨vs, H1, I1, r1, hz, q1⟩ => ⟨I1.kIn, ?_⟩) he hpl
  show wpAny _ _ (call (.ref C) us) _ _ _
  obtain ⟨hp, g, dr, tk, os⟩ := s1
  have hsz : hp.objs.size ≤ hp.objs.size + 1 := Nat.le_succ _
  have hn : H1 (hp.objs.size + 1) = none := I1.hok.fresh hsz
  have hq := q1 (hp.objs.size + 1) hn
  have kk : ∀ b o, hp.get? b = some o → ((hp.push (PySem.W.kdv_tup us)).push (PySem.HandSPX.excO C hp.objs.size)).get? b = some o := fun b o e => Heap.get?_push_of_some _ (Heap.get?_push_of_some _ e)
  have hget : ((hp.push (PySem.W.kdv_tup us)).push (PySem.HandSPX.excO C hp.objs.size)).get? (hp.objs.size + 1) = some (PySem.HandSPX.excO C hp.objs.size) := by heap_get
  have I2 : Inv X pins σ (upd H1 (hp.objs.size + 1) (exo (hp.objs.size + 1) C none)) ⟨(hp.push (PySem.W.kdv_tup us)).push (PySem.HandSPX.excO C hp.objs.size), g, dr, tk, os⟩ :=
    I1.laid (t' := tk) (a := hp.objs.size + 1) (o := exo (hp.objs.size + 1) C none) (h' := (hp.push (PySem.W.kdv_tup us)).push (PySem.HandSPX.excO C hp.objs.size)) kk hsz (exo_ok hget)
  have r2 : Vals (V.ref (hp.objs.size + 1) :: vs) (Value.ref (hp.objs.size + 1) :: us) := .cons rfl r1
  have hl : (Value.ref (hp.objs.size + 1) :: us).length = ps.length := by
    have e := r2.length
    rw [F1.len _ _ _ _ hq] at e
    exact e.symm
  have hus : us.length ≤ sizeLine := by
    rw [← Paired.length r1, sizeLine_eq]
    omega
  have b := hb _ (Value.ref (hp.objs.size + 1) :: us) I2.kIn (by rw [List.append_nil]; exact hl)
  rw [List.append_nil] at b
  refine wpAny_call (PySem.HandSPX.call_own F.excBase_ValueError (fun Y => PySem.HandSPX.refsVE_contains Y bm hbm) (I1.kIn _ _ hC) (PySem.W.looks_findIn I1.kIn iC) (fun self => PySem.W.bind_fn I1.kIn self tI) hus
    (codeAny_mono (F1.run _ X.stack _ _ ⟨Value.ref (hp.objs.size + 1) :: us, []⟩ (Value.ref (hp.objs.size + 1) :: us) _ _ (fun _ _ _ => False) (hr.make C us []) (I2.env0.make C us []) b r2 hq) fun r s' hq' => ?_))
  cases r with
  | error er => exact hx pins σ _ _ er s' I2 hq'
  | ok fl =>
    cases fl with
    | ret u =>
      obtain ⟨v, H2, J, rv, ev, q2⟩ := I2.after hq'
      subst ev
      exact ⟨rv, .ref (hp.objs.size + 1), H2, J, rfl, q2⟩
    | next => exact False.elim hq'
    | brk => exact False.elim hq'
    | cont => exact False.elim hq'
/-- isinstance(e, c), e an error that is held as a value -/
def rIsV (K : PySem.W.Frag) : List V → Hp → VK → Prop := fun xs H Q => ∃ (a C : Addr) (d : Option Addr) (c : V) (cv : Value) (b : Bool), xs = [.ref a, c] ∧ H a = some (exo a C d) ∧ (∀ dd, d = some dd → ∃ fs, H dd = some (exd dd fs)) ∧ (∀ u, RelV c u → u = cv) ∧ PySem.W.kitOne K (.ref C) cv = some b ∧ ExcC K C ∧ Q (.bl b) H
theorem call_isV : CallR X (.builtin "isinstance") (rIsV X.K) := by
  intro pins s σ H xs us Q I r h
  obtain ⟨a, C, d, c, cv, b, rfl, ha, hd, hcv, e, T, q⟩ := h
  cases r with
  | cons rx rr =>
    cases rr with
    | cons rt rr =>
      cases rr
      cases rx
      have ec := hcv _ rt
      subst ec
      obtain ⟨t1, ho⟩ := exo_at I.hok ha
      have J : ∃ od, PySem.W.InstAt s.heap a ({ cls := .ref C, dict := d, data := .fields #[.ref t1, .none, .none, .none, .bool false, .none] } : Obj) C od := by
        cases d with
        | none => exact ⟨none, ho, rfl, rfl, trivial⟩
        | some dd =>
          obtain ⟨fs, hdd⟩ := hd dd rfl
          obtain ⟨mA, hn, _⟩ := exd_at I.hok hdd
          obtain ⟨o, _, _, e1, _⟩ := hn
          exact ⟨some o, ho, rfl, rfl, e1⟩
      obtain ⟨od, J⟩ := J
      have hcl : (PySem.W.clsIn X.K C).isSome = true := by
        obtain ⟨cd, hc, _⟩ := PySem.W.any_some T.hd
        rw [hc]
        rfl
      exact PySem.W.kia_one (PySem.W.kitx_exc hcl T.hg T.hk T.hs T.ha T.hn T.ht T.hm) I.kIn J e (fun z => nomatch z) fun tk => ⟨.bl b, H, I.kept (t' := tk) fun _ _ z => z, rfl, q⟩
/-- e.f, e an error that is held as a value -/
def tXv (K : PySem.W.Frag) (f : Str) (te : TE) : TE := fun σ H Q => te σ H fun x H1 => ∃ (a C dd : Addr) (fs : List (Str × V)) (v : V), x = .ref a ∧ XfC K C ∧ PySem.W.findIn K (.ref C) f = some none ∧ H1 a = some (exo a C (some dd)) ∧ H1 dd = some (exd dd fs) ∧ fs.lookup f = some v ∧ Q v H1
theorem pe_xv (he : PE X e te) (hb : attributeBase e n X.env (eval e X.env) = eval e X.env := by rfl) : PE X (.Attribute e n pos) (tXv X.K n te) := by
  refine ⟨fun pins s σ H Q I h => ?_⟩
  refine attr_of hb (thn (he.run pins s σ H _ I h) fun u s1 hh => ?_)
  obtain ⟨x, H1, I1, rx, a, C, dd, fs, v, ex, T, hno, ea, ed, l, q⟩ := hh
  subst ex
  obtain rfl : u = Value.ref a := rx
  obtain ⟨t1, ho⟩ := exo_at I1.hok ea
  obtain ⟨mA, hns, hr⟩ := exd_at I1.hok ed
  obtain ⟨od, hod, hl⟩ := lookIn_ns hns
  obtain ⟨u, hu, ru⟩ := RelO.some_of (v := v) (o := mA n) (by rw [← l]; exact hr n)
  have J : PySem.W.InstAt s1.heap a ({ cls := .ref C, dict := some dd, data := .fields #[.ref t1, .none, .none, .none, .bool false, .none] } : Obj) C (some od) := ⟨ho, rfl, rfl, hod⟩
  exact HandSPX.exc_get I1.kIn J T.ga T.gg T.exC (PySem.W.findObj_own T.hdC hno rfl (by rw [hl, hu])) (handed_of ru) ⟨v, H1, I1.tok _, ru, q⟩
/-- C.__init__(self, ..), C a class of errors of one's own that has ValueError's -/
theorem pe_cinit {C0 : Addr} {mc : Value} {pl : Sem Bool} {xx : Str} (hg : Gl X xx) (hmC : X.mg xx = some (.ref C0)) (r : ClX.CRead X.K C0 mc) (kv : PySem.W.findCls X.K (.ref C0) mc "__init__" = some (.val (.builtin "ValueError.__init__"))) (ha : PA X (e :: es) ta) (hdb : (xx == ("__debug__" : Str)) = false := by decide)
    (he : starEach (e :: es) X.env = (false, eval e X.env) :: starEach es X.env := by rfl) (hpl : (backTo pos (starEach es X.env)).any (·.1) = false := by rfl)
    (ht : eval (.Call (.Attribute (.Name xx p1) "__init__" p2) (e :: es) [] pos) X.env = (do
      let ov ← eval (.Name xx p1) X.env
      standAt p2.atName
      let (f, first) ← holding [ov] (getMethod ov "__init__" pl)
      callWith pos f first (backTo pos (starEach (e :: es) X.env)) (backToKw pos (keywordEach [] X.env))) := by rfl) :
    PE X (.Call (.Attribute (.Name xx p1) "__init__" p2) (e :: es) [] pos) (tVeI X.K ta) := by
  refine ⟨fun pins s σ H Q I h => ?_⟩
  have hN : PE X (.Name xx p1) (tC (.ref C0)) := pe_glob (v := .ref C0) hg hmC rfl hdb
  refine PySem.W.methodCall_KW (pl := pl) (thn (hN.run pins s σ H (fun x H1 => x = .ref C0 ∧ H1 = H) I ⟨rfl, rfl⟩) fun u s1 ⟨x, H1, I1, rx, ex, eH⟩ => ?_) ht
  subst ex eH
  obtain rfl : u = Value.ref C0 := rx
  refine PySem.W.method_cls I1.kIn r.ga (PySem.W.cls_value I1.kIn r.rd kv rfl ?_)
  show wpAny _ _ (callWith pos (Value.builtin "ValueError.__init__") [] (backTo pos (starEach (e :: es) X.env)) []) _ _ _
  refine PyProof.Rows.callWith_method1 (thn (ha.run pos pins _ σ H1 _ (I1.tok _) h) fun us s1 ⟨vs, H2, I2, r1, a, C, ws, ev, hl, T, ea, q⟩ => ?_) he hpl
  subst ev
  cases r1 with
  | @cons _ u0 _ ur ra rw' =>
    obtain rfl : u0 = Value.ref a := ra
    have hlen : ur.length ≤ sizeLine := by
      rw [← Paired.length rw', sizeLine_eq]
      omega
    exact oinit_ok T I2 ea hlen fun s' J => ⟨.non, H2, J, rfl, q⟩
end
end L2
namespace M
open PySem L2 PySem.Spec PyProof.Rows
/-- what an __init__ that keeps one int promises -/
def spI19 (K : PySem.W.Frag) (fld : Str) : Sp := fun vs H Q _ => ∃ (a C : Addr) (i : Int), vs = [.ref a, .int i] ∧ OexC K C ∧ PySem.W.findIn K (.ref C) fld = some none ∧ H a = some (exo a C none) ∧ ∀ dx, H dx = none → dx ≠ a → Q .non (upd (upd H dx (exd dx [(fld, .int i)])) a (exo a C (some dx)))
/-- a class of errors whose __init__ keeps one int -/
structure XiC (P : Program) (w : World) (K : PySem.W.Frag) (mg : Str → Option Value) (base : Heap) (nm : Str) (C : Addr) (fld : Str) (k : Nat) (ps : List Str) : Prop where
  T : OexC K C
  no : PySem.W.findIn K (.ref C) fld = some none
  g : mg nm = some (.ref C)
  ex : ∃ (fI : Addr) (fd : FuncData), PySem.W.findIn K (.ref C) "__init__" = some (some (.ref fI)) ∧ PySem.W.typeIn K (.ref fI) = some (.type "function") ∧ Binds K fd ps [] ∧ FnOk P w K mg base CX0 k fI fd ps (spI19 K fld)
theorem tail_ve : ∀ l : List Value, PySem.W.excTail [.type "ValueError", .type "Exception", .type "BaseException", .type "object"] l = true → PySem.HandSPX.refsVE l = true := fun l => by
  induction l with
  | nil => exact fun h => h
  | cons v r ih =>
    intro h
    cases v <;> first | exact ih h | exact h
theorem oexB_ok {K : PySem.W.Frag} {C : Addr} (q : PySem.W.excInitIn K C [.type "ValueError", .type "Exception", .type "BaseException", .type "object"] "ValueError.__new__" = true) (hd : PySem.W.hasDictIn K C = true) (sa : PySem.W.findIn K (.ref C) "__setattr__" = some (some (.builtin "object.__setattr__"))) (xb : PySem.W.subIn K (.ref C) (.type "BaseException") = some true) (xt : PySem.W.typeIn K (.ref C) = some (.type "type")) (kC : PySem.W.keepIn K (.ref C) = true) : OexC K C := by
  refine ⟨?_, sa, xb, xt, kC⟩
  obtain ⟨cd0, hc0, hd0⟩ := PySem.W.any_some hd
  unfold PySem.W.clsIn at hc0
  unfold PySem.W.excInitIn at q
  split at q
  · rename_i dd cd sl ho
    rw [ho] at hc0
    cases hc0
    split at q
    · rename_i C' bm k0 k1 k2 k3 n k5 hm hs
      simp only [Bool.and_eq_true, beq_iff_eq, Bool.not_eq_true'] at q
      obtain ⟨⟨⟨rfl, rfl⟩, hdel⟩, ht⟩ := q
      obtain ⟨nm, bs, mro, ns, qn, hdc, sn, sub, ab, col, del⟩ := cd0
      dsimp only at hm hdel hd0
      subst hm hdel hd0
      have hsl : sl = #[k0, k1, k2, k3, some (.builtin "ValueError.__new__"), k5] := by
        obtain ⟨l⟩ := sl
        simp only at hs
        rw [hs]
      subst hsl
      exact ⟨nm, qn, ns, bs, bm, sn, sub, ab, col, dd, k0, k1, k2, k3, k5, ho, tail_ve _ ht⟩
    · cases q
  · cases q
section
variable {X : Cx} {ρ : Slots} {C E : Addr} {e : Expr} {o : O} {nm fld n : Str} {f : Option (Str × Int)} {i : Int} {p0 p1 p2 pos : Pos} {b : Bool} {T : String} {k : Nat} {ps : List Str}
theorem ExF.dict {Z H : Hp} {d : Option Addr} (z : Ex Z H) : ∀ {f : Option (Str × Int)}, ExF Z d f → ∀ dd, d = some dd → ∃ fs, H dd = some (exd dd fs)
  | none, h, dd, e => by rw [show d = none from h] at e; cases e
  | some _, ⟨_, h, q⟩, dd, e => by
    rw [h] at e
    cases e
    exact ⟨_, z _ _ q⟩
/-- X(e), a class without an __init__ of its own -/
theorem me_exc0 (c : XcC X.K X.mg nm C) (he : ME X ρ e o) (hg : Gl X nm := by rfl) (hs : starEach [e] X.env = (false, eval e X.env) :: starEach [] X.env := by rfl) (hdb : (nm == ("__debug__" : Str)) = false := by decide) : ME X ρ (.Call (.Name nm p0) [e] [] pos) (.fz (.exc C none)) := .mk fun Z0 F Z σ H s Q q =>
  PE_w (pe_excV PySem.F.excBase_ValueError c.q c.g c.k hg pe_w hs hdb) (he.run Z0 F Z σ H s _ fun v Z1 H1 A g r n a ha => q (.ref a) (upd Z1 a (exo a C none)) (upd H1 a (exo a C none)) [] (g.trans (Gr.newz g.zh ha)) (.fz (.exc upd_same rfl)) .nil)
/-- X(e), a class whose __init__ keeps one int -/
theorem me_excI (c : XiC X.prog X.w X.K X.mg X.base nm C fld k ps) (he : ME X ρ e (.fz (.int i))) (hr : Room (k + 1) X.A) (hg : Gl X nm := by rfl) (hs : starEach [e] X.env = (false, eval e X.env) :: starEach [] X.env := by rfl) (hdb : (nm == ("__debug__" : Str)) = false := by decide) : ME X ρ (.Call (.Name nm p0) [e] [] pos) (.fz (.exc C (some (fld, i)))) := .mk fun Z0 F0 Z σ H s Q q => by
  obtain ⟨fI, fd, iC, tI, hb, F⟩ := c.ex
  refine PE_w (pe_oexV c.T iC tI F hr hb pass0 hg c.g (pa_cons pe_w pa_nil hs) hdb hs) (he.run Z0 F0 Z σ H s _ fun v Z1 H1 A g r n => ⟨by show 1 ≤ 1000; decide, fun a ha => ?_⟩)
  cases r with
  | fz r =>
  cases r
  refine ⟨a, C, i, rfl, c.T, c.no, upd_same, fun dx hdx hne => ⟨rfl, ?_⟩⟩
  have hd : H1 dx = none := by
    rw [upd_ne hne] at hdx
    exact hdx
  have eH : upd (upd (upd H1 a (exo a C none)) dx (exd dx [(fld, .int i)])) a (exo a C (some dx)) = upd (upd H1 dx (exd dx [(fld, .int i)])) a (exo a C (some dx)) := by
    funext b
    by_cases hb : b = a
    · rw [hb, upd_same, upd_same]
    · rw [upd_ne hb, upd_ne hb]
      by_cases hbd : b = dx
      · rw [hbd, upd_same, upd_same]
      · rw [upd_ne hbd, upd_ne hbd, upd_ne hb]
  rw [eH]
  have g1 := Gr.newz (o := exd dx [(fld, .int i)]) g.zh hd
  have ha2 : upd H1 dx (exd dx [(fld, .int i)]) a = none := by
    rw [upd_ne (Ne.symm hne)]
    exact ha
  have g2 := Gr.newz (o := exo a C (some dx)) g1.zh ha2
  refine q (.ref a) (upd (upd Z1 dx (exd dx [(fld, .int i)])) a (exo a C (some dx))) _ [] (g.trans (g1.trans g2)) (.fz (.exc upd_same ⟨dx, rfl, ?_⟩)) .nil
  rw [upd_ne hne, upd_same]
/-- isinstance of an error that is held as a value -/
theorem me_isV (c : ExcC X.K C) (hg : Gl X "isinstance") (hm : X.mg "isinstance" = none) (hE : X.mg nm = some (.ref E)) (ha : ME X ρ e (.fz (.exc C f))) (hk : PySem.W.kitOne X.K (.ref C) (.ref E) = some b) (hgE : Gl X nm := by rfl) (hd : (nm == ("__debug__" : Str)) = false := by decide)
    (hst : starEach (e :: [.Name nm p1]) X.env = (false, eval e X.env) :: starEach [.Name nm p1] X.env := by rfl) : ME X ρ (.Call (.Name "isinstance" p0) [e, .Name nm p1] [] pos) (.fz (.bl b)) := .mk fun Z0 F Z σ H s Q q =>
  PE_w (pe_callB call_isV hg hm (by decide +kernel) (pa_cons pe_w (pa_cons (pe_glob (v := .ref E) hgE hE rfl hd) pa_nil) hst) (he := hst)) (ha.run Z0 F Z σ H s _ fun v Z1 H1 A g r n => by
    cases r with
    | fz r =>
    cases r with
    | exc h1 h2 => exact ⟨_, C, _, .ref E, .ref E, b, rfl, g.zh _ _ h1, h2.dict g.zh, fun u r => r, hk, c, q _ Z1 H1 [] g (.fz (.bl b)) .nil⟩)
theorem me_isVB (c : ExcC X.K C) (hg : Gl X "isinstance") (hm : X.mg "isinstance" = none) (hT : PE X (.Name nm p1) (tC (.ty T))) (ha : ME X ρ e (.fz (.exc C f))) (hk : PySem.W.kitOne X.K (.ref C) (.type T) = some b)
    (hst : starEach (e :: [.Name nm p1]) X.env = (false, eval e X.env) :: starEach [.Name nm p1] X.env := by rfl) : ME X ρ (.Call (.Name "isinstance" p0) [e, .Name nm p1] [] pos) (.fz (.bl b)) := .mk fun Z0 F Z σ H s Q q =>
  PE_w (pe_callB call_isV hg hm (by decide +kernel) (pa_cons pe_w (pa_cons hT pa_nil) hst) (he := hst)) (ha.run Z0 F Z σ H s _ fun v Z1 H1 A g r n => by
    cases r with
    | fz r =>
    cases r with
    | exc h1 h2 => exact ⟨_, C, _, .ty T, .type T, b, rfl, g.zh _ _ h1, h2.dict g.zh, fun u r => r, hk, c, q _ Z1 H1 [] g (.fz (.bl b)) .nil⟩)
/-- e.f -/
theorem me_fldV (c : XfC X.K C) (no : PySem.W.findIn X.K (.ref C) n = some none) (ha : ME X ρ e (.fz (.exc C (some (n, i))))) (hb : attributeBase e n X.env (eval e X.env) = eval e X.env := by rfl) : ME X ρ (.Attribute e n pos) (.fz (.int i)) := .mk fun Z0 F Z σ H s Q q =>
  PE_w (pe_xv pe_w hb) (ha.run Z0 F Z σ H s _ fun v Z1 H1 A g r _ => by
    cases r with
    | fz r =>
    cases r with
    | exc h1 h2 =>
      obtain ⟨dd, rfl, hz⟩ := h2
      exact ⟨_, C, dd, _, .int i, rfl, c, no, g.zh _ _ h1, g.zh _ _ hz, by simp [List.lookup], q _ Z1 H1 [] g (.fz (.int i)) .nil⟩)
end
end M
namespace K19
open PySem L2 M
def top (i : Nat) : Stmt := PySem.Challenge.pw_coverroll_k19_refusals_apart.main.body.getD i (.Pass ⟨0, 0, 0, 0⟩)
abbrev s_NoWords___init__ : Stmt := inClass (top 5) 0
abbrev s_Twice___init__ : Stmt := inClass (top 10) 0
abbrev s_Late___init__ : Stmt := inClass (top 11) 0
abbrev s_NoText___init__ : Stmt := inClass (top 14) 0
abbrev s__law_cell : Stmt := top 17
abbrev s__law_whole : Stmt := top 18
abbrev s__law_flags : Stmt := top 19
abbrev s__law_made : Stmt := top 20
abbrev s__law_kept : Stmt := top 21
abbrev s_law : Stmt := top 22
section
variable {P : Program} {w : World} {K : PySem.W.Frag} {mg : Str → Option Value} {base : Heap} {C_CoverError C_NoAmount C_NoShares C_NoEntry C_NoWords C_TooDeep C_NoClause C_NoCover C_NoBook C_Twice C_Late C_NotTold C_TooWide C_NoText C_NoRow : Addr}
inductive Xv where
  | CoverError | NoAmount | NoShares | NoEntry | NoWords | TooDeep | NoClause | NoCover | NoBook | Twice | Late | NotTold | TooWide | NoText | NoRow
abbrev exD (c0 c1 c2 c3 c4 c5 c6 c7 c8 c9 c10 c11 c12 c13 c14 : Addr) (p : Xv × Int) : D := match p.1 with
  | .CoverError => .exc c0 none
  | .NoAmount => .exc c1 none
  | .NoShares => .exc c2 none
  | .NoEntry => .exc c3 none
  | .NoWords => .exc c4 (some ("at", p.2))
  | .TooDeep => .exc c5 none
  | .NoClause => .exc c6 none
  | .NoCover => .exc c7 none
  | .NoBook => .exc c8 none
  | .Twice => .exc c9 (some ("number", p.2))
  | .Late => .exc c10 (some ("day", p.2))
  | .NotTold => .exc c11 none
  | .TooWide => .exc c12 none
  | .NoText => .exc c13 (some ("at", p.2))
  | .NoRow => .exc c14 none
def Xv.is_CoverError : Xv → Bool
  | .CoverError => true
  | .NoAmount => true
  | .NoShares => true
  | .NoEntry => true
  | .NoWords => true
  | .TooDeep => true
  | .NoClause => true
  | .NoCover => true
  | .NoBook => true
  | .Twice => true
  | .Late => true
  | .NotTold => true
  | .TooWide => true
  | .NoText => true
  | .NoRow => true
def Xv.is_NoAmount : Xv → Bool
  | .CoverError => false
  | .NoAmount => true
  | .NoShares => false
  | .NoEntry => false
  | .NoWords => false
  | .TooDeep => false
  | .NoClause => false
  | .NoCover => false
  | .NoBook => false
  | .Twice => false
  | .Late => false
  | .NotTold => false
  | .TooWide => false
  | .NoText => false
  | .NoRow => false
def Xv.is_NoShares : Xv → Bool
  | .CoverError => false
  | .NoAmount => false
  | .NoShares => true
  | .NoEntry => false
  | .NoWords => false
  | .TooDeep => false
  | .NoClause => false
  | .NoCover => false
  | .NoBook => false
  | .Twice => false
  | .Late => false
  | .NotTold => false
  | .TooWide => false
  | .NoText => false
  | .NoRow => false
def Xv.is_NoEntry : Xv → Bool
  | .CoverError => false
  | .NoAmount => false
  | .NoShares => false
  | .NoEntry => true
  | .NoWords => false
  | .TooDeep => false
  | .NoClause => false
  | .NoCover => false
  | .NoBook => false
  | .Twice => false
  | .Late => false
  | .NotTold => false
  | .TooWide => false
  | .NoText => false
  | .NoRow => false
def Xv.is_NoWords : Xv → Bool
  | .CoverError => false
  | .NoAmount => false
  | .NoShares => false
  | .NoEntry => false
  | .NoWords => true
  | .TooDeep => false
  | .NoClause => false
  | .NoCover => false
  | .NoBook => false
  | .Twice => false
  | .Late => false
  | .NotTold => false
  | .TooWide => false
  | .NoText => false
  | .NoRow => false
def Xv.is_TooDeep : Xv → Bool
  | .CoverError => false
  | .NoAmount => false
  | .NoShares => false
  | .NoEntry => false
  | .NoWords => false
  | .TooDeep => true
  | .NoClause => false
  | .NoCover => false
  | .NoBook => false
  | .Twice => false
  | .Late => false
  | .NotTold => false
  | .TooWide => false
  | .NoText => false
  | .NoRow => false
def Xv.is_NoClause : Xv → Bool
  | .CoverError => false
  | .NoAmount => false
  | .NoShares => false
  | .NoEntry => false
  | .NoWords => false
  | .TooDeep => false
  | .NoClause => true
  | .NoCover => false
  | .NoBook => false
  | .Twice => false
  | .Late => false
  | .NotTold => false
  | .TooWide => false
  | .NoText => false
  | .NoRow => false
def Xv.is_NoCover : Xv → Bool
  | .CoverError => false
  | .NoAmount => false
  | .NoShares => false
  | .NoEntry => false
  | .NoWords => false
  | .TooDeep => false
  | .NoClause => false
  | .NoCover => true
  | .NoBook => false
  | .Twice => false
  | .Late => false
  | .NotTold => false
  | .TooWide => false
  | .NoText => false
  | .NoRow => false
def Xv.is_NoBook : Xv → Bool
  | .CoverError => false
  | .NoAmount => false
  | .NoShares => false
  | .NoEntry => false
  | .NoWords => false
  | .TooDeep => false
  | .NoClause => false
  | .NoCover => false
  | .NoBook => true
  | .Twice => false
  | .Late => false
  | .NotTold => false
  | .TooWide => false
  | .NoText => false
  | .NoRow => false
def Xv.is_Twice : Xv → Bool
  | .CoverError => false
  | .NoAmount => false
  | .NoShares => false
  | .NoEntry => false
  | .NoWords => false
  | .TooDeep => false
  | .NoClause => false
  | .NoCover => false
  | .NoBook => false
  | .Twice => true
  | .Late => false
  | .NotTold => false
  | .TooWide => false
  | .NoText => false
  | .NoRow => false
def Xv.is_Late : Xv → Bool
  | .CoverError => false
  | .NoAmount => false
  | .NoShares => false
  | .NoEntry => false
  | .NoWords => false
  | .TooDeep => false
  | .NoClause => false
  | .NoCover => false
  | .NoBook => false
  | .Twice => false
  | .Late => true
  | .NotTold => false
  | .TooWide => false
  | .NoText => false
  | .NoRow => false
def Xv.is_NotTold : Xv → Bool
  | .CoverError => false
  | .NoAmount => false
  | .NoShares => false
  | .NoEntry => false
  | .NoWords => false
  | .TooDeep => false
  | .NoClause => false
  | .NoCover => false
  | .NoBook => false
  | .Twice => false
  | .Late => false
  | .NotTold => true
  | .TooWide => false
  | .NoText => false
  | .NoRow => false
def Xv.is_TooWide : Xv → Bool
  | .CoverError => false
  | .NoAmount => false
  | .NoShares => false
  | .NoEntry => false
  | .NoWords => false
  | .TooDeep => false
  | .NoClause => false
  | .NoCover => false
  | .NoBook => false
  | .Twice => false
  | .Late => false
  | .NotTold => false
  | .TooWide => true
  | .NoText => false
  | .NoRow => false
def Xv.is_NoText : Xv → Bool
  | .CoverError => false
  | .NoAmount => false
  | .NoShares => false
  | .NoEntry => false
  | .NoWords => false
  | .TooDeep => false
  | .NoClause => false
  | .NoCover => false
  | .NoBook => false
  | .Twice => false
  | .Late => false
  | .NotTold => false
  | .TooWide => false
  | .NoText => true
  | .NoRow => false
def Xv.is_NoRow : Xv → Bool
  | .CoverError => false
  | .NoAmount => false
  | .NoShares => false
  | .NoEntry => false
  | .NoWords => false
  | .TooDeep => false
  | .NoClause => false
  | .NoCover => false
  | .NoBook => false
  | .Twice => false
  | .Late => false
  | .NotTold => false
  | .TooWide => false
  | .NoText => false
  | .NoRow => true
def Xv.is_ValueError : Xv → Bool
  | .CoverError => true
  | .NoAmount => true
  | .NoShares => true
  | .NoEntry => true
  | .NoWords => true
  | .TooDeep => true
  | .NoClause => true
  | .NoCover => true
  | .NoBook => true
  | .Twice => true
  | .Late => true
  | .NotTold => true
  | .TooWide => true
  | .NoText => true
  | .NoRow => true
def Xv.f_at : Xv × Int → Option Int
  | (.NoWords, i) => some i
  | (.NoText, i) => some i
  | _ => none
def Xv.f_day : Xv × Int → Option Int
  | (.Late, i) => some i
  | _ => none
def Xv.f_number : Xv × Int → Option Int
  | (.Twice, i) => some i
  | _ => none
abbrev N_NoWords___init__ : List Str := ["self", "at"]
theorem sc_NoWords___init__ : FnScope N_NoWords___init__ ["self", "at"] (defScope s_NoWords___init__) := ⟨rfl, rfl, rfl, by decide +kernel, rfl, by decide +kernel, by decide +kernel⟩
theorem ok_NoWords___init__ {f : Addr} {fd : FuncData} (F : Fun K "__init__" "NoWords.__init__" s_NoWords___init__ f fd) (e_CoverError : mg "CoverError" = some (.ref C_CoverError)) (q_rd_CoverError : PySem.W.readsIn K C_CoverError (.type "type") = true) (q_ga_CoverError : PySem.W.specialIn K (.ref C_CoverError) "__getattribute__" = some (some (.builtin "type.__getattribute__"))) (q_vi_CoverError : PySem.W.findCls K (.ref C_CoverError) (.type "type") "__init__" = some (.val (.builtin "ValueError.__init__"))) (q_xo_NoWords : PySem.W.excInitIn K C_NoWords [.type "ValueError", .type "Exception", .type "BaseException", .type "object"] "ValueError.__new__" = true) (q_hd_NoWords : PySem.W.hasDictIn K C_NoWords = true) (q_sa_NoWords : PySem.W.findIn K (.ref C_NoWords) "__setattr__" = some (some (.builtin "object.__setattr__"))) (q_xb_NoWords : PySem.W.subIn K (.ref C_NoWords) (.type "BaseException") = some true) (q_xt_NoWords : PySem.W.typeIn K (.ref C_NoWords) = some (.type "type")) (q_xk_NoWords : PySem.W.keepIn K (.ref C_NoWords) = true) (q_nf_NoWords : PySem.W.findIn K (.ref C_NoWords) "at" = some none) : FnOk P w K mg base CX0 1 f fd ["self", "at"] (spI19 K "at") := by
  refine F.ok sc_NoWords___init__ (fun vs H Q E h => by obtain ⟨a, C, i, rfl, _⟩ := h; rfl) fun cdv A outer s H vs Q E hr h => ?_
  obtain ⟨a, C, i, rfl, T, hno, ha, q⟩ := h
  refine ⟨_, pss_cons (ps_expr (pe_cinit rfl e_CoverError ⟨q_rd_CoverError, q_ga_CoverError⟩ q_vi_CoverError (pa_cons (pv 0) (pa_cons pe_str pa_nil)))) (pss_one (ps_ost (pv 0) (pv 1))), ?_⟩
  refine ⟨_, rfl, a, C, _, rfl, (by show 1 ≤ 1000; decide), T, ha, ?_⟩
  exact ⟨_, rfl, _, rfl, a, C, rfl, T, hno, .inl ⟨ha, fun dx h1 h2 => q dx h1 h2⟩⟩

abbrev N_Twice___init__ : List Str := ["self", "number"]
theorem sc_Twice___init__ : FnScope N_Twice___init__ ["self", "number"] (defScope s_Twice___init__) := ⟨rfl, rfl, rfl, by decide +kernel, rfl, by decide +kernel, by decide +kernel⟩
theorem ok_Twice___init__ {f : Addr} {fd : FuncData} (F : Fun K "__init__" "Twice.__init__" s_Twice___init__ f fd) (e_CoverError : mg "CoverError" = some (.ref C_CoverError)) (q_rd_CoverError : PySem.W.readsIn K C_CoverError (.type "type") = true) (q_ga_CoverError : PySem.W.specialIn K (.ref C_CoverError) "__getattribute__" = some (some (.builtin "type.__getattribute__"))) (q_vi_CoverError : PySem.W.findCls K (.ref C_CoverError) (.type "type") "__init__" = some (.val (.builtin "ValueError.__init__"))) (q_xo_Twice : PySem.W.excInitIn K C_Twice [.type "ValueError", .type "Exception", .type "BaseException", .type "object"] "ValueError.__new__" = true) (q_hd_Twice : PySem.W.hasDictIn K C_Twice = true) (q_sa_Twice : PySem.W.findIn K (.ref C_Twice) "__setattr__" = some (some (.builtin "object.__setattr__"))) (q_xb_Twice : PySem.W.subIn K (.ref C_Twice) (.type "BaseException") = some true) (q_xt_Twice : PySem.W.typeIn K (.ref C_Twice) = some (.type "type")) (q_xk_Twice : PySem.W.keepIn K (.ref C_Twice) = true) (q_nf_Twice : PySem.W.findIn K (.ref C_Twice) "number" = some none) : FnOk P w K mg base CX0 1 f fd ["self", "number"] (spI19 K "number") := by
  refine F.ok sc_Twice___init__ (fun vs H Q E h => by obtain ⟨a, C, i, rfl, _⟩ := h; rfl) fun cdv A outer s H vs Q E hr h => ?_
  obtain ⟨a, C, i, rfl, T, hno, ha, q⟩ := h
  refine ⟨_, pss_cons (ps_expr (pe_cinit rfl e_CoverError ⟨q_rd_CoverError, q_ga_CoverError⟩ q_vi_CoverError (pa_cons (pv 0) (pa_cons pe_str pa_nil)))) (pss_one (ps_ost (pv 0) (pv 1))), ?_⟩
  refine ⟨_, rfl, a, C, _, rfl, (by show 1 ≤ 1000; decide), T, ha, ?_⟩
  exact ⟨_, rfl, _, rfl, a, C, rfl, T, hno, .inl ⟨ha, fun dx h1 h2 => q dx h1 h2⟩⟩

abbrev N_Late___init__ : List Str := ["self", "day"]
theorem sc_Late___init__ : FnScope N_Late___init__ ["self", "day"] (defScope s_Late___init__) := ⟨rfl, rfl, rfl, by decide +kernel, rfl, by decide +kernel, by decide +kernel⟩
theorem ok_Late___init__ {f : Addr} {fd : FuncData} (F : Fun K "__init__" "Late.__init__" s_Late___init__ f fd) (e_CoverError : mg "CoverError" = some (.ref C_CoverError)) (q_rd_CoverError : PySem.W.readsIn K C_CoverError (.type "type") = true) (q_ga_CoverError : PySem.W.specialIn K (.ref C_CoverError) "__getattribute__" = some (some (.builtin "type.__getattribute__"))) (q_vi_CoverError : PySem.W.findCls K (.ref C_CoverError) (.type "type") "__init__" = some (.val (.builtin "ValueError.__init__"))) (q_xo_Late : PySem.W.excInitIn K C_Late [.type "ValueError", .type "Exception", .type "BaseException", .type "object"] "ValueError.__new__" = true) (q_hd_Late : PySem.W.hasDictIn K C_Late = true) (q_sa_Late : PySem.W.findIn K (.ref C_Late) "__setattr__" = some (some (.builtin "object.__setattr__"))) (q_xb_Late : PySem.W.subIn K (.ref C_Late) (.type "BaseException") = some true) (q_xt_Late : PySem.W.typeIn K (.ref C_Late) = some (.type "type")) (q_xk_Late : PySem.W.keepIn K (.ref C_Late) = true) (q_nf_Late : PySem.W.findIn K (.ref C_Late) "day" = some none) : FnOk P w K mg base CX0 1 f fd ["self", "day"] (spI19 K "day") := by
  refine F.ok sc_Late___init__ (fun vs H Q E h => by obtain ⟨a, C, i, rfl, _⟩ := h; rfl) fun cdv A outer s H vs Q E hr h => ?_
  obtain ⟨a, C, i, rfl, T, hno, ha, q⟩ := h
  refine ⟨_, pss_cons (ps_expr (pe_cinit rfl e_CoverError ⟨q_rd_CoverError, q_ga_CoverError⟩ q_vi_CoverError (pa_cons (pv 0) (pa_cons pe_str pa_nil)))) (pss_one (ps_ost (pv 0) (pv 1))), ?_⟩
  refine ⟨_, rfl, a, C, _, rfl, (by show 1 ≤ 1000; decide), T, ha, ?_⟩
  exact ⟨_, rfl, _, rfl, a, C, rfl, T, hno, .inl ⟨ha, fun dx h1 h2 => q dx h1 h2⟩⟩

abbrev N_NoText___init__ : List Str := ["self", "at"]
theorem sc_NoText___init__ : FnScope N_NoText___init__ ["self", "at"] (defScope s_NoText___init__) := ⟨rfl, rfl, rfl, by decide +kernel, rfl, by decide +kernel, by decide +kernel⟩
theorem ok_NoText___init__ {f : Addr} {fd : FuncData} (F : Fun K "__init__" "NoText.__init__" s_NoText___init__ f fd) (e_CoverError : mg "CoverError" = some (.ref C_CoverError)) (q_rd_CoverError : PySem.W.readsIn K C_CoverError (.type "type") = true) (q_ga_CoverError : PySem.W.specialIn K (.ref C_CoverError) "__getattribute__" = some (some (.builtin "type.__getattribute__"))) (q_vi_CoverError : PySem.W.findCls K (.ref C_CoverError) (.type "type") "__init__" = some (.val (.builtin "ValueError.__init__"))) (q_xo_NoText : PySem.W.excInitIn K C_NoText [.type "ValueError", .type "Exception", .type "BaseException", .type "object"] "ValueError.__new__" = true) (q_hd_NoText : PySem.W.hasDictIn K C_NoText = true) (q_sa_NoText : PySem.W.findIn K (.ref C_NoText) "__setattr__" = some (some (.builtin "object.__setattr__"))) (q_xb_NoText : PySem.W.subIn K (.ref C_NoText) (.type "BaseException") = some true) (q_xt_NoText : PySem.W.typeIn K (.ref C_NoText) = some (.type "type")) (q_xk_NoText : PySem.W.keepIn K (.ref C_NoText) = true) (q_nf_NoText : PySem.W.findIn K (.ref C_NoText) "at" = some none) : FnOk P w K mg base CX0 1 f fd ["self", "at"] (spI19 K "at") := by
  refine F.ok sc_NoText___init__ (fun vs H Q E h => by obtain ⟨a, C, i, rfl, _⟩ := h; rfl) fun cdv A outer s H vs Q E hr h => ?_
  obtain ⟨a, C, i, rfl, T, hno, ha, q⟩ := h
  refine ⟨_, pss_cons (ps_expr (pe_cinit rfl e_CoverError ⟨q_rd_CoverError, q_ga_CoverError⟩ q_vi_CoverError (pa_cons (pv 0) (pa_cons pe_str pa_nil)))) (pss_one (ps_ost (pv 0) (pv 1))), ?_⟩
  refine ⟨_, rfl, a, C, _, rfl, (by show 1 ≤ 1000; decide), T, ha, ?_⟩
  exact ⟨_, rfl, _, rfl, a, C, rfl, T, hno, .inl ⟨ha, fun dx h1 h2 => q dx h1 h2⟩⟩
noncomputable def M__law_cell (script : (List Int)) (k_0 : Int) : Option Int :=
  cond (decide (k_0 < (script.length : Int))) (bd (L2.atI script k_0) fun v1 =>
    some v1) <|
  some (0 : Int)
def sp__law_cell (K : PySem.W.Frag) : Sp := SpF K (fun x : (List Int) × Int => [.vw (x.1.map D.int), .fz (.int x.2)]) (fun x => M__law_cell x.1 x.2) (fun r => .fz (.int r))
abbrev N__law_cell : List Str := ["_law_script", "_law_k"]
theorem sc__law_cell : FnScope N__law_cell ["_law_script", "_law_k"] (defScope s__law_cell) := ⟨rfl, rfl, rfl, by decide +kernel, rfl, by decide +kernel, by decide +kernel⟩
theorem ok__law_cell {f : Addr} {fd : FuncData} (F : Fun K "_law_cell" "_law_cell" s__law_cell f fd) (z_len : mg "len" = none) : FnOk P w K mg base CX0 1 f fd ["_law_script", "_law_k"] (sp__law_cell K) := by
  refine fn_m F sc__law_cell (fun x => rfl) (fun x _ => rfl) fun cdv A outer s H E hr x hx => ?_
  obtain ⟨⟨script, k_0⟩, r⟩ := x
  replace hx : M__law_cell script k_0 = some r := hx
  have nd := sc__law_cell.nd
  unfold M__law_cell at hx
  show MS _ [some (.vw (script.map D.int)), some (.fz (.int k_0))] _ _
  refine ms_cons (m_if (t := (decide (k_0 < (script.length : Int)))) (mt_lt (me_var (pv 1) rfl) (me_lenLT (xs := script) (enc := D.int) (by rfl) z_len (ml_var (pv 0) rfl))) (fun h => ?_) fun h => ms_nil ?_)
  · replace hx := cond_t hx h
    replace hx := bd_some hx
    obtain ⟨v1, hv1, hx⟩ := hx
    refine ms_one (m_ret (ps_ret pe_w) (ME.r (me_ixLT (xs := script) (enc := D.int) hv1 (ml_var (pv 0) rfl) (me_var (pv 1) rfl))) ?_)
    cases hx; rfl
  replace hx := cond_f hx h
  refine ms_one (m_ret (ps_ret pe_w) (ME.r me_int) ?_)
  cases hx; rfl

noncomputable def M__law_whole (found : Int) : Option Bool :=
  some (true && (!false))
def sp__law_whole (K : PySem.W.Frag) : Sp := SpF K (fun x : Int => [.fz (.int x)]) (fun x => M__law_whole x) (fun r => .fz (.bl r))
abbrev N__law_whole : List Str := ["_law_found"]
theorem sc__law_whole : FnScope N__law_whole ["_law_found"] (defScope s__law_whole) := ⟨rfl, rfl, rfl, by decide +kernel, rfl, by decide +kernel, by decide +kernel⟩
theorem ok__law_whole {f : Addr} {fd : FuncData} (F : Fun K "_law_whole" "_law_whole" s__law_whole f fd) (z_isinstance : mg "isinstance" = none) (z_int : mg "int" = none) (z_bool : mg "bool" = none) : FnOk P w K mg base CX0 1 f fd ["_law_found"] (sp__law_whole K) := by
  refine fn_m F sc__law_whole (fun x => rfl) (fun x _ => rfl) fun cdv A outer s H E hr x hx => ?_
  obtain ⟨found, r⟩ := x
  replace hx : M__law_whole found = some r := hx
  have nd := sc__law_whole.nd
  unfold M__law_whole at hx
  show MS _ [some (.fz (.int found))] _ _
  refine ms_one (m_ret (ps_ret pe_w) (ME.r (me_and (me_isi (k := true) (by rfl) z_isinstance (pe_bltn (v := .ty "int") (by rfl) z_int (by decide +kernel) rfl) (mv_var (pv 0) rfl) rfl (by decide +kernel)) fun _ => (me_one (me_not (me_isi (k := false) (by rfl) z_isinstance (pe_bltn (v := .ty "bool") (by rfl) z_bool (by decide +kernel) rfl) (mv_var (pv 0) rfl) rfl (by decide +kernel)))))) ?_)
  cases hx; rfl
noncomputable def M__law_flags (e_0 : (Xv × Int)) : Option (List Bool) :=
  lt [(Xv.is_NoAmount e_0.1), (Xv.is_NoShares e_0.1), (Xv.is_NoEntry e_0.1), (Xv.is_NoWords e_0.1)] fun flags_here =>
  gd (flags_here.length + [(Xv.is_TooDeep e_0.1), (Xv.is_NoClause e_0.1), (Xv.is_NoCover e_0.1), (Xv.is_NoBook e_0.1)].length ≤ sizeLine) <|
  lt (flags_here ++ [(Xv.is_TooDeep e_0.1), (Xv.is_NoClause e_0.1), (Xv.is_NoCover e_0.1), (Xv.is_NoBook e_0.1)]) fun flags_here_1 =>
  gd (flags_here_1.length + [(Xv.is_Twice e_0.1), (Xv.is_Late e_0.1), (Xv.is_NotTold e_0.1), (Xv.is_TooWide e_0.1)].length ≤ sizeLine) <|
  lt (flags_here_1 ++ [(Xv.is_Twice e_0.1), (Xv.is_Late e_0.1), (Xv.is_NotTold e_0.1), (Xv.is_TooWide e_0.1)]) fun flags_here_2 =>
  gd (flags_here_2.length + [(Xv.is_NoText e_0.1), (Xv.is_NoRow e_0.1)].length ≤ sizeLine) <|
  some (flags_here_2 ++ [(Xv.is_NoText e_0.1), (Xv.is_NoRow e_0.1)])
def sp__law_flags (K : PySem.W.Frag) (C_CoverError C_NoAmount C_NoShares C_NoEntry C_NoWords C_TooDeep C_NoClause C_NoCover C_NoBook C_Twice C_Late C_NotTold C_TooWide C_NoText C_NoRow : Addr) : Sp := SpF K (fun x : (Xv × Int) => [.fz ((exD C_CoverError C_NoAmount C_NoShares C_NoEntry C_NoWords C_TooDeep C_NoClause C_NoCover C_NoBook C_Twice C_Late C_NotTold C_TooWide C_NoText C_NoRow) x)]) (fun x => M__law_flags x) (fun r => .lst ((r.map D.bl).map .fz))
abbrev N__law_flags : List Str := ["_law_e", "_law_flags_here"]
theorem sc__law_flags : FnScope N__law_flags ["_law_e"] (defScope s__law_flags) := ⟨rfl, rfl, rfl, by decide +kernel, rfl, by decide +kernel, by decide +kernel⟩
theorem ok__law_flags {f : Addr} {fd : FuncData} (F : Fun K "_law_flags" "_law_flags" s__law_flags f fd) (z_isinstance : mg "isinstance" = none) (e_NoAmount : mg "NoAmount" = some (.ref C_NoAmount)) (w_CoverError : ExcC K C_CoverError) (q_CoverError_NoAmount : PySem.W.kitOne K (.ref C_CoverError) (.ref C_NoAmount) = some false) (w_NoAmount : ExcC K C_NoAmount) (q_NoAmount_NoAmount : PySem.W.kitOne K (.ref C_NoAmount) (.ref C_NoAmount) = some true) (w_NoShares : ExcC K C_NoShares) (q_NoShares_NoAmount : PySem.W.kitOne K (.ref C_NoShares) (.ref C_NoAmount) = some false) (w_NoEntry : ExcC K C_NoEntry) (q_NoEntry_NoAmount : PySem.W.kitOne K (.ref C_NoEntry) (.ref C_NoAmount) = some false) (w_NoWords : ExcC K C_NoWords) (q_NoWords_NoAmount : PySem.W.kitOne K (.ref C_NoWords) (.ref C_NoAmount) = some false) (w_TooDeep : ExcC K C_TooDeep) (q_TooDeep_NoAmount : PySem.W.kitOne K (.ref C_TooDeep) (.ref C_NoAmount) = some false) (w_NoClause : ExcC K C_NoClause) (q_NoClause_NoAmount : PySem.W.kitOne K (.ref C_NoClause) (.ref C_NoAmount) = some false) (w_NoCover : ExcC K C_NoCover) (q_NoCover_NoAmount : PySem.W.kitOne K (.ref C_NoCover) (.ref C_NoAmount) = some false) (w_NoBook : ExcC K C_NoBook) (q_NoBook_NoAmount : PySem.W.kitOne K (.ref C_NoBook) (.ref C_NoAmount) = some false) (w_Twice : ExcC K C_Twice) (q_Twice_NoAmount : PySem.W.kitOne K (.ref C_Twice) (.ref C_NoAmount) = some false) (w_Late : ExcC K C_Late) (q_Late_NoAmount : PySem.W.kitOne K (.ref C_Late) (.ref C_NoAmount) = some false) (w_NotTold : ExcC K C_NotTold) (q_NotTold_NoAmount : PySem.W.kitOne K (.ref C_NotTold) (.ref C_NoAmount) = some false) (w_TooWide : ExcC K C_TooWide) (q_TooWide_NoAmount : PySem.W.kitOne K (.ref C_TooWide) (.ref C_NoAmount) = some false) (w_NoText : ExcC K C_NoText) (q_NoText_NoAmount : PySem.W.kitOne K (.ref C_NoText) (.ref C_NoAmount) = some false) (w_NoRow : ExcC K C_NoRow) (q_NoRow_NoAmount : PySem.W.kitOne K (.ref C_NoRow) (.ref C_NoAmount) = some false) (e_NoShares : mg "NoShares" = some (.ref C_NoShares)) (q_CoverError_NoShares : PySem.W.kitOne K (.ref C_CoverError) (.ref C_NoShares) = some false) (q_NoAmount_NoShares : PySem.W.kitOne K (.ref C_NoAmount) (.ref C_NoShares) = some false) (q_NoShares_NoShares : PySem.W.kitOne K (.ref C_NoShares) (.ref C_NoShares) = some true) (q_NoEntry_NoShares : PySem.W.kitOne K (.ref C_NoEntry) (.ref C_NoShares) = some false) (q_NoWords_NoShares : PySem.W.kitOne K (.ref C_NoWords) (.ref C_NoShares) = some false) (q_TooDeep_NoShares : PySem.W.kitOne K (.ref C_TooDeep) (.ref C_NoShares) = some false) (q_NoClause_NoShares : PySem.W.kitOne K (.ref C_NoClause) (.ref C_NoShares) = some false) (q_NoCover_NoShares : PySem.W.kitOne K (.ref C_NoCover) (.ref C_NoShares) = some false) (q_NoBook_NoShares : PySem.W.kitOne K (.ref C_NoBook) (.ref C_NoShares) = some false) (q_Twice_NoShares : PySem.W.kitOne K (.ref C_Twice) (.ref C_NoShares) = some false) (q_Late_NoShares : PySem.W.kitOne K (.ref C_Late) (.ref C_NoShares) = some false) (q_NotTold_NoShares : PySem.W.kitOne K (.ref C_NotTold) (.ref C_NoShares) = some false) (q_TooWide_NoShares : PySem.W.kitOne K (.ref C_TooWide) (.ref C_NoShares) = some false) (q_NoText_NoShares : PySem.W.kitOne K (.ref C_NoText) (.ref C_NoShares) = some false) (q_NoRow_NoShares : PySem.W.kitOne K (.ref C_NoRow) (.ref C_NoShares) = some false) (e_NoEntry : mg "NoEntry" = some (.ref C_NoEntry)) (q_CoverError_NoEntry : PySem.W.kitOne K (.ref C_CoverError) (.ref C_NoEntry) = some false) (q_NoAmount_NoEntry : PySem.W.kitOne K (.ref C_NoAmount) (.ref C_NoEntry) = some false) (q_NoShares_NoEntry : PySem.W.kitOne K (.ref C_NoShares) (.ref C_NoEntry) = some false) (q_NoEntry_NoEntry : PySem.W.kitOne K (.ref C_NoEntry) (.ref C_NoEntry) = some true) (q_NoWords_NoEntry : PySem.W.kitOne K (.ref C_NoWords) (.ref C_NoEntry) = some false) (q_TooDeep_NoEntry : PySem.W.kitOne K (.ref C_TooDeep) (.ref C_NoEntry) = some false) (q_NoClause_NoEntry : PySem.W.kitOne K (.ref C_NoClause) (.ref C_NoEntry) = some false) (q_NoCover_NoEntry : PySem.W.kitOne K (.ref C_NoCover) (.ref C_NoEntry) = some false) (q_NoBook_NoEntry : PySem.W.kitOne K (.ref C_NoBook) (.ref C_NoEntry) = some false) (q_Twice_NoEntry : PySem.W.kitOne K (.ref C_Twice) (.ref C_NoEntry) = some false) (q_Late_NoEntry : PySem.W.kitOne K (.ref C_Late) (.ref C_NoEntry) = some false) (q_NotTold_NoEntry : PySem.W.kitOne K (.ref C_NotTold) (.ref C_NoEntry) = some false) (q_TooWide_NoEntry : PySem.W.kitOne K (.ref C_TooWide) (.ref C_NoEntry) = some false) (q_NoText_NoEntry : PySem.W.kitOne K (.ref C_NoText) (.ref C_NoEntry) = some false) (q_NoRow_NoEntry : PySem.W.kitOne K (.ref C_NoRow) (.ref C_NoEntry) = some false) (e_NoWords : mg "NoWords" = some (.ref C_NoWords)) (q_CoverError_NoWords : PySem.W.kitOne K (.ref C_CoverError) (.ref C_NoWords) = some false) (q_NoAmount_NoWords : PySem.W.kitOne K (.ref C_NoAmount) (.ref C_NoWords) = some false) (q_NoShares_NoWords : PySem.W.kitOne K (.ref C_NoShares) (.ref C_NoWords) = some false) (q_NoEntry_NoWords : PySem.W.kitOne K (.ref C_NoEntry) (.ref C_NoWords) = some false) (q_NoWords_NoWords : PySem.W.kitOne K (.ref C_NoWords) (.ref C_NoWords) = some true) (q_TooDeep_NoWords : PySem.W.kitOne K (.ref C_TooDeep) (.ref C_NoWords) = some false) (q_NoClause_NoWords : PySem.W.kitOne K (.ref C_NoClause) (.ref C_NoWords) = some false) (q_NoCover_NoWords : PySem.W.kitOne K (.ref C_NoCover) (.ref C_NoWords) = some false) (q_NoBook_NoWords : PySem.W.kitOne K (.ref C_NoBook) (.ref C_NoWords) = some false) (q_Twice_NoWords : PySem.W.kitOne K (.ref C_Twice) (.ref C_NoWords) = some false) (q_Late_NoWords : PySem.W.kitOne K (.ref C_Late) (.ref C_NoWords) = some false) (q_NotTold_NoWords : PySem.W.kitOne K (.ref C_NotTold) (.ref C_NoWords) = some false) (q_TooWide_NoWords : PySem.W.kitOne K (.ref C_TooWide) (.ref C_NoWords) = some false) (q_NoText_NoWords : PySem.W.kitOne K (.ref C_NoText) (.ref C_NoWords) = some false) (q_NoRow_NoWords : PySem.W.kitOne K (.ref C_NoRow) (.ref C_NoWords) = some false) (e_TooDeep : mg "TooDeep" = some (.ref C_TooDeep)) (q_CoverError_TooDeep : PySem.W.kitOne K (.ref C_CoverError) (.ref C_TooDeep) = some false) (q_NoAmount_TooDeep : PySem.W.kitOne K (.ref C_NoAmount) (.ref C_TooDeep) = some false) (q_NoShares_TooDeep : PySem.W.kitOne K (.ref C_NoShares) (.ref C_TooDeep) = some false) (q_NoEntry_TooDeep : PySem.W.kitOne K (.ref C_NoEntry) (.ref C_TooDeep) = some false) (q_NoWords_TooDeep : PySem.W.kitOne K (.ref C_NoWords) (.ref C_TooDeep) = some false) (q_TooDeep_TooDeep : PySem.W.kitOne K (.ref C_TooDeep) (.ref C_TooDeep) = some true) (q_NoClause_TooDeep : PySem.W.kitOne K (.ref C_NoClause) (.ref C_TooDeep) = some false) (q_NoCover_TooDeep : PySem.W.kitOne K (.ref C_NoCover) (.ref C_TooDeep) = some false) (q_NoBook_TooDeep : PySem.W.kitOne K (.ref C_NoBook) (.ref C_TooDeep) = some false) (q_Twice_TooDeep : PySem.W.kitOne K (.ref C_Twice) (.ref C_TooDeep) = some false) (q_Late_TooDeep : PySem.W.kitOne K (.ref C_Late) (.ref C_TooDeep) = some false) (q_NotTold_TooDeep : PySem.W.kitOne K (.ref C_NotTold) (.ref C_TooDeep) = some false) (q_TooWide_TooDeep : PySem.W.kitOne K (.ref C_TooWide) (.ref C_TooDeep) = some false) (q_NoText_TooDeep : PySem.W.kitOne K (.ref C_NoText) (.ref C_TooDeep) = some false) (q_NoRow_TooDeep : PySem.W.kitOne K (.ref C_NoRow) (.ref C_TooDeep) = some false) (e_NoClause : mg "NoClause" = some (.ref C_NoClause)) (q_CoverError_NoClause : PySem.W.kitOne K (.ref C_CoverError) (.ref C_NoClause) = some false) (q_NoAmount_NoClause : PySem.W.kitOne K (.ref C_NoAmount) (.ref C_NoClause) = some false) (q_NoShares_NoClause : PySem.W.kitOne K (.ref C_NoShares) (.ref C_NoClause) = some false) (q_NoEntry_NoClause : PySem.W.kitOne K (.ref C_NoEntry) (.ref C_NoClause) = some false) (q_NoWords_NoClause : PySem.W.kitOne K (.ref C_NoWords) (.ref C_NoClause) = some false) (q_TooDeep_NoClause : PySem.W.kitOne K (.ref C_TooDeep) (.ref C_NoClause) = some false) (q_NoClause_NoClause : PySem.W.kitOne K (.ref C_NoClause) (.ref C_NoClause) = some true) (q_NoCover_NoClause : PySem.W.kitOne K (.ref C_NoCover) (.ref C_NoClause) = some false) (q_NoBook_NoClause : PySem.W.kitOne K (.ref C_NoBook) (.ref C_NoClause) = some false) (q_Twice_NoClause : PySem.W.kitOne K (.ref C_Twice) (.ref C_NoClause) = some false) (q_Late_NoClause : PySem.W.kitOne K (.ref C_Late) (.ref C_NoClause) = some false) (q_NotTold_NoClause : PySem.W.kitOne K (.ref C_NotTold) (.ref C_NoClause) = some false) (q_TooWide_NoClause : PySem.W.kitOne K (.ref C_TooWide) (.ref C_NoClause) = some false) (q_NoText_NoClause : PySem.W.kitOne K (.ref C_NoText) (.ref C_NoClause) = some false) (q_NoRow_NoClause : PySem.W.kitOne K (.ref C_NoRow) (.ref C_NoClause) = some false) (e_NoCover : mg "NoCover" = some (.ref C_NoCover)) (q_CoverError_NoCover : PySem.W.kitOne K (.ref C_CoverError) (.ref C_NoCover) = some false) (q_NoAmount_NoCover : PySem.W.kitOne K (.ref C_NoAmount) (.ref C_NoCover) = some false) (q_NoShares_NoCover : PySem.W.kitOne K (.ref C_NoShares) (.ref C_NoCover) = some false) (q_NoEntry_NoCover : PySem.W.kitOne K (.ref C_NoEntry) (.ref C_NoCover) = some false) (q_NoWords_NoCover : PySem.W.kitOne K (.ref C_NoWords) (.ref C_NoCover) = some false) (q_TooDeep_NoCover : PySem.W.kitOne K (.ref C_TooDeep) (.ref C_NoCover) = some false) (q_NoClause_NoCover : PySem.W.kitOne K (.ref C_NoClause) (.ref C_NoCover) = some false) (q_NoCover_NoCover : PySem.W.kitOne K (.ref C_NoCover) (.ref C_NoCover) = some true) (q_NoBook_NoCover : PySem.W.kitOne K (.ref C_NoBook) (.ref C_NoCover) = some false) (q_Twice_NoCover : PySem.W.kitOne K (.ref C_Twice) (.ref C_NoCover) = some false) (q_Late_NoCover : PySem.W.kitOne K (.ref C_Late) (.ref C_NoCover) = some false) (q_NotTold_NoCover : PySem.W.kitOne K (.ref C_NotTold) (.ref C_NoCover) = some false) (q_TooWide_NoCover : PySem.W.kitOne K (.ref C_TooWide) (.ref C_NoCover) = some false) (q_NoText_NoCover : PySem.W.kitOne K (.ref C_NoText) (.ref C_NoCover) = some false) (q_NoRow_NoCover : PySem.W.kitOne K (.ref C_NoRow) (.ref C_NoCover) = some false) (e_NoBook : mg "NoBook" = some (.ref C_NoBook)) (q_CoverError_NoBook : PySem.W.kitOne K (.ref C_CoverError) (.ref C_NoBook) = some false) (q_NoAmount_NoBook : PySem.W.kitOne K (.ref C_NoAmount) (.ref C_NoBook) = some false) (q_NoShares_NoBook : PySem.W.kitOne K (.ref C_NoShares) (.ref C_NoBook) = some false) (q_NoEntry_NoBook : PySem.W.kitOne K (.ref C_NoEntry) (.ref C_NoBook) = some false) (q_NoWords_NoBook : PySem.W.kitOne K (.ref C_NoWords) (.ref C_NoBook) = some false) (q_TooDeep_NoBook : PySem.W.kitOne K (.ref C_TooDeep) (.ref C_NoBook) = some false) (q_NoClause_NoBook : PySem.W.kitOne K (.ref C_NoClause) (.ref C_NoBook) = some false) (q_NoCover_NoBook : PySem.W.kitOne K (.ref C_NoCover) (.ref C_NoBook) = some false) (q_NoBook_NoBook : PySem.W.kitOne K (.ref C_NoBook) (.ref C_NoBook) = some true) (q_Twice_NoBook : PySem.W.kitOne K (.ref C_Twice) (.ref C_NoBook) = some false) (q_Late_NoBook : PySem.W.kitOne K (.ref C_Late) (.ref C_NoBook) = some false) (q_NotTold_NoBook : PySem.W.kitOne K (.ref C_NotTold) (.ref C_NoBook) = some false) (q_TooWide_NoBook : PySem.W.kitOne K (.ref C_TooWide) (.ref C_NoBook) = some false) (q_NoText_NoBook : PySem.W.kitOne K (.ref C_NoText) (.ref C_NoBook) = some false) (q_NoRow_NoBook : PySem.W.kitOne K (.ref C_NoRow) (.ref C_NoBook) = some false) (e_Twice : mg "Twice" = some (.ref C_Twice)) (q_CoverError_Twice : PySem.W.kitOne K (.ref C_CoverError) (.ref C_Twice) = some false) (q_NoAmount_Twice : PySem.W.kitOne K (.ref C_NoAmount) (.ref C_Twice) = some false) (q_NoShares_Twice : PySem.W.kitOne K (.ref C_NoShares) (.ref C_Twice) = some false) (q_NoEntry_Twice : PySem.W.kitOne K (.ref C_NoEntry) (.ref C_Twice) = some false) (q_NoWords_Twice : PySem.W.kitOne K (.ref C_NoWords) (.ref C_Twice) = some false) (q_TooDeep_Twice : PySem.W.kitOne K (.ref C_TooDeep) (.ref C_Twice) = some false) (q_NoClause_Twice : PySem.W.kitOne K (.ref C_NoClause) (.ref C_Twice) = some false) (q_NoCover_Twice : PySem.W.kitOne K (.ref C_NoCover) (.ref C_Twice) = some false) (q_NoBook_Twice : PySem.W.kitOne K (.ref C_NoBook) (.ref C_Twice) = some false) (q_Twice_Twice : PySem.W.kitOne K (.ref C_Twice) (.ref C_Twice) = some true) (q_Late_Twice : PySem.W.kitOne K (.ref C_Late) (.ref C_Twice) = some false) (q_NotTold_Twice : PySem.W.kitOne K (.ref C_NotTold) (.ref C_Twice) = some false) (q_TooWide_Twice : PySem.W.kitOne K (.ref C_TooWide) (.ref C_Twice) = some false) (q_NoText_Twice : PySem.W.kitOne K (.ref C_NoText) (.ref C_Twice) = some false) (q_NoRow_Twice : PySem.W.kitOne K (.ref C_NoRow) (.ref C_Twice) = some false) (e_Late : mg "Late" = some (.ref C_Late)) (q_CoverError_Late : PySem.W.kitOne K (.ref C_CoverError) (.ref C_Late) = some false) (q_NoAmount_Late : PySem.W.kitOne K (.ref C_NoAmount) (.ref C_Late) = some false) (q_NoShares_Late : PySem.W.kitOne K (.ref C_NoShares) (.ref C_Late) = some false) (q_NoEntry_Late : PySem.W.kitOne K (.ref C_NoEntry) (.ref C_Late) = some false) (q_NoWords_Late : PySem.W.kitOne K (.ref C_NoWords) (.ref C_Late) = some false) (q_TooDeep_Late : PySem.W.kitOne K (.ref C_TooDeep) (.ref C_Late) = some false) (q_NoClause_Late : PySem.W.kitOne K (.ref C_NoClause) (.ref C_Late) = some false) (q_NoCover_Late : PySem.W.kitOne K (.ref C_NoCover) (.ref C_Late) = some false) (q_NoBook_Late : PySem.W.kitOne K (.ref C_NoBook) (.ref C_Late) = some false) (q_Twice_Late : PySem.W.kitOne K (.ref C_Twice) (.ref C_Late) = some false) (q_Late_Late : PySem.W.kitOne K (.ref C_Late) (.ref C_Late) = some true) (q_NotTold_Late : PySem.W.kitOne K (.ref C_NotTold) (.ref C_Late) = some false) (q_TooWide_Late : PySem.W.kitOne K (.ref C_TooWide) (.ref C_Late) = some false) (q_NoText_Late : PySem.W.kitOne K (.ref C_NoText) (.ref C_Late) = some false) (q_NoRow_Late : PySem.W.kitOne K (.ref C_NoRow) (.ref C_Late) = some false) (e_NotTold : mg "NotTold" = some (.ref C_NotTold)) (q_CoverError_NotTold : PySem.W.kitOne K (.ref C_CoverError) (.ref C_NotTold) = some false) (q_NoAmount_NotTold : PySem.W.kitOne K (.ref C_NoAmount) (.ref C_NotTold) = some false) (q_NoShares_NotTold : PySem.W.kitOne K (.ref C_NoShares) (.ref C_NotTold) = some false) (q_NoEntry_NotTold : PySem.W.kitOne K (.ref C_NoEntry) (.ref C_NotTold) = some false) (q_NoWords_NotTold : PySem.W.kitOne K (.ref C_NoWords) (.ref C_NotTold) = some false) (q_TooDeep_NotTold : PySem.W.kitOne K (.ref C_TooDeep) (.ref C_NotTold) = some false) (q_NoClause_NotTold : PySem.W.kitOne K (.ref C_NoClause) (.ref C_NotTold) = some false) (q_NoCover_NotTold : PySem.W.kitOne K (.ref C_NoCover) (.ref C_NotTold) = some false) (q_NoBook_NotTold : PySem.W.kitOne K (.ref C_NoBook) (.ref C_NotTold) = some false) (q_Twice_NotTold : PySem.W.kitOne K (.ref C_Twice) (.ref C_NotTold) = some false) (q_Late_NotTold : PySem.W.kitOne K (.ref C_Late) (.ref C_NotTold) = some false) (q_NotTold_NotTold : PySem.W.kitOne K (.ref C_NotTold) (.ref C_NotTold) = some true) (q_TooWide_NotTold : PySem.W.kitOne K (.ref C_TooWide) (.ref C_NotTold) = some false) (q_NoText_NotTold : PySem.W.kitOne K (.ref C_NoText) (.ref C_NotTold) = some false) (q_NoRow_NotTold : PySem.W.kitOne K (.ref C_NoRow) (.ref C_NotTold) = some false) (e_TooWide : mg "TooWide" = some (.ref C_TooWide)) (q_CoverError_TooWide : PySem.W.kitOne K (.ref C_CoverError) (.ref C_TooWide) = some false) (q_NoAmount_TooWide : PySem.W.kitOne K (.ref C_NoAmount) (.ref C_TooWide) = some false) (q_NoShares_TooWide : PySem.W.kitOne K (.ref C_NoShares) (.ref C_TooWide) = some false) (q_NoEntry_TooWide : PySem.W.kitOne K (.ref C_NoEntry) (.ref C_TooWide) = some false) (q_NoWords_TooWide : PySem.W.kitOne K (.ref C_NoWords) (.ref C_TooWide) = some false) (q_TooDeep_TooWide : PySem.W.kitOne K (.ref C_TooDeep) (.ref C_TooWide) = some false) (q_NoClause_TooWide : PySem.W.kitOne K (.ref C_NoClause) (.ref C_TooWide) = some false) (q_NoCover_TooWide : PySem.W.kitOne K (.ref C_NoCover) (.ref C_TooWide) = some false) (q_NoBook_TooWide : PySem.W.kitOne K (.ref C_NoBook) (.ref C_TooWide) = some false) (q_Twice_TooWide : PySem.W.kitOne K (.ref C_Twice) (.ref C_TooWide) = some false) (q_Late_TooWide : PySem.W.kitOne K (.ref C_Late) (.ref C_TooWide) = some false) (q_NotTold_TooWide : PySem.W.kitOne K (.ref C_NotTold) (.ref C_TooWide) = some false) (q_TooWide_TooWide : PySem.W.kitOne K (.ref C_TooWide) (.ref C_TooWide) = some true) (q_NoText_TooWide : PySem.W.kitOne K (.ref C_NoText) (.ref C_TooWide) = some false) (q_NoRow_TooWide : PySem.W.kitOne K (.ref C_NoRow) (.ref C_TooWide) = some false) (e_NoText : mg "NoText" = some (.ref C_NoText)) (q_CoverError_NoText : PySem.W.kitOne K (.ref C_CoverError) (.ref C_NoText) = some false) (q_NoAmount_NoText : PySem.W.kitOne K (.ref C_NoAmount) (.ref C_NoText) = some false) (q_NoShares_NoText : PySem.W.kitOne K (.ref C_NoShares) (.ref C_NoText) = some false) (q_NoEntry_NoText : PySem.W.kitOne K (.ref C_NoEntry) (.ref C_NoText) = some false) (q_NoWords_NoText : PySem.W.kitOne K (.ref C_NoWords) (.ref C_NoText) = some false) (q_TooDeep_NoText : PySem.W.kitOne K (.ref C_TooDeep) (.ref C_NoText) = some false) (q_NoClause_NoText : PySem.W.kitOne K (.ref C_NoClause) (.ref C_NoText) = some false) (q_NoCover_NoText : PySem.W.kitOne K (.ref C_NoCover) (.ref C_NoText) = some false) (q_NoBook_NoText : PySem.W.kitOne K (.ref C_NoBook) (.ref C_NoText) = some false) (q_Twice_NoText : PySem.W.kitOne K (.ref C_Twice) (.ref C_NoText) = some false) (q_Late_NoText : PySem.W.kitOne K (.ref C_Late) (.ref C_NoText) = some false) (q_NotTold_NoText : PySem.W.kitOne K (.ref C_NotTold) (.ref C_NoText) = some false) (q_TooWide_NoText : PySem.W.kitOne K (.ref C_TooWide) (.ref C_NoText) = some false) (q_NoText_NoText : PySem.W.kitOne K (.ref C_NoText) (.ref C_NoText) = some true) (q_NoRow_NoText : PySem.W.kitOne K (.ref C_NoRow) (.ref C_NoText) = some false) (e_NoRow : mg "NoRow" = some (.ref C_NoRow)) (q_CoverError_NoRow : PySem.W.kitOne K (.ref C_CoverError) (.ref C_NoRow) = some false) (q_NoAmount_NoRow : PySem.W.kitOne K (.ref C_NoAmount) (.ref C_NoRow) = some false) (q_NoShares_NoRow : PySem.W.kitOne K (.ref C_NoShares) (.ref C_NoRow) = some false) (q_NoEntry_NoRow : PySem.W.kitOne K (.ref C_NoEntry) (.ref C_NoRow) = some false) (q_NoWords_NoRow : PySem.W.kitOne K (.ref C_NoWords) (.ref C_NoRow) = some false) (q_TooDeep_NoRow : PySem.W.kitOne K (.ref C_TooDeep) (.ref C_NoRow) = some false) (q_NoClause_NoRow : PySem.W.kitOne K (.ref C_NoClause) (.ref C_NoRow) = some false) (q_NoCover_NoRow : PySem.W.kitOne K (.ref C_NoCover) (.ref C_NoRow) = some false) (q_NoBook_NoRow : PySem.W.kitOne K (.ref C_NoBook) (.ref C_NoRow) = some false) (q_Twice_NoRow : PySem.W.kitOne K (.ref C_Twice) (.ref C_NoRow) = some false) (q_Late_NoRow : PySem.W.kitOne K (.ref C_Late) (.ref C_NoRow) = some false) (q_NotTold_NoRow : PySem.W.kitOne K (.ref C_NotTold) (.ref C_NoRow) = some false) (q_TooWide_NoRow : PySem.W.kitOne K (.ref C_TooWide) (.ref C_NoRow) = some false) (q_NoText_NoRow : PySem.W.kitOne K (.ref C_NoText) (.ref C_NoRow) = some false) (q_NoRow_NoRow : PySem.W.kitOne K (.ref C_NoRow) (.ref C_NoRow) = some true) : FnOk P w K mg base CX0 1 f fd ["_law_e"] (sp__law_flags K C_CoverError C_NoAmount C_NoShares C_NoEntry C_NoWords C_TooDeep C_NoClause C_NoCover C_NoBook C_Twice C_Late C_NotTold C_TooWide C_NoText C_NoRow) := by
  refine fn_m F sc__law_flags (fun x => rfl) (fun x _ => O.nvL_fz _) fun cdv A outer s H E hr x hx => ?_
  obtain ⟨e_0, r⟩ := x
  replace hx : M__law_flags e_0 = some r := hx
  have nd := sc__law_flags.nd
  unfold M__law_flags at hx
  show MS _ [some (.fz ((exD C_CoverError C_NoAmount C_NoShares C_NoEntry C_NoWords C_TooDeep C_NoClause C_NoCover C_NoBook C_Twice C_Late C_NotTold C_TooWide C_NoText C_NoRow) e_0)), none] _ _
  replace hx := lt_some hx
  obtain ⟨flags_here, eflags_here, hx⟩ := hx
  refine ms_cons (m_set (ps_set (i := 1) nd rfl (Or.inl rfl) pe_w) (ME.is (o' := (.lst ((flags_here.map D.bl).map .fz))) (me_lst (ds := [(Xv.is_NoAmount e_0.1), (Xv.is_NoShares e_0.1), (Xv.is_NoEntry e_0.1), (Xv.is_NoWords e_0.1)].map D.bl) (mf_cons (show ME _ _ _ (.fz (.bl (Xv.is_NoAmount e_0.1))) from by obtain ⟨ex_, en_⟩ := e_0; cases ex_ with | CoverError => exact me_isV w_CoverError (by rfl) z_isinstance e_NoAmount (me_var (pv 0) rfl) q_CoverError_NoAmount | NoAmount => exact me_isV w_NoAmount (by rfl) z_isinstance e_NoAmount (me_var (pv 0) rfl) q_NoAmount_NoAmount | NoShares => exact me_isV w_NoShares (by rfl) z_isinstance e_NoAmount (me_var (pv 0) rfl) q_NoShares_NoAmount | NoEntry => exact me_isV w_NoEntry (by rfl) z_isinstance e_NoAmount (me_var (pv 0) rfl) q_NoEntry_NoAmount | NoWords => exact me_isV w_NoWords (by rfl) z_isinstance e_NoAmount (me_var (pv 0) rfl) q_NoWords_NoAmount | TooDeep => exact me_isV w_TooDeep (by rfl) z_isinstance e_NoAmount (me_var (pv 0) rfl) q_TooDeep_NoAmount | NoClause => exact me_isV w_NoClause (by rfl) z_isinstance e_NoAmount (me_var (pv 0) rfl) q_NoClause_NoAmount | NoCover => exact me_isV w_NoCover (by rfl) z_isinstance e_NoAmount (me_var (pv 0) rfl) q_NoCover_NoAmount | NoBook => exact me_isV w_NoBook (by rfl) z_isinstance e_NoAmount (me_var (pv 0) rfl) q_NoBook_NoAmount | Twice => exact me_isV w_Twice (by rfl) z_isinstance e_NoAmount (me_var (pv 0) rfl) q_Twice_NoAmount | Late => exact me_isV w_Late (by rfl) z_isinstance e_NoAmount (me_var (pv 0) rfl) q_Late_NoAmount | NotTold => exact me_isV w_NotTold (by rfl) z_isinstance e_NoAmount (me_var (pv 0) rfl) q_NotTold_NoAmount | TooWide => exact me_isV w_TooWide (by rfl) z_isinstance e_NoAmount (me_var (pv 0) rfl) q_TooWide_NoAmount | NoText => exact me_isV w_NoText (by rfl) z_isinstance e_NoAmount (me_var (pv 0) rfl) q_NoText_NoAmount | NoRow => exact me_isV w_NoRow (by rfl) z_isinstance e_NoAmount (me_var (pv 0) rfl) q_NoRow_NoAmount) (mf_cons (show ME _ _ _ (.fz (.bl (Xv.is_NoShares e_0.1))) from by obtain ⟨ex_, en_⟩ := e_0; cases ex_ with | CoverError => exact me_isV w_CoverError (by rfl) z_isinstance e_NoShares (me_var (pv 0) rfl) q_CoverError_NoShares | NoAmount => exact me_isV w_NoAmount (by rfl) z_isinstance e_NoShares (me_var (pv 0) rfl) q_NoAmount_NoShares | NoShares => exact me_isV w_NoShares (by rfl) z_isinstance e_NoShares (me_var (pv 0) rfl) q_NoShares_NoShares | NoEntry => exact me_isV w_NoEntry (by rfl) z_isinstance e_NoShares (me_var (pv 0) rfl) q_NoEntry_NoShares | NoWords => exact me_isV w_NoWords (by rfl) z_isinstance e_NoShares (me_var (pv 0) rfl) q_NoWords_NoShares | TooDeep => exact me_isV w_TooDeep (by rfl) z_isinstance e_NoShares (me_var (pv 0) rfl) q_TooDeep_NoShares | NoClause => exact me_isV w_NoClause (by rfl) z_isinstance e_NoShares (me_var (pv 0) rfl) q_NoClause_NoShares | NoCover => exact me_isV w_NoCover (by rfl) z_isinstance e_NoShares (me_var (pv 0) rfl) q_NoCover_NoShares | NoBook => exact me_isV w_NoBook (by rfl) z_isinstance e_NoShares (me_var (pv 0) rfl) q_NoBook_NoShares | Twice => exact me_isV w_Twice (by rfl) z_isinstance e_NoShares (me_var (pv 0) rfl) q_Twice_NoShares | Late => exact me_isV w_Late (by rfl) z_isinstance e_NoShares (me_var (pv 0) rfl) q_Late_NoShares | NotTold => exact me_isV w_NotTold (by rfl) z_isinstance e_NoShares (me_var (pv 0) rfl) q_NotTold_NoShares | TooWide => exact me_isV w_TooWide (by rfl) z_isinstance e_NoShares (me_var (pv 0) rfl) q_TooWide_NoShares | NoText => exact me_isV w_NoText (by rfl) z_isinstance e_NoShares (me_var (pv 0) rfl) q_NoText_NoShares | NoRow => exact me_isV w_NoRow (by rfl) z_isinstance e_NoShares (me_var (pv 0) rfl) q_NoRow_NoShares) (mf_cons (show ME _ _ _ (.fz (.bl (Xv.is_NoEntry e_0.1))) from by obtain ⟨ex_, en_⟩ := e_0; cases ex_ with | CoverError => exact me_isV w_CoverError (by rfl) z_isinstance e_NoEntry (me_var (pv 0) rfl) q_CoverError_NoEntry | NoAmount => exact me_isV w_NoAmount (by rfl) z_isinstance e_NoEntry (me_var (pv 0) rfl) q_NoAmount_NoEntry | NoShares => exact me_isV w_NoShares (by rfl) z_isinstance e_NoEntry (me_var (pv 0) rfl) q_NoShares_NoEntry | NoEntry => exact me_isV w_NoEntry (by rfl) z_isinstance e_NoEntry (me_var (pv 0) rfl) q_NoEntry_NoEntry | NoWords => exact me_isV w_NoWords (by rfl) z_isinstance e_NoEntry (me_var (pv 0) rfl) q_NoWords_NoEntry | TooDeep => exact me_isV w_TooDeep (by rfl) z_isinstance e_NoEntry (me_var (pv 0) rfl) q_TooDeep_NoEntry | NoClause => exact me_isV w_NoClause (by rfl) z_isinstance e_NoEntry (me_var (pv 0) rfl) q_NoClause_NoEntry | NoCover => exact me_isV w_NoCover (by rfl) z_isinstance e_NoEntry (me_var (pv 0) rfl) q_NoCover_NoEntry | NoBook => exact me_isV w_NoBook (by rfl) z_isinstance e_NoEntry (me_var (pv 0) rfl) q_NoBook_NoEntry | Twice => exact me_isV w_Twice (by rfl) z_isinstance e_NoEntry (me_var (pv 0) rfl) q_Twice_NoEntry | Late => exact me_isV w_Late (by rfl) z_isinstance e_NoEntry (me_var (pv 0) rfl) q_Late_NoEntry | NotTold => exact me_isV w_NotTold (by rfl) z_isinstance e_NoEntry (me_var (pv 0) rfl) q_NotTold_NoEntry | TooWide => exact me_isV w_TooWide (by rfl) z_isinstance e_NoEntry (me_var (pv 0) rfl) q_TooWide_NoEntry | NoText => exact me_isV w_NoText (by rfl) z_isinstance e_NoEntry (me_var (pv 0) rfl) q_NoText_NoEntry | NoRow => exact me_isV w_NoRow (by rfl) z_isinstance e_NoEntry (me_var (pv 0) rfl) q_NoRow_NoEntry) (mf_cons (show ME _ _ _ (.fz (.bl (Xv.is_NoWords e_0.1))) from by obtain ⟨ex_, en_⟩ := e_0; cases ex_ with | CoverError => exact me_isV w_CoverError (by rfl) z_isinstance e_NoWords (me_var (pv 0) rfl) q_CoverError_NoWords | NoAmount => exact me_isV w_NoAmount (by rfl) z_isinstance e_NoWords (me_var (pv 0) rfl) q_NoAmount_NoWords | NoShares => exact me_isV w_NoShares (by rfl) z_isinstance e_NoWords (me_var (pv 0) rfl) q_NoShares_NoWords | NoEntry => exact me_isV w_NoEntry (by rfl) z_isinstance e_NoWords (me_var (pv 0) rfl) q_NoEntry_NoWords | NoWords => exact me_isV w_NoWords (by rfl) z_isinstance e_NoWords (me_var (pv 0) rfl) q_NoWords_NoWords | TooDeep => exact me_isV w_TooDeep (by rfl) z_isinstance e_NoWords (me_var (pv 0) rfl) q_TooDeep_NoWords | NoClause => exact me_isV w_NoClause (by rfl) z_isinstance e_NoWords (me_var (pv 0) rfl) q_NoClause_NoWords | NoCover => exact me_isV w_NoCover (by rfl) z_isinstance e_NoWords (me_var (pv 0) rfl) q_NoCover_NoWords | NoBook => exact me_isV w_NoBook (by rfl) z_isinstance e_NoWords (me_var (pv 0) rfl) q_NoBook_NoWords | Twice => exact me_isV w_Twice (by rfl) z_isinstance e_NoWords (me_var (pv 0) rfl) q_Twice_NoWords | Late => exact me_isV w_Late (by rfl) z_isinstance e_NoWords (me_var (pv 0) rfl) q_Late_NoWords | NotTold => exact me_isV w_NotTold (by rfl) z_isinstance e_NoWords (me_var (pv 0) rfl) q_NotTold_NoWords | TooWide => exact me_isV w_TooWide (by rfl) z_isinstance e_NoWords (me_var (pv 0) rfl) q_TooWide_NoWords | NoText => exact me_isV w_NoText (by rfl) z_isinstance e_NoWords (me_var (pv 0) rfl) q_NoText_NoWords | NoRow => exact me_isV w_NoRow (by rfl) z_isinstance e_NoWords (me_var (pv 0) rfl) q_NoRow_NoWords) mf_nil))))) (by rw [eflags_here] <;> rfl)) ?_)
  show MS _ [some (.fz ((exD C_CoverError C_NoAmount C_NoShares C_NoEntry C_NoWords C_TooDeep C_NoClause C_NoCover C_NoBook C_Twice C_Late C_NotTold C_TooWide C_NoText C_NoRow) e_0)), some (.lst ((flags_here.map D.bl).map .fz))] _ _
  replace hx := gd_some hx
  obtain ⟨g1, hx⟩ := hx
  replace hx := lt_some hx
  obtain ⟨flags_here_1, eflags_here_1, hx⟩ := hx
  refine ms_cons (m_set (ps_set (i := 1) nd rfl (Or.inl rfl) pe_w) (ME.is (o' := (.lst ((flags_here_1.map D.bl).map .fz))) (me_catLT (xs := flags_here) (ys := [(Xv.is_TooDeep e_0.1), (Xv.is_NoClause e_0.1), (Xv.is_NoCover e_0.1), (Xv.is_NoBook e_0.1)]) (enc := D.bl) g1 (mv_var (pv 1) rfl) (ME.v (me_lst (ds := [(Xv.is_TooDeep e_0.1), (Xv.is_NoClause e_0.1), (Xv.is_NoCover e_0.1), (Xv.is_NoBook e_0.1)].map D.bl) (mf_cons (show ME _ _ _ (.fz (.bl (Xv.is_TooDeep e_0.1))) from by obtain ⟨ex_, en_⟩ := e_0; cases ex_ with | CoverError => exact me_isV w_CoverError (by rfl) z_isinstance e_TooDeep (me_var (pv 0) rfl) q_CoverError_TooDeep | NoAmount => exact me_isV w_NoAmount (by rfl) z_isinstance e_TooDeep (me_var (pv 0) rfl) q_NoAmount_TooDeep | NoShares => exact me_isV w_NoShares (by rfl) z_isinstance e_TooDeep (me_var (pv 0) rfl) q_NoShares_TooDeep | NoEntry => exact me_isV w_NoEntry (by rfl) z_isinstance e_TooDeep (me_var (pv 0) rfl) q_NoEntry_TooDeep | NoWords => exact me_isV w_NoWords (by rfl) z_isinstance e_TooDeep (me_var (pv 0) rfl) q_NoWords_TooDeep | TooDeep => exact me_isV w_TooDeep (by rfl) z_isinstance e_TooDeep (me_var (pv 0) rfl) q_TooDeep_TooDeep | NoClause => exact me_isV w_NoClause (by rfl) z_isinstance e_TooDeep (me_var (pv 0) rfl) q_NoClause_TooDeep | NoCover => exact me_isV w_NoCover (by rfl) z_isinstance e_TooDeep (me_var (pv 0) rfl) q_NoCover_TooDeep | NoBook => exact me_isV w_NoBook (by rfl) z_isinstance e_TooDeep (me_var (pv 0) rfl) q_NoBook_TooDeep | Twice => exact me_isV w_Twice (by rfl) z_isinstance e_TooDeep (me_var (pv 0) rfl) q_Twice_TooDeep | Late => exact me_isV w_Late (by rfl) z_isinstance e_TooDeep (me_var (pv 0) rfl) q_Late_TooDeep | NotTold => exact me_isV w_NotTold (by rfl) z_isinstance e_TooDeep (me_var (pv 0) rfl) q_NotTold_TooDeep | TooWide => exact me_isV w_TooWide (by rfl) z_isinstance e_TooDeep (me_var (pv 0) rfl) q_TooWide_TooDeep | NoText => exact me_isV w_NoText (by rfl) z_isinstance e_TooDeep (me_var (pv 0) rfl) q_NoText_TooDeep | NoRow => exact me_isV w_NoRow (by rfl) z_isinstance e_TooDeep (me_var (pv 0) rfl) q_NoRow_TooDeep) (mf_cons (show ME _ _ _ (.fz (.bl (Xv.is_NoClause e_0.1))) from by obtain ⟨ex_, en_⟩ := e_0; cases ex_ with | CoverError => exact me_isV w_CoverError (by rfl) z_isinstance e_NoClause (me_var (pv 0) rfl) q_CoverError_NoClause | NoAmount => exact me_isV w_NoAmount (by rfl) z_isinstance e_NoClause (me_var (pv 0) rfl) q_NoAmount_NoClause | NoShares => exact me_isV w_NoShares (by rfl) z_isinstance e_NoClause (me_var (pv 0) rfl) q_NoShares_NoClause | NoEntry => exact me_isV w_NoEntry (by rfl) z_isinstance e_NoClause (me_var (pv 0) rfl) q_NoEntry_NoClause | NoWords => exact me_isV w_NoWords (by rfl) z_isinstance e_NoClause (me_var (pv 0) rfl) q_NoWords_NoClause | TooDeep => exact me_isV w_TooDeep (by rfl) z_isinstance e_NoClause (me_var (pv 0) rfl) q_TooDeep_NoClause | NoClause => exact me_isV w_NoClause (by rfl) z_isinstance e_NoClause (me_var (pv 0) rfl) q_NoClause_NoClause | NoCover => exact me_isV w_NoCover (by rfl) z_isinstance e_NoClause (me_var (pv 0) rfl) q_NoCover_NoClause | NoBook => exact me_isV w_NoBook (by rfl) z_isinstance e_NoClause (me_var (pv 0) rfl) q_NoBook_NoClause | Twice => exact me_isV w_Twice (by rfl) z_isinstance e_NoClause (me_var (pv 0) rfl) q_Twice_NoClause | Late => exact me_isV w_Late (by rfl) z_isinstance e_NoClause (me_var (pv 0) rfl) q_Late_NoClause | NotTold => exact me_isV w_NotTold (by rfl) z_isinstance e_NoClause (me_var (pv 0) rfl) q_NotTold_NoClause | TooWide => exact me_isV w_TooWide (by rfl) z_isinstance e_NoClause (me_var (pv 0) rfl) q_TooWide_NoClause | NoText => exact me_isV w_NoText (by rfl) z_isinstance e_NoClause (me_var (pv 0) rfl) q_NoText_NoClause | NoRow => exact me_isV w_NoRow (by rfl) z_isinstance e_NoClause (me_var (pv 0) rfl) q_NoRow_NoClause) (mf_cons (show ME _ _ _ (.fz (.bl (Xv.is_NoCover e_0.1))) from by obtain ⟨ex_, en_⟩ := e_0; cases ex_ with | CoverError => exact me_isV w_CoverError (by rfl) z_isinstance e_NoCover (me_var (pv 0) rfl) q_CoverError_NoCover | NoAmount => exact me_isV w_NoAmount (by rfl) z_isinstance e_NoCover (me_var (pv 0) rfl) q_NoAmount_NoCover | NoShares => exact me_isV w_NoShares (by rfl) z_isinstance e_NoCover (me_var (pv 0) rfl) q_NoShares_NoCover | NoEntry => exact me_isV w_NoEntry (by rfl) z_isinstance e_NoCover (me_var (pv 0) rfl) q_NoEntry_NoCover | NoWords => exact me_isV w_NoWords (by rfl) z_isinstance e_NoCover (me_var (pv 0) rfl) q_NoWords_NoCover | TooDeep => exact me_isV w_TooDeep (by rfl) z_isinstance e_NoCover (me_var (pv 0) rfl) q_TooDeep_NoCover | NoClause => exact me_isV w_NoClause (by rfl) z_isinstance e_NoCover (me_var (pv 0) rfl) q_NoClause_NoCover | NoCover => exact me_isV w_NoCover (by rfl) z_isinstance e_NoCover (me_var (pv 0) rfl) q_NoCover_NoCover | NoBook => exact me_isV w_NoBook (by rfl) z_isinstance e_NoCover (me_var (pv 0) rfl) q_NoBook_NoCover | Twice => exact me_isV w_Twice (by rfl) z_isinstance e_NoCover (me_var (pv 0) rfl) q_Twice_NoCover | Late => exact me_isV w_Late (by rfl) z_isinstance e_NoCover (me_var (pv 0) rfl) q_Late_NoCover | NotTold => exact me_isV w_NotTold (by rfl) z_isinstance e_NoCover (me_var (pv 0) rfl) q_NotTold_NoCover | TooWide => exact me_isV w_TooWide (by rfl) z_isinstance e_NoCover (me_var (pv 0) rfl) q_TooWide_NoCover | NoText => exact me_isV w_NoText (by rfl) z_isinstance e_NoCover (me_var (pv 0) rfl) q_NoText_NoCover | NoRow => exact me_isV w_NoRow (by rfl) z_isinstance e_NoCover (me_var (pv 0) rfl) q_NoRow_NoCover) (mf_cons (show ME _ _ _ (.fz (.bl (Xv.is_NoBook e_0.1))) from by obtain ⟨ex_, en_⟩ := e_0; cases ex_ with | CoverError => exact me_isV w_CoverError (by rfl) z_isinstance e_NoBook (me_var (pv 0) rfl) q_CoverError_NoBook | NoAmount => exact me_isV w_NoAmount (by rfl) z_isinstance e_NoBook (me_var (pv 0) rfl) q_NoAmount_NoBook | NoShares => exact me_isV w_NoShares (by rfl) z_isinstance e_NoBook (me_var (pv 0) rfl) q_NoShares_NoBook | NoEntry => exact me_isV w_NoEntry (by rfl) z_isinstance e_NoBook (me_var (pv 0) rfl) q_NoEntry_NoBook | NoWords => exact me_isV w_NoWords (by rfl) z_isinstance e_NoBook (me_var (pv 0) rfl) q_NoWords_NoBook | TooDeep => exact me_isV w_TooDeep (by rfl) z_isinstance e_NoBook (me_var (pv 0) rfl) q_TooDeep_NoBook | NoClause => exact me_isV w_NoClause (by rfl) z_isinstance e_NoBook (me_var (pv 0) rfl) q_NoClause_NoBook | NoCover => exact me_isV w_NoCover (by rfl) z_isinstance e_NoBook (me_var (pv 0) rfl) q_NoCover_NoBook | NoBook => exact me_isV w_NoBook (by rfl) z_isinstance e_NoBook (me_var (pv 0) rfl) q_NoBook_NoBook | Twice => exact me_isV w_Twice (by rfl) z_isinstance e_NoBook (me_var (pv 0) rfl) q_Twice_NoBook | Late => exact me_isV w_Late (by rfl) z_isinstance e_NoBook (me_var (pv 0) rfl) q_Late_NoBook | NotTold => exact me_isV w_NotTold (by rfl) z_isinstance e_NoBook (me_var (pv 0) rfl) q_NotTold_NoBook | TooWide => exact me_isV w_TooWide (by rfl) z_isinstance e_NoBook (me_var (pv 0) rfl) q_TooWide_NoBook | NoText => exact me_isV w_NoText (by rfl) z_isinstance e_NoBook (me_var (pv 0) rfl) q_NoText_NoBook | NoRow => exact me_isV w_NoRow (by rfl) z_isinstance e_NoBook (me_var (pv 0) rfl) q_NoRow_NoBook) mf_nil))))))) (by rw [eflags_here_1] <;> rfl)) ?_)
  show MS _ [some (.fz ((exD C_CoverError C_NoAmount C_NoShares C_NoEntry C_NoWords C_TooDeep C_NoClause C_NoCover C_NoBook C_Twice C_Late C_NotTold C_TooWide C_NoText C_NoRow) e_0)), some (.lst ((flags_here_1.map D.bl).map .fz))] _ _
  replace hx := gd_some hx
  obtain ⟨g2, hx⟩ := hx
  replace hx := lt_some hx
  obtain ⟨flags_here_2, eflags_here_2, hx⟩ := hx
  refine ms_cons (m_set (ps_set (i := 1) nd rfl (Or.inl rfl) pe_w) (ME.is (o' := (.lst ((flags_here_2.map D.bl).map .fz))) (me_catLT (xs := flags_here_1) (ys := [(Xv.is_Twice e_0.1), (Xv.is_Late e_0.1), (Xv.is_NotTold e_0.1), (Xv.is_TooWide e_0.1)]) (enc := D.bl) g2 (mv_var (pv 1) rfl) (ME.v (me_lst (ds := [(Xv.is_Twice e_0.1), (Xv.is_Late e_0.1), (Xv.is_NotTold e_0.1), (Xv.is_TooWide e_0.1)].map D.bl) (mf_cons (show ME _ _ _ (.fz (.bl (Xv.is_Twice e_0.1))) from by obtain ⟨ex_, en_⟩ := e_0; cases ex_ with | CoverError => exact me_isV w_CoverError (by rfl) z_isinstance e_Twice (me_var (pv 0) rfl) q_CoverError_Twice | NoAmount => exact me_isV w_NoAmount (by rfl) z_isinstance e_Twice (me_var (pv 0) rfl) q_NoAmount_Twice | NoShares => exact me_isV w_NoShares (by rfl) z_isinstance e_Twice (me_var (pv 0) rfl) q_NoShares_Twice | NoEntry => exact me_isV w_NoEntry (by rfl) z_isinstance e_Twice (me_var (pv 0) rfl) q_NoEntry_Twice | NoWords => exact me_isV w_NoWords (by rfl) z_isinstance e_Twice (me_var (pv 0) rfl) q_NoWords_Twice | TooDeep => exact me_isV w_TooDeep (by rfl) z_isinstance e_Twice (me_var (pv 0) rfl) q_TooDeep_Twice | NoClause => exact me_isV w_NoClause (by rfl) z_isinstance e_Twice (me_var (pv 0) rfl) q_NoClause_Twice | NoCover => exact me_isV w_NoCover (by rfl) z_isinstance e_Twice (me_var (pv 0) rfl) q_NoCover_Twice | NoBook => exact me_isV w_NoBook (by rfl) z_isinstance e_Twice (me_var (pv 0) rfl) q_NoBook_Twice | Twice => exact me_isV w_Twice (by rfl) z_isinstance e_Twice (me_var (pv 0) rfl) q_Twice_Twice | Late => exact me_isV w_Late (by rfl) z_isinstance e_Twice (me_var (pv 0) rfl) q_Late_Twice | NotTold => exact me_isV w_NotTold (by rfl) z_isinstance e_Twice (me_var (pv 0) rfl) q_NotTold_Twice | TooWide => exact me_isV w_TooWide (by rfl) z_isinstance e_Twice (me_var (pv 0) rfl) q_TooWide_Twice | NoText => exact me_isV w_NoText (by rfl) z_isinstance e_Twice (me_var (pv 0) rfl) q_NoText_Twice | NoRow => exact me_isV w_NoRow (by rfl) z_isinstance e_Twice (me_var (pv 0) rfl) q_NoRow_Twice) (mf_cons (show ME _ _ _ (.fz (.bl (Xv.is_Late e_0.1))) from by obtain ⟨ex_, en_⟩ := e_0; cases ex_ with | CoverError => exact me_isV w_CoverError (by rfl) z_isinstance e_Late (me_var (pv 0) rfl) q_CoverError_Late | NoAmount => exact me_isV w_NoAmount (by rfl) z_isinstance e_Late (me_var (pv 0) rfl) q_NoAmount_Late | NoShares => exact me_isV w_NoShares (by rfl) z_isinstance e_Late (me_var (pv 0) rfl) q_NoShares_Late | NoEntry => exact me_isV w_NoEntry (by rfl) z_isinstance e_Late (me_var (pv 0) rfl) q_NoEntry_Late | NoWords => exact me_isV w_NoWords (by rfl) z_isinstance e_Late (me_var (pv 0) rfl) q_NoWords_Late | TooDeep => exact me_isV w_TooDeep (by rfl) z_isinstance e_Late (me_var (pv 0) rfl) q_TooDeep_Late | NoClause => exact me_isV w_NoClause (by rfl) z_isinstance e_Late (me_var (pv 0) rfl) q_NoClause_Late | NoCover => exact me_isV w_NoCover (by rfl) z_isinstance e_Late (me_var (pv 0) rfl) q_NoCover_Late | NoBook => exact me_isV w_NoBook (by rfl) z_isinstance e_Late (me_var (pv 0) rfl) q_NoBook_Late | Twice => exact me_isV w_Twice (by rfl) z_isinstance e_Late (me_var (pv 0) rfl) q_Twice_Late | Late => exact me_isV w_Late (by rfl) z_isinstance e_Late (me_var (pv 0) rfl) q_Late_Late | NotTold => exact me_isV w_NotTold (by rfl) z_isinstance e_Late (me_var (pv 0) rfl) q_NotTold_Late | TooWide => exact me_isV w_TooWide (by rfl) z_isinstance e_Late (me_var (pv 0) rfl) q_TooWide_Late | NoText => exact me_isV w_NoText (by rfl) z_isinstance e_Late (me_var (pv 0) rfl) q_NoText_Late | NoRow => exact me_isV w_NoRow (by rfl) z_isinstance e_Late (me_var (pv 0) rfl) q_NoRow_Late) (mf_cons (show ME _ _ _ (.fz (.bl (Xv.is_NotTold e_0.1))) from by obtain ⟨ex_, en_⟩ := e_0; cases ex_ with | CoverError => exact me_isV w_CoverError (by rfl) z_isinstance e_NotTold (me_var (pv 0) rfl) q_CoverError_NotTold | NoAmount => exact me_isV w_NoAmount (by rfl) z_isinstance e_NotTold (me_var (pv 0) rfl) q_NoAmount_NotTold | NoShares => exact me_isV w_NoShares (by rfl) z_isinstance e_NotTold (me_var (pv 0) rfl) q_NoShares_NotTold | NoEntry => exact me_isV w_NoEntry (by rfl) z_isinstance e_NotTold (me_var (pv 0) rfl) q_NoEntry_NotTold | NoWords => exact me_isV w_NoWords (by rfl) z_isinstance e_NotTold (me_var (pv 0) rfl) q_NoWords_NotTold | TooDeep => exact me_isV w_TooDeep (by rfl) z_isinstance e_NotTold (me_var (pv 0) rfl) q_TooDeep_NotTold | NoClause => exact me_isV w_NoClause (by rfl) z_isinstance e_NotTold (me_var (pv 0) rfl) q_NoClause_NotTold | NoCover => exact me_isV w_NoCover (by rfl) z_isinstance e_NotTold (me_var (pv 0) rfl) q_NoCover_NotTold | NoBook => exact me_isV w_NoBook (by rfl) z_isinstance e_NotTold (me_var (pv 0) rfl) q_NoBook_NotTold | Twice => exact me_isV w_Twice (by rfl) z_isinstance e_NotTold (me_var (pv 0) rfl) q_Twice_NotTold | Late => exact me_isV w_Late (by rfl) z_isinstance e_NotTold (me_var (pv 0) rfl) q_Late_NotTold | NotTold => exact me_isV w_NotTold (by rfl) z_isinstance e_NotTold (me_var (pv 0) rfl) q_NotTold_NotTold | TooWide => exact me_isV w_TooWide (by rfl) z_isinstance e_NotTold (me_var (pv 0) rfl) q_TooWide_NotTold | NoText => exact me_isV w_NoText (by rfl) z_isinstance e_NotTold (me_var (pv 0) rfl) q_NoText_NotTold | NoRow => exact me_isV w_NoRow (by rfl) z_isinstance e_NotTold (me_var (pv 0) rfl) q_NoRow_NotTold) (mf_cons (show ME _ _ _ (.fz (.bl (Xv.is_TooWide e_0.1))) from by obtain ⟨ex_, en_⟩ := e_0; cases ex_ with | CoverError => exact me_isV w_CoverError (by rfl) z_isinstance e_TooWide (me_var (pv 0) rfl) q_CoverError_TooWide | NoAmount => exact me_isV w_NoAmount (by rfl) z_isinstance e_TooWide (me_var (pv 0) rfl) q_NoAmount_TooWide | NoShares => exact me_isV w_NoShares (by rfl) z_isinstance e_TooWide (me_var (pv 0) rfl) q_NoShares_TooWide | NoEntry => exact me_isV w_NoEntry (by rfl) z_isinstance e_TooWide (me_var (pv 0) rfl) q_NoEntry_TooWide | NoWords => exact me_isV w_NoWords (by rfl) z_isinstance e_TooWide (me_var (pv 0) rfl) q_NoWords_TooWide | TooDeep => exact me_isV w_TooDeep (by rfl) z_isinstance e_TooWide (me_var (pv 0) rfl) q_TooDeep_TooWide | NoClause => exact me_isV w_NoClause (by rfl) z_isinstance e_TooWide (me_var (pv 0) rfl) q_NoClause_TooWide | NoCover => exact me_isV w_NoCover (by rfl) z_isinstance e_TooWide (me_var (pv 0) rfl) q_NoCover_TooWide | NoBook => exact me_isV w_NoBook (by rfl) z_isinstance e_TooWide (me_var (pv 0) rfl) q_NoBook_TooWide | Twice => exact me_isV w_Twice (by rfl) z_isinstance e_TooWide (me_var (pv 0) rfl) q_Twice_TooWide | Late => exact me_isV w_Late (by rfl) z_isinstance e_TooWide (me_var (pv 0) rfl) q_Late_TooWide | NotTold => exact me_isV w_NotTold (by rfl) z_isinstance e_TooWide (me_var (pv 0) rfl) q_NotTold_TooWide | TooWide => exact me_isV w_TooWide (by rfl) z_isinstance e_TooWide (me_var (pv 0) rfl) q_TooWide_TooWide | NoText => exact me_isV w_NoText (by rfl) z_isinstance e_TooWide (me_var (pv 0) rfl) q_NoText_TooWide | NoRow => exact me_isV w_NoRow (by rfl) z_isinstance e_TooWide (me_var (pv 0) rfl) q_NoRow_TooWide) mf_nil))))))) (by rw [eflags_here_2] <;> rfl)) ?_)
  show MS _ [some (.fz ((exD C_CoverError C_NoAmount C_NoShares C_NoEntry C_NoWords C_TooDeep C_NoClause C_NoCover C_NoBook C_Twice C_Late C_NotTold C_TooWide C_NoText C_NoRow) e_0)), some (.lst ((flags_here_2.map D.bl).map .fz))] _ _
  replace hx := gd_some hx
  obtain ⟨g3, hx⟩ := hx
  refine ms_one (m_ret (ps_ret pe_w) (ME.r (me_catLT (xs := flags_here_2) (ys := [(Xv.is_NoText e_0.1), (Xv.is_NoRow e_0.1)]) (enc := D.bl) g3 (mv_var (pv 1) rfl) (ME.v (me_lst (ds := [(Xv.is_NoText e_0.1), (Xv.is_NoRow e_0.1)].map D.bl) (mf_cons (show ME _ _ _ (.fz (.bl (Xv.is_NoText e_0.1))) from by obtain ⟨ex_, en_⟩ := e_0; cases ex_ with | CoverError => exact me_isV w_CoverError (by rfl) z_isinstance e_NoText (me_var (pv 0) rfl) q_CoverError_NoText | NoAmount => exact me_isV w_NoAmount (by rfl) z_isinstance e_NoText (me_var (pv 0) rfl) q_NoAmount_NoText | NoShares => exact me_isV w_NoShares (by rfl) z_isinstance e_NoText (me_var (pv 0) rfl) q_NoShares_NoText | NoEntry => exact me_isV w_NoEntry (by rfl) z_isinstance e_NoText (me_var (pv 0) rfl) q_NoEntry_NoText | NoWords => exact me_isV w_NoWords (by rfl) z_isinstance e_NoText (me_var (pv 0) rfl) q_NoWords_NoText | TooDeep => exact me_isV w_TooDeep (by rfl) z_isinstance e_NoText (me_var (pv 0) rfl) q_TooDeep_NoText | NoClause => exact me_isV w_NoClause (by rfl) z_isinstance e_NoText (me_var (pv 0) rfl) q_NoClause_NoText | NoCover => exact me_isV w_NoCover (by rfl) z_isinstance e_NoText (me_var (pv 0) rfl) q_NoCover_NoText | NoBook => exact me_isV w_NoBook (by rfl) z_isinstance e_NoText (me_var (pv 0) rfl) q_NoBook_NoText | Twice => exact me_isV w_Twice (by rfl) z_isinstance e_NoText (me_var (pv 0) rfl) q_Twice_NoText | Late => exact me_isV w_Late (by rfl) z_isinstance e_NoText (me_var (pv 0) rfl) q_Late_NoText | NotTold => exact me_isV w_NotTold (by rfl) z_isinstance e_NoText (me_var (pv 0) rfl) q_NotTold_NoText | TooWide => exact me_isV w_TooWide (by rfl) z_isinstance e_NoText (me_var (pv 0) rfl) q_TooWide_NoText | NoText => exact me_isV w_NoText (by rfl) z_isinstance e_NoText (me_var (pv 0) rfl) q_NoText_NoText | NoRow => exact me_isV w_NoRow (by rfl) z_isinstance e_NoText (me_var (pv 0) rfl) q_NoRow_NoText) (mf_cons (show ME _ _ _ (.fz (.bl (Xv.is_NoRow e_0.1))) from by obtain ⟨ex_, en_⟩ := e_0; cases ex_ with | CoverError => exact me_isV w_CoverError (by rfl) z_isinstance e_NoRow (me_var (pv 0) rfl) q_CoverError_NoRow | NoAmount => exact me_isV w_NoAmount (by rfl) z_isinstance e_NoRow (me_var (pv 0) rfl) q_NoAmount_NoRow | NoShares => exact me_isV w_NoShares (by rfl) z_isinstance e_NoRow (me_var (pv 0) rfl) q_NoShares_NoRow | NoEntry => exact me_isV w_NoEntry (by rfl) z_isinstance e_NoRow (me_var (pv 0) rfl) q_NoEntry_NoRow | NoWords => exact me_isV w_NoWords (by rfl) z_isinstance e_NoRow (me_var (pv 0) rfl) q_NoWords_NoRow | TooDeep => exact me_isV w_TooDeep (by rfl) z_isinstance e_NoRow (me_var (pv 0) rfl) q_TooDeep_NoRow | NoClause => exact me_isV w_NoClause (by rfl) z_isinstance e_NoRow (me_var (pv 0) rfl) q_NoClause_NoRow | NoCover => exact me_isV w_NoCover (by rfl) z_isinstance e_NoRow (me_var (pv 0) rfl) q_NoCover_NoRow | NoBook => exact me_isV w_NoBook (by rfl) z_isinstance e_NoRow (me_var (pv 0) rfl) q_NoBook_NoRow | Twice => exact me_isV w_Twice (by rfl) z_isinstance e_NoRow (me_var (pv 0) rfl) q_Twice_NoRow | Late => exact me_isV w_Late (by rfl) z_isinstance e_NoRow (me_var (pv 0) rfl) q_Late_NoRow | NotTold => exact me_isV w_NotTold (by rfl) z_isinstance e_NoRow (me_var (pv 0) rfl) q_NotTold_NoRow | TooWide => exact me_isV w_TooWide (by rfl) z_isinstance e_NoRow (me_var (pv 0) rfl) q_TooWide_NoRow | NoText => exact me_isV w_NoText (by rfl) z_isinstance e_NoRow (me_var (pv 0) rfl) q_NoText_NoRow | NoRow => exact me_isV w_NoRow (by rfl) z_isinstance e_NoRow (me_var (pv 0) rfl) q_NoRow_NoRow) mf_nil)))))) ?_)
  cases hx; rfl
abbrev e_N_U_Ex (C_CoverError C_NoAmount C_NoShares C_NoEntry C_NoWords C_TooDeep C_NoClause C_NoCover C_NoBook C_Twice C_Late C_NotTold C_TooWide C_NoText C_NoRow : Addr) (p : (Option (Xv × Int))) : D := match p with
  | some v => (exD C_CoverError C_NoAmount C_NoShares C_NoEntry C_NoWords C_TooDeep C_NoClause C_NoCover C_NoBook C_Twice C_Late C_NotTold C_TooWide C_NoText C_NoRow) v
  | none => .non
noncomputable def M__law_made (k_0 : Int) (word : Str) (number : Int) : Option (Xv × Int) :=
  cond ((k_0 == 3)) (some (Xv.NoWords, number)) <|
  cond ((k_0 == 8)) (some (Xv.Twice, number)) <|
  cond ((k_0 == 9)) (some (Xv.Late, number)) <|
  cond ((k_0 == 12)) (some (Xv.NoText, number)) <|
  cond (decide (k_0 < 5)) (bd (L2.atI [(some ((Xv.NoAmount, 0) : Xv × Int)), (some ((Xv.NoShares, 0) : Xv × Int)), (some ((Xv.NoEntry, 0) : Xv × Int)), none, (some ((Xv.TooDeep, 0) : Xv × Int))] k_0) fun v1 =>
    bd v1 fun v2 =>
    some v2) <|
  cond (decide (k_0 < 8)) (bd (L2.atI [((Xv.NoClause, 0) : Xv × Int), ((Xv.NoCover, 0) : Xv × Int), ((Xv.NoBook, 0) : Xv × Int)] (k_0 - 5)) fun v3 =>
    some v3) <|
  bd (L2.atI [(some ((Xv.NotTold, 0) : Xv × Int)), (some ((Xv.TooWide, 0) : Xv × Int)), none, (some ((Xv.NoRow, 0) : Xv × Int))] (k_0 - 10)) fun v4 =>
  bd v4 fun v5 =>
  some v5
def sp__law_made (K : PySem.W.Frag) (C_CoverError C_NoAmount C_NoShares C_NoEntry C_NoWords C_TooDeep C_NoClause C_NoCover C_NoBook C_Twice C_Late C_NotTold C_TooWide C_NoText C_NoRow : Addr) : Sp := SpF K (fun x : Int × Str × Int => [.fz (.int x.1), .fz (.str x.2.1), .fz (.int x.2.2)]) (fun x => M__law_made x.1 x.2.1 x.2.2) (fun r => .fz ((exD C_CoverError C_NoAmount C_NoShares C_NoEntry C_NoWords C_TooDeep C_NoClause C_NoCover C_NoBook C_Twice C_Late C_NotTold C_TooWide C_NoText C_NoRow) r))
abbrev N__law_made : List Str := ["_law_k", "_law_word", "_law_number"]
theorem sc__law_made : FnScope N__law_made ["_law_k", "_law_word", "_law_number"] (defScope s__law_made) := ⟨rfl, rfl, rfl, by decide +kernel, rfl, by decide +kernel, by decide +kernel⟩
theorem ok__law_made {f : Addr} {fd : FuncData} (F : Fun K "_law_made" "_law_made" s__law_made f fd) (j_NoWords : XiC P w K mg base "NoWords" C_NoWords "at" 1 ["self", "at"]) (j_Twice : XiC P w K mg base "Twice" C_Twice "number" 1 ["self", "number"]) (j_Late : XiC P w K mg base "Late" C_Late "day" 1 ["self", "day"]) (j_NoText : XiC P w K mg base "NoText" C_NoText "at" 1 ["self", "at"]) (x_NoAmount : XcC K mg "NoAmount" C_NoAmount) (x_NoShares : XcC K mg "NoShares" C_NoShares) (x_NoEntry : XcC K mg "NoEntry" C_NoEntry) (x_TooDeep : XcC K mg "TooDeep" C_TooDeep) (x_NoClause : XcC K mg "NoClause" C_NoClause) (x_NoCover : XcC K mg "NoCover" C_NoCover) (x_NoBook : XcC K mg "NoBook" C_NoBook) (x_NotTold : XcC K mg "NotTold" C_NotTold) (x_TooWide : XcC K mg "TooWide" C_TooWide) (x_NoRow : XcC K mg "NoRow" C_NoRow) : FnOk P w K mg base CX0 3 f fd ["_law_k", "_law_word", "_law_number"] (sp__law_made K C_CoverError C_NoAmount C_NoShares C_NoEntry C_NoWords C_TooDeep C_NoClause C_NoCover C_NoBook C_Twice C_Late C_NotTold C_TooWide C_NoText C_NoRow) := by
  refine fn_m F sc__law_made (fun x => rfl) (fun x _ => rfl) fun cdv A outer s H E hr x hx => ?_
  obtain ⟨⟨k_0, word, number⟩, r⟩ := x
  replace hx : M__law_made k_0 word number = some r := hx
  have nd := sc__law_made.nd
  unfold M__law_made at hx
  show MS _ [some (.fz (.int k_0)), some (.fz (.str word)), some (.fz (.int number))] _ _
  refine ms_cons (m_if (t := ((k_0 == 3))) (mt_eqI (me_var (pv 0) rfl) me_int) (fun h => ?_) fun h => ms_nil ?_)
  · replace hx := cond_t hx h
    refine ms_one (m_ret (ps_ret pe_w) (ME.r (ME.is (o' := .fz (exD C_CoverError C_NoAmount C_NoShares C_NoEntry C_NoWords C_TooDeep C_NoClause C_NoCover C_NoBook C_Twice C_Late C_NotTold C_TooWide C_NoText C_NoRow (Xv.NoWords, number))) (me_excI j_NoWords (me_var (pv 2) rfl) (hr.mono (by decide))) rfl)) ?_)
    cases hx; rfl
  replace hx := cond_f hx h
  refine ms_cons (m_if (t := ((k_0 == 8))) (mt_eqI (me_var (pv 0) rfl) me_int) (fun h => ?_) fun h => ms_nil ?_)
  · replace hx := cond_t hx h
    refine ms_one (m_ret (ps_ret pe_w) (ME.r (ME.is (o' := .fz (exD C_CoverError C_NoAmount C_NoShares C_NoEntry C_NoWords C_TooDeep C_NoClause C_NoCover C_NoBook C_Twice C_Late C_NotTold C_TooWide C_NoText C_NoRow (Xv.Twice, number))) (me_excI j_Twice (me_var (pv 2) rfl) (hr.mono (by decide))) rfl)) ?_)
    cases hx; rfl
  replace hx := cond_f hx h
  refine ms_cons (m_if (t := ((k_0 == 9))) (mt_eqI (me_var (pv 0) rfl) me_int) (fun h => ?_) fun h => ms_nil ?_)
  · replace hx := cond_t hx h
    refine ms_one (m_ret (ps_ret pe_w) (ME.r (ME.is (o' := .fz (exD C_CoverError C_NoAmount C_NoShares C_NoEntry C_NoWords C_TooDeep C_NoClause C_NoCover C_NoBook C_Twice C_Late C_NotTold C_TooWide C_NoText C_NoRow (Xv.Late, number))) (me_excI j_Late (me_var (pv 2) rfl) (hr.mono (by decide))) rfl)) ?_)
    cases hx; rfl
  replace hx := cond_f hx h
  refine ms_cons (m_if (t := ((k_0 == 12))) (mt_eqI (me_var (pv 0) rfl) me_int) (fun h => ?_) fun h => ms_nil ?_)
  · replace hx := cond_t hx h
    refine ms_one (m_ret (ps_ret pe_w) (ME.r (ME.is (o' := .fz (exD C_CoverError C_NoAmount C_NoShares C_NoEntry C_NoWords C_TooDeep C_NoClause C_NoCover C_NoBook C_Twice C_Late C_NotTold C_TooWide C_NoText C_NoRow (Xv.NoText, number))) (me_excI j_NoText (me_var (pv 2) rfl) (hr.mono (by decide))) rfl)) ?_)
    cases hx; rfl
  replace hx := cond_f hx h
  refine ms_cons (m_if (t := (decide (k_0 < 5))) (mt_lt (me_var (pv 0) rfl) me_int) (fun h => ?_) fun h => ms_nil ?_)
  · replace hx := cond_t hx h
    replace hx := bd_some hx
    obtain ⟨v1, hv1, hx⟩ := hx
    replace hx := bd_some hx
    obtain ⟨v2, hv2, hx⟩ := hx
    refine ms_one (m_ret (ps_ret pe_w) (ME.r (ME.is (o' := .fz ((exD C_CoverError C_NoAmount C_NoShares C_NoEntry C_NoWords C_TooDeep C_NoClause C_NoCover C_NoBook C_Twice C_Late C_NotTold C_TooWide C_NoText C_NoRow) v2)) (me_ixLT (xs := [(some ((Xv.NoAmount, 0) : Xv × Int)), (some ((Xv.NoShares, 0) : Xv × Int)), (some ((Xv.NoEntry, 0) : Xv × Int)), none, (some ((Xv.TooDeep, 0) : Xv × Int))]) (enc := (e_N_U_Ex C_CoverError C_NoAmount C_NoShares C_NoEntry C_NoWords C_TooDeep C_NoClause C_NoCover C_NoBook C_Twice C_Late C_NotTold C_TooWide C_NoText C_NoRow)) hv1 (ME.l (me_lst (ds := [(some ((Xv.NoAmount, 0) : Xv × Int)), (some ((Xv.NoShares, 0) : Xv × Int)), (some ((Xv.NoEntry, 0) : Xv × Int)), none, (some ((Xv.TooDeep, 0) : Xv × Int))].map (e_N_U_Ex C_CoverError C_NoAmount C_NoShares C_NoEntry C_NoWords C_TooDeep C_NoClause C_NoCover C_NoBook C_Twice C_Late C_NotTold C_TooWide C_NoText C_NoRow)) (mf_cons (ME.is (o' := .fz (exD C_CoverError C_NoAmount C_NoShares C_NoEntry C_NoWords C_TooDeep C_NoClause C_NoCover C_NoBook C_Twice C_Late C_NotTold C_TooWide C_NoText C_NoRow (Xv.NoAmount, 0))) (me_exc0 x_NoAmount (me_var (pv 1) rfl)) rfl) (mf_cons (ME.is (o' := .fz (exD C_CoverError C_NoAmount C_NoShares C_NoEntry C_NoWords C_TooDeep C_NoClause C_NoCover C_NoBook C_Twice C_Late C_NotTold C_TooWide C_NoText C_NoRow (Xv.NoShares, 0))) (me_exc0 x_NoShares (me_var (pv 1) rfl)) rfl) (mf_cons (ME.is (o' := .fz (exD C_CoverError C_NoAmount C_NoShares C_NoEntry C_NoWords C_TooDeep C_NoClause C_NoCover C_NoBook C_Twice C_Late C_NotTold C_TooWide C_NoText C_NoRow (Xv.NoEntry, 0))) (me_exc0 x_NoEntry (me_var (pv 1) rfl)) rfl) (mf_cons me_non (mf_cons (ME.is (o' := .fz (exD C_CoverError C_NoAmount C_NoShares C_NoEntry C_NoWords C_TooDeep C_NoClause C_NoCover C_NoBook C_Twice C_Late C_NotTold C_TooWide C_NoText C_NoRow (Xv.TooDeep, 0))) (me_exc0 x_TooDeep (me_var (pv 1) rfl)) rfl) mf_nil))))))) (me_var (pv 0) rfl)) (by rw [hv2]))) ?_)
    cases hx; rfl
  replace hx := cond_f hx h
  refine ms_cons (m_if (t := (decide (k_0 < 8))) (mt_lt (me_var (pv 0) rfl) me_int) (fun h => ?_) fun h => ms_nil ?_)
  · replace hx := cond_t hx h
    replace hx := bd_some hx
    obtain ⟨v3, hv3, hx⟩ := hx
    refine ms_one (m_ret (ps_ret pe_w) (ME.r (me_ixLT (xs := [((Xv.NoClause, 0) : Xv × Int), ((Xv.NoCover, 0) : Xv × Int), ((Xv.NoBook, 0) : Xv × Int)]) (enc := (exD C_CoverError C_NoAmount C_NoShares C_NoEntry C_NoWords C_TooDeep C_NoClause C_NoCover C_NoBook C_Twice C_Late C_NotTold C_TooWide C_NoText C_NoRow)) hv3 (ME.l (me_lst (ds := [((Xv.NoClause, 0) : Xv × Int), ((Xv.NoCover, 0) : Xv × Int), ((Xv.NoBook, 0) : Xv × Int)].map (exD C_CoverError C_NoAmount C_NoShares C_NoEntry C_NoWords C_TooDeep C_NoClause C_NoCover C_NoBook C_Twice C_Late C_NotTold C_TooWide C_NoText C_NoRow)) (mf_cons (ME.is (o' := .fz (exD C_CoverError C_NoAmount C_NoShares C_NoEntry C_NoWords C_TooDeep C_NoClause C_NoCover C_NoBook C_Twice C_Late C_NotTold C_TooWide C_NoText C_NoRow (Xv.NoClause, 0))) (me_exc0 x_NoClause (me_var (pv 1) rfl)) rfl) (mf_cons (ME.is (o' := .fz (exD C_CoverError C_NoAmount C_NoShares C_NoEntry C_NoWords C_TooDeep C_NoClause C_NoCover C_NoBook C_Twice C_Late C_NotTold C_TooWide C_NoText C_NoRow (Xv.NoCover, 0))) (me_exc0 x_NoCover (me_var (pv 1) rfl)) rfl) (mf_cons (ME.is (o' := .fz (exD C_CoverError C_NoAmount C_NoShares C_NoEntry C_NoWords C_TooDeep C_NoClause C_NoCover C_NoBook C_Twice C_Late C_NotTold C_TooWide C_NoText C_NoRow (Xv.NoBook, 0))) (me_exc0 x_NoBook (me_var (pv 1) rfl)) rfl) mf_nil))))) (me_sub (me_var (pv 0) rfl) me_int))) ?_)
    cases hx; rfl
  replace hx := cond_f hx h
  replace hx := bd_some hx
  obtain ⟨v4, hv4, hx⟩ := hx
  replace hx := bd_some hx
  obtain ⟨v5, hv5, hx⟩ := hx
  refine ms_one (m_ret (ps_ret pe_w) (ME.r (ME.is (o' := .fz ((exD C_CoverError C_NoAmount C_NoShares C_NoEntry C_NoWords C_TooDeep C_NoClause C_NoCover C_NoBook C_Twice C_Late C_NotTold C_TooWide C_NoText C_NoRow) v5)) (me_ixLT (xs := [(some ((Xv.NotTold, 0) : Xv × Int)), (some ((Xv.TooWide, 0) : Xv × Int)), none, (some ((Xv.NoRow, 0) : Xv × Int))]) (enc := (e_N_U_Ex C_CoverError C_NoAmount C_NoShares C_NoEntry C_NoWords C_TooDeep C_NoClause C_NoCover C_NoBook C_Twice C_Late C_NotTold C_TooWide C_NoText C_NoRow)) hv4 (ME.l (me_lst (ds := [(some ((Xv.NotTold, 0) : Xv × Int)), (some ((Xv.TooWide, 0) : Xv × Int)), none, (some ((Xv.NoRow, 0) : Xv × Int))].map (e_N_U_Ex C_CoverError C_NoAmount C_NoShares C_NoEntry C_NoWords C_TooDeep C_NoClause C_NoCover C_NoBook C_Twice C_Late C_NotTold C_TooWide C_NoText C_NoRow)) (mf_cons (ME.is (o' := .fz (exD C_CoverError C_NoAmount C_NoShares C_NoEntry C_NoWords C_TooDeep C_NoClause C_NoCover C_NoBook C_Twice C_Late C_NotTold C_TooWide C_NoText C_NoRow (Xv.NotTold, 0))) (me_exc0 x_NotTold (me_var (pv 1) rfl)) rfl) (mf_cons (ME.is (o' := .fz (exD C_CoverError C_NoAmount C_NoShares C_NoEntry C_NoWords C_TooDeep C_NoClause C_NoCover C_NoBook C_Twice C_Late C_NotTold C_TooWide C_NoText C_NoRow (Xv.TooWide, 0))) (me_exc0 x_TooWide (me_var (pv 1) rfl)) rfl) (mf_cons me_non (mf_cons (ME.is (o' := .fz (exD C_CoverError C_NoAmount C_NoShares C_NoEntry C_NoWords C_TooDeep C_NoClause C_NoCover C_NoBook C_Twice C_Late C_NotTold C_TooWide C_NoText C_NoRow (Xv.NoRow, 0))) (me_exc0 x_NoRow (me_var (pv 1) rfl)) rfl) mf_nil)))))) (me_sub (me_var (pv 0) rfl) me_int)) (by rw [hv5]))) ?_)
  cases hx; rfl

noncomputable def M__law_kept (k_0 : Int) (e_0 : (Xv × Int)) (number : Int) : Option Bool :=
  bd (cond (((k_0 == 3)) || ((k_0 == 12))) (bd (Xv.f_at e_0) fun n2 =>
    some n2) (some number) : Option (Int)) fun p1 =>
  bd (cond ((k_0 == 8)) (bd (Xv.f_number e_0) fun n4 =>
    some n4) (some p1) : Option (Int)) fun p3 =>
  bd (cond ((k_0 == 9)) (bd (Xv.f_day e_0) fun n6 =>
    some n6) (some p3) : Option (Int)) fun p5 =>
  bd (M__law_whole p5) fun v7 =>
  some (v7 && ((p5 == number)))
def sp__law_kept (K : PySem.W.Frag) (C_CoverError C_NoAmount C_NoShares C_NoEntry C_NoWords C_TooDeep C_NoClause C_NoCover C_NoBook C_Twice C_Late C_NotTold C_TooWide C_NoText C_NoRow : Addr) : Sp := SpF K (fun x : Int × (Xv × Int) × Int => [.fz (.int x.1), .fz ((exD C_CoverError C_NoAmount C_NoShares C_NoEntry C_NoWords C_TooDeep C_NoClause C_NoCover C_NoBook C_Twice C_Late C_NotTold C_TooWide C_NoText C_NoRow) x.2.1), .fz (.int x.2.2)]) (fun x => M__law_kept x.1 x.2.1 x.2.2) (fun r => .fz (.bl r))
abbrev N__law_kept : List Str := ["_law_k", "_law_e", "_law_number", "_law_found"]
theorem sc__law_kept : FnScope N__law_kept ["_law_k", "_law_e", "_law_number"] (defScope s__law_kept) := ⟨rfl, rfl, rfl, by decide +kernel, rfl, by decide +kernel, by decide +kernel⟩
theorem ok__law_kept {f : Addr} {fd : FuncData} (F : Fun K "_law_kept" "_law_kept" s__law_kept f fd) (fx_NoWords : XfC K C_NoWords) (q_nf_NoWords : PySem.W.findIn K (.ref C_NoWords) "at" = some none) (fx_NoText : XfC K C_NoText) (q_nf_NoText : PySem.W.findIn K (.ref C_NoText) "at" = some none) (fx_Twice : XfC K C_Twice) (q_nf_Twice : PySem.W.findIn K (.ref C_Twice) "number" = some none) (fx_Late : XfC K C_Late) (q_nf_Late : PySem.W.findIn K (.ref C_Late) "day" = some none) (c__law_whole : Fn1 P w K mg base "_law_whole" 1 ["_law_found"] (sp__law_whole K)) : FnOk P w K mg base CX0 2 f fd ["_law_k", "_law_e", "_law_number"] (sp__law_kept K C_CoverError C_NoAmount C_NoShares C_NoEntry C_NoWords C_TooDeep C_NoClause C_NoCover C_NoBook C_Twice C_Late C_NotTold C_TooWide C_NoText C_NoRow) := by
  refine fn_m F sc__law_kept (fun x => rfl) (fun x _ => rfl) fun cdv A outer s H E hr x hx => ?_
  obtain ⟨⟨k_0, e_0, number⟩, r⟩ := x
  replace hx : M__law_kept k_0 e_0 number = some r := hx
  have nd := sc__law_kept.nd
  unfold M__law_kept at hx
  show MS _ [some (.fz (.int k_0)), some (.fz ((exD C_CoverError C_NoAmount C_NoShares C_NoEntry C_NoWords C_TooDeep C_NoClause C_NoCover C_NoBook C_Twice C_Late C_NotTold C_TooWide C_NoText C_NoRow) e_0)), some (.fz (.int number)), none] _ _
  refine ms_cons (m_set (ps_set (i := 3) nd rfl (Or.inl rfl) pe_w) (me_var (pv 2) rfl) ?_)
  show MS _ [some (.fz (.int k_0)), some (.fz ((exD C_CoverError C_NoAmount C_NoShares C_NoEntry C_NoWords C_TooDeep C_NoClause C_NoCover C_NoBook C_Twice C_Late C_NotTold C_TooWide C_NoText C_NoRow) e_0)), some (.fz (.int number)), some (.fz (.int number))] _ _
  replace hx := bd_some hx
  obtain ⟨p1, hp1, hx⟩ := hx
  refine ms_cons (m_ifP (out := p1) (fun p1 => [some (.fz (.int k_0)), some (.fz ((exD C_CoverError C_NoAmount C_NoShares C_NoEntry C_NoWords C_TooDeep C_NoClause C_NoCover C_NoBook C_Twice C_Late C_NotTold C_TooWide C_NoText C_NoRow) e_0)), some (.fz (.int number)), some (.fz (.int p1))]) (t := (((k_0 == 3)) || ((k_0 == 12)))) (MW.t (mw_or (mt_eqI (me_var (pv 0) rfl) me_int) fun _ => (mw_or1 (mt_eqI (me_var (pv 0) rfl) me_int)))) (fun h => ?_) (fun h => ?_) fun τ le => ?_)
  · replace hx := cond_t hp1 h
    replace hx := bd_some hx
    obtain ⟨n2, hn2, hx⟩ := hx
    refine ms_one (m_set (ps_set (i := 3) nd rfl (Or.inl rfl) pe_w) (show ME _ _ _ (.fz (.int n2)) from by obtain ⟨ex_, en_⟩ := e_0; cases ex_ with | CoverError => cases hn2 | NoAmount => cases hn2 | NoShares => cases hn2 | NoEntry => cases hn2 | NoWords => (cases hn2; exact me_fldV fx_NoWords q_nf_NoWords (me_var (pv 1) rfl)) | TooDeep => cases hn2 | NoClause => cases hn2 | NoCover => cases hn2 | NoBook => cases hn2 | Twice => cases hn2 | Late => cases hn2 | NotTold => cases hn2 | TooWide => cases hn2 | NoText => (cases hn2; exact me_fldV fx_NoText q_nf_NoText (me_var (pv 1) rfl)) | NoRow => cases hn2) ?_)
    cases hx; exact le_auto
  · replace hx := cond_f hp1 h
    refine ms_nil ?_
    cases hx; exact le_auto
  refine ms_le le ?_
  show MS _ [some (.fz (.int k_0)), some (.fz ((exD C_CoverError C_NoAmount C_NoShares C_NoEntry C_NoWords C_TooDeep C_NoClause C_NoCover C_NoBook C_Twice C_Late C_NotTold C_TooWide C_NoText C_NoRow) e_0)), some (.fz (.int number)), some (.fz (.int p1))] _ _
  replace hx := bd_some hx
  obtain ⟨p3, hp3, hx⟩ := hx
  refine ms_cons (m_ifP (out := p3) (fun p3 => [some (.fz (.int k_0)), some (.fz ((exD C_CoverError C_NoAmount C_NoShares C_NoEntry C_NoWords C_TooDeep C_NoClause C_NoCover C_NoBook C_Twice C_Late C_NotTold C_TooWide C_NoText C_NoRow) e_0)), some (.fz (.int number)), some (.fz (.int p3))]) (t := ((k_0 == 8))) (mt_eqI (me_var (pv 0) rfl) me_int) (fun h => ?_) (fun h => ?_) fun τ le => ?_)
  · replace hx := cond_t hp3 h
    replace hx := bd_some hx
    obtain ⟨n4, hn4, hx⟩ := hx
    refine ms_one (m_set (ps_set (i := 3) nd rfl (Or.inl rfl) pe_w) (show ME _ _ _ (.fz (.int n4)) from by obtain ⟨ex_, en_⟩ := e_0; cases ex_ with | CoverError => cases hn4 | NoAmount => cases hn4 | NoShares => cases hn4 | NoEntry => cases hn4 | NoWords => cases hn4 | TooDeep => cases hn4 | NoClause => cases hn4 | NoCover => cases hn4 | NoBook => cases hn4 | Twice => (cases hn4; exact me_fldV fx_Twice q_nf_Twice (me_var (pv 1) rfl)) | Late => cases hn4 | NotTold => cases hn4 | TooWide => cases hn4 | NoText => cases hn4 | NoRow => cases hn4) ?_)
    cases hx; exact le_auto
  · replace hx := cond_f hp3 h
    refine ms_nil ?_
    cases hx; exact le_auto
  refine ms_le le ?_
  show MS _ [some (.fz (.int k_0)), some (.fz ((exD C_CoverError C_NoAmount C_NoShares C_NoEntry C_NoWords C_TooDeep C_NoClause C_NoCover C_NoBook C_Twice C_Late C_NotTold C_TooWide C_NoText C_NoRow) e_0)), some (.fz (.int number)), some (.fz (.int p3))] _ _
  replace hx := bd_some hx
  obtain ⟨p5, hp5, hx⟩ := hx
  refine ms_cons (m_ifP (out := p5) (fun p5 => [some (.fz (.int k_0)), some (.fz ((exD C_CoverError C_NoAmount C_NoShares C_NoEntry C_NoWords C_TooDeep C_NoClause C_NoCover C_NoBook C_Twice C_Late C_NotTold C_TooWide C_NoText C_NoRow) e_0)), some (.fz (.int number)), some (.fz (.int p5))]) (t := ((k_0 == 9))) (mt_eqI (me_var (pv 0) rfl) me_int) (fun h => ?_) (fun h => ?_) fun τ le => ?_)
  · replace hx := cond_t hp5 h
    replace hx := bd_some hx
    obtain ⟨n6, hn6, hx⟩ := hx
    refine ms_one (m_set (ps_set (i := 3) nd rfl (Or.inl rfl) pe_w) (show ME _ _ _ (.fz (.int n6)) from by obtain ⟨ex_, en_⟩ := e_0; cases ex_ with | CoverError => cases hn6 | NoAmount => cases hn6 | NoShares => cases hn6 | NoEntry => cases hn6 | NoWords => cases hn6 | TooDeep => cases hn6 | NoClause => cases hn6 | NoCover => cases hn6 | NoBook => cases hn6 | Twice => cases hn6 | Late => (cases hn6; exact me_fldV fx_Late q_nf_Late (me_var (pv 1) rfl)) | NotTold => cases hn6 | TooWide => cases hn6 | NoText => cases hn6 | NoRow => cases hn6) ?_)
    cases hx; exact le_auto
  · replace hx := cond_f hp5 h
    refine ms_nil ?_
    cases hx; exact le_auto
  refine ms_le le ?_
  show MS _ [some (.fz (.int k_0)), some (.fz ((exD C_CoverError C_NoAmount C_NoShares C_NoEntry C_NoWords C_TooDeep C_NoClause C_NoCover C_NoBook C_Twice C_Late C_NotTold C_TooWide C_NoText C_NoRow) e_0)), some (.fz (.int number)), some (.fz (.int p5))] _ _
  replace hx := bd_some hx
  obtain ⟨v7, hv7, hx⟩ := hx
  refine ms_one (m_ret (ps_ret pe_w) (ME.r (me_and (me_fn c__law_whole (p5, v7) (ma_fz (me_var (pv 3) rfl) ma_nil) hv7 (hr.mono (by decide))) fun _ => (me_one (me_eqI (me_var (pv 3) rfl) (me_var (pv 2) rfl))))) ?_)
  cases hx; rfl
noncomputable def M_law (script : (List Int)) : Option Bool :=
  bd (M__law_flags ((Xv.CoverError, 0) : Xv × Int)) fun v1 =>
  gd ((-(2 ^ 63) ≤ (14 : Int) ∧ (14 : Int) < 2 ^ 63) ∧ [false].length * (14 : Int).toNat ≤ sizeLine) <|
  gd (D.ok (.lst (v1.map D.bl)) ∧ D.ok (.lst ((repG [false] (14 : Int)).map D.bl))) <|
  cond (!(D.eqv (.lst (v1.map D.bl)) (.lst ((repG [false] (14 : Int)).map D.bl)))) (some false) <|
  bd (lpO (fun (x5 : Nat) (p4 : Unit) => (bd (M__law_cell script (x5 : Int)) fun v7 =>
    lt (v7 % 1000000000) fun number =>
    gd (number.natAbs.log2 < 1920) <|
    gd (("refused " : Str).length + (strI number).length ≤ sizeLine) <|
    bd (M__law_made (x5 : Int) (("refused " : Str) ++ (strI number)) number) fun v10 =>
    bd (cond (!(Xv.is_CoverError v10.1)) (some true) (bd (cond (!(Xv.is_ValueError v10.1)) (some true) (bd (M__law_kept (x5 : Int) v10 number) fun v11 => some (!v11))) fun v12 => some v12)) fun v14 =>
    cond v14 (some (.rt false)) <|
    bd (M__law_flags v10) fun v16 =>
    gd ((List.range (14 : Int).toNat).length < sizeLine) <|
    bd (mpO (fun x18 : Nat => some (((x18 : Int) == (x5 : Int)))) (List.range (14 : Int).toNat)) fun v19 =>
    gd (D.ok (.lst (v16.map D.bl)) ∧ D.ok (.lst (v19.map D.bl))) <|
    cond (!(D.eqv (.lst (v16.map D.bl)) (.lst (v19.map D.bl)))) (some (.rt false)) <|
    some (.nx ()) : Option (Ou (Unit) (Unit) Bool))) (List.range (14 : Int).toNat) ()) fun o6 => ouR o6 fun p4 =>
  some true
open SX TL
def Sm (x : Str) (n : Nat) : Prop := x.length ≤ n ∧ x.cps.toList.all (· < 128) = true
theorem Sm.mono {x : Str} {n m : Nat} (h : Sm x n) (l : n ≤ m) : Sm x m := ⟨Nat.le_trans h.1 l, h.2⟩
def Lc (x : Str) (n : Nat) : Prop := x.length ≤ n ∧ x.cps.toList.all (fun c => 97 ≤ c && c ≤ 122) = true
theorem Lc.mono {x : Str} {n m : Nat} (h : Lc x n) (l : n ≤ m) : Lc x m := ⟨Nat.le_trans h.1 l, h.2⟩
theorem strI_n (n : Nat) : strI (n : Int) = S (numL n) := num_S n
theorem lg_of {m : Int} (h : m.natAbs < 2 ^ 250) : m.natAbs.log2 < 1920 := Nat.lt_of_lt_of_le (PySem.Flt.log2_lt_of (k := 250) (by decide) h) (by decide)
theorem numL_short {n k : Nat} (hk : 0 < k) (h : n < 10 ^ k) : (S (numL n)).length ≤ k := by rw [S_len]; exact numL_len hk h
open SX TL
theorem eqv_b (a b : Bool) : D.eqv (.bl a) (.bl b) = (a == b) := by
  cases a <;> cases b <;> rfl
theorem eqv_l (ds es : List D) : D.eqv (.lst ds) (.lst es) = PyData.eqvAll (D.pyL ds) (D.pyL es) := rfl
theorem eqv_map {α : Type} [BEq α] [LawfulBEq α] {enc : α → D} (h : ∀ a b, D.eqv (enc a) (enc b) = (a == b)) : ∀ xs ys : List α, D.eqv (.lst (xs.map enc)) (.lst (ys.map enc)) = (xs == ys)
  | [], [] => rfl
  | [], _ :: _ => rfl
  | _ :: _, [] => rfl
  | x :: xs, y :: ys => by
    have i := eqv_map h xs ys
    rw [eqv_l] at i ⊢
    show (PyData.eqv (enc x).py (enc y).py && PyData.eqvAll (D.pyL (xs.map enc)) (D.pyL (ys.map enc))) = _
    rw [i]
    have := h x y
    unfold D.eqv at this
    rw [this]
    rfl
theorem bls_ok (xs : List Bool) : D.ok (.lst (xs.map D.bl)) := (show Smp 1 (.lst (xs.map D.bl)) from .lst (smps_map fun x _ => .bl x)).ok

def flagsL (x : Xv) : List Bool := [Xv.is_NoAmount x, Xv.is_NoShares x, Xv.is_NoEntry x, Xv.is_NoWords x, Xv.is_TooDeep x, Xv.is_NoClause x, Xv.is_NoCover x, Xv.is_NoBook x, Xv.is_Twice x, Xv.is_Late x, Xv.is_NotTold x, Xv.is_TooWide x, Xv.is_NoText x, Xv.is_NoRow x]
theorem sz_le {n : Nat} (h : n ≤ 1000) : n ≤ sizeLine := Nat.le_of_lt (small1000 h)
theorem flags_ok (x : Xv) (n : Int) : M__law_flags (x, n) = some (flagsL x) := by
  unfold M__law_flags
  exact Ok.eq (ok_lt (ok_gd (sz_le (by show 8 ≤ 1000; decide)) (ok_lt (ok_gd (sz_le (by show 12 ≤ 1000; decide)) (ok_lt (ok_gd (sz_le (by show 14 ≤ 1000; decide)) (ok_some rfl)))))))
structure MdOk (k : Nat) (w : Str) (n : Int) (x : Xv) (m : Int) : Prop where
  md : M__law_made (k : Int) w n = some (x, m)
  kp : M__law_kept (k : Int) (x, m) n = some (n == n)
  fl : flagsL x = (List.range 14).map fun j => decide (j = k)
  ce : Xv.is_CoverError x = true
  ve : Xv.is_ValueError x = true
theorem made_ok (w : Str) (n : Int) : ∀ k : Nat, k < 14 → ∃ x m, MdOk k w n x m
  | 0, _ => ⟨.NoAmount, 0, rfl, rfl, rfl, rfl, rfl⟩
  | 1, _ => ⟨.NoShares, 0, rfl, rfl, rfl, rfl, rfl⟩
  | 2, _ => ⟨.NoEntry, 0, rfl, rfl, rfl, rfl, rfl⟩
  | 3, _ => ⟨.NoWords, n, rfl, rfl, rfl, rfl, rfl⟩
  | 4, _ => ⟨.TooDeep, 0, rfl, rfl, rfl, rfl, rfl⟩
  | 5, _ => ⟨.NoClause, 0, rfl, rfl, rfl, rfl, rfl⟩
  | 6, _ => ⟨.NoCover, 0, rfl, rfl, rfl, rfl, rfl⟩
  | 7, _ => ⟨.NoBook, 0, rfl, rfl, rfl, rfl, rfl⟩
  | 8, _ => ⟨.Twice, n, rfl, rfl, rfl, rfl, rfl⟩
  | 9, _ => ⟨.Late, n, rfl, rfl, rfl, rfl, rfl⟩
  | 10, _ => ⟨.NotTold, 0, rfl, rfl, rfl, rfl, rfl⟩
  | 11, _ => ⟨.TooWide, 0, rfl, rfl, rfl, rfl, rfl⟩
  | 12, _ => ⟨.NoText, n, rfl, rfl, rfl, rfl, rfl⟩
  | 13, _ => ⟨.NoRow, 0, rfl, rfl, rfl, rfl, rfl⟩
  | k + 14, h => absurd h (by omega)
theorem cellOk19 {ns : List Int} {k : Int} (h0 : 0 ≤ k) : Ok (M__law_cell ns k) fun _ => True := by
  unfold M__law_cell
  exact ok_cond (fun c => ok_bd (ok_atI (Q := fun _ => True) h0 (of_decide_eq_true c) fun _ _ => trivial) fun v _ => ok_some trivial) fun _ => ok_some trivial
theorem law_true (ns : List Int) (h : ns.length ≤ 63) : M_law ns = some true := by
  unfold M_law
  refine Ok.eq ?_
  rw [bd_of (flags_ok .CoverError 0)]
  refine ok_gd ⟨⟨by decide, by decide⟩, sz_le (by show 14 ≤ 1000; decide)⟩ (ok_gd ⟨bls_ok _, bls_ok _⟩ (ok_f ?_ ?_))
  · rw [eqv_map eqv_b]
    rfl
  refine ok_bd (ok_lpN (Q := fun o => o = .nx ()) (fun _ _ => True) trivial (fun i x v hx _ => ?_) fun v _ => rfl) fun o ho => ?_
  · obtain ⟨hi, ex⟩ := List.getElem?_eq_some_iff.mp hx
    rw [List.length_range] at hi
    rw [List.getElem_range] at ex
    subst ex
    have hi : i < 14 := hi
    refine ok_bd (cellOk19 (by omega)) fun v7 _ => ok_lt ?_
    obtain ⟨n, en⟩ := Int.eq_ofNat_of_zero_le (show 0 ≤ v7 % 1000000000 by omega)
    have hn : n < 1000000000 := by omega
    rw [en]
    refine ok_gd (lg_of (by omega)) (ok_gd ?_ ?_)
    · have e := numL_short (k := 9) (by decide) (show n < 10 ^ 9 by omega)
      rw [← strI_n] at e
      exact sz_le (by have e2 : ("refused " : Str).length = 8 := by decide +kernel
                      rw [e2]; omega)
    obtain ⟨x, m, M⟩ := made_ok (("refused " : Str) ++ (strI (n : Int))) (n : Int) i hi
    rw [bd_of M.md]
    refine ok_bd (Q := fun v => v = false) (ok_f (by rw [M.ce]; rfl) (ok_bd (Q := fun v => v = false) (ok_f (by rw [M.ve]; rfl) ?_) fun v hv => ok_some hv)) fun v hv => ?_
    · rw [bd_of M.kp, beq_self_eq_true]
      exact ok_some rfl
    · refine ok_f hv ?_
      rw [bd_of (flags_ok x m)]
      refine ok_gd (show 14 < sizeLine from small1000 (by decide)) ?_
      rw [bd_of (mpO_pure (fun x18 : Nat => ((x18 : Int) == (i : Int))) _)]
      refine ok_gd ⟨bls_ok _, bls_ok _⟩ (ok_f ?_ (ok_some ⟨(), .inl rfl, trivial⟩))
      rw [eqv_map eqv_b, M.fl]
      have e : ((List.range 14).map fun j => decide (j = i)) = (List.range (14 : Int).toNat).map fun x18 : Nat => ((x18 : Int) == (i : Int)) := by
        refine List.map_congr_left fun j _ => ?_
        by_cases hj : j = i
        · subst hj
          rw [decide_eq_true rfl, beq_self_eq_true]
        · rw [decide_eq_false hj]
          exact (beq_eq_false_iff_ne.mpr (by omega)).symm
      rw [e, beq_self_eq_true]
      rfl
  · subst ho
    exact ok_some rfl
abbrev N_law : List Str := ["_law_script", "_law_k", "_law_number", "_law_e", "_law_j"]
theorem sc_law : FnScope N_law ["_law_script"] (defScope s_law) := ⟨rfl, rfl, rfl, by decide +kernel, rfl, by decide +kernel, by decide +kernel⟩
theorem ok_law {f : Addr} {fd : FuncData} (F : Fun K "law" "law" s_law f fd) (z_range : mg "range" = none) (z_str : mg "str" = none) (z_isinstance : mg "isinstance" = none) (z_ValueError : mg "ValueError" = none) (x_CoverError : XcC K mg "CoverError" C_CoverError) (c__law_flags : Fn1 P w K mg base "_law_flags" 1 ["_law_e"] (sp__law_flags K C_CoverError C_NoAmount C_NoShares C_NoEntry C_NoWords C_TooDeep C_NoClause C_NoCover C_NoBook C_Twice C_Late C_NotTold C_TooWide C_NoText C_NoRow)) (c__law_cell : Fn1 P w K mg base "_law_cell" 1 ["_law_script", "_law_k"] (sp__law_cell K)) (c__law_made : Fn1 P w K mg base "_law_made" 3 ["_law_k", "_law_word", "_law_number"] (sp__law_made K C_CoverError C_NoAmount C_NoShares C_NoEntry C_NoWords C_TooDeep C_NoClause C_NoCover C_NoBook C_Twice C_Late C_NotTold C_TooWide C_NoText C_NoRow)) (e_CoverError : mg "CoverError" = some (.ref C_CoverError)) (w_CoverError : ExcC K C_CoverError) (q_CoverError_CoverError : PySem.W.kitOne K (.ref C_CoverError) (.ref C_CoverError) = some true) (w_NoAmount : ExcC K C_NoAmount) (q_NoAmount_CoverError : PySem.W.kitOne K (.ref C_NoAmount) (.ref C_CoverError) = some true) (w_NoShares : ExcC K C_NoShares) (q_NoShares_CoverError : PySem.W.kitOne K (.ref C_NoShares) (.ref C_CoverError) = some true) (w_NoEntry : ExcC K C_NoEntry) (q_NoEntry_CoverError : PySem.W.kitOne K (.ref C_NoEntry) (.ref C_CoverError) = some true) (w_NoWords : ExcC K C_NoWords) (q_NoWords_CoverError : PySem.W.kitOne K (.ref C_NoWords) (.ref C_CoverError) = some true) (w_TooDeep : ExcC K C_TooDeep) (q_TooDeep_CoverError : PySem.W.kitOne K (.ref C_TooDeep) (.ref C_CoverError) = some true) (w_NoClause : ExcC K C_NoClause) (q_NoClause_CoverError : PySem.W.kitOne K (.ref C_NoClause) (.ref C_CoverError) = some true) (w_NoCover : ExcC K C_NoCover) (q_NoCover_CoverError : PySem.W.kitOne K (.ref C_NoCover) (.ref C_CoverError) = some true) (w_NoBook : ExcC K C_NoBook) (q_NoBook_CoverError : PySem.W.kitOne K (.ref C_NoBook) (.ref C_CoverError) = some true) (w_Twice : ExcC K C_Twice) (q_Twice_CoverError : PySem.W.kitOne K (.ref C_Twice) (.ref C_CoverError) = some true) (w_Late : ExcC K C_Late) (q_Late_CoverError : PySem.W.kitOne K (.ref C_Late) (.ref C_CoverError) = some true) (w_NotTold : ExcC K C_NotTold) (q_NotTold_CoverError : PySem.W.kitOne K (.ref C_NotTold) (.ref C_CoverError) = some true) (w_TooWide : ExcC K C_TooWide) (q_TooWide_CoverError : PySem.W.kitOne K (.ref C_TooWide) (.ref C_CoverError) = some true) (w_NoText : ExcC K C_NoText) (q_NoText_CoverError : PySem.W.kitOne K (.ref C_NoText) (.ref C_CoverError) = some true) (w_NoRow : ExcC K C_NoRow) (q_NoRow_CoverError : PySem.W.kitOne K (.ref C_NoRow) (.ref C_CoverError) = some true) (q_CoverError_ValueError : PySem.W.kitOne K (.ref C_CoverError) (.type "ValueError") = some true) (q_NoAmount_ValueError : PySem.W.kitOne K (.ref C_NoAmount) (.type "ValueError") = some true) (q_NoShares_ValueError : PySem.W.kitOne K (.ref C_NoShares) (.type "ValueError") = some true) (q_NoEntry_ValueError : PySem.W.kitOne K (.ref C_NoEntry) (.type "ValueError") = some true) (q_NoWords_ValueError : PySem.W.kitOne K (.ref C_NoWords) (.type "ValueError") = some true) (q_TooDeep_ValueError : PySem.W.kitOne K (.ref C_TooDeep) (.type "ValueError") = some true) (q_NoClause_ValueError : PySem.W.kitOne K (.ref C_NoClause) (.type "ValueError") = some true) (q_NoCover_ValueError : PySem.W.kitOne K (.ref C_NoCover) (.type "ValueError") = some true) (q_NoBook_ValueError : PySem.W.kitOne K (.ref C_NoBook) (.type "ValueError") = some true) (q_Twice_ValueError : PySem.W.kitOne K (.ref C_Twice) (.type "ValueError") = some true) (q_Late_ValueError : PySem.W.kitOne K (.ref C_Late) (.type "ValueError") = some true) (q_NotTold_ValueError : PySem.W.kitOne K (.ref C_NotTold) (.type "ValueError") = some true) (q_TooWide_ValueError : PySem.W.kitOne K (.ref C_TooWide) (.type "ValueError") = some true) (q_NoText_ValueError : PySem.W.kitOne K (.ref C_NoText) (.type "ValueError") = some true) (q_NoRow_ValueError : PySem.W.kitOne K (.ref C_NoRow) (.type "ValueError") = some true) (c__law_kept : Fn1 P w K mg base "_law_kept" 2 ["_law_k", "_law_e", "_law_number"] (sp__law_kept K C_CoverError C_NoAmount C_NoShares C_NoEntry C_NoWords C_TooDeep C_NoClause C_NoCover C_NoBook C_Twice C_Late C_NotTold C_TooWide C_NoText C_NoRow)) : FnOk P w K mg base CX0 4 f fd ["_law_script"] (spLaw K) := by
  refine fn_m F sc_law (fun x => rfl) (fun x _ => rfl) fun cdv A outer s H E hr script hx => ?_
  have hx : M_law script = some true := law_true script hx
  have nd := sc_law.nd
  unfold M_law at hx
  show MS _ [some (.vw (script.map D.int)), none, none, none, none] _ _
  replace hx := bd_some hx
  obtain ⟨v1, hv1, hx⟩ := hx
  replace hx := gd_some hx
  obtain ⟨g2, hx⟩ := hx
  replace hx := gd_some hx
  obtain ⟨g3, hx⟩ := hx
  refine ms_cons (m_if (t := (!(D.eqv (.lst (v1.map D.bl)) (.lst ((repG [false] (14 : Int)).map D.bl))))) (mt_neDT (d1 := .lst (v1.map D.bl)) (d2 := .lst ((repG [false] (14 : Int)).map D.bl)) hr.units g3 frz_own frz_own (ME.v (me_fn c__law_flags (((Xv.CoverError, 0) : Xv × Int), v1) (ma_fz (ME.is (o' := .fz (exD C_CoverError C_NoAmount C_NoShares C_NoEntry C_NoWords C_TooDeep C_NoClause C_NoCover C_NoBook C_Twice C_Late C_NotTold C_TooWide C_NoText C_NoRow (Xv.CoverError, 0))) (me_exc0 x_CoverError me_str) rfl) ma_nil) hv1 (hr.mono (by decide)))) (ME.v (me_repT (xs := [false]) (enc := D.bl) g2 (ME.v (me_lst (ds := [false].map D.bl) (mf_cons me_bl mf_nil))) me_int))) (fun h => ?_) fun h => ms_nil ?_)
  · replace hx := cond_t hx h
    refine ms_one (m_ret (ps_ret pe_w) (ME.r me_bl) ?_)
    first | (cases hx; done) | (cases hx; rfl) | (injection hx with hx; show O.fz (.bl _) = O.fz (.bl true); rw [hx])
  replace hx := cond_f hx h
  replace hx := bd_some hx
  obtain ⟨o6, ho6, hx⟩ := hx
  refine ms_cons (m_forO (xs := (List.range (14 : Int).toNat)) (enc := (fun k : Nat => D.int (k : Nat))) (ps_for PassesOwn.never rfl (pi_range1 (by rfl) z_range pa_w) (pg_name (i := 1) nd rfl (Or.inr rfl)) pss_w) (by exact (mi_rangeT (mf_cons me_int mf_nil) ⟨by decide, by decide⟩)) ho6 (fun p4 => [some (.vw (script.map D.int)), none, none, none, none]) (fun r => .fz (.bl r)) le_auto (fun x5 p4 p4o mx hx => ?_) (fun p4 τ e le => ?_) fun q e => ?_)
  ·
    refine ⟨_, _, mg_name, ?_⟩
    show MS _ [some (.vw (script.map D.int)), some (.fz (.int (x5 : Int))), none, none, none] _ _
    replace hx := bd_some hx
    obtain ⟨v7, hv7, hx⟩ := hx
    replace hx := lt_some hx
    obtain ⟨number, enumber, hx⟩ := hx
    refine ms_cons (m_set (ps_set (i := 2) nd rfl (Or.inl rfl) pe_w) (ME.is (o' := (.fz (.int number))) (me_mod (me_fn c__law_cell ((script, (x5 : Int)), v7) (ma_vw (ml_var (pv 0) rfl) (ma_fz (me_var (pv 1) rfl) ma_nil)) hv7 (hr.mono (by decide))) (ME.is (o' := .fz (.int 1000000000)) (me_pow me_int me_int ⟨by decide, by decide, by decide⟩) rfl) (by decide)) (by rw [enumber] <;> rfl)) ?_)
    show MS _ [some (.vw (script.map D.int)), some (.fz (.int (x5 : Int))), some (.fz (.int number)), none, none] _ _
    replace hx := gd_some hx
    obtain ⟨g8, hx⟩ := hx
    replace hx := gd_some hx
    obtain ⟨g9, hx⟩ := hx
    replace hx := bd_some hx
    obtain ⟨v10, hv10, hx⟩ := hx
    refine ms_cons (m_set (ps_set (i := 3) nd rfl (Or.inl rfl) pe_w) (me_fn c__law_made (((x5 : Int), (("refused " : Str) ++ (strI number)), number), v10) (ma_fz (me_var (pv 1) rfl) (ma_fz (me_cat me_str (me_strI (by rfl) z_str (me_var (pv 2) rfl) g8) g9) (ma_fz (me_var (pv 2) rfl) ma_nil))) hv10 (hr.mono (by decide))) ?_)
    show MS _ [some (.vw (script.map D.int)), some (.fz (.int (x5 : Int))), some (.fz (.int number)), some (.fz ((exD C_CoverError C_NoAmount C_NoShares C_NoEntry C_NoWords C_TooDeep C_NoClause C_NoCover C_NoBook C_Twice C_Late C_NotTold C_TooWide C_NoText C_NoRow) v10)), none] _ _
    replace hx := bd_some hx
    obtain ⟨v14, hv14, hx⟩ := hx
    refine ms_cons (m_if (t := v14) (MW.t (MW.is (mw_or (mt_not (mt_val (show ME _ _ _ (.fz (.bl (Xv.is_CoverError v10.1))) from by obtain ⟨ex_, en_⟩ := v10; cases ex_ with | CoverError => exact me_isV w_CoverError (by rfl) z_isinstance e_CoverError (me_var (pv 3) rfl) q_CoverError_CoverError | NoAmount => exact me_isV w_NoAmount (by rfl) z_isinstance e_CoverError (me_var (pv 3) rfl) q_NoAmount_CoverError | NoShares => exact me_isV w_NoShares (by rfl) z_isinstance e_CoverError (me_var (pv 3) rfl) q_NoShares_CoverError | NoEntry => exact me_isV w_NoEntry (by rfl) z_isinstance e_CoverError (me_var (pv 3) rfl) q_NoEntry_CoverError | NoWords => exact me_isV w_NoWords (by rfl) z_isinstance e_CoverError (me_var (pv 3) rfl) q_NoWords_CoverError | TooDeep => exact me_isV w_TooDeep (by rfl) z_isinstance e_CoverError (me_var (pv 3) rfl) q_TooDeep_CoverError | NoClause => exact me_isV w_NoClause (by rfl) z_isinstance e_CoverError (me_var (pv 3) rfl) q_NoClause_CoverError | NoCover => exact me_isV w_NoCover (by rfl) z_isinstance e_CoverError (me_var (pv 3) rfl) q_NoCover_CoverError | NoBook => exact me_isV w_NoBook (by rfl) z_isinstance e_CoverError (me_var (pv 3) rfl) q_NoBook_CoverError | Twice => exact me_isV w_Twice (by rfl) z_isinstance e_CoverError (me_var (pv 3) rfl) q_Twice_CoverError | Late => exact me_isV w_Late (by rfl) z_isinstance e_CoverError (me_var (pv 3) rfl) q_Late_CoverError | NotTold => exact me_isV w_NotTold (by rfl) z_isinstance e_CoverError (me_var (pv 3) rfl) q_NotTold_CoverError | TooWide => exact me_isV w_TooWide (by rfl) z_isinstance e_CoverError (me_var (pv 3) rfl) q_TooWide_CoverError | NoText => exact me_isV w_NoText (by rfl) z_isinstance e_CoverError (me_var (pv 3) rfl) q_NoText_CoverError | NoRow => exact me_isV w_NoRow (by rfl) z_isinstance e_CoverError (me_var (pv 3) rfl) q_NoRow_CoverError))) fun q15 => (by have hx := cond_f hv14 q15; replace hx := bd_some hx; obtain ⟨v12, hv12, hx⟩ := hx; first | (cases hx; exact (MW.is (mw_or (mt_not (mt_val (show ME _ _ _ (.fz (.bl (Xv.is_ValueError v10.1))) from by obtain ⟨ex_, en_⟩ := v10; cases ex_ with | CoverError => exact me_isVB w_CoverError (by rfl) z_isinstance (pe_bltn (v := .ty "ValueError") (by rfl) z_ValueError (by decide +kernel) rfl) (me_var (pv 3) rfl) q_CoverError_ValueError | NoAmount => exact me_isVB w_NoAmount (by rfl) z_isinstance (pe_bltn (v := .ty "ValueError") (by rfl) z_ValueError (by decide +kernel) rfl) (me_var (pv 3) rfl) q_NoAmount_ValueError | NoShares => exact me_isVB w_NoShares (by rfl) z_isinstance (pe_bltn (v := .ty "ValueError") (by rfl) z_ValueError (by decide +kernel) rfl) (me_var (pv 3) rfl) q_NoShares_ValueError | NoEntry => exact me_isVB w_NoEntry (by rfl) z_isinstance (pe_bltn (v := .ty "ValueError") (by rfl) z_ValueError (by decide +kernel) rfl) (me_var (pv 3) rfl) q_NoEntry_ValueError | NoWords => exact me_isVB w_NoWords (by rfl) z_isinstance (pe_bltn (v := .ty "ValueError") (by rfl) z_ValueError (by decide +kernel) rfl) (me_var (pv 3) rfl) q_NoWords_ValueError | TooDeep => exact me_isVB w_TooDeep (by rfl) z_isinstance (pe_bltn (v := .ty "ValueError") (by rfl) z_ValueError (by decide +kernel) rfl) (me_var (pv 3) rfl) q_TooDeep_ValueError | NoClause => exact me_isVB w_NoClause (by rfl) z_isinstance (pe_bltn (v := .ty "ValueError") (by rfl) z_ValueError (by decide +kernel) rfl) (me_var (pv 3) rfl) q_NoClause_ValueError | NoCover => exact me_isVB w_NoCover (by rfl) z_isinstance (pe_bltn (v := .ty "ValueError") (by rfl) z_ValueError (by decide +kernel) rfl) (me_var (pv 3) rfl) q_NoCover_ValueError | NoBook => exact me_isVB w_NoBook (by rfl) z_isinstance (pe_bltn (v := .ty "ValueError") (by rfl) z_ValueError (by decide +kernel) rfl) (me_var (pv 3) rfl) q_NoBook_ValueError | Twice => exact me_isVB w_Twice (by rfl) z_isinstance (pe_bltn (v := .ty "ValueError") (by rfl) z_ValueError (by decide +kernel) rfl) (me_var (pv 3) rfl) q_Twice_ValueError | Late => exact me_isVB w_Late (by rfl) z_isinstance (pe_bltn (v := .ty "ValueError") (by rfl) z_ValueError (by decide +kernel) rfl) (me_var (pv 3) rfl) q_Late_ValueError | NotTold => exact me_isVB w_NotTold (by rfl) z_isinstance (pe_bltn (v := .ty "ValueError") (by rfl) z_ValueError (by decide +kernel) rfl) (me_var (pv 3) rfl) q_NotTold_ValueError | TooWide => exact me_isVB w_TooWide (by rfl) z_isinstance (pe_bltn (v := .ty "ValueError") (by rfl) z_ValueError (by decide +kernel) rfl) (me_var (pv 3) rfl) q_TooWide_ValueError | NoText => exact me_isVB w_NoText (by rfl) z_isinstance (pe_bltn (v := .ty "ValueError") (by rfl) z_ValueError (by decide +kernel) rfl) (me_var (pv 3) rfl) q_NoText_ValueError | NoRow => exact me_isVB w_NoRow (by rfl) z_isinstance (pe_bltn (v := .ty "ValueError") (by rfl) z_ValueError (by decide +kernel) rfl) (me_var (pv 3) rfl) q_NoRow_ValueError))) fun q13 => (by have hx := cond_f hv12 q13; replace hx := bd_some hx; obtain ⟨v11, hv11, hx⟩ := hx; cases hx; exact (mw_or1 (mt_not (mt_val (me_fn c__law_kept (((x5 : Int), v10, number), v11) (ma_fz (me_var (pv 1) rfl) (ma_fz (me_var (pv 3) rfl) (ma_fz (me_var (pv 2) rfl) ma_nil))) hv11 (hr.mono (by decide)))))))) (or_c hv12))) | (injection hx with hx; subst hx; exact (MW.is (mw_or (mt_not (mt_val (show ME _ _ _ (.fz (.bl (Xv.is_ValueError v10.1))) from by obtain ⟨ex_, en_⟩ := v10; cases ex_ with | CoverError => exact me_isVB w_CoverError (by rfl) z_isinstance (pe_bltn (v := .ty "ValueError") (by rfl) z_ValueError (by decide +kernel) rfl) (me_var (pv 3) rfl) q_CoverError_ValueError | NoAmount => exact me_isVB w_NoAmount (by rfl) z_isinstance (pe_bltn (v := .ty "ValueError") (by rfl) z_ValueError (by decide +kernel) rfl) (me_var (pv 3) rfl) q_NoAmount_ValueError | NoShares => exact me_isVB w_NoShares (by rfl) z_isinstance (pe_bltn (v := .ty "ValueError") (by rfl) z_ValueError (by decide +kernel) rfl) (me_var (pv 3) rfl) q_NoShares_ValueError | NoEntry => exact me_isVB w_NoEntry (by rfl) z_isinstance (pe_bltn (v := .ty "ValueError") (by rfl) z_ValueError (by decide +kernel) rfl) (me_var (pv 3) rfl) q_NoEntry_ValueError | NoWords => exact me_isVB w_NoWords (by rfl) z_isinstance (pe_bltn (v := .ty "ValueError") (by rfl) z_ValueError (by decide +kernel) rfl) (me_var (pv 3) rfl) q_NoWords_ValueError | TooDeep => exact me_isVB w_TooDeep (by rfl) z_isinstance (pe_bltn (v := .ty "ValueError") (by rfl) z_ValueError (by decide +kernel) rfl) (me_var (pv 3) rfl) q_TooDeep_ValueError | NoClause => exact me_isVB w_NoClause (by rfl) z_isinstance (pe_bltn (v := .ty "ValueError") (by rfl) z_ValueError (by decide +kernel) rfl) (me_var (pv 3) rfl) q_NoClause_ValueError | NoCover => exact me_isVB w_NoCover (by rfl) z_isinstance (pe_bltn (v := .ty "ValueError") (by rfl) z_ValueError (by decide +kernel) rfl) (me_var (pv 3) rfl) q_NoCover_ValueError | NoBook => exact me_isVB w_NoBook (by rfl) z_isinstance (pe_bltn (v := .ty "ValueError") (by rfl) z_ValueError (by decide +kernel) rfl) (me_var (pv 3) rfl) q_NoBook_ValueError | Twice => exact me_isVB w_Twice (by rfl) z_isinstance (pe_bltn (v := .ty "ValueError") (by rfl) z_ValueError (by decide +kernel) rfl) (me_var (pv 3) rfl) q_Twice_ValueError | Late => exact me_isVB w_Late (by rfl) z_isinstance (pe_bltn (v := .ty "ValueError") (by rfl) z_ValueError (by decide +kernel) rfl) (me_var (pv 3) rfl) q_Late_ValueError | NotTold => exact me_isVB w_NotTold (by rfl) z_isinstance (pe_bltn (v := .ty "ValueError") (by rfl) z_ValueError (by decide +kernel) rfl) (me_var (pv 3) rfl) q_NotTold_ValueError | TooWide => exact me_isVB w_TooWide (by rfl) z_isinstance (pe_bltn (v := .ty "ValueError") (by rfl) z_ValueError (by decide +kernel) rfl) (me_var (pv 3) rfl) q_TooWide_ValueError | NoText => exact me_isVB w_NoText (by rfl) z_isinstance (pe_bltn (v := .ty "ValueError") (by rfl) z_ValueError (by decide +kernel) rfl) (me_var (pv 3) rfl) q_NoText_ValueError | NoRow => exact me_isVB w_NoRow (by rfl) z_isinstance (pe_bltn (v := .ty "ValueError") (by rfl) z_ValueError (by decide +kernel) rfl) (me_var (pv 3) rfl) q_NoRow_ValueError))) fun q13 => (by have hx := cond_f hv12 q13; replace hx := bd_some hx; obtain ⟨v11, hv11, hx⟩ := hx; cases hx; exact (mw_or1 (mt_not (mt_val (me_fn c__law_kept (((x5 : Int), v10, number), v11) (ma_fz (me_var (pv 1) rfl) (ma_fz (me_var (pv 3) rfl) (ma_fz (me_var (pv 2) rfl) ma_nil))) hv11 (hr.mono (by decide)))))))) (or_c hv12))))) (or_c hv14))) (fun h => ?_) fun h => ms_nil ?_)
    · replace hx := cond_t hx h
      refine ms_one (m_ret (ps_ret pe_w) (ME.r me_bl) ?_)
      cases hx; exact ⟨_, rfl, rfl⟩
    replace hx := cond_f hx h
    replace hx := bd_some hx
    obtain ⟨v16, hv16, hx⟩ := hx
    replace hx := gd_some hx
    obtain ⟨g17, hx⟩ := hx
    replace hx := bd_some hx
    obtain ⟨v19, hv19, hx⟩ := hx
    replace hx := gd_some hx
    obtain ⟨g20, hx⟩ := hx
    refine ms_one (m_if (t := (!(D.eqv (.lst (v16.map D.bl)) (.lst (v19.map D.bl))))) (mt_neDT (d1 := .lst (v16.map D.bl)) (d2 := .lst (v19.map D.bl)) hr.units g20 frz_own frz_own (ME.v (me_fn c__law_flags (v10, v16) (ma_fz (me_var (pv 3) rfl) ma_nil) hv16 (hr.mono (by decide)))) (ME.v (by exact (me_lcO (g := (gName 4)) (xs := (List.range (14 : Int).toNat)) (ys := v19) (enc := (fun k : Nat => D.int (k : Nat))) (enc2 := D.bl) hv19 (fun te he => pe_lc (own := [("_law_j", 4)]) rfl nd (pi_range1 (by rfl) z_range pa_w) (blkOk_by (N := N_law) (sc := defScope s_law) (by decide +kernel)) (fun _ _ _ _ _ => (pg_name (i := 4) nd rfl (Or.inl rfl))) (fun _ _ _ _ _ => pts_nil) he) (MI.c (mi_rangeT (mf_cons me_int mf_nil) ⟨by decide, by decide⟩)) g17 (fun x18 mx x18y hx => by injection hx with hx; subst x18y; exact ⟨_, _, mg_name, by decide, fun s H C cl fp => (me_eqI (me_var (pv 4) rfl) (me_var (pv 1) rfl))⟩))))) (fun h => ?_) fun h => ms_nil ?_)
    · replace hx := cond_t hx h
      refine ms_one (m_ret (ps_ret pe_w) (ME.r me_bl) ?_)
      cases hx; exact ⟨_, rfl, rfl⟩
    replace hx := cond_f hx h
    cases hx; exact ⟨_, rfl, le_auto⟩
  · subst e
    dsimp only [ouR] at hx
    refine ms_le le ?_
    show MS _ [some (.vw (script.map D.int)), none, none, none, none] _ _
    refine ms_one (m_ret (ps_ret pe_w) (ME.r me_bl) ?_)
    first | (cases hx; done) | (cases hx; rfl) | (injection hx with hx; show O.fz (.bl _) = O.fz (.bl true); rw [hx])
  · subst e; cases hx; rfl
end
theorem all_mk {l : PySem.W.OpenLaw} {w : World} {K : PySem.W.Frag} {h : Heap} {mg : Str → Option Value} {fa : Addr} (X : K.In h) (G : h.Ns mainGlobals mg) (hfa : mg "law" = some (.ref fa))
    {C_NoAmount : Addr} (a_NoAmount : PySem.W.nsIn K mainGlobals "NoAmount" = some (some (.ref C_NoAmount)))
    {C_NoShares : Addr} (a_NoShares : PySem.W.nsIn K mainGlobals "NoShares" = some (some (.ref C_NoShares)))
    {C_NoEntry : Addr} (a_NoEntry : PySem.W.nsIn K mainGlobals "NoEntry" = some (some (.ref C_NoEntry)))
    {C_NoWords : Addr} (a_NoWords : PySem.W.nsIn K mainGlobals "NoWords" = some (some (.ref C_NoWords)))
    {C_TooDeep : Addr} (a_TooDeep : PySem.W.nsIn K mainGlobals "TooDeep" = some (some (.ref C_TooDeep)))
    {C_NoClause : Addr} (a_NoClause : PySem.W.nsIn K mainGlobals "NoClause" = some (some (.ref C_NoClause)))
    {C_NoCover : Addr} (a_NoCover : PySem.W.nsIn K mainGlobals "NoCover" = some (some (.ref C_NoCover)))
    {C_NoBook : Addr} (a_NoBook : PySem.W.nsIn K mainGlobals "NoBook" = some (some (.ref C_NoBook)))
    {C_Twice : Addr} (a_Twice : PySem.W.nsIn K mainGlobals "Twice" = some (some (.ref C_Twice)))
    {C_Late : Addr} (a_Late : PySem.W.nsIn K mainGlobals "Late" = some (some (.ref C_Late)))
    {C_NotTold : Addr} (a_NotTold : PySem.W.nsIn K mainGlobals "NotTold" = some (some (.ref C_NotTold)))
    {C_TooWide : Addr} (a_TooWide : PySem.W.nsIn K mainGlobals "TooWide" = some (some (.ref C_TooWide)))
    {C_NoText : Addr} (a_NoText : PySem.W.nsIn K mainGlobals "NoText" = some (some (.ref C_NoText)))
    {C_NoRow : Addr} (a_NoRow : PySem.W.nsIn K mainGlobals "NoRow" = some (some (.ref C_NoRow)))
    {C_CoverError : Addr} (a_CoverError : PySem.W.nsIn K mainGlobals "CoverError" = some (some (.ref C_CoverError)))
    (xq_NoAmount : PySem.W.excIn K C_NoAmount [.type "ValueError", .type "Exception", .type "BaseException", .type "object"] "ValueError.__new__" = true)
    (xk_NoAmount : PySem.W.keepIn K (.ref C_NoAmount) = true)
    (xb_NoAmount : PySem.W.subIn K (.ref C_NoAmount) (.type "BaseException") = some true)
    (xt_NoAmount : PySem.W.typeIn K (.ref C_NoAmount) = some (.type "type"))
    (xq_NoShares : PySem.W.excIn K C_NoShares [.type "ValueError", .type "Exception", .type "BaseException", .type "object"] "ValueError.__new__" = true)
    (xk_NoShares : PySem.W.keepIn K (.ref C_NoShares) = true)
    (xb_NoShares : PySem.W.subIn K (.ref C_NoShares) (.type "BaseException") = some true)
    (xt_NoShares : PySem.W.typeIn K (.ref C_NoShares) = some (.type "type"))
    (xq_NoEntry : PySem.W.excIn K C_NoEntry [.type "ValueError", .type "Exception", .type "BaseException", .type "object"] "ValueError.__new__" = true)
    (xk_NoEntry : PySem.W.keepIn K (.ref C_NoEntry) = true)
    (xb_NoEntry : PySem.W.subIn K (.ref C_NoEntry) (.type "BaseException") = some true)
    (xt_NoEntry : PySem.W.typeIn K (.ref C_NoEntry) = some (.type "type"))
    (xq_TooDeep : PySem.W.excIn K C_TooDeep [.type "ValueError", .type "Exception", .type "BaseException", .type "object"] "ValueError.__new__" = true)
    (xk_TooDeep : PySem.W.keepIn K (.ref C_TooDeep) = true)
    (xb_TooDeep : PySem.W.subIn K (.ref C_TooDeep) (.type "BaseException") = some true)
    (xt_TooDeep : PySem.W.typeIn K (.ref C_TooDeep) = some (.type "type"))
    (xq_NoClause : PySem.W.excIn K C_NoClause [.type "ValueError", .type "Exception", .type "BaseException", .type "object"] "ValueError.__new__" = true)
    (xk_NoClause : PySem.W.keepIn K (.ref C_NoClause) = true)
    (xb_NoClause : PySem.W.subIn K (.ref C_NoClause) (.type "BaseException") = some true)
    (xt_NoClause : PySem.W.typeIn K (.ref C_NoClause) = some (.type "type"))
    (xq_NoCover : PySem.W.excIn K C_NoCover [.type "ValueError", .type "Exception", .type "BaseException", .type "object"] "ValueError.__new__" = true)
    (xk_NoCover : PySem.W.keepIn K (.ref C_NoCover) = true)
    (xb_NoCover : PySem.W.subIn K (.ref C_NoCover) (.type "BaseException") = some true)
    (xt_NoCover : PySem.W.typeIn K (.ref C_NoCover) = some (.type "type"))
    (xq_NoBook : PySem.W.excIn K C_NoBook [.type "ValueError", .type "Exception", .type "BaseException", .type "object"] "ValueError.__new__" = true)
    (xk_NoBook : PySem.W.keepIn K (.ref C_NoBook) = true)
    (xb_NoBook : PySem.W.subIn K (.ref C_NoBook) (.type "BaseException") = some true)
    (xt_NoBook : PySem.W.typeIn K (.ref C_NoBook) = some (.type "type"))
    (xq_NotTold : PySem.W.excIn K C_NotTold [.type "ValueError", .type "Exception", .type "BaseException", .type "object"] "ValueError.__new__" = true)
    (xk_NotTold : PySem.W.keepIn K (.ref C_NotTold) = true)
    (xb_NotTold : PySem.W.subIn K (.ref C_NotTold) (.type "BaseException") = some true)
    (xt_NotTold : PySem.W.typeIn K (.ref C_NotTold) = some (.type "type"))
    (xq_TooWide : PySem.W.excIn K C_TooWide [.type "ValueError", .type "Exception", .type "BaseException", .type "object"] "ValueError.__new__" = true)
    (xk_TooWide : PySem.W.keepIn K (.ref C_TooWide) = true)
    (xb_TooWide : PySem.W.subIn K (.ref C_TooWide) (.type "BaseException") = some true)
    (xt_TooWide : PySem.W.typeIn K (.ref C_TooWide) = some (.type "type"))
    (xq_NoRow : PySem.W.excIn K C_NoRow [.type "ValueError", .type "Exception", .type "BaseException", .type "object"] "ValueError.__new__" = true)
    (xk_NoRow : PySem.W.keepIn K (.ref C_NoRow) = true)
    (xb_NoRow : PySem.W.subIn K (.ref C_NoRow) (.type "BaseException") = some true)
    (xt_NoRow : PySem.W.typeIn K (.ref C_NoRow) = some (.type "type"))
    (xq_CoverError : PySem.W.excIn K C_CoverError [.type "ValueError", .type "Exception", .type "BaseException", .type "object"] "ValueError.__new__" = true)
    (xk_CoverError : PySem.W.keepIn K (.ref C_CoverError) = true)
    (xb_CoverError : PySem.W.subIn K (.ref C_CoverError) (.type "BaseException") = some true)
    (xt_CoverError : PySem.W.typeIn K (.ref C_CoverError) = some (.type "type"))
    (xg_CoverError : PySem.W.findIn K (.ref C_CoverError) "__getattribute__" = some (some (.builtin "BaseException.__getattribute__")))
    (xh_CoverError : PySem.W.findIn K (.ref C_CoverError) "__getattr__" = some none)
    (xd_CoverError : PySem.W.hasDictIn K C_CoverError = true)
    (xa_CoverError : PySem.W.findIn K (.ref C_CoverError) "__class__" = some (some (.builtin "object.__class__")))
    (xm_CoverError : PySem.W.mroIn K C_CoverError (.type "object") = some true)
    (xg_NoAmount : PySem.W.findIn K (.ref C_NoAmount) "__getattribute__" = some (some (.builtin "BaseException.__getattribute__")))
    (xh_NoAmount : PySem.W.findIn K (.ref C_NoAmount) "__getattr__" = some none)
    (xd_NoAmount : PySem.W.hasDictIn K C_NoAmount = true)
    (xa_NoAmount : PySem.W.findIn K (.ref C_NoAmount) "__class__" = some (some (.builtin "object.__class__")))
    (xm_NoAmount : PySem.W.mroIn K C_NoAmount (.type "object") = some true)
    (xg_NoShares : PySem.W.findIn K (.ref C_NoShares) "__getattribute__" = some (some (.builtin "BaseException.__getattribute__")))
    (xh_NoShares : PySem.W.findIn K (.ref C_NoShares) "__getattr__" = some none)
    (xd_NoShares : PySem.W.hasDictIn K C_NoShares = true)
    (xa_NoShares : PySem.W.findIn K (.ref C_NoShares) "__class__" = some (some (.builtin "object.__class__")))
    (xm_NoShares : PySem.W.mroIn K C_NoShares (.type "object") = some true)
    (xg_NoEntry : PySem.W.findIn K (.ref C_NoEntry) "__getattribute__" = some (some (.builtin "BaseException.__getattribute__")))
    (xh_NoEntry : PySem.W.findIn K (.ref C_NoEntry) "__getattr__" = some none)
    (xd_NoEntry : PySem.W.hasDictIn K C_NoEntry = true)
    (xa_NoEntry : PySem.W.findIn K (.ref C_NoEntry) "__class__" = some (some (.builtin "object.__class__")))
    (xm_NoEntry : PySem.W.mroIn K C_NoEntry (.type "object") = some true)
    (xg_NoWords : PySem.W.findIn K (.ref C_NoWords) "__getattribute__" = some (some (.builtin "BaseException.__getattribute__")))
    (xh_NoWords : PySem.W.findIn K (.ref C_NoWords) "__getattr__" = some none)
    (xb_NoWords : PySem.W.subIn K (.ref C_NoWords) (.type "BaseException") = some true)
    (xd_NoWords : PySem.W.hasDictIn K C_NoWords = true)
    (xa_NoWords : PySem.W.findIn K (.ref C_NoWords) "__class__" = some (some (.builtin "object.__class__")))
    (xm_NoWords : PySem.W.mroIn K C_NoWords (.type "object") = some true)
    (xg_TooDeep : PySem.W.findIn K (.ref C_TooDeep) "__getattribute__" = some (some (.builtin "BaseException.__getattribute__")))
    (xh_TooDeep : PySem.W.findIn K (.ref C_TooDeep) "__getattr__" = some none)
    (xd_TooDeep : PySem.W.hasDictIn K C_TooDeep = true)
    (xa_TooDeep : PySem.W.findIn K (.ref C_TooDeep) "__class__" = some (some (.builtin "object.__class__")))
    (xm_TooDeep : PySem.W.mroIn K C_TooDeep (.type "object") = some true)
    (xg_NoClause : PySem.W.findIn K (.ref C_NoClause) "__getattribute__" = some (some (.builtin "BaseException.__getattribute__")))
    (xh_NoClause : PySem.W.findIn K (.ref C_NoClause) "__getattr__" = some none)
    (xd_NoClause : PySem.W.hasDictIn K C_NoClause = true)
    (xa_NoClause : PySem.W.findIn K (.ref C_NoClause) "__class__" = some (some (.builtin "object.__class__")))
    (xm_NoClause : PySem.W.mroIn K C_NoClause (.type "object") = some true)
    (xg_NoCover : PySem.W.findIn K (.ref C_NoCover) "__getattribute__" = some (some (.builtin "BaseException.__getattribute__")))
    (xh_NoCover : PySem.W.findIn K (.ref C_NoCover) "__getattr__" = some none)
    (xd_NoCover : PySem.W.hasDictIn K C_NoCover = true)
    (xa_NoCover : PySem.W.findIn K (.ref C_NoCover) "__class__" = some (some (.builtin "object.__class__")))
    (xm_NoCover : PySem.W.mroIn K C_NoCover (.type "object") = some true)
    (xg_NoBook : PySem.W.findIn K (.ref C_NoBook) "__getattribute__" = some (some (.builtin "BaseException.__getattribute__")))
    (xh_NoBook : PySem.W.findIn K (.ref C_NoBook) "__getattr__" = some none)
    (xd_NoBook : PySem.W.hasDictIn K C_NoBook = true)
    (xa_NoBook : PySem.W.findIn K (.ref C_NoBook) "__class__" = some (some (.builtin "object.__class__")))
    (xm_NoBook : PySem.W.mroIn K C_NoBook (.type "object") = some true)
    (xg_Twice : PySem.W.findIn K (.ref C_Twice) "__getattribute__" = some (some (.builtin "BaseException.__getattribute__")))
    (xh_Twice : PySem.W.findIn K (.ref C_Twice) "__getattr__" = some none)
    (xb_Twice : PySem.W.subIn K (.ref C_Twice) (.type "BaseException") = some true)
    (xd_Twice : PySem.W.hasDictIn K C_Twice = true)
    (xa_Twice : PySem.W.findIn K (.ref C_Twice) "__class__" = some (some (.builtin "object.__class__")))
    (xm_Twice : PySem.W.mroIn K C_Twice (.type "object") = some true)
    (xg_Late : PySem.W.findIn K (.ref C_Late) "__getattribute__" = some (some (.builtin "BaseException.__getattribute__")))
    (xh_Late : PySem.W.findIn K (.ref C_Late) "__getattr__" = some none)
    (xb_Late : PySem.W.subIn K (.ref C_Late) (.type "BaseException") = some true)
    (xd_Late : PySem.W.hasDictIn K C_Late = true)
    (xa_Late : PySem.W.findIn K (.ref C_Late) "__class__" = some (some (.builtin "object.__class__")))
    (xm_Late : PySem.W.mroIn K C_Late (.type "object") = some true)
    (xg_NotTold : PySem.W.findIn K (.ref C_NotTold) "__getattribute__" = some (some (.builtin "BaseException.__getattribute__")))
    (xh_NotTold : PySem.W.findIn K (.ref C_NotTold) "__getattr__" = some none)
    (xd_NotTold : PySem.W.hasDictIn K C_NotTold = true)
    (xa_NotTold : PySem.W.findIn K (.ref C_NotTold) "__class__" = some (some (.builtin "object.__class__")))
    (xm_NotTold : PySem.W.mroIn K C_NotTold (.type "object") = some true)
    (xg_TooWide : PySem.W.findIn K (.ref C_TooWide) "__getattribute__" = some (some (.builtin "BaseException.__getattribute__")))
    (xh_TooWide : PySem.W.findIn K (.ref C_TooWide) "__getattr__" = some none)
    (xd_TooWide : PySem.W.hasDictIn K C_TooWide = true)
    (xa_TooWide : PySem.W.findIn K (.ref C_TooWide) "__class__" = some (some (.builtin "object.__class__")))
    (xm_TooWide : PySem.W.mroIn K C_TooWide (.type "object") = some true)
    (xg_NoText : PySem.W.findIn K (.ref C_NoText) "__getattribute__" = some (some (.builtin "BaseException.__getattribute__")))
    (xh_NoText : PySem.W.findIn K (.ref C_NoText) "__getattr__" = some none)
    (xb_NoText : PySem.W.subIn K (.ref C_NoText) (.type "BaseException") = some true)
    (xd_NoText : PySem.W.hasDictIn K C_NoText = true)
    (xa_NoText : PySem.W.findIn K (.ref C_NoText) "__class__" = some (some (.builtin "object.__class__")))
    (xm_NoText : PySem.W.mroIn K C_NoText (.type "object") = some true)
    (xg_NoRow : PySem.W.findIn K (.ref C_NoRow) "__getattribute__" = some (some (.builtin "BaseException.__getattribute__")))
    (xh_NoRow : PySem.W.findIn K (.ref C_NoRow) "__getattr__" = some none)
    (xd_NoRow : PySem.W.hasDictIn K C_NoRow = true)
    (xa_NoRow : PySem.W.findIn K (.ref C_NoRow) "__class__" = some (some (.builtin "object.__class__")))
    (xm_NoRow : PySem.W.mroIn K C_NoRow (.type "object") = some true)
    (xn0 : PySem.W.specialIn K (.builtin "object.__class__") "__get__" = some (some (.builtin "getset_descriptor.__get__"))) (xt0 : PySem.W.takesIn K (.builtin "object.__class__") = some true)
    {f0 : Addr} {od0 an0 : Option Addr} {sl0 : Array (Option Value)} {oc0 kV0 dc0 pm0 cd0 ct0 : Value}
    (a0 : PySem.W.nsIn K mainGlobals "_law_flags" = some (some (.ref f0))) (l0 : K.lookup f0 = some ⟨oc0, od0, .func (PySem.W.fnOf "_law_flags" "_law_flags" (defArgs s__law_flags) (defBody s__law_flags) (defScope s__law_flags) .none kV0 dc0 pm0 an0 cd0 ct0), sl0⟩) (c0 : PySem.W.codeIn K cd0 "_law_flags" = true) (k0 : PySem.W.keepIn K (.ref f0) = true)
    {f1 : Addr} {od1 an1 : Option Addr} {sl1 : Array (Option Value)} {oc1 kV1 dc1 pm1 cd1 ct1 : Value}
    (a1 : PySem.W.nsIn K mainGlobals "_law_cell" = some (some (.ref f1))) (l1 : K.lookup f1 = some ⟨oc1, od1, .func (PySem.W.fnOf "_law_cell" "_law_cell" (defArgs s__law_cell) (defBody s__law_cell) (defScope s__law_cell) .none kV1 dc1 pm1 an1 cd1 ct1), sl1⟩) (c1 : PySem.W.codeIn K cd1 "_law_cell" = true) (k1 : PySem.W.keepIn K (.ref f1) = true)
    {f2 : Addr} {od2 an2 : Option Addr} {sl2 : Array (Option Value)} {oc2 kV2 dc2 pm2 cd2 ct2 : Value}
    (a2 : PySem.W.findIn K (.ref C_NoWords) "__init__" = some (some (.ref f2))) (l2 : K.lookup f2 = some ⟨oc2, od2, .func (PySem.W.fnOf "__init__" "NoWords.__init__" (defArgs s_NoWords___init__) (defBody s_NoWords___init__) (defScope s_NoWords___init__) .none kV2 dc2 pm2 an2 cd2 ct2), sl2⟩) (c2 : PySem.W.codeIn K cd2 "NoWords.__init__" = true) (k2 : PySem.W.keepIn K (.ref f2) = true) (i2 : PySem.W.isFn K (.ref f2) = true) (tf2 : PySem.W.typeIn K (.ref f2) = some (.type "function"))
    {f3 : Addr} {od3 an3 : Option Addr} {sl3 : Array (Option Value)} {oc3 kV3 dc3 pm3 cd3 ct3 : Value}
    (a3 : PySem.W.findIn K (.ref C_Twice) "__init__" = some (some (.ref f3))) (l3 : K.lookup f3 = some ⟨oc3, od3, .func (PySem.W.fnOf "__init__" "Twice.__init__" (defArgs s_Twice___init__) (defBody s_Twice___init__) (defScope s_Twice___init__) .none kV3 dc3 pm3 an3 cd3 ct3), sl3⟩) (c3 : PySem.W.codeIn K cd3 "Twice.__init__" = true) (k3 : PySem.W.keepIn K (.ref f3) = true) (i3 : PySem.W.isFn K (.ref f3) = true) (tf3 : PySem.W.typeIn K (.ref f3) = some (.type "function"))
    {f4 : Addr} {od4 an4 : Option Addr} {sl4 : Array (Option Value)} {oc4 kV4 dc4 pm4 cd4 ct4 : Value}
    (a4 : PySem.W.findIn K (.ref C_Late) "__init__" = some (some (.ref f4))) (l4 : K.lookup f4 = some ⟨oc4, od4, .func (PySem.W.fnOf "__init__" "Late.__init__" (defArgs s_Late___init__) (defBody s_Late___init__) (defScope s_Late___init__) .none kV4 dc4 pm4 an4 cd4 ct4), sl4⟩) (c4 : PySem.W.codeIn K cd4 "Late.__init__" = true) (k4 : PySem.W.keepIn K (.ref f4) = true) (i4 : PySem.W.isFn K (.ref f4) = true) (tf4 : PySem.W.typeIn K (.ref f4) = some (.type "function"))
    {f5 : Addr} {od5 an5 : Option Addr} {sl5 : Array (Option Value)} {oc5 kV5 dc5 pm5 cd5 ct5 : Value}
    (a5 : PySem.W.findIn K (.ref C_NoText) "__init__" = some (some (.ref f5))) (l5 : K.lookup f5 = some ⟨oc5, od5, .func (PySem.W.fnOf "__init__" "NoText.__init__" (defArgs s_NoText___init__) (defBody s_NoText___init__) (defScope s_NoText___init__) .none kV5 dc5 pm5 an5 cd5 ct5), sl5⟩) (c5 : PySem.W.codeIn K cd5 "NoText.__init__" = true) (k5 : PySem.W.keepIn K (.ref f5) = true) (i5 : PySem.W.isFn K (.ref f5) = true) (tf5 : PySem.W.typeIn K (.ref f5) = some (.type "function"))
    {f6 : Addr} {od6 an6 : Option Addr} {sl6 : Array (Option Value)} {oc6 kV6 dc6 pm6 cd6 ct6 : Value}
    (a6 : PySem.W.nsIn K mainGlobals "_law_made" = some (some (.ref f6))) (l6 : K.lookup f6 = some ⟨oc6, od6, .func (PySem.W.fnOf "_law_made" "_law_made" (defArgs s__law_made) (defBody s__law_made) (defScope s__law_made) .none kV6 dc6 pm6 an6 cd6 ct6), sl6⟩) (c6 : PySem.W.codeIn K cd6 "_law_made" = true) (k6 : PySem.W.keepIn K (.ref f6) = true)
    {f7 : Addr} {od7 an7 : Option Addr} {sl7 : Array (Option Value)} {oc7 kV7 dc7 pm7 cd7 ct7 : Value}
    (a7 : PySem.W.nsIn K mainGlobals "_law_whole" = some (some (.ref f7))) (l7 : K.lookup f7 = some ⟨oc7, od7, .func (PySem.W.fnOf "_law_whole" "_law_whole" (defArgs s__law_whole) (defBody s__law_whole) (defScope s__law_whole) .none kV7 dc7 pm7 an7 cd7 ct7), sl7⟩) (c7 : PySem.W.codeIn K cd7 "_law_whole" = true) (k7 : PySem.W.keepIn K (.ref f7) = true)
    {f8 : Addr} {od8 an8 : Option Addr} {sl8 : Array (Option Value)} {oc8 kV8 dc8 pm8 cd8 ct8 : Value}
    (a8 : PySem.W.nsIn K mainGlobals "_law_kept" = some (some (.ref f8))) (l8 : K.lookup f8 = some ⟨oc8, od8, .func (PySem.W.fnOf "_law_kept" "_law_kept" (defArgs s__law_kept) (defBody s__law_kept) (defScope s__law_kept) .none kV8 dc8 pm8 an8 cd8 ct8), sl8⟩) (c8 : PySem.W.codeIn K cd8 "_law_kept" = true) (k8 : PySem.W.keepIn K (.ref f8) = true)
    {f9 : Addr} {od9 an9 : Option Addr} {sl9 : Array (Option Value)} {oc9 kV9 dc9 pm9 cd9 ct9 : Value}
    (a9 : PySem.W.nsIn K mainGlobals "law" = some (some (.ref f9))) (l9 : K.lookup f9 = some ⟨oc9, od9, .func (PySem.W.fnOf "law" "law" (defArgs s_law) (defBody s_law) (defScope s_law) .none kV9 dc9 pm9 an9 cd9 ct9), sl9⟩) (c9 : PySem.W.codeIn K cd9 "law" = true) (k9 : PySem.W.keepIn K (.ref f9) = true)
    (mr_CoverError_NoAmount : PySem.W.mroIn K C_CoverError (.ref C_NoAmount) = some false)
    (ms_CoverError : PySem.W.mroIn K C_CoverError (.ref C_CoverError) = some true)
    (mr_NoAmount_NoAmount : PySem.W.mroIn K C_NoAmount (.ref C_NoAmount) = some true)
    (mr_NoShares_NoAmount : PySem.W.mroIn K C_NoShares (.ref C_NoAmount) = some false)
    (ms_NoShares : PySem.W.mroIn K C_NoShares (.ref C_NoShares) = some true)
    (mr_NoEntry_NoAmount : PySem.W.mroIn K C_NoEntry (.ref C_NoAmount) = some false)
    (ms_NoEntry : PySem.W.mroIn K C_NoEntry (.ref C_NoEntry) = some true)
    (mr_NoWords_NoAmount : PySem.W.mroIn K C_NoWords (.ref C_NoAmount) = some false)
    (ms_NoWords : PySem.W.mroIn K C_NoWords (.ref C_NoWords) = some true)
    (mr_TooDeep_NoAmount : PySem.W.mroIn K C_TooDeep (.ref C_NoAmount) = some false)
    (ms_TooDeep : PySem.W.mroIn K C_TooDeep (.ref C_TooDeep) = some true)
    (mr_NoClause_NoAmount : PySem.W.mroIn K C_NoClause (.ref C_NoAmount) = some false)
    (ms_NoClause : PySem.W.mroIn K C_NoClause (.ref C_NoClause) = some true)
    (mr_NoCover_NoAmount : PySem.W.mroIn K C_NoCover (.ref C_NoAmount) = some false)
    (ms_NoCover : PySem.W.mroIn K C_NoCover (.ref C_NoCover) = some true)
    (mr_NoBook_NoAmount : PySem.W.mroIn K C_NoBook (.ref C_NoAmount) = some false)
    (ms_NoBook : PySem.W.mroIn K C_NoBook (.ref C_NoBook) = some true)
    (mr_Twice_NoAmount : PySem.W.mroIn K C_Twice (.ref C_NoAmount) = some false)
    (ms_Twice : PySem.W.mroIn K C_Twice (.ref C_Twice) = some true)
    (mr_Late_NoAmount : PySem.W.mroIn K C_Late (.ref C_NoAmount) = some false)
    (ms_Late : PySem.W.mroIn K C_Late (.ref C_Late) = some true)
    (mr_NotTold_NoAmount : PySem.W.mroIn K C_NotTold (.ref C_NoAmount) = some false)
    (ms_NotTold : PySem.W.mroIn K C_NotTold (.ref C_NotTold) = some true)
    (mr_TooWide_NoAmount : PySem.W.mroIn K C_TooWide (.ref C_NoAmount) = some false)
    (ms_TooWide : PySem.W.mroIn K C_TooWide (.ref C_TooWide) = some true)
    (mr_NoText_NoAmount : PySem.W.mroIn K C_NoText (.ref C_NoAmount) = some false)
    (ms_NoText : PySem.W.mroIn K C_NoText (.ref C_NoText) = some true)
    (mr_NoRow_NoAmount : PySem.W.mroIn K C_NoRow (.ref C_NoAmount) = some false)
    (ms_NoRow : PySem.W.mroIn K C_NoRow (.ref C_NoRow) = some true)
    (mr_CoverError_NoShares : PySem.W.mroIn K C_CoverError (.ref C_NoShares) = some false)
    (mr_NoAmount_NoShares : PySem.W.mroIn K C_NoAmount (.ref C_NoShares) = some false)
    (ms_NoAmount : PySem.W.mroIn K C_NoAmount (.ref C_NoAmount) = some true)
    (mr_NoShares_NoShares : PySem.W.mroIn K C_NoShares (.ref C_NoShares) = some true)
    (mr_NoEntry_NoShares : PySem.W.mroIn K C_NoEntry (.ref C_NoShares) = some false)
    (mr_NoWords_NoShares : PySem.W.mroIn K C_NoWords (.ref C_NoShares) = some false)
    (mr_TooDeep_NoShares : PySem.W.mroIn K C_TooDeep (.ref C_NoShares) = some false)
    (mr_NoClause_NoShares : PySem.W.mroIn K C_NoClause (.ref C_NoShares) = some false)
    (mr_NoCover_NoShares : PySem.W.mroIn K C_NoCover (.ref C_NoShares) = some false)
    (mr_NoBook_NoShares : PySem.W.mroIn K C_NoBook (.ref C_NoShares) = some false)
    (mr_Twice_NoShares : PySem.W.mroIn K C_Twice (.ref C_NoShares) = some false)
    (mr_Late_NoShares : PySem.W.mroIn K C_Late (.ref C_NoShares) = some false)
    (mr_NotTold_NoShares : PySem.W.mroIn K C_NotTold (.ref C_NoShares) = some false)
    (mr_TooWide_NoShares : PySem.W.mroIn K C_TooWide (.ref C_NoShares) = some false)
    (mr_NoText_NoShares : PySem.W.mroIn K C_NoText (.ref C_NoShares) = some false)
    (mr_NoRow_NoShares : PySem.W.mroIn K C_NoRow (.ref C_NoShares) = some false)
    (mr_CoverError_NoEntry : PySem.W.mroIn K C_CoverError (.ref C_NoEntry) = some false)
    (mr_NoAmount_NoEntry : PySem.W.mroIn K C_NoAmount (.ref C_NoEntry) = some false)
    (mr_NoShares_NoEntry : PySem.W.mroIn K C_NoShares (.ref C_NoEntry) = some false)
    (mr_NoEntry_NoEntry : PySem.W.mroIn K C_NoEntry (.ref C_NoEntry) = some true)
    (mr_NoWords_NoEntry : PySem.W.mroIn K C_NoWords (.ref C_NoEntry) = some false)
    (mr_TooDeep_NoEntry : PySem.W.mroIn K C_TooDeep (.ref C_NoEntry) = some false)
    (mr_NoClause_NoEntry : PySem.W.mroIn K C_NoClause (.ref C_NoEntry) = some false)
    (mr_NoCover_NoEntry : PySem.W.mroIn K C_NoCover (.ref C_NoEntry) = some false)
    (mr_NoBook_NoEntry : PySem.W.mroIn K C_NoBook (.ref C_NoEntry) = some false)
    (mr_Twice_NoEntry : PySem.W.mroIn K C_Twice (.ref C_NoEntry) = some false)
    (mr_Late_NoEntry : PySem.W.mroIn K C_Late (.ref C_NoEntry) = some false)
    (mr_NotTold_NoEntry : PySem.W.mroIn K C_NotTold (.ref C_NoEntry) = some false)
    (mr_TooWide_NoEntry : PySem.W.mroIn K C_TooWide (.ref C_NoEntry) = some false)
    (mr_NoText_NoEntry : PySem.W.mroIn K C_NoText (.ref C_NoEntry) = some false)
    (mr_NoRow_NoEntry : PySem.W.mroIn K C_NoRow (.ref C_NoEntry) = some false)
    (mr_CoverError_NoWords : PySem.W.mroIn K C_CoverError (.ref C_NoWords) = some false)
    (mr_NoAmount_NoWords : PySem.W.mroIn K C_NoAmount (.ref C_NoWords) = some false)
    (mr_NoShares_NoWords : PySem.W.mroIn K C_NoShares (.ref C_NoWords) = some false)
    (mr_NoEntry_NoWords : PySem.W.mroIn K C_NoEntry (.ref C_NoWords) = some false)
    (mr_NoWords_NoWords : PySem.W.mroIn K C_NoWords (.ref C_NoWords) = some true)
    (mr_TooDeep_NoWords : PySem.W.mroIn K C_TooDeep (.ref C_NoWords) = some false)
    (mr_NoClause_NoWords : PySem.W.mroIn K C_NoClause (.ref C_NoWords) = some false)
    (mr_NoCover_NoWords : PySem.W.mroIn K C_NoCover (.ref C_NoWords) = some false)
    (mr_NoBook_NoWords : PySem.W.mroIn K C_NoBook (.ref C_NoWords) = some false)
    (mr_Twice_NoWords : PySem.W.mroIn K C_Twice (.ref C_NoWords) = some false)
    (mr_Late_NoWords : PySem.W.mroIn K C_Late (.ref C_NoWords) = some false)
    (mr_NotTold_NoWords : PySem.W.mroIn K C_NotTold (.ref C_NoWords) = some false)
    (mr_TooWide_NoWords : PySem.W.mroIn K C_TooWide (.ref C_NoWords) = some false)
    (mr_NoText_NoWords : PySem.W.mroIn K C_NoText (.ref C_NoWords) = some false)
    (mr_NoRow_NoWords : PySem.W.mroIn K C_NoRow (.ref C_NoWords) = some false)
    (mr_CoverError_TooDeep : PySem.W.mroIn K C_CoverError (.ref C_TooDeep) = some false)
    (mr_NoAmount_TooDeep : PySem.W.mroIn K C_NoAmount (.ref C_TooDeep) = some false)
    (mr_NoShares_TooDeep : PySem.W.mroIn K C_NoShares (.ref C_TooDeep) = some false)
    (mr_NoEntry_TooDeep : PySem.W.mroIn K C_NoEntry (.ref C_TooDeep) = some false)
    (mr_NoWords_TooDeep : PySem.W.mroIn K C_NoWords (.ref C_TooDeep) = some false)
    (mr_TooDeep_TooDeep : PySem.W.mroIn K C_TooDeep (.ref C_TooDeep) = some true)
    (mr_NoClause_TooDeep : PySem.W.mroIn K C_NoClause (.ref C_TooDeep) = some false)
    (mr_NoCover_TooDeep : PySem.W.mroIn K C_NoCover (.ref C_TooDeep) = some false)
    (mr_NoBook_TooDeep : PySem.W.mroIn K C_NoBook (.ref C_TooDeep) = some false)
    (mr_Twice_TooDeep : PySem.W.mroIn K C_Twice (.ref C_TooDeep) = some false)
    (mr_Late_TooDeep : PySem.W.mroIn K C_Late (.ref C_TooDeep) = some false)
    (mr_NotTold_TooDeep : PySem.W.mroIn K C_NotTold (.ref C_TooDeep) = some false)
    (mr_TooWide_TooDeep : PySem.W.mroIn K C_TooWide (.ref C_TooDeep) = some false)
    (mr_NoText_TooDeep : PySem.W.mroIn K C_NoText (.ref C_TooDeep) = some false)
    (mr_NoRow_TooDeep : PySem.W.mroIn K C_NoRow (.ref C_TooDeep) = some false)
    (mr_CoverError_NoClause : PySem.W.mroIn K C_CoverError (.ref C_NoClause) = some false)
    (mr_NoAmount_NoClause : PySem.W.mroIn K C_NoAmount (.ref C_NoClause) = some false)
    (mr_NoShares_NoClause : PySem.W.mroIn K C_NoShares (.ref C_NoClause) = some false)
    (mr_NoEntry_NoClause : PySem.W.mroIn K C_NoEntry (.ref C_NoClause) = some false)
    (mr_NoWords_NoClause : PySem.W.mroIn K C_NoWords (.ref C_NoClause) = some false)
    (mr_TooDeep_NoClause : PySem.W.mroIn K C_TooDeep (.ref C_NoClause) = some false)
    (mr_NoClause_NoClause : PySem.W.mroIn K C_NoClause (.ref C_NoClause) = some true)
    (mr_NoCover_NoClause : PySem.W.mroIn K C_NoCover (.ref C_NoClause) = some false)
    (mr_NoBook_NoClause : PySem.W.mroIn K C_NoBook (.ref C_NoClause) = some false)
    (mr_Twice_NoClause : PySem.W.mroIn K C_Twice (.ref C_NoClause) = some false)
    (mr_Late_NoClause : PySem.W.mroIn K C_Late (.ref C_NoClause) = some false)
    (mr_NotTold_NoClause : PySem.W.mroIn K C_NotTold (.ref C_NoClause) = some false)
    (mr_TooWide_NoClause : PySem.W.mroIn K C_TooWide (.ref C_NoClause) = some false)
    (mr_NoText_NoClause : PySem.W.mroIn K C_NoText (.ref C_NoClause) = some false)
    (mr_NoRow_NoClause : PySem.W.mroIn K C_NoRow (.ref C_NoClause) = some false)
    (mr_CoverError_NoCover : PySem.W.mroIn K C_CoverError (.ref C_NoCover) = some false)
    (mr_NoAmount_NoCover : PySem.W.mroIn K C_NoAmount (.ref C_NoCover) = some false)
    (mr_NoShares_NoCover : PySem.W.mroIn K C_NoShares (.ref C_NoCover) = some false)
    (mr_NoEntry_NoCover : PySem.W.mroIn K C_NoEntry (.ref C_NoCover) = some false)
    (mr_NoWords_NoCover : PySem.W.mroIn K C_NoWords (.ref C_NoCover) = some false)
    (mr_TooDeep_NoCover : PySem.W.mroIn K C_TooDeep (.ref C_NoCover) = some false)
    (mr_NoClause_NoCover : PySem.W.mroIn K C_NoClause (.ref C_NoCover) = some false)
    (mr_NoCover_NoCover : PySem.W.mroIn K C_NoCover (.ref C_NoCover) = some true)
    (mr_NoBook_NoCover : PySem.W.mroIn K C_NoBook (.ref C_NoCover) = some false)
    (mr_Twice_NoCover : PySem.W.mroIn K C_Twice (.ref C_NoCover) = some false)
    (mr_Late_NoCover : PySem.W.mroIn K C_Late (.ref C_NoCover) = some false)
    (mr_NotTold_NoCover : PySem.W.mroIn K C_NotTold (.ref C_NoCover) = some false)
    (mr_TooWide_NoCover : PySem.W.mroIn K C_TooWide (.ref C_NoCover) = some false)
    (mr_NoText_NoCover : PySem.W.mroIn K C_NoText (.ref C_NoCover) = some false)
    (mr_NoRow_NoCover : PySem.W.mroIn K C_NoRow (.ref C_NoCover) = some false)
    (mr_CoverError_NoBook : PySem.W.mroIn K C_CoverError (.ref C_NoBook) = some false)
    (mr_NoAmount_NoBook : PySem.W.mroIn K C_NoAmount (.ref C_NoBook) = some false)
    (mr_NoShares_NoBook : PySem.W.mroIn K C_NoShares (.ref C_NoBook) = some false)
    (mr_NoEntry_NoBook : PySem.W.mroIn K C_NoEntry (.ref C_NoBook) = some false)
    (mr_NoWords_NoBook : PySem.W.mroIn K C_NoWords (.ref C_NoBook) = some false)
    (mr_TooDeep_NoBook : PySem.W.mroIn K C_TooDeep (.ref C_NoBook) = some false)
    (mr_NoClause_NoBook : PySem.W.mroIn K C_NoClause (.ref C_NoBook) = some false)
    (mr_NoCover_NoBook : PySem.W.mroIn K C_NoCover (.ref C_NoBook) = some false)
    (mr_NoBook_NoBook : PySem.W.mroIn K C_NoBook (.ref C_NoBook) = some true)
    (mr_Twice_NoBook : PySem.W.mroIn K C_Twice (.ref C_NoBook) = some false)
    (mr_Late_NoBook : PySem.W.mroIn K C_Late (.ref C_NoBook) = some false)
    (mr_NotTold_NoBook : PySem.W.mroIn K C_NotTold (.ref C_NoBook) = some false)
    (mr_TooWide_NoBook : PySem.W.mroIn K C_TooWide (.ref C_NoBook) = some false)
    (mr_NoText_NoBook : PySem.W.mroIn K C_NoText (.ref C_NoBook) = some false)
    (mr_NoRow_NoBook : PySem.W.mroIn K C_NoRow (.ref C_NoBook) = some false)
    (mr_CoverError_Twice : PySem.W.mroIn K C_CoverError (.ref C_Twice) = some false)
    (mr_NoAmount_Twice : PySem.W.mroIn K C_NoAmount (.ref C_Twice) = some false)
    (mr_NoShares_Twice : PySem.W.mroIn K C_NoShares (.ref C_Twice) = some false)
    (mr_NoEntry_Twice : PySem.W.mroIn K C_NoEntry (.ref C_Twice) = some false)
    (mr_NoWords_Twice : PySem.W.mroIn K C_NoWords (.ref C_Twice) = some false)
    (mr_TooDeep_Twice : PySem.W.mroIn K C_TooDeep (.ref C_Twice) = some false)
    (mr_NoClause_Twice : PySem.W.mroIn K C_NoClause (.ref C_Twice) = some false)
    (mr_NoCover_Twice : PySem.W.mroIn K C_NoCover (.ref C_Twice) = some false)
    (mr_NoBook_Twice : PySem.W.mroIn K C_NoBook (.ref C_Twice) = some false)
    (mr_Twice_Twice : PySem.W.mroIn K C_Twice (.ref C_Twice) = some true)
    (mr_Late_Twice : PySem.W.mroIn K C_Late (.ref C_Twice) = some false)
    (mr_NotTold_Twice : PySem.W.mroIn K C_NotTold (.ref C_Twice) = some false)
    (mr_TooWide_Twice : PySem.W.mroIn K C_TooWide (.ref C_Twice) = some false)
    (mr_NoText_Twice : PySem.W.mroIn K C_NoText (.ref C_Twice) = some false)
    (mr_NoRow_Twice : PySem.W.mroIn K C_NoRow (.ref C_Twice) = some false)
    (mr_CoverError_Late : PySem.W.mroIn K C_CoverError (.ref C_Late) = some false)
    (mr_NoAmount_Late : PySem.W.mroIn K C_NoAmount (.ref C_Late) = some false)
    (mr_NoShares_Late : PySem.W.mroIn K C_NoShares (.ref C_Late) = some false)
    (mr_NoEntry_Late : PySem.W.mroIn K C_NoEntry (.ref C_Late) = some false)
    (mr_NoWords_Late : PySem.W.mroIn K C_NoWords (.ref C_Late) = some false)
    (mr_TooDeep_Late : PySem.W.mroIn K C_TooDeep (.ref C_Late) = some false)
    (mr_NoClause_Late : PySem.W.mroIn K C_NoClause (.ref C_Late) = some false)
    (mr_NoCover_Late : PySem.W.mroIn K C_NoCover (.ref C_Late) = some false)
    (mr_NoBook_Late : PySem.W.mroIn K C_NoBook (.ref C_Late) = some false)
    (mr_Twice_Late : PySem.W.mroIn K C_Twice (.ref C_Late) = some false)
    (mr_Late_Late : PySem.W.mroIn K C_Late (.ref C_Late) = some true)
    (mr_NotTold_Late : PySem.W.mroIn K C_NotTold (.ref C_Late) = some false)
    (mr_TooWide_Late : PySem.W.mroIn K C_TooWide (.ref C_Late) = some false)
    (mr_NoText_Late : PySem.W.mroIn K C_NoText (.ref C_Late) = some false)
    (mr_NoRow_Late : PySem.W.mroIn K C_NoRow (.ref C_Late) = some false)
    (mr_CoverError_NotTold : PySem.W.mroIn K C_CoverError (.ref C_NotTold) = some false)
    (mr_NoAmount_NotTold : PySem.W.mroIn K C_NoAmount (.ref C_NotTold) = some false)
    (mr_NoShares_NotTold : PySem.W.mroIn K C_NoShares (.ref C_NotTold) = some false)
    (mr_NoEntry_NotTold : PySem.W.mroIn K C_NoEntry (.ref C_NotTold) = some false)
    (mr_NoWords_NotTold : PySem.W.mroIn K C_NoWords (.ref C_NotTold) = some false)
    (mr_TooDeep_NotTold : PySem.W.mroIn K C_TooDeep (.ref C_NotTold) = some false)
    (mr_NoClause_NotTold : PySem.W.mroIn K C_NoClause (.ref C_NotTold) = some false)
    (mr_NoCover_NotTold : PySem.W.mroIn K C_NoCover (.ref C_NotTold) = some false)
    (mr_NoBook_NotTold : PySem.W.mroIn K C_NoBook (.ref C_NotTold) = some false)
    (mr_Twice_NotTold : PySem.W.mroIn K C_Twice (.ref C_NotTold) = some false)
    (mr_Late_NotTold : PySem.W.mroIn K C_Late (.ref C_NotTold) = some false)
    (mr_NotTold_NotTold : PySem.W.mroIn K C_NotTold (.ref C_NotTold) = some true)
    (mr_TooWide_NotTold : PySem.W.mroIn K C_TooWide (.ref C_NotTold) = some false)
    (mr_NoText_NotTold : PySem.W.mroIn K C_NoText (.ref C_NotTold) = some false)
    (mr_NoRow_NotTold : PySem.W.mroIn K C_NoRow (.ref C_NotTold) = some false)
    (mr_CoverError_TooWide : PySem.W.mroIn K C_CoverError (.ref C_TooWide) = some false)
    (mr_NoAmount_TooWide : PySem.W.mroIn K C_NoAmount (.ref C_TooWide) = some false)
    (mr_NoShares_TooWide : PySem.W.mroIn K C_NoShares (.ref C_TooWide) = some false)
    (mr_NoEntry_TooWide : PySem.W.mroIn K C_NoEntry (.ref C_TooWide) = some false)
    (mr_NoWords_TooWide : PySem.W.mroIn K C_NoWords (.ref C_TooWide) = some false)
    (mr_TooDeep_TooWide : PySem.W.mroIn K C_TooDeep (.ref C_TooWide) = some false)
    (mr_NoClause_TooWide : PySem.W.mroIn K C_NoClause (.ref C_TooWide) = some false)
    (mr_NoCover_TooWide : PySem.W.mroIn K C_NoCover (.ref C_TooWide) = some false)
    (mr_NoBook_TooWide : PySem.W.mroIn K C_NoBook (.ref C_TooWide) = some false)
    (mr_Twice_TooWide : PySem.W.mroIn K C_Twice (.ref C_TooWide) = some false)
    (mr_Late_TooWide : PySem.W.mroIn K C_Late (.ref C_TooWide) = some false)
    (mr_NotTold_TooWide : PySem.W.mroIn K C_NotTold (.ref C_TooWide) = some false)
    (mr_TooWide_TooWide : PySem.W.mroIn K C_TooWide (.ref C_TooWide) = some true)
    (mr_NoText_TooWide : PySem.W.mroIn K C_NoText (.ref C_TooWide) = some false)
    (mr_NoRow_TooWide : PySem.W.mroIn K C_NoRow (.ref C_TooWide) = some false)
    (mr_CoverError_NoText : PySem.W.mroIn K C_CoverError (.ref C_NoText) = some false)
    (mr_NoAmount_NoText : PySem.W.mroIn K C_NoAmount (.ref C_NoText) = some false)
    (mr_NoShares_NoText : PySem.W.mroIn K C_NoShares (.ref C_NoText) = some false)
    (mr_NoEntry_NoText : PySem.W.mroIn K C_NoEntry (.ref C_NoText) = some false)
    (mr_NoWords_NoText : PySem.W.mroIn K C_NoWords (.ref C_NoText) = some false)
    (mr_TooDeep_NoText : PySem.W.mroIn K C_TooDeep (.ref C_NoText) = some false)
    (mr_NoClause_NoText : PySem.W.mroIn K C_NoClause (.ref C_NoText) = some false)
    (mr_NoCover_NoText : PySem.W.mroIn K C_NoCover (.ref C_NoText) = some false)
    (mr_NoBook_NoText : PySem.W.mroIn K C_NoBook (.ref C_NoText) = some false)
    (mr_Twice_NoText : PySem.W.mroIn K C_Twice (.ref C_NoText) = some false)
    (mr_Late_NoText : PySem.W.mroIn K C_Late (.ref C_NoText) = some false)
    (mr_NotTold_NoText : PySem.W.mroIn K C_NotTold (.ref C_NoText) = some false)
    (mr_TooWide_NoText : PySem.W.mroIn K C_TooWide (.ref C_NoText) = some false)
    (mr_NoText_NoText : PySem.W.mroIn K C_NoText (.ref C_NoText) = some true)
    (mr_NoRow_NoText : PySem.W.mroIn K C_NoRow (.ref C_NoText) = some false)
    (mr_CoverError_NoRow : PySem.W.mroIn K C_CoverError (.ref C_NoRow) = some false)
    (mr_NoAmount_NoRow : PySem.W.mroIn K C_NoAmount (.ref C_NoRow) = some false)
    (mr_NoShares_NoRow : PySem.W.mroIn K C_NoShares (.ref C_NoRow) = some false)
    (mr_NoEntry_NoRow : PySem.W.mroIn K C_NoEntry (.ref C_NoRow) = some false)
    (mr_NoWords_NoRow : PySem.W.mroIn K C_NoWords (.ref C_NoRow) = some false)
    (mr_TooDeep_NoRow : PySem.W.mroIn K C_TooDeep (.ref C_NoRow) = some false)
    (mr_NoClause_NoRow : PySem.W.mroIn K C_NoClause (.ref C_NoRow) = some false)
    (mr_NoCover_NoRow : PySem.W.mroIn K C_NoCover (.ref C_NoRow) = some false)
    (mr_NoBook_NoRow : PySem.W.mroIn K C_NoBook (.ref C_NoRow) = some false)
    (mr_Twice_NoRow : PySem.W.mroIn K C_Twice (.ref C_NoRow) = some false)
    (mr_Late_NoRow : PySem.W.mroIn K C_Late (.ref C_NoRow) = some false)
    (mr_NotTold_NoRow : PySem.W.mroIn K C_NotTold (.ref C_NoRow) = some false)
    (mr_TooWide_NoRow : PySem.W.mroIn K C_TooWide (.ref C_NoRow) = some false)
    (mr_NoText_NoRow : PySem.W.mroIn K C_NoText (.ref C_NoRow) = some false)
    (mr_NoRow_NoRow : PySem.W.mroIn K C_NoRow (.ref C_NoRow) = some true)
    (q_rd_CoverError : PySem.W.readsIn K C_CoverError (.type "type") = true)
    (q_ga_CoverError : PySem.W.specialIn K (.ref C_CoverError) "__getattribute__" = some (some (.builtin "type.__getattribute__")))
    (q_vi_CoverError : PySem.W.findCls K (.ref C_CoverError) (.type "type") "__init__" = some (.val (.builtin "ValueError.__init__")))
    (q_xo_NoWords : PySem.W.excInitIn K C_NoWords [.type "ValueError", .type "Exception", .type "BaseException", .type "object"] "ValueError.__new__" = true)
    (q_hd_NoWords : PySem.W.hasDictIn K C_NoWords = true)
    (q_sa_NoWords : PySem.W.findIn K (.ref C_NoWords) "__setattr__" = some (some (.builtin "object.__setattr__")))
    (q_xb_NoWords : PySem.W.subIn K (.ref C_NoWords) (.type "BaseException") = some true)
    (q_xt_NoWords : PySem.W.typeIn K (.ref C_NoWords) = some (.type "type"))
    (q_xk_NoWords : PySem.W.keepIn K (.ref C_NoWords) = true)
    (q_nf_NoWords : PySem.W.findIn K (.ref C_NoWords) "at" = some none)
    (q_xo_Twice : PySem.W.excInitIn K C_Twice [.type "ValueError", .type "Exception", .type "BaseException", .type "object"] "ValueError.__new__" = true)
    (q_hd_Twice : PySem.W.hasDictIn K C_Twice = true)
    (q_sa_Twice : PySem.W.findIn K (.ref C_Twice) "__setattr__" = some (some (.builtin "object.__setattr__")))
    (q_xb_Twice : PySem.W.subIn K (.ref C_Twice) (.type "BaseException") = some true)
    (q_xt_Twice : PySem.W.typeIn K (.ref C_Twice) = some (.type "type"))
    (q_xk_Twice : PySem.W.keepIn K (.ref C_Twice) = true)
    (q_nf_Twice : PySem.W.findIn K (.ref C_Twice) "number" = some none)
    (q_xo_Late : PySem.W.excInitIn K C_Late [.type "ValueError", .type "Exception", .type "BaseException", .type "object"] "ValueError.__new__" = true)
    (q_hd_Late : PySem.W.hasDictIn K C_Late = true)
    (q_sa_Late : PySem.W.findIn K (.ref C_Late) "__setattr__" = some (some (.builtin "object.__setattr__")))
    (q_xb_Late : PySem.W.subIn K (.ref C_Late) (.type "BaseException") = some true)
    (q_xt_Late : PySem.W.typeIn K (.ref C_Late) = some (.type "type"))
    (q_xk_Late : PySem.W.keepIn K (.ref C_Late) = true)
    (q_nf_Late : PySem.W.findIn K (.ref C_Late) "day" = some none)
    (q_xo_NoText : PySem.W.excInitIn K C_NoText [.type "ValueError", .type "Exception", .type "BaseException", .type "object"] "ValueError.__new__" = true)
    (q_hd_NoText : PySem.W.hasDictIn K C_NoText = true)
    (q_sa_NoText : PySem.W.findIn K (.ref C_NoText) "__setattr__" = some (some (.builtin "object.__setattr__")))
    (q_xb_NoText : PySem.W.subIn K (.ref C_NoText) (.type "BaseException") = some true)
    (q_xt_NoText : PySem.W.typeIn K (.ref C_NoText) = some (.type "type"))
    (q_xk_NoText : PySem.W.keepIn K (.ref C_NoText) = true)
    (q_nf_NoText : PySem.W.findIn K (.ref C_NoText) "at" = some none)
    (mr_CoverError_CoverError : PySem.W.mroIn K C_CoverError (.ref C_CoverError) = some true)
    (mr_NoAmount_CoverError : PySem.W.mroIn K C_NoAmount (.ref C_CoverError) = some true)
    (mr_NoShares_CoverError : PySem.W.mroIn K C_NoShares (.ref C_CoverError) = some true)
    (mr_NoEntry_CoverError : PySem.W.mroIn K C_NoEntry (.ref C_CoverError) = some true)
    (mr_NoWords_CoverError : PySem.W.mroIn K C_NoWords (.ref C_CoverError) = some true)
    (mr_TooDeep_CoverError : PySem.W.mroIn K C_TooDeep (.ref C_CoverError) = some true)
    (mr_NoClause_CoverError : PySem.W.mroIn K C_NoClause (.ref C_CoverError) = some true)
    (mr_NoCover_CoverError : PySem.W.mroIn K C_NoCover (.ref C_CoverError) = some true)
    (mr_NoBook_CoverError : PySem.W.mroIn K C_NoBook (.ref C_CoverError) = some true)
    (mr_Twice_CoverError : PySem.W.mroIn K C_Twice (.ref C_CoverError) = some true)
    (mr_Late_CoverError : PySem.W.mroIn K C_Late (.ref C_CoverError) = some true)
    (mr_NotTold_CoverError : PySem.W.mroIn K C_NotTold (.ref C_CoverError) = some true)
    (mr_TooWide_CoverError : PySem.W.mroIn K C_TooWide (.ref C_CoverError) = some true)
    (mr_NoText_CoverError : PySem.W.mroIn K C_NoText (.ref C_CoverError) = some true)
    (mr_NoRow_CoverError : PySem.W.mroIn K C_NoRow (.ref C_CoverError) = some true)
    (mr_CoverError_ValueError : PySem.W.mroIn K C_CoverError (.type "ValueError") = some true)
    (mr_NoAmount_ValueError : PySem.W.mroIn K C_NoAmount (.type "ValueError") = some true)
    (mr_NoShares_ValueError : PySem.W.mroIn K C_NoShares (.type "ValueError") = some true)
    (mr_NoEntry_ValueError : PySem.W.mroIn K C_NoEntry (.type "ValueError") = some true)
    (mr_NoWords_ValueError : PySem.W.mroIn K C_NoWords (.type "ValueError") = some true)
    (mr_TooDeep_ValueError : PySem.W.mroIn K C_TooDeep (.type "ValueError") = some true)
    (mr_NoClause_ValueError : PySem.W.mroIn K C_NoClause (.type "ValueError") = some true)
    (mr_NoCover_ValueError : PySem.W.mroIn K C_NoCover (.type "ValueError") = some true)
    (mr_NoBook_ValueError : PySem.W.mroIn K C_NoBook (.type "ValueError") = some true)
    (mr_Twice_ValueError : PySem.W.mroIn K C_Twice (.type "ValueError") = some true)
    (mr_Late_ValueError : PySem.W.mroIn K C_Late (.type "ValueError") = some true)
    (mr_NotTold_ValueError : PySem.W.mroIn K C_NotTold (.type "ValueError") = some true)
    (mr_TooWide_ValueError : PySem.W.mroIn K C_TooWide (.type "ValueError") = some true)
    (mr_NoText_ValueError : PySem.W.mroIn K C_NoText (.type "ValueError") = some true)
    (mr_NoRow_ValueError : PySem.W.mroIn K C_NoRow (.type "ValueError") = some true)
    (ic_CoverError : PySem.W.isClsIn K C_CoverError = true) (ti_CoverError : PySem.W.typeIn K (.ref C_CoverError) = some (.type "type"))
    (ic_Late : PySem.W.isClsIn K C_Late = true) (ti_Late : PySem.W.typeIn K (.ref C_Late) = some (.type "type"))
    (ic_NoAmount : PySem.W.isClsIn K C_NoAmount = true) (ti_NoAmount : PySem.W.typeIn K (.ref C_NoAmount) = some (.type "type"))
    (ic_NoBook : PySem.W.isClsIn K C_NoBook = true) (ti_NoBook : PySem.W.typeIn K (.ref C_NoBook) = some (.type "type"))
    (ic_NoClause : PySem.W.isClsIn K C_NoClause = true) (ti_NoClause : PySem.W.typeIn K (.ref C_NoClause) = some (.type "type"))
    (ic_NoCover : PySem.W.isClsIn K C_NoCover = true) (ti_NoCover : PySem.W.typeIn K (.ref C_NoCover) = some (.type "type"))
    (ic_NoEntry : PySem.W.isClsIn K C_NoEntry = true) (ti_NoEntry : PySem.W.typeIn K (.ref C_NoEntry) = some (.type "type"))
    (ic_NoRow : PySem.W.isClsIn K C_NoRow = true) (ti_NoRow : PySem.W.typeIn K (.ref C_NoRow) = some (.type "type"))
    (ic_NoShares : PySem.W.isClsIn K C_NoShares = true) (ti_NoShares : PySem.W.typeIn K (.ref C_NoShares) = some (.type "type"))
    (ic_NoText : PySem.W.isClsIn K C_NoText = true) (ti_NoText : PySem.W.typeIn K (.ref C_NoText) = some (.type "type"))
    (ic_NoWords : PySem.W.isClsIn K C_NoWords = true) (ti_NoWords : PySem.W.typeIn K (.ref C_NoWords) = some (.type "type"))
    (ic_NotTold : PySem.W.isClsIn K C_NotTold = true) (ti_NotTold : PySem.W.typeIn K (.ref C_NotTold) = some (.type "type"))
    (ic_TooDeep : PySem.W.isClsIn K C_TooDeep = true) (ti_TooDeep : PySem.W.typeIn K (.ref C_TooDeep) = some (.type "type"))
    (ic_TooWide : PySem.W.isClsIn K C_TooWide = true) (ti_TooWide : PySem.W.typeIn K (.ref C_TooWide) = some (.type "type"))
    (ic_Twice : PySem.W.isClsIn K C_Twice = true) (ti_Twice : PySem.W.typeIn K (.ref C_Twice) = some (.type "type"))
    (z_isinstance : PySem.W.nsIn K mainGlobals "isinstance" = some none)
    (z_len : PySem.W.nsIn K mainGlobals "len" = some none)
    (z_int : PySem.W.nsIn K mainGlobals "int" = some none)
    (z_bool : PySem.W.nsIn K mainGlobals "bool" = some none)
    (z_range : PySem.W.nsIn K mainGlobals "range" = some none)
    (z_str : PySem.W.nsIn K mainGlobals "str" = some none)
    (z_ValueError : PySem.W.nsIn K mainGlobals "ValueError" = some none)
    : ∃ fd : FuncData, (∀ (s : Shared) (v : Value), BindsTo s fd ⟨[v], []⟩ [("_law_script", v)]) ∧ ∀ base : Heap, K.In base → base.Ns mainGlobals mg → FnOk l.prog w K mg base CX0 4 fa fd ["_law_script"] (spLaw K) := by
  have e := hfa.symm.trans (PySem.W.mg_of X G a9)
  cases e
  have q_NoAmount_NoAmount := kit_true ic_NoAmount ti_NoAmount mr_NoAmount_NoAmount
  have q_NoShares_NoShares := kit_true ic_NoShares ti_NoShares mr_NoShares_NoShares
  have q_NoEntry_NoEntry := kit_true ic_NoEntry ti_NoEntry mr_NoEntry_NoEntry
  have q_NoWords_NoWords := kit_true ic_NoWords ti_NoWords mr_NoWords_NoWords
  have q_TooDeep_TooDeep := kit_true ic_TooDeep ti_TooDeep mr_TooDeep_TooDeep
  have q_NoClause_NoClause := kit_true ic_NoClause ti_NoClause mr_NoClause_NoClause
  have q_NoCover_NoCover := kit_true ic_NoCover ti_NoCover mr_NoCover_NoCover
  have q_NoBook_NoBook := kit_true ic_NoBook ti_NoBook mr_NoBook_NoBook
  have q_Twice_Twice := kit_true ic_Twice ti_Twice mr_Twice_Twice
  have q_Late_Late := kit_true ic_Late ti_Late mr_Late_Late
  have q_NotTold_NotTold := kit_true ic_NotTold ti_NotTold mr_NotTold_NotTold
  have q_TooWide_TooWide := kit_true ic_TooWide ti_TooWide mr_TooWide_TooWide
  have q_NoText_NoText := kit_true ic_NoText ti_NoText mr_NoText_NoText
  have q_NoRow_NoRow := kit_true ic_NoRow ti_NoRow mr_NoRow_NoRow
  have q_CoverError_CoverError := kit_true ic_CoverError ti_CoverError mr_CoverError_CoverError
  have q_NoAmount_CoverError := kit_true ic_CoverError ti_CoverError mr_NoAmount_CoverError
  have q_NoShares_CoverError := kit_true ic_CoverError ti_CoverError mr_NoShares_CoverError
  have q_NoEntry_CoverError := kit_true ic_CoverError ti_CoverError mr_NoEntry_CoverError
  have q_NoWords_CoverError := kit_true ic_CoverError ti_CoverError mr_NoWords_CoverError
  have q_TooDeep_CoverError := kit_true ic_CoverError ti_CoverError mr_TooDeep_CoverError
  have q_NoClause_CoverError := kit_true ic_CoverError ti_CoverError mr_NoClause_CoverError
  have q_NoCover_CoverError := kit_true ic_CoverError ti_CoverError mr_NoCover_CoverError
  have q_NoBook_CoverError := kit_true ic_CoverError ti_CoverError mr_NoBook_CoverError
  have q_Twice_CoverError := kit_true ic_CoverError ti_CoverError mr_Twice_CoverError
  have q_Late_CoverError := kit_true ic_CoverError ti_CoverError mr_Late_CoverError
  have q_NotTold_CoverError := kit_true ic_CoverError ti_CoverError mr_NotTold_CoverError
  have q_TooWide_CoverError := kit_true ic_CoverError ti_CoverError mr_TooWide_CoverError
  have q_NoText_CoverError := kit_true ic_CoverError ti_CoverError mr_NoText_CoverError
  have q_NoRow_CoverError := kit_true ic_CoverError ti_CoverError mr_NoRow_CoverError
  have q_CoverError_NoAmount := kit_false ms_CoverError ic_NoAmount ti_NoAmount mr_CoverError_NoAmount
  have q_NoShares_NoAmount := kit_false ms_NoShares ic_NoAmount ti_NoAmount mr_NoShares_NoAmount
  have q_NoEntry_NoAmount := kit_false ms_NoEntry ic_NoAmount ti_NoAmount mr_NoEntry_NoAmount
  have q_NoWords_NoAmount := kit_false ms_NoWords ic_NoAmount ti_NoAmount mr_NoWords_NoAmount
  have q_TooDeep_NoAmount := kit_false ms_TooDeep ic_NoAmount ti_NoAmount mr_TooDeep_NoAmount
  have q_NoClause_NoAmount := kit_false ms_NoClause ic_NoAmount ti_NoAmount mr_NoClause_NoAmount
  have q_NoCover_NoAmount := kit_false ms_NoCover ic_NoAmount ti_NoAmount mr_NoCover_NoAmount
  have q_NoBook_NoAmount := kit_false ms_NoBook ic_NoAmount ti_NoAmount mr_NoBook_NoAmount
  have q_Twice_NoAmount := kit_false ms_Twice ic_NoAmount ti_NoAmount mr_Twice_NoAmount
  have q_Late_NoAmount := kit_false ms_Late ic_NoAmount ti_NoAmount mr_Late_NoAmount
  have q_NotTold_NoAmount := kit_false ms_NotTold ic_NoAmount ti_NoAmount mr_NotTold_NoAmount
  have q_TooWide_NoAmount := kit_false ms_TooWide ic_NoAmount ti_NoAmount mr_TooWide_NoAmount
  have q_NoText_NoAmount := kit_false ms_NoText ic_NoAmount ti_NoAmount mr_NoText_NoAmount
  have q_NoRow_NoAmount := kit_false ms_NoRow ic_NoAmount ti_NoAmount mr_NoRow_NoAmount
  have q_CoverError_NoShares := kit_false ms_CoverError ic_NoShares ti_NoShares mr_CoverError_NoShares
  have q_NoAmount_NoShares := kit_false ms_NoAmount ic_NoShares ti_NoShares mr_NoAmount_NoShares
  have q_NoEntry_NoShares := kit_false ms_NoEntry ic_NoShares ti_NoShares mr_NoEntry_NoShares
  have q_NoWords_NoShares := kit_false ms_NoWords ic_NoShares ti_NoShares mr_NoWords_NoShares
  have q_TooDeep_NoShares := kit_false ms_TooDeep ic_NoShares ti_NoShares mr_TooDeep_NoShares
  have q_NoClause_NoShares := kit_false ms_NoClause ic_NoShares ti_NoShares mr_NoClause_NoShares
  have q_NoCover_NoShares := kit_false ms_NoCover ic_NoShares ti_NoShares mr_NoCover_NoShares
  have q_NoBook_NoShares := kit_false ms_NoBook ic_NoShares ti_NoShares mr_NoBook_NoShares
  have q_Twice_NoShares := kit_false ms_Twice ic_NoShares ti_NoShares mr_Twice_NoShares
  have q_Late_NoShares := kit_false ms_Late ic_NoShares ti_NoShares mr_Late_NoShares
  have q_NotTold_NoShares := kit_false ms_NotTold ic_NoShares ti_NoShares mr_NotTold_NoShares
  have q_TooWide_NoShares := kit_false ms_TooWide ic_NoShares ti_NoShares mr_TooWide_NoShares
  have q_NoText_NoShares := kit_false ms_NoText ic_NoShares ti_NoShares mr_NoText_NoShares
  have q_NoRow_NoShares := kit_false ms_NoRow ic_NoShares ti_NoShares mr_NoRow_NoShares
  have q_CoverError_NoEntry := kit_false ms_CoverError ic_NoEntry ti_NoEntry mr_CoverError_NoEntry
  have q_NoAmount_NoEntry := kit_false ms_NoAmount ic_NoEntry ti_NoEntry mr_NoAmount_NoEntry
  have q_NoShares_NoEntry := kit_false ms_NoShares ic_NoEntry ti_NoEntry mr_NoShares_NoEntry
  have q_NoWords_NoEntry := kit_false ms_NoWords ic_NoEntry ti_NoEntry mr_NoWords_NoEntry
  have q_TooDeep_NoEntry := kit_false ms_TooDeep ic_NoEntry ti_NoEntry mr_TooDeep_NoEntry
  have q_NoClause_NoEntry := kit_false ms_NoClause ic_NoEntry ti_NoEntry mr_NoClause_NoEntry
  have q_NoCover_NoEntry := kit_false ms_NoCover ic_NoEntry ti_NoEntry mr_NoCover_NoEntry
  have q_NoBook_NoEntry := kit_false ms_NoBook ic_NoEntry ti_NoEntry mr_NoBook_NoEntry
  have q_Twice_NoEntry := kit_false ms_Twice ic_NoEntry ti_NoEntry mr_Twice_NoEntry
  have q_Late_NoEntry := kit_false ms_Late ic_NoEntry ti_NoEntry mr_Late_NoEntry
  have q_NotTold_NoEntry := kit_false ms_NotTold ic_NoEntry ti_NoEntry mr_NotTold_NoEntry
  have q_TooWide_NoEntry := kit_false ms_TooWide ic_NoEntry ti_NoEntry mr_TooWide_NoEntry
  have q_NoText_NoEntry := kit_false ms_NoText ic_NoEntry ti_NoEntry mr_NoText_NoEntry
  have q_NoRow_NoEntry := kit_false ms_NoRow ic_NoEntry ti_NoEntry mr_NoRow_NoEntry
  have q_CoverError_NoWords := kit_false ms_CoverError ic_NoWords ti_NoWords mr_CoverError_NoWords
  have q_NoAmount_NoWords := kit_false ms_NoAmount ic_NoWords ti_NoWords mr_NoAmount_NoWords
  have q_NoShares_NoWords := kit_false ms_NoShares ic_NoWords ti_NoWords mr_NoShares_NoWords
  have q_NoEntry_NoWords := kit_false ms_NoEntry ic_NoWords ti_NoWords mr_NoEntry_NoWords
  have q_TooDeep_NoWords := kit_false ms_TooDeep ic_NoWords ti_NoWords mr_TooDeep_NoWords
  have q_NoClause_NoWords := kit_false ms_NoClause ic_NoWords ti_NoWords mr_NoClause_NoWords
  have q_NoCover_NoWords := kit_false ms_NoCover ic_NoWords ti_NoWords mr_NoCover_NoWords
  have q_NoBook_NoWords := kit_false ms_NoBook ic_NoWords ti_NoWords mr_NoBook_NoWords
  have q_Twice_NoWords := kit_false ms_Twice ic_NoWords ti_NoWords mr_Twice_NoWords
  have q_Late_NoWords := kit_false ms_Late ic_NoWords ti_NoWords mr_Late_NoWords
  have q_NotTold_NoWords := kit_false ms_NotTold ic_NoWords ti_NoWords mr_NotTold_NoWords
  have q_TooWide_NoWords := kit_false ms_TooWide ic_NoWords ti_NoWords mr_TooWide_NoWords
  have q_NoText_NoWords := kit_false ms_NoText ic_NoWords ti_NoWords mr_NoText_NoWords
  have q_NoRow_NoWords := kit_false ms_NoRow ic_NoWords ti_NoWords mr_NoRow_NoWords
  have q_CoverError_TooDeep := kit_false ms_CoverError ic_TooDeep ti_TooDeep mr_CoverError_TooDeep
  have q_NoAmount_TooDeep := kit_false ms_NoAmount ic_TooDeep ti_TooDeep mr_NoAmount_TooDeep
  have q_NoShares_TooDeep := kit_false ms_NoShares ic_TooDeep ti_TooDeep mr_NoShares_TooDeep
  have q_NoEntry_TooDeep := kit_false ms_NoEntry ic_TooDeep ti_TooDeep mr_NoEntry_TooDeep
  have q_NoWords_TooDeep := kit_false ms_NoWords ic_TooDeep ti_TooDeep mr_NoWords_TooDeep
  have q_NoClause_TooDeep := kit_false ms_NoClause ic_TooDeep ti_TooDeep mr_NoClause_TooDeep
  have q_NoCover_TooDeep := kit_false ms_NoCover ic_TooDeep ti_TooDeep mr_NoCover_TooDeep
  have q_NoBook_TooDeep := kit_false ms_NoBook ic_TooDeep ti_TooDeep mr_NoBook_TooDeep
  have q_Twice_TooDeep := kit_false ms_Twice ic_TooDeep ti_TooDeep mr_Twice_TooDeep
  have q_Late_TooDeep := kit_false ms_Late ic_TooDeep ti_TooDeep mr_Late_TooDeep
  have q_NotTold_TooDeep := kit_false ms_NotTold ic_TooDeep ti_TooDeep mr_NotTold_TooDeep
  have q_TooWide_TooDeep := kit_false ms_TooWide ic_TooDeep ti_TooDeep mr_TooWide_TooDeep
  have q_NoText_TooDeep := kit_false ms_NoText ic_TooDeep ti_TooDeep mr_NoText_TooDeep
  have q_NoRow_TooDeep := kit_false ms_NoRow ic_TooDeep ti_TooDeep mr_NoRow_TooDeep
  have q_CoverError_NoClause := kit_false ms_CoverError ic_NoClause ti_NoClause mr_CoverError_NoClause
  have q_NoAmount_NoClause := kit_false ms_NoAmount ic_NoClause ti_NoClause mr_NoAmount_NoClause
  have q_NoShares_NoClause := kit_false ms_NoShares ic_NoClause ti_NoClause mr_NoShares_NoClause
  have q_NoEntry_NoClause := kit_false ms_NoEntry ic_NoClause ti_NoClause mr_NoEntry_NoClause
  have q_NoWords_NoClause := kit_false ms_NoWords ic_NoClause ti_NoClause mr_NoWords_NoClause
  have q_TooDeep_NoClause := kit_false ms_TooDeep ic_NoClause ti_NoClause mr_TooDeep_NoClause
  have q_NoCover_NoClause := kit_false ms_NoCover ic_NoClause ti_NoClause mr_NoCover_NoClause
  have q_NoBook_NoClause := kit_false ms_NoBook ic_NoClause ti_NoClause mr_NoBook_NoClause
  have q_Twice_NoClause := kit_false ms_Twice ic_NoClause ti_NoClause mr_Twice_NoClause
  have q_Late_NoClause := kit_false ms_Late ic_NoClause ti_NoClause mr_Late_NoClause
  have q_NotTold_NoClause := kit_false ms_NotTold ic_NoClause ti_NoClause mr_NotTold_NoClause
  have q_TooWide_NoClause := kit_false ms_TooWide ic_NoClause ti_NoClause mr_TooWide_NoClause
  have q_NoText_NoClause := kit_false ms_NoText ic_NoClause ti_NoClause mr_NoText_NoClause
  have q_NoRow_NoClause := kit_false ms_NoRow ic_NoClause ti_NoClause mr_NoRow_NoClause
  have q_CoverError_NoCover := kit_false ms_CoverError ic_NoCover ti_NoCover mr_CoverError_NoCover
  have q_NoAmount_NoCover := kit_false ms_NoAmount ic_NoCover ti_NoCover mr_NoAmount_NoCover
  have q_NoShares_NoCover := kit_false ms_NoShares ic_NoCover ti_NoCover mr_NoShares_NoCover
  have q_NoEntry_NoCover := kit_false ms_NoEntry ic_NoCover ti_NoCover mr_NoEntry_NoCover
  have q_NoWords_NoCover := kit_false ms_NoWords ic_NoCover ti_NoCover mr_NoWords_NoCover
  have q_TooDeep_NoCover := kit_false ms_TooDeep ic_NoCover ti_NoCover mr_TooDeep_NoCover
  have q_NoClause_NoCover := kit_false ms_NoClause ic_NoCover ti_NoCover mr_NoClause_NoCover
  have q_NoBook_NoCover := kit_false ms_NoBook ic_NoCover ti_NoCover mr_NoBook_NoCover
  have q_Twice_NoCover := kit_false ms_Twice ic_NoCover ti_NoCover mr_Twice_NoCover
  have q_Late_NoCover := kit_false ms_Late ic_NoCover ti_NoCover mr_Late_NoCover
  have q_NotTold_NoCover := kit_false ms_NotTold ic_NoCover ti_NoCover mr_NotTold_NoCover
  have q_TooWide_NoCover := kit_false ms_TooWide ic_NoCover ti_NoCover mr_TooWide_NoCover
  have q_NoText_NoCover := kit_false ms_NoText ic_NoCover ti_NoCover mr_NoText_NoCover
  have q_NoRow_NoCover := kit_false ms_NoRow ic_NoCover ti_NoCover mr_NoRow_NoCover
  have q_CoverError_NoBook := kit_false ms_CoverError ic_NoBook ti_NoBook mr_CoverError_NoBook
  have q_NoAmount_NoBook := kit_false ms_NoAmount ic_NoBook ti_NoBook mr_NoAmount_NoBook
  have q_NoShares_NoBook := kit_false ms_NoShares ic_NoBook ti_NoBook mr_NoShares_NoBook
  have q_NoEntry_NoBook := kit_false ms_NoEntry ic_NoBook ti_NoBook mr_NoEntry_NoBook
  have q_NoWords_NoBook := kit_false ms_NoWords ic_NoBook ti_NoBook mr_NoWords_NoBook
  have q_TooDeep_NoBook := kit_false ms_TooDeep ic_NoBook ti_NoBook mr_TooDeep_NoBook
  have q_NoClause_NoBook := kit_false ms_NoClause ic_NoBook ti_NoBook mr_NoClause_NoBook
  have q_NoCover_NoBook := kit_false ms_NoCover ic_NoBook ti_NoBook mr_NoCover_NoBook
  have q_Twice_NoBook := kit_false ms_Twice ic_NoBook ti_NoBook mr_Twice_NoBook
  have q_Late_NoBook := kit_false ms_Late ic_NoBook ti_NoBook mr_Late_NoBook
  have q_NotTold_NoBook := kit_false ms_NotTold ic_NoBook ti_NoBook mr_NotTold_NoBook
  have q_TooWide_NoBook := kit_false ms_TooWide ic_NoBook ti_NoBook mr_TooWide_NoBook
  have q_NoText_NoBook := kit_false ms_NoText ic_NoBook ti_NoBook mr_NoText_NoBook
  have q_NoRow_NoBook := kit_false ms_NoRow ic_NoBook ti_NoBook mr_NoRow_NoBook
  have q_CoverError_Twice := kit_false ms_CoverError ic_Twice ti_Twice mr_CoverError_Twice
  have q_NoAmount_Twice := kit_false ms_NoAmount ic_Twice ti_Twice mr_NoAmount_Twice
  have q_NoShares_Twice := kit_false ms_NoShares ic_Twice ti_Twice mr_NoShares_Twice
  have q_NoEntry_Twice := kit_false ms_NoEntry ic_Twice ti_Twice mr_NoEntry_Twice
  have q_NoWords_Twice := kit_false ms_NoWords ic_Twice ti_Twice mr_NoWords_Twice
  have q_TooDeep_Twice := kit_false ms_TooDeep ic_Twice ti_Twice mr_TooDeep_Twice
  have q_NoClause_Twice := kit_false ms_NoClause ic_Twice ti_Twice mr_NoClause_Twice
  have q_NoCover_Twice := kit_false ms_NoCover ic_Twice ti_Twice mr_NoCover_Twice
  have q_NoBook_Twice := kit_false ms_NoBook ic_Twice ti_Twice mr_NoBook_Twice
  have q_Late_Twice := kit_false ms_Late ic_Twice ti_Twice mr_Late_Twice
  have q_NotTold_Twice := kit_false ms_NotTold ic_Twice ti_Twice mr_NotTold_Twice
  have q_TooWide_Twice := kit_false ms_TooWide ic_Twice ti_Twice mr_TooWide_Twice
  have q_NoText_Twice := kit_false ms_NoText ic_Twice ti_Twice mr_NoText_Twice
  have q_NoRow_Twice := kit_false ms_NoRow ic_Twice ti_Twice mr_NoRow_Twice
  have q_CoverError_Late := kit_false ms_CoverError ic_Late ti_Late mr_CoverError_Late
  have q_NoAmount_Late := kit_false ms_NoAmount ic_Late ti_Late mr_NoAmount_Late
  have q_NoShares_Late := kit_false ms_NoShares ic_Late ti_Late mr_NoShares_Late
  have q_NoEntry_Late := kit_false ms_NoEntry ic_Late ti_Late mr_NoEntry_Late
  have q_NoWords_Late := kit_false ms_NoWords ic_Late ti_Late mr_NoWords_Late
  have q_TooDeep_Late := kit_false ms_TooDeep ic_Late ti_Late mr_TooDeep_Late
  have q_NoClause_Late := kit_false ms_NoClause ic_Late ti_Late mr_NoClause_Late
  have q_NoCover_Late := kit_false ms_NoCover ic_Late ti_Late mr_NoCover_Late
  have q_NoBook_Late := kit_false ms_NoBook ic_Late ti_Late mr_NoBook_Late
  have q_Twice_Late := kit_false ms_Twice ic_Late ti_Late mr_Twice_Late
  have q_NotTold_Late := kit_false ms_NotTold ic_Late ti_Late mr_NotTold_Late
  have q_TooWide_Late := kit_false ms_TooWide ic_Late ti_Late mr_TooWide_Late
  have q_NoText_Late := kit_false ms_NoText ic_Late ti_Late mr_NoText_Late
  have q_NoRow_Late := kit_false ms_NoRow ic_Late ti_Late mr_NoRow_Late
  have q_CoverError_NotTold := kit_false ms_CoverError ic_NotTold ti_NotTold mr_CoverError_NotTold
  have q_NoAmount_NotTold := kit_false ms_NoAmount ic_NotTold ti_NotTold mr_NoAmount_NotTold
  have q_NoShares_NotTold := kit_false ms_NoShares ic_NotTold ti_NotTold mr_NoShares_NotTold
  have q_NoEntry_NotTold := kit_false ms_NoEntry ic_NotTold ti_NotTold mr_NoEntry_NotTold
  have q_NoWords_NotTold := kit_false ms_NoWords ic_NotTold ti_NotTold mr_NoWords_NotTold
  have q_TooDeep_NotTold := kit_false ms_TooDeep ic_NotTold ti_NotTold mr_TooDeep_NotTold
  have q_NoClause_NotTold := kit_false ms_NoClause ic_NotTold ti_NotTold mr_NoClause_NotTold
  have q_NoCover_NotTold := kit_false ms_NoCover ic_NotTold ti_NotTold mr_NoCover_NotTold
  have q_NoBook_NotTold := kit_false ms_NoBook ic_NotTold ti_NotTold mr_NoBook_NotTold
  have q_Twice_NotTold := kit_false ms_Twice ic_NotTold ti_NotTold mr_Twice_NotTold
  have q_Late_NotTold := kit_false ms_Late ic_NotTold ti_NotTold mr_Late_NotTold
  have q_TooWide_NotTold := kit_false ms_TooWide ic_NotTold ti_NotTold mr_TooWide_NotTold
  have q_NoText_NotTold := kit_false ms_NoText ic_NotTold ti_NotTold mr_NoText_NotTold
  have q_NoRow_NotTold := kit_false ms_NoRow ic_NotTold ti_NotTold mr_NoRow_NotTold
  have q_CoverError_TooWide := kit_false ms_CoverError ic_TooWide ti_TooWide mr_CoverError_TooWide
  have q_NoAmount_TooWide := kit_false ms_NoAmount ic_TooWide ti_TooWide mr_NoAmount_TooWide
  have q_NoShares_TooWide := kit_false ms_NoShares ic_TooWide ti_TooWide mr_NoShares_TooWide
  have q_NoEntry_TooWide := kit_false ms_NoEntry ic_TooWide ti_TooWide mr_NoEntry_TooWide
  have q_NoWords_TooWide := kit_false ms_NoWords ic_TooWide ti_TooWide mr_NoWords_TooWide
  have q_TooDeep_TooWide := kit_false ms_TooDeep ic_TooWide ti_TooWide mr_TooDeep_TooWide
  have q_NoClause_TooWide := kit_false ms_NoClause ic_TooWide ti_TooWide mr_NoClause_TooWide
  have q_NoCover_TooWide := kit_false ms_NoCover ic_TooWide ti_TooWide mr_NoCover_TooWide
  have q_NoBook_TooWide := kit_false ms_NoBook ic_TooWide ti_TooWide mr_NoBook_TooWide
  have q_Twice_TooWide := kit_false ms_Twice ic_TooWide ti_TooWide mr_Twice_TooWide
  have q_Late_TooWide := kit_false ms_Late ic_TooWide ti_TooWide mr_Late_TooWide
  have q_NotTold_TooWide := kit_false ms_NotTold ic_TooWide ti_TooWide mr_NotTold_TooWide
  have q_NoText_TooWide := kit_false ms_NoText ic_TooWide ti_TooWide mr_NoText_TooWide
  have q_NoRow_TooWide := kit_false ms_NoRow ic_TooWide ti_TooWide mr_NoRow_TooWide
  have q_CoverError_NoText := kit_false ms_CoverError ic_NoText ti_NoText mr_CoverError_NoText
  have q_NoAmount_NoText := kit_false ms_NoAmount ic_NoText ti_NoText mr_NoAmount_NoText
  have q_NoShares_NoText := kit_false ms_NoShares ic_NoText ti_NoText mr_NoShares_NoText
  have q_NoEntry_NoText := kit_false ms_NoEntry ic_NoText ti_NoText mr_NoEntry_NoText
  have q_NoWords_NoText := kit_false ms_NoWords ic_NoText ti_NoText mr_NoWords_NoText
  have q_TooDeep_NoText := kit_false ms_TooDeep ic_NoText ti_NoText mr_TooDeep_NoText
  have q_NoClause_NoText := kit_false ms_NoClause ic_NoText ti_NoText mr_NoClause_NoText
  have q_NoCover_NoText := kit_false ms_NoCover ic_NoText ti_NoText mr_NoCover_NoText
  have q_NoBook_NoText := kit_false ms_NoBook ic_NoText ti_NoText mr_NoBook_NoText
  have q_Twice_NoText := kit_false ms_Twice ic_NoText ti_NoText mr_Twice_NoText
  have q_Late_NoText := kit_false ms_Late ic_NoText ti_NoText mr_Late_NoText
  have q_NotTold_NoText := kit_false ms_NotTold ic_NoText ti_NoText mr_NotTold_NoText
  have q_TooWide_NoText := kit_false ms_TooWide ic_NoText ti_NoText mr_TooWide_NoText
  have q_NoRow_NoText := kit_false ms_NoRow ic_NoText ti_NoText mr_NoRow_NoText
  have q_CoverError_NoRow := kit_false ms_CoverError ic_NoRow ti_NoRow mr_CoverError_NoRow
  have q_NoAmount_NoRow := kit_false ms_NoAmount ic_NoRow ti_NoRow mr_NoAmount_NoRow
  have q_NoShares_NoRow := kit_false ms_NoShares ic_NoRow ti_NoRow mr_NoShares_NoRow
  have q_NoEntry_NoRow := kit_false ms_NoEntry ic_NoRow ti_NoRow mr_NoEntry_NoRow
  have q_NoWords_NoRow := kit_false ms_NoWords ic_NoRow ti_NoRow mr_NoWords_NoRow
  have q_TooDeep_NoRow := kit_false ms_TooDeep ic_NoRow ti_NoRow mr_TooDeep_NoRow
  have q_NoClause_NoRow := kit_false ms_NoClause ic_NoRow ti_NoRow mr_NoClause_NoRow
  have q_NoCover_NoRow := kit_false ms_NoCover ic_NoRow ti_NoRow mr_NoCover_NoRow
  have q_NoBook_NoRow := kit_false ms_NoBook ic_NoRow ti_NoRow mr_NoBook_NoRow
  have q_Twice_NoRow := kit_false ms_Twice ic_NoRow ti_NoRow mr_Twice_NoRow
  have q_Late_NoRow := kit_false ms_Late ic_NoRow ti_NoRow mr_Late_NoRow
  have q_NotTold_NoRow := kit_false ms_NotTold ic_NoRow ti_NoRow mr_NotTold_NoRow
  have q_TooWide_NoRow := kit_false ms_TooWide ic_NoRow ti_NoRow mr_TooWide_NoRow
  have q_NoText_NoRow := kit_false ms_NoText ic_NoRow ti_NoRow mr_NoText_NoRow
  have q_CoverError_ValueError : PySem.W.kitOne K (.ref C_CoverError) (.type "ValueError") = some true := kit_ty (by decide +kernel) mr_CoverError_ValueError
  have q_NoAmount_ValueError : PySem.W.kitOne K (.ref C_NoAmount) (.type "ValueError") = some true := kit_ty (by decide +kernel) mr_NoAmount_ValueError
  have q_NoShares_ValueError : PySem.W.kitOne K (.ref C_NoShares) (.type "ValueError") = some true := kit_ty (by decide +kernel) mr_NoShares_ValueError
  have q_NoEntry_ValueError : PySem.W.kitOne K (.ref C_NoEntry) (.type "ValueError") = some true := kit_ty (by decide +kernel) mr_NoEntry_ValueError
  have q_NoWords_ValueError : PySem.W.kitOne K (.ref C_NoWords) (.type "ValueError") = some true := kit_ty (by decide +kernel) mr_NoWords_ValueError
  have q_TooDeep_ValueError : PySem.W.kitOne K (.ref C_TooDeep) (.type "ValueError") = some true := kit_ty (by decide +kernel) mr_TooDeep_ValueError
  have q_NoClause_ValueError : PySem.W.kitOne K (.ref C_NoClause) (.type "ValueError") = some true := kit_ty (by decide +kernel) mr_NoClause_ValueError
  have q_NoCover_ValueError : PySem.W.kitOne K (.ref C_NoCover) (.type "ValueError") = some true := kit_ty (by decide +kernel) mr_NoCover_ValueError
  have q_NoBook_ValueError : PySem.W.kitOne K (.ref C_NoBook) (.type "ValueError") = some true := kit_ty (by decide +kernel) mr_NoBook_ValueError
  have q_Twice_ValueError : PySem.W.kitOne K (.ref C_Twice) (.type "ValueError") = some true := kit_ty (by decide +kernel) mr_Twice_ValueError
  have q_Late_ValueError : PySem.W.kitOne K (.ref C_Late) (.type "ValueError") = some true := kit_ty (by decide +kernel) mr_Late_ValueError
  have q_NotTold_ValueError : PySem.W.kitOne K (.ref C_NotTold) (.type "ValueError") = some true := kit_ty (by decide +kernel) mr_NotTold_ValueError
  have q_TooWide_ValueError : PySem.W.kitOne K (.ref C_TooWide) (.type "ValueError") = some true := kit_ty (by decide +kernel) mr_TooWide_ValueError
  have q_NoText_ValueError : PySem.W.kitOne K (.ref C_NoText) (.type "ValueError") = some true := kit_ty (by decide +kernel) mr_NoText_ValueError
  have q_NoRow_ValueError : PySem.W.kitOne K (.ref C_NoRow) (.type "ValueError") = some true := kit_ty (by decide +kernel) mr_NoRow_ValueError
  have z_isinstance := PySem.W.mg_none_of X G z_isinstance
  have z_len := PySem.W.mg_none_of X G z_len
  have z_int := PySem.W.mg_none_of X G z_int
  have z_bool := PySem.W.mg_none_of X G z_bool
  have z_range := PySem.W.mg_none_of X G z_range
  have z_str := PySem.W.mg_none_of X G z_str
  have z_ValueError := PySem.W.mg_none_of X G z_ValueError
  have F0 := fun_mk (st := s__law_flags) l0 c0 k0
  have b0 := F0.binds (ps := ["_law_e"]) fun _ _ _ _ _ _ us hl => match us, hl with | [_], _ => rfl
  have F1 := fun_mk (st := s__law_cell) l1 c1 k1
  have b1 := F1.binds (ps := ["_law_script", "_law_k"]) fun _ _ _ _ _ _ us hl => match us, hl with | [_, _], _ => rfl
  have F2 := fun_mk (st := s_NoWords___init__) l2 c2 k2
  have b2 := F2.binds (ps := ["self", "at"]) fun _ _ _ _ _ _ us hl => match us, hl with | [_, _], _ => rfl
  have F3 := fun_mk (st := s_Twice___init__) l3 c3 k3
  have b3 := F3.binds (ps := ["self", "number"]) fun _ _ _ _ _ _ us hl => match us, hl with | [_, _], _ => rfl
  have F4 := fun_mk (st := s_Late___init__) l4 c4 k4
  have b4 := F4.binds (ps := ["self", "day"]) fun _ _ _ _ _ _ us hl => match us, hl with | [_, _], _ => rfl
  have F5 := fun_mk (st := s_NoText___init__) l5 c5 k5
  have b5 := F5.binds (ps := ["self", "at"]) fun _ _ _ _ _ _ us hl => match us, hl with | [_, _], _ => rfl
  have F6 := fun_mk (st := s__law_made) l6 c6 k6
  have b6 := F6.binds (ps := ["_law_k", "_law_word", "_law_number"]) fun _ _ _ _ _ _ us hl => match us, hl with | [_, _, _], _ => rfl
  have F7 := fun_mk (st := s__law_whole) l7 c7 k7
  have b7 := F7.binds (ps := ["_law_found"]) fun _ _ _ _ _ _ us hl => match us, hl with | [_], _ => rfl
  have F8 := fun_mk (st := s__law_kept) l8 c8 k8
  have b8 := F8.binds (ps := ["_law_k", "_law_e", "_law_number"]) fun _ _ _ _ _ _ us hl => match us, hl with | [_, _, _], _ => rfl
  have F9 := fun_mk (st := s_law) l9 c9 k9
  refine ⟨PySem.W.fnOf "law" "law" (defArgs s_law) (defBody s_law) (defScope s_law) .none kV9 dc9 pm9 an9 cd9 ct9, fun s v => .of_eq rfl, fun base _ _ => ?_⟩
  have n__law_flags : Fn1 l.prog w K mg base "_law_flags" 1 ["_law_e"] (sp__law_flags K C_CoverError C_NoAmount C_NoShares C_NoEntry C_NoWords C_TooDeep C_NoClause C_NoCover C_NoBook C_Twice C_Late C_NotTold C_TooWide C_NoText C_NoRow) := ⟨_, _, PySem.W.mg_of X G a0, k0, b0, ok__law_flags F0 z_isinstance (PySem.W.mg_of X G a_NoAmount) ⟨xg_CoverError, xh_CoverError, xb_CoverError, xd_CoverError, xa_CoverError, xn0, xt0, xm_CoverError⟩ q_CoverError_NoAmount ⟨xg_NoAmount, xh_NoAmount, xb_NoAmount, xd_NoAmount, xa_NoAmount, xn0, xt0, xm_NoAmount⟩ q_NoAmount_NoAmount ⟨xg_NoShares, xh_NoShares, xb_NoShares, xd_NoShares, xa_NoShares, xn0, xt0, xm_NoShares⟩ q_NoShares_NoAmount ⟨xg_NoEntry, xh_NoEntry, xb_NoEntry, xd_NoEntry, xa_NoEntry, xn0, xt0, xm_NoEntry⟩ q_NoEntry_NoAmount ⟨xg_NoWords, xh_NoWords, xb_NoWords, xd_NoWords, xa_NoWords, xn0, xt0, xm_NoWords⟩ q_NoWords_NoAmount ⟨xg_TooDeep, xh_TooDeep, xb_TooDeep, xd_TooDeep, xa_TooDeep, xn0, xt0, xm_TooDeep⟩ q_TooDeep_NoAmount ⟨xg_NoClause, xh_NoClause, xb_NoClause, xd_NoClause, xa_NoClause, xn0, xt0, xm_NoClause⟩ q_NoClause_NoAmount ⟨xg_NoCover, xh_NoCover, xb_NoCover, xd_NoCover, xa_NoCover, xn0, xt0, xm_NoCover⟩ q_NoCover_NoAmount ⟨xg_NoBook, xh_NoBook, xb_NoBook, xd_NoBook, xa_NoBook, xn0, xt0, xm_NoBook⟩ q_NoBook_NoAmount ⟨xg_Twice, xh_Twice, xb_Twice, xd_Twice, xa_Twice, xn0, xt0, xm_Twice⟩ q_Twice_NoAmount ⟨xg_Late, xh_Late, xb_Late, xd_Late, xa_Late, xn0, xt0, xm_Late⟩ q_Late_NoAmount ⟨xg_NotTold, xh_NotTold, xb_NotTold, xd_NotTold, xa_NotTold, xn0, xt0, xm_NotTold⟩ q_NotTold_NoAmount ⟨xg_TooWide, xh_TooWide, xb_TooWide, xd_TooWide, xa_TooWide, xn0, xt0, xm_TooWide⟩ q_TooWide_NoAmount ⟨xg_NoText, xh_NoText, xb_NoText, xd_NoText, xa_NoText, xn0, xt0, xm_NoText⟩ q_NoText_NoAmount ⟨xg_NoRow, xh_NoRow, xb_NoRow, xd_NoRow, xa_NoRow, xn0, xt0, xm_NoRow⟩ q_NoRow_NoAmount (PySem.W.mg_of X G a_NoShares) q_CoverError_NoShares q_NoAmount_NoShares q_NoShares_NoShares q_NoEntry_NoShares q_NoWords_NoShares q_TooDeep_NoShares q_NoClause_NoShares q_NoCover_NoShares q_NoBook_NoShares q_Twice_NoShares q_Late_NoShares q_NotTold_NoShares q_TooWide_NoShares q_NoText_NoShares q_NoRow_NoShares (PySem.W.mg_of X G a_NoEntry) q_CoverError_NoEntry q_NoAmount_NoEntry q_NoShares_NoEntry q_NoEntry_NoEntry q_NoWords_NoEntry q_TooDeep_NoEntry q_NoClause_NoEntry q_NoCover_NoEntry q_NoBook_NoEntry q_Twice_NoEntry q_Late_NoEntry q_NotTold_NoEntry q_TooWide_NoEntry q_NoText_NoEntry q_NoRow_NoEntry (PySem.W.mg_of X G a_NoWords) q_CoverError_NoWords q_NoAmount_NoWords q_NoShares_NoWords q_NoEntry_NoWords q_NoWords_NoWords q_TooDeep_NoWords q_NoClause_NoWords q_NoCover_NoWords q_NoBook_NoWords q_Twice_NoWords q_Late_NoWords q_NotTold_NoWords q_TooWide_NoWords q_NoText_NoWords q_NoRow_NoWords (PySem.W.mg_of X G a_TooDeep) q_CoverError_TooDeep q_NoAmount_TooDeep q_NoShares_TooDeep q_NoEntry_TooDeep q_NoWords_TooDeep q_TooDeep_TooDeep q_NoClause_TooDeep q_NoCover_TooDeep q_NoBook_TooDeep q_Twice_TooDeep q_Late_TooDeep q_NotTold_TooDeep q_TooWide_TooDeep q_NoText_TooDeep q_NoRow_TooDeep (PySem.W.mg_of X G a_NoClause) q_CoverError_NoClause q_NoAmount_NoClause q_NoShares_NoClause q_NoEntry_NoClause q_NoWords_NoClause q_TooDeep_NoClause q_NoClause_NoClause q_NoCover_NoClause q_NoBook_NoClause q_Twice_NoClause q_Late_NoClause q_NotTold_NoClause q_TooWide_NoClause q_NoText_NoClause q_NoRow_NoClause (PySem.W.mg_of X G a_NoCover) q_CoverError_NoCover q_NoAmount_NoCover q_NoShares_NoCover q_NoEntry_NoCover q_NoWords_NoCover q_TooDeep_NoCover q_NoClause_NoCover q_NoCover_NoCover q_NoBook_NoCover q_Twice_NoCover q_Late_NoCover q_NotTold_NoCover q_TooWide_NoCover q_NoText_NoCover q_NoRow_NoCover (PySem.W.mg_of X G a_NoBook) q_CoverError_NoBook q_NoAmount_NoBook q_NoShares_NoBook q_NoEntry_NoBook q_NoWords_NoBook q_TooDeep_NoBook q_NoClause_NoBook q_NoCover_NoBook q_NoBook_NoBook q_Twice_NoBook q_Late_NoBook q_NotTold_NoBook q_TooWide_NoBook q_NoText_NoBook q_NoRow_NoBook (PySem.W.mg_of X G a_Twice) q_CoverError_Twice q_NoAmount_Twice q_NoShares_Twice q_NoEntry_Twice q_NoWords_Twice q_TooDeep_Twice q_NoClause_Twice q_NoCover_Twice q_NoBook_Twice q_Twice_Twice q_Late_Twice q_NotTold_Twice q_TooWide_Twice q_NoText_Twice q_NoRow_Twice (PySem.W.mg_of X G a_Late) q_CoverError_Late q_NoAmount_Late q_NoShares_Late q_NoEntry_Late q_NoWords_Late q_TooDeep_Late q_NoClause_Late q_NoCover_Late q_NoBook_Late q_Twice_Late q_Late_Late q_NotTold_Late q_TooWide_Late q_NoText_Late q_NoRow_Late (PySem.W.mg_of X G a_NotTold) q_CoverError_NotTold q_NoAmount_NotTold q_NoShares_NotTold q_NoEntry_NotTold q_NoWords_NotTold q_TooDeep_NotTold q_NoClause_NotTold q_NoCover_NotTold q_NoBook_NotTold q_Twice_NotTold q_Late_NotTold q_NotTold_NotTold q_TooWide_NotTold q_NoText_NotTold q_NoRow_NotTold (PySem.W.mg_of X G a_TooWide) q_CoverError_TooWide q_NoAmount_TooWide q_NoShares_TooWide q_NoEntry_TooWide q_NoWords_TooWide q_TooDeep_TooWide q_NoClause_TooWide q_NoCover_TooWide q_NoBook_TooWide q_Twice_TooWide q_Late_TooWide q_NotTold_TooWide q_TooWide_TooWide q_NoText_TooWide q_NoRow_TooWide (PySem.W.mg_of X G a_NoText) q_CoverError_NoText q_NoAmount_NoText q_NoShares_NoText q_NoEntry_NoText q_NoWords_NoText q_TooDeep_NoText q_NoClause_NoText q_NoCover_NoText q_NoBook_NoText q_Twice_NoText q_Late_NoText q_NotTold_NoText q_TooWide_NoText q_NoText_NoText q_NoRow_NoText (PySem.W.mg_of X G a_NoRow) q_CoverError_NoRow q_NoAmount_NoRow q_NoShares_NoRow q_NoEntry_NoRow q_NoWords_NoRow q_TooDeep_NoRow q_NoClause_NoRow q_NoCover_NoRow q_NoBook_NoRow q_Twice_NoRow q_Late_NoRow q_NotTold_NoRow q_TooWide_NoRow q_NoText_NoRow q_NoRow_NoRow⟩
  have n__law_cell : Fn1 l.prog w K mg base "_law_cell" 1 ["_law_script", "_law_k"] (sp__law_cell K) := ⟨_, _, PySem.W.mg_of X G a1, k1, b1, ok__law_cell F1 z_len⟩
  have o_NoWords___init__ := ok_NoWords___init__ (P := l.prog) (w := w) (mg := mg) (base := base)  F2 (PySem.W.mg_of X G a_CoverError) q_rd_CoverError q_ga_CoverError q_vi_CoverError q_xo_NoWords q_hd_NoWords q_sa_NoWords q_xb_NoWords q_xt_NoWords q_xk_NoWords q_nf_NoWords
  have nj_NoWords : XiC l.prog w K mg base "NoWords" C_NoWords "at" 1 ["self", "at"] := ⟨oexB_ok q_xo_NoWords q_hd_NoWords q_sa_NoWords q_xb_NoWords q_xt_NoWords q_xk_NoWords, q_nf_NoWords, PySem.W.mg_of X G a_NoWords, _, _, a2, tf2, b2, o_NoWords___init__⟩
  have o_Twice___init__ := ok_Twice___init__ (P := l.prog) (w := w) (mg := mg) (base := base)  F3 (PySem.W.mg_of X G a_CoverError) q_rd_CoverError q_ga_CoverError q_vi_CoverError q_xo_Twice q_hd_Twice q_sa_Twice q_xb_Twice q_xt_Twice q_xk_Twice q_nf_Twice
  have nj_Twice : XiC l.prog w K mg base "Twice" C_Twice "number" 1 ["self", "number"] := ⟨oexB_ok q_xo_Twice q_hd_Twice q_sa_Twice q_xb_Twice q_xt_Twice q_xk_Twice, q_nf_Twice, PySem.W.mg_of X G a_Twice, _, _, a3, tf3, b3, o_Twice___init__⟩
  have o_Late___init__ := ok_Late___init__ (P := l.prog) (w := w) (mg := mg) (base := base)  F4 (PySem.W.mg_of X G a_CoverError) q_rd_CoverError q_ga_CoverError q_vi_CoverError q_xo_Late q_hd_Late q_sa_Late q_xb_Late q_xt_Late q_xk_Late q_nf_Late
  have nj_Late : XiC l.prog w K mg base "Late" C_Late "day" 1 ["self", "day"] := ⟨oexB_ok q_xo_Late q_hd_Late q_sa_Late q_xb_Late q_xt_Late q_xk_Late, q_nf_Late, PySem.W.mg_of X G a_Late, _, _, a4, tf4, b4, o_Late___init__⟩
  have o_NoText___init__ := ok_NoText___init__ (P := l.prog) (w := w) (mg := mg) (base := base)  F5 (PySem.W.mg_of X G a_CoverError) q_rd_CoverError q_ga_CoverError q_vi_CoverError q_xo_NoText q_hd_NoText q_sa_NoText q_xb_NoText q_xt_NoText q_xk_NoText q_nf_NoText
  have nj_NoText : XiC l.prog w K mg base "NoText" C_NoText "at" 1 ["self", "at"] := ⟨oexB_ok q_xo_NoText q_hd_NoText q_sa_NoText q_xb_NoText q_xt_NoText q_xk_NoText, q_nf_NoText, PySem.W.mg_of X G a_NoText, _, _, a5, tf5, b5, o_NoText___init__⟩
  have n__law_made : Fn1 l.prog w K mg base "_law_made" 3 ["_law_k", "_law_word", "_law_number"] (sp__law_made K C_CoverError C_NoAmount C_NoShares C_NoEntry C_NoWords C_TooDeep C_NoClause C_NoCover C_NoBook C_Twice C_Late C_NotTold C_TooWide C_NoText C_NoRow) := ⟨_, _, PySem.W.mg_of X G a6, k6, b6, ok__law_made F6 nj_NoWords nj_Twice nj_Late nj_NoText ⟨xq_NoAmount, PySem.W.mg_of X G a_NoAmount, xk_NoAmount, xb_NoAmount, xt_NoAmount⟩ ⟨xq_NoShares, PySem.W.mg_of X G a_NoShares, xk_NoShares, xb_NoShares, xt_NoShares⟩ ⟨xq_NoEntry, PySem.W.mg_of X G a_NoEntry, xk_NoEntry, xb_NoEntry, xt_NoEntry⟩ ⟨xq_TooDeep, PySem.W.mg_of X G a_TooDeep, xk_TooDeep, xb_TooDeep, xt_TooDeep⟩ ⟨xq_NoClause, PySem.W.mg_of X G a_NoClause, xk_NoClause, xb_NoClause, xt_NoClause⟩ ⟨xq_NoCover, PySem.W.mg_of X G a_NoCover, xk_NoCover, xb_NoCover, xt_NoCover⟩ ⟨xq_NoBook, PySem.W.mg_of X G a_NoBook, xk_NoBook, xb_NoBook, xt_NoBook⟩ ⟨xq_NotTold, PySem.W.mg_of X G a_NotTold, xk_NotTold, xb_NotTold, xt_NotTold⟩ ⟨xq_TooWide, PySem.W.mg_of X G a_TooWide, xk_TooWide, xb_TooWide, xt_TooWide⟩ ⟨xq_NoRow, PySem.W.mg_of X G a_NoRow, xk_NoRow, xb_NoRow, xt_NoRow⟩⟩
  have n__law_whole : Fn1 l.prog w K mg base "_law_whole" 1 ["_law_found"] (sp__law_whole K) := ⟨_, _, PySem.W.mg_of X G a7, k7, b7, ok__law_whole F7 z_isinstance z_int z_bool⟩
  have n__law_kept : Fn1 l.prog w K mg base "_law_kept" 2 ["_law_k", "_law_e", "_law_number"] (sp__law_kept K C_CoverError C_NoAmount C_NoShares C_NoEntry C_NoWords C_TooDeep C_NoClause C_NoCover C_NoBook C_Twice C_Late C_NotTold C_TooWide C_NoText C_NoRow) := ⟨_, _, PySem.W.mg_of X G a8, k8, b8, ok__law_kept F8 ⟨xg_NoWords, xh_NoWords, xb_NoWords, xd_NoWords⟩ q_nf_NoWords ⟨xg_NoText, xh_NoText, xb_NoText, xd_NoText⟩ q_nf_NoText ⟨xg_Twice, xh_Twice, xb_Twice, xd_Twice⟩ q_nf_Twice ⟨xg_Late, xh_Late, xb_Late, xd_Late⟩ q_nf_Late n__law_whole⟩
  exact ok_law F9 z_range z_str z_isinstance z_ValueError ⟨xq_CoverError, PySem.W.mg_of X G a_CoverError, xk_CoverError, xb_CoverError, xt_CoverError⟩ n__law_flags n__law_cell n__law_made (PySem.W.mg_of X G a_CoverError) ⟨xg_CoverError, xh_CoverError, xb_CoverError, xd_CoverError, xa_CoverError, xn0, xt0, xm_CoverError⟩ q_CoverError_CoverError ⟨xg_NoAmount, xh_NoAmount, xb_NoAmount, xd_NoAmount, xa_NoAmount, xn0, xt0, xm_NoAmount⟩ q_NoAmount_CoverError ⟨xg_NoShares, xh_NoShares, xb_NoShares, xd_NoShares, xa_NoShares, xn0, xt0, xm_NoShares⟩ q_NoShares_CoverError ⟨xg_NoEntry, xh_NoEntry, xb_NoEntry, xd_NoEntry, xa_NoEntry, xn0, xt0, xm_NoEntry⟩ q_NoEntry_CoverError ⟨xg_NoWords, xh_NoWords, xb_NoWords, xd_NoWords, xa_NoWords, xn0, xt0, xm_NoWords⟩ q_NoWords_CoverError ⟨xg_TooDeep, xh_TooDeep, xb_TooDeep, xd_TooDeep, xa_TooDeep, xn0, xt0, xm_TooDeep⟩ q_TooDeep_CoverError ⟨xg_NoClause, xh_NoClause, xb_NoClause, xd_NoClause, xa_NoClause, xn0, xt0, xm_NoClause⟩ q_NoClause_CoverError ⟨xg_NoCover, xh_NoCover, xb_NoCover, xd_NoCover, xa_NoCover, xn0, xt0, xm_NoCover⟩ q_NoCover_CoverError ⟨xg_NoBook, xh_NoBook, xb_NoBook, xd_NoBook, xa_NoBook, xn0, xt0, xm_NoBook⟩ q_NoBook_CoverError ⟨xg_Twice, xh_Twice, xb_Twice, xd_Twice, xa_Twice, xn0, xt0, xm_Twice⟩ q_Twice_CoverError ⟨xg_Late, xh_Late, xb_Late, xd_Late, xa_Late, xn0, xt0, xm_Late⟩ q_Late_CoverError ⟨xg_NotTold, xh_NotTold, xb_NotTold, xd_NotTold, xa_NotTold, xn0, xt0, xm_NotTold⟩ q_NotTold_CoverError ⟨xg_TooWide, xh_TooWide, xb_TooWide, xd_TooWide, xa_TooWide, xn0, xt0, xm_TooWide⟩ q_TooWide_CoverError ⟨xg_NoText, xh_NoText, xb_NoText, xd_NoText, xa_NoText, xn0, xt0, xm_NoText⟩ q_NoText_CoverError ⟨xg_NoRow, xh_NoRow, xb_NoRow, xd_NoRow, xa_NoRow, xn0, xt0, xm_NoRow⟩ q_NoRow_CoverError q_CoverError_ValueError q_NoAmount_ValueError q_NoShares_ValueError q_NoEntry_ValueError q_NoWords_ValueError q_TooDeep_ValueError q_NoClause_ValueError q_NoCover_ValueError q_NoBook_ValueError q_Twice_ValueError q_Late_ValueError q_NotTold_ValueError q_TooWide_ValueError q_NoText_ValueError q_NoRow_ValueError n__law_kept
theorem walk {l : PySem.W.OpenLaw} {q : Program} {loose : List Str} {XP : (Str → Option Value) → Heap → Prop} {YP : World → Heap → Prop} {d : DefRec} {K : Params → PySem.W.Frag} (hn : l.most = some 63) (hdf : d.params.defaults = [])
    (hY : ∀ (w : World) (h : Heap), YP w h → (K w.params).In h)
    (F : ∀ (w : World) (mg : Str → Option Value) (fa : Addr) (h : Heap), (K w.params).In h → h.Ns mainGlobals mg → mg d.name = some (.ref fa) →
      ∃ fd : FuncData, (∀ (s : Shared) (u : Value), BindsTo s fd ⟨[u], []⟩ [("_law_script", u)]) ∧ ∀ base : Heap, (K w.params).In base → base.Ns mainGlobals mg → FnOk l.prog w (K w.params) mg base CX0 4 fa fd ["_law_script"] (spLaw (K w.params))) :
    PySem.W.WalkO q loose XP YP l.row.toRowW d [] (fun f vs => PySem.call f vs) :=
  L2.walk_of (n := 63) (k := 4) (x := "_law_script") (CX := fun _ => CX0) (sp := fun w => spLaw (K w.params)) hn (by decide) hdf ⟨rfl, by decide, by decide⟩ hY F (fun _ H a ns hl _ hS => spLaw_of hS hl) fun _ _ _ _ _ z => z
end K19

open PySem PySem.W PyProof.Rows in
set_option maxRecDepth 100000 in
set_option maxHeartbeats 0 in
theorem PySem.Challenge.cw_coverroll_k19_refusals_apart_holds : PySem.Challenge.rw_coverroll_k19_refusals_apart.Holds := by
  w_on; o_law; k_head; (case hw => w_witness2)
  k_fill
  refine K19.walk (l := PySem.Challenge.rw_coverroll_k19_refusals_apart) rfl rfl (fun w h Y => PySem.W.kIn_of Y) ?F
  case F =>
    intro w mg fa h KX G hmg
    refine' K19.all_mk KX G hmg ?a_NoAmount ?a_NoShares ?a_NoEntry ?a_NoWords ?a_TooDeep ?a_NoClause ?a_NoCover ?a_NoBook ?a_Twice ?a_Late ?a_NotTold ?a_TooWide ?a_NoText ?a_NoRow ?a_CoverError ?xq_NoAmount ?xk_NoAmount ?xb_NoAmount ?xt_NoAmount ?xq_NoShares ?xk_NoShares ?xb_NoShares ?xt_NoShares ?xq_NoEntry ?xk_NoEntry ?xb_NoEntry ?xt_NoEntry ?xq_TooDeep ?xk_TooDeep ?xb_TooDeep ?xt_TooDeep ?xq_NoClause ?xk_NoClause ?xb_NoClause ?xt_NoClause ?xq_NoCover ?xk_NoCover ?xb_NoCover ?xt_NoCover ?xq_NoBook ?xk_NoBook ?xb_NoBook ?xt_NoBook ?xq_NotTold ?xk_NotTold ?xb_NotTold ?xt_NotTold ?xq_TooWide ?xk_TooWide ?xb_TooWide ?xt_TooWide ?xq_NoRow ?xk_NoRow ?xb_NoRow ?xt_NoRow ?xq_CoverError ?xk_CoverError ?xb_CoverError ?xt_CoverError ?xg_CoverError ?xh_CoverError ?xd_CoverError ?xa_CoverError ?xm_CoverError ?xg_NoAmount ?xh_NoAmount ?xd_NoAmount ?xa_NoAmount ?xm_NoAmount ?xg_NoShares ?xh_NoShares ?xd_NoShares ?xa_NoShares ?xm_NoShares ?xg_NoEntry ?xh_NoEntry ?xd_NoEntry ?xa_NoEntry ?xm_NoEntry ?xg_NoWords ?xh_NoWords ?xb_NoWords ?xd_NoWords ?xa_NoWords ?xm_NoWords ?xg_TooDeep ?xh_TooDeep ?xd_TooDeep ?xa_TooDeep ?xm_TooDeep ?xg_NoClause ?xh_NoClause ?xd_NoClause ?xa_NoClause ?xm_NoClause ?xg_NoCover ?xh_NoCover ?xd_NoCover ?xa_NoCover ?xm_NoCover ?xg_NoBook ?xh_NoBook ?xd_NoBook ?xa_NoBook ?xm_NoBook ?xg_Twice ?xh_Twice ?xb_Twice ?xd_Twice ?xa_Twice ?xm_Twice ?xg_Late ?xh_Late ?xb_Late ?xd_Late ?xa_Late ?xm_Late ?xg_NotTold ?xh_NotTold ?xd_NotTold ?xa_NotTold ?xm_NotTold ?xg_TooWide ?xh_TooWide ?xd_TooWide ?xa_TooWide ?xm_TooWide ?xg_NoText ?xh_NoText ?xb_NoText ?xd_NoText ?xa_NoText ?xm_NoText ?xg_NoRow ?xh_NoRow ?xd_NoRow ?xa_NoRow ?xm_NoRow ?xn0 ?xt0 ?a0 ?l0 ?c0 ?k0 ?a1 ?l1 ?c1 ?k1 ?a2 ?l2 ?c2 ?k2 ?i2 ?tf2 ?a3 ?l3 ?c3 ?k3 ?i3 ?tf3 ?a4 ?l4 ?c4 ?k4 ?i4 ?tf4 ?a5 ?l5 ?c5 ?k5 ?i5 ?tf5 ?a6 ?l6 ?c6 ?k6 ?a7 ?l7 ?c7 ?k7 ?a8 ?l8 ?c8 ?k8 ?a9 ?l9 ?c9 ?k9 ?mr_CoverError_NoAmount ?ms_CoverError ?mr_NoAmount_NoAmount ?mr_NoShares_NoAmount ?ms_NoShares ?mr_NoEntry_NoAmount ?ms_NoEntry ?mr_NoWords_NoAmount ?ms_NoWords ?mr_TooDeep_NoAmount ?ms_TooDeep ?mr_NoClause_NoAmount ?ms_NoClause ?mr_NoCover_NoAmount ?ms_NoCover ?mr_NoBook_NoAmount ?ms_NoBook ?mr_Twice_NoAmount ?ms_Twice ?mr_Late_NoAmount ?ms_Late ?mr_NotTold_NoAmount ?ms_NotTold ?mr_TooWide_NoAmount ?ms_TooWide ?mr_NoText_NoAmount ?ms_NoText ?mr_NoRow_NoAmount ?ms_NoRow ?mr_CoverError_NoShares ?mr_NoAmount_NoShares ?ms_NoAmount ?mr_NoShares_NoShares ?mr_NoEntry_NoShares ?mr_NoWords_NoShares ?mr_TooDeep_NoShares ?mr_NoClause_NoShares ?mr_NoCover_NoShares ?mr_NoBook_NoShares ?mr_Twice_NoShares ?mr_Late_NoShares ?mr_NotTold_NoShares ?mr_TooWide_NoShares ?mr_NoText_NoShares ?mr_NoRow_NoShares ?mr_CoverError_NoEntry ?mr_NoAmount_NoEntry ?mr_NoShares_NoEntry ?mr_NoEntry_NoEntry ?mr_NoWords_NoEntry ?mr_TooDeep_NoEntry ?mr_NoClause_NoEntry ?mr_NoCover_NoEntry ?mr_NoBook_NoEntry ?mr_Twice_NoEntry ?mr_Late_NoEntry ?mr_NotTold_NoEntry ?mr_TooWide_NoEntry ?mr_NoText_NoEntry ?mr_NoRow_NoEntry ?mr_CoverError_NoWords ?mr_NoAmount_NoWords ?mr_NoShares_NoWords ?mr_NoEntry_NoWords ?mr_NoWords_NoWords ?mr_TooDeep_NoWords ?mr_NoClause_NoWords ?mr_NoCover_NoWords ?mr_NoBook_NoWords ?mr_Twice_NoWords ?mr_Late_NoWords ?mr_NotTold_NoWords ?mr_TooWide_NoWords ?mr_NoText_NoWords ?mr_NoRow_NoWords ?mr_CoverError_TooDeep ?mr_NoAmount_TooDeep ?mr_NoShares_TooDeep ?mr_NoEntry_TooDeep ?mr_NoWords_TooDeep ?mr_TooDeep_TooDeep ?mr_NoClause_TooDeep ?mr_NoCover_TooDeep ?mr_NoBook_TooDeep ?mr_Twice_TooDeep ?mr_Late_TooDeep ?mr_NotTold_TooDeep ?mr_TooWide_TooDeep ?mr_NoText_TooDeep ?mr_NoRow_TooDeep ?mr_CoverError_NoClause ?mr_NoAmount_NoClause ?mr_NoShares_NoClause ?mr_NoEntry_NoClause ?mr_NoWords_NoClause ?mr_TooDeep_NoClause ?mr_NoClause_NoClause ?mr_NoCover_NoClause ?mr_NoBook_NoClause ?mr_Twice_NoClause ?mr_Late_NoClause ?mr_NotTold_NoClause ?mr_TooWide_NoClause ?mr_NoText_NoClause ?mr_NoRow_NoClause ?mr_CoverError_NoCover ?mr_NoAmount_NoCover ?mr_NoShares_NoCover ?mr_NoEntry_NoCover ?mr_NoWords_NoCover ?mr_TooDeep_NoCover ?mr_NoClause_NoCover ?mr_NoCover_NoCover ?mr_NoBook_NoCover ?mr_Twice_NoCover ?mr_Late_NoCover ?mr_NotTold_NoCover ?mr_TooWide_NoCover ?mr_NoText_NoCover ?mr_NoRow_NoCover ?mr_CoverError_NoBook ?mr_NoAmount_NoBook ?mr_NoShares_NoBook ?mr_NoEntry_NoBook ?mr_NoWords_NoBook ?mr_TooDeep_NoBook ?mr_NoClause_NoBook ?mr_NoCover_NoBook ?mr_NoBook_NoBook ?mr_Twice_NoBook ?mr_Late_NoBook ?mr_NotTold_NoBook ?mr_TooWide_NoBook ?mr_NoText_NoBook ?mr_NoRow_NoBook ?mr_CoverError_Twice ?mr_NoAmount_Twice ?mr_NoShares_Twice ?mr_NoEntry_Twice ?mr_NoWords_Twice ?mr_TooDeep_Twice ?mr_NoClause_Twice ?mr_NoCover_Twice ?mr_NoBook_Twice ?mr_Twice_Twice ?mr_Late_Twice ?mr_NotTold_Twice ?mr_TooWide_Twice ?mr_NoText_Twice ?mr_NoRow_Twice ?mr_CoverError_Late ?mr_NoAmount_Late ?mr_NoShares_Late ?mr_NoEntry_Late ?mr_NoWords_Late ?mr_TooDeep_Late ?mr_NoClause_Late ?mr_NoCover_Late ?mr_NoBook_Late ?mr_Twice_Late ?mr_Late_Late ?mr_NotTold_Late ?mr_TooWide_Late ?mr_NoText_Late ?mr_NoRow_Late ?mr_CoverError_NotTold ?mr_NoAmount_NotTold ?mr_NoShares_NotTold ?mr_NoEntry_NotTold ?mr_NoWords_NotTold ?mr_TooDeep_NotTold ?mr_NoClause_NotTold ?mr_NoCover_NotTold ?mr_NoBook_NotTold ?mr_Twice_NotTold ?mr_Late_NotTold ?mr_NotTold_NotTold ?mr_TooWide_NotTold ?mr_NoText_NotTold ?mr_NoRow_NotTold ?mr_CoverError_TooWide ?mr_NoAmount_TooWide ?mr_NoShares_TooWide ?mr_NoEntry_TooWide ?mr_NoWords_TooWide ?mr_TooDeep_TooWide ?mr_NoClause_TooWide ?mr_NoCover_TooWide ?mr_NoBook_TooWide ?mr_Twice_TooWide ?mr_Late_TooWide ?mr_NotTold_TooWide ?mr_TooWide_TooWide ?mr_NoText_TooWide ?mr_NoRow_TooWide ?mr_CoverError_NoText ?mr_NoAmount_NoText ?mr_NoShares_NoText ?mr_NoEntry_NoText ?mr_NoWords_NoText ?mr_TooDeep_NoText ?mr_NoClause_NoText ?mr_NoCover_NoText ?mr_NoBook_NoText ?mr_Twice_NoText ?mr_Late_NoText ?mr_NotTold_NoText ?mr_TooWide_NoText ?mr_NoText_NoText ?mr_NoRow_NoText ?mr_CoverError_NoRow ?mr_NoAmount_NoRow ?mr_NoShares_NoRow ?mr_NoEntry_NoRow ?mr_NoWords_NoRow ?mr_TooDeep_NoRow ?mr_NoClause_NoRow ?mr_NoCover_NoRow ?mr_NoBook_NoRow ?mr_Twice_NoRow ?mr_Late_NoRow ?mr_NotTold_NoRow ?mr_TooWide_NoRow ?mr_NoText_NoRow ?mr_NoRow_NoRow ?q_rd_CoverError ?q_ga_CoverError ?q_vi_CoverError ?q_xo_NoWords ?q_hd_NoWords ?q_sa_NoWords ?q_xb_NoWords ?q_xt_NoWords ?q_xk_NoWords ?q_nf_NoWords ?q_xo_Twice ?q_hd_Twice ?q_sa_Twice ?q_xb_Twice ?q_xt_Twice ?q_xk_Twice ?q_nf_Twice ?q_xo_Late ?q_hd_Late ?q_sa_Late ?q_xb_Late ?q_xt_Late ?q_xk_Late ?q_nf_Late ?q_xo_NoText ?q_hd_NoText ?q_sa_NoText ?q_xb_NoText ?q_xt_NoText ?q_xk_NoText ?q_nf_NoText ?mr_CoverError_CoverError ?mr_NoAmount_CoverError ?mr_NoShares_CoverError ?mr_NoEntry_CoverError ?mr_NoWords_CoverError ?mr_TooDeep_CoverError ?mr_NoClause_CoverError ?mr_NoCover_CoverError ?mr_NoBook_CoverError ?mr_Twice_CoverError ?mr_Late_CoverError ?mr_NotTold_CoverError ?mr_TooWide_CoverError ?mr_NoText_CoverError ?mr_NoRow_CoverError ?mr_CoverError_ValueError ?mr_NoAmount_ValueError ?mr_NoShares_ValueError ?mr_NoEntry_ValueError ?mr_NoWords_ValueError ?mr_TooDeep_ValueError ?mr_NoClause_ValueError ?mr_NoCover_ValueError ?mr_NoBook_ValueError ?mr_Twice_ValueError ?mr_Late_ValueError ?mr_NotTold_ValueError ?mr_TooWide_ValueError ?mr_NoText_ValueError ?mr_NoRow_ValueError ?ic_CoverError ?ti_CoverError ?ic_Late ?ti_Late ?ic_NoAmount ?ti_NoAmount ?ic_NoBook ?ti_NoBook ?ic_NoClause ?ti_NoClause ?ic_NoCover ?ti_NoCover ?ic_NoEntry ?ti_NoEntry ?ic_NoRow ?ti_NoRow ?ic_NoShares ?ti_NoShares ?ic_NoText ?ti_NoText ?ic_NoWords ?ti_NoWords ?ic_NotTold ?ti_NotTold ?ic_TooDeep ?ti_TooDeep ?ic_TooWide ?ti_TooWide ?ic_Twice ?ti_Twice ?z_isinstance ?z_len ?z_int ?z_bool ?z_range ?z_str ?z_ValueError
    (case a_NoAmount => k_is)
    (case a_NoShares => k_is)
    (case a_NoEntry => k_is)
    (case a_NoWords => k_is)
    (case a_TooDeep => k_is)
    (case a_NoClause => k_is)
    (case a_NoCover => k_is)
    (case a_NoBook => k_is)
    (case a_Twice => k_is)
    (case a_Late => k_is)
    (case a_NotTold => k_is)
    (case a_TooWide => k_is)
    (case a_NoText => k_is)
    (case a_NoRow => k_is)
    (case a_CoverError => k_is)
    (case xq_NoAmount => k_exc)
    (case xk_NoAmount => k_is)
    (case xb_NoAmount => k_is)
    (case xt_NoAmount => k_is)
    (case xq_NoShares => k_exc)
    (case xk_NoShares => k_is)
    (case xb_NoShares => k_is)
    (case xt_NoShares => k_is)
    (case xq_NoEntry => k_exc)
    (case xk_NoEntry => k_is)
    (case xb_NoEntry => k_is)
    (case xt_NoEntry => k_is)
    (case xq_TooDeep => k_exc)
    (case xk_TooDeep => k_is)
    (case xb_TooDeep => k_is)
    (case xt_TooDeep => k_is)
    (case xq_NoClause => k_exc)
    (case xk_NoClause => k_is)
    (case xb_NoClause => k_is)
    (case xt_NoClause => k_is)
    (case xq_NoCover => k_exc)
    (case xk_NoCover => k_is)
    (case xb_NoCover => k_is)
    (case xt_NoCover => k_is)
    (case xq_NoBook => k_exc)
    (case xk_NoBook => k_is)
    (case xb_NoBook => k_is)
    (case xt_NoBook => k_is)
    (case xq_NotTold => k_exc)
    (case xk_NotTold => k_is)
    (case xb_NotTold => k_is)
    (case xt_NotTold => k_is)
    (case xq_TooWide => k_exc)
    (case xk_TooWide => k_is)
    (case xb_TooWide => k_is)
    (case xt_TooWide => k_is)
    (case xq_NoRow => k_exc)
    (case xk_NoRow => k_is)
    (case xb_NoRow => k_is)
    (case xt_NoRow => k_is)
    (case xq_CoverError => k_exc)
    (case xk_CoverError => k_is)
    (case xb_CoverError => k_is)
    (case xt_CoverError => k_is)
    (case xg_CoverError => k_is)
    (case xh_CoverError => k_is)
    (case xd_CoverError => k_is)
    (case xa_CoverError => k_is)
    (case xm_CoverError => k_is)
    (case xg_NoAmount => k_is)
    (case xh_NoAmount => k_is)
    (case xd_NoAmount => k_is)
    (case xa_NoAmount => k_is)
    (case xm_NoAmount => k_is)
    (case xg_NoShares => k_is)
    (case xh_NoShares => k_is)
    (case xd_NoShares => k_is)
    (case xa_NoShares => k_is)
    (case xm_NoShares => k_is)
    (case xg_NoEntry => k_is)
    (case xh_NoEntry => k_is)
    (case xd_NoEntry => k_is)
    (case xa_NoEntry => k_is)
    (case xm_NoEntry => k_is)
    (case xg_NoWords => k_is)
    (case xh_NoWords => k_is)
    (case xb_NoWords => k_is)
    (case xd_NoWords => k_is)
    (case xa_NoWords => k_is)
    (case xm_NoWords => k_is)
    (case xg_TooDeep => k_is)
    (case xh_TooDeep => k_is)
    (case xd_TooDeep => k_is)
    (case xa_TooDeep => k_is)
    (case xm_TooDeep => k_is)
    (case xg_NoClause => k_is)
    (case xh_NoClause => k_is)
    (case xd_NoClause => k_is)
    (case xa_NoClause => k_is)
    (case xm_NoClause => k_is)
    (case xg_NoCover => k_is)
    (case xh_NoCover => k_is)
    (case xd_NoCover => k_is)
    (case xa_NoCover => k_is)
    (case xm_NoCover => k_is)
    (case xg_NoBook => k_is)
    (case xh_NoBook => k_is)
    (case xd_NoBook => k_is)
    (case xa_NoBook => k_is)
    (case xm_NoBook => k_is)
    (case xg_Twice => k_is)
    (case xh_Twice => k_is)
    (case xb_Twice => k_is)
    (case xd_Twice => k_is)
    (case xa_Twice => k_is)
    (case xm_Twice => k_is)
    (case xg_Late => k_is)
    (case xh_Late => k_is)
    (case xb_Late => k_is)
    (case xd_Late => k_is)
    (case xa_Late => k_is)
    (case xm_Late => k_is)
    (case xg_NotTold => k_is)
    (case xh_NotTold => k_is)
    (case xd_NotTold => k_is)
    (case xa_NotTold => k_is)
    (case xm_NotTold => k_is)
    (case xg_TooWide => k_is)
    (case xh_TooWide => k_is)
    (case xd_TooWide => k_is)
    (case xa_TooWide => k_is)
    (case xm_TooWide => k_is)
    (case xg_NoText => k_is)
    (case xh_NoText => k_is)
    (case xb_NoText => k_is)
    (case xd_NoText => k_is)
    (case xa_NoText => k_is)
    (case xm_NoText => k_is)
    (case xg_NoRow => k_is)
    (case xh_NoRow => k_is)
    (case xd_NoRow => k_is)
    (case xa_NoRow => k_is)
    (case xm_NoRow => k_is)
    (case xn0 => k_is)
    (case xt0 => k_is)
    (case a0 => k_is)
    (case l0 => k_is)
    (case c0 => k_is)
    (case k0 => k_is)
    (case a1 => k_is)
    (case l1 => k_is)
    (case c1 => k_is)
    (case k1 => k_is)
    (case a2 => k_is)
    (case l2 => k_is)
    (case c2 => k_is)
    (case k2 => k_is)
    (case i2 => k_is)
    (case tf2 => k_is)
    (case a3 => k_is)
    (case l3 => k_is)
    (case c3 => k_is)
    (case k3 => k_is)
    (case i3 => k_is)
    (case tf3 => k_is)
    (case a4 => k_is)
    (case l4 => k_is)
    (case c4 => k_is)
    (case k4 => k_is)
    (case i4 => k_is)
    (case tf4 => k_is)
    (case a5 => k_is)
    (case l5 => k_is)
    (case c5 => k_is)
    (case k5 => k_is)
    (case i5 => k_is)
    (case tf5 => k_is)
    (case a6 => k_is)
    (case l6 => k_is)
    (case c6 => k_is)
    (case k6 => k_is)
    (case a7 => k_is)
    (case l7 => k_is)
    (case c7 => k_is)
    (case k7 => k_is)
    (case a8 => k_is)
    (case l8 => k_is)
    (case c8 => k_is)
    (case k8 => k_is)
    (case a9 => k_is)
    (case l9 => k_is)
    (case c9 => k_is)
    (case k9 => k_is)
    (case mr_CoverError_NoAmount => k_is)
    (case ms_CoverError => k_is)
    (case mr_NoAmount_NoAmount => k_is)
    (case mr_NoShares_NoAmount => k_is)
    (case ms_NoShares => k_is)
    (case mr_NoEntry_NoAmount => k_is)
    (case ms_NoEntry => k_is)
    (case mr_NoWords_NoAmount => k_is)
    (case ms_NoWords => k_is)
    (case mr_TooDeep_NoAmount => k_is)
    (case ms_TooDeep => k_is)
    (case mr_NoClause_NoAmount => k_is)
    (case ms_NoClause => k_is)
    (case mr_NoCover_NoAmount => k_is)
    (case ms_NoCover => k_is)
    (case mr_NoBook_NoAmount => k_is)
    (case ms_NoBook => k_is)
    (case mr_Twice_NoAmount => k_is)
    (case ms_Twice => k_is)
    (case mr_Late_NoAmount => k_is)
    (case ms_Late => k_is)
    (case mr_NotTold_NoAmount => k_is)
    (case ms_NotTold => k_is)
    (case mr_TooWide_NoAmount => k_is)
    (case ms_TooWide => k_is)
    (case mr_NoText_NoAmount => k_is)
    (case ms_NoText => k_is)
    (case mr_NoRow_NoAmount => k_is)
    (case ms_NoRow => k_is)
    (case mr_CoverError_NoShares => k_is)
    (case mr_NoAmount_NoShares => k_is)
    (case ms_NoAmount => k_is)
    (case mr_NoShares_NoShares => k_is)
    (case mr_NoEntry_NoShares => k_is)
    (case mr_NoWords_NoShares => k_is)
    (case mr_TooDeep_NoShares => k_is)
    (case mr_NoClause_NoShares => k_is)
    (case mr_NoCover_NoShares => k_is)
    (case mr_NoBook_NoShares => k_is)
    (case mr_Twice_NoShares => k_is)
    (case mr_Late_NoShares => k_is)
    (case mr_NotTold_NoShares => k_is)
    (case mr_TooWide_NoShares => k_is)
    (case mr_NoText_NoShares => k_is)
    (case mr_NoRow_NoShares => k_is)
    (case mr_CoverError_NoEntry => k_is)
    (case mr_NoAmount_NoEntry => k_is)
    (case mr_NoShares_NoEntry => k_is)
    (case mr_NoEntry_NoEntry => k_is)
    (case mr_NoWords_NoEntry => k_is)
    (case mr_TooDeep_NoEntry => k_is)
    (case mr_NoClause_NoEntry => k_is)
    (case mr_NoCover_NoEntry => k_is)
    (case mr_NoBook_NoEntry => k_is)
    (case mr_Twice_NoEntry => k_is)
    (case mr_Late_NoEntry => k_is)
    (case mr_NotTold_NoEntry => k_is)
    (case mr_TooWide_NoEntry => k_is)
    (case mr_NoText_NoEntry => k_is)
    (case mr_NoRow_NoEntry => k_is)
    (case mr_CoverError_NoWords => k_is)
    (case mr_NoAmount_NoWords => k_is)
    (case mr_NoShares_NoWords => k_is)
    (case mr_NoEntry_NoWords => k_is)
    (case mr_NoWords_NoWords => k_is)
    (case mr_TooDeep_NoWords => k_is)
    (case mr_NoClause_NoWords => k_is)
    (case mr_NoCover_NoWords => k_is)
    (case mr_NoBook_NoWords => k_is)
    (case mr_Twice_NoWords => k_is)
    (case mr_Late_NoWords => k_is)
    (case mr_NotTold_NoWords => k_is)
    (case mr_TooWide_NoWords => k_is)
    (case mr_NoText_NoWords => k_is)
    (case mr_NoRow_NoWords => k_is)
    (case mr_CoverError_TooDeep => k_is)
    (case mr_NoAmount_TooDeep => k_is)
    (case mr_NoShares_TooDeep => k_is)
    (case mr_NoEntry_TooDeep => k_is)
    (case mr_NoWords_TooDeep => k_is)
    (case mr_TooDeep_TooDeep => k_is)
    (case mr_NoClause_TooDeep => k_is)
    (case mr_NoCover_TooDeep => k_is)
    (case mr_NoBook_TooDeep => k_is)
    (case mr_Twice_TooDeep => k_is)
    (case mr_Late_TooDeep => k_is)
    (case mr_NotTold_TooDeep => k_is)
    (case mr_TooWide_TooDeep => k_is)
    (case mr_NoText_TooDeep => k_is)
    (case mr_NoRow_TooDeep => k_is)
    (case mr_CoverError_NoClause => k_is)
    (case mr_NoAmount_NoClause => k_is)
    (case mr_NoShares_NoClause => k_is)
    (case mr_NoEntry_NoClause => k_is)
    (case mr_NoWords_NoClause => k_is)
    (case mr_TooDeep_NoClause => k_is)
    (case mr_NoClause_NoClause => k_is)
    (case mr_NoCover_NoClause => k_is)
    (case mr_NoBook_NoClause => k_is)
    (case mr_Twice_NoClause => k_is)
    (case mr_Late_NoClause => k_is)
    (case mr_NotTold_NoClause => k_is)
    (case mr_TooWide_NoClause => k_is)
    (case mr_NoText_NoClause => k_is)
    (case mr_NoRow_NoClause => k_is)
    (case mr_CoverError_NoCover => k_is)
    (case mr_NoAmount_NoCover => k_is)
    (case mr_NoShares_NoCover => k_is)
    (case mr_NoEntry_NoCover => k_is)
    (case mr_NoWords_NoCover => k_is)
    (case mr_TooDeep_NoCover => k_is)
    (case mr_NoClause_NoCover => k_is)
    (case mr_NoCover_NoCover => k_is)
    (case mr_NoBook_NoCover => k_is)
    (case mr_Twice_NoCover => k_is)
    (case mr_Late_NoCover => k_is)
    (case mr_NotTold_NoCover => k_is)
    (case mr_TooWide_NoCover => k_is)
    (case mr_NoText_NoCover => k_is)
    (case mr_NoRow_NoCover => k_is)
    (case mr_CoverError_NoBook => k_is)
    (case mr_NoAmount_NoBook => k_is)
    (case mr_NoShares_NoBook => k_is)
    (case mr_NoEntry_NoBook => k_is)
    (case mr_NoWords_NoBook => k_is)
    (case mr_TooDeep_NoBook => k_is)
    (case mr_NoClause_NoBook => k_is)
    (case mr_NoCover_NoBook => k_is)
    (case mr_NoBook_NoBook => k_is)
    (case mr_Twice_NoBook => k_is)
    (case mr_Late_NoBook => k_is)
    (case mr_NotTold_NoBook => k_is)
    (case mr_TooWide_NoBook => k_is)
    (case mr_NoText_NoBook => k_is)
    (case mr_NoRow_NoBook => k_is)
    (case mr_CoverError_Twice => k_is)
    (case mr_NoAmount_Twice => k_is)
    (case mr_NoShares_Twice => k_is)
    (case mr_NoEntry_Twice => k_is)
    (case mr_NoWords_Twice => k_is)
    (case mr_TooDeep_Twice => k_is)
    (case mr_NoClause_Twice => k_is)
    (case mr_NoCover_Twice => k_is)
    (case mr_NoBook_Twice => k_is)
    (case mr_Twice_Twice => k_is)
    (case mr_Late_Twice => k_is)
    (case mr_NotTold_Twice => k_is)
    (case mr_TooWide_Twice => k_is)
    (case mr_NoText_Twice => k_is)
    (case mr_NoRow_Twice => k_is)
    (case mr_CoverError_Late => k_is)
    (case mr_NoAmount_Late => k_is)
    (case mr_NoShares_Late => k_is)
    (case mr_NoEntry_Late => k_is)
    (case mr_NoWords_Late => k_is)
    (case mr_TooDeep_Late => k_is)
    (case mr_NoClause_Late => k_is)
    (case mr_NoCover_Late => k_is)
    (case mr_NoBook_Late => k_is)
    (case mr_Twice_Late => k_is)
    (case mr_Late_Late => k_is)
    (case mr_NotTold_Late => k_is)
    (case mr_TooWide_Late => k_is)
    (case mr_NoText_Late => k_is)
    (case mr_NoRow_Late => k_is)
    (case mr_CoverError_NotTold => k_is)
    (case mr_NoAmount_NotTold => k_is)
    (case mr_NoShares_NotTold => k_is)
    (case mr_NoEntry_NotTold => k_is)
    (case mr_NoWords_NotTold => k_is)
    (case mr_TooDeep_NotTold => k_is)
    (case mr_NoClause_NotTold => k_is)
    (case mr_NoCover_NotTold => k_is)
    (case mr_NoBook_NotTold => k_is)
    (case mr_Twice_NotTold => k_is)
    (case mr_Late_NotTold => k_is)
    (case mr_NotTold_NotTold => k_is)
    (case mr_TooWide_NotTold => k_is)
    (case mr_NoText_NotTold => k_is)
    (case mr_NoRow_NotTold => k_is)
    (case mr_CoverError_TooWide => k_is)
    (case mr_NoAmount_TooWide => k_is)
    (case mr_NoShares_TooWide => k_is)
    (case mr_NoEntry_TooWide => k_is)
    (case mr_NoWords_TooWide => k_is)
    (case mr_TooDeep_TooWide => k_is)
    (case mr_NoClause_TooWide => k_is)
    (case mr_NoCover_TooWide => k_is)
    (case mr_NoBook_TooWide => k_is)
    (case mr_Twice_TooWide => k_is)
    (case mr_Late_TooWide => k_is)
    (case mr_NotTold_TooWide => k_is)
    (case mr_TooWide_TooWide => k_is)
    (case mr_NoText_TooWide => k_is)
    (case mr_NoRow_TooWide => k_is)
    (case mr_CoverError_NoText => k_is)
    (case mr_NoAmount_NoText => k_is)
    (case mr_NoShares_NoText => k_is)
    (case mr_NoEntry_NoText => k_is)
    (case mr_NoWords_NoText => k_is)
    (case mr_TooDeep_NoText => k_is)
    (case mr_NoClause_NoText => k_is)
    (case mr_NoCover_NoText => k_is)
    (case mr_NoBook_NoText => k_is)
    (case mr_Twice_NoText => k_is)
    (case mr_Late_NoText => k_is)
    (case mr_NotTold_NoText => k_is)
    (case mr_TooWide_NoText => k_is)
    (case mr_NoText_NoText => k_is)
    (case mr_NoRow_NoText => k_is)
    (case mr_CoverError_NoRow => k_is)
    (case mr_NoAmount_NoRow => k_is)
    (case mr_NoShares_NoRow => k_is)
    (case mr_NoEntry_NoRow => k_is)
    (case mr_NoWords_NoRow => k_is)
    (case mr_TooDeep_NoRow => k_is)
    (case mr_NoClause_NoRow => k_is)
    (case mr_NoCover_NoRow => k_is)
    (case mr_NoBook_NoRow => k_is)
    (case mr_Twice_NoRow => k_is)
    (case mr_Late_NoRow => k_is)
    (case mr_NotTold_NoRow => k_is)
    (case mr_TooWide_NoRow => k_is)
    (case mr_NoText_NoRow => k_is)
    (case mr_NoRow_NoRow => k_is)
    (case q_rd_CoverError => k_is)
    (case q_ga_CoverError => k_is)
    (case q_vi_CoverError => k_is)
    (case q_xo_NoWords => kx_is)
    (case q_hd_NoWords => k_is)
    (case q_sa_NoWords => k_is)
    (case q_xb_NoWords => k_is)
    (case q_xt_NoWords => k_is)
    (case q_xk_NoWords => k_is)
    (case q_nf_NoWords => k_is)
    (case q_xo_Twice => kx_is)
    (case q_hd_Twice => k_is)
    (case q_sa_Twice => k_is)
    (case q_xb_Twice => k_is)
    (case q_xt_Twice => k_is)
    (case q_xk_Twice => k_is)
    (case q_nf_Twice => k_is)
    (case q_xo_Late => kx_is)
    (case q_hd_Late => k_is)
    (case q_sa_Late => k_is)
    (case q_xb_Late => k_is)
    (case q_xt_Late => k_is)
    (case q_xk_Late => k_is)
    (case q_nf_Late => k_is)
    (case q_xo_NoText => kx_is)
    (case q_hd_NoText => k_is)
    (case q_sa_NoText => k_is)
    (case q_xb_NoText => k_is)
    (case q_xt_NoText => k_is)
    (case q_xk_NoText => k_is)
    (case q_nf_NoText => k_is)
    (case mr_CoverError_CoverError => k_is)
    (case mr_NoAmount_CoverError => k_is)
    (case mr_NoShares_CoverError => k_is)
    (case mr_NoEntry_CoverError => k_is)
    (case mr_NoWords_CoverError => k_is)
    (case mr_TooDeep_CoverError => k_is)
    (case mr_NoClause_CoverError => k_is)
    (case mr_NoCover_CoverError => k_is)
    (case mr_NoBook_CoverError => k_is)
    (case mr_Twice_CoverError => k_is)
    (case mr_Late_CoverError => k_is)
    (case mr_NotTold_CoverError => k_is)
    (case mr_TooWide_CoverError => k_is)
    (case mr_NoText_CoverError => k_is)
    (case mr_NoRow_CoverError => k_is)
    (case mr_CoverError_ValueError => k_is)
    (case mr_NoAmount_ValueError => k_is)
    (case mr_NoShares_ValueError => k_is)
    (case mr_NoEntry_ValueError => k_is)
    (case mr_NoWords_ValueError => k_is)
    (case mr_TooDeep_ValueError => k_is)
    (case mr_NoClause_ValueError => k_is)
    (case mr_NoCover_ValueError => k_is)
    (case mr_NoBook_ValueError => k_is)
    (case mr_Twice_ValueError => k_is)
    (case mr_Late_ValueError => k_is)
    (case mr_NotTold_ValueError => k_is)
    (case mr_TooWide_ValueError => k_is)
    (case mr_NoText_ValueError => k_is)
    (case mr_NoRow_ValueError => k_is)
    (case ic_CoverError => k_is)
    (case ti_CoverError => k_is)
    (case ic_Late => k_is)
    (case ti_Late => k_is)
    (case ic_NoAmount => k_is)
    (case ti_NoAmount => k_is)
    (case ic_NoBook => k_is)
    (case ti_NoBook => k_is)
    (case ic_NoClause => k_is)
    (case ti_NoClause => k_is)
    (case ic_NoCover => k_is)
    (case ti_NoCover => k_is)
    (case ic_NoEntry => k_is)
    (case ti_NoEntry => k_is)
    (case ic_NoRow => k_is)
    (case ti_NoRow => k_is)
    (case ic_NoShares => k_is)
    (case ti_NoShares => k_is)
    (case ic_NoText => k_is)
    (case ti_NoText => k_is)
    (case ic_NoWords => k_is)
    (case ti_NoWords => k_is)
    (case ic_NotTold => k_is)
    (case ti_NotTold => k_is)
    (case ic_TooDeep => k_is)
    (case ti_TooDeep => k_is)
    (case ic_TooWide => k_is)
    (case ti_TooWide => k_is)
    (case ic_Twice => k_is)
    (case ti_Twice => k_is)
    (case z_isinstance => k_is)
    (case z_len => k_is)
    (case z_int => k_is)
    (case z_bool => k_is)
    (case z_range => k_is)
    (case z_str => k_is)
    (case z_ValueError => k_is)
