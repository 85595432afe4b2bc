import PyProof.Rows.All
import Wide.All
import OpenK.AllK
import Wide.FinOn
import HandS.ForMost
import HandS.IsInst
import HandS.ExcInit
import HandS.Exc
import HandS.Style
import HandS.Wide
import HandS.StrMore
import HandS.SetFor
import PyProof.LongRange
import HandS.Codes
import KE.SortData
import HandS.ClsMeth
import PyProof.Rows.StrRev
import PyProof.StrOps2
import HandS.Defaults
import HandS.More
import HandS.ExcOwn
import HandS.WordsExc
import HandS.TryOnly
import HandS.ExcIs
import HandS.Deep
import HandS.Text
import PyProof.EqKinds
import PyProof.P3In
import HandS.Dict
import PyProof.DictMoreH
import HandS.SetKeys
import KE.KDictWalk
import HandS.Iter
import HandS.Strs
import PyProof.Rows.SetFrom
import HandS.Head0
import HandS.Head1
import HandS.Head2
import HandS.HeadEnd
import HandS.HeadHook1
import HandS.HeadHook2
import HandS.List
import HandS.ExcValue
import HandS.ExcField
import KE.KExcIs
import KE.KExcLine
import PyProof.SeqRoads2
import PySem.Challenge.RW_coverroll_k28_bounds_of_words
set_option Elab.async false
set_option linter.all false
set_option maxRecDepth 100000
set_option maxHeartbeats 4000000
namespace M
open PySem L2

/-- data that no one changes any more -/
inductive D where
  | non | bl (b : Bool) | int (i : Int) | str (x : Str) | ty (n : String) | opq (a : Addr) | exc (C : Addr) (f : Option (Str × Int)) | hx (a : Addr) (d : Option Addr) (f : Option (Str × Int))
  | tup (ds : List D) | lst (ds : List D) | ins (C : Addr) (ns : List Str) (ds : List D)
  | dct (ks : List Key) (ds : List D) | dctT (ks : List (List Key)) (ds : List D)
/-- an error: its class, its attribute -/
structure Er where
  C : Addr
  fld : Option (Str × D) := none
/-- things of the def's own, that may be changed; rs: nothing comes back, an error is raised; vw: a list that stays as it is while the def runs -/
inductive O where
  | fz (d : D) | vw (ds : List D) | lst (os : List O) | tup (os : List O) | ins (C : Addr) (ns : List Str) (os : List O)
  | dct (ks : List Key) (os : List O) | dctT (ks : List (List Key)) (os : List O)
  | at (a : Addr) (C : Addr) (ns : List Str) (os : List O)
  | vwa (a : Addr) (ds : List D)
  | loc (a : Addr) (o : O)
  | pt (a : Addr)
  | rs (e : Er)
  | lk (o : O)

def Ex (H H' : Hp) : Prop := ∀ a o, H a = some o → H' a = some o
theorem Ex.refl (H : Hp) : Ex H H := fun _ _ h => h
theorem Ex.trans {H H1 H2 : Hp} (a : Ex H H1) (b : Ex H1 H2) : Ex H H2 := fun x o h => b x o (a x o h)
theorem Ex.new {H : Hp} {p : Addr} {o : HO} (h : H p = none) : Ex H (upd H p o) := fun a u e => by
  rw [upd_ne (ne_of_none e h)]
  exact e
theorem Ex.free {H H' : Hp} {p : Addr} (e : Ex H H') (h : H' p = none) : H p = none := by
  cases h1 : H p with
  | none => rfl
  | some o =>
    rw [e p o h1] at h
    cases h
theorem Ex.mut {H H' : Hp} {p : Addr} {o : HO} (e : Ex H H') (h : H p = none) : Ex H (upd H' p o) := fun a u ha => by
  rw [upd_ne (ne_of_none ha h)]
  exact e a u ha
theorem ex_rd {H H' : Hp} {a : Addr} {u : HO} (e : Ex H H') (h : Rd H a u) : Rd H' a u := by
  rcases h with h | ⟨o, h⟩
  · exact .inl (e a _ h)
  · exact .inr ⟨o, e a _ h⟩
theorem ex_l {K : PySem.W.Frag} {H H' : Hp} {a : Addr} {xs : List V} (e : Ex H H') (h : SqL K H a xs) : SqL K H' a xs := by
  rcases h with h | h
  · exact .inl (ex_rd e h)
  · exact .inr h
theorem ex_t {K : PySem.W.Frag} {H H' : Hp} {a : Addr} {xs : List V} (e : Ex H H') (h : SqT K H a xs) : SqT K H' a xs := by
  rcases h with h | h
  · exact .inl (ex_rd e h)
  · exact .inr h

/-- the field that an error of its own class may have -/
def ExF (Z : Hp) (d : Option Addr) : Option (Str × Int) → Prop
  | none => d = none
  | some p => ∃ dd, d = some dd ∧ Z dd = some (exd dd [(p.1, .int p.2)])
theorem ExF.mono {Z Z' : Hp} {d : Option Addr} (e : Ex Z Z') : ∀ {f : Option (Str × Int)}, ExF Z d f → ExF Z' d f
  | none, h => h
  | some _, ⟨dd, h, q⟩ => ⟨dd, h, e _ _ q⟩
/-- the field of the error that a suite holds -/
def ExH (Z : Hp) (d : Option Addr) : Option (Str × Int) → Prop
  | none => d = none
  | some p => ∃ dd, d = some dd ∧ Z dd = some (.xd [(p.1, .int p.2)])
theorem ExH.mono {Z Z' : Hp} {d : Option Addr} (e : Ex Z Z') : ∀ {f : Option (Str × Int)}, ExH Z d f → ExH Z' d f
  | none, h => h
  | some _, ⟨dd, h, q⟩ => ⟨dd, h, e _ _ q⟩
mutual
inductive Rep (K : PySem.W.Frag) (Z : Hp) : V → D → Prop where
  | non : Rep K Z .non .non
  | bl (b : Bool) : Rep K Z (.bl b) (.bl b)
  | int (i : Int) : Rep K Z (.int i) (.int i)
  | str (x : Str) : Rep K Z (.str x) (.str x)
  | ty (n : String) : Rep K Z (.ty n) (.ty n)
  | opq (a : Addr) : Rep K Z (.ref a) (.opq a)
  | exc {a C : Addr} {d : Option Addr} {f : Option (Str × Int)} : Z a = some (exo a C d) → ExF Z d f → Rep K Z (.ref a) (.exc C f)
  | hx {a : Addr} {d : Option Addr} {f : Option (Str × Int)} : ExH Z d f → Rep K Z (.ref a) (.hx a d f)
  | tup {a : Addr} {vs : List V} {ds : List D} : Z a = some (.tup vs) → RepL K Z vs ds → Rep K Z (.ref a) (.tup ds)
  | lst {a : Addr} {vs : List V} {ds : List D} : SqL K Z a vs → RepL K Z vs ds → Rep K Z (.ref a) (.lst ds)
  | ins {a C dx : Addr} {ns : List Str} {vs : List V} {ds : List D} : Z a = some (.ins C dx (ns.zip vs)) → RepL K Z vs ds → Rep K Z (.ref a) (.ins C ns ds)
  | dct {a : Addr} {ks : List Key} {vs : List V} {ds : List D} : Z a = some (.dK (ks.zip vs)) → RepL K Z vs ds → Rep K Z (.ref a) (.dct ks ds)
  | dctT {a : Addr} {ks : List (List Key)} {vs : List V} {ds : List D} : Z a = some (.dT (ks.zip vs)) → RepL K Z vs ds → Rep K Z (.ref a) (.dctT ks ds)
inductive RepL (K : PySem.W.Frag) (Z : Hp) : List V → List D → Prop where
  | nil : RepL K Z [] []
  | cons {v : V} {vs : List V} {d : D} {ds : List D} : Rep K Z v d → RepL K Z vs ds → RepL K Z (v :: vs) (d :: ds)
end
mutual
/-- a thing that is looked at: its cells lie in F -/
inductive RepK (K : PySem.W.Frag) (Z F : Hp) : V → O → Prop where
  | fz {v : V} {d : D} : Rep K Z v d → RepK K Z F v (.fz d)
  | vw {a : Addr} {vs : List V} {ds : List D} : SqL K F a vs → RepL K Z vs ds → RepK K Z F (.ref a) (.vw ds)
  | vwa {a : Addr} {vs : List V} {ds : List D} : SqL K F a vs → RepL K Z vs ds → RepK K Z F (.ref a) (.vwa a ds)
  | lst {a : Addr} {vs : List V} {os : List O} : F a = some (.lst vs) → RepKL K Z F vs os → RepK K Z F (.ref a) (.lst os)
  | tup {a : Addr} {vs : List V} {os : List O} : F a = some (.tup vs) → RepKL K Z F vs os → RepK K Z F (.ref a) (.tup os)
  | ins {a C dx : Addr} {ns : List Str} {vs : List V} {os : List O} : F a = some (.ins C dx (ns.zip vs)) → RepKL K Z F vs os → RepK K Z F (.ref a) (.ins C ns os)
  | at {a C dx : Addr} {ns : List Str} {vs : List V} {os : List O} : F a = some (.ins C dx (ns.zip vs)) → RepKL K Z F vs os → RepK K Z F (.ref a) (.at a C ns os)
  | dct {a : Addr} {ks : List Key} {vs : List V} {os : List O} : F a = some (.dK (ks.zip vs)) → RepKL K Z F vs os → RepK K Z F (.ref a) (.dct ks os)
  | dctT {a : Addr} {ks : List (List Key)} {vs : List V} {os : List O} : F a = some (.dT (ks.zip vs)) → RepKL K Z F vs os → RepK K Z F (.ref a) (.dctT ks os)
  | loc {a : Addr} {o : O} : RepK K Z F (.ref a) o → RepK K Z F (.ref a) (.loc a o)
  | pt {a : Addr} : RepK K Z F (.ref a) (.pt a)
  | lk {v : V} {o : O} : RepK K Z F v o → RepK K Z F v (.lk o)
inductive RepKL (K : PySem.W.Frag) (Z F : Hp) : List V → List O → Prop where
  | nil : RepKL K Z F [] []
  | cons {v : V} {vs : List V} {o : O} {os : List O} : RepK K Z F v o → RepKL K Z F vs os → RepKL K Z F (v :: vs) (o :: os)
end
mutual
inductive RepO (K : PySem.W.Frag) (Z F H : Hp) : V → O → List Addr → Prop where
  | fz {v : V} {d : D} : Rep K Z v d → RepO K Z F H v (.fz d) []
  | vw {a : Addr} {vs : List V} {ds : List D} : SqL K F a vs → RepL K Z vs ds → RepO K Z F H (.ref a) (.vw ds) []
  | vwa {a : Addr} {vs : List V} {ds : List D} : SqL K F a vs → RepL K Z vs ds → RepO K Z F H (.ref a) (.vwa a ds) []
  | lst {a : Addr} {vs : List V} {os : List O} {A : List Addr} : H a = some (.lst vs) → RepOL K Z F H vs os A → RepO K Z F H (.ref a) (.lst os) (a :: A)
  | tup {a : Addr} {vs : List V} {os : List O} {A : List Addr} : H a = some (.tup vs) → RepOL K Z F H vs os A → RepO K Z F H (.ref a) (.tup os) (a :: A)
  | ins {a C dx : Addr} {ns : List Str} {vs : List V} {os : List O} {A : List Addr} : H a = some (.ins C dx (ns.zip vs)) → RepOL K Z F H vs os A → RepO K Z F H (.ref a) (.ins C ns os) (a :: A)
  | at {a C dx : Addr} {ns : List Str} {vs : List V} {os : List O} {A : List Addr} : H a = some (.ins C dx (ns.zip vs)) → RepOL K Z F H vs os A → RepO K Z F H (.ref a) (.at a C ns os) (a :: A)
  | dct {a : Addr} {ks : List Key} {vs : List V} {os : List O} {A : List Addr} : H a = some (.dK (ks.zip vs)) → RepOL K Z F H vs os A → RepO K Z F H (.ref a) (.dct ks os) (a :: A)
  | dctT {a : Addr} {ks : List (List Key)} {vs : List V} {os : List O} {A : List Addr} : H a = some (.dT (ks.zip vs)) → RepOL K Z F H vs os A → RepO K Z F H (.ref a) (.dctT ks os) (a :: A)
  | loc {a : Addr} {o : O} {A : List Addr} : RepO K Z F H (.ref a) o A → RepO K Z F H (.ref a) (.loc a o) A
  | pt {a : Addr} : RepO K Z F H (.ref a) (.pt a) []
  | lk {v : V} {o : O} : RepK K Z F v o → RepO K Z F H v (.lk o) []
inductive RepOL (K : PySem.W.Frag) (Z F H : Hp) : List V → List O → List Addr → Prop where
  | nil : RepOL K Z F H [] [] []
  | cons {v : V} {vs : List V} {o : O} {os : List O} {A B : List Addr} : RepO K Z F H v o A → RepOL K Z F H vs os B → RepOL K Z F H (v :: vs) (o :: os) (A ++ B)
end

section
variable {K : PySem.W.Frag} {Z Z' F F' H H' : Hp}
mutual
theorem Rep.mono (e : Ex Z Z') : ∀ {v : V} {d : D}, Rep K Z v d → Rep K Z' v d
  | _, _, .non => .non
  | _, _, .bl b => .bl b
  | _, _, .int i => .int i
  | _, _, .str x => .str x
  | _, _, .ty n => .ty n
  | _, _, .opq a => .opq a
  | _, _, .exc h q => .exc (e _ _ h) (q.mono e)
  | _, _, .hx q => .hx (q.mono e)
  | _, _, .tup h r => .tup (e _ _ h) (RepL.mono e r)
  | _, _, .lst h r => .lst (ex_l e h) (RepL.mono e r)
  | _, _, .ins h r => .ins (e _ _ h) (RepL.mono e r)
  | _, _, .dct h r => .dct (e _ _ h) (RepL.mono e r)
  | _, _, .dctT h r => .dctT (e _ _ h) (RepL.mono e r)
theorem RepL.mono (e : Ex Z Z') : ∀ {vs : List V} {ds : List D}, RepL K Z vs ds → RepL K Z' vs ds
  | _, _, .nil => .nil
  | _, _, .cons h r => .cons (Rep.mono e h) (RepL.mono e r)
end
mutual
theorem RepK.mono (e : Ex Z Z') (f : Ex F F') : ∀ {v : V} {o : O}, RepK K Z F v o → RepK K Z' F' v o
  | _, _, .fz h => .fz (h.mono e)
  | _, _, .vw h r => .vw (ex_l f h) (r.mono e)
  | _, _, .vwa h r => .vwa (ex_l f h) (r.mono e)
  | _, _, .lst h r => .lst (f _ _ h) (RepKL.mono e f r)
  | _, _, .tup h r => .tup (f _ _ h) (RepKL.mono e f r)
  | _, _, .ins h r => .ins (f _ _ h) (RepKL.mono e f r)
  | _, _, .at h r => .at (f _ _ h) (RepKL.mono e f r)
  | _, _, .dct h r => .dct (f _ _ h) (RepKL.mono e f r)
  | _, _, .dctT h r => .dctT (f _ _ h) (RepKL.mono e f r)
  | _, .loc _ o, .loc h => .loc (RepK.mono (o := o) e f h)
  | _, _, .pt => .pt
  | _, .lk o, .lk h => .lk (RepK.mono (o := o) e f h)
theorem RepKL.mono (e : Ex Z Z') (f : Ex F F') : ∀ {vs : List V} {os : List O}, RepKL K Z F vs os → RepKL K Z' F' vs os
  | _, _, .nil => .nil
  | _, _, .cons h r => .cons (RepK.mono e f h) (RepKL.mono e f r)
end
mutual
theorem RepO.mono (e : Ex Z Z') (f : Ex F F') : ∀ {v : V} {o : O} {A : List Addr}, RepO K Z F H v o A → (∀ a ∈ A, ∀ u, H a = some u → H' a = some u) → RepO K Z' F' H' v o A
  | _, _, _, .fz h, _ => .fz (h.mono e)
  | _, _, _, .vw h r, _ => .vw (ex_l f h) (r.mono e)
  | _, _, _, .vwa h r, _ => .vwa (ex_l f h) (r.mono e)
  | _, _, _, .lk h, _ => .lk (h.mono e f)
  | _, _, _, .lst h r, k => .lst (k _ List.mem_cons_self _ h) (RepOL.mono e f r fun a m => k a (List.mem_cons_of_mem _ m))
  | _, _, _, .tup h r, k => .tup (k _ List.mem_cons_self _ h) (RepOL.mono e f r fun a m => k a (List.mem_cons_of_mem _ m))
  | _, _, _, .ins h r, k => .ins (k _ List.mem_cons_self _ h) (RepOL.mono e f r fun a m => k a (List.mem_cons_of_mem _ m))
  | _, _, _, .loc h, k => .loc (RepO.mono e f h k)
  | _, _, _, .pt, _ => .pt
  | _, _, _, .at h r, k => .at (k _ List.mem_cons_self _ h) (RepOL.mono e f r fun a m => k a (List.mem_cons_of_mem _ m))
  | _, _, _, .dct h r, k => .dct (k _ List.mem_cons_self _ h) (RepOL.mono e f r fun a m => k a (List.mem_cons_of_mem _ m))
  | _, _, _, .dctT h r, k => .dctT (k _ List.mem_cons_self _ h) (RepOL.mono e f r fun a m => k a (List.mem_cons_of_mem _ m))
theorem RepOL.mono (e : Ex Z Z') (f : Ex F F') : ∀ {vs : List V} {os : List O} {A : List Addr}, RepOL K Z F H vs os A → (∀ a ∈ A, ∀ u, H a = some u → H' a = some u) → RepOL K Z' F' H' vs os A
  | _, _, _, .nil, _ => .nil
  | _, _, _, .cons h r, k => .cons (RepO.mono e f h fun a m => k a (List.mem_append_left _ m)) (RepOL.mono e f r fun a m => k a (List.mem_append_right _ m))
end
mutual
theorem RepO.there : ∀ {v : V} {o : O} {A : List Addr}, RepO K Z F H v o A → ∀ a ∈ A, ∃ u, H a = some u
  | _, _, _, .fz _, _, m => nomatch m
  | _, _, _, .vw _ _, _, m => nomatch m
  | _, _, _, .vwa _ _, _, m => nomatch m
  | _, _, _, .lk _, _, m => nomatch m
  | _, _, _, .lst h r, a, m => (List.mem_cons.mp m).elim (fun e => ⟨_, e ▸ h⟩) fun m => RepOL.there r a m
  | _, _, _, .tup h r, a, m => (List.mem_cons.mp m).elim (fun e => ⟨_, e ▸ h⟩) fun m => RepOL.there r a m
  | _, _, _, .ins h r, a, m => (List.mem_cons.mp m).elim (fun e => ⟨_, e ▸ h⟩) fun m => RepOL.there r a m
  | _, _, _, .loc h, a, m => RepO.there h a m
  | _, _, _, .pt, _, m => nomatch m
  | _, _, _, .at h r, a, m => (List.mem_cons.mp m).elim (fun e => ⟨_, e ▸ h⟩) fun m => RepOL.there r a m
  | _, _, _, .dct h r, a, m => (List.mem_cons.mp m).elim (fun e => ⟨_, e ▸ h⟩) fun m => RepOL.there r a m
  | _, _, _, .dctT h r, a, m => (List.mem_cons.mp m).elim (fun e => ⟨_, e ▸ h⟩) fun m => RepOL.there r a m
theorem RepOL.there : ∀ {vs : List V} {os : List O} {A : List Addr}, RepOL K Z F H vs os A → ∀ a ∈ A, ∃ u, H a = some u
  | _, _, _, .nil, _, m => nomatch m
  | _, _, _, .cons h r, a, m => (List.mem_append.mp m).elim (fun m => RepO.there h a m) fun m => RepOL.there r a m
end
theorem RepO.ex {v : V} {o : O} {A : List Addr} (e : Ex Z Z') (g : Ex H H') (r : RepO K Z F H v o A) : RepO K Z' F H' v o A := r.mono e (Ex.refl _) fun a _ u h => g a u h
theorem RepO.frame {v : V} {o : O} {A : List Addr} (r : RepO K Z F H v o A) (k : ∀ a ∈ A, H' a = H a) : RepO K Z F H' v o A := r.mono (Ex.refl _) (Ex.refl _) fun a m u h => (k a m).trans h
theorem RepKL.length : ∀ {vs : List V} {os : List O}, RepKL K Z F vs os → vs.length = os.length
  | _, _, .nil => rfl
  | _, _, .cons _ r => congrArg (· + 1) r.length
theorem RepKL.get : ∀ {vs : List V} {os : List O} {i : Nat} {o : O}, RepKL K Z F vs os → os[i]? = some o → ∃ v, vs[i]? = some v ∧ RepK K Z F v o
  | _, _, _, _, .nil, e => by simp at e
  | _, _, 0, _, .cons h _, e => by
    simp at e
    subst e
    exact ⟨_, rfl, h⟩
  | _, _, i + 1, o, .cons _ r, e => by
    obtain ⟨v, h1, h2⟩ := RepKL.get (i := i) (o := o) r (by simpa using e)
    exact ⟨v, by simpa using h1, h2⟩
theorem RepKL.fzs : ∀ {ds : List D} {vs : List V}, RepKL K Z F vs (ds.map .fz) → RepL K Z vs ds
  | [], _, .nil => .nil
  | _ :: _, _, .cons (.fz h) r => .cons h r.fzs
theorem RepL.length : ∀ {vs : List V} {ds : List D}, RepL K Z vs ds → vs.length = ds.length
  | _, _, .nil => rfl
  | _, _, .cons _ r => congrArg (· + 1) r.length
theorem RepL.get : ∀ {vs : List V} {ds : List D} {i : Nat} {d : D}, RepL K Z vs ds → ds[i]? = some d → ∃ v, vs[i]? = some v ∧ Rep K Z v d
  | _, _, _, _, .nil, e => by simp at e
  | _, _, 0, _, .cons h _, e => by
    simp at e
    subst e
    exact ⟨_, rfl, h⟩
  | _, _, i + 1, d, .cons _ r, e => by
    obtain ⟨v, h1, h2⟩ := RepL.get (i := i) (d := d) r (by simpa using e)
    exact ⟨v, by simpa using h1, h2⟩
theorem RepL.append : ∀ {vs ws : List V} {ds es : List D}, RepL K Z vs ds → RepL K Z ws es → RepL K Z (vs ++ ws) (ds ++ es)
  | _, _, _, _, .nil, s => s
  | _, _, _, _, .cons h r, s => .cons h (r.append s)
theorem RepL.set {v : V} {d : D} (h : Rep K Z v d) : ∀ {vs : List V} {ds : List D} (i : Nat), RepL K Z vs ds → RepL K Z (vs.set i v) (ds.set i d)
  | _, _, _, .nil => .nil
  | _, _, 0, .cons _ r => .cons h r
  | _, _, i + 1, .cons g r => .cons g (RepL.set h i r)
theorem RepL.take : ∀ {vs : List V} {ds : List D} (n : Nat), RepL K Z vs ds → RepL K Z (vs.take n) (ds.take n)
  | _, _, 0, _ => .nil
  | _, _, _ + 1, .nil => .nil
  | _, _, n + 1, .cons h r => .cons h (RepL.take n r)
theorem RepL.drop : ∀ {vs : List V} {ds : List D} (n : Nat), RepL K Z vs ds → RepL K Z (vs.drop n) (ds.drop n)
  | _, _, 0, r => r
  | _, _, _ + 1, .nil => .nil
  | _, _, n + 1, .cons _ r => RepL.drop n r
/-- a list of frozen things -/
theorem RepOL.fzs : ∀ {ds : List D} {vs : List V} {A : List Addr}, RepOL K Z F H vs (ds.map .fz) A → A = [] ∧ RepL K Z vs ds
  | [], _, _, .nil => ⟨rfl, .nil⟩
  | _ :: _, _, _, .cons (.fz h) r => by
    obtain ⟨e, q⟩ := RepOL.fzs r
    exact ⟨by rw [e]; rfl, .cons h q⟩
theorem RepL.own : ∀ {vs : List V} {ds : List D}, RepL K Z vs ds → RepOL K Z F H vs (ds.map .fz) []
  | _, _, .nil => .nil
  | _, _, .cons h r => .cons (A := []) (B := []) (.fz h) r.own
theorem RepL.ints : ∀ {ns : List Int} {vs : List V}, RepL K Z vs (ns.map .int) → vs = ns.map V.int
  | [], _, .nil => rfl
  | _ :: _, _, .cons (.int _) r => by rw [r.ints]; rfl
theorem RepL.ofInts : ∀ {ns : List Int}, RepL K Z (ns.map V.int) (ns.map .int)
  | [] => .nil
  | n :: r => .cons (.int n) (RepL.ofInts (ns := r))
end

mutual
def O.frz : O → D
  | .fz d => d
  | .vw ds => .lst ds
  | .vwa _ ds => .lst ds
  | .lk o => o.frz
  | .lst os => .lst (O.frzL os)
  | .tup os => .tup (O.frzL os)
  | .ins C ns os => .ins C ns (O.frzL os)
  | .at _ C ns os => .ins C ns (O.frzL os)
  | .loc _ o => o.frz
  | .pt a => .opq a
  | .rs _ => .non
  | .dct ks os => .dct ks (O.frzL os)
  | .dctT ks os => .dctT ks (O.frzL os)
def O.frzL : List O → List D
  | [] => []
  | o :: r => o.frz :: O.frzL r
end
mutual
def O.nv : O → Bool
  | .fz _ => true
  | .vw _ => false
  | .vwa _ _ => false
  | .lk _ => false
  | .lst os => O.nvL os
  | .tup os => O.nvL os
  | .ins _ _ os => O.nvL os
  | .at _ _ _ os => O.nvL os
  | .loc _ o => o.nv
  | .pt _ => true
  | .rs _ => false
  | .dct _ os => O.nvL os
  | .dctT _ os => O.nvL os
def O.nvL : List O → Bool
  | [] => true
  | o :: r => o.nv && O.nvL r
end
theorem O.frzL_fz : ∀ ds : List D, O.frzL (ds.map .fz) = ds
  | [] => rfl
  | d :: r => by
    show O.frz (.fz d) :: O.frzL (r.map .fz) = d :: r
    rw [O.frzL_fz r]
    rfl
theorem O.nvL_fz : ∀ ds : List D, O.nvL (ds.map .fz) = true
  | [] => rfl
  | d :: r => by
    show (O.nv (.fz d) && O.nvL (r.map .fz)) = true
    rw [O.nvL_fz r]
    rfl
section
variable {K : PySem.W.Frag} {Z Z' F H : Hp}
mutual
theorem RepO.frz (e : Ex Z Z') : ∀ {v : V} {o : O} {A : List Addr}, RepO K Z F H v o A → (∀ a ∈ A, Z' a = H a) → o.nv = true → Rep K Z' v o.frz
  | _, _, _, .fz h, _, _ => h.mono e
  | _, _, _, .vw _ _, _, n => nomatch n
  | _, _, _, .vwa _ _, _, n => nomatch n
  | _, _, _, .lk _, _, n => nomatch n
  | _, _, _, .lst h r, k, n => .lst (SqL.of ((k _ List.mem_cons_self).trans h)) (RepOL.frz e r (fun a m => k a (List.mem_cons_of_mem _ m)) n)
  | _, _, _, .tup h r, k, n => .tup ((k _ List.mem_cons_self).trans h) (RepOL.frz e r (fun a m => k a (List.mem_cons_of_mem _ m)) n)
  | _, _, _, .ins h r, k, n => .ins ((k _ List.mem_cons_self).trans h) (RepOL.frz e r (fun a m => k a (List.mem_cons_of_mem _ m)) n)
  | _, .loc _ o, _, .loc h, k, n => by
    have h : RepO K Z F H _ o _ := h
    exact (show Rep K Z' _ o.frz from RepO.frz (o := o) e h k n)
  | _, _, _, .pt, _, _ => .opq _
  | _, _, _, .at h r, k, n => .ins ((k _ List.mem_cons_self).trans h) (RepOL.frz e r (fun a m => k a (List.mem_cons_of_mem _ m)) n)
  | _, _, _, .dct h r, k, n => .dct ((k _ List.mem_cons_self).trans h) (RepOL.frz e r (fun a m => k a (List.mem_cons_of_mem _ m)) n)
  | _, _, _, .dctT h r, k, n => .dctT ((k _ List.mem_cons_self).trans h) (RepOL.frz e r (fun a m => k a (List.mem_cons_of_mem _ m)) n)
theorem RepOL.frz (e : Ex Z Z') : ∀ {vs : List V} {os : List O} {A : List Addr}, RepOL K Z F H vs os A → (∀ a ∈ A, Z' a = H a) → O.nvL os = true → RepL K Z' vs (O.frzL os)
  | _, _, _, .nil, _, _ => .nil
  | _, _, _, .cons h r, k, n => .cons (RepO.frz e h (fun a m => k a (List.mem_append_left _ m)) (Bool.and_eq_true_iff.mp n).1) (RepOL.frz e r (fun a m => k a (List.mem_append_right _ m)) (Bool.and_eq_true_iff.mp n).2)
end
end
/-- Z and the cells at A -/
def frzAt (Z H : Hp) (A : List Addr) : Hp := fun a => if a ∈ A then H a else Z a
theorem frzAt_in {Z H : Hp} {A : List Addr} {a : Addr} (h : a ∈ A) : frzAt Z H A a = H a := if_pos h
theorem frzAt_out {Z H : Hp} {A : List Addr} {a : Addr} (h : a ∉ A) : frzAt Z H A a = Z a := if_neg h
theorem ex_frzAt {Z H : Hp} {A : List Addr} (e : Ex Z H) : Ex Z (frzAt Z H A) := fun a u h => by
  by_cases m : a ∈ A
  · rw [frzAt_in m]
    exact e a u h
  · rw [frzAt_out m]
    exact h
theorem frzAt_ex {Z H : Hp} {A : List Addr} (e : Ex Z H) : Ex (frzAt Z H A) H := fun a u h => by
  by_cases m : a ∈ A
  · rw [frzAt_in m] at h
    exact h
  · rw [frzAt_out m] at h
    exact e a u h

/-- the heap grows: frozen part Z, all H -/
structure Gr (Z H Z' H' : Hp) : Prop where
  zz : Ex Z Z'
  hh : Ex H H'
  zh : Ex Z' H'
  nw : ∀ a o, H a = some o → Z' a = Z a
theorem Gr.trans {Z H Z1 H1 Z2 H2 : Hp} (a : Gr Z H Z1 H1) (b : Gr Z1 H1 Z2 H2) : Gr Z H Z2 H2 :=
  ⟨a.zz.trans b.zz, a.hh.trans b.hh, b.zh, fun x o h => (b.nw x o (a.hh x o h)).trans (a.nw x o h)⟩
theorem Gr.refl {Z H : Hp} (h : Ex Z H) : Gr Z H Z H := ⟨Ex.refl _, Ex.refl _, h, fun _ _ _ => rfl⟩
/-- a new object that is not frozen -/
theorem Gr.new {Z H : Hp} {p : Addr} {o : HO} (h : Ex Z H) (hp : H p = none) : Gr Z H Z (upd H p o) := ⟨Ex.refl _, Ex.new hp, h.trans (Ex.new hp), fun _ _ _ => rfl⟩
/-- .. frozen at once -/
theorem Gr.newz {Z H : Hp} {p : Addr} {o : HO} (h : Ex Z H) (hp : H p = none) : Gr Z H (upd Z p o) (upd H p o) :=
  ⟨Ex.new (h.free hp), Ex.new hp, fun a u e => by
    by_cases ha : a = p
    · subst ha
      rw [upd_same] at e ⊢
      exact e
    · rw [upd_ne ha] at e ⊢
      exact h a u e, fun a u e => upd_ne (ne_of_none e hp)⟩

abbrev Slots := List (Option O)
inductive StL (K : PySem.W.Frag) (Z F H : Hp) : Slots → L2.St → List Addr → Prop where
  | nil : StL K Z F H [] [] []
  | no {s : Option V} {ρ : Slots} {σ : L2.St} {A : List Addr} : StL K Z F H ρ σ A → StL K Z F H (none :: ρ) (s :: σ) A
  | so {v : V} {o : O} {ρ : Slots} {σ : L2.St} {A B : List Addr} : RepO K Z F H v o A → StL K Z F H ρ σ B → StL K Z F H (some o :: ρ) (some v :: σ) (A ++ B)
structure StR (K : PySem.W.Frag) (ρ : Slots) (Z0 F Z : Hp) (σ : L2.St) (H : Hp) : Prop where
  gr : Gr Z0 F Z H
  st : ∃ A, StL K Z F H ρ σ A ∧ A.Nodup ∧ ∀ a ∈ A, Z a = none ∧ F a = none
section
variable {K : PySem.W.Frag} {Z0 Z Z' F H H' : Hp} {ρ : Slots} {σ : L2.St}
theorem StL.mono (e : Ex Z Z') : ∀ {ρ : Slots} {σ : L2.St} {A : List Addr}, StL K Z F H ρ σ A → (∀ a ∈ A, ∀ u, H a = some u → H' a = some u) → StL K Z' F H' ρ σ A
  | _, _, _, .nil, _ => .nil
  | _, _, _, .no h, k => .no (h.mono e k)
  | _, _, _, .so r h, k => .so (r.mono e (Ex.refl _) fun a m => k a (List.mem_append_left _ m)) (h.mono e fun a m => k a (List.mem_append_right _ m))
theorem StL.there : ∀ {ρ : Slots} {σ : L2.St} {A : List Addr}, StL K Z F H ρ σ A → ∀ a ∈ A, ∃ u, H a = some u
  | _, _, _, .nil, _, m => nomatch m
  | _, _, _, .no h, a, m => h.there a m
  | _, _, _, .so r h, a, m => (List.mem_append.mp m).elim (fun m => r.there a m) fun m => h.there a m
theorem StL.length : ∀ {ρ : Slots} {σ : L2.St} {A : List Addr}, StL K Z F H ρ σ A → σ.length = ρ.length
  | _, _, _, .nil => rfl
  | _, _, _, .no h => congrArg (· + 1) h.length
  | _, _, _, .so _ h => congrArg (· + 1) h.length
theorem StL.get : ∀ {ρ : Slots} {σ : L2.St} {A : List Addr} {i : Nat} {o : O}, StL K Z F H ρ σ A → ρ[i]? = some (some o) → ∃ v B, σ[i]? = some (some v) ∧ RepO K Z F H v o B ∧ ∀ a ∈ B, a ∈ A
  | _, _, _, _, _, .nil, e => by simp at e
  | _, _, _, 0, _, .no h, e => by simp at e
  | _, _, _, i + 1, _, .no h, e => by
    obtain ⟨v, B, h1, h2, h3⟩ := h.get (i := i) (by simpa using e)
    exact ⟨v, B, by simpa using h1, h2, h3⟩
  | _, _, _, 0, _, .so r h, e => by
    simp at e
    subst e
    exact ⟨_, _, rfl, r, fun a m => List.mem_append_left _ m⟩
  | _, _, _, i + 1, _, .so r h, e => by
    obtain ⟨v, B, h1, h2, h3⟩ := h.get (i := i) (by simpa using e)
    exact ⟨v, B, by simpa using h1, h2, fun a m => List.mem_append_right _ (h3 a m)⟩
/-- a slot is stored anew -/
theorem StL.put {v : V} {o : O} {B : List Addr} (r : RepO K Z F H v o B) : ∀ {ρ : Slots} {σ : L2.St} {A : List Addr} {i : Nat}, StL K Z F H ρ σ A → i < ρ.length → A.Nodup → B.Nodup → (∀ a ∈ B, a ∉ A) →
    ∃ A', StL K Z F H (ρ.set i (some o)) (σ.set i (some v)) A' ∧ A'.Nodup ∧ ∀ a ∈ A', a ∈ A ∨ a ∈ B
  | _, _, _, _, .nil, hi, _, _, _ => by simp at hi
  | _, _, _, 0, .no h, _, nA, nB, d => ⟨_, .so r h, by
      refine List.nodup_append.mpr ⟨nB, nA, fun a ha b hb e => ?_⟩
      subst e
      exact d a ha hb, fun a m => (List.mem_append.mp m).symm⟩
  | _, _, _, i + 1, .no h, hi, nA, nB, d => by
    obtain ⟨A', h1, h2, h3⟩ := StL.put r (i := i) h (by simpa using hi) nA nB d
    exact ⟨A', .no h1, h2, h3⟩
  | _, _, _, 0, .so (A := A1) (B := A2) _ h, _, nA, nB, d => ⟨_, .so r h, by
      refine List.nodup_append.mpr ⟨nB, (List.nodup_append.mp nA).2.1, fun a ha b hb e => ?_⟩
      subst e
      exact d a ha (List.mem_append_right _ hb), fun a m => (List.mem_append.mp m).elim .inr fun m => .inl (List.mem_append_right _ m)⟩
  | _, _, _, i + 1, .so (A := A1) (B := A2) q h, hi, nA, nB, d => by
    obtain ⟨n1, n2, n3⟩ := List.nodup_append.mp nA
    obtain ⟨A', h1, h2, h3⟩ := StL.put r (i := i) h (by simpa using hi) n2 nB fun a ha hb => d a ha (List.mem_append_right _ hb)
    refine ⟨_, .so q h1, List.nodup_append.mpr ⟨n1, h2, fun a ha b hb e => ?_⟩, fun a m => ?_⟩
    · subst e
      rcases h3 a hb with z | z
      · exact n3 a ha a z rfl
      · exact d a z (List.mem_append_left _ ha)
    · rcases List.mem_append.mp m with m | m
      · exact .inl (List.mem_append_left _ m)
      · exact (h3 a m).imp (List.mem_append_right _) id
/-- a slot's own thing is changed in place -/
theorem StL.at : ∀ {ρ : Slots} {σ : L2.St} {A : List Addr} {i : Nat} {o : O}, StL K Z F H ρ σ A → ρ[i]? = some (some o) → A.Nodup →
    ∃ v B, σ[i]? = some (some v) ∧ RepO K Z F H v o B ∧ B.Nodup ∧ (∀ a ∈ B, a ∈ A) ∧ ∀ {Z' H' : Hp} {v' : V} {o' : O} {B' : List Addr}, Ex Z Z' → (∀ a ∈ A, a ∉ B → ∀ u, H a = some u → H' a = some u) → RepO K Z' F H' v' o' B' → B'.Nodup → (∀ a ∈ B', a ∈ A → a ∈ B) →
      ∃ A', StL K Z' F H' (ρ.set i (some o')) (σ.set i (some v')) A' ∧ A'.Nodup ∧ ∀ a ∈ A', (a ∈ A ∧ a ∉ B) ∨ a ∈ B'
  | _, _, _, _, _, .nil, e, _ => by simp at e
  | _, _, _, 0, _, .no h, e, _ => by simp at e
  | _, _, _, i + 1, _, .no h, e, nA => by
    obtain ⟨v, B, h1, h2, h3, h4, h5⟩ := StL.at (i := i) h (by simpa using e) nA
    refine ⟨v, B, by simpa using h1, h2, h3, h4, fun ez k r n d => ?_⟩
    obtain ⟨A', q1, q2, q3⟩ := h5 ez k r n d
    exact ⟨A', .no q1, q2, q3⟩
  | _, _, _, 0, _, .so (A := A1) (B := A2) q h, e, nA => by
    simp at e
    subst e
    obtain ⟨n1, n2, n3⟩ := List.nodup_append.mp nA
    refine ⟨_, A1, rfl, q, n1, fun a m => List.mem_append_left _ m, fun ez k r n d => ?_⟩
    refine ⟨_, .so r (h.mono ez fun a m => k a (List.mem_append_right _ m) fun z => n3 a z a m rfl), List.nodup_append.mpr ⟨n, n2, fun a ha b hb e => ?_⟩, fun a m => ?_⟩
    · subst e
      exact n3 a (d a ha (List.mem_append_right _ hb)) a hb rfl
    · rcases List.mem_append.mp m with m | m
      · exact .inr m
      · exact .inl ⟨List.mem_append_right _ m, fun z => n3 a z a m rfl⟩
  | _, _, _, i + 1, _, .so (A := A1) (B := A2) q h, e, nA => by
    obtain ⟨n1, n2, n3⟩ := List.nodup_append.mp nA
    obtain ⟨v, B, h1, h2, h3, h4, h5⟩ := StL.at (i := i) h (by simpa using e) n2
    refine ⟨v, B, by simpa using h1, h2, h3, fun a m => List.mem_append_right _ (h4 a m), fun ez k r n d => ?_⟩
    obtain ⟨A', q1, q2, q3⟩ := h5 ez (fun a m nb => k a (List.mem_append_right _ m) nb) r n fun a m z => d a m (List.mem_append_right _ z)
    refine ⟨_, .so (q.mono ez (Ex.refl _) fun a m => k a (List.mem_append_left _ m) fun z => n3 a m a (h4 a z) rfl) q1, List.nodup_append.mpr ⟨n1, q2, fun a ha b hb e => ?_⟩, fun a m => ?_⟩
    · subst e
      rcases q3 a hb with z | z
      · exact n3 a ha a z.1 rfl
      · exact n3 a ha a (h4 a (d a z (List.mem_append_left _ ha))) rfl
    · rcases List.mem_append.mp m with m | m
      · exact .inl ⟨List.mem_append_left _ m, fun z => n3 a m a (h4 a z) rfl⟩
      · exact (q3 a m).imp (fun z => ⟨List.mem_append_right _ z.1, z.2⟩) id

theorem StR.ex (s : StR K ρ Z0 F Z σ H) : Ex Z H := s.gr.zh
theorem StR.grow (s : StR K ρ Z0 F Z σ H) (g : Gr Z H Z' H') : StR K ρ Z0 F Z' σ H' := by
  obtain ⟨A, h1, h2, h3⟩ := s.st
  refine ⟨s.gr.trans g, A, h1.mono g.zz fun a _ u e => g.hh a u e, h2, fun a m => ⟨?_, (h3 a m).2⟩⟩
  obtain ⟨u, e⟩ := h1.there a m
  rw [g.nw a u e]
  exact (h3 a m).1
theorem StR.len (s : StR K ρ Z0 F Z σ H) : σ.length = ρ.length := let ⟨_, h, _⟩ := s.st; h.length
/-- what is new: not there ahead, not frozen -/
def New (H Z' : Hp) (A : List Addr) : Prop := A.Nodup ∧ ∀ a ∈ A, H a = none ∧ Z' a = none
theorem New.nil {H Z' : Hp} : New H Z' [] := ⟨List.nodup_nil, fun _ m => nomatch m⟩
theorem StR.put {v : V} {o : O} {B : List Addr} {i : Nat} (s : StR K ρ Z0 F Z σ H) (g : Gr Z H Z' H') (r : RepO K Z' F H' v o B) (n : New H Z' B) (hi : i < ρ.length) : StR K (ρ.set i (some o)) Z0 F Z' (σ.set i (some v)) H' := by
  have s' := s.grow g
  obtain ⟨A, h1, h2, h3⟩ := s.st
  have m1 : StL K Z' F H' ρ σ A := h1.mono g.zz fun a _ u e => g.hh a u e
  obtain ⟨A', q1, q2, q3⟩ := StL.put r m1 hi h2 n.1 fun a ha hb => by
    obtain ⟨u, e⟩ := h1.there a hb
    rw [(n.2 a ha).1] at e
    cases e
  refine ⟨s'.gr, A', q1, q2, fun a m => ?_⟩
  rcases q3 a m with z | z
  · obtain ⟨u, e⟩ := h1.there a z
    exact ⟨(g.nw a u e).trans (h3 a z).1, (h3 a z).2⟩
  · exact ⟨(n.2 a z).2, s.gr.hh.free (n.2 a z).1⟩
theorem set_same {σ : L2.St} {i : Nat} {v : V} (q : σ[i]? = some (some v)) : σ.set i (some v) = σ := by
  apply List.ext_getElem?
  intro j
  by_cases hj : i = j
  · subst hj
    rw [List.getElem?_set_self (List.getElem?_eq_some_iff.mp q).1, q]
  · rw [List.getElem?_set_ne hj]
/-- a slot's own thing changes -/
theorem StR.upd {i : Nat} {o : O} (s : StR K ρ Z0 F Z σ H) (hi : ρ[i]? = some (some o)) : ∃ v A, σ[i]? = some (some v) ∧ RepO K Z F H v o A ∧ A.Nodup ∧ (∀ a ∈ A, Z a = none ∧ F a = none) ∧
    ∀ {Z' H' : Hp} {o' : O} {A' : List Addr}, Ex Z Z' → (∀ a u, H a = some u → Z' a = Z a) → Ex Z' H' → (∀ a, a ∉ A → ∀ u, H a = some u → H' a = some u) → RepO K Z' F H' v o' A' → A'.Nodup → (∀ a ∈ A', a ∈ A ∨ (H a = none ∧ Z' a = none)) →
      StR K (ρ.set i (some o')) Z0 F Z' σ H' := by
  obtain ⟨A, h1, h2, h3⟩ := s.st
  obtain ⟨v, B, q1, q2, q3, q4, q5⟩ := h1.at hi h2
  refine ⟨v, B, q1, q2, q3, fun a m => h3 a (q4 a m), fun {Z' H' o' A'} ez nz zh k r n d => ?_⟩
  obtain ⟨A2, r1, r2, r3⟩ := q5 (v' := v) ez (fun a _ nb u e => k a nb u e) r n fun a m ma => by
    rcases d a m with z | z
    · exact z
    · obtain ⟨u, e⟩ := h1.there a ma
      rw [z.1] at e
      cases e
  rw [set_same q1] at r1
  have hF : ∀ a u, F a = some u → a ∉ B := fun a u e m => by
    rw [(h3 a (q4 a m)).2] at e
    cases e
  refine ⟨⟨s.gr.zz.trans ez, fun a u e => k a (hF a u e) u (s.gr.hh a u e), zh, fun a u e => (nz a u (s.gr.hh a u e)).trans (s.gr.nw a u e)⟩, A2, r1, r2, fun a m => ?_⟩
  have old : ∀ a ∈ A, Z' a = none ∧ F a = none := fun a m => by
    obtain ⟨u, e⟩ := h1.there a m
    exact ⟨(nz a u e).trans (h3 a m).1, (h3 a m).2⟩
  rcases r3 a m with z | z
  · exact old a z.1
  · rcases d a z with y | y
    · exact old a (q4 a y)
    · exact ⟨y.2, s.gr.hh.free y.1⟩
/-- slots are forgotten -/
inductive Le : Slots → Slots → Prop where
  | nil : Le [] []
  | no {x : Option O} {ρ τ : Slots} : Le ρ τ → Le (x :: ρ) (none :: τ)
  | eq {x : Option O} {ρ τ : Slots} : Le ρ τ → Le (x :: ρ) (x :: τ)
theorem Le.refl : ∀ ρ : Slots, Le ρ ρ
  | [] => .nil
  | _ :: r => .eq (Le.refl r)
theorem StL.le : ∀ {ρ τ : Slots} {σ : L2.St} {A : List Addr}, Le ρ τ → StL K Z F H ρ σ A → A.Nodup → ∃ A', StL K Z F H τ σ A' ∧ A'.Nodup ∧ ∀ a ∈ A', a ∈ A
  | _, _, _, _, .nil, .nil, n => ⟨_, .nil, n, fun _ m => m⟩
  | _, _, _, _, .no l, .no h, n => by
    obtain ⟨A', q1, q2, q3⟩ := StL.le l h n
    exact ⟨A', .no q1, q2, q3⟩
  | _, _, _, _, .no l, .so _ h, n => by
    obtain ⟨A', q1, q2, q3⟩ := StL.le l h (List.nodup_append.mp n).2.1
    exact ⟨A', .no q1, q2, fun a m => List.mem_append_right _ (q3 a m)⟩
  | _, _, _, _, .eq l, .no h, n => by
    obtain ⟨A', q1, q2, q3⟩ := StL.le l h n
    exact ⟨A', .no q1, q2, q3⟩
  | _, _, _, _, .eq l, .so r h, n => by
    obtain ⟨n1, n2, n3⟩ := List.nodup_append.mp n
    obtain ⟨A', q1, q2, q3⟩ := StL.le l h n2
    refine ⟨_, .so r q1, List.nodup_append.mpr ⟨n1, q2, fun a ha b hb => n3 a ha b (q3 b hb)⟩, fun a m => ?_⟩
    rcases List.mem_append.mp m with m | m
    · exact List.mem_append_left _ m
    · exact List.mem_append_right _ (q3 a m)
theorem StR.le {τ : Slots} (s : StR K ρ Z0 F Z σ H) (l : Le ρ τ) : StR K τ Z0 F Z σ H := by
  obtain ⟨A, h1, h2, h3⟩ := s.st
  obtain ⟨A', q1, q2, q3⟩ := h1.le l h2
  exact ⟨s.gr, A', q1, q2, fun a m => h3 a (q3 a m)⟩
end
end M
namespace M
open PySem L2

def wE (X : Cx) (e : Expr) : TE := fun σ H Q => ∀ (pins : List (Addr × Obj)) (s : Shared), Inv X pins σ H s → wpAny (model X.prog X.w) X.A (eval e X.env) (EP X pins σ Q) X.xe s
def wT (X : Cx) (e : Expr) : TT := fun σ H Q => ∀ (pins : List (Addr × Obj)) (s : Shared), Inv X pins σ H s → wpAny (model X.prog X.w) X.A (isTrue e X.env (eval e X.env)) (TP X pins σ Q) X.xe s
def wA (X : Cx) (es : List Expr) : TA := fun σ H Q => ∀ (pos : Pos) (pins : List (Addr × Obj)) (s : Shared), Inv X pins σ H s → wpAny (model X.prog X.w) X.A (spliced (backTo pos (starEach es X.env))) (AP X pins σ Q) X.xe s
def wS1 (X : Cx) (st : Stmt) : TS := fun D σ H => ∀ (pins : List (Addr × Obj)) (s : Shared), Inv X pins σ H s → wpAny (model X.prog X.w) X.A (exec st X.env) (SP X pins D) X.xe s
def wS (X : Cx) (st : List Stmt) : TS := fun D σ H => ∀ (pins : List (Addr × Obj)) (s : Shared), Inv X pins σ H s → wpAny (model X.prog X.w) X.A (execs st X.env) (SP X pins D) X.xe s
section
variable {X : Cx} {e : Expr} {es : List Expr} {st : Stmt} {sts : List Stmt}
theorem pe_w : PE X e (wE X e) := ⟨fun pins s _ _ _ I h => h pins s I⟩
theorem pt_w : PT X e (wT X e) := ⟨fun pins s _ _ _ I h => h pins s I⟩
theorem pa_w : PA X es (wA X es) := ⟨fun pos pins s _ _ _ I h => h pos pins s I⟩
theorem ps_w : PS X st (wS1 X st) := ⟨fun pins s _ _ _ I h => h pins s I⟩
theorem pss_w : PSs X sts (wS X sts) := ⟨fun pins s _ _ _ I h => h pins s I⟩
theorem PE_w {t : TE} (p : PE X e t) {σ : L2.St} {H : Hp} {Q : VK} (h : t σ H Q) : wE X e σ H Q := fun pins s I => p.run pins s σ H Q I h
theorem PT_w {t : TT} (p : PT X e t) {σ : L2.St} {H : Hp} {Q : Bool → Hp → Prop} (h : t σ H Q) : wT X e σ H Q := fun pins s I => p.run pins s σ H Q I h
theorem PA_w {t : TA} (p : PA X es t) {σ : L2.St} {H : Hp} {Q : List V → Hp → Prop} (h : t σ H Q) : wA X es σ H Q := fun pos pins s I => p.run pos pins s σ H Q I h
theorem PS_w {t : TS} (p : PS X st t) {σ : L2.St} {H : Hp} {D : Ends} (h : t D σ H) : wS1 X st D σ H := fun pins s I => p.run pins s σ H D I h
theorem PSs_w {t : TS} (p : PSs X sts t) {σ : L2.St} {H : Hp} {D : Ends} (h : t D σ H) : wS X sts D σ H := fun pins s I => p.run pins s σ H D I h
end

/-- a new thing (or a frozen one) -/
structure ME (X : Cx) (ρ : Slots) (e : Expr) (o : O) : Prop where
  run : ∀ (Z0 F Z : Hp) (σ : L2.St) (H : Hp), StR X.K ρ Z0 F Z σ H → ∀ Q : VK,
  (∀ v Z' H' A, Gr Z H Z' H' → RepO X.K Z' F H' v o A → New H Z' A → Q v H') → wE X e σ H Q
/-- a thing that is looked at -/
structure MV (X : Cx) (ρ : Slots) (e : Expr) (o : O) : Prop where
  run : ∀ (Z0 F Z : Hp) (σ : L2.St) (H : Hp), StR X.K ρ Z0 F Z σ H → ∀ Q : VK,
  (∀ v Z' H' A, Gr Z H Z' H' → RepO X.K Z' F H' v o A → Q v H') → wE X e σ H Q
/-- a list that is looked at -/
structure ML (X : Cx) (ρ : Slots) (e : Expr) (ds : List D) : Prop where
  run : ∀ (Z0 F Z : Hp) (σ : L2.St) (H : Hp), StR X.K ρ Z0 F Z σ H → ∀ Q : VK,
  (∀ a vs Z' H', Gr Z H Z' H' → SqL X.K H' a vs → RepL X.K Z' vs ds → Q (.ref a) H') → wE X e σ H Q
/-- a tuple that is looked at -/
structure MU (X : Cx) (ρ : Slots) (e : Expr) (ds : List D) : Prop where
  run : ∀ (Z0 F Z : Hp) (σ : L2.St) (H : Hp), StR X.K ρ Z0 F Z σ H → ∀ Q : VK,
  (∀ a vs Z' H', Gr Z H Z' H' → SqT X.K H' a vs → RepL X.K Z' vs ds → Q (.ref a) H') → wE X e σ H Q
structure MT (X : Cx) (ρ : Slots) (e : Expr) (b : Bool) : Prop where
  run : ∀ (Z0 F Z : Hp) (σ : L2.St) (H : Hp), StR X.K ρ Z0 F Z σ H → ∀ Q : Bool → Hp → Prop,
  (∀ Z' H', Gr Z H Z' H' → Q b H') → wT X e σ H Q
/-- arguments: frozen things, lists that are looked at -/
structure MA (X : Cx) (ρ : Slots) (es : List Expr) (os : List O) : Prop where
  run : ∀ (Z0 F Z : Hp) (σ : L2.St) (H : Hp), StR X.K ρ Z0 F Z σ H → ∀ Q : List V → Hp → Prop,
  (∀ vs Z' H', Gr Z H Z' H' → RepOL X.K Z' H' H' vs os [] → Q vs H') → wA X es σ H Q
/-- what is handed back: own slots may go with it -/
structure MR (X : Cx) (ρ : Slots) (e : Expr) (o : O) : Prop where
  run : ∀ (Z0 F Z : Hp) (σ : L2.St) (H : Hp), StR X.K ρ Z0 F Z σ H → ∀ Q : VK,
  (∀ v Z' H' A, Gr Z H Z' H' → RepO X.K Z' F H' v o A → A.Nodup → (∀ a ∈ A, Z' a = none ∧ F a = none) → Q v H') → wE X e σ H Q

structure Go where
  nx : Slots → Prop := fun _ => False
  rt : O → Prop := fun _ => False
  bk : Slots → Prop := fun _ => False
  ct : Slots → Prop := fun _ => False
  rs : O → Slots → Prop := fun _ _ => False
/-- the error e is taken -/
def Thrown (K : PySem.W.Frag) (W : WX) (e : Er) (Z : Hp) (σ : L2.St) (H : Hp) : Prop := match e.fld with
  | none => W (.ref e.C) none σ H
  | some (f, d) => ∀ (a : Addr) (v : V), H a = none → Rep K Z v d → W (.ref e.C) (some a) σ (upd H a (.xd [(f, v)]))
/-- the errors r are taken -/
def GX (X : Cx) (Z0 F : Hp) (r : O → Prop) : Prop := ∃ W : WX, Takes X W ∧ ∀ (e : Er) (ρ : Slots) (Z : Hp) (σ : L2.St) (H : Hp), r (.rs e) → StR X.K ρ Z0 F Z σ H → Thrown X.K W e Z σ H
theorem GX.never {X : Cx} {Z0 F : Hp} {r : O → Prop} (n : ∀ e, ¬ r (.rs e)) : GX X Z0 F r := ⟨fun _ _ _ _ => False, fun _ _ ⟨_, _, _, _, _, _, _, _, _, _, _, _, _, _, _, _, w⟩ => w.elim, fun e _ _ _ _ k _ => (n e k).elim⟩
theorem GX.imp {X : Cx} {Z0 F : Hp} {r r' : O → Prop} (g : GX X Z0 F r) (h : ∀ o, r' o → r o) : GX X Z0 F r' := by
  obtain ⟨W, t, k⟩ := g
  exact ⟨W, t, fun e ρ Z σ H q s => k e ρ Z σ H (h _ q) s⟩
structure GD (X : Cx) (Z0 F : Hp) (G : Go) (D : Ends) : Prop where
  nx : ∀ ρ Z σ H, G.nx ρ → StR X.K ρ Z0 F Z σ H → D.nx σ H
  bk : ∀ ρ Z σ H, G.bk ρ → StR X.K ρ Z0 F Z σ H → D.bk σ H
  ct : ∀ ρ Z σ H, G.ct ρ → StR X.K ρ Z0 F Z σ H → D.ct σ H
  rt : ∀ o v Z H A, G.rt o → Gr Z0 F Z H → RepO X.K Z F H v o A → New F Z A → D.rt v H
  rs : ∀ o ρ v Z σ H, G.rs o ρ → StR X.K (ρ ++ [some o]) Z0 F Z (σ ++ [some v]) H → D.rt v H
  ex : GX X Z0 F G.rt
structure MS1 (X : Cx) (ρ : Slots) (st : Stmt) (G : Go) : Prop where
  run : ∀ (Z0 F Z : Hp) (σ : L2.St) (H : Hp) (D : Ends), StR X.K ρ Z0 F Z σ H → GD X Z0 F G D → wS1 X st D σ H
structure MS (X : Cx) (ρ : Slots) (sts : List Stmt) (G : Go) : Prop where
  run : ∀ (Z0 F Z : Hp) (σ : L2.St) (H : Hp) (D : Ends), StR X.K ρ Z0 F Z σ H → GD X Z0 F G D → wS X sts D σ H
/-- then the rest -/
def Go.th (G : Go) (X : Cx) (sts : List Stmt) : Go := { G with nx := fun ρ => MS X ρ sts G }

section
variable {X : Cx} {ρ : Slots} {e : Expr} {es : List Expr} {st : Stmt} {sts : List Stmt} {G : Go} {o : O} {d : D} {ds : List D} {pos : Pos}
theorem ms_nil (h : G.nx ρ) : MS X ρ [] G := .mk fun Z0 F Z σ H D s g => PSs_w pss_nil (g.nx ρ Z σ H h s)
theorem ms_cons (h : MS1 X ρ st (G.th X sts)) : MS X ρ (st :: sts) G := .mk fun Z0 F Z σ H D s g =>
  PSs_w (pss_cons ps_w pss_w) (h.run Z0 F Z σ H _ s ⟨fun ρ' Z' σ' H' m s' => m.run Z0 F Z' σ' H' D s' g, g.bk, g.ct, g.rt, g.rs, g.ex⟩)
theorem ms_one (h : MS1 X ρ st G) : MS X ρ [st] G := .mk fun Z0 F Z σ H D s g => PSs_w (pss_one ps_w) (h.run Z0 F Z σ H _ s g)

theorem ME.v (h : ME X ρ e o) : MV X ρ e o := .mk fun Z0 F Z σ H s Q q => h.run Z0 F Z σ H s Q fun v Z' H' A g r _ => q v Z' H' A g r
theorem MV.em (h : MV X ρ e (.fz d)) : ME X ρ e (.fz d) := .mk fun Z0 F Z σ H s Q q => h.run Z0 F Z σ H s Q fun v Z' H' A g r => by
  cases r with
  | fz r => exact q v Z' H' [] g (.fz r) .nil
theorem ME.r (h : ME X ρ e o) : MR X ρ e o := .mk fun Z0 F Z σ H s Q q => h.run Z0 F Z σ H s Q fun v Z' H' A g r n => q v Z' H' A g r n.1 fun a m => ⟨(n.2 a m).2, s.gr.hh.free (n.2 a m).1⟩
/-- the lists that can be looked at -/
inductive IsLst : O → List D → Prop where
  | fz (ds : List D) : IsLst (.fz (.lst ds)) ds
  | vw (ds : List D) : IsLst (.vw ds) ds
  | vwa (a : Addr) (ds : List D) : IsLst (.vwa a ds) ds
  | own (ds : List D) : IsLst (.lst (ds.map .fz)) ds
inductive IsTp : O → List D → Prop where
  | fz (ds : List D) : IsTp (.fz (.tup ds)) ds
  | own (ds : List D) : IsTp (.tup (ds.map .fz)) ds
theorem MV.l (h : MV X ρ e o) (i : IsLst o ds) : ML X ρ e ds := .mk fun Z0 F Z σ H s Q q => h.run Z0 F Z σ H s Q fun v Z' H' A g r => by
  cases i with
  | fz ds =>
    cases r with
    | fz r =>
      cases r with
      | lst a b => exact q _ _ Z' H' g (ex_l g.zh a) b
  | vw ds =>
    cases r with
    | vw a b => exact q _ _ Z' H' g (ex_l (s.gr.hh.trans g.hh) a) b
  | vwa a ds =>
    cases r with
    | vwa a b => exact q _ _ Z' H' g (ex_l (s.gr.hh.trans g.hh) a) b
  | own ds =>
    cases r with
    | lst a b => exact q _ _ Z' H' g (.of a) (RepOL.fzs b).2
theorem MV.u (h : MV X ρ e o) (i : IsTp o ds) : MU X ρ e ds := .mk fun Z0 F Z σ H s Q q => h.run Z0 F Z σ H s Q fun v Z' H' A g r => by
  cases i with
  | fz ds =>
    cases r with
    | fz r =>
      cases r with
      | tup a b => exact q _ _ Z' H' g (.of (g.zh _ _ a)) b
  | own ds =>
    cases r with
    | tup a b => exact q _ _ Z' H' g (.of a) (RepOL.fzs b).2





/-- a new thing is frozen at once -/
theorem ME.frz (h : ME X ρ e o) (n : o.nv = true) : ME X ρ e (.fz o.frz) := .mk fun Z0 F Z σ H s Q q => h.run Z0 F Z σ H s Q fun v Z' H' A g r w => by
  refine q v (frzAt Z' H' A) H' [] ⟨g.zz.trans (ex_frzAt g.zh), g.hh, frzAt_ex g.zh, fun a u e => ?_⟩ (.fz (r.frz (ex_frzAt g.zh) (fun a m => frzAt_in m) n)) .nil
  have na : a ∉ A := fun m => by
    rw [(w.2 a m).1] at e
    cases e
  rw [frzAt_out na]
  exact g.nw a u e
theorem ME.frzl (h : ME X ρ e (.lst (ds.map .fz))) : ME X ρ e (.fz (.lst ds)) := by
  have q := h.frz (O.nvL_fz ds)
  rw [show (O.lst (ds.map .fz)).frz = .lst ds from congrArg D.lst (O.frzL_fz ds)] at q
  exact q
theorem ME.l (h : ME X ρ e (.lst (ds.map .fz))) : ML X ρ e ds := MV.l h.v (.own ds)

theorem mv_var {i : Nat} {x : Str} (p : PE X (.Name x pos) (tVar i)) (h : ρ[i]? = some (some o)) : MV X ρ (.Name x pos) o := .mk fun Z0 F Z σ H s Q q => by
  obtain ⟨A, h1, h2, h3⟩ := s.st
  obtain ⟨v, B, e, r, _⟩ := h1.get h
  exact PE_w p ⟨v, e, q v Z H B (Gr.refl s.ex) r⟩
theorem me_var {i : Nat} {x : Str} (p : PE X (.Name x pos) (tVar i)) (h : ρ[i]? = some (some (.fz d))) : ME X ρ (.Name x pos) (.fz d) := MV.em (mv_var p h)
theorem mr_var {i : Nat} {x : Str} (p : PE X (.Name x pos) (tVar i)) (h : ρ[i]? = some (some o)) : MR X ρ (.Name x pos) o := .mk fun Z0 F Z σ H s Q q => by
  obtain ⟨A, h1, h2, h3⟩ := s.st
  obtain ⟨v, B, e, r, n, m, _⟩ := h1.at h h2
  exact PE_w p ⟨v, e, q v Z H B (Gr.refl s.ex) r n fun a z => h3 a (m a z)⟩
/-- a value that is what it is -/
inductive Sc : D → V → Prop where
  | non : Sc .non .non
  | bl (b : Bool) : Sc (.bl b) (.bl b)
  | int (i : Int) : Sc (.int i) (.int i)
  | str (x : Str) : Sc (.str x) (.str x)
  | ty (n : String) : Sc (.ty n) (.ty n)
  | opq (a : Addr) : Sc (.opq a) (.ref a)
theorem Sc.rep {K : PySem.W.Frag} {Z : Hp} {v : V} (h : Sc d v) : Rep K Z v d := by
  cases h <;> constructor
theorem Sc.eq {K : PySem.W.Frag} {Z : Hp} {v w : V} (h : Sc d v) (r : Rep K Z w d) : w = v := by
  cases h <;> cases r <;> rfl
theorem me_c {v : V} (p : PE X e (tC v)) (h : Sc d v) : ME X ρ e (.fz d) := .mk fun Z0 F Z σ H s Q q => PE_w p (q v Z H [] (Gr.refl s.ex) (.fz h.rep) .nil)
theorem me_int {i : Int} {j : Nat} : ME X ρ (.Constant (.int i) j pos) (.fz (.int i)) := me_c pe_int (.int i)
theorem me_bl {b : Bool} {j : Nat} : ME X ρ (.Constant (.bool b) j pos) (.fz (.bl b)) := me_c pe_bl (.bl b)
theorem me_str {x : Str} {j : Nat} : ME X ρ (.Constant (.str x) j pos) (.fz (.str x)) := me_c pe_str (.str x)

variable {a b : Expr} {d1 d2 d3 : D} {x y z : V}
theorem me_r2 {r : R2} {t : TE} (p : PE X e (tOp r (wE X a) (wE X b))) (ha : ME X ρ a (.fz d1)) (hb : ME X ρ b (.fz d2)) (s1 : Sc d1 x) (s2 : Sc d2 y) (s3 : Sc d3 z) (h : ∀ H (Q : VK), Q z H → r x y H Q) : ME X ρ e (.fz d3) := .mk fun Z0 F Z σ H s Q q => by
  refine PE_w p (ha.run Z0 F Z σ H s _ fun v Z1 H1 A1 g1 r1 n1 => ?_)
  refine hb.run Z0 F Z1 σ H1 (s.grow g1) _ fun w Z2 H2 A2 g2 r2 n2 => ?_
  cases r1 with
  | fz r1 =>
    cases r2 with
    | fz r2 =>
      rw [s1.eq r1, s2.eq r2]
      exact h H2 Q (q z Z2 H2 [] (g1.trans g2) (.fz s3.rep) .nil)
theorem me_op {op : Operator} {r : R2} (ho : OpR X (binaryOp op) r) (ha : ME X ρ a (.fz d1)) (hb : ME X ρ b (.fz d2)) (s1 : Sc d1 x) (s2 : Sc d2 y) (s3 : Sc d3 z) (h : ∀ H (Q : VK), Q z H → r x y H Q) : ME X ρ (.BinOp a op b pos) (.fz d3) :=
  me_r2 (t := tOp r (wE X a) (wE X b)) (pe_op ho pe_w pe_w) ha hb s1 s2 s3 h
variable {i j : Int}
theorem me_add (ha : ME X ρ a (.fz (.int i))) (hb : ME X ρ b (.fz (.int j))) : ME X ρ (.BinOp a .Add b pos) (.fz (.int (i + j))) := me_op op_add ha hb (.int i) (.int j) (.int _) fun _ _ q => ⟨i, j, rfl, rfl, q⟩
theorem me_mul (ha : ME X ρ a (.fz (.int i))) (hb : ME X ρ b (.fz (.int j))) (c : CMul i j := by first | exact Or.inr (by decide) | exact Or.inl (by decide)) : ME X ρ (.BinOp a .Mult b pos) (.fz (.int (i * j))) := me_op op_mul ha hb (.int i) (.int j) (.int _) fun _ _ q => ⟨i, j, rfl, rfl, c, q⟩
theorem me_fdiv (ha : ME X ρ a (.fz (.int i))) (hb : ME X ρ b (.fz (.int j))) (c : CDiv i j := by exact ⟨by decide, by decide⟩) : ME X ρ (.BinOp a .FloorDiv b pos) (.fz (.int (i / j))) := me_op op_fdiv ha hb (.int i) (.int j) (.int _) fun _ _ q => ⟨i, j, rfl, rfl, c, q⟩
theorem me_mod (ha : ME X ρ a (.fz (.int i))) (hb : ME X ρ b (.fz (.int j))) (c : 0 < j := by decide) : ME X ρ (.BinOp a .Mod b pos) (.fz (.int (i % j))) := me_op op_mod ha hb (.int i) (.int j) (.int _) fun _ _ q => ⟨i, j, rfl, rfl, c, q⟩
theorem me_pow (ha : ME X ρ a (.fz (.int i))) (hb : ME X ρ b (.fz (.int j))) (c : CPow i j := by exact ⟨by decide, by decide, by decide⟩) : ME X ρ (.BinOp a .Pow b pos) (.fz (.int (i ^ j.toNat))) := me_op op_pow ha hb (.int i) (.int j) (.int _) fun _ _ q => ⟨i, j, rfl, rfl, c, q⟩
variable {p q : Str}
theorem me_neg (ha : ME X ρ a (.fz (.int i))) : ME X ρ (.UnaryOp .USub a pos) (.fz (.int (-i))) := .mk fun Z0 F Z σ H s Q q => by
  refine PE_w (pe_un un_neg pe_w) (ha.run Z0 F Z σ H s _ fun v Z1 H1 A1 g1 r1 n1 => ?_)
  cases r1 with
  | fz r1 =>
    cases r1
    exact ⟨i, rfl, q _ Z1 H1 [] g1 (.fz (.int _)) .nil⟩

theorem me_cmp {op : CmpOp} {r : R2} {k : Bool} (ho : OpR X (compareOp op) r) (ha : ME X ρ a (.fz d1)) (hb : ME X ρ b (.fz d2)) (s1 : Sc d1 x) (s2 : Sc d2 y) (h : ∀ H (Q : VK), Q (.bl k) H → r x y H Q) (hm : behindInMarks op b = false) : ME X ρ (.Compare a [op] [b] pos) (.fz (.bl k)) :=
  me_r2 (t := tOp r (wE X a) (wE X b)) (pe_cmpR ho pe_w pe_w hm) ha hb s1 s2 (.bl k) h
theorem mt_cmp {op : CmpOp} {r : R2} {k : Bool} (ho : OpR X (compareOp op) r) (ha : ME X ρ a (.fz d1)) (hb : ME X ρ b (.fz d2)) (s1 : Sc d1 x) (s2 : Sc d2 y) (h : ∀ H (Q : VK), Q (.bl k) H → r x y H Q) (hm : behindInMarks op b = false) : MT X ρ (.Compare a [op] [b] pos) k := .mk fun Z0 F Z σ H s Q q => by
  refine PT_w (pt_cmpR ho pe_w pe_w hm) (ha.run Z0 F Z σ H s _ fun v Z1 H1 A1 g1 r1 n1 => ?_)
  refine hb.run Z0 F Z1 σ H1 (s.grow g1) _ fun w Z2 H2 A2 g2 r2 n2 => ?_
  cases r1 with
  | fz r1 =>
    cases r2 with
    | fz r2 =>
      rw [s1.eq r1, s2.eq r2]
      exact h H2 _ ⟨k, rfl, q Z2 H2 (g1.trans g2)⟩
theorem mt_lt (ha : ME X ρ a (.fz (.int i))) (hb : ME X ρ b (.fz (.int j))) : MT X ρ (.Compare a [.Lt] [b] pos) (decide (i < j)) := mt_cmp op_lt ha hb (.int i) (.int j) (fun _ _ k => ⟨i, j, rfl, rfl, k⟩) (nomark _)
theorem me_gt (ha : ME X ρ a (.fz (.int i))) (hb : ME X ρ b (.fz (.int j))) : ME X ρ (.Compare a [.Gt] [b] pos) (.fz (.bl (decide (j < i)))) := me_cmp op_gt ha hb (.int i) (.int j) (fun _ _ k => ⟨i, j, rfl, rfl, k⟩) (nomark _)
theorem mt_gt (ha : ME X ρ a (.fz (.int i))) (hb : ME X ρ b (.fz (.int j))) : MT X ρ (.Compare a [.Gt] [b] pos) (decide (j < i)) := mt_cmp op_gt ha hb (.int i) (.int j) (fun _ _ k => ⟨i, j, rfl, rfl, k⟩) (nomark _)
theorem me_eqI (ha : ME X ρ a (.fz (.int i))) (hb : ME X ρ b (.fz (.int j))) : ME X ρ (.Compare a [.Eq] [b] pos) (.fz (.bl (i == j))) := me_cmp op_eq ha hb (.int i) (.int j) (fun _ _ k => ⟨rfl, by rw [dec_int]; exact k⟩) (nomark _)
theorem me_neI (ha : ME X ρ a (.fz (.int i))) (hb : ME X ρ b (.fz (.int j))) : ME X ρ (.Compare a [.NotEq] [b] pos) (.fz (.bl (!(i == j)))) := me_cmp op_ne ha hb (.int i) (.int j) (fun _ _ k => ⟨rfl, by rw [dec_int]; exact k⟩) (nomark _)
theorem me_eqS (ha : ME X ρ a (.fz (.str p))) (hb : ME X ρ b (.fz (.str q))) : ME X ρ (.Compare a [.Eq] [b] pos) (.fz (.bl (p == q))) := me_cmp op_eq ha hb (.str p) (.str q) (fun _ _ k => ⟨rfl, by rw [dec_str]; exact k⟩) (nomark _)
theorem mt_eqI (ha : ME X ρ a (.fz (.int i))) (hb : ME X ρ b (.fz (.int j))) : MT X ρ (.Compare a [.Eq] [b] pos) (i == j) := mt_cmp op_eq ha hb (.int i) (.int j) (fun _ _ k => ⟨rfl, by rw [dec_int]; exact k⟩) (nomark _)
theorem mt_neI (ha : ME X ρ a (.fz (.int i))) (hb : ME X ρ b (.fz (.int j))) : MT X ρ (.Compare a [.NotEq] [b] pos) (!(i == j)) := mt_cmp op_ne ha hb (.int i) (.int j) (fun _ _ k => ⟨rfl, by rw [dec_int]; exact k⟩) (nomark _)
theorem mt_eqS (ha : ME X ρ a (.fz (.str p))) (hb : ME X ρ b (.fz (.str q))) : MT X ρ (.Compare a [.Eq] [b] pos) (p == q) := mt_cmp op_eq ha hb (.str p) (.str q) (fun _ _ k => ⟨rfl, by rw [dec_str]; exact k⟩) (nomark _)
theorem mt_neS (ha : ME X ρ a (.fz (.str p))) (hb : ME X ρ b (.fz (.str q))) : MT X ρ (.Compare a [.NotEq] [b] pos) (!(p == q)) := mt_cmp op_ne ha hb (.str p) (.str q) (fun _ _ k => ⟨rfl, by rw [dec_str]; exact k⟩) (nomark _)

/-- a value that is a bool, as a test -/
theorem mt_val {k : Bool} (ha : ME X ρ e (.fz (.bl k))) (he : ∀ whole, isTrue e X.env whole = (do let v ← whole; standAt e.pos; holding [v] (truthy v)) := by intro _; rfl) : MT X ρ e k := .mk fun Z0 F Z σ H s Q q => by
  refine PT_w (pt_val pe_w he) (ha.run Z0 F Z σ H s _ fun v Z1 H1 A1 g1 r1 n1 => ?_)
  cases r1 with
  | fz r1 =>
    cases r1
    exact ⟨k, rfl, q Z1 H1 g1⟩

def wW (X : Cx) (e : Expr) : TT := fun σ H Q => ∀ (whole : Sem Value) (pins : List (Addr × Obj)) (s : Shared), Inv X pins σ H s → wpAny (model X.prog X.w) X.A (isTrue e X.env whole) (TP X pins σ Q) X.xe s
theorem pw_w : PW X e (wW X e) := ⟨fun whole pins s _ _ _ I h => h whole pins s I⟩
theorem PW_w {t : TT} (p : PW X e t) {σ : L2.St} {H : Hp} {Q : Bool → Hp → Prop} (h : t σ H Q) : wW X e σ H Q := fun whole pins s I => p.run whole pins s σ H Q I h
structure MW (X : Cx) (ρ : Slots) (e : Expr) (b : Bool) : Prop where
  run : ∀ (Z0 F Z : Hp) (σ : L2.St) (H : Hp), StR X.K ρ Z0 F Z σ H → ∀ Q : Bool → Hp → Prop,
  (∀ Z' H', Gr Z H Z' H' → Q b H') → wW X e σ H Q
variable {k l : Bool} {rest : List Expr}
theorem MW.t (h : MW X ρ e k) : MT X ρ e k := .mk fun Z0 F Z σ H s Q q => PT_w (PW.pt pw_w) (h.run Z0 F Z σ H s Q q)
theorem mw_and1 (h : MT X ρ a k) : MW X ρ (.BoolOp .And [a] pos) k := .mk fun Z0 F Z σ H s Q q => PW_w (pw_and1 pt_w) (h.run Z0 F Z σ H s Q q)
theorem mw_or1 (h : MT X ρ a k) : MW X ρ (.BoolOp .Or [a] pos) k := .mk fun Z0 F Z σ H s Q q => PW_w (pw_or1 pt_w) (h.run Z0 F Z σ H s Q q)
theorem mw_and (h : MT X ρ a k) (h2 : k = true → MW X ρ (.BoolOp .And (b :: rest) pos) l) : MW X ρ (.BoolOp .And (a :: b :: rest) pos) (k && l) := .mk fun Z0 F Z σ H s Q q =>
  PW_w (pw_and pt_w pw_w) (h.run Z0 F Z σ H s _ fun Z1 H1 g1 => by
    cases k with
    | true => exact (h2 rfl).run Z0 F Z1 σ H1 (s.grow g1) Q fun Z2 H2 g2 => q Z2 H2 (g1.trans g2)
    | false => exact q Z1 H1 g1)
theorem mw_or (h : MT X ρ a k) (h2 : k = false → MW X ρ (.BoolOp .Or (b :: rest) pos) l) : MW X ρ (.BoolOp .Or (a :: b :: rest) pos) (k || l) := .mk fun Z0 F Z σ H s Q q =>
  PW_w (pw_or pt_w pw_w) (h.run Z0 F Z σ H s _ fun Z1 H1 g1 => by
    cases k with
    | true => exact q Z1 H1 g1
    | false => exact (h2 rfl).run Z0 F Z1 σ H1 (s.grow g1) Q fun Z2 H2 g2 => q Z2 H2 (g1.trans g2))
theorem mt_not (h : MT X ρ a k) : MT X ρ (.UnaryOp .Not a pos) (!k) := .mk fun Z0 F Z σ H s Q q => PT_w (pt_not pt_w) (h.run Z0 F Z σ H s _ fun Z1 H1 g1 => q Z1 H1 g1)
theorem me_one {op : BoolOp} (h : ME X ρ a o) : ME X ρ (.BoolOp op [a] pos) o := .mk fun Z0 F Z σ H s Q q => PE_w (pe_one pe_w) (h.run Z0 F Z σ H s Q q)
theorem me_and (h : ME X ρ a (.fz (.bl k))) (h2 : k = true → ME X ρ (.BoolOp .And (b :: rest) pos) (.fz (.bl l))) : ME X ρ (.BoolOp .And (a :: b :: rest) pos) (.fz (.bl (k && l))) := .mk fun Z0 F Z σ H s Q q =>
  PE_w (pe_and pe_w pe_w) (h.run Z0 F Z σ H s _ fun v Z1 H1 A1 g1 r1 n1 => by
    cases r1 with
    | fz r1 =>
      cases r1
      refine ⟨k, rfl, ?_⟩
      cases k with
      | true =>
        refine (h2 rfl).run Z0 F Z1 σ H1 (s.grow g1) Q fun w Z2 H2 A2 g2 r2 n2 => ?_
        cases r2 with
        | fz r2 => exact q w Z2 H2 [] (g1.trans g2) (.fz r2) .nil
      | false => exact q _ Z1 H1 [] g1 (.fz (.bl false)) .nil)
theorem me_or (h : ME X ρ a (.fz (.bl k))) (h2 : k = false → ME X ρ (.BoolOp .Or (b :: rest) pos) (.fz (.bl l))) : ME X ρ (.BoolOp .Or (a :: b :: rest) pos) (.fz (.bl (k || l))) := .mk fun Z0 F Z σ H s Q q =>
  PE_w (pe_or pe_w pe_w) (h.run Z0 F Z σ H s _ fun v Z1 H1 A1 g1 r1 n1 => by
    cases r1 with
    | fz r1 =>
      cases r1
      refine ⟨k, rfl, ?_⟩
      cases k with
      | false =>
        refine (h2 rfl).run Z0 F Z1 σ H1 (s.grow g1) Q fun w Z2 H2 A2 g2 r2 n2 => ?_
        cases r2 with
        | fz r2 => exact q w Z2 H2 [] (g1.trans g2) (.fz r2) .nil
      | true => exact q _ Z1 H1 [] g1 (.fz (.bl true)) .nil)
theorem me_not (h : ME X ρ a (.fz (.bl k))) : ME X ρ (.UnaryOp .Not a pos) (.fz (.bl (!k))) := .mk fun Z0 F Z σ H s Q q =>
  PE_w (pe_not pe_w) (h.run Z0 F Z σ H s _ fun v Z1 H1 A1 g1 r1 n1 => by
    cases r1 with
    | fz r1 =>
      cases r1
      exact ⟨k, rfl, q _ Z1 H1 [] g1 (.fz (.bl _)) .nil⟩)
/-- not starred -/
abbrev NS (X : Cx) (e : Expr) : Prop := ∀ es, starEach (e :: es) X.env = (false, eval e X.env) :: starEach es X.env
/-- frozen things -/
structure MF (X : Cx) (ρ : Slots) (es : List Expr) (ds : List D) : Prop where
  run : ∀ (Z0 F Z : Hp) (σ : L2.St) (H : Hp), StR X.K ρ Z0 F Z σ H → ∀ Q : List V → Hp → Prop,
  (∀ vs Z' H', Gr Z H Z' H' → RepL X.K Z' vs ds → Q vs H') → wA X es σ H Q
theorem mf_nil : MF X ρ [] [] := .mk fun Z0 F Z σ H s Q q => PA_w pa_nil (q [] Z H (Gr.refl s.ex) .nil)
theorem mf_cons (h : ME X ρ e (.fz d)) (h2 : MF X ρ es ds) (hs : starEach (e :: es) X.env = (false, eval e X.env) :: starEach es X.env := by rfl) : MF X ρ (e :: es) (d :: ds) := .mk fun Z0 F Z σ H s Q q =>
  PA_w (pa_cons pe_w pa_w hs) (h.run Z0 F Z σ H s _ fun v Z1 H1 A1 g1 r1 n1 => by
    cases r1 with
    | fz r1 => exact h2.run Z0 F Z1 σ H1 (s.grow g1) _ fun vs Z2 H2 g2 r2 => q _ Z2 H2 (g1.trans g2) (.cons (r1.mono g2.zz) r2))
theorem ma_nil : MA X ρ [] [] := .mk fun Z0 F Z σ H s Q q => PA_w pa_nil (q [] Z H (Gr.refl s.ex) .nil)
theorem ma_fz {os : List O} (h : ME X ρ e (.fz d)) (h2 : MA X ρ es os) (hs : starEach (e :: es) X.env = (false, eval e X.env) :: starEach es X.env := by rfl) : MA X ρ (e :: es) (.fz d :: os) := .mk fun Z0 F Z σ H s Q q =>
  PA_w (pa_cons pe_w pa_w hs) (h.run Z0 F Z σ H s _ fun v Z1 H1 A1 g1 r1 n1 => by
    cases r1 with
    | fz r1 => exact h2.run Z0 F Z1 σ H1 (s.grow g1) _ fun vs Z2 H2 g2 r2 => q _ Z2 H2 (g1.trans g2) (.cons (A := []) (B := []) (.fz (r1.mono g2.zz)) r2))
theorem ma_vw {os : List O} (h : ML X ρ e ds) (h2 : MA X ρ es os) (hs : starEach (e :: es) X.env = (false, eval e X.env) :: starEach es X.env := by rfl) : MA X ρ (e :: es) (.vw ds :: os) := .mk fun Z0 F Z σ H s Q q =>
  PA_w (pa_cons pe_w pa_w hs) (h.run Z0 F Z σ H s _ fun a vs Z1 H1 g1 l1 r1 =>
    h2.run Z0 F Z1 σ H1 (s.grow g1) _ fun ws Z2 H2 g2 r2 => q _ Z2 H2 (g1.trans g2) (.cons (A := []) (B := []) (.vw (ex_l g2.hh l1) (r1.mono g2.zz)) r2))
theorem new_one {H Z : Hp} {p : Addr} (h : H p = none) (h2 : Z p = none) : New H Z [p] := ⟨List.nodup_cons.mpr ⟨(fun m => nomatch m), List.nodup_nil⟩, fun a m => by
  cases List.mem_singleton.mp m
  exact ⟨h, h2⟩⟩
theorem me_tup {n : Nat} (h : MF X ρ es ds) (hl : ds.length ≤ 1000 := by first | decide | (simp; done)) : ME X ρ (.Tuple es n pos) (.fz (.tup ds)) := .mk fun Z0 F Z σ H s Q q =>
  PE_w (pe_tup pa_w) (h.run Z0 F Z σ H s _ fun vs Z1 H1 g1 r1 => ⟨(by rw [r1.length]; exact Nat.le_of_lt (small1000 hl)), fun p hp => by
    exact q _ (upd Z1 p (.tup vs)) _ [] (g1.trans (Gr.newz g1.zh hp)) (.fz (.tup upd_same (r1.mono (Ex.new (g1.zh.free hp))))) .nil⟩)
theorem me_lst (h : MF X ρ es ds) (hl : ds.length ≤ 1000 := by first | decide | (simp; done)) : ME X ρ (.List es pos) (.lst (ds.map .fz)) := .mk fun Z0 F Z σ H s Q q =>
  PE_w (pe_lst pa_w) (h.run Z0 F Z σ H s _ fun vs Z1 H1 g1 r1 => ⟨(by rw [r1.length]; exact Nat.le_of_lt (small1000 hl)), fun p hp => by
    refine q _ Z1 _ [p] (g1.trans (Gr.new g1.zh hp)) (.lst upd_same r1.own) (new_one (g1.hh.free hp) (g1.zh.free hp))⟩)

theorem RepL.atI {K : PySem.W.Frag} {Z : Hp} {vs : List V} {ds : List D} {i : Int} {d : D} (r : RepL K Z vs ds) (h : L2.atI ds i = some d) : ∃ v, L2.atI vs i = some v ∧ Rep K Z v d := by
  unfold L2.atI at h ⊢
  rw [r.length]
  cases e : ixN ds.length i with
  | none =>
    rw [e] at h
    cases h
  | some n =>
    rw [e] at h
    exact r.get h
theorem me_ixL (ha : ML X ρ a ds) (hb : ME X ρ b (.fz (.int i))) (h : L2.atI ds i = some d) (hp : PlainIx b := by exact fun _ _ => rfl) : ME X ρ (.Subscript a b pos) (.fz d) := .mk fun Z0 F Z σ H s Q q =>
  PE_w (pe_ix ix_list pe_w pe_w hp) (ha.run Z0 F Z σ H s _ fun l vs Z1 H1 g1 l1 r1 => hb.run Z0 F Z1 σ H1 (s.grow g1) _ fun w Z2 H2 A2 g2 r2 n2 => by
    cases r2 with
    | fz r2 =>
      cases r2
      obtain ⟨v, e, rv⟩ := (r1.mono g2.zz).atI h
      exact ⟨l, vs, i, v, rfl, rfl, ex_l g2.hh l1, e, q v Z2 H2 [] (g1.trans g2) (.fz rv) .nil⟩)
theorem me_ixT (ha : MU X ρ a ds) (hb : ME X ρ b (.fz (.int i))) (h : L2.atI ds i = some d) (hp : PlainIx b := by exact fun _ _ => rfl) : ME X ρ (.Subscript a b pos) (.fz d) := .mk fun Z0 F Z σ H s Q q =>
  PE_w (pe_ix ix_tup pe_w pe_w hp) (ha.run Z0 F Z σ H s _ fun l vs Z1 H1 g1 l1 r1 => hb.run Z0 F Z1 σ H1 (s.grow g1) _ fun w Z2 H2 A2 g2 r2 n2 => by
    cases r2 with
    | fz r2 =>
      cases r2
      obtain ⟨v, e, rv⟩ := (r1.mono g2.zz).atI h
      exact ⟨l, vs, i, v, rfl, rfl, ex_t g2.hh l1, e, q v Z2 H2 [] (g1.trans g2) (.fz rv) .nil⟩)
theorem me_ixS {c : Nat} (ha : ME X ρ a (.fz (.str p))) (hb : ME X ρ b (.fz (.int i))) (hl : p.length ≤ sizeLine) (h : L2.atI p.cps.toList i = some c) (hp : PlainIx b := by exact fun _ _ => rfl) : ME X ρ (.Subscript a b pos) (.fz (.str ⟨#[c]⟩)) :=
  me_r2 (t := tOp rIxS (wE X a) (wE X b)) (pe_ix ix_str pe_w pe_w hp) ha hb (.str p) (.int i) (.str _) fun _ _ k => ⟨p, i, c, rfl, rfl, hl, h, k⟩
theorem RepOL.get {K : PySem.W.Frag} {Z F H : Hp} : ∀ {vs : List V} {os : List O} {A : List Addr} {i : Nat} {o : O}, RepOL K Z F H vs os A → os[i]? = some o → ∃ v B, vs[i]? = some v ∧ RepO K Z F H v o B
  | _, _, _, _, _, .nil, e => by simp at e
  | _, _, _, 0, _, .cons h _, e => by
    simp at e
    subst e
    exact ⟨_, _, rfl, h⟩
  | _, _, _, i + 1, _, .cons _ r, e => by
    obtain ⟨v, B, h1, h2⟩ := RepOL.get (i := i) r (by simpa using e)
    exact ⟨v, B, by simpa using h1, h2⟩
theorem RepOL.length {K : PySem.W.Frag} {Z F H : Hp} : ∀ {vs : List V} {os : List O} {A : List Addr}, RepOL K Z F H vs os A → vs.length = os.length
  | _, _, _, .nil => rfl
  | _, _, _, .cons _ r => congrArg (· + 1) r.length
theorem RepOL.atI {K : PySem.W.Frag} {Z F H : Hp} {vs : List V} {os : List O} {A : List Addr} {i : Int} {o : O} (r : RepOL K Z F H vs os A) (h : L2.atI os i = some o) : ∃ v B, L2.atI vs i = some v ∧ RepO K Z F H v o B := by
  unfold L2.atI at h ⊢
  rw [r.length]
  cases e : ixN os.length i with
  | none =>
    rw [e] at h
    cases h
  | some n =>
    rw [e] at h
    exact r.get h
variable {nm T id : Str} {p0 p1 p2 : Pos}
theorem me_len (hg : Gl X "len") (hm : X.mg "len" = none) (ha : ML X ρ a ds) (n1 : NS X a := by exact fun _ => rfl) : ME X ρ (.Call (.Name "len" p0) [a] [] pos) (.fz (.int (ds.length : Int))) := .mk fun Z0 F Z σ H s Q q =>
  PE_w (pe_callB call_len_seq hg hm boot_len (pa_cons pe_w pa_nil (n1 _)) (he := n1 _)) (ha.run Z0 F Z σ H s _ fun l vs Z1 H1 g1 l1 r1 => ⟨l, vs, rfl, .inl l1, by rw [r1.length]; exact q _ Z1 H1 [] g1 (.fz (.int _)) .nil⟩)
theorem me_lenT (hg : Gl X "len") (hm : X.mg "len" = none) (ha : MU X ρ a ds) (n1 : NS X a := by exact fun _ => rfl) : ME X ρ (.Call (.Name "len" p0) [a] [] pos) (.fz (.int (ds.length : Int))) := .mk fun Z0 F Z σ H s Q q =>
  PE_w (pe_callB call_len_seq hg hm boot_len (pa_cons pe_w pa_nil (n1 _)) (he := n1 _)) (ha.run Z0 F Z σ H s _ fun l vs Z1 H1 g1 l1 r1 => ⟨l, vs, rfl, .inr l1, by rw [r1.length]; exact q _ Z1 H1 [] g1 (.fz (.int _)) .nil⟩)
theorem me_lenS (hg : Gl X "len") (hm : X.mg "len" = none) (ha : ME X ρ a (.fz (.str p))) (hl : p.length ≤ sizeLine) (n1 : NS X a := by exact fun _ => rfl) : ME X ρ (.Call (.Name "len" p0) [a] [] pos) (.fz (.int (p.length : Int))) := .mk fun Z0 F Z σ H s Q q =>
  PE_w (pe_callB call_len_str hg hm boot_len (pa_cons pe_w pa_nil (n1 _)) (he := n1 _)) (ha.run Z0 F Z σ H s _ fun v Z1 H1 A g1 r1 n1 => by
    cases r1 with
    | fz r1 =>
      cases r1
      exact ⟨p, rfl, hl, q _ Z1 H1 [] g1 (.fz (.int _)) .nil⟩)
theorem me_list (hg : Gl X "list") (hm : X.mg "list" = none) (ha : ML X ρ a ds) (n1 : NS X a := by exact fun _ => rfl) : ME X ρ (.Call (.Name "list" p0) [a] [] pos) (.lst (ds.map .fz)) := .mk fun Z0 F Z σ H s Q q =>
  PE_w (pe_callTy call_list_of hg hm (by decide +kernel) (pa_cons pe_w pa_nil (n1 _)) (he := n1 _)) (ha.run Z0 F Z σ H s _ fun l vs Z1 H1 g1 l1 r1 => ⟨l, vs, rfl, .inl l1, fun p hp =>
    q _ Z1 _ [p] (g1.trans (Gr.new g1.zh hp)) (.lst upd_same r1.own) (new_one (g1.hh.free hp) (g1.zh.free hp))⟩)
inductive MO (X : Cx) (ρ : Slots) : Option Expr → Option Int → Prop where
  | none : MO X ρ none none
  | some {e : Expr} {i : Int} (h : ME X ρ e (.fz (.int i))) : MO X ρ (some e) (some i)
theorem MO.run {eo : Option Expr} {io : Option Int} (h : MO X ρ eo io) : ∃ t, PO X eo t ∧ ∀ (Z0 F Z : Hp) (σ : L2.St) (H : Hp), StR X.K ρ Z0 F Z σ H → ∀ Q : Option Int → Hp → Prop, (∀ Z' H', Gr Z H Z' H' → Q io H') → t σ H Q := by
  cases h with
  | none => exact ⟨_, po_none, fun Z0 F Z σ H s Q q => q Z H (Gr.refl s.ex)⟩
  | @some e i h => exact ⟨_, po_some pe_w, fun Z0 F Z σ H s Q q => h.run Z0 F Z σ H s _ fun v Z1 H1 A1 g1 r1 n1 => by
      cases r1 with
      | fz r1 =>
        cases r1
        exact ⟨i, rfl, q Z1 H1 g1⟩⟩
def cutG {α : Type} (xs : List α) (lo hi : Option Int) : List α := (xs.drop (HT.sIx xs.length 0 lo)).take (HT.sIx xs.length xs.length hi - HT.sIx xs.length 0 lo)
theorem RepL.cut {K : PySem.W.Frag} {Z : Hp} {vs : List V} {ds : List D} (r : RepL K Z vs ds) (lo hi : Option Int) : RepL K Z (cutV vs lo hi) (cutG ds lo hi) := by
  unfold cutV cutG
  rw [r.length]
  exact (r.drop _).take _
theorem me_slL {lo hi : Option Expr} {li hj : Option Int} (ha : ML X ρ a ds) (hl : MO X ρ lo li) (hh : MO X ρ hi hj) : ME X ρ (.Subscript a (.Slice lo hi none p2) pos) (.lst ((cutG ds li hj).map .fz)) := .mk fun Z0 F Z σ H s Q q => by
  obtain ⟨tl, pl, kl⟩ := hl.run
  obtain ⟨th, ph, kh⟩ := hh.run
  refine PE_w (pe_slice sl_list pe_w pl ph) (ha.run Z0 F Z σ H s _ fun l vs Z1 H1 g1 l1 r1 => kl Z0 F Z1 σ H1 (s.grow g1) _ fun Z2 H2 g2 => kh Z0 F Z2 σ H2 (s.grow (g1.trans g2)) _ fun Z3 H3 g3 => ?_)
  refine ⟨l, vs, rfl, ex_l (g2.hh.trans g3.hh) l1, fun p hp => ?_⟩
  have g := g1.trans (g2.trans g3)
  exact q _ Z3 _ [p] (g.trans (Gr.new g.zh hp)) (.lst upd_same ((r1.mono (g2.zz.trans g3.zz)).cut li hj).own) (new_one (g.hh.free hp) (g.zh.free hp))

def D.tyN : D → Option String
  | .non => some "NoneType"
  | .bl _ => some "bool"
  | .int _ => some "int"
  | .str _ => some "str"
  | .tup _ => some "tuple"
  | .lst _ => some "list"
  | .dct _ _ => some "dict"
  | .dctT _ _ => some "dict"
  | _ => none
def O.tyN : O → Option String
  | .fz d => d.tyN
  | .vw _ => some "list"
  | .vwa _ _ => some "list"
  | .lk o => o.tyN
  | .lst _ => some "list"
  | .tup _ => some "tuple"
  | .dct _ _ => some "dict"
  | .dctT _ _ => some "dict"
  | .ins _ _ _ => none
  | .at _ _ _ _ => none
  | .loc _ o => o.tyN
  | .pt _ => none
  | .rs _ => none
theorem sql_ty {K : PySem.W.Frag} {H : Hp} {l : Addr} {vs : List V} (h : SqL K H l vs) : TyX K H (.ref l) (.type "list") := by
  rcases h with (h | ⟨o, h⟩) | ⟨o, its, n, h, c, _⟩
  · exact .base (.lst h)
  · exact .base (.frz h)
  · exact .kList h c
theorem sqt_ty {K : PySem.W.Frag} {H : Hp} {l : Addr} {vs : List V} (h : SqT K H l vs) : TyX K H (.ref l) (.type "tuple") := by
  rcases h with (h | ⟨o, h⟩) | ⟨o, its, n, h, c, _⟩
  · exact .base (.tup h)
  · exact .fTuple h
  · exact .kTuple h c
theorem Rep.ty' {K : PySem.W.Frag} {Z H : Hp} {v : V} {d : D} {t : String} (e : Ex Z H) (r : Rep K Z v d) (h : d.tyN = some t) : TyX K H v (.type t) := by
  cases r with
  | non => cases h; exact .base .non
  | bl b => cases h; exact .base (.bl b)
  | int i => cases h; exact .base (.int i)
  | str x => cases h; exact .base (.str x)
  | ty n => cases h
  | opq a => cases h
  | exc a b => cases h
  | hx a => cases h
  | tup a b => cases h; exact sqt_ty (.of (e _ _ a))
  | lst a b => cases h; exact sql_ty (ex_l e a)
  | ins a b => cases h
  | dct a b => cases h; exact .base (.dK (e _ _ a))
  | dctT a b => cases h; exact .base (.dT (e _ _ a))
theorem RepK.ty' {K : PySem.W.Frag} {Z F H : Hp} {t : String} (e : Ex Z H) (f : Ex F H) : ∀ {v : V} {o : O}, RepK K Z F v o → o.tyN = some t → TyX K H v (.type t)
  | _, _, .fz r, h => r.ty' e h
  | _, _, .vw a b, h => by cases h; exact sql_ty (ex_l f a)
  | _, _, .vwa a b, h => by cases h; exact sql_ty (ex_l f a)
  | _, .lk o, .lk r, h => RepK.ty' (o := o) e f r h
  | _, _, .lst a b, h => by cases h; exact .base (.lst (f _ _ a))
  | _, _, .tup a b, h => by cases h; exact .base (.tup (f _ _ a))
  | _, _, .ins a b, h => by cases h
  | _, _, .at a b, h => by cases h
  | _, _, .dct a b, h => by cases h; exact .base (.dK (f _ _ a))
  | _, _, .dctT a b, h => by cases h; exact .base (.dT (f _ _ a))
  | _, .loc _ o, .loc r, h => RepK.ty' (o := o) e f r h
  | _, _, .pt, h => by cases h
theorem RepO.ty' {K : PySem.W.Frag} {Z F H : Hp} {t : String} (e : Ex Z H) (f : Ex F H) : ∀ {v : V} {o : O} {A : List Addr}, RepO K Z F H v o A → o.tyN = some t → TyX K H v (.type t)
  | _, _, _, .fz r, h => r.ty' e h
  | _, _, _, .vw a b, h => by cases h; exact sql_ty (ex_l f a)
  | _, _, _, .vwa a b, h => by cases h; exact sql_ty (ex_l f a)
  | _, .lk o, _, .lk r, h => RepK.ty' (o := o) e f r h
  | _, _, _, .lst a b, h => by cases h; exact .base (.lst a)
  | _, _, _, .tup a b, h => by cases h; exact .base (.tup a)
  | _, _, _, .ins a b, h => by cases h
  | _, _, _, .at a b, h => by cases h
  | _, _, _, .dct a b, h => by cases h; exact .base (.dK a)
  | _, _, _, .dctT a b, h => by cases h; exact .base (.dT a)
  | _, _, _, .loc r, h => RepO.ty' e f r h
  | _, _, _, .pt, h => by cases h
theorem me_isi {T t : String} {TS : Str} {k : Bool} (hg : Gl X "isinstance") (hm : X.mg "isinstance" = none) (hT : PE X (.Name TS p1) (tC (.ty T))) (ha : MV X ρ a o) (ht : o.tyN = some t) (hk : kitB t T = some k) (n1 : NS X a := by exact fun _ => rfl) :
    ME X ρ (.Call (.Name "isinstance" p0) [a, .Name TS p1] [] pos) (.fz (.bl k)) := .mk fun Z0 F Z σ H s Q q =>
  PE_w (pe_callB call_isi hg hm (by decide +kernel) (pa_cons pe_w (pa_cons hT pa_nil) (n1 _)) (he := n1 _)) (ha.run Z0 F Z σ H s _ fun v Z1 H1 A1 g1 r1 =>
    ⟨v, .ty T, .type t, .type T, k, rfl, .ty T, r1.ty' g1.zh (s.gr.hh.trans g1.hh) ht, kit_ty hk, q _ Z1 H1 [] g1 (.fz (.bl k)) .nil⟩)
end
end M
namespace M
open PySem L2

theorem RepOL.snoc {K : PySem.W.Frag} {Z F H : Hp} {w : V} {o : O} {B : List Addr} (h : RepO K Z F H w o B) : ∀ {vs : List V} {os : List O} {A : List Addr}, RepOL K Z F H vs os A → RepOL K Z F H (vs ++ [w]) (os ++ [o]) (A ++ B)
  | _, _, _, .nil => by
    have q := RepOL.cons h (RepOL.nil (K := K) (Z := Z) (F := F) (H := H))
    rw [List.append_nil] at q
    exact q
  | _, _, _, .cons g r => by
    rw [List.append_assoc]
    exact .cons g (r.snoc h)
section
variable {X : Cx} {ρ : Slots} {e : Expr} {es : List Expr} {st : Stmt} {sts : List Stmt} {G : Go} {o : O} {d : D} {ds : List D} {pos : Pos} {i : Nat}

theorem m_set (p : PS X st (tAsg (wE X e) (gName i))) (h : ME X ρ e o) (k : G.nx (ρ.set i (some o))) (hi : i < ρ.length := by exact Nat.le_of_ble_eq_true rfl) : MS1 X ρ st G := .mk fun Z0 F Z σ H D s g =>
  PS_w p (h.run Z0 F Z σ H s _ fun v Z1 H1 A g1 r n => g.nx _ Z1 _ H1 k (s.put g1 r n hi))
theorem m_expr (p : PS X st (tDrop (wE X e))) (h : ME X ρ e o) (k : G.nx ρ) : MS1 X ρ st G := .mk fun Z0 F Z σ H D s g =>
  PS_w p (h.run Z0 F Z σ H s _ fun v Z1 H1 A g1 r n => g.nx _ Z1 _ H1 k (s.grow g1))
theorem m_ret (p : PS X st (tRet (wE X e))) (h : MR X ρ e o) (k : G.rt o) : MS1 X ρ st G := .mk fun Z0 F Z σ H D s g =>
  PS_w p (h.run Z0 F Z σ H s _ fun v Z1 H1 A g1 r n d => g.rt o v Z1 H1 A k (s.gr.trans g1) r ⟨n, fun a m => ⟨(d a m).2, (d a m).1⟩⟩)
theorem m_if {c : Expr} {a b : List Stmt} {t : Bool} (hc : MT X ρ c t) (h1 : t = true → MS X ρ a G) (h2 : t = false → MS X ρ b G) : MS1 X ρ (.If c a b pos) G := .mk fun Z0 F Z σ H D s g =>
  PS_w (ps_if pt_w pss_w pss_w) (hc.run Z0 F Z σ H s _ fun Z1 H1 g1 => by
    cases t with
    | true => exact (h1 rfl).run Z0 F Z1 σ H1 D (s.grow g1) g
    | false => exact (h2 rfl).run Z0 F Z1 σ H1 D (s.grow g1) g)
theorem ms_le {τ : Slots} (l : Le ρ τ) (h : MS X τ sts G) : MS X ρ sts G := .mk fun Z0 F Z σ H D s g => h.run Z0 F Z σ H D (s.le l) g
theorem Go.le {τ : Slots} (h : MS X τ sts G) : ∀ ρ, Le ρ τ → MS X ρ sts G := fun _ l => ms_le l h
/-- another end -/
theorem ms_imp {G' : Go} (h : MS X ρ sts G) (n : ∀ ρ, G.nx ρ → G'.nx ρ) (r : ∀ o, G.rt o → G'.rt o) (b : ∀ ρ, G.bk ρ → G'.bk ρ) (c : ∀ ρ, G.ct ρ → G'.ct ρ) (rs : ∀ o ρ, G.rs o ρ → G'.rs o ρ := by exact fun _ _ h => h) : MS X ρ sts G' := .mk fun Z0 F Z σ H D s g =>
  h.run Z0 F Z σ H D s ⟨fun ρ Z σ H k => g.nx ρ Z σ H (n ρ k), fun ρ Z σ H k => g.bk ρ Z σ H (b ρ k), fun ρ Z σ H k => g.ct ρ Z σ H (c ρ k), fun o v Z H A k => g.rt o v Z H A (r o k), fun o ρ v Z σ H k => g.rs o ρ v Z σ H (rs o ρ k), g.ex.imp r⟩
/-- x.append(e), x a slot with an own list -/
theorem m_append {x : Str} {p1 p2 p3 p4 : Pos} {os : List O} {o : O} (p : PE X (.Name x p1) (tVar i)) (hi : ρ[i]? = some (some (.lst os))) (he : ME X ρ e o) (hl : os.length < sizeLine) (k : G.nx (ρ.set i (some (.lst (os ++ [o])))))
    (q : ∀ t, PE X (.Call (.Attribute (.Name x p1) "append" p2) [e] [] p3) t → PS X (.Expr (.Call (.Attribute (.Name x p1) "append" p2) [e] [] p3) p4) (tDrop t) := by exact fun _ h => ps_expr h)
    (pm : PE X (.Call (.Attribute (.Name x p1) "append" p2) [e] [] p3) (tBM X.K "list" rAppend (tVar i) (tCons (wE X e) tNil)) := by exact pe_bm PySem.F.plainAttrs_list PySem.F.slot_list_append PySem.F.type_list_append mt_append (pv _) (pa_cons pe_w pa_nil)) : MS1 X ρ (.Expr (.Call (.Attribute (.Name x p1) "append" p2) [e] [] p3) p4) G := .mk fun Z0 F Z σ H D s g => by
  obtain ⟨v, A, e1, r1, nA, dA, k1⟩ := s.upd hi
  cases r1 with
  | @lst a vs _ A h0 r1 =>
    refine PS_w (q _ pm) ⟨_, e1, .inl ⟨rfl, _, SqL.of h0⟩, ?_⟩
    refine he.run Z0 F Z σ H s _ fun w Z1 H1 B g1 r2 n2 => ?_
    refine ⟨a, vs, w, rfl, rfl, g1.hh _ _ h0, by rw [r1.length]; exact hl, ?_⟩
    have za : Z1 a = none := by
      rw [g1.nw a _ h0]
      exact (dA a List.mem_cons_self).1
    obtain ⟨na, nA'⟩ := List.nodup_cons.mp nA
    have nB : ∀ b ∈ B, b ≠ a ∧ b ∉ A := fun b m => by
      refine ⟨fun q => ?_, fun q => ?_⟩
      · have z := (n2.2 b m).1
        rw [q, h0] at z
        cases z
      · obtain ⟨u, hu⟩ := r1.there b q
        rw [(n2.2 b m).1] at hu
        cases hu
    have r1' : RepOL X.K Z1 F (upd H1 a (.lst (vs ++ [w]))) vs os A := r1.mono g1.zz (Ex.refl _) fun b m u hu => by
      have ne : b ≠ a := fun q => na (by rw [← q]; exact m)
      rw [upd_ne ne]
      exact g1.hh b u hu
    have r2' : RepO X.K Z1 F (upd H1 a (.lst (vs ++ [w]))) w o B := r2.mono (Ex.refl _) (Ex.refl _) fun b m u hu => by
      rw [upd_ne (nB b m).1]
      exact hu
    refine g.nx _ Z1 σ _ k (k1 g1.zz g1.nw (g1.zh.mut za) (fun b nb u hu => ?_) (.lst upd_same (r1'.snoc r2')) ?_ fun b m => ?_)
    · have ne : b ≠ a := fun q => nb (by rw [q]; exact List.mem_cons_self)
      rw [upd_ne ne]
      exact g1.hh b u hu
    · refine List.nodup_cons.mpr ⟨fun m => ?_, List.nodup_append.mpr ⟨nA', n2.1, fun b hb c hc q => (nB c hc).2 (by rw [← q]; exact hb)⟩⟩
      rcases List.mem_append.mp m with m | m
      · exact na m
      · exact (nB a m).1 rfl
    · rcases List.mem_cons.mp m with m | m
      · exact .inl (by rw [m]; exact List.mem_cons_self)
      · rcases List.mem_append.mp m with m | m
        · exact .inl (List.mem_cons_of_mem _ m)
        · exact .inr (n2.2 b m)
end
end M
namespace M
open PySem L2 PySem.Spec PyProof.Rows

section
variable {K : PySem.W.Frag} {Z0 Z Z' F H H' : Hp} {ρ : Slots} {σ : L2.St} {G : Go} {D : Ends}
/-- from a later beginning -/
theorem StR.rebase {H1 : Hp} (s : StR K ρ Z0 F Z σ H) : StR K ρ Z F Z σ H := ⟨⟨Ex.refl _, s.gr.hh, s.gr.zh, fun _ _ _ => rfl⟩, s.st⟩
theorem Gr.base {Z1 H1 : Hp} (g0 : Gr Z0 F Z1 H1) (g : Gr Z1 F Z H) : Gr Z0 F Z H := ⟨g0.zz.trans g.zz, g.hh, g.zh, fun a u e => (g.nw a u e).trans (g0.nw a u e)⟩
theorem StR.unbase {Z1 H1 : Hp} (g0 : Gr Z0 F Z1 H1) (s : StR K ρ Z1 F Z σ H) : StR K ρ Z0 F Z σ H := ⟨g0.base s.gr, s.st⟩
theorem GX.rebase {X : Cx} {Z1 H1 : Hp} {r : O → Prop} (g0 : Gr Z0 F Z1 H1) (g : GX X Z0 F r) : GX X Z1 F r := by
  obtain ⟨W, t, k⟩ := g
  exact ⟨W, t, fun e ρ Z σ H q s => k e ρ Z σ H q (s.unbase g0)⟩
theorem GD.rebase {X : Cx} {Z1 H1 : Hp} (g0 : Gr Z0 F Z1 H1) (g : GD X Z0 F G D) : GD X Z1 F G D :=
  ⟨fun ρ Z σ H k s => g.nx ρ Z σ H k (s.unbase g0), fun ρ Z σ H k s => g.bk ρ Z σ H k (s.unbase g0), fun ρ Z σ H k s => g.ct ρ Z σ H k (s.unbase g0), fun o v Z H A k r => g.rt o v Z H A k (g0.base r), fun o ρ v Z σ H k s => g.rs o ρ v Z σ H k (s.unbase g0), g.ex.rebase g0⟩
end

/-- a list that stands still -/
structure MK (X : Cx) (ρ : Slots) (e : Expr) (ds : List D) : Prop where
  run : ∀ (Z0 F Z : Hp) (σ : L2.St) (H : Hp), StR X.K ρ Z0 F Z σ H → ∀ Q : VK,
  (∀ a vs Z' H', Gr Z H Z' H' → (SqL X.K Z' a vs ∨ SqL X.K F a vs) → RepL X.K Z' vs ds → Q (.ref a) H') → wE X e σ H Q
/-- what is walked: n items, from the heap Zs (frozen) and F on -/
structure Wk (K : PySem.W.Frag) (Zs F : Hp) (J : It) (ds : List D) : Prop where
  go : ∀ (i : Nat) (d : D) (Z H : Hp), ds[i]? = some d → Ex Zs Z → Ex F H → Ex Z H → J.go i H ∧ ∀ x H', J.yld i H x H' → ∃ Z', Gr Z H Z' H' ∧ Rep K Z' x d
  stop : ∀ (Z H : Hp), Ex Zs Z → Ex F H → Ex Z H → J.stop ds.length H
structure MI (X : Cx) (ρ : Slots) (wi : TI) (ds : List D) : Prop where
  run : ∀ (Z0 F Z : Hp) (σ : L2.St) (H : Hp), StR X.K ρ Z0 F Z σ H → ∀ R : It → Hp → Prop,
  (∀ J Z' H', Gr Z H Z' H' → Wk X.K Z' F J ds → R J H') → wi σ H R
/-- a target: d is stored; the slots at ws change alone -/
structure MTg (g : TG) (K : PySem.W.Frag) (ρ : Slots) (d : D) (ρ' : Slots) (ws : List Nat) : Prop where
  run : ∀ (Z0 F Z : Hp) (σ : L2.St) (H : Hp) (v : V), StR K ρ Z0 F Z σ H → Rep K Z v d → ∀ Q : L2.St → Hp → Prop,
  (∀ σ', StR K ρ' Z0 F Z σ' H → (∀ vs : List Nat, (∀ w ∈ ws, w ∈ vs) → wipe σ' vs = wipe σ vs) → Q σ' H) → g v σ H Q
structure MTgs (g : TGs) (K : PySem.W.Frag) (ρ : Slots) (ds : List D) (ρ' : Slots) (ws : List Nat) : Prop where
  run : ∀ (Z0 F Z : Hp) (σ : L2.St) (H : Hp) (vs : List V), StR K ρ Z0 F Z σ H → RepL K Z vs ds → ∀ Q : L2.St → Hp → Prop,
  (∀ σ', StR K ρ' Z0 F Z σ' H → (∀ vs : List Nat, (∀ w ∈ ws, w ∈ vs) → wipe σ' vs = wipe σ vs) → Q σ' H) → g vs σ H Q
theorem wipe_get (σ : L2.St) : ∀ (vs : List Nat) (j : Nat), (wipe σ vs)[j]? = if j ∈ vs then (if j < σ.length then some none else none) else σ[j]?
  | [], j => by simp [wipe]
  | v :: vs, j => by
    unfold wipe
    rw [List.getElem?_set, wipe_length, wipe_get σ vs j]
    by_cases h : v = j
    · subst h
      by_cases hl : v < σ.length
      · simp [hl]
      · simp [hl]
    · have h2 : ¬ j = v := fun q => h q.symm
      simp [h, h2]
theorem wipe_set {σ : L2.St} {vs : List Nat} {i : Nat} {x : Option V} (h : i ∈ vs) : wipe (σ.set i x) vs = wipe σ vs := by
  apply List.ext_getElem?
  intro j
  rw [wipe_get, wipe_get, List.length_set]
  by_cases hj : j ∈ vs
  · rw [if_pos hj, if_pos hj]
  · rw [if_neg hj, if_neg hj]
    exact List.getElem?_set_ne (fun q => hj (by rw [← q]; exact h))
section
variable {K : PySem.W.Frag} {ρ ρ' ρ2 : Slots} {d : D} {ds : List D} {i : Nat} {ws ws2 : List Nat}
theorem mg_name (hi : i < ρ.length := by exact Nat.le_of_ble_eq_true rfl) : MTg (gName i) K ρ d (ρ.set i (some (.fz d))) [i] := .mk fun Z0 F Z σ H v s r Q q =>
  q _ (s.put (Gr.refl s.ex) (.fz r) .nil hi) fun vs h => wipe_set (h i List.mem_cons_self)
theorem mgs_nil : MTgs gNil K ρ [] ρ [] := .mk fun Z0 F Z σ H vs s r Q q => by
  cases r
  exact ⟨rfl, q σ s fun _ _ => rfl⟩
theorem mgs_cons {t : TG} {u : TGs} (h1 : MTg t K ρ d ρ' ws) (h2 : MTgs u K ρ' ds ρ2 ws2) : MTgs (gCons t u) K ρ (d :: ds) ρ2 (ws ++ ws2) := .mk fun Z0 F Z σ H vs s r Q q => by
  cases r with
  | cons a b =>
    exact ⟨_, _, rfl, h1.run Z0 F Z σ H _ s a _ fun σ1 s1 w1 => h2.run Z0 F Z σ1 H _ s1 b _ fun σ2 s2 w2 => q σ2 s2 fun vs h =>
      (w2 vs fun w m => h w (List.mem_append_right _ m)).trans (w1 vs fun w m => h w (List.mem_append_left _ m))⟩
theorem mg_tup {n : Nat} {u : TGs} (h : MTgs u K ρ ds ρ' ws) (hn : ds.length = n) : MTg (gTup K n u) K ρ (.tup ds) ρ' ws := .mk fun Z0 F Z σ H v s r Q q => by
  cases r with
  | tup a b => exact ⟨_, _, rfl, .of (s.ex _ _ a), by rw [b.length, hn], h.run Z0 F Z σ H _ s b Q q⟩
end

section
variable {X : Cx} {ρ : Slots} {e : Expr} {es : List Expr} {st : Stmt} {sts : List Stmt} {G : Go} {o : O} {d : D} {ds : List D} {pos : Pos} {i : Nat}
theorem ME.k (h : ME X ρ e (.fz (.lst ds))) : MK X ρ e ds := .mk fun Z0 F Z σ H s Q q => h.run Z0 F Z σ H s Q fun v Z' H' A g r n => by
  cases r with
  | fz r =>
    cases r with
    | lst a b => exact q _ _ Z' H' g (.inl a) b
theorem MV.k (h : MV X ρ e (.vw ds)) : MK X ρ e ds := .mk fun Z0 F Z σ H s Q q => h.run Z0 F Z σ H s Q fun v Z' H' A g r => by
  cases r with
  | vw a b => exact q _ _ Z' H' g (.inr a) b
theorem MV.ka {a : Addr} (h : MV X ρ e (.vwa a ds)) : MK X ρ e ds := .mk fun Z0 F Z σ H s Q q => h.run Z0 F Z σ H s Q fun v Z' H' A g r => by
  cases r with
  | vwa a b => exact q _ _ Z' H' g (.inr a) b
theorem MK.l (h : MK X ρ e ds) : ML X ρ e ds := .mk fun Z0 F Z σ H s Q q => h.run Z0 F Z σ H s Q fun a vs Z' H' g l r => q a vs Z' H' g (l.elim (ex_l g.zh) (ex_l (s.gr.hh.trans g.hh))) r
theorem mi_list (h : MK X ρ e ds) : MI X ρ (iList X.K (wE X e)) ds := .mk fun Z0 F Z σ H s R q => h.run Z0 F Z σ H s _ fun a vs Z' H' g l r => by
  have lv : ∀ {Z2 H2 : Hp}, Ex Z' Z2 → Ex F H2 → Ex Z2 H2 → SqL X.K H2 a vs := fun e f z => l.elim (fun l => ex_l (e.trans z) l) fun l => ex_l f l
  refine ⟨a, rfl, ⟨vs, lv (Ex.refl _) (s.gr.hh.trans g.hh) g.zh⟩, q _ Z' H' g ⟨fun j d Z2 H2 hd ez ef zh => ?_, fun Z2 H2 ez ef zh => ⟨vs, lv ez ef zh, Nat.le_of_eq r.length⟩⟩⟩
  obtain ⟨x, hx, rx⟩ := r.get hd
  refine ⟨⟨vs, x, lv ez ef zh, hx⟩, fun y H3 hy => ?_⟩
  obtain ⟨e3, hy⟩ := hy
  subst e3
  have e4 := hy vs (lv ez ef zh)
  rw [hx] at e4
  cases e4
  exact ⟨Z2, Gr.refl zh, rx.mono ez⟩
/-- a text, sign by sign -/
def sgn (x : Str) : List D := x.cps.toList.map fun c => .str ⟨#[c]⟩
theorem mi_str {x : Str} (h : ME X ρ e (.fz (.str x))) : MI X ρ (iStr (wE X e)) (sgn x) := .mk fun Z0 F Z σ H s R q => h.run Z0 F Z σ H s _ fun v Z' H' A g r n => by
  cases r with
  | fz r =>
    cases r
    refine ⟨x, rfl, q _ Z' H' g ⟨fun j d Z2 H2 hd ez ef zh => ?_, fun Z2 H2 ez ef zh => ?_⟩⟩
    · unfold sgn at hd
      rw [List.getElem?_map] at hd
      cases e : x.cps.toList[j]? with
      | none =>
        rw [e] at hd
        cases hd
      | some c =>
        rw [e] at hd
        have hd2 : D.str ⟨#[c]⟩ = d := Option.some.inj hd
        subst hd2
        have e' : x.cps[j]? = some c := by simpa using e
        refine ⟨(Array.getElem?_eq_some_iff.mp e').1, fun y H3 hy => ?_⟩
        obtain ⟨e3, c2, h1, h2⟩ := hy
        subst e3 h2
        rw [e'] at h1
        cases h1
        exact ⟨Z2, Gr.refl zh, .str _⟩
    · show x.cps.size ≤ (sgn x).length
      unfold sgn
      simp
def rng (lo : Int) (n : Nat) : List D := (List.range n).map fun k => .int (lo + (k : Nat))
theorem rng_len (lo : Int) (n : Nat) : (rng lo n).length = n := by simp [rng]
theorem rng_get {lo : Int} {n i : Nat} {d : D} (h : (rng lo n)[i]? = some d) : i < n ∧ d = .int (lo + (i : Nat)) := by
  unfold rng at h
  rw [List.getElem?_map] at h
  by_cases hi : i < n
  · rw [List.getElem?_range hi] at h
    exact ⟨hi, (Option.some.inj h).symm⟩
  · rw [List.getElem?_eq_none (by simpa using hi)] at h
    cases h
theorem wk_rng {K : PySem.W.Frag} {Zs F : Hp} (lo : Int) (n : Nat) : Wk K Zs F (Itr lo n) (rng lo n) := ⟨fun i d Z H h _ _ zh => by
    obtain ⟨hi, e⟩ := rng_get h
    subst e
    refine ⟨hi, fun x H' hy => ?_⟩
    obtain ⟨e, ex⟩ := hy
    subst e ex
    exact ⟨Z, Gr.refl zh, .int _⟩, fun Z H _ _ _ => Nat.le_of_eq (rng_len lo n).symm⟩
theorem mi_range1 {j : Int} (h : MF X ρ es [.int j]) (h1 : -(2 ^ 62) ≤ j) (h2 : j < 2 ^ 62) : MI X ρ (iRng1 (wA X es)) (rng 0 j.toNat) := .mk fun Z0 F Z σ H s R q => h.run Z0 F Z σ H s _ fun vs Z' H' g r => by
  cases r with
  | cons a r =>
    cases a
    cases r
    exact ⟨j, rfl, h1, h2, q _ Z' H' g (wk_rng 0 _)⟩
/-- for: I i holds ahead of turn i -/
theorem m_for {wi : TI} {g : TG} {body : List Stmt} (p : PS X st (tFor wi g (wS X body))) (h : MI X ρ wi ds) (I : Nat → Slots → Prop) (h0 : I 0 ρ)
    (hs : ∀ (j : Nat) (d : D) (τ : Slots), ds[j]? = some d → I j τ → ∃ τ' ws, MTg g X.K τ d τ' ws ∧ MS X τ' body { nx := I (j + 1), ct := I (j + 1), bk := G.nx, rt := G.rt, rs := G.rs })
    (hd : ∀ τ, I ds.length τ → G.nx τ) : MS1 X ρ st G := .mk fun Z0 F Z σ H D s gd => by
  refine PS_w p (h.run Z0 F Z σ H s _ fun J Z1 H1 g1 wk => ?_)
  have s1 := s.grow g1
  have g0 : Gr Z0 F Z1 H1 := s1.gr
  refine ⟨fun j m σ H => m = ds.length - j ∧ j ≤ ds.length ∧ ∃ τ Z2, I j τ ∧ StR X.K τ Z1 F Z2 σ H, ⟨ds.length, by simp, Nat.zero_le _, ρ, Z1, h0, ⟨⟨Ex.refl _, g0.hh, g0.zh, fun _ _ _ => rfl⟩, s1.st⟩⟩, ?_⟩
  rintro j m σ2 H2 ⟨rfl, hj, τ, Z2, hI, s2⟩
  by_cases hlt : j < ds.length
  · obtain ⟨d, ed⟩ : ∃ d, ds[j]? = some d := ⟨ds[j], by simp [hlt]⟩
    obtain ⟨w1, w2⟩ := wk.go j d Z2 H2 ed s2.gr.zz s2.gr.hh s2.gr.zh
    refine .inr ⟨w1, fun σ' H' => ∃ τ Z2, I (j + 1) τ ∧ StR X.K τ Z1 F Z2 σ' H', fun σ' H' q => ⟨ds.length - (j + 1), by omega, rfl, hlt, q⟩, fun x H3 hy => ?_⟩
    obtain ⟨Z3, g3, r3⟩ := w2 x H3 hy
    have s3 := s2.grow g3
    obtain ⟨τ', ws, t1, t2⟩ := hs j d τ ed hI
    refine t1.run Z1 F Z3 σ2 H3 x s3 r3 _ fun σ4 s4 _ => ?_
    exact t2.run Z1 F Z3 σ4 H3 _ s4 ⟨fun τ Z σ H k s => ⟨τ, Z, k, s⟩, fun τ Z σ H k s => gd.nx τ Z σ H k (s.unbase g0), fun τ Z σ H k s => ⟨τ, Z, k, s⟩, fun o v Z H A k gr r n => gd.rt o v Z H A k (g0.base gr) r n, fun o ρ v Z σ H k s => gd.rs o ρ v Z σ H k (s.unbase g0), gd.ex.rebase g0⟩
  · have e : j = ds.length := by omega
    subst e
    exact .inl ⟨wk.stop Z2 H2 s2.gr.zz s2.gr.hh s2.gr.zh, gd.nx τ Z2 σ2 H2 (hd τ hI) (s2.unbase g0)⟩
/-- a, b = e, e a frozen tuple -/
theorem m_tgt {g : TG} {ρ' : Slots} {ws : List Nat} (p : PS X st (tAsg (wE X e) g)) (h : ME X ρ e (.fz d)) (t : MTg g X.K ρ d ρ' ws) (k : G.nx ρ') : MS1 X ρ st G := .mk fun Z0 F Z σ H D s gd =>
  PS_w p (h.run Z0 F Z σ H s _ fun v Z1 H1 A g1 r n => by
    cases r with
    | fz r => exact t.run Z0 F Z1 σ H1 v (s.grow g1) r _ fun σ2 s2 _ => gd.nx ρ' Z1 σ2 H1 k s2)
/-- the promise of a def: the arguments (frozen things, lists that stay as they are), what is handed back -/
def SpM {α : Type} (K : PySem.W.Frag) (ar : α → List O) (pre : α → Prop) (res : α → O) : Sp := fun vs H Q _ => ∃ (x : α) (Z : Hp), Ex Z H ∧ RepOL K Z H H vs (ar x) [] ∧ pre x ∧
  ∀ v Z' H' A, Gr Z H Z' H' → RepO K Z' (fun _ => none) H' v (res x) A → New H Z' A → Q v H'
theorem me_call {α : Type} {ar : α → List O} {pre : α → Prop} {res : α → O} {E : XK} (p : PE X e (tCall (SpM X.K ar pre res) [] E (wA X es))) (x : α) (ha : MA X ρ es (ar x)) (hp : pre x) : ME X ρ e (res x) := .mk fun Z0 F Z σ H s Q q =>
  PE_w p (ha.run Z0 F Z σ H s _ fun vs Z1 H1 g1 r1 => ⟨x, Z1, g1.zh, by rw [List.append_nil]; exact r1, hp, fun v Z2 H2 A g2 r2 n2 =>
    q v Z2 H2 A (g1.trans g2) (r2.mono (Ex.refl _) (fun _ _ z => by cases z) fun _ _ _ z => z) ⟨n2.1, fun a m => ⟨g1.hh.free (n2.2 a m).1, (n2.2 a m).2⟩⟩⟩)
mutual
theorem RepO.unF {K : PySem.W.Frag} {Z F F' H : Hp} : ∀ {v : V} {o : O} {A : List Addr}, RepO K Z F H v o A → o.nv = true → RepO K Z F' H v o A
  | _, _, _, .fz h, _ => .fz h
  | _, _, _, .vw _ _, n => nomatch n
  | _, _, _, .vwa _ _, n => nomatch n
  | _, _, _, .lk _, n => nomatch n
  | _, _, _, .lst h r, n => .lst h (RepOL.unF r n)
  | _, _, _, .tup h r, n => .tup h (RepOL.unF r n)
  | _, _, _, .ins h r, n => .ins h (RepOL.unF r n)
  | _, _, _, .at h r, n => .at h (RepOL.unF r n)
  | _, _, _, .loc h, n => .loc (RepO.unF h n)
  | _, _, _, .pt, _ => .pt
  | _, _, _, .dct h r, n => .dct h (RepOL.unF r n)
  | _, _, _, .dctT h r, n => .dctT h (RepOL.unF r n)
theorem RepOL.unF {K : PySem.W.Frag} {Z F F' H : Hp} : ∀ {vs : List V} {os : List O} {A : List Addr}, RepOL K Z F H vs os A → O.nvL os = true → RepOL K Z F' H vs os A
  | _, _, _, .nil, _ => .nil
  | _, _, _, .cons h r, n => .cons (RepO.unF h (Bool.and_eq_true_iff.mp n).1) (RepOL.unF r (Bool.and_eq_true_iff.mp n).2)
end
theorem stL_args {K : PySem.W.Frag} {Z F H : Hp} : ∀ {vs : List V} {os : List O} {A : List Addr}, RepOL K Z F H vs os A → StL K Z F H (os.map some) (vs.map some) A
  | _, _, _, .nil => .nil
  | _, _, _, .cons h r => .so h (stL_args r)
theorem stL_more {K : PySem.W.Frag} {Z F H : Hp} (n : Nat) : ∀ {ρ : Slots} {σ : L2.St} {A : List Addr}, StL K Z F H ρ σ A → StL K Z F H (ρ ++ List.replicate n none) (σ ++ List.replicate n none) A
  | _, _, _, .nil => by
    rw [List.nil_append, List.nil_append]
    induction n with
    | zero => exact .nil
    | succ n ih => exact .no ih
  | _, _, _, .no h => .no (stL_more n h)
  | _, _, _, .so r h => .so r (stL_more n h)
/-- a def's body keeps its promise -/
theorem fn_m {α : Type} {P : Program} {w : World} {K : PySem.W.Frag} {mg : Str → Option Value} {base : Heap} {x qual : Str} {st : Stmt} {f : Addr} {fd : FuncData} {N ps : List Str} {k : Nat} {ar : α → List O} {pre : α → Prop} {res : α → O}
    (F : Fun K x qual st f fd) (S : FnScope N ps (defScope st)) (hl : ∀ x, (ar x).length = ps.length) (hn : ∀ x, pre x → (res x).nv = true)
    (hb : ∀ (cdv : Value) (A : Around) (outer : List Env) (s : Shared) (H : Hp) (E : XK), Room k (A.deeper (envOfC qual (defScope st) s.heap.objs.size f cdv)) → ∀ x, pre x →
      MS (cxOf CX0 P w K mg base N qual (defScope st) f cdv A outer s H E).nox ((ar x).map some ++ List.replicate (N.length - ps.length) none) (defBody st) { nx := fun _ => res x = .fz .non, rt := fun o => o = res x }) :
    FnOk P w K mg base CX0 (k + 1) f fd ps (SpM K ar pre res) := by
  refine F.ok S (fun vs H Q E h => ?_) (fun cdv A outer s H vs Q E hr h => ?_)
  · obtain ⟨x, Z, _, r, _⟩ := h
    rw [r.length, hl]
  · obtain ⟨x, Z, ez, r, hp, q⟩ := h
    refine ⟨_, pss_w, (hb cdv A outer s H E hr x hp).run Z H Z _ H _ ⟨Gr.refl ez, [], ?_, List.nodup_nil, fun _ m => nomatch m⟩ ⟨fun ρ Z' σ H' e s' => ?_, fun _ _ _ _ z => z.elim, fun _ _ _ _ z => z.elim, fun o v Z' H' A e g r n => ?_, fun _ _ _ _ _ _ z => z.elim, GX.never fun e z => by
      have n := hn x hp
      rw [← show O.rs e = res x from z] at n
      cases n⟩⟩
    · have e : L2.start N vs = vs.map some ++ List.replicate (N.length - ps.length) none := by
        unfold L2.start
        rw [r.length, hl]
      rw [e]
      exact stL_more _ (stL_args r)
    · refine q _ Z' H' [] s'.gr ?_ .nil
      rw [e]
      exact .fz .non
    · subst e
      exact q _ Z' H' A g (r.unF (hn x hp)) n
end
end M
namespace M
open PySem L2 PySem.Spec PyProof.Rows

mutual
def D.py : D → PyData
  | .bl b => .bool b
  | .int i => .int i
  | .str x => .str x
  | .tup ds => .tuple (D.pyL ds)
  | .lst ds => .list (D.pyL ds)
  | _ => .none
def D.pyL : List D → List PyData
  | [] => []
  | d :: r => d.py :: D.pyL r
end
mutual
def D.pl : D → Bool
  | .non => true
  | .bl _ => true
  | .int _ => true
  | .str _ => true
  | .tup ds => D.plL ds
  | .lst ds => D.plL ds
  | _ => false
def D.plL : List D → Bool
  | [] => true
  | d :: r => d.pl && D.plL r
end
section
variable {K : PySem.W.Frag} {Z F H : Hp}
mutual
theorem Rep.dp (e : Ex Z H) : ∀ {v : V} {d : D}, Rep K Z v d → d.pl = true → Dp K H v d.py
  | _, _, .non, _ => .non
  | _, _, .bl b, _ => .bl b
  | _, _, .int i, _ => .int i
  | _, _, .str x, _ => .str x
  | _, _, .ty _, h => nomatch h
  | _, _, .opq _, h => nomatch h
  | _, _, .exc _ _, h => nomatch h
  | _, _, .hx _, h => nomatch h
  | _, _, .tup a r, h => .tup (.of (e _ _ a)) (RepL.dp e r h)
  | _, _, .lst a r, h => .lst (ex_l e a) (RepL.dp e r h)
  | _, _, .ins _ _, h => nomatch h
  | _, _, .dct _ _, h => nomatch h
  | _, _, .dctT _ _, h => nomatch h
theorem RepL.dp (e : Ex Z H) : ∀ {vs : List V} {ds : List D}, RepL K Z vs ds → D.plL ds = true → DpAll K H vs (D.pyL ds)
  | _, _, .nil, _ => .nil
  | _, _, .cons a r, h => .cons (Rep.dp e a (Bool.and_eq_true_iff.mp h).1) (RepL.dp e r (Bool.and_eq_true_iff.mp h).2)
end
mutual
theorem RepK.dp (e : Ex Z H) (f : Ex F H) : ∀ {v : V} {o : O}, RepK K Z F v o → o.frz.pl = true → Dp K H v o.frz.py
  | _, _, .fz r, h => r.dp e h
  | _, _, .vw a r, h => .lst (ex_l f a) (r.dp e h)
  | _, _, .vwa a r, h => .lst (ex_l f a) (r.dp e h)
  | _, .lk o, .lk r, h => RepK.dp (o := o) e f r h
  | _, _, .lst a r, h => .lst (.of (f _ _ a)) (RepKL.dp e f r h)
  | _, _, .tup a r, h => .tup (.of (f _ _ a)) (RepKL.dp e f r h)
  | _, .loc _ o, .loc r, h => RepK.dp (o := o) e f r h
  | _, _, .pt, h => nomatch h
  | _, _, .ins _ _, h => nomatch h
  | _, _, .at _ _, h => nomatch h
  | _, _, .dct _ _, h => nomatch h
  | _, _, .dctT _ _, h => nomatch h
theorem RepKL.dp (e : Ex Z H) (f : Ex F H) : ∀ {vs : List V} {os : List O}, RepKL K Z F vs os → D.plL (O.frzL os) = true → DpAll K H vs (D.pyL (O.frzL os))
  | _, _, .nil, _ => .nil
  | _, _, .cons a r, h => .cons (RepK.dp e f a (Bool.and_eq_true_iff.mp h).1) (RepKL.dp e f r (Bool.and_eq_true_iff.mp h).2)
end
mutual
theorem RepO.dp (e : Ex Z H) (f : Ex F H) : ∀ {v : V} {o : O} {A : List Addr}, RepO K Z F H v o A → o.frz.pl = true → Dp K H v o.frz.py
  | _, _, _, .fz r, h => r.dp e h
  | _, _, _, .vw a r, h => .lst (ex_l f a) (r.dp e h)
  | _, _, _, .vwa a r, h => .lst (ex_l f a) (r.dp e h)
  | _, .lk o, _, .lk r, h => RepK.dp (o := o) e f r h
  | _, _, _, .lst a r, h => .lst (.of a) (RepOL.dp e f r h)
  | _, _, _, .tup a r, h => .tup (.of a) (RepOL.dp e f r h)
  | _, .loc _ o, _, .loc r, h => RepO.dp (o := o) e f r h
  | _, _, _, .pt, h => nomatch h
  | _, _, _, .ins _ _, h => nomatch h
  | _, _, _, .dct _ _, h => nomatch h
  | _, _, _, .dctT _ _, h => nomatch h
theorem RepOL.dp (e : Ex Z H) (f : Ex F H) : ∀ {vs : List V} {os : List O} {A : List Addr}, RepOL K Z F H vs os A → D.plL (O.frzL os) = true → DpAll K H vs (D.pyL (O.frzL os))
  | _, _, _, .nil, _ => .nil
  | _, _, _, .cons a r, h => .cons (RepO.dp e f a (Bool.and_eq_true_iff.mp h).1) (RepOL.dp e f r (Bool.and_eq_true_iff.mp h).2)
end
end
/-- data that can be compared -/
def D.ok (d : D) : Prop := d.pl = true ∧ SeqAt.shaped d.py = true
def D.eqv (d e : D) : Bool := PyData.eqv d.py e.py
section
variable {X : Cx} {ρ : Slots} {e a b elt : Expr} {es : List Expr} {st : Stmt} {sts : List Stmt} {G : Go} {o o1 o2 : O} {d : D} {ds : List D} {pos : Pos} {i : Nat}
theorem me_rD {r : R2} {t : TE} {k : Bool} (p : PE X e (tOp r (wE X a) (wE X b))) (ha : MV X ρ a o1) (hb : MV X ρ b o2) (h1 : o1.frz.pl = true) (h2 : o2.frz.pl = true)
    (h : ∀ x y H (Q : VK), Dp X.K H x o1.frz.py → Dp X.K H y o2.frz.py → Q (.bl k) H → r x y H Q) : ME X ρ e (.fz (.bl k)) := .mk fun Z0 F Z σ H s Q q => by
  refine PE_w p (ha.run Z0 F Z σ H s _ fun v Z1 H1 A1 g1 r1 => ?_)
  refine hb.run Z0 F Z1 σ H1 (s.grow g1) _ fun w Z2 H2 A2 g2 r2 => ?_
  have g := g1.trans g2
  exact h v w H2 Q ((r1.ex g2.zz g2.hh).dp g2.zh (s.gr.hh.trans g.hh) h1) (r2.dp g2.zh (s.gr.hh.trans g.hh) h2) (q _ Z2 H2 [] g (.fz (.bl k)) .nil)
theorem me_eqD (hu : X.A.units + 64 < cLine) (ha : MV X ρ a o1) (hb : MV X ρ b o2) (h1 : o1.frz.ok) (h2 : o2.frz.ok) : ME X ρ (.Compare a [.Eq] [b] pos) (.fz (.bl (o1.frz.eqv o2.frz))) :=
  me_rD (t := tOp (rEqD X.K) (wE X a) (wE X b)) (pe_cmpR (op_eqD hu) pe_w pe_w (nomark _)) ha hb h1.1 h2.1 fun x y H Q p1 p2 q => ⟨_, _, p1, p2, h1.2, h2.2, q⟩
theorem mt_rD {r : R2} {k : Bool} (p : PT X e (tTest (tOp r (wE X a) (wE X b)))) (ha : MV X ρ a o1) (hb : MV X ρ b o2) (h1 : o1.frz.pl = true) (h2 : o2.frz.pl = true)
    (h : ∀ x y H (Q : VK), Dp X.K H x o1.frz.py → Dp X.K H y o2.frz.py → Q (.bl k) H → r x y H Q) : MT X ρ e k := .mk fun Z0 F Z σ H s Q q => by
  refine PT_w p (ha.run Z0 F Z σ H s _ fun v Z1 H1 A1 g1 r1 => ?_)
  refine hb.run Z0 F Z1 σ H1 (s.grow g1) _ fun w Z2 H2 A2 g2 r2 => ?_
  have g := g1.trans g2
  exact h v w H2 _ ((r1.ex g2.zz g2.hh).dp g2.zh (s.gr.hh.trans g.hh) h1) (r2.dp g2.zh (s.gr.hh.trans g.hh) h2) ⟨k, rfl, q Z2 H2 g⟩
theorem mt_eqD (hu : X.A.units + 64 < cLine) (ha : MV X ρ a o1) (hb : MV X ρ b o2) (h1 : o1.frz.ok) (h2 : o2.frz.ok) : MT X ρ (.Compare a [.Eq] [b] pos) (o1.frz.eqv o2.frz) :=
  mt_rD (pt_cmpR (op_eqD hu) pe_w pe_w (nomark _)) ha hb h1.1 h2.1 fun x y H Q p1 p2 q => ⟨_, _, p1, p2, h1.2, h2.2, q⟩
/-- what is walked while nothing that stands changes -/
structure MIc (X : Cx) (ρ : Slots) (wi : TI) (ds : List D) : Prop where
  run : ∀ (Z0 F Z : Hp) (σ : L2.St) (H : Hp), StR X.K ρ Z0 F Z σ H → ∀ R : It → Hp → Prop,
  (∀ J Z' H', Gr Z H Z' H' → Wk X.K Z' H' J ds → R J H') → wi σ H R
theorem MI.c {wi : TI} (h : MI X ρ wi ds) : MIc X ρ wi ds := .mk fun Z0 F Z σ H s R q => h.run Z0 F Z σ H s R fun J Z' H' g wk =>
  q J Z' H' g ⟨fun i d Z2 H2 hd e f z => wk.go i d Z2 H2 hd e ((s.gr.hh.trans g.hh).trans f) z, fun Z2 H2 e f z => wk.stop Z2 H2 e ((s.gr.hh.trans g.hh).trans f) z⟩
def wipeS (ρ : Slots) : List Nat → Slots
  | [] => ρ
  | v :: vs => (wipeS ρ vs).set v none
theorem StL.none {K : PySem.W.Frag} {Z F H : Hp} (x : Option V) : ∀ {ρ : Slots} {σ : L2.St} {A : List Addr} (i : Nat), StL K Z F H ρ σ A → A.Nodup → ∃ A', StL K Z F H (ρ.set i Option.none) (σ.set i x) A' ∧ A'.Nodup ∧ ∀ a ∈ A', a ∈ A
  | _, _, _, _, .nil, n => ⟨_, .nil, n, fun _ m => m⟩
  | _, _, _, 0, .no h, n => ⟨_, .no h, n, fun _ m => m⟩
  | _, _, _, i + 1, .no h, n => by
    obtain ⟨A', q1, q2, q3⟩ := StL.none x i h n
    exact ⟨A', .no q1, q2, q3⟩
  | _, _, _, 0, .so _ h, n => ⟨_, .no h, (List.nodup_append.mp n).2.1, fun _ m => List.mem_append_right _ m⟩
  | _, _, _, i + 1, .so r h, n => by
    obtain ⟨n1, n2, n3⟩ := List.nodup_append.mp n
    obtain ⟨A', q1, q2, q3⟩ := StL.none x i h n2
    refine ⟨_, .so r q1, List.nodup_append.mpr ⟨n1, q2, fun a ha b hb => n3 a ha b (q3 b hb)⟩, fun a m => ?_⟩
    rcases List.mem_append.mp m with m | m
    · exact List.mem_append_left _ m
    · exact List.mem_append_right _ (q3 a m)
theorem StR.wipe {K : PySem.W.Frag} {Z0 F Z H : Hp} {σ : L2.St} (s : StR K ρ Z0 F Z σ H) : ∀ vs : List Nat, StR K (wipeS ρ vs) Z0 F Z (L2.wipe σ vs) H
  | [] => s
  | v :: vs => by
    obtain ⟨g, A, h1, h2, h3⟩ := StR.wipe s vs
    obtain ⟨A', q1, q2, q3⟩ := h1.none none v h2
    exact ⟨g, A', q1, q2, fun a m => h3 a (q3 a m)⟩
/-- (.., x, ..): a tuple of frozen things and one own slot's thing -/
structure MRs (X : Cx) (ρ : Slots) (es : List Expr) (os : List O) : Prop where
  run : ∀ (Z0 F Z : Hp) (σ : L2.St) (H : Hp), StR X.K ρ Z0 F Z σ H → ∀ Q : List V → Hp → Prop,
  (∀ vs Z' H' A, Gr Z H Z' H' → RepOL X.K Z' F H' vs os A → A.Nodup → (∀ a ∈ A, Z' a = none ∧ F a = none) → Q vs H') → wA X es σ H Q
theorem MF.rs (h : MF X ρ es ds) : MRs X ρ es (ds.map .fz) := .mk fun Z0 F Z σ H s Q q => h.run Z0 F Z σ H s Q fun vs Z' H' g r => q vs Z' H' [] g r.own List.nodup_nil fun _ m => nomatch m
end
end M
namespace M
open PySem L2 PySem.Spec PyProof.Rows
section
variable {X : Cx} {ρ : Slots} {e a b elt : Expr} {es : List Expr} {st : Stmt} {sts : List Stmt} {G : Go} {o o1 o2 : O} {d : D} {ds : List D} {pos p0 p1 : Pos} {i : Nat} {x nm : Str}
theorem ml_var (p : PE X (.Name x pos) (tVar i)) (h : ρ[i]? = some (some o)) (hl : IsLst o ds := by first | exact .vw _ | exact .fz _ | exact .own _ | exact .vwa _ _) : ML X ρ (.Name x pos) ds := MV.l (mv_var p h) hl
theorem le_auto {ρ τ : Slots} (l : Le ρ τ := by repeat (first | exact Le.nil | refine Le.no ?_ | refine Le.eq ?_)) : Le ρ τ := l
/-- .. by a state: S j x holds ahead of turn j -/
theorem m_forS {α : Type} {wi : TI} {g : TG} {body : List Stmt} (p : PS X st (tFor wi g (wS X body))) (h : MI X ρ wi ds) (R : α → Slots) (S : Nat → α → Prop) (h0 : ∃ x, S 0 x ∧ Le ρ (R x))
    (hs : ∀ (j : Nat) (d : D) (x : α), ds[j]? = some d → S j x → ∃ τ' ws, MTg g X.K (R x) d τ' ws ∧ MS X τ' body { nx := fun τ => ∃ y, S (j + 1) y ∧ Le τ (R y), ct := fun τ => ∃ y, S (j + 1) y ∧ Le τ (R y), bk := G.nx, rt := G.rt, rs := G.rs })
    (hd : ∀ τ x, S ds.length x → Le τ (R x) → G.nx τ) : MS1 X ρ st G := by
  refine m_for p h (fun j τ => ∃ x, S j x ∧ Le τ (R x)) h0 (fun j d τ hj l => ?_) fun τ ⟨x, h1, h2⟩ => hd τ x h1 h2
  obtain ⟨x, l1, l2⟩ := l
  obtain ⟨τ', ws, t1, t2⟩ := hs j d x hj l1
  exact ⟨τ', ws, .mk fun Z0 F Z σ H v s r Q q => t1.run Z0 F Z σ H v (s.le l2) r Q q, t2⟩
/-- an own def, as it is called by its name -/
structure Fn1 (P : Program) (w : World) (K : PySem.W.Frag) (mg : Str → Option Value) (base : Heap) (name : Str) (k : Nat) (ps : List Str) (sp : Sp) : Prop where
  ex : ∃ (f : Addr) (fd : FuncData), mg name = some (.ref f) ∧ PySem.W.keepIn K (.ref f) = true ∧ Binds K fd ps [] ∧ FnOk P w K mg base CX0 k f fd ps sp
theorem me_fn {α : Type} {ar : α → List O} {pre : α → Prop} {res : α → O} {k : Nat} {ps : List Str} (c : Fn1 X.prog X.w X.K X.mg X.base nm k ps (SpM X.K ar pre res)) (x : α) (ha : MA X ρ (e :: es) (ar x)) (hp : pre x) (hr : Room k X.A) {o : O} (hres : res x = o := by first | (dsimp only; done) | (dsimp only; rfl) | rfl) (hg : Gl X nm := by rfl)
    (hdb : (nm == ("__debug__" : Str)) = false := by decide) (he : starEach (e :: es) X.env = (false, eval e X.env) :: starEach es X.env := by rfl) (hpl : (backTo pos (starEach es X.env)).any (·.1) = false := by rfl) : ME X ρ (.Call (.Name nm p0) (e :: es) [] pos) o := by
  subst hres
  obtain ⟨f, fd, hm, hk, hb, F⟩ := c.ex
  exact me_call (pe_call F hr hg hm hk hb .nil pass0 pa_w hdb he hpl) x ha hp
end
end M
namespace M
open PySem L2 PySem.Spec PyProof.Rows
inductive Smp : Nat → D → Prop where
  | non {n : Nat} : Smp n .non
  | bl {n : Nat} (b : Bool) : Smp n (.bl b)
  | int {n : Nat} (i : Int) : Smp n (.int i)
  | str {n : Nat} {x : Str} (h : (PyData.str x).canLay0 = true) : Smp n (.str x)
  | tup {n : Nat} {ds : List D} (h : ∀ d ∈ ds, Smp n d) : Smp (n + 1) (.tup ds)
  | lst {n : Nat} {ds : List D} (h : ∀ d ∈ ds, Smp n d) : Smp (n + 1) (.lst ds)
theorem D.plL_all : ∀ {ds : List D}, (∀ d ∈ ds, d.pl = true) → D.plL ds = true
  | [], _ => rfl
  | d :: r, h => by
    show (d.pl && D.plL r) = true
    rw [h d List.mem_cons_self, D.plL_all fun e m => h e (List.mem_cons_of_mem _ m)]
    rfl
theorem canL_all : ∀ {ds : List D}, (∀ d ∈ ds, d.py.canLay0 = true) → PyData.canLayAll0 (D.pyL ds) = true
  | [], _ => rfl
  | d :: r, h => by
    show (d.py.canLay0 && PyData.canLayAll0 (D.pyL r)) = true
    rw [h d List.mem_cons_self, canL_all fun e m => h e (List.mem_cons_of_mem _ m)]
    rfl
theorem depL_all {n : Nat} : ∀ {ds : List D}, (∀ d ∈ ds, d.py.depth ≤ n) → PyData.depthAll (D.pyL ds) ≤ n
  | [], _ => Nat.zero_le _
  | d :: r, h => Nat.max_le.mpr ⟨h d List.mem_cons_self, depL_all fun e m => h e (List.mem_cons_of_mem _ m)⟩
theorem Smp.all {n : Nat} {d : D} (h : Smp n d) : d.pl = true ∧ d.py.canLay0 = true ∧ d.py.depth ≤ n := by
  induction h with
  | non => exact ⟨rfl, rfl, Nat.zero_le _⟩
  | bl b => exact ⟨rfl, rfl, Nat.zero_le _⟩
  | int i => exact ⟨rfl, rfl, Nat.zero_le _⟩
  | str h => exact ⟨rfl, h, Nat.zero_le _⟩
  | tup h ih => exact ⟨D.plL_all fun d m => (ih d m).1, canL_all fun d m => (ih d m).2.1, Nat.succ_le_succ (depL_all fun d m => (ih d m).2.2)⟩
  | lst h ih => exact ⟨D.plL_all fun d m => (ih d m).1, canL_all fun d m => (ih d m).2.1, Nat.succ_le_succ (depL_all fun d m => (ih d m).2.2)⟩
theorem Smp.ok {n : Nat} {d : D} (h : Smp n d) (hn : n ≤ 64 := by decide) : d.ok := by
  obtain ⟨h1, h2, h3⟩ := h.all
  refine ⟨h1, ?_⟩
  unfold SeqAt.shaped
  rw [h2, decide_eq_true (Nat.le_trans h3 hn)]
  rfl
theorem Smp.up {n m : Nat} {d : D} (h : Smp n d) (l : n ≤ m) : Smp m d := by
  induction h generalizing m with
  | non => exact .non
  | bl b => exact .bl b
  | int i => exact .int i
  | str h => exact .str h
  | tup h ih =>
    cases m with
    | zero => exact absurd l (by omega)
    | succ m => exact .tup fun d k => ih d k (by omega)
  | lst h ih =>
    cases m with
    | zero => exact absurd l (by omega)
    | succ m => exact .lst fun d k => ih d k (by omega)
theorem eqvL_refl : ∀ {ds : List D}, (∀ d ∈ ds, d.eqv d = true) → PyData.eqvAll (D.pyL ds) (D.pyL ds) = true
  | [], _ => rfl
  | d :: r, h => by
    show (PyData.eqv d.py d.py && PyData.eqvAll (D.pyL r) (D.pyL r)) = true
    rw [show PyData.eqv d.py d.py = true from h d List.mem_cons_self, eqvL_refl fun e m => h e (List.mem_cons_of_mem _ m)]
    rfl
theorem Smp.eqv {n : Nat} {d : D} (h : Smp n d) : d.eqv d = true := by
  induction h with
  | non => rfl
  | bl b => exact beq_self_eq_true b
  | int i => exact beq_self_eq_true i
  | str h => exact beq_self_eq_true _
  | tup h ih => exact eqvL_refl ih
  | lst h ih => exact eqvL_refl ih
theorem smps_nil {n : Nat} : ∀ d ∈ ([] : List D), Smp n d := fun _ m => nomatch m
theorem smps_cons {n : Nat} {d : D} {ds : List D} (h : Smp n d) (r : ∀ d ∈ ds, Smp n d) : ∀ e ∈ d :: ds, Smp n e := fun e m => (List.mem_cons.mp m).elim (fun q => q ▸ h) (r e)
theorem smps_map {α : Type} {n : Nat} {f : α → D} {xs : List α} (h : ∀ x ∈ xs, Smp n (f x)) : ∀ d ∈ xs.map f, Smp n d := fun d m => by
  obtain ⟨x, hx, rfl⟩ := List.mem_map.mp m
  exact h x hx
section
variable {X : Cx} {ρ : Slots} {e a b elt : Expr} {es : List Expr} {st : Stmt} {sts : List Stmt} {G : Go} {o o1 o2 : O} {d : D} {ds : List D} {pos p0 p1 : Pos} {i : Nat} {x nm : Str}
end
section
variable {K : PySem.W.Frag} {Z0 Z Z' F H H' : Hp} {ρ : Slots} {σ : L2.St}
end
section
variable {X : Cx} {ρ : Slots} {e a b elt : Expr} {es : List Expr} {st : Stmt} {sts : List Stmt} {G : Go} {o o1 o2 : O} {d : D} {ds : List D} {pos p0 p1 : Pos} {i : Nat} {x nm : Str}
theorem ME.is {o' : O} (h : ME X ρ e o) (q : o = o') : ME X ρ e o' := q ▸ h
theorem m_forTS {α β : Type} {xs : List α} {enc : α → D} {wi : TI} {g : TG} {body : List Stmt} (p : PS X st (tFor wi g (wS X body))) (h : MI X ρ wi (xs.map enc)) (R : β → Slots) (S : Nat → β → Prop) (h0 : ∃ y, S 0 y ∧ Le ρ (R y))
    (hs : ∀ (j : Nat) (x : α) (y : β), xs[j]? = some x → S j y → ∃ τ' ws, MTg g X.K (R y) (enc x) τ' ws ∧ MS X τ' body { nx := fun τ => ∃ y, S (j + 1) y ∧ Le τ (R y), ct := fun τ => ∃ y, S (j + 1) y ∧ Le τ (R y), bk := G.nx, rt := G.rt, rs := G.rs })
    (hd : ∀ τ y, S xs.length y → Le τ (R y) → G.nx τ) : MS1 X ρ st G := by
  refine m_forS p h R S h0 (fun j d y hj => ?_) fun τ y h1 l => hd τ y (by rw [List.length_map] at h1; exact h1) l
  rw [List.getElem?_map] at hj
  obtain ⟨x, hx, rfl⟩ := Option.map_eq_some_iff.mp hj
  exact hs j x y hx
end
/-- a law's promise -/
def spLaw (K : PySem.W.Frag) : Sp := SpM K (fun ns : List Int => [.vw (ns.map .int)]) (fun ns => ns.length ≤ 63) (fun _ => .fz (.bl true))
theorem spLaw_of {K : PySem.W.Frag} {H : Hp} {a : Addr} {ns : List Int} {E : XK} (hS : SqL K H a (ns.map V.int)) (hl : ns.length ≤ 63) : spLaw K [.ref a] H (fun v _ => v = .bl true) E := by
  refine ⟨ns, fun _ => none, fun _ _ z => (by cases z), RepOL.cons (A := []) (B := []) (RepO.vw hS RepL.ofInts) RepOL.nil, hl, fun v Z' H' A g r n => ?_⟩
  cases r with
  | fz r =>
    cases r
    rfl
end M
namespace M
open PySem L2 PySem.Spec PyProof.Rows
theorem RepOL.set {K : PySem.W.Frag} {Z F H : Hp} {w : V} {d : D} (h : Rep K Z w d) : ∀ {vs : List V} {ds : List D} {A : List Addr} (j : Nat), RepOL K Z F H vs (ds.map .fz) A → RepOL K Z F H (vs.set j w) ((ds.set j d).map .fz) A
  | _, [], _, _, .nil => .nil
  | _, _ :: _, _, 0, .cons (.fz _) r => .cons (A := []) (.fz h) r
  | _, _ :: _, _, j + 1, .cons (.fz g) r => .cons (A := []) (.fz g) (RepOL.set h j r)
section
variable {X : Cx} {ρ : Slots} {e a b c elt : Expr} {es rest : List Expr} {st : Stmt} {sts : List Stmt} {G : Go} {o o1 o2 : O} {d : D} {ds : List D} {pos p0 p1 p2 p3 p4 p5 p6 : Pos} {i : Nat} {x nm : Str} {m n k : Int} {p q : Str}
/-- x[e1] = e2, x a slot with an own list of frozen things -/
theorem m_setItem {j : Nat} (pn : PE X (.Name x p1) (tVar i)) (hi : ρ[i]? = some (some (.lst (ds.map .fz)))) (h1 : ME X ρ a (.fz (.int k))) (h2 : ME X ρ b (.fz d)) (hj : ixN ds.length k = some j) (kk : G.nx (ρ.set i (some (.lst ((ds.set j d).map .fz)))))
    (pm : PS X (.Assign [.Subscript (.Name x p1) a p2] b p3) (tAsg (wE X b) (gSub (tVar i) (wE X a) rSetL)) := by exact ps_asg pe_w (pg_sub (pv _) pe_w set_list)) : MS1 X ρ (.Assign [.Subscript (.Name x p1) a p2] b p3) G := .mk fun Z0 F Z σ H D s g => by
  obtain ⟨v, A, e1, r1, nA, dA, k1⟩ := s.upd hi
  cases r1 with
  | @lst l vs _ A h0 r1 =>
    refine PS_w pm (h2.run Z0 F Z σ H s _ fun w Z1 H1 B g1 r2 n2 => ?_)
    refine ⟨_, e1, h1.run Z0 F Z1 σ H1 (s.grow g1) _ fun y Z2 H2 B2 g2 r3 n3 => ?_⟩
    cases r3 with
    | fz r3 =>
      cases r3
      cases r2 with
      | fz r2 =>
        have g12 := g1.trans g2
        have hl : ixN vs.length k = some j := by rw [r1.length, List.length_map]; exact hj
        refine ⟨l, vs, k, j, rfl, rfl, g12.hh _ _ h0, hl, ?_⟩
        have zl : Z2 l = none := by
          rw [g12.nw l _ h0]
          exact (dA l List.mem_cons_self).1
        obtain ⟨na, nA'⟩ := List.nodup_cons.mp nA
        have r1' : RepOL X.K Z2 F (upd H2 l (.lst (vs.set j w))) vs (ds.map .fz) A := r1.mono g12.zz (Ex.refl _) fun b m u hu => by
          have ne : b ≠ l := fun q => na (by rw [← q]; exact m)
          rw [upd_ne ne]
          exact g12.hh b u hu
        refine g.nx _ Z2 σ _ kk ?_
        refine k1 g12.zz g12.nw (g12.zh.mut zl) (fun b nb u hu => ?_) (.lst upd_same (r1'.set (r2.mono g2.zz) j)) nA fun b m => .inl m
        have ne : b ≠ l := fun q => nb (by rw [q]; exact List.mem_cons_self)
        rw [upd_ne ne]
        exact g12.hh b u hu

/-- [..] * n, a list of its own -/
def repG {α : Type} (xs : List α) (k : Int) : List α := (List.replicate k.toNat xs).flatten
theorem RepL.rep {K : PySem.W.Frag} {Z : Hp} {vs : List V} {ds : List D} (r : RepL K Z vs ds) : ∀ k : Nat, RepL K Z (List.replicate k vs).flatten (List.replicate k ds).flatten
  | 0 => .nil
  | k + 1 => by
    rw [List.replicate_succ, List.replicate_succ, List.flatten_cons, List.flatten_cons]
    exact r.append (r.rep k)
theorem me_rep (ha : MV X ρ a (.lst (ds.map .fz))) (hb : ME X ρ b (.fz (.int k))) (hk : -(2 ^ 63) ≤ k ∧ k < 2 ^ 63) (hl : ds.length * k.toNat ≤ sizeLine) : ME X ρ (.BinOp a .Mult b pos) (.lst ((repG ds k).map .fz)) := .mk fun Z0 F Z σ H s Q q =>
  PE_w (pe_op op_rep pe_w pe_w) (ha.run Z0 F Z σ H s _ fun v Z1 H1 A1 g1 r1 => hb.run Z0 F Z1 σ H1 (s.grow g1) _ fun w Z2 H2 A2 g2 r2 n2 => by
    cases r2 with
    | fz r2 =>
      cases r2
      cases r1 with
      | @lst l vs _ A h0 r1 =>
        have g := g1.trans g2
        obtain ⟨_, r1⟩ := r1.fzs
        refine ⟨l, k, vs, rfl, rfl, g2.hh _ _ h0, hk.1, hk.2, by rw [r1.length]; exact hl, fun p hp => ?_⟩
        exact q _ Z2 _ [p] (g.trans (Gr.new g.zh hp)) (.lst upd_same ((r1.mono g2.zz).rep _).own) (new_one (g.hh.free hp) (g.zh.free hp)))
/-- xs + ys, lists of its own -/
theorem me_catL {es1 : List D} (ha : MV X ρ a (.lst (ds.map .fz))) (hb : MV X ρ b (.lst (es1.map .fz))) (hl : ds.length + es1.length ≤ sizeLine) : ME X ρ (.BinOp a .Add b pos) (.lst ((ds ++ es1).map .fz)) := .mk fun Z0 F Z σ H s Q q =>
  PE_w (pe_op op_cat pe_w pe_w) (ha.run Z0 F Z σ H s _ fun v Z1 H1 A1 g1 r1 => hb.run Z0 F Z1 σ H1 (s.grow g1) _ fun w Z2 H2 A2 g2 r2 => by
    cases r2 with
    | @lst l2 us _ A2 h2 r2 =>
      cases r1 with
      | @lst l vs _ A h0 r1 =>
        have g := g1.trans g2
        obtain ⟨_, r1⟩ := r1.fzs
        obtain ⟨_, r2⟩ := r2.fzs
        refine ⟨l, l2, vs, us, rfl, rfl, g2.hh _ _ h0, h2, by rw [r1.length, r2.length]; exact hl, fun p hp => ?_⟩
        exact q _ Z2 _ [p] (g.trans (Gr.new g.zh hp)) (.lst upd_same ((r1.mono g2.zz).append r2).own) (new_one (g.hh.free hp) (g.zh.free hp)))
theorem me_chain {op op' : CmpOp} {f f' : Int → Int → Bool} (ho : OpR X (compareOp op) (rI0 fun i j => .bl (f i j))) (ho' : OpR X (compareOp op') (rI0 fun i j => .bl (f' i j))) (ha : ME X ρ a (.fz (.int m))) (hb : ME X ρ b (.fz (.int n))) (hc : ME X ρ c (.fz (.int k)))
    (hm : lastMarks [op, op'] [b, c] = false := by with_unfolding_all rfl) : ME X ρ (.Compare a [op, op'] [b, c] pos) (.fz (.bl (f m n && f' n k))) := .mk fun Z0 F Z σ H s Q q =>
  PE_w (pe_chain ho ho' pe_w pe_w pe_w hm) (ha.run Z0 F Z σ H s _ fun v Z1 H1 A1 g1 r1 n1 => hb.run Z0 F Z1 σ H1 (s.grow g1) _ fun w Z2 H2 A2 g2 r2 n2 => by
    cases r1 with
    | fz r1 =>
      cases r1
      cases r2 with
      | fz r2 =>
        cases r2
        refine ⟨m, n, rfl, rfl, f m n, rfl, ?_⟩
        cases hf : f m n with
        | false =>
          rw [if_neg Bool.false_ne_true]
          have q' := q (.bl (f m n && f' n k)) Z2 H2 [] (g1.trans g2) (.fz (.bl _)) .nil
          rw [hf] at q'
          exact q'
        | true =>
          rw [if_pos rfl]
          refine hc.run Z0 F Z2 σ H2 (s.grow (g1.trans g2)) _ fun y Z3 H3 A3 g3 r3 n3 => ?_
          cases r3 with
          | fz r3 =>
            cases r3
            have q' := q (.bl (f m n && f' n k)) Z3 H3 [] ((g1.trans g2).trans g3) (.fz (.bl _)) .nil
            rw [hf] at q'
            exact ⟨n, k, rfl, rfl, q'⟩)
theorem me_intS (hg : Gl X "int") (hm : X.mg "int" = none) (ha : ME X ρ a (.fz (.str p))) (hn : PySem.intText? p = some m) (hl : p.length ≤ 640) (n1 : NS X a := by exact fun _ => rfl) : ME X ρ (.Call (.Name "int" p0) [a] [] pos) (.fz (.int m)) := .mk fun Z0 F Z σ H s Q q =>
  PE_w (pe_callTy call_int_str hg hm (by decide +kernel) (pa_cons pe_w pa_nil (n1 _)) (he := n1 _)) (ha.run Z0 F Z σ H s _ fun v Z1 H1 A1 g1 r1 n1 => by
    cases r1 with
    | fz r1 =>
      cases r1
      exact ⟨p, m, rfl, hn, hl, q _ Z1 H1 [] g1 (.fz (.int _)) .nil⟩)
theorem mt_niS {ch : Nat} (ha : ME X ρ a (.fz (.str ⟨#[ch]⟩))) (hb : ME X ρ b (.fz (.str q))) (hm : behindInMarks .NotIn b = false := by rfl) : MT X ρ (.Compare a [.NotIn] [b] pos) (!decide (ch ∈ q.cps.toList)) := mt_cmp op_notIn_sign ha hb (.str _) (.str _) (fun _ _ k => ⟨ch, q, rfl, rfl, k⟩) hm
theorem me_gI {t : Tok} (hm : X.mg nm = some (.int m t)) (hg : Gl X nm := by rfl) (hd : (nm == ("__debug__" : Str)) = false := by decide) : ME X ρ (.Name nm pos) (.fz (.int m)) := me_c (pe_glob (v := .int m) hg hm ⟨t, rfl⟩ hd) (.int m)
theorem me_gS {t : Tok} (hm : X.mg nm = some (.str p t)) (hg : Gl X nm := by rfl) (hd : (nm == ("__debug__" : Str)) = false := by decide) : ME X ρ (.Name nm pos) (.fz (.str p)) := me_c (pe_glob (v := .str p) hg hm ⟨t, rfl⟩ hd) (.str p)
end
end M
namespace M
open PySem L2 PySem.Spec PyProof.Rows
theorem Le.trans : ∀ {ρ τ υ : Slots}, Le ρ τ → Le τ υ → Le ρ υ
  | _, _, _, .nil, h => h
  | _, _, _, .no l, .no r => .no (l.trans r)
  | _, _, _, .no l, .eq r => .no (l.trans r)
  | _, _, _, .eq l, .no r => .no (l.trans r)
  | _, _, _, .eq l, .eq r => .eq (l.trans r)
/-- what the text tells of a class: its attributes' names are no names of the class -/
structure OC (K : PySem.W.Frag) (C : Addr) (ns : List Str) : Prop where
  cl : Cls K C
  na : ∀ f ∈ ns, NoAttr K C f
def nmAt : List Str → Str → Option Nat
  | [], _ => none
  | n :: r, f => if f = n then some 0 else (nmAt r f).map (· + 1)
theorem nmAt_mem : ∀ {ns : List Str} {f : Str} {j : Nat}, nmAt ns f = some j → f ∈ ns
  | n :: r, f, j, h => by
    unfold nmAt at h
    by_cases e : f = n
    · subst e
      exact List.mem_cons_self
    · rw [if_neg e] at h
      cases h1 : nmAt r f with
      | none =>
        rw [h1] at h
        cases h
      | some i => exact List.mem_cons_of_mem _ (nmAt_mem h1)
theorem look_zip : ∀ {ns : List Str} {f : Str} {j : Nat} {vs : List V} {v : V}, nmAt ns f = some j → vs[j]? = some v → (ns.zip vs).lookup f = some v
  | n :: r, f, j, vs, v, h, hv => by
    unfold nmAt at h
    cases vs with
    | nil => simp at hv
    | cons u us =>
      by_cases e : f = n
      · rw [if_pos e] at h
        cases h
        simp at hv
        subst hv
        show List.lookup f ((n, u) :: r.zip us) = _
        simp only [List.lookup, beq_iff_eq.mpr e]
      · rw [if_neg e] at h
        cases h1 : nmAt r f with
        | none =>
          rw [h1] at h
          cases h
        | some i =>
          rw [h1] at h
          cases h
          show List.lookup f ((n, u) :: r.zip us) = _
          simp only [List.lookup, beq_eq_false_iff_ne.mpr e]
          exact look_zip h1 (by simpa using hv)
theorem look_none : ∀ {ns : List Str} {f : Str} {vs : List V}, nmAt ns f = none → (ns.zip vs).lookup f = none
  | [], f, vs, _ => by simp
  | n :: r, f, [], _ => by simp
  | n :: r, f, u :: us, h => by
    unfold nmAt at h
    by_cases e : f = n
    · rw [if_pos e] at h
      cases h
    · rw [if_neg e] at h
      show List.lookup f ((n, u) :: r.zip us) = none
      simp only [List.lookup, beq_eq_false_iff_ne.mpr e]
      refine look_none ?_
      cases h1 : nmAt r f with
      | none => rfl
      | some i =>
        rw [h1] at h
        cases h
/-- a name is put: it stands there, or comes behind -/
def nsPut : List Str → Str → List Str
  | [], f => [f]
  | n :: r, f => if n = f then n :: r else n :: nsPut r f
def xsPut {α : Type} : List Str → Str → List α → α → List α
  | n :: r, f, u :: us, v => if n = f then v :: us else u :: xsPut r f us v
  | _, _, _, v => [v]
theorem put_zip : ∀ {ns : List Str} {f : Str} {vs : List V} {v : V}, vs.length = ns.length → putF f v (ns.zip vs) = (nsPut ns f).zip (xsPut ns f vs v)
  | [], f, [], v, _ => rfl
  | n :: r, f, u :: us, v, h => by
    show putF f v ((n, u) :: r.zip us) = _
    unfold putF nsPut xsPut
    by_cases e : n = f
    · rw [if_pos e, if_pos e, if_pos e]
      rfl
    · rw [if_neg e, if_neg e, if_neg e, put_zip (by simpa using h)]
      rfl
section
variable {K : PySem.W.Frag} {Z Z' F F' H H' : Hp}
theorem RepOL.put {w : V} {o : O} {B : List Addr} (r : RepO K Z F H w o B) (nB : B.Nodup) : ∀ {ns : List Str} {f : Str} {vs : List V} {os : List O} {A : List Addr}, vs.length = ns.length → RepOL K Z F H vs os A → A.Nodup → (∀ a ∈ A, a ∉ B) →
    ∃ A', RepOL K Z F H (xsPut ns f vs w) (xsPut ns f os o) A' ∧ A'.Nodup ∧ ∀ a ∈ A', a ∈ A ∨ a ∈ B
  | [], f, [], [], _, _, .nil, _, _ => ⟨B ++ [], .cons r .nil, by rw [List.append_nil]; exact nB, fun a m => .inr (by rw [List.append_nil] at m; exact m)⟩
  | n :: ns, f, v :: vs, o1 :: os, _, hl, .cons (A := A1) (B := A2) h1 h2, nA, d => by
    obtain ⟨n1, n2, n3⟩ := List.nodup_append.mp nA
    unfold xsPut
    by_cases e : n = f
    · rw [if_pos e, if_pos e]
      refine ⟨B ++ A2, .cons r h2, List.nodup_append.mpr ⟨nB, n2, fun a ha b hb e => ?_⟩, fun a m => ?_⟩
      · subst e
        exact d a (List.mem_append_right _ hb) ha
      · rcases List.mem_append.mp m with m | m
        · exact .inr m
        · exact .inl (List.mem_append_right _ m)
    · rw [if_neg e, if_neg e]
      obtain ⟨A', q1, q2, q3⟩ := RepOL.put r nB (ns := ns) (f := f) (vs := vs) (os := os) (by simpa using hl) h2 n2 fun a m => d a (List.mem_append_right _ m)
      refine ⟨A1 ++ A', .cons h1 q1, List.nodup_append.mpr ⟨n1, q2, fun a ha b hb e => ?_⟩, fun a m => ?_⟩
      · subst e
        rcases q3 a hb with z | z
        · exact n3 a ha a z rfl
        · exact d a (List.mem_append_left _ ha) z
      · rcases List.mem_append.mp m with m | m
        · exact .inl (List.mem_append_left _ m)
        · exact (q3 a m).imp (List.mem_append_right _) id
theorem RepO.unAt {v : V} {a C : Addr} {ns : List Str} {os : List O} {A : List Addr} (r : RepO K Z F H v (.at a C ns os) A) : RepO K Z F H v (.ins C ns os) A := by
  cases r with
  | «at» h q => exact .ins h q
end
section
variable {X : Cx} {ρ : Slots} {e a b c elt : Expr} {es rest : List Expr} {st : Stmt} {sts : List Stmt} {G : Go} {o o1 o2 : O} {d : D} {ds : List D} {os : List O} {pos p0 p1 p2 p3 p4 p5 p6 : Pos} {i : Nat} {x nm f : Str} {m n k : Int} {p q : Str} {C : Addr} {ns : List Str}
/-- e.f of a frozen instance -/
theorem me_fld {j : Nat} (h : MV X ρ e (.fz (.ins C ns ds))) (cc : OC X.K C ns) (hd : ds[j]? = some d := by rfl) (hj : nmAt ns f = some j := by decide +kernel) (hb : attributeBase e f X.env (eval e X.env) = eval e X.env := by rfl) : ME X ρ (.Attribute e f pos) (.fz d) := .mk fun Z0 F Z σ H s Q q =>
  PE_w (pe_fld pe_w hb) (h.run Z0 F Z σ H s _ fun v Z1 H1 A g1 r1 => by
    cases r1 with
    | fz r1 =>
      cases r1 with
      | @ins a C dx ns vs ds hz rl =>
        obtain ⟨v, hv, rv⟩ := rl.get hd
        exact ⟨a, C, dx, _, v, rfl, g1.zh _ _ hz, cc.cl, cc.na f (nmAt_mem hj), look_zip hj hv, q v Z1 H1 [] g1 (.fz rv) .nil⟩)
theorem MV.unAt {l : Addr} (h : MV X ρ e (.at l C ns os)) : MV X ρ e (.ins C ns os) := .mk fun Z0 F Z σ H s Q q => h.run Z0 F Z σ H s Q fun v Z1 H1 A g r => q v Z1 H1 A g r.unAt
theorem ME.unAt {l : Addr} (h : ME X ρ e (.at l C ns os)) : ME X ρ e (.ins C ns os) := .mk fun Z0 F Z σ H s Q q => h.run Z0 F Z σ H s Q fun v Z1 H1 A g r => q v Z1 H1 A g r.unAt
/-- x.f = e, x a slot with an own instance at a known place; all: every attribute's name that the class has -/
theorem m_setFld {l : Addr} {all : List Str} (pn : PE X (.Name x p1) (tVar i)) (hi : ρ[i]? = some (some (.at l C ns os))) (hl : os.length = ns.length := by rfl) (h1000 : ns.length < 1000 := by decide) (cc : OC X.K C all) (hm : f ∈ all := by decide +kernel) (he : ME X ρ e o)
    (kk : G.nx (ρ.set i (some (.at l C (nsPut ns f) (xsPut ns f os o)))))
    (hs : swapsWith e (some (.Attribute (.Name x p1) f p2)) p3.line X.env = pure false := by rfl) : MS1 X ρ (.Assign [.Attribute (.Name x p1) f p2] e p3) G := .mk fun Z0 F Z σ H D s g => by
  obtain ⟨v, A, e1, r1, nA, dA, k1⟩ := s.upd hi
  cases r1 with
  | @«at» l C dx ns vs os A h0 r1 =>
    have hlv : vs.length = ns.length := by rw [r1.length]; exact hl
    refine PS_w (ps_fld pn pe_w hs) (he.run Z0 F Z σ H s _ fun w Z1 H1 B g1 r2 n2 => ?_)
    refine ⟨_, e1, l, C, dx, _, rfl, g1.hh _ _ h0, cc.cl, cc.na f hm, by rw [List.length_zip, hlv]; omega, ?_⟩
    rw [put_zip hlv]
    obtain ⟨na, nA'⟩ := List.nodup_cons.mp nA
    have zl : Z1 l = none := by
      rw [g1.nw l _ h0]
      exact (dA l List.mem_cons_self).1
    have there : ∀ b ∈ l :: A, ∃ u, H b = some u := (RepO.at (Z := Z) (F := F) (H := H) h0 r1).there
    have nb : ∀ b ∈ B, b ≠ l := fun b m q => by
      have := (n2.2 b m).1
      rw [q, h0] at this
      cases this
    have r1' : RepOL X.K Z1 F (upd H1 l (.ins C dx ((nsPut ns f).zip (xsPut ns f vs w)))) vs os A := r1.mono g1.zz (Ex.refl _) fun b m u hu => by
      have ne : b ≠ l := fun q => na (by rw [← q]; exact m)
      rw [upd_ne ne]
      exact g1.hh b u hu
    have r2' : RepO X.K Z1 F (upd H1 l (.ins C dx ((nsPut ns f).zip (xsPut ns f vs w)))) w o B := r2.frame fun b m => upd_ne (nb b m)
    obtain ⟨A', q1, q2, q3⟩ := RepOL.put r2' n2.1 hlv r1' nA' fun b m mb => by
      obtain ⟨u, hu⟩ := there b (List.mem_cons_of_mem _ m)
      rw [(n2.2 b mb).1] at hu
      cases hu
    refine g.nx _ Z1 σ _ kk ?_
    refine k1 g1.zz g1.nw (g1.zh.mut zl) (fun b nb u hu => ?_) (.at upd_same q1) (List.nodup_cons.mpr ⟨fun m => ?_, q2⟩) fun b m => ?_
    · have ne : b ≠ l := fun q => nb (by rw [q]; exact List.mem_cons_self)
      rw [upd_ne ne]
      exact g1.hh b u hu
    · rcases q3 _ m with z | z
      · exact na z
      · exact nb _ z rfl
    · rcases List.mem_cons.mp m with z | z
      · exact .inl (by rw [z]; exact List.mem_cons_self)
      · rcases q3 _ z with z | z
        · exact .inl (List.mem_cons_of_mem _ z)
        · exact .inr (n2.2 b z)
/-- the promise of an __init__: of a new instance it makes one with the attributes ns -/
def SpI {α : Type} (K : PySem.W.Frag) (C : Addr) (ns : List Str) (ar : α → List O) (pre : α → Prop) (res : α → List O) : Sp := fun vs H Q _ => ∃ (x : α) (Z F : Hp) (l dx : Addr) (vs' : List V), vs = .ref l :: vs' ∧ Ex Z F ∧ Ex F H ∧ F l = none ∧ H l = some (.ins C dx []) ∧ RepOL K Z F F vs' (ar x) [] ∧ pre x ∧
  ∀ Z' H' A, Gr Z F Z' H' → RepO K Z' (fun _ => none) H' (.ref l) (.at l C ns (res x)) A → New F Z' A → Q .non H'
structure Mk1 (P : Program) (w : World) (K : PySem.W.Frag) (mg : Str → Option Value) (base : Heap) (name : Str) (C : Addr) (k : Nat) (ps : List Str) (sp : Sp) : Prop where
  ex : ∃ (f : Addr) (fd : FuncData), mg name = some (.ref C) ∧ Mk K C f ∧ Binds K fd ps [] ∧ FnOk P w K mg base CX0 k f fd ps sp
theorem me_make {α : Type} {ar : α → List O} {pre : α → Prop} {res : α → List O} {k : Nat} {ps : List Str} (c : Mk1 X.prog X.w X.K X.mg X.base nm C k ps (SpI X.K C ns ar pre res)) (x : α) (ha : MA X ρ (e :: es) (ar x)) (hp : pre x) (hr : Room (k + 1) X.A) {os : List O} (hres : res x = os := by first | (dsimp only; done) | (dsimp only; rfl) | rfl) (hg : Gl X nm := by rfl)
    (hdb : (nm == ("__debug__" : Str)) = false := by decide) (he : starEach (e :: es) X.env = (false, eval e X.env) :: starEach es X.env := by rfl) (hpl : (backTo pos (starEach es X.env)).any (·.1) = false := by rfl) : ME X ρ (.Call (.Name nm p0) (e :: es) [] pos) (.ins C ns os) := by
  subst hres
  obtain ⟨f, fd, hm, M, hb, F⟩ := c.ex
  exact .mk fun Z0 F0 Z σ H s Q q => PE_w (pe_make M F hr hg hm hb .nil pass0 pa_w hdb he hpl) (ha.run Z0 F0 Z σ H s _ fun vs Z1 H1 g1 r1 l dx nl ndx ne =>
    ⟨x, Z1, H1, l, dx, vs, by rw [List.append_nil], g1.zh, (Ex.new ndx).trans (Ex.new (by rw [upd_ne ne.symm]; exact nl)), nl, upd_same, r1, hp, fun Z2 H2 A g2 r2 n2 =>
      ⟨rfl, q (.ref l) Z2 H2 A (g1.trans g2) (r2.unAt.mono (Ex.refl _) (fun _ _ z => by cases z) fun _ _ _ z => z) ⟨n2.1, fun a m => ⟨g1.hh.free (n2.2 a m).1, (n2.2 a m).2⟩⟩⟩⟩)
structure Mt1 (P : Program) (w : World) (K : PySem.W.Frag) (mg : Str → Option Value) (base : Heap) (C : Addr) (m : Str) (k : Nat) (ps : List Str) (sp : Sp) : Prop where
  ex : ∃ (f : Addr) (fd : FuncData), Meth K C m f ∧ Binds K fd ps [] ∧ FnOk P w K mg base CX0 k f fd ps sp
theorem me_mt {α : Type} {ar : α → List O} {pre : α → Prop} {res : α → O} {k : Nat} {ps : List Str} {ro : List O} {pl : Sem Bool} (c : Mt1 X.prog X.w X.K X.mg X.base C nm k ps (SpM X.K ar pre res)) (cc : OC X.K C ns) (x : α) (ho : MV X ρ a (.fz (.ins C ns ds))) (ha : MA X ρ (e :: es) ro) (hx : ar x = .fz (.ins C ns ds) :: ro) (hp : pre x) (hr : Room k X.A) {o : O} (hres : res x = o := by first | (dsimp only; done) | (dsimp only; rfl) | rfl)
    (hnm : nmAt ns nm = none := by decide +kernel) (he : starEach (e :: es) X.env = (false, eval e X.env) :: starEach es X.env := by rfl) (hpl : (backTo pos (starEach es X.env)).any (·.1) = false := by rfl)
    (ht : eval (.Call (.Attribute a nm p1) (e :: es) [] pos) X.env = (do
      let ov ← eval a X.env
      standAt p1.atName
      let (f, first) ← holding [ov] (getMethod ov nm pl)
      callWith pos f first (backTo pos (starEach (e :: es) X.env)) (backToKw pos (keywordEach [] X.env))) := by rfl) : ME X ρ (.Call (.Attribute a nm p1) (e :: es) [] pos) o := by
  subst hres
  obtain ⟨f, fd, hm, hb, F⟩ := c.ex
  exact .mk fun Z0 F0 Z σ H s Q q => PE_w (pe_meth (pl := pl) pe_w cc.cl hm F hr hb .nil pass0 pa_w he hpl ht) (ho.run Z0 F0 Z σ H s _ fun v Z1 H1 A1 g1 r1 => by
    cases r1 with
    | fz r1 =>
      have r1' := r1
      cases r1' with
      | @ins l C dx ns vs0 ds hz rl =>
        refine ⟨l, dx, _, rfl, g1.zh _ _ hz, look_none hnm, ha.run Z0 F0 Z1 σ H1 (s.grow g1) _ fun vs Z2 H2 g2 r2 => ?_⟩
        refine ⟨x, Z2, g2.zh, by rw [List.append_nil, hx]; exact .cons (A := []) (.fz (r1.mono g2.zz)) r2, hp, fun v Z3 H3 A g3 r3 n3 => ?_⟩
        exact q v Z3 H3 A ((g1.trans g2).trans g3) (r3.mono (Ex.refl _) (fun _ _ z => by cases z) fun _ _ _ z => z) ⟨n3.1, fun a m => ⟨(g1.trans g2).hh.free (n3.2 a m).1, (n3.2 a m).2⟩⟩)
end
end M
namespace M
open PySem L2 PySem.Spec PyProof.Rows
section
variable {X : Cx} {ρ : Slots} {e a b c elt : Expr} {es rest : List Expr} {st : Stmt} {sts : List Stmt} {G : Go} {o o1 o2 : O} {d : D} {ds : List D} {os : List O} {pos p0 p1 p2 p3 p4 p5 p6 : Pos} {i : Nat} {x nm f : Str} {m n k : Int} {p q : Str} {C : Addr} {ns : List Int}
/-- s.partition(t): a tuple of three texts -/
theorem me_partition (ha : ME X ρ a (.fz (.str p))) (hb : ME X ρ b (.fz (.str q))) (hq : (q.length == 0) = false) (hp : p.length ≤ sizeLine) (hs : starEach [b] X.env = [(false, eval b X.env)] := by rfl) (hbase : attributeBase a "partition" X.env (eval a X.env) = eval a X.env := by rfl) (hline : (p1.endLine == pos.line) = true := by rfl) :
    ME X ρ (.Call (.Attribute a "partition" p1) [b] [] pos) (.fz (.tup [.str (Txt.partition p q).1, .str (Txt.partition p q).2.1, .str (Txt.partition p q).2.2])) := .mk fun Z0 F Z σ H s Q qq =>
  PE_w (pe_partition pe_w pe_w hs hbase hline) (ha.run Z0 F Z σ H s _ fun v Z1 H1 A1 g1 r1 n1 => by
    cases r1 with
    | fz r1 =>
      cases r1
      refine ⟨⟨_, rfl⟩, hb.run Z0 F Z1 σ H1 (s.grow g1) _ fun v Z2 H2 A2 g2 r2 n2 => ?_⟩
      cases r2 with
      | fz r2 =>
        cases r2
        refine ⟨p, q, rfl, rfl, hq, hp, fun l hl => ?_⟩
        exact qq _ _ _ [] ((g1.trans g2).trans (Gr.newz g2.zh hl)) (.fz (.tup upd_same (.cons (.str _) (.cons (.str _) (.cons (.str _) .nil))))) .nil)
end
end M
namespace M
open PySem L2 PySem.Spec PyProof.Rows
section
variable {X : Cx} {tg : Expr}
end
section
variable {X : Cx} {ρ : Slots} {es : List Expr} {k j : Int}
end
end M
namespace M
open PySem L2 PySem.Spec PyProof.Rows
section
variable {X : Cx} {ρ : Slots} {a b : Expr} {pos : Pos} {k l : Bool}
end
end M
namespace M
open PySem L2 PySem.Spec PyProof.Rows
section
variable {β : Type} {K : PySem.W.Frag} {Z : Hp} {enc : β → D}
end
section
variable {X : Cx} {ρ : Slots} {a : Expr} {pos p0 p1 p2 p3 p4 : Pos} {β : Type} {enc : β → D} {bs : List β}
end
section
variable {X : Cx} {ρ : Slots} {a b e : Expr} {G : Go} {pos p0 p1 p2 p3 p4 : Pos} {k l : Bool} {i : Nat} {x : Str} {d : D} {ds : List D}
theorem me_eqB (ha : ME X ρ a (.fz (.bl k))) (hb : ME X ρ b (.fz (.bl l))) : ME X ρ (.Compare a [.Eq] [b] pos) (.fz (.bl (k == l))) := me_cmp op_eq ha hb (.bl k) (.bl l) (fun _ _ q => ⟨rfl, by rw [dec_bl]; exact q⟩) (nomark _)
end
end M
namespace M
open PySem L2 PySem.Spec PyProof.Rows
section
variable {X : Cx} {ρ : Slots} {a : Expr} {pos p0 p1 : Pos} {C E : Addr} {ns : List Str} {ds : List D} {os : List O} {nm : Str} {k : Bool} {o : O}
end
section
variable {K : PySem.W.Frag} {Z0 Z Z' F F' H H' : Hp} {ρ : Slots} {σ : L2.St}
theorem StL.push {v : V} {o : O} {B : List Addr} (r : RepO K Z F H v o B) : ∀ {ρ : Slots} {σ : L2.St} {A : List Addr}, StL K Z F H ρ σ A → StL K Z F H (ρ ++ [some o]) (σ ++ [some v]) (A ++ B)
  | _, _, _, .nil => by
    have := StL.so r (.nil (K := K) (Z := Z) (F := F) (H := H))
    rw [List.append_nil] at this
    exact this
  | _, _, _, .no h => .no (h.push r)
  | _, _, _, .so q h => by
    rw [List.append_assoc]
    exact .so q (h.push r)
theorem StR.push {v : V} {o : O} {B : List Addr} (s : StR K ρ Z0 F Z σ H) (g : Gr Z H Z' H') (r : RepO K Z' F H' v o B) (n : New H Z' B) : StR K (ρ ++ [some o]) Z0 F Z' (σ ++ [some v]) H' := by
  have s' := s.grow g
  obtain ⟨A, h1, h2, h3⟩ := s.st
  have m1 : StL K Z' F H' ρ σ A := h1.mono g.zz fun a _ u e => g.hh a u e
  refine ⟨s'.gr, A ++ B, m1.push r, List.nodup_append.mpr ⟨h2, n.1, fun a ha b hb e => ?_⟩, fun a m => ?_⟩
  · subst e
    obtain ⟨u, e⟩ := h1.there a ha
    rw [(n.2 a hb).1] at e
    cases e
  · rcases List.mem_append.mp m with z | z
    · obtain ⟨u, e⟩ := h1.there a z
      exact ⟨(g.nw a u e).trans (h3 a z).1, (h3 a z).2⟩
    · exact ⟨(n.2 a z).2, s.gr.hh.free (n.2 a z).1⟩
theorem StL.last' : ∀ {τ : Slots} {υ : L2.St} {A : List Addr}, StL K Z F H τ υ A → A.Nodup → ∀ {ρ : Slots} {o : O} {σ : L2.St} {v : V}, τ = ρ ++ [some o] → υ = σ ++ [some v] → ∃ B C, StL K Z F H ρ σ B ∧ RepO K Z F H v o C ∧ (B ++ C).Nodup ∧ (∀ a ∈ B ++ C, a ∈ A)
  | _, _, _, .nil, _, ρ, o, σ, v, e1, e2 => by simp at e1
  | _, _, _, .no h, n, ρ, o, σ, v, e1, e2 => by
    cases ρ with
    | nil => simp at e1
    | cons x ρ =>
      cases σ with
      | nil =>
        have l := h.length
        simp at e1 e2
        rw [e1.2, e2.2] at l
        simp at l
      | cons y σ =>
        simp at e1 e2
        obtain ⟨e1a, e1b⟩ := e1
        obtain ⟨e2a, e2b⟩ := e2
        obtain ⟨B, C, q1, q2, q3, q4⟩ := h.last' n e1b e2b
        subst e1a
        exact ⟨B, C, .no q1, q2, q3, q4⟩
  | _, _, _, .so (A := A1) (B := A2) r h, n, ρ, o, σ, v, e1, e2 => by
    obtain ⟨n1, n2, n3⟩ := List.nodup_append.mp n
    cases ρ with
    | nil =>
      cases σ with
      | nil =>
        simp at e1 e2
        obtain ⟨e1a, e1b⟩ := e1
        obtain ⟨e2a, e2b⟩ := e2
        subst e1a e1b e2a e2b
        cases h
        exact ⟨[], A1, .nil, r, by simpa using n, fun a m => by simpa using m⟩
      | cons y σ =>
        have l := h.length
        simp at e1 e2
        rw [e1.2, e2.2] at l
        simp at l
    | cons x ρ =>
      cases σ with
      | nil =>
        have l := h.length
        simp at e1 e2
        rw [e1.2, e2.2] at l
        simp at l
      | cons y σ =>
        simp at e1 e2
        obtain ⟨e1a, e1b⟩ := e1
        obtain ⟨e2a, e2b⟩ := e2
        obtain ⟨B, C, q1, q2, q3, q4⟩ := h.last' n2 e1b e2b
        subst e1a e2a
        refine ⟨A1 ++ B, C, .so r q1, q2, ?_, fun a m => ?_⟩
        · rw [List.append_assoc]
          exact List.nodup_append.mpr ⟨n1, q3, fun a ha b hb => n3 a ha b (q4 b hb)⟩
        · rw [List.append_assoc] at m
          rcases List.mem_append.mp m with m | m
          · exact List.mem_append_left _ m
          · exact List.mem_append_right _ (q4 a m)
theorem StL.last {ρ : Slots} {o : O} {σ : L2.St} {v : V} {A : List Addr} (h : StL K Z F H (ρ ++ [some o]) (σ ++ [some v]) A) (n : A.Nodup) : ∃ B C, StL K Z F H ρ σ B ∧ RepO K Z F H v o C ∧ (B ++ C).Nodup ∧ (∀ a ∈ B ++ C, a ∈ A) := h.last' n rfl rfl
theorem StR.pop {v : V} {o : O} (s : StR K (ρ ++ [some o]) Z0 F Z (σ ++ [some v]) H) : StR K ρ Z0 F Z σ H := by
  obtain ⟨A, h1, h2, h3⟩ := s.st
  obtain ⟨B, C, q1, q2, q3, q4⟩ := h1.last h2
  exact ⟨s.gr, B, q1, (List.nodup_append.mp q3).1, fun a m => h3 a (q4 a (List.mem_append_left _ m))⟩
/-- what is behind comes to a slot -/
theorem StR.take {v : V} {o : O} {i : Nat} (s : StR K (ρ ++ [some o]) Z0 F Z (σ ++ [some v]) H) (hi : i < ρ.length) : StR K (ρ.set i (some o)) Z0 F Z (σ.set i (some v)) H := by
  obtain ⟨A, h1, h2, h3⟩ := s.st
  obtain ⟨B, C, q1, q2, q3, q4⟩ := h1.last h2
  obtain ⟨n1, n2, n3⟩ := List.nodup_append.mp q3
  obtain ⟨A', r1, r2, r3⟩ := StL.put q2 q1 hi n1 n2 fun a ha hb => n3 a hb a ha rfl
  refine ⟨s.gr, A', r1, r2, fun a m => h3 a (q4 a ?_)⟩
  rcases r3 a m with z | z
  · exact List.mem_append_left _ z
  · exact List.mem_append_right _ z
end
structure MX (X : Cx) (ρ : Slots) (e : Expr) (o : O) (ρ' : Slots) : Prop where
  run : ∀ (Z0 F Z : Hp) (σ : L2.St) (H : Hp), StR X.K ρ Z0 F Z σ H → ∀ Q : VK, (∀ v Z' H', StR X.K (ρ' ++ [some o]) Z0 F Z' (σ ++ [some v]) H' → Q v H') → wE X e σ H Q
section
variable {X : Cx} {ρ ρ' : Slots} {e : Expr} {st : Stmt} {G : Go} {o : O} {i : Nat}
theorem ME.x (h : ME X ρ e o) : MX X ρ e o ρ := .mk fun Z0 F Z σ H s Q q => h.run Z0 F Z σ H s Q fun v Z' H' A g r n => q v Z' H' (s.push g r n)
end
end M
namespace M
open PySem L2 PySem.Spec PyProof.Rows
def SpX {α : Type} (K : PySem.W.Frag) (ar : α → List O) (pre : α → Prop) (s0 s1 : Addr → α → O) (res : α → O) : Sp := fun vs H Q _ => ∃ (x : α) (Z F : Hp) (l : Addr) (vs' : List V) (A : List Addr), vs = .ref l :: vs' ∧ Ex Z F ∧ Ex F H ∧ A.Nodup ∧ (∀ a ∈ A, F a = none) ∧ RepO K Z F H (.ref l) (s0 l x) A ∧ RepOL K Z F F vs' (ar x) [] ∧ pre x ∧
  ∀ v Z' H' B, Gr Z F Z' H' → RepOL K Z' (fun _ => none) H' [.ref l, v] [s1 l x, res x] B → B.Nodup → (∀ a ∈ B, F a = none ∧ Z' a = none) → Q v H'
/-- such a def's body keeps its promise -/
theorem fn_mX {α : Type} {P : Program} {w : World} {K : PySem.W.Frag} {mg : Str → Option Value} {base : Heap} {x qual : Str} {st : Stmt} {f : Addr} {fd : FuncData} {N ps : List Str} {k : Nat} {ar : α → List O} {pre : α → Prop} {s0 s1 : Addr → α → O} {res : α → O}
    (F : Fun K x qual st f fd) (S : FnScope N ps (defScope st)) (hl : ∀ x, (ar x).length + 1 = ps.length) (hn1 : ∀ l x, pre x → (s1 l x).nv = true) (hn2 : ∀ x, pre x → (res x).nv = true) (hat : ∀ l x, ∃ C ns os, s1 l x = .at l C ns os)
    (hb : ∀ (cdv : Value) (A : Around) (outer : List Env) (s : Shared) (H : Hp) (E : XK), Room k (A.deeper (envOfC qual (defScope st) s.heap.objs.size f cdv)) → ∀ (l : Addr) x, pre x →
      MS (cxOf CX0 P w K mg base N qual (defScope st) f cdv A outer s H E).nox (some (s0 l x) :: (ar x).map some ++ List.replicate (N.length - ps.length) none) (defBody st) { nx := fun ρ => res x = .fz .non ∧ ρ[0]? = some (some (s1 l x)), rs := fun o ρ => o = res x ∧ ρ[0]? = some (some (s1 l x)) }) :
    FnOk P w K mg base CX0 (k + 1) f fd ps (SpX K ar pre s0 s1 res) := by
  refine F.ok S (fun vs H Q E h => ?_) (fun cdv A outer s H vs Q E hr h => ?_)
  · obtain ⟨x, Z, F, l, vs', A, rfl, _, _, _, _, _, r, _⟩ := h
    rw [List.length_cons, r.length, hl]
  · obtain ⟨x, Z, F0, l, vs', A0, rfl, ez, ef, nA, fA, rs, r, hp, q⟩ := h
    obtain ⟨C, ns, os, hs1⟩ := hat l x
    have st0 : StL K Z F0 H (some (s0 l x) :: (ar x).map some) (some (.ref l) :: vs'.map some) (A0 ++ []) := .so rs (stL_args (r.mono (Ex.refl _) (Ex.refl _) fun _ m => nomatch m))
    refine ⟨_, pss_w, (hb cdv A outer s H E hr l x hp).run Z F0 Z _ H _ ⟨⟨Ex.refl _, ef, ez.trans ef, fun _ _ _ => rfl⟩, A0 ++ [], ?_, by rw [List.append_nil]; exact nA, fun a m => ?_⟩ ⟨fun ρ Z' σ H' e s' => ?_, fun _ _ _ _ z => z.elim, fun _ _ _ _ z => z.elim, fun _ _ _ _ _ z => z.elim, fun o ρ v Z' σ H' e s' => ?_, GX.never fun _ z => z⟩⟩
    · have e : L2.start N (.ref l :: vs') = (some (.ref l) :: vs'.map some) ++ List.replicate (N.length - ps.length) none := by
        unfold L2.start
        rw [List.length_cons, r.length, hl]
        rfl
      rw [e]
      exact stL_more _ st0
    · rw [List.append_nil] at m
      exact ⟨ez.free (fA a m), fA a m⟩
    · obtain ⟨en, e⟩ := e
      obtain ⟨A1, t1, t2, t3⟩ := s'.st
      obtain ⟨v, B, u1, u2, u3, u4, _⟩ := t1.at e t2
      have hn := hn1 l x hp
      rw [hs1] at u2 hn
      cases u2 with
      | @«at» _ _ dx _ vs1 _ B1 h0 rl =>
        refine q .non Z' H' ((l :: B1) ++ ([] ++ [])) s'.gr (.cons ?_ (.cons (A := []) ?_ .nil)) (by simpa using u3) fun a m => ?_
        · rw [hs1]
          exact (RepO.at h0 rl).unF hn
        · rw [en]
          exact .fz .non
        · have m : a ∈ l :: B1 := by simpa using m
          exact ⟨(t3 a (u4 a m)).2, (t3 a (u4 a m)).1⟩
    · obtain ⟨en, e⟩ := e
      subst en
      obtain ⟨A1, t1, t2, t3⟩ := s'.st
      obtain ⟨B, Cc, w1, w2, w3, w4⟩ := t1.last t2
      obtain ⟨n1, n2, n3⟩ := List.nodup_append.mp w3
      obtain ⟨v0, B0, u1, u2, u3, u4, _⟩ := w1.at e n1
      have hn := hn1 l x hp
      rw [hs1] at u2 hn
      cases u2 with
      | @«at» _ _ dx _ vs1 _ B1 h0 rl =>
        refine q v Z' H' ((l :: B1) ++ (Cc ++ [])) s'.gr (.cons ?_ (.cons (w2.unF (hn2 x hp)) .nil)) ?_ fun a m => ?_
        · rw [hs1]
          exact (RepO.at h0 rl).unF hn
        · rw [List.append_nil]
          exact List.nodup_append.mpr ⟨u3, n2, fun a ha b hb => n3 a (u4 a ha) b hb⟩
        · rw [List.append_nil] at m
          have m2 : a ∈ B ++ Cc := by
            rcases List.mem_append.mp m with z | z
            · exact List.mem_append_left _ (u4 a z)
            · exact List.mem_append_right _ z
          exact ⟨(t3 a (w4 a m2)).2, (t3 a (w4 a m2)).1⟩
/-- an __init__ that is such a def makes a new instance -/
theorem SpX.init {α : Type} {P : Program} {w : World} {K : PySem.W.Frag} {mg : Str → Option Value} {base : Heap} {CX : CXT} {k : Nat} {f : Addr} {fd : FuncData} {ps : List Str} {ar : α → List O} {pre : α → Prop} {s0 s1 : Addr → α → O} {β : Type} {arb : β → List O} {preb : β → Prop} {resb : β → List O} {C : Addr} {ns : List Str} (g : β → α)
    (h : FnOk P w K mg base CX k f fd ps (SpX K ar pre s0 s1 fun _ => .fz .non)) (har : ∀ y, ar (g y) = arb y) (hp : ∀ y, preb y → pre (g y)) (h0 : ∀ l y, s0 l (g y) = .at l C [] []) (h1 : ∀ l y, s1 l (g y) = .at l C ns (resb y)) :
    FnOk P w K mg base CX k f fd ps (SpI K C ns arb preb resb) := h.imp fun vs H Q E hh => by
  obtain ⟨y, Z, F, l, dx, vs', rfl, ez, ef, nl, hi, r, hpr, q⟩ := hh
  have fl : ∀ a ∈ [l], F a = none := fun a m => by
    have e : a = l := by simpa using m
    rw [e]
    exact nl
  refine ⟨g y, Z, F, l, vs', [l], rfl, ez, ef, by simp, fl, ?_, by rw [har]; exact r, hp y hpr, fun v Z' H' B gg rr nB dB => ?_⟩
  · rw [h0]
    exact .at (dx := dx) hi .nil
  · cases rr with
    | @cons _ _ _ _ A1 B1 ra rb =>
      cases rb with
      | @cons _ _ _ _ A2 B2 rb rc =>
        cases rc
        cases rb with
        | fz rb =>
          cases rb
          rw [h1] at ra
          rw [List.append_nil, List.append_nil] at nB dB
          exact q Z' H' _ gg ra ⟨nB, dB⟩
section
variable {X : Cx} {ρ : Slots} {e a b : Expr} {es : List Expr} {pos p0 p1 p2 : Pos} {i : Nat} {xx nm : Str} {C : Addr} {ns ns' all : List Str} {os os' : List O} {ds : List D} {o o' : O}
structure Cf1 (P : Program) (w : World) (K : PySem.W.Frag) (mg : Str → Option Value) (base : Heap) (nmC m : Str) (k : Nat) (ps : List Str) (sp : Sp) : Prop where
  ex : ∃ (C : Addr) (mc : Value) (f : Addr) (fd : FuncData), mg nmC = some (.ref C) ∧ ClX.CRead K C mc ∧ ClX.CVal K C mc m (.ref f) (.ref f) ∧ PySem.W.keepIn K (.ref f) = true ∧ Binds K fd ps [] ∧ FnOk P w K mg base CX0 k f fd ps sp
end
end M
namespace M
open PySem L2 PySem.Spec PyProof.Rows
def D.flat : D → Bool
  | .non => true
  | .bl _ => true
  | .int _ => true
  | .str _ => true
  | _ => false
def D.v : D → V
  | .bl b => .bl b
  | .int i => .int i
  | .str x => .str x
  | _ => .non
theorem Rep.flat {K : PySem.W.Frag} {Z : Hp} {v : V} {d : D} (r : Rep K Z v d) (h : d.flat = true) : v = d.v := by
  cases r with
  | non => rfl
  | bl b => rfl
  | int i => rfl
  | str x => rfl
  | _ => cases h
theorem RepL.flat {K : PySem.W.Frag} {Z : Hp} : ∀ {vs : List V} {ds : List D}, RepL K Z vs ds → ds.all D.flat = true → vs = ds.map D.v
  | _, _, .nil, _ => rfl
  | _, _, .cons a r, h => by
    rw [List.all_cons, Bool.and_eq_true] at h
    rw [List.map_cons, a.flat h.1, r.flat h.2]
theorem D.flat_v : ∀ {d : D}, d.flat = true → flatV d.v = true
  | .non, _ => rfl
  | .bl _, _ => rfl
  | .int _, _ => rfl
  | .str _, _ => rfl
theorem D.flat_vs : ∀ {ds : List D}, ds.all D.flat = true → (ds.map D.v).all flatV = true
  | [], _ => rfl
  | d :: r, h => by
    rw [List.all_cons, Bool.and_eq_true] at h
    rw [List.map_cons, List.all_cons, D.flat_v h.1, D.flat_vs h.2]
    rfl
/-- d stands among ds -/
def D.among (d : D) (ds : List D) : Bool := inV d.v (ds.map D.v)
section
variable {X : Cx} {ρ : Slots} {a b : Expr} {pos : Pos} {d : D} {ds : List D}
theorem inL_core {neg : Bool} {op : CmpOp} (ho : OpR X (compareOp op) (rIn X.K neg)) (ha : ME X ρ a (.fz d)) (hb : ML X ρ b ds) (hf : d.flat = true) (hfs : ds.all D.flat = true) {Z0 F Z : Hp} {σ : L2.St} {H : Hp} (s : StR X.K ρ Z0 F Z σ H) {Q : VK} (q : ∀ Z' H', Gr Z H Z' H' → Q (.bl (if neg then !(d.among ds) else d.among ds)) H') : tOp (rIn X.K neg) (wE X a) (wE X b) σ H Q :=
  ha.run Z0 F Z σ H s _ fun v Z1 H1 A1 g1 r1 n1 => by
    cases r1 with
    | fz r1 =>
      have e1 := r1.flat hf
      subst e1
      refine hb.run Z0 F Z1 σ H1 (s.grow g1) _ fun l vs Z2 H2 g2 l2 r2 => ?_
      have e2 := r2.flat hfs
      subst e2
      exact ⟨l, _, rfl, .inl l2, D.flat_v hf, D.flat_vs hfs, q Z2 H2 (g1.trans g2)⟩
end
end M
namespace M
open PySem L2 PySem.Spec PyProof.Rows
section
variable {X : Cx} {ρ : Slots} {a b c d : Expr} {ta tb tc td : TE} {pos : Pos} {m n k l : Int}
end
theorem kit_true {K : PySem.W.Frag} {C E : Addr} (h1 : PySem.W.isClsIn K E = true) (h2 : PySem.W.typeIn K (.ref E) = some (.type "type")) (h3 : PySem.W.mroIn K C (.ref E) = some true) : PySem.W.kitOne K (.ref C) (.ref E) = some true := by
  unfold PySem.W.kitOne
  split
  · rfl
  · show PySem.W.kitCls K (.ref C) (.ref E) = some true
    have e : PySem.W.kitCls K (.ref C) (.ref E) = if ((PySem.W.clsIn K E).isSome && PySem.W.typeIn K (.ref E) == some (.type "type")) = true then PySem.W.mroIn K C (.ref E) else none := rfl
    rw [e, if_pos, h3]
    rw [h2]
    show ((PySem.W.clsIn K E).isSome && _) = true
    rw [show (PySem.W.clsIn K E).isSome = true from h1]
    decide
end M
namespace M
open PySem L2 PySem.Spec PyProof.Rows
section
variable {X : Cx} {ρ : Slots} {a b c e : Expr} {es : List Expr} {pos p0 p1 : Pos} {p q : Str} {k : Bool} {ys : List Str}
theorem RepL.strs {K : PySem.W.Frag} {Z : Hp} : ∀ {ys : List Str} {vs : List V}, RepL K Z vs (ys.map .str) → vs = ys.map V.str
  | [], _, .nil => rfl
  | _ :: _, _, .cons (.str _) r => by rw [RepL.strs r]; rfl
/-- s.join(xs), xs a list of texts -/
theorem me_joinL (ha : ME X ρ a (.fz (.str p))) (hb : ML X ρ b (ys.map .str)) (hz : (ys.map (·.length)).sum + ys.length * p.length ≤ 16777216) (hs : starEach [b] X.env = [(false, eval b X.env)] := by rfl) (hbase : attributeBase a "join" X.env (eval a X.env) = eval a X.env := by rfl) (hline : (p1.endLine == pos.line) = true := by rfl) :
    ME X ρ (.Call (.Attribute a "join" p1) [b] [] pos) (.fz (.str (Txt.join p ys))) := .mk fun Z0 F Z σ H s Q qq =>
  PE_w (pe_join pe_w pe_w hs hbase hline) (ha.run Z0 F Z σ H s _ fun v Z1 H1 A1 g1 r1 n1 => by
    cases r1 with
    | fz r1 =>
      cases r1
      refine ⟨⟨_, rfl⟩, hb.run Z0 F Z1 σ H1 (s.grow g1) _ fun l vs Z2 H2 g2 l2 r2 => ?_⟩
      have e := r2.strs
      subst e
      exact ⟨p, l, ys, rfl, rfl, .inl l2, hz, qq _ Z2 H2 [] (g1.trans g2) (.fz (.str _)) .nil⟩)
/-- int(k) of a truth -/
theorem me_intB (hg : Gl X "int") (hm : X.mg "int" = none) (ha : ME X ρ a (.fz (.bl k))) (n1 : NS X a := by exact fun _ => rfl) : ME X ρ (.Call (.Name "int" p0) [a] [] pos) (.fz (.int (if k then 1 else 0))) := .mk fun Z0 F Z σ H s Q q =>
  PE_w (pe_callTy call_int1 hg hm (by decide +kernel) (pa_cons pe_w pa_nil (n1 _)) (he := n1 _)) (ha.run Z0 F Z σ H s _ fun v Z1 H1 A1 g1 r1 n1 => by
    cases r1 with
    | fz r1 =>
      cases r1
      exact .inr ⟨k, rfl, q _ Z1 H1 [] g1 (.fz (.int _)) .nil⟩)
end
end M
namespace M
open PySem L2 PySem.Spec PyProof.Rows
noncomputable def gd {α : Type} (p : Prop) (k : Option α) : Option α := @ite _ p (Classical.propDecidable p) k none
def bd {α β : Type} (o : Option α) (k : α → Option β) : Option β := o.bind k
def lt {α β : Type} (a : α) (k : α → Option β) : Option β := k a
section
variable {α β γ : Type}
theorem gd_some {p : Prop} {k : Option α} {r : α} (h : gd p k = some r) : p ∧ k = some r := by
  unfold gd at h
  by_cases hp : p
  · rw [if_pos hp] at h
    exact ⟨hp, h⟩
  · rw [if_neg hp] at h
    cases h
theorem gd_pos {p : Prop} {k : Option α} (h : p) : gd p k = k := if_pos h
theorem bd_some {o : Option α} {k : α → Option β} {r : β} (h : bd o k = some r) : ∃ a, o = some a ∧ k a = some r := Option.bind_eq_some_iff.mp h
theorem bd_of {o : Option α} {k : α → Option β} {a : α} (h : o = some a) : bd o k = k a := by rw [h]; rfl
theorem lt_some {a : α} {k : α → Option β} {r : β} (h : lt a k = some r) : ∃ x, x = a ∧ k x = some r := ⟨a, rfl, h⟩
theorem cond_t {c : Bool} {a b : α} {r : α} (h : cond c a b = r) (hc : c = true) : a = r := by rw [hc] at h; exact h
theorem cond_f {c : Bool} {a b : α} {r : α} (h : cond c a b = r) (hc : c = false) : b = r := by rw [hc] at h; exact h
theorem and_c {k c : Bool} {b : Option Bool} (h : cond k b (some false) = some c) : (k && c) = c := by
  cases k with
  | true => rfl
  | false => cases h; rfl
theorem or_c {k c : Bool} {b : Option Bool} (h : cond k (some true) b = some c) : (k || c) = c := by
  cases k with
  | true => cases h; rfl
  | false => rfl
end
/-- how a block ends: on, out of the loop, to its next turn, out of the def -/
inductive Ou (V W R : Type) where
  | nx (v : V) | bk (w : W) | ct (w : W) | rt (r : R)
def ouR {V W R : Type} : Ou V W R → (V → Option R) → Option R
  | .nx v, k => k v
  | .rt r, _ => some r
  | _, _ => none
def lp {α V : Type} (f : α → V → Option V) : List α → V → Option V
  | [], v => some v
  | x :: xs, v => bd (f x v) fun v' => lp f xs v'
def lpO {α V R : Type} (f : α → V → Option (Ou V V R)) : List α → V → Option (Ou V V R)
  | [], v => some (.nx v)
  | x :: xs, v => bd (f x v) fun o => match o with
    | .nx v' => lpO f xs v'
    | .ct v' => lpO f xs v'
    | .bk v' => some (.nx v')
    | .rt r => some (.rt r)
/-- an invariant by the turn's number -/
theorem lp_inv {α V : Type} {f : α → V → Option V} (I : Nat → V → Prop) {xs : List α} {v : V} (h0 : I 0 v) (h : ∀ (i : Nat) (x : α) (v : V), xs[i]? = some x → I i v → ∃ v', f x v = some v' ∧ I (i + 1) v') : ∃ v', lp f xs v = some v' ∧ I xs.length v' := by
  induction xs generalizing v I with
  | nil => exact ⟨v, rfl, h0⟩
  | cons x xs ih =>
    obtain ⟨v1, e, i1⟩ := h 0 x v rfl h0
    obtain ⟨v2, e2, i2⟩ := ih (fun i => I (i + 1)) i1 fun i y w hy hw => h (i + 1) y w (by simpa using hy) hw
    refine ⟨v2, ?_, i2⟩
    show bd (f x v) _ = _
    rw [e]
    exact e2
/-- a loop that runs to its end -/
theorem lpO_inv {α V R : Type} {f : α → V → Option (Ou V V R)} (I : Nat → V → Prop) {xs : List α} {v : V} (h0 : I 0 v) (h : ∀ (i : Nat) (x : α) (v : V), xs[i]? = some x → I i v → ∃ v', (f x v = some (.nx v') ∨ f x v = some (.ct v')) ∧ I (i + 1) v') : ∃ v', lpO f xs v = some (.nx v') ∧ I xs.length v' := by
  induction xs generalizing v I with
  | nil => exact ⟨v, rfl, h0⟩
  | cons x xs ih =>
    obtain ⟨v1, e, i1⟩ := h 0 x v rfl h0
    obtain ⟨v2, e2, i2⟩ := ih (fun i => I (i + 1)) i1 fun i y w hy hw => h (i + 1) y w (by simpa using hy) hw
    refine ⟨v2, ?_, i2⟩
    show bd (f x v) _ = _
    rcases e with e | e <;> rw [e] <;> exact e2
def goO {V W R : Type} (Rn : V → Slots) (Rw : W → Slots) (er : R → O) (o : Ou V W R) : Go :=
  { nx := fun τ => ∃ v, o = .nx v ∧ Le τ (Rn v), bk := fun τ => ∃ w, o = .bk w ∧ Le τ (Rw w), ct := fun τ => ∃ w, o = .ct w ∧ Le τ (Rw w), rt := fun q => ∃ r, o = .rt r ∧ q = er r }
section
variable {X : Cx} {ρ : Slots} {e a b c elt : Expr} {es : List Expr} {st : Stmt} {sts : List Stmt} {G : Go} {o o1 o2 : O} {d : D} {ds : List D} {pos p0 p1 p2 p3 p4 : Pos} {i : Nat} {x nm : Str} {α β V W R : Type}
/-- for, no way out but the end -/
theorem m_forP {xs : List α} {enc : α → D} {wi : TI} {g : TG} {body : List Stmt} (p : PS X st (tFor wi g (wS X body))) (h : MI X ρ wi (xs.map enc)) {f : α → V → Option V} {v0 v1 : V} (hx : lp f xs v0 = some v1) (Rn : V → Slots) (h0 : Le ρ (Rn v0))
    (hs : ∀ (x : α) (v v' : V), x ∈ xs → f x v = some v' → ∃ τ' ws, MTg g X.K (Rn v) (enc x) τ' ws ∧ MS X τ' body { nx := fun τ => Le τ (Rn v') })
    (hd : ∀ τ, Le τ (Rn v1) → G.nx τ) : MS1 X ρ st G := by
  refine m_forTS (xs := xs) (enc := enc) p h (fun v : V => Rn v) (fun j v => lp f (xs.drop j) v = some v1) ⟨v0, hx, h0⟩ (fun j y v hj hv => ?_) fun τ v hv l => hd τ ?_
  · obtain ⟨hi, ey⟩ := List.getElem?_eq_some_iff.mp hj
    rw [← List.getElem_cons_drop (h := hi), ey] at hv
    obtain ⟨v', e1, e2⟩ := bd_some hv
    obtain ⟨τ', ws, t1, t2⟩ := hs y v v' (List.mem_of_getElem? hj) e1
    exact ⟨τ', ws, t1, ms_imp t2 (fun τ l => ⟨v', e2, l⟩) (fun _ z => z.elim) (fun _ z => z.elim) (fun _ z => z.elim) fun _ _ z => z.elim⟩
  · rw [List.drop_length] at hv
    cases hv
    exact l
/-- for with ways out -/
theorem m_forO {xs : List α} {enc : α → D} {wi : TI} {g : TG} {body : List Stmt} (p : PS X st (tFor wi g (wS X body))) (h : MI X ρ wi (xs.map enc)) {f : α → V → Option (Ou V V R)} {v0 : V} {out : Ou V V R} (hx : lpO f xs v0 = some out) (Rn : V → Slots) (er : R → O) (h0 : Le ρ (Rn v0))
    (hs : ∀ (x : α) (v : V) (o : Ou V V R), x ∈ xs → f x v = some o → ∃ τ' ws, MTg g X.K (Rn v) (enc x) τ' ws ∧ MS X τ' body (goO Rn Rn er o))
    (hd : ∀ v τ, out = .nx v → Le τ (Rn v) → G.nx τ) (hr : ∀ r, out = .rt r → G.rt (er r)) : MS1 X ρ st G := by
  refine m_forTS (xs := xs) (enc := enc) p h (fun v : V => Rn v) (fun j v => lpO f (xs.drop j) v = some out) ⟨v0, hx, h0⟩ (fun j y v hj hv => ?_) fun τ v hv l => ?_
  · obtain ⟨hi, ey⟩ := List.getElem?_eq_some_iff.mp hj
    rw [← List.getElem_cons_drop (h := hi), ey] at hv
    obtain ⟨o, e1, e2⟩ := bd_some hv
    obtain ⟨τ', ws, t1, t2⟩ := hs y v o (List.mem_of_getElem? hj) e1
    refine ⟨τ', ws, t1, ms_imp t2 (fun τ l => ?_) (fun q l => ?_) (fun τ l => ?_) (fun τ l => ?_) fun _ _ z => z.elim⟩
    · obtain ⟨v', rfl, l⟩ := l
      exact ⟨v', e2, l⟩
    · obtain ⟨r, rfl, rfl⟩ := l
      cases e2
      exact hr r rfl
    · obtain ⟨v', rfl, l⟩ := l
      cases e2
      exact hd v' τ rfl l
    · obtain ⟨v', rfl, l⟩ := l
      exact ⟨v', e2, l⟩
  · rw [List.drop_length] at hv
    cases hv
    exact hd v τ rfl l
/-- if whose ways come together, none leaves -/
theorem m_ifP {c : Expr} {a b : List Stmt} {t : Bool} {p : Pos} {out : V} (Rn : V → Slots) (hc : MT X ρ c t) (h1 : t = true → MS X ρ a { nx := fun τ => Le τ (Rn out) }) (h2 : t = false → MS X ρ b { nx := fun τ => Le τ (Rn out) })
    (kn : ∀ τ, Le τ (Rn out) → G.nx τ) : MS1 X ρ (.If c a b p) G := by
  have im : ∀ {s : List Stmt}, MS X ρ s { nx := fun τ => Le τ (Rn out) } → MS X ρ s G := fun h => ms_imp h (fun τ l => kn τ l) (fun q z => z.elim) (fun τ z => z.elim) (fun τ z => z.elim) fun _ _ z => z.elim
  exact m_if hc (fun h => im (h1 h)) fun h => im (h2 h)
theorem atI_map {enc : α → D} {xs : List α} {k : Int} {y : α} (h : L2.atI xs k = some y) : L2.atI (xs.map enc) k = some (enc y) := by
  unfold L2.atI at h ⊢
  rw [List.length_map]
  cases e : ixN xs.length k with
  | none => rw [e] at h; cases h
  | some n =>
    rw [e] at h
    have h : xs[n]? = some y := h
    show (xs.map enc)[n]? = some (enc y)
    rw [List.getElem?_map, h]
    rfl
theorem me_ixLT {xs : List α} {enc : α → D} {k : Int} {y : α} (h : L2.atI xs k = some y) (ha : ML X ρ a (xs.map enc)) (hb : ME X ρ b (.fz (.int k))) (hp : PlainIx b := by exact fun _ _ => rfl) : ME X ρ (.Subscript a b pos) (.fz (enc y)) := me_ixL ha hb (atI_map h) hp
theorem cutG_map {enc : α → β} {xs : List α} {lo hi : Option Int} : cutG (xs.map enc) lo hi = (cutG xs lo hi).map enc := by
  unfold cutG
  rw [List.length_map, List.map_take, List.map_drop]
theorem me_slLT {xs : List α} {enc : α → D} {lo hi : Option Expr} {li hj : Option Int} (ha : ML X ρ a (xs.map enc)) (hl : MO X ρ lo li) (hh : MO X ρ hi hj) : ME X ρ (.Subscript a (.Slice lo hi none p2) pos) (.lst (((cutG xs li hj).map enc).map .fz)) := ME.is (me_slL ha hl hh) (by rw [cutG_map])
theorem me_catLT {xs ys : List α} {enc : α → D} (hl : xs.length + ys.length ≤ sizeLine) (ha : MV X ρ a (.lst ((xs.map enc).map .fz))) (hb : MV X ρ b (.lst ((ys.map enc).map .fz))) : ME X ρ (.BinOp a .Add b pos) (.lst (((xs ++ ys).map enc).map .fz)) := ME.is (me_catL ha hb (by rw [List.length_map, List.length_map]; exact hl)) (congrArg (fun z => O.lst (List.map O.fz z)) List.map_append.symm)
theorem m_appendT {xs : List α} {enc : α → D} {y : α} {p1 p2 p3 p4 : Pos} (hl : xs.length < sizeLine) (p : PE X (.Name x p1) (tVar i)) (hi : ρ[i]? = some (some (.lst ((xs.map enc).map .fz)))) (he : ME X ρ e (.fz (enc y))) (k : G.nx (ρ.set i (some (.lst (((xs ++ [y]).map enc).map .fz)))))
    (q : ∀ t, PE X (.Call (.Attribute (.Name x p1) "append" p2) [e] [] p3) t → PS X (.Expr (.Call (.Attribute (.Name x p1) "append" p2) [e] [] p3) p4) (tDrop t) := by exact fun _ h => ps_expr h)
    (pm : PE X (.Call (.Attribute (.Name x p1) "append" p2) [e] [] p3) (tBM X.K "list" rAppend (tVar i) (tCons (wE X e) tNil)) := by exact pe_bm PySem.F.plainAttrs_list PySem.F.slot_list_append PySem.F.type_list_append mt_append (pv _) (pa_cons pe_w pa_nil)) : MS1 X ρ (.Expr (.Call (.Attribute (.Name x p1) "append" p2) [e] [] p3) p4) G :=
  m_append p hi he (by rw [List.length_map, List.length_map]; exact hl) (by rw [List.map_append, List.map_append] at k; exact k) q pm
theorem m_setItemT {xs : List α} {enc : α → D} {y : α} {k : Int} {j : Nat} (hj : ixN xs.length k = some j) (pn : PE X (.Name x p1) (tVar i)) (hi : ρ[i]? = some (some (.lst ((xs.map enc).map .fz)))) (h1 : ME X ρ a (.fz (.int k))) (h2 : ME X ρ b (.fz (enc y))) (kk : G.nx (ρ.set i (some (.lst (((xs.set j y).map enc).map .fz)))))
    (pm : PS X (.Assign [.Subscript (.Name x p1) a p2] b p3) (tAsg (wE X b) (gSub (tVar i) (wE X a) rSetL)) := by exact ps_asg pe_w (pg_sub (pv _) pe_w set_list)) : MS1 X ρ (.Assign [.Subscript (.Name x p1) a p2] b p3) G :=
  m_setItem pn hi h1 h2 (by rw [List.length_map]; exact hj) (by rw [List.map_set] at kk; exact kk) pm
theorem mi_rangeT {j : Int} (h : MF X ρ es [.int j]) (h1 : -(2 ^ 62) ≤ j ∧ j < 2 ^ 62) : MI X ρ (iRng1 (wA X es)) ((List.range j.toNat).map fun k : Nat => D.int (k : Nat)) := by
  have q := mi_range1 h h1.1 h1.2
  unfold rng at q
  simp only [Int.zero_add] at q
  exact q
theorem mi_strT {y : Str} (h : ME X ρ e (.fz (.str y))) : MI X ρ (iStr (wE X e)) (y.cps.toList.map fun c => D.str ⟨#[c]⟩) := mi_str h
end
/-- the promise of a def by its mirror -/
def SpF {A R : Type} (K : PySem.W.Frag) (ar : A → List O) (f : A → Option R) (er : R → O) : Sp := SpM K (fun x : A × R => ar x.1) (fun x => f x.1 = some x.2) (fun x => er x.2)
end M
namespace M
open PySem L2 PySem.Spec PyProof.Rows
abbrev sg1 (c : Nat) : Str := ⟨#[c]⟩
abbrev strI (m : Int) : Str := toString m
def Ok {α : Type} (o : Option α) (P : α → Prop) : Prop := ∃ r, o = some r ∧ P r
section
variable {α β V W R : Type} {P : β → Prop}
theorem ok_gd {p : Prop} {k : Option β} (h : p) (hk : Ok k P) : Ok (gd p k) P := by rw [gd_pos h]; exact hk
theorem ok_bd {o : Option α} {k : α → Option β} {Q : α → Prop} (h : Ok o Q) (hk : ∀ a, Q a → Ok (k a) P) : Ok (bd o k) P := by
  obtain ⟨a, e, q⟩ := h
  rw [bd_of e]
  exact hk a q
theorem ok_lt {a : α} {k : α → Option β} (hk : Ok (k a) P) : Ok (lt a k) P := hk
theorem ok_ltx {a : α} {k : α → Option β} (hk : ∀ x, x = a → Ok (k x) P) : Ok (lt a k) P := hk a rfl
theorem ok_some {b : β} (h : P b) : Ok (some b) P := ⟨b, rfl, h⟩
theorem ok_cond {c : Bool} {a b : Option β} (h1 : c = true → Ok a P) (h2 : c = false → Ok b P) : Ok (cond c a b) P := by
  cases c with
  | true => exact h1 rfl
  | false => exact h2 rfl
theorem ok_t {c : Bool} {a b : Option β} (hc : c = true) (h : Ok a P) : Ok (cond c a b) P := by rw [hc]; exact h
theorem ok_f {c : Bool} {a b : Option β} (hc : c = false) (h : Ok b P) : Ok (cond c a b) P := by rw [hc]; exact h
theorem Ok.imp {Q : β → Prop} {o : Option β} (h : Ok o Q) (f : ∀ r, Q r → P r) : Ok o P := let ⟨r, e, q⟩ := h; ⟨r, e, f r q⟩
theorem Ok.eq {o : Option β} {b : β} (h : Ok o (· = b)) : o = some b := by obtain ⟨r, e, rfl⟩ := h; exact e
theorem Ok.of {o : Option β} {b : β} (h : o = some b) : Ok o (· = b) := ⟨b, h, rfl⟩
theorem ok_atI {xs : List α} {k : Int} {Q : α → Prop} (h0 : 0 ≤ k) (h1 : k < xs.length) (q : ∀ y, xs[k.toNat]? = some y → Q y) : Ok (L2.atI xs k) Q := by
  have hk : k.toNat < xs.length := by omega
  refine ⟨xs[k.toNat], ?_, q _ (List.getElem?_eq_getElem hk)⟩
  obtain ⟨n, rfl⟩ := Int.eq_ofNat_of_zero_le h0
  exact atI_nat (List.getElem?_eq_getElem (by simpa using hk))
theorem ok_atIm {xs : List α} {k : Int} {Q : α → Prop} (h0 : 0 ≤ k) (h1 : k < xs.length) (q : ∀ y ∈ xs, Q y) : Ok (L2.atI xs k) Q := ok_atI h0 h1 fun y e => q y (List.mem_of_getElem? e)
theorem ok_lp {f : α → V → Option V} {xs : List α} {v : V} {Q : V → Prop} (I : Nat → V → Prop) (h0 : I 0 v) (h : ∀ (i : Nat) (x : α) (v : V), xs[i]? = some x → I i v → Ok (f x v) (I (i + 1))) (hd : ∀ v, I xs.length v → Q v) : Ok (lp f xs v) Q := by
  obtain ⟨v', e, i⟩ := lp_inv I h0 h
  exact ⟨v', e, hd v' i⟩
theorem ok_lpN {f : α → V → Option (Ou V V R)} {xs : List α} {v : V} {Q : Ou V V R → Prop} (I : Nat → V → Prop) (h0 : I 0 v) (h : ∀ (i : Nat) (x : α) (v : V), xs[i]? = some x → I i v → Ok (f x v) fun o => ∃ v', (o = .nx v' ∨ o = .ct v') ∧ I (i + 1) v') (hd : ∀ v, I xs.length v → Q (.nx v)) : Ok (lpO f xs v) Q := by
  obtain ⟨v', e, i⟩ := lpO_inv (f := f) I h0 fun i x v hx hv => by
    obtain ⟨o, e, v', e2, q⟩ := h i x v hx hv
    exact ⟨v', e2.imp (fun z => by rw [e, z]) (fun z => by rw [e, z]), q⟩
  exact ⟨_, e, hd v' i⟩
end
section
variable {X : Cx} {ρ : Slots} {e a b c elt : Expr} {es : List Expr} {st : Stmt} {sts : List Stmt} {G : Go} {o o1 o2 : O} {d : D} {ds : List D} {pos p0 p1 p2 p3 p4 : Pos} {i : Nat} {x nm : Str} {α β : Type} {p q : Str} {k l : Bool} {m n : Int}
theorem MT.is (h : MT X ρ e k) (q : k = l) : MT X ρ e l := q ▸ h
theorem MW.is (h : MW X ρ e k) (q : k = l) : MW X ρ e l := q ▸ h
theorem ME.isB (h : ME X ρ e (.fz (.bl k))) (q : k = l) : ME X ρ e (.fz (.bl l)) := q ▸ h
theorem frz_own {enc : α → D} {xs : List α} : (O.lst ((xs.map enc).map .fz)).frz = .lst (xs.map enc) := congrArg D.lst (O.frzL_fz _)
theorem me_lenLT {xs : List α} {enc : α → D} (hg : Gl X "len") (hm : X.mg "len" = none) (ha : ML X ρ a (xs.map enc)) (n1 : NS X a := by exact fun _ => rfl) : ME X ρ (.Call (.Name "len" p0) [a] [] pos) (.fz (.int (xs.length : Int))) := ME.is (me_len hg hm ha n1) (by rw [List.length_map])
theorem repG_map {enc : α → β} {xs : List α} {k : Int} : repG (xs.map enc) k = (repG xs k).map enc := by
  unfold repG
  rw [List.map_flatten, List.map_replicate]
theorem me_repT {xs : List α} {enc : α → D} {kk : Int} (h : (-(2 ^ 63) ≤ kk ∧ kk < 2 ^ 63) ∧ xs.length * kk.toNat ≤ sizeLine) (ha : MV X ρ a (.lst ((xs.map enc).map .fz))) (hb : ME X ρ b (.fz (.int kk))) : ME X ρ (.BinOp a .Mult b pos) (.lst (((repG xs kk).map enc).map .fz)) :=
  ME.is (me_rep ha hb h.1 (by rw [List.length_map]; exact h.2)) (by rw [repG_map])
theorem me_eqDT {d1 d2 : D} (hu : X.A.units + 64 < cLine) (h : d1.ok ∧ d2.ok) (e1 : o1.frz = d1) (e2 : o2.frz = d2) (ha : MV X ρ a o1) (hb : MV X ρ b o2) : ME X ρ (.Compare a [.Eq] [b] pos) (.fz (.bl (D.eqv d1 d2))) := by
  subst e1 e2
  exact me_eqD hu ha hb h.1 h.2
theorem mt_eqDT {d1 d2 : D} (hu : X.A.units + 64 < cLine) (h : d1.ok ∧ d2.ok) (e1 : o1.frz = d1) (e2 : o2.frz = d2) (ha : MV X ρ a o1) (hb : MV X ρ b o2) : MT X ρ (.Compare a [.Eq] [b] pos) (D.eqv d1 d2) := by
  subst e1 e2
  exact mt_eqD hu ha hb h.1 h.2
theorem among_b {k : Bool} {xs : List Bool} : D.among (.bl k) (xs.map .bl) = xs.contains k := by
  unfold D.among inV
  rw [List.map_map, List.any_map]
  induction xs with
  | nil => rfl
  | cons y xs ih =>
    rw [List.any_cons, List.contains_cons, ih]
    congr 1
    exact BEq.comm
theorem flat_b {xs : List Bool} : (xs.map D.bl).all D.flat = true := by
  rw [List.all_map]
  exact List.all_eq_true.mpr fun _ _ => rfl
theorem me_inL (ha : ME X ρ a (.fz d)) (hb : ML X ρ b ds) (hf : d.flat = true := by rfl) (hfs : ds.all D.flat = true := by rfl) (hm : behindInMarks .In b = false := by rfl) : ME X ρ (.Compare a [.In] [b] pos) (.fz (.bl (d.among ds))) := .mk fun Z0 F Z σ H s Q q =>
  PE_w (pe_cmpR op_in_seq pe_w pe_w hm) (inL_core op_in_seq ha hb hf hfs s fun Z' H' g => q _ Z' H' [] g (.fz (.bl _)) .nil)
theorem me_niL (ha : ME X ρ a (.fz d)) (hb : ML X ρ b ds) (hf : d.flat = true := by rfl) (hfs : ds.all D.flat = true := by rfl) (hm : behindInMarks .NotIn b = false := by rfl) : ME X ρ (.Compare a [.NotIn] [b] pos) (.fz (.bl (!(d.among ds)))) := .mk fun Z0 F Z σ H s Q q =>
  PE_w (pe_cmpR op_notIn_seq pe_w pe_w hm) (inL_core op_notIn_seq ha hb hf hfs s fun Z' H' g => q _ Z' H' [] g (.fz (.bl _)) .nil)
section
variable {xi : List Int} {xs : List Str} {xb : List Bool}
theorem me_inLT_b (ha : ME X ρ a (.fz (.bl k))) (hb : ML X ρ b (xb.map .bl)) (hm : behindInMarks .In b = false := by rfl) : ME X ρ (.Compare a [.In] [b] pos) (.fz (.bl (xb.contains k))) := (me_inL ha hb rfl flat_b hm).isB among_b
theorem me_niLT_b (ha : ME X ρ a (.fz (.bl k))) (hb : ML X ρ b (xb.map .bl)) (hm : behindInMarks .NotIn b = false := by rfl) : ME X ρ (.Compare a [.NotIn] [b] pos) (.fz (.bl (!(xb.contains k)))) := (me_niL ha hb rfl flat_b hm).isB (by rw [among_b])
end
end
end M
namespace M
open PySem L2 PySem.Spec PyProof.Rows
section
variable {X : Cx} {ρ : Slots} {e a b c elt : Expr} {es : List Expr} {st : Stmt} {sts : List Stmt} {G : Go} {o o1 o2 : O} {d : D} {ds : List D} {pos p0 p1 p2 p3 p4 : Pos} {i : Nat} {x nm : Str} {α β γ : Type} {p q : Str} {k l : Bool} {m n : Int} {te : TE}
end
end M
namespace M
open PySem L2 PySem.Spec PyProof.Rows
theorem nsPut_new : ∀ {ns : List Str} {f : Str}, nmAt ns f = none → nsPut ns f = ns ++ [f]
  | [], _, _ => rfl
  | n :: r, f, h => by
    unfold nmAt at h
    unfold nsPut
    by_cases e : n = f
    · rw [if_pos e.symm] at h; cases h
    · rw [if_neg fun q => e q.symm] at h
      rw [if_neg e, nsPut_new (Option.map_eq_none_iff.mp h)]
      rfl
theorem xsPut_new {α : Type} : ∀ {ns : List Str} {f : Str} {xs : List α} {y : α}, nmAt ns f = none → xs.length = ns.length → xsPut ns f xs y = xs ++ [y]
  | [], _, [], _, _, _ => rfl
  | n :: r, f, x :: xs, y, h, l => by
    unfold nmAt at h
    unfold xsPut
    by_cases e : n = f
    · rw [if_pos e.symm] at h; cases h
    · rw [if_neg fun q => e q.symm] at h
      rw [if_neg e, xsPut_new (Option.map_eq_none_iff.mp h) (by simpa using l)]
      rfl
section
variable {X : Cx} {ρ : Slots} {e a b c elt : Expr} {es : List Expr} {st : Stmt} {sts : List Stmt} {G : Go} {o o1 o2 : O} {d : D} {ds : List D} {os : List O} {pos p0 p1 p2 p3 p4 : Pos} {i : Nat} {x nm f : Str} {C : Addr} {ns : List Str}
theorem OC.take {K : PySem.W.Frag} {all : List Str} (n : Nat) (h : OC K C all) : OC K C (all.take n) := ⟨h.cl, fun f m => h.na f (List.mem_of_mem_take m)⟩
/-- x.f = e, an attribute that isn't there yet -/
theorem m_setFldN {l : Addr} {all : List Str} (pn : PE X (.Name x p1) (tVar i)) (hi : ρ[i]? = some (some (.at l C ns os))) (cc : OC X.K C all) (he : ME X ρ e o)
    (kk : G.nx (ρ.set i (some (.at l C (ns ++ [f]) (os ++ [o]))))) (hl : os.length = ns.length := by rfl) (h1000 : ns.length < 1000 := by decide) (hm : f ∈ all := by decide +kernel) (hn : nmAt ns f = none := by decide +kernel)
    (hs : swapsWith e (some (.Attribute (.Name x p1) f p2)) p3.line X.env = pure false := by rfl) : MS1 X ρ (.Assign [.Attribute (.Name x p1) f p2] e p3) G :=
  m_setFld pn hi hl h1000 cc hm he (by rw [nsPut_new hn, xsPut_new hn hl]; exact kk) hs
end
end M
namespace M
open PySem L2 PySem.Spec PyProof.Rows
/-- slots that are fit for what follows: gone, of one's own, or a view at a known place that stands as it stood -/
inductive Kp : Slots → Slots → Prop where
  | nil : Kp [] []
  | no {x : Option O} {ρ τ : Slots} : Kp ρ τ → Kp (x :: ρ) (none :: τ)
  | nv {x : Option O} {o : O} {ρ τ : Slots} : o.nv = true → Kp ρ τ → Kp (x :: ρ) (some o :: τ)
  | va {a : Addr} {ds : List D} {ρ τ : Slots} : Kp ρ τ → Kp (some (.vwa a ds) :: ρ) (some (.vwa a ds) :: τ)
  | lk {a : Addr} {o : O} {ρ τ : Slots} : Kp ρ τ → Kp (some (.lk (.loc a o)) :: ρ) (some (.lk (.loc a o)) :: τ)
section
variable {K : PySem.W.Frag} {Z0 Z Z1 F F' H H1 : Hp}
theorem StL.monoF (f : Ex F F') : ∀ {ρ : Slots} {σ : L2.St} {A : List Addr}, StL K Z F H ρ σ A → StL K Z F' H ρ σ A
  | _, _, _, .nil => .nil
  | _, _, _, .no h => .no (h.monoF f)
  | _, _, _, .so r h => .so (r.mono (Ex.refl _) f fun _ _ _ e => e) (h.monoF f)
theorem RepO.lkAt {v : V} {a : Addr} {o : O} {A : List Addr} (r : RepO K Z F H v (.lk (.loc a o)) A) : v = .ref a ∧ A = [] ∧ RepK K Z F (.ref a) o := by
  cases r with
  | lk r =>
    cases r with
    | loc r => exact ⟨rfl, rfl, r⟩
theorem StL.kp (ef : Ex F F') (ez : Ex Z Z1) : ∀ {ρ τ : Slots} {σ0 σ : L2.St} {A0 A : List Addr}, Kp ρ τ → StL K Z F H ρ σ0 A0 → StL K Z1 F' H1 τ σ A → StL K Z1 F H1 τ σ A
  | _, _, _, _, _, _, .nil, .nil, .nil => .nil
  | _, _, _, _, _, _, .no k, .no h0, .no h => .no (StL.kp ef ez k h0 h)
  | _, _, _, _, _, _, .no k, .so _ h0, .no h => .no (StL.kp ef ez k h0 h)
  | _, _, _, _, _, _, .nv n k, .no h0, .so r h => .so (r.unF n) (StL.kp ef ez k h0 h)
  | _, _, _, _, _, _, .nv n k, .so _ h0, .so r h => .so (r.unF n) (StL.kp ef ez k h0 h)
  | _, _, _, _, _, _, .va k, .so r0 h0, .so r h => by
    cases r with
    | vwa r2 r3 =>
      cases r0 with
      | vwa r4 r5 => exact .so (.vwa r4 (r5.mono ez)) (StL.kp ef ez k h0 h)
  | _, _, _, _, _, _, .lk (a := a) (o := o) k, .so r0 h0, .so r h => by
    have e0 := RepO.lkAt r0
    have e1 := RepO.lkAt r
    rw [e1.1, e1.2.1]
    exact .so (.lk (.loc (e0.2.2.mono ez (Ex.refl _)))) (StL.kp ef ez k h0 h)
end
section
variable {X : Cx} {ρ : Slots} {st : Stmt} {sts : List Stmt} {G : Go} {o : O} {d : D} {ds : List D} {i : Nat}
end
end M
namespace M
open PySem L2 PySem.Spec PyProof.Rows
section
variable {X : Cx} {ρ : Slots} {a b : Expr} {pos : Pos} {p : Str} {m : Int} {k : Bool}
end
end M
namespace M
open PySem L2 PySem.Spec PyProof.Rows
def isiD (T : String) (d : D) : Option Bool := d.tyN.bind fun t => kitB t T
section
variable {X : Cx} {ρ : Slots} {a b c e : Expr} {pos p0 p1 : Pos} {d : D} {k : Bool}
theorem me_isiD {T : String} {TS : Str} (hk : isiD T d = some k) (hg : Gl X "isinstance") (hm : X.mg "isinstance" = none) (hT : PE X (.Name TS p1) (tC (.ty T))) (ha : MV X ρ a (.fz d)) (n1 : NS X a := by exact fun _ => rfl) :
    ME X ρ (.Call (.Name "isinstance" p0) [a, .Name TS p1] [] pos) (.fz (.bl k)) := by
  obtain ⟨t, h1, h2⟩ := Option.bind_eq_some_iff.mp hk
  exact me_isi hg hm hT ha (o := .fz d) h1 h2 n1
end
end M
namespace M
open PySem L2 PySem.Spec PyProof.Rows
structure MkP (K : PySem.W.Frag) (C : Addr) : Prop where
  makes : PySem.W.makesIn K C = true
  init : PySem.W.findIn K (.ref C) "__init__" = some (some (.builtin "object.__init__"))
  kp : PySem.W.keepIn K (.ref C) = true
theorem run_plain {X : Cx} {C : Addr} {pins : List (Addr × Obj)} {σ : L2.St} {H : Hp} {s : Shared} {Q : VK} (M : MkP X.K C) (I : Inv X pins σ H s)
    (h : ∀ x dx, H x = none → H dx = none → dx ≠ x → Q (.ref x) (upd (upd H dx (.own x)) x (.ins C dx []))) : wpAny (model X.prog X.w) X.A (call (.ref C) []) (EP X pins σ Q) X.xe s := by
  have hq := h (s.heap.objs.size + 1) s.heap.objs.size (I.hok.fresh (Nat.le_succ _)) (I.hok.fresh (Nat.le_refl _)) (Nat.ne_of_lt (Nat.lt_succ_self _))
  have I2 := Inv.made (C := C) I
  have Y := PySem.W.makes_of (M := model X.prog X.w) I.kIn M.makes
  refine wpAny_call (make_map0 I.kIn M.makes M.init (fun self => PySem.W.Looks.of_pure (PySem.W.oi_bind self)) ?_)
  obtain ⟨hh, g, d, t, os⟩ := s
  have hx : ((hh.push PySem.W.emptyDict).push (PySem.W.instObj C hh.objs.size)).get? (hh.objs.size + 1) = some (PySem.W.instObj C hh.objs.size) := by heap_get
  have t1 : PySem.W.Looks (model X.prog X.w) ((hh.push PySem.W.emptyDict).push (PySem.W.instObj C hh.objs.size)) (typeOf (.ref (hh.objs.size + 1))) (.ref C) := (PySem.W.Looks.ld hx).andThen .now
  have t2 : PySem.W.Looks (model X.prog X.w) ((hh.push PySem.W.emptyDict).push (PySem.W.instObj C hh.objs.size)) (isInstance (.ref (hh.objs.size + 1)) (.type "object")) true := t1.andThen (Y.top.keeps fun b o e => Heap.get?_push_of_some _ (Heap.get?_push_of_some _ e))
  refine PySem.codeAny_call_builtin PySem.W.oi_plain PySem.W.entry_oi (@PySem.W.check_slot (model X.prog X.w) _ _ _ "object.__init__" "object" "__init__" (.ref (hh.objs.size + 1)) [] [] _ PySem.W.oi_kind PySem.W.oi_split t2 (PySem.W.oi_args (.ref (hh.objs.size + 1))) ?_)
  rw [PySem.W.oi_run]
  exact wpAny_pure (And.intro rfl ⟨V.ref (hh.objs.size + 1), _, I2, rfl, hq⟩)
section
variable {X : Cx} {ρ : Slots} {e a b : Expr} {es : List Expr} {pos p0 p1 : Pos} {nm : Str} {C : Addr} {ns : List Str} {ds : List D} {o : O} {d : D}
theorem pe_plain (mp : MkP X.K C) (hg : Gl X nm) (hm : X.mg nm = some (.ref C)) (hdb : (nm == ("__debug__" : Str)) = false := by decide) : PE X (.Call (.Name nm p0) [] [] pos) (fun σ H Q => ∀ x dx, H x = none → H dx = none → dx ≠ x → Q (.ref x) (upd (upd H dx (.own x)) x (.ins C dx []))) := by
  refine ⟨fun pins s σ H Q I h => ?_⟩
  refine wpAny_Call_Name_kw (ld_glob I hg hm ?_ hdb)
  exact PySem.W.callWith_K0 I.kIn mp.kp (run_plain mp I h)
theorem me_plain (mp : MkP X.K C) (hm : X.mg nm = some (.ref C)) (hg : Gl X nm := by rfl) (hdb : (nm == ("__debug__" : Str)) = false := by decide) : ME X ρ (.Call (.Name nm p0) [] [] pos) (.ins C [] []) := .mk fun Z0 F Z σ H s Q q =>
  PE_w (pe_plain mp hg hm hdb) fun x dx hx hdx ne => by
    have h2 : (upd H dx (.own x)) x = none := by rw [upd_ne ne.symm]; exact hx
    exact q (.ref x) Z _ [x] ((Gr.new s.ex hdx).trans (Gr.new ((s.ex).trans (Ex.new hdx)) h2)) (.ins (dx := dx) upd_same .nil) (new_one hx (s.ex.free hx))
/-- a default is a plain value -/
inductive Dfl : List V → List D → Prop where
  | nil : Dfl [] []
  | cons {v : V} {d : D} {vs : List V} {ds : List D} : Sc d v → Dfl vs ds → Dfl (v :: vs) (d :: ds)
theorem Dfl.own {K : PySem.W.Frag} {Z F H : Hp} : ∀ {vs : List V} {ds : List D}, Dfl vs ds → RepOL K Z F H vs (ds.map .fz) []
  | _, _, .nil => .nil
  | _, _, .cons h r => .cons (A := []) (B := []) (.fz h.rep) r.own
end
end M
namespace M
open PySem L2 PySem.Spec PyProof.Rows
section
variable {K : PySem.W.Frag} {Z0 Z Z' Z1 F F' H H' H1 : Hp} {ρ ρ' : Slots} {σ : L2.St}
theorem RepOL.foc : ∀ {vs : List V} {os : List O} {A : List Addr} {j : Nat} {o : O}, RepOL K Z F H vs os A → os[j]? = some o → A.Nodup →
    ∃ v B, vs[j]? = some v ∧ RepO K Z F H v o B ∧ B.Nodup ∧ (∀ a ∈ B, a ∈ A) ∧ ∀ {Z' H' : Hp} {o' : O} {B' : List Addr}, Ex Z Z' → (∀ a ∈ A, a ∉ B → ∀ u, H a = some u → H' a = some u) → RepO K Z' F H' v o' B' → B'.Nodup → (∀ a ∈ B', a ∈ A → a ∈ B) →
      ∃ A', RepOL K Z' F H' vs (os.set j o') A' ∧ A'.Nodup ∧ ∀ a ∈ A', (a ∈ A ∧ a ∉ B) ∨ a ∈ B'
  | _, _, _, _, _, .nil, e, _ => by simp at e
  | _, _, _, 0, _, .cons (A := A1) (B := A2) q h, e, nA => by
    simp at e
    subst e
    obtain ⟨n1, n2, n3⟩ := List.nodup_append.mp nA
    refine ⟨_, A1, rfl, q, n1, fun a m => List.mem_append_left _ m, fun ez k r n d => ?_⟩
    refine ⟨_, .cons r (RepOL.mono ez (Ex.refl _) h fun a m => k a (List.mem_append_right _ m) fun z => n3 a z a m rfl), List.nodup_append.mpr ⟨n, n2, fun a ha b hb e => ?_⟩, fun a m => ?_⟩
    · subst e
      exact n3 a (d a ha (List.mem_append_right _ hb)) a hb rfl
    · rcases List.mem_append.mp m with m | m
      · exact .inr m
      · exact .inl ⟨List.mem_append_right _ m, fun z => n3 a z a m rfl⟩
  | _, _, _, j + 1, _, .cons (A := A1) (B := A2) q h, e, nA => by
    obtain ⟨n1, n2, n3⟩ := List.nodup_append.mp nA
    obtain ⟨v, B, h1, h2, h3, h4, h5⟩ := RepOL.foc (j := j) h (by simpa using e) n2
    refine ⟨v, B, by simpa using h1, h2, h3, fun a m => List.mem_append_right _ (h4 a m), fun ez k r n d => ?_⟩
    obtain ⟨A', q1, q2, q3⟩ := h5 ez (fun a m nb => k a (List.mem_append_right _ m) nb) r n fun a m z => d a m (List.mem_append_right _ z)
    refine ⟨_, .cons (q.mono ez (Ex.refl _) fun a m => k a (List.mem_append_left _ m) fun z => n3 a m a (h4 a z) rfl) q1, List.nodup_append.mpr ⟨n1, q2, fun a ha b hb e => ?_⟩, fun a m => ?_⟩
    · subst e
      rcases q3 a hb with z | z
      · exact n3 a ha a z.1 rfl
      · exact n3 a ha a (h4 a (d a z (List.mem_append_left _ ha))) rfl
    · rcases List.mem_append.mp m with m | m
      · exact .inl ⟨List.mem_append_left _ m, fun z => n3 a m a (h4 a z) rfl⟩
      · exact (q3 a m).imp (fun z => ⟨List.mem_append_right _ z.1, z.2⟩) id
/-- a state with what it owns -/
structure StA (K : PySem.W.Frag) (ρ : Slots) (Z0 F Z : Hp) (σ : L2.St) (H : Hp) (A : List Addr) : Prop where
  gr : Gr Z0 F Z H
  st : StL K Z F H ρ σ A
  nd : A.Nodup
  ds : ∀ a ∈ A, Z a = none ∧ F a = none
theorem StA.r {A : List Addr} (s : StA K ρ Z0 F Z σ H A) : StR K ρ Z0 F Z σ H := ⟨s.gr, A, s.st, s.nd, s.ds⟩
theorem StR.a (s : StR K ρ Z0 F Z σ H) : ∃ A, StA K ρ Z0 F Z σ H A := let ⟨A, h1, h2, h3⟩ := s.st; ⟨A, s.gr, h1, h2, h3⟩
theorem StA.grow {A : List Addr} (s : StA K ρ Z0 F Z σ H A) (g : Gr Z H Z' H') : StA K ρ Z0 F Z' σ H' A := by
  refine ⟨s.gr.trans g, s.st.mono g.zz fun a _ u e => g.hh a u e, s.nd, fun a m => ⟨?_, (s.ds a m).2⟩⟩
  obtain ⟨u, e⟩ := s.st.there a m
  rw [g.nw a u e]
  exact (s.ds a m).1
/-- what a change at A must leave as it is -/
def Kept (F : Hp) (T A : List Addr) (a : Addr) : Prop := a ∉ A ∧ (a ∈ T ∨ ∃ u, F a = some u)
/-- the part at a place: what is there, and what comes of it where it is changed -/
structure FocA (K : PySem.W.Frag) (F Z : Hp) (Z0 : Hp) (σ : L2.St) (H : Hp) (T : List Addr) (v : V) (o : O) (R : O → Slots) (A : List Addr) : Prop where
  rp : RepO K Z F H v o A
  nd : A.Nodup
  ds : ∀ a ∈ A, a ∈ T ∧ Z a = none ∧ F a = none
  th : ∀ a ∈ T, ∃ u, H a = some u
  fh : Ex F H
  k : ∀ {Z' H' : Hp} {w : V} {o' p : O} {B : List Addr}, Ex Z Z' → (∀ a, Kept F T A a → Z' a = Z a) → Ex Z' H' → (∀ a, Kept F T A a → ∀ u, H a = some u → H' a = some u) → RepOL K Z' F H' [v, w] [o', p] B → B.Nodup → (∀ a ∈ B, (a ∈ A ∨ a ∉ T ∧ F a = none) ∧ Z' a = none) →
    StR K (R o' ++ [some p]) Z0 F Z' (σ ++ [some w]) H'
def Foc (K : PySem.W.Frag) (Z0 F Z : Hp) (σ : L2.St) (H : Hp) (T : List Addr) (v : V) (o : O) (R : O → Slots) : Prop := ∃ A, FocA K F Z Z0 σ H T v o R A
theorem StA.foc {T : List Addr} {i : Nat} {o : O} (s : StA K ρ Z0 F Z σ H T) (hi : ρ[i]? = some (some o)) : ∃ v, σ[i]? = some (some v) ∧ Foc K Z0 F Z σ H T v o (fun o' => ρ.set i (some o')) := by
  obtain ⟨v, B0, q1, q2, q3, q4, q5⟩ := s.st.at hi s.nd
  refine ⟨v, q1, B0, q2, q3, fun a m => ⟨q4 a m, s.ds a (q4 a m)⟩, s.st.there, s.gr.hh, fun {Z' H' w o' p B} ez nz zh k r n d => ?_⟩
  cases r with
  | @cons _ _ _ _ A1 B1 ra r =>
    cases r with
    | @cons _ _ _ _ A2 B2 rb r =>
      cases r
      rw [List.append_nil] at n d
      obtain ⟨n1, n2, n3⟩ := List.nodup_append.mp n
      have apart : ∀ a ∈ A1 ++ A2, a ∈ T → a ∈ B0 := fun a m ma => (d a m).1.elim id fun z => absurd ma z.1
      obtain ⟨A', r1, r2, r3⟩ := q5 (v' := v) ez (fun a m nb u e => k a ⟨nb, .inl m⟩ u e) ra n1 fun a m ma => apart a (List.mem_append_left _ m) ma
      rw [set_same q1] at r1
      have hF : ∀ a u, F a = some u → a ∉ B0 := fun a u e m => by
        rw [(s.ds a (q4 a m)).2] at e
        cases e
      refine ⟨⟨s.gr.zz.trans ez, fun a u e => k a ⟨hF a u e, .inr ⟨u, e⟩⟩ u (s.gr.hh a u e), zh, fun a u e => (nz a ⟨hF a u e, .inr ⟨u, e⟩⟩).trans (s.gr.nw a u e)⟩, A' ++ A2, r1.push rb, List.nodup_append.mpr ⟨r2, n2, fun a ha b hb e => ?_⟩, fun a m => ?_⟩
      · subst e
        rcases r3 a ha with z | z
        · exact z.2 (apart a (List.mem_append_right _ hb) z.1)
        · exact n3 a z a hb rfl
      · have new : a ∈ A1 ++ A2 → Z' a = none ∧ F a = none := fun y => by
          refine ⟨(d a y).2, ?_⟩
          rcases (d a y).1 with z | z
          · exact (s.ds a (q4 a z)).2
          · exact z.2
        rcases List.mem_append.mp m with m | m
        · rcases r3 a m with z | z
          · exact ⟨(nz a ⟨z.2, .inl z.1⟩).trans (s.ds a z.1).1, (s.ds a z.1).2⟩
          · exact new (List.mem_append_left _ z)
        · exact new (List.mem_append_right _ m)
theorem Foc.grow {T : List Addr} {v : V} {o : O} {R : O → Slots} (f : Foc K Z0 F Z σ H T v o R) (g : Gr Z H Z1 H1) : Foc K Z0 F Z1 σ H1 T v o R := by
  obtain ⟨A, f⟩ := f
  refine ⟨A, f.rp.ex g.zz g.hh, f.nd, fun a m => ⟨(f.ds a m).1, ?_, (f.ds a m).2.2⟩, fun a m => ?_, f.fh.trans g.hh, fun {Z' H' w o' p B} ez nz zh k r n d => ?_⟩
  · obtain ⟨u, e⟩ := f.rp.there a m
    exact (g.nw a u e).trans (f.ds a m).2.1
  · obtain ⟨u, e⟩ := f.th a m
    exact ⟨u, g.hh a u e⟩
  · refine f.k (g.zz.trans ez) (fun a ka => ?_) zh (fun a ka u e => k a ka u (g.hh a u e)) r n d
    have : ∃ u, H a = some u := ka.2.elim (f.th a) fun ⟨u, e⟩ => ⟨u, f.fh a u e⟩
    obtain ⟨u, e⟩ := this
    exact (nz a ka).trans (g.nw a u e)
theorem FocA.chg {T A : List Addr} {v : V} {o : O} {R : O → Slots} (f : FocA K F Z Z0 σ H T v o R A) {o' : O} {B : List Addr} (ez : Ex Z Z') (nz : ∀ a, Kept F T A a → Z' a = Z a) (zh : Ex Z' H') (k : ∀ a, Kept F T A a → ∀ u, H a = some u → H' a = some u) (r : RepO K Z' F H' v o' B) (n : B.Nodup) (d : ∀ a ∈ B, (a ∈ A ∨ a ∉ T ∧ F a = none) ∧ Z' a = none) : StR K (R o') Z0 F Z' σ H' := by
  have := f.k (w := .non) (p := .fz .non) ez nz zh k (.cons r (.cons (A := []) (.fz .non) .nil)) (by simpa using n) (fun a m => d a (by simpa using m))
  exact this.pop
/-- one step down -/
theorem FocA.down {X : Type} {T A : List Addr} {v : V} {mk : List O → O} {cell : X → List V → HO} {P : Addr → Prop} {R : O → Slots} {os : List O} {j : Nat} {o : O}
    (hmk : ∀ {Z H : Hp} {v : V} {os : List O} {A : List Addr}, RepO K Z F H v (mk os) A ↔ ∃ a x vs A1, P a ∧ v = .ref a ∧ A = a :: A1 ∧ H a = some (cell x vs) ∧ RepOL K Z F H vs os A1)
    (f : FocA K F Z Z0 σ H T v (mk os) R A) (hj : os[j]? = some o) : ∃ a x vs v', v = .ref a ∧ H a = some (cell x vs) ∧ vs.length = os.length ∧ vs[j]? = some v' ∧ Foc K Z0 F Z σ H T v' o (fun o' => R (mk (os.set j o'))) := by
  obtain ⟨a, x, vs, A1, pa, rfl, rfl, ha, rl⟩ := hmk.mp f.rp
  obtain ⟨na, nA⟩ := List.nodup_cons.mp f.nd
  obtain ⟨v', B, q1, q2, q3, q4, q5⟩ := rl.foc hj nA
  have lenL : ∀ {vs : List V} {os : List O} {A : List Addr}, RepOL K Z F H vs os A → vs.length = os.length := fun r => r.length
  refine ⟨a, x, vs, v', rfl, ha, lenL rl, q1, B, q2, q3, fun b m => f.ds b (List.mem_cons_of_mem _ (q4 b m)), f.th, f.fh, fun {Z' H' w o' p B2} ez nz zh k r n d => ?_⟩
  cases r with
  | @cons _ _ _ _ B3 _ ra r =>
    cases r with
    | @cons _ _ _ _ B4 _ rb r =>
      cases r
      rw [List.append_nil] at n d
      obtain ⟨n1, n2, n3⟩ := List.nodup_append.mp n
      have aB : a ∉ B := fun m => na (q4 a m)
      have kA : ∀ b ∈ A1, b ∉ B → Kept F T B b := fun b m nb => ⟨nb, .inl (f.ds b (List.mem_cons_of_mem _ m)).1⟩
      have kT : ∀ b, Kept F T (a :: A1) b → Kept F T B b := fun b kb => ⟨fun m => kb.1 (List.mem_cons_of_mem _ (q4 b m)), kb.2⟩
      have ka : Kept F T B a := ⟨aB, .inl (f.ds a List.mem_cons_self).1⟩
      have apart : ∀ b ∈ B3 ++ B4, b ∈ a :: A1 → b ∈ B := fun b m mb => (d b m).1.elim id fun z => absurd (f.ds b mb).1 z.1
      obtain ⟨A', t1, t2, t3⟩ := q5 ez (fun b m nb u e => k b (kA b m nb) u e) ra n1 fun b m mb => apart b (List.mem_append_left _ m) (List.mem_cons_of_mem _ mb)
      have rm : RepO K Z' F H' (.ref a) (mk (os.set j o')) (a :: A') := hmk.mpr ⟨a, x, vs, A', pa, rfl, rfl, k a ka _ ha, t1⟩
      have aA' : a ∉ A' := fun m => by
        rcases t3 a m with z | z
        · exact na z.1
        · exact aB (apart a (List.mem_append_left _ z) List.mem_cons_self)
      refine f.k ez (fun b kb => nz b (kT b kb)) zh (fun b kb u e => k b (kT b kb) u e) (.cons rm (.cons rb .nil)) ?_ fun b m => ?_
      · rw [List.append_nil]
        refine List.nodup_append.mpr ⟨List.nodup_cons.mpr ⟨aA', t2⟩, n2, fun b hb c hc e => ?_⟩
        subst e
        rcases List.mem_cons.mp hb with z | z
        · subst z
          exact aB (apart b (List.mem_append_right _ hc) List.mem_cons_self)
        · rcases t3 b z with y | y
          · exact y.2 (apart b (List.mem_append_right _ hc) (List.mem_cons_of_mem _ y.1))
          · exact n3 b y b hc rfl
      · rw [List.append_nil] at m
        have new : b ∈ B3 ++ B4 → (b ∈ a :: A1 ∨ b ∉ T ∧ F b = none) ∧ Z' b = none := fun y => ⟨(d b y).1.imp (fun z => List.mem_cons_of_mem _ (q4 b z)) id, (d b y).2⟩
        rcases List.mem_append.mp m with m | m
        · rcases List.mem_cons.mp m with z | z
          · subst z
            exact ⟨.inl List.mem_cons_self, (nz b ka).trans (f.ds b List.mem_cons_self).2.1⟩
          · rcases t3 b z with y | y
            · exact ⟨.inl (List.mem_cons_of_mem _ y.1), (nz b (kA b y.1 y.2)).trans (f.ds b (List.mem_cons_of_mem _ y.1)).2.1⟩
            · exact new (List.mem_append_left _ y)
        · exact new (List.mem_append_right _ m)
theorem hm_lst : ∀ {Z H : Hp} {v : V} {os : List O} {A : List Addr}, RepO K Z F H v (.lst os) A ↔ ∃ a, ∃ _ : Unit, ∃ vs A1, True ∧ v = .ref a ∧ A = a :: A1 ∧ H a = some (.lst vs) ∧ RepOL K Z F H vs os A1 := by
  intro Z H v os A
  constructor
  · intro r
    cases r with
    | lst h r => exact ⟨_, (), _, _, trivial, rfl, rfl, h, r⟩
  · rintro ⟨a, _, vs, A1, _, rfl, rfl, h, r⟩
    exact .lst h r
theorem hm_ins {C : Addr} {ns : List Str} : ∀ {Z H : Hp} {v : V} {os : List O} {A : List Addr}, RepO K Z F H v (.ins C ns os) A ↔ ∃ a, ∃ dx : Addr, ∃ vs A1, True ∧ v = .ref a ∧ A = a :: A1 ∧ H a = some (.ins C dx (ns.zip vs)) ∧ RepOL K Z F H vs os A1 := by
  intro Z H v os A
  constructor
  · intro r
    cases r with
    | ins h r => exact ⟨_, _, _, _, trivial, rfl, rfl, h, r⟩
  · rintro ⟨a, _, vs, A1, _, rfl, rfl, h, r⟩
    exact .ins h r
end
end M
namespace M
open PySem L2 PySem.Spec PyProof.Rows
section
variable {X : Cx} {ρ ρ' : Slots} {R : O → Slots} {e a b c elt : Expr} {es rest : List Expr} {st : Stmt} {sts : List Stmt} {G : Go} {o o1 o2 : O} {d : D} {ds : List D} {os : List O} {pos p0 p1 p2 p3 p4 p5 p6 : Pos} {i j : Nat} {x nm f : Str} {m n k : Int} {p q : Str} {C : Addr} {ns : List Str}
/-- an expression that tells a place, and changes nothing -/
structure MQ (X : Cx) (ρ : Slots) (e : Expr) (o : O) (R : O → Slots) : Prop where
  run : ∀ (Z0 F Z : Hp) (σ : L2.St) (H : Hp) (T : List Addr), StA X.K ρ Z0 F Z σ H T → ∀ Q : VK, (∀ v Z' H', Gr Z H Z' H' → Foc X.K Z0 F Z' σ H' T v o R → Q v H') → wE X e σ H Q
/-- .. that changes slots ahead -/
structure MP (X : Cx) (ρ : Slots) (e : Expr) (o : O) (ρ' : Slots) (R : O → Slots) : Prop where
  run : ∀ (Z0 F Z : Hp) (σ : L2.St) (H : Hp) (T : List Addr), StA X.K ρ Z0 F Z σ H T → ∀ Q : VK, (∀ v Z' H' T', StR X.K ρ' Z0 F Z' σ H' → Foc X.K Z0 F Z' σ H' T' v o R → Q v H') → wE X e σ H Q
theorem MQ.toP (h : MQ X ρ e o R) : MP X ρ e o ρ R := .mk fun Z0 F Z σ H T s Q q => h.run Z0 F Z σ H T s Q fun v Z' H' g f => q v Z' H' T (s.grow g).r f
theorem mq_var (p : PE X (.Name x pos) (tVar i)) (hi : ρ[i]? = some (some o)) : MQ X ρ (.Name x pos) o (fun o' => ρ.set i (some o')) := .mk fun Z0 F Z σ H T s Q q => by
  obtain ⟨v, e1, f⟩ := s.foc hi
  exact PE_w p ⟨v, e1, q v Z H (Gr.refl s.gr.zh) f⟩
theorem Foc.unloc {K : PySem.W.Frag} {Z0 F Z H : Hp} {σ : L2.St} {T : List Addr} {v : V} {l : Addr} (f : Foc K Z0 F Z σ H T v (.loc l o) R) : v = .ref l ∧ Foc K Z0 F Z σ H T v o (fun o' => R (.loc l o')) := by
  obtain ⟨A, f⟩ := f
  have ev : v = .ref l := by
    cases f.rp with
    | loc r => rfl
  subst ev
  refine ⟨rfl, A, ?_, f.nd, f.ds, f.th, f.fh, fun ez nz zh k r n d => f.k ez nz zh k ?_ n d⟩
  · cases f.rp with
    | loc r => exact r
  · cases r with
    | cons r1 r2 => exact .cons (.loc r1) r2
theorem MV.unloc {l : Addr} (h : MV X ρ e (.loc l o)) : MV X ρ e o := .mk fun Z0 F Z σ H s Q q => h.run Z0 F Z σ H s Q fun v Z' H' A g r => by
  cases r with
  | loc r => exact q _ Z' H' A g r
/-- a cell is changed in place -/
theorem FocA.mut {K : PySem.W.Frag} {Z0 F Z H : Hp} {σ : L2.St} {T A : List Addr} {v : V} (f : FocA K F Z Z0 σ H T v o R A) (zh : Ex Z H) {a : Addr} (ha : a ∈ A) {c : HO} {o' : O} {B : List Addr} (r : RepO K Z F (upd H a c) v o' B) (n : B.Nodup) (d : ∀ b ∈ B, b ∈ A ∨ (b ∉ T ∧ Z b = none ∧ F b = none)) : StR K (R o') Z0 F Z σ (upd H a c) := by
  refine f.chg (Ex.refl _) (fun _ _ => rfl) (zh.mut (f.ds a ha).2.1) (fun b kb u e => ?_) r n fun b m => ?_
  · rw [upd_ne fun q => kb.1 (by rw [q]; exact ha)]
    exact e
  · rcases d b m with z | z
    · exact ⟨.inl z, (f.ds b z).2.1⟩
    · exact ⟨.inr ⟨z.1, z.2.2⟩, z.2.1⟩
end
end M
namespace M
open PySem L2 PySem.Spec PyProof.Rows
section
variable {X : Cx} {ρ ρ' : Slots} {R : O → Slots} {e a b c elt : Expr} {es rest : List Expr} {st : Stmt} {sts : List Stmt} {G : Go} {o o1 o2 : O} {d : D} {ds : List D} {os : List O} {pos p0 p1 p2 p3 p4 p5 p6 : Pos} {i j : Nat} {x nm f : Str} {m n k : Int} {C : Addr} {ns : List Str}
theorem RepOL.apZ {K : PySem.W.Frag} {Z F H : Hp} {ws : List V} {ds : List D} (s : RepL K Z ws ds) : ∀ {vs : List V} {os : List O} {A : List Addr}, RepOL K Z F H vs os A → RepOL K Z F H (vs ++ ws) (os ++ ds.map .fz) A
  | _, _, _, .nil => s.own
  | _, _, _, .cons h r => .cons h (r.apZ s)
/-- the list at a place is changed by a step of its own -/
theorem FocA.chgL {K : PySem.W.Frag} {Z0 F Z H : Hp} {σ : L2.St} {T A A1 : List Addr} {l : Addr} {us : List V} {os' : List O} (f : FocA K F Z Z0 σ H T (.ref l) o R A) (eA : A = l :: A1) (zh : Ex Z H) (r : RepOL K Z F H us os' A1) : StR K (R (.lst os')) Z0 F Z σ (upd H l (.lst us)) := by
  subst eA
  obtain ⟨na, nA⟩ := List.nodup_cons.mp f.nd
  refine f.mut zh List.mem_cons_self (.lst upd_same (r.mono (Ex.refl _) (Ex.refl _) fun b m u hu => ?_)) f.nd fun b m => .inl m
  rw [upd_ne fun q => na (by rw [← q]; exact m)]
  exact hu
end
end M
namespace M
open PySem L2 PySem.Spec PyProof.Rows
section
variable {X : Cx} {ρ ρ' : Slots} {R : O → Slots} {e a b c elt : Expr} {es rest : List Expr} {st : Stmt} {sts : List Stmt} {G : Go} {o o1 o2 : O} {d : D} {ds ds1 ds2 : List D} {os : List O} {pos p0 p1 p2 p3 p4 p5 p6 : Pos} {i j : Nat} {nm : Str} {C : Addr} {ns : List Str}
end
end M
namespace M
open PySem L2 PySem.Spec PyProof.Rows
section
variable {V W R : Type}
def wlN (c : V → Option Bool) (b : V → Option (Ou V V R)) : Nat → V → Option (Ou V V R)
  | 0, _ => none
  | n + 1, v => bd (c v) fun k => cond k (bd (b v) fun o => match o with
    | .nx v' => wlN c b n v'
    | .ct v' => wlN c b n v'
    | .bk v' => some (.nx v')
    | .rt r => some (.rt r)) (some (.nx v))
open Classical in
noncomputable def wl (c : V → Option Bool) (b : V → Option (Ou V V R)) (v : V) : Option (Ou V V R) := if h : ∃ n o, wlN c b n v = some o then some h.choose_spec.choose else none
theorem wl_some {c : V → Option Bool} {b : V → Option (Ou V V R)} {v : V} {o : Ou V V R} (h : wl c b v = some o) : ∃ n, wlN c b n v = some o := by
  unfold wl at h
  split at h
  · rename_i q
    have e := q.choose_spec.choose_spec
    rw [Option.some.inj h] at e
    exact ⟨_, e⟩
  · cases h
theorem wlN_more {c : V → Option Bool} {b : V → Option (Ou V V R)} : ∀ {n m : Nat} {v : V} {o : Ou V V R}, wlN c b n v = some o → n ≤ m → wlN c b m v = some o
  | 0, _, _, _, h, _ => by cases h
  | n + 1, 0, _, _, _, l => by omega
  | n + 1, m + 1, v, o, h, l => by
    obtain ⟨k, e1, h⟩ := bd_some h
    show bd (c v) _ = _
    rw [bd_of e1]
    cases k with
    | false => exact h
    | true =>
      obtain ⟨o1, e2, h⟩ := bd_some (show bd (b v) _ = some o from h)
      show bd (b v) _ = _
      rw [bd_of e2]
      cases o1 with
      | nx v' => exact wlN_more h (by omega)
      | ct v' => exact wlN_more h (by omega)
      | bk v' => exact h
      | rt r => exact h
theorem wl_of {c : V → Option Bool} {b : V → Option (Ou V V R)} {n : Nat} {v : V} {o : Ou V V R} (h : wlN c b n v = some o) : wl c b v = some o := by
  have ex : ∃ n o, wlN c b n v = some o := ⟨n, o, h⟩
  unfold wl
  rw [dif_pos ex]
  have e := ex.choose_spec.choose_spec
  have e1 := wlN_more e (Nat.le_max_left _ n)
  have e2 := wlN_more h (Nat.le_max_right ex.choose n)
  rw [e1] at e2
  exact e2
variable {X : Cx} {ρ ρ' : Slots} {e a c elt : Expr} {st : Stmt} {sts : List Stmt} {G : Go} {pos p0 : Pos}
theorem m_whileO {body : List Stmt} (p : PS X st (tWhile (wT X c) (wS X body))) {cm : V → Option Bool} {bm : V → Option (Ou V V R)} {v0 : V} {out : Ou V V R} (hx : wl cm bm v0 = some out) (Rn : V → Slots) (er : R → O) (h0 : Le ρ (Rn v0))
    (hc : ∀ v k, cm v = some k → MT X (Rn v) c k) (hs : ∀ v o, bm v = some o → MS X (Rn v) body (goO Rn Rn er o))
    (hd : ∀ v τ, out = .nx v → Le τ (Rn v) → G.nx τ) (hr : ∀ r, out = .rt r → G.rt (er r)) : MS1 X ρ st G := .mk fun Z0 F Z σ H D s g => by
  obtain ⟨n, hn⟩ := wl_some hx
  refine PS_w p ⟨fun m σ' H' => ∃ v Z', wlN cm bm m v = some out ∧ StR X.K (Rn v) Z0 F Z' σ' H', ⟨n, v0, Z, hn, s.le h0⟩, ?_⟩
  rintro m σ1 H1 ⟨v, Z1, hv, s1⟩
  cases m with
  | zero => cases hv
  | succ m =>
    obtain ⟨k, e1, hv⟩ := bd_some hv
    refine (hc v k e1).run Z0 F Z1 σ1 H1 s1 _ fun Z2 H2 g2 => ?_
    cases k with
    | false =>
      rw [if_neg Bool.false_ne_true]
      cases hv
      exact g.nx _ Z2 σ1 H2 (hd v _ rfl (Le.refl _)) (s1.grow g2)
    | true =>
      rw [if_pos rfl]
      obtain ⟨o, e2, hv⟩ := bd_some (show bd (bm v) _ = some out from hv)
      refine ⟨fun σ' H' => ∃ v' Z', wlN cm bm m v' = some out ∧ StR X.K (Rn v') Z0 F Z' σ' H', fun σ' H' q => ⟨m, Nat.lt_succ_self m, q⟩, ?_⟩
      refine (hs v o e2).run Z0 F Z2 σ1 H2 _ (s1.grow g2) ⟨fun τ Z3 σ3 H3 q s3 => ?_, fun τ Z3 σ3 H3 q s3 => ?_, fun τ Z3 σ3 H3 q s3 => ?_, fun o' w Z3 H3 A q g3 r n => ?_, fun _ _ _ _ _ _ z => z.elim, g.ex.imp fun o' q => by
        obtain ⟨r', rfl, rfl⟩ := q
        cases hv
        exact hr r' rfl⟩
      · obtain ⟨v', rfl, l⟩ := q
        exact ⟨v', Z3, hv, s3.le l⟩
      · obtain ⟨v', rfl, l⟩ := q
        cases hv
        exact g.nx _ Z3 σ3 H3 (hd v' _ rfl l) s3
      · obtain ⟨v', rfl, l⟩ := q
        exact ⟨v', Z3, hv, s3.le l⟩
      · obtain ⟨r', rfl, rfl⟩ := q
        cases hv
        exact g.rt _ w Z3 H3 A (hr r' rfl) g3 r n
end
end M
namespace M
open PySem L2 PySem.Spec PyProof.Rows
section
variable {X : Cx} {ρ ρ' : Slots} {R' : O → Slots} {e a b c elt : Expr} {es : List Expr} {st : Stmt} {sts : List Stmt} {G : Go} {o o1 o2 : O} {d : D} {ds : List D} {os : List O} {pos p0 p1 p2 p3 p4 : Pos} {i n : Nat} {x nm : Str} {α β V W R : Type}
theorem Le.get : ∀ {ρ τ : Slots} {n : Nat} {o : O}, Le ρ τ → τ[n]? = some (some o) → ρ[n]? = some (some o)
  | _, _, _, _, .nil, h => h
  | _, _, 0, _, .no _, h => by simp at h
  | _, _, 0, _, .eq _, h => h
  | _, _, n + 1, _, .no l, h => by
    simp only [List.getElem?_cons_succ] at h ⊢
    exact Le.get l h
  | _, _, n + 1, _, .eq l, h => by
    simp only [List.getElem?_cons_succ] at h ⊢
    exact Le.get l h
end
end M
namespace M
open PySem L2 PySem.Spec PyProof.Rows
/-- what a def tells: a result or an error -/
inductive Xr (E R : Type) where
  | ok (r : R) | er (e : E)
def exO {E R : Type} (te : E → Er) (er : R → O) : Xr E R → O
  | .ok r => er r
  | .er e => .rs (te e)
def ThrE (K : PySem.W.Frag) (E : XK) (e : Er) (Z H : Hp) : Prop := Thrown K (fun c d _ H => E c d H) e Z [] H
theorem thrown_of {K : PySem.W.Frag} {E : XK} {e : Er} {Z H : Hp} {σ : L2.St} (h : ThrE K E e Z H) : Thrown K (fun c d _ H => E c d H) e Z σ H := by
  unfold ThrE Thrown at h
  unfold Thrown
  cases hf : e.fld with
  | none => rw [hf] at h; exact h
  | some p => rw [hf] at h; exact h
def EW (W : WX) : XK := fun c d H => ∀ σ, W c d σ H
theorem thrE_of {K : PySem.W.Frag} {W : WX} {e : Er} {Z H : Hp} (h : ∀ σ, Thrown K W e Z σ H) : ThrE K (EW W) e Z H := by
  unfold Thrown at h
  unfold ThrE Thrown
  cases hf : e.fld with
  | none => intro σ; have := h σ; rw [hf] at this; exact this
  | some p => intro a v na r σ; have := h σ; rw [hf] at this; exact this a v na r
theorem stL_blank {K : PySem.W.Frag} {Z F H : Hp} : ∀ σ : L2.St, StL K Z F H (List.replicate σ.length none) σ []
  | [] => .nil
  | _ :: σ => .no (stL_blank σ)
theorem StR.blank {K : PySem.W.Frag} {Z0 F Z' H' : Hp} (g : Gr Z0 F Z' H') (σ : L2.St) : StR K (List.replicate σ.length none) Z0 F Z' σ H' := ⟨g, [], stL_blank σ, List.nodup_nil, fun _ m => nomatch m⟩
theorem pass_ew {X : Cx} {W : WX} (tk : Takes X W) : Passes (L2.CX X.prog X.w) X (EW W) := passes_call tk fun _ _ σ _ h => h σ
/-- a def that is known to refuse nothing -/
theorem _root_.L2.FnOk.known {P : Program} {w : World} {K : PySem.W.Frag} {mg : Str → Option Value} {base : Heap} {k : Nat} {f : Addr} {fd : FuncData} {ps : List Str} {sp sp' : Sp} (F : FnOk P w K mg base (L2.CX P w) k f fd ps sp)
    (h : ∀ vs H Q E, sp' vs H Q E → sp vs H Q (fun _ _ _ => False)) : FnOk P w K mg base CX0 k f fd ps sp' :=
  ⟨fun vs H Q E q => F.len vs H Q _ (h _ _ _ _ q), fun A outer s H args us vs Q E hr he hb hv hs => codeAny_mono (F.run A outer s H args us vs Q _ hr he hb hv (h _ _ _ _ hs)) fun r s' q => by
    cases r with
    | ok r => cases r <;> exact q
    | error e =>
      obtain ⟨_, _, _, _, _, _, _, _, _, _, _, _, z⟩ := q
      exact z.elim⟩
def SpE {α : Type} (K : PySem.W.Frag) (ar : α → List O) (pre : α → Prop) (res : α → O) : Sp := fun vs H Q E => ∃ (x : α) (Z : Hp), Ex Z H ∧ RepOL K Z H H vs (ar x) [] ∧ pre x ∧
  (∀ v Z' H' A, Gr Z H Z' H' → RepO K Z' (fun _ => none) H' v (res x) A → New H Z' A → Q v H') ∧ ∀ e Z' H', res x = .rs e → Gr Z H Z' H' → ThrE K E e Z' H'
/-- its body keeps its promise -/
theorem fn_mE {α : Type} {P : Program} {w : World} {K : PySem.W.Frag} {mg : Str → Option Value} {base : Heap} {x qual : Str} {st : Stmt} {f : Addr} {fd : FuncData} {N ps : List Str} {k : Nat} {ar : α → List O} {pre : α → Prop} {res : α → O}
    (F : Fun K x qual st f fd) (S : FnScope N ps (defScope st)) (hl : ∀ x, (ar x).length = ps.length) (hn : ∀ x, pre x → (res x).nv = true ∨ ∃ e, res x = .rs e)
    (hb : ∀ (cdv : Value) (A : Around) (outer : List Env) (s : Shared) (H : Hp) (E : XK), Room k (A.deeper (envOfC qual (defScope st) s.heap.objs.size f cdv)) →
      PassesOwn (model P w) (A.deeper (envOfC qual (defScope st) s.heap.objs.size f cdv)) (cxOf (L2.CX P w) P w K mg base N qual (defScope st) f cdv A outer s H E).env (cxOf (L2.CX P w) P w K mg base N qual (defScope st) f cdv A outer s H E).xe → ∀ x, pre x →
      MS (cxOf (L2.CX P w) P w K mg base N qual (defScope st) f cdv A outer s H E) ((ar x).map some ++ List.replicate (N.length - ps.length) none) (defBody st) { nx := fun _ => res x = .fz .non, rt := fun o => o = res x }) :
    FnOk P w K mg base (L2.CX P w) (k + 1) f fd ps (SpE K ar pre res) := by
  refine F.okX S (fun vs H Q E h => ?_) (fun cdv A outer s H vs Q E hr h => ?_)
  · obtain ⟨x, Z, _, r, _⟩ := h
    rw [r.length, hl]
  · obtain ⟨x, Z, ez, r, hp, q, qx⟩ := h
    refine ⟨_, pss_w, (hb cdv A outer s H E hr (passes_of rfl) x hp).run Z H Z _ H _ ⟨Gr.refl ez, [], ?_, List.nodup_nil, fun _ m => nomatch m⟩ ⟨fun ρ Z' σ H' e s' => ?_, fun _ _ _ _ z => z.elim, fun _ _ _ _ z => z.elim, fun o v Z' H' A e g r n => ?_, fun _ _ _ _ _ _ z => z.elim, ⟨_, takes_of rfl rfl rfl rfl, fun e ρ Z' σ H' k s' => thrown_of (qx e Z' H' k.symm s'.gr)⟩⟩⟩
    · have e : L2.start N vs = vs.map some ++ List.replicate (N.length - ps.length) none := by
        unfold L2.start
        rw [r.length, hl]
      rw [e]
      exact stL_more _ (stL_args r)
    · refine q _ Z' H' [] s'.gr ?_ .nil
      rw [e]
      exact .fz .non
    · subst e
      rcases hn x hp with hn | ⟨e, hn⟩
      · exact q _ Z' H' A g (r.unF hn) n
      · rw [hn] at r
        cases r
structure Fn1E (P : Program) (w : World) (K : PySem.W.Frag) (mg : Str → Option Value) (base : Heap) (name : Str) (k : Nat) (ps : List Str) (sp : Sp) : Prop where
  ex : ∃ (f : Addr) (fd : FuncData), mg name = some (.ref f) ∧ PySem.W.keepIn K (.ref f) = true ∧ Binds K fd ps [] ∧ FnOk P w K mg base (L2.CX P w) k f fd ps sp
theorem Fn1E.ok {P : Program} {w : World} {K : PySem.W.Frag} {mg : Str → Option Value} {base : Heap} {name : Str} {k : Nat} {ps : List Str} {α : Type} {ar : α → List O} {pre : α → Prop} {res : α → O} (c : Fn1E P w K mg base name k ps (SpE K ar pre res)) : Fn1 P w K mg base name k ps (SpM K ar (fun x => pre x ∧ ∀ e, res x ≠ .rs e) res) := by
  obtain ⟨f, fd, hm, hk, hb, F⟩ := c.ex
  exact ⟨f, fd, hm, hk, hb, F.known fun vs H Q E ⟨x, Z, ez, r, ⟨hp, hn⟩, q⟩ => ⟨x, Z, ez, r, hp, q, fun e _ _ z => absurd z (hn e)⟩⟩
/-- an expression that raises -/
structure MRz (X : Cx) (ρ : Slots) (e : Expr) (er : Er) : Prop where
  run : ∀ (Z0 F Z : Hp) (σ : L2.St) (H : Hp), StR X.K ρ Z0 F Z σ H → ∀ (W : WX), Takes X W → (∀ σ' Z' H', Gr Z0 F Z' H' → Thrown X.K W er Z' σ' H') → ∀ Q : VK, wE X e σ H Q
section
variable {X : Cx} {ρ : Slots} {e a b elt : Expr} {es : List Expr} {st : Stmt} {sts : List Stmt} {G : Go} {o o1 o2 : O} {d : D} {ds : List D} {pos p0 p1 p2 p3 : Pos} {i : Nat} {x nm f : Str} {er : Er}
/-- a call that raises -/
theorem mz_fn {α : Type} {ar : α → List O} {pre : α → Prop} {res : α → O} {k : Nat} {ps : List Str} (c : Fn1E X.prog X.w X.K X.mg X.base nm k ps (SpE X.K ar pre res)) (x : α) (ha : MA X ρ (e :: es) (ar x)) (hp : pre x) (hr : Room k X.A) (hres : res x = .rs er := by first | (dsimp only; done) | (dsimp only; rfl) | rfl) (hg : Gl X nm := by rfl)
    (hdb : (nm == ("__debug__" : Str)) = false := by decide) (he : starEach (e :: es) X.env = (false, eval e X.env) :: starEach es X.env := by rfl) (hpl : (backTo pos (starEach es X.env)).any (·.1) = false := by rfl) : MRz X ρ (.Call (.Name nm p0) (e :: es) [] pos) er := by
  obtain ⟨f, fd, hm, hk, hb, F⟩ := c.ex
  exact .mk fun Z0 F0 Z σ H s W tk qx Q => PE_w (pe_call F hr hg hm hk hb .nil (pass_ew tk) pa_w hdb he hpl) (ha.run Z0 F0 Z σ H s _ fun vs Z1 H1 g1 r1 =>
    ⟨x, Z1, g1.zh, by rw [List.append_nil]; exact r1, hp, (fun v Z2 H2 A g2 r2 n2 => by
      rw [hres] at r2
      cases r2), (fun e Z2 H2 z g2 => by
      rw [hres] at z
      cases z
      exact thrE_of fun σ' => qx σ' Z2 H2 (s.gr.trans (g1.trans g2)))⟩)
theorem gx_thrown {Z0 F : Hp} {r : O → Prop} (g : GX X Z0 F r) (k : r (.rs er)) : ∃ W : WX, Takes X W ∧ ∀ σ' Z' H', Gr Z0 F Z' H' → Thrown X.K W er Z' σ' H' := by
  obtain ⟨W, tk, kk⟩ := g
  exact ⟨W, tk, fun σ' Z' H' g => kk er _ Z' σ' H' k (StR.blank g σ')⟩
theorem m_rzAsg {g : TG} (p : PS X st (tAsg (wE X e) g)) (h : MRz X ρ e er) (k : G.rt (.rs er)) : MS1 X ρ st G := .mk fun Z0 F Z σ H D s gd => by
  obtain ⟨W, tk, kk⟩ := gx_thrown gd.ex k
  exact PS_w p (h.run Z0 F Z σ H s W tk kk _)
theorem m_rzDrop (p : PS X st (tDrop (wE X e))) (h : MRz X ρ e er) (k : G.rt (.rs er)) : MS1 X ρ st G := .mk fun Z0 F Z σ H D s gd => by
  obtain ⟨W, tk, kk⟩ := gx_thrown gd.ex k
  exact PS_w p (h.run Z0 F Z σ H s W tk kk _)
theorem m_rzRet (p : PS X st (tRet (wE X e))) (h : MRz X ρ e er) (k : G.rt (.rs er)) : MS1 X ρ st G := .mk fun Z0 F Z σ H D s gd => by
  obtain ⟨W, tk, kk⟩ := gx_thrown gd.ex k
  exact PS_w p (h.run Z0 F Z σ H s W tk kk _)
/-- raise C('m') -/
theorem m_raise {C : Addr} (pm : PMk X e (fun _ H Q => Q (.ref C) none H)) (k : G.rt (.rs ⟨C, none⟩)) (hc : X.calm = true := by rfl) : MS1 X ρ (.Raise (some e) none pos) G := .mk fun Z0 F Z σ H D s gd => by
  obtain ⟨W, tk, kk⟩ := gd.ex
  exact PS_w (ps_raise hc tk pm) (kk ⟨C, none⟩ ρ Z σ H k s)
end
/-- a class of errors without an __init__ of its own -/
structure XcC (K : PySem.W.Frag) (mg : Str → Option Value) (nm : Str) (C : Addr) : Prop where
  q : PySem.W.excIn K C [.type "ValueError", .type "Exception", .type "BaseException", .type "object"] "ValueError.__new__" = true
  g : mg nm = some (.ref C)
  k : PySem.W.keepIn K (.ref C) = true
  b : PySem.W.subIn K (.ref C) (.type "BaseException") = some true
  t : PySem.W.typeIn K (.ref C) = some (.type "type")
theorem pm_own {X : Cx} {nm m : Str} {C : Addr} {j : Nat} {p p2 pos : Pos} (c : XcC X.K X.mg nm C) (hg : Gl X nm := by rfl) (hdb : (nm == ("__debug__" : Str)) = false := by decide) : PMk X (.Call (.Name nm p) [.Constant (.str m) j p2] [] pos) (fun _ H Q => Q (.ref C) none H) :=
  pmk_own PySem.F.excBase_ValueError c.q c.g c.k (raises_own c.b c.t) hg hdb
def SpXE {α : Type} (K : PySem.W.Frag) (ar : α → List O) (pre : α → Prop) (s0 s1 : Addr → α → O) (res : α → O) : Sp := fun vs H Q E => ∃ (x : α) (Z F : Hp) (l : Addr) (vs' : List V) (A : List Addr), vs = .ref l :: vs' ∧ Ex Z F ∧ Ex F H ∧ A.Nodup ∧ (∀ a ∈ A, F a = none) ∧ RepO K Z F H (.ref l) (s0 l x) A ∧ RepOL K Z F F vs' (ar x) [] ∧ pre x ∧
  (∀ v Z' H' B, Gr Z F Z' H' → RepOL K Z' (fun _ => none) H' [.ref l, v] [s1 l x, res x] B → B.Nodup → (∀ a ∈ B, F a = none ∧ Z' a = none) → Q v H') ∧ ∀ e Z' H', res x = .rs e → Gr Z F Z' H' → ThrE K E e Z' H'
/-- of a new instance -/
def SpIE {α : Type} (K : PySem.W.Frag) (C : Addr) (ns : List Str) (ar : α → List O) (pre : α → Prop) (res : α → List O) (er : α → Option Er) : Sp := fun vs H Q E => ∃ (x : α) (Z F : Hp) (l dx : Addr) (vs' : List V), vs = .ref l :: vs' ∧ Ex Z F ∧ Ex F H ∧ F l = none ∧ H l = some (.ins C dx []) ∧ RepOL K Z F F vs' (ar x) [] ∧ pre x ∧
  (er x = none → ∀ Z' H' A, Gr Z F Z' H' → RepO K Z' (fun _ => none) H' (.ref l) (.at l C ns (res x)) A → New F Z' A → Q .non H') ∧ ∀ e Z' H', er x = some e → Gr Z F Z' H' → ThrE K E e Z' H'
theorem SpXE.init {α : Type} {P : Program} {w : World} {K : PySem.W.Frag} {mg : Str → Option Value} {base : Heap} {CX : CXT} {k : Nat} {f : Addr} {fd : FuncData} {ps : List Str} {ar : α → List O} {pre : α → Prop} {s0 s1 : Addr → α → O} {res : α → O} {β : Type} {arb : β → List O} {preb : β → Prop} {resb : β → List O} {erb : β → Option Er} {C : Addr} {ns : List Str} (g : β → α)
    (h : FnOk P w K mg base CX k f fd ps (SpXE K ar pre s0 s1 res)) (har : ∀ y, ar (g y) = arb y) (hp : ∀ y, preb y → pre (g y)) (h0 : ∀ l y, s0 l (g y) = .at l C [] []) (h1 : ∀ l y, erb y = none → s1 l (g y) = .at l C ns (resb y)) (h2 : ∀ y, (erb y = none ∧ res (g y) = .fz .non) ∨ ∃ e, erb y = some e ∧ res (g y) = .rs e) :
    FnOk P w K mg base CX k f fd ps (SpIE K C ns arb preb resb erb) := h.imp fun vs H Q E hh => by
  obtain ⟨y, Z, F, l, dx, vs', rfl, ez, ef, nl, hi, r, hpr, q, qx⟩ := hh
  have fl : ∀ a ∈ [l], F a = none := fun a m => by
    have e : a = l := by simpa using m
    rw [e]
    exact nl
  refine ⟨g y, Z, F, l, vs', [l], rfl, ez, ef, by simp, fl, ?_, by rw [har]; exact r, hp y hpr, fun v Z' H' B gg rr nB dB => ?_, fun e Z' H' z gg => ?_⟩
  · rw [h0]
    exact .at (dx := dx) hi .nil
  · rcases h2 y with ⟨en, er⟩ | ⟨e, en, er⟩
    · rw [er, h1 l y en] at rr
      cases rr with
      | @cons _ _ _ _ A1 B1 ra rb =>
        cases rb with
        | @cons _ _ _ _ A2 B2 rb rc =>
          cases rb with
          | fz rb =>
            cases rb
            cases rc
            rw [List.append_nil, List.append_nil] at nB dB
            exact q en Z' H' A1 gg ra ⟨nB, dB⟩
    · rw [er] at rr
      cases rr with
      | cons ra rb =>
        cases rb with
        | cons rb rc => cases rb
  · rcases h2 y with ⟨en, er⟩ | ⟨e', en, er⟩
    · rw [er] at z
      cases z
    · rw [er] at z
      cases z
      exact qx e Z' H' en gg
structure Mk1E (P : Program) (w : World) (K : PySem.W.Frag) (mg : Str → Option Value) (base : Heap) (name : Str) (C : Addr) (k : Nat) (ps : List Str) (sp : Sp) : Prop where
  ex : ∃ (f : Addr) (fd : FuncData), mg name = some (.ref C) ∧ Mk K C f ∧ Binds K fd ps [] ∧ FnOk P w K mg base (L2.CX P w) k f fd ps sp
structure Cf1E (P : Program) (w : World) (K : PySem.W.Frag) (mg : Str → Option Value) (base : Heap) (nmC m : Str) (k : Nat) (ps : List Str) (sp : Sp) : Prop where
  ex : ∃ (C : Addr) (mc : Value) (f : Addr) (fd : FuncData), mg nmC = some (.ref C) ∧ ClX.CRead K C mc ∧ ClX.CVal K C mc m (.ref f) (.ref f) ∧ PySem.W.keepIn K (.ref f) = true ∧ Binds K fd ps [] ∧ FnOk P w K mg base (L2.CX P w) k f fd ps sp
section
variable {P : Program} {w : World} {K : PySem.W.Frag} {mg : Str → Option Value} {base : Heap} {name m : Str} {k : Nat} {ps : List Str} {α : Type} {C : Addr} {ns : List Str} {ar : α → List O} {pre : α → Prop}
theorem Mk1E.ok {res : α → List O} {er : α → Option Er} (c : Mk1E P w K mg base name C k ps (SpIE K C ns ar pre res er)) : Mk1 P w K mg base name C k ps (SpI K C ns ar (fun x => pre x ∧ er x = none) res) := by
  obtain ⟨f, fd, hm, hk, hb, F⟩ := c.ex
  exact ⟨f, fd, hm, hk, hb, F.known fun vs H Q E ⟨x, Z, F, l, dx, vs', e, ez, ef, nl, hi, r, ⟨hp, hn⟩, q⟩ => ⟨x, Z, F, l, dx, vs', e, ez, ef, nl, hi, r, hp, fun _ => q, fun e _ _ z => by rw [hn] at z; cases z⟩⟩
theorem Cf1E.ok {s0 s1 : Addr → α → O} {res : α → O} (c : Cf1E P w K mg base name m k ps (SpXE K ar pre s0 s1 res)) : Cf1 P w K mg base name m k ps (SpX K ar (fun x => pre x ∧ ∀ e, res x ≠ .rs e) s0 s1 res) := by
  obtain ⟨C, mc, f, fd, hm, h1, h2, hk, hb, F⟩ := c.ex
  exact ⟨C, mc, f, fd, hm, h1, h2, hk, hb, F.known fun vs H Q E ⟨x, Z, F, l, vs', A, e, ez, ef, nA, fA, rs, r, ⟨hp, hn⟩, q⟩ => ⟨x, Z, F, l, vs', A, e, ez, ef, nA, fA, rs, r, hp, q, fun e _ _ z => absurd z (hn e)⟩⟩
end
section
variable {X : Cx} {ρ : Slots} {e : Expr} {es : List Expr} {pos p0 p1 p2 : Pos} {i : Nat} {xx nm : Str} {C : Addr} {ns all : List Str} {os : List O} {ds : List D} {er : Er}
end
def SpFE {A E R : Type} (K : PySem.W.Frag) (ar : A → List O) (f : A → Option (Xr E R)) (te : E → Er) (er : R → O) : Sp := SpE K (fun x : A × Xr E R => ar x.1) (fun x => f x.1 = some x.2) (fun x => exO te er x.2)
def okx {E R : Type} : Option (Xr E R) → Option R
  | some (.ok r) => some r
  | _ => none
theorem okx_is {E R : Type} {m : Option (Xr E R)} {r : R} (h : okx m = some r) : m = some (.ok r) := by
  cases m with
  | none => cases h
  | some m =>
    cases m with
    | ok x => cases h; rfl
    | er x => cases h
def bdx {E R S : Type} : Option (Xr E R) → (R → Option (Xr E S)) → Option (Xr E S)
  | some (.ok r), k => k r
  | some (.er e), _ => some (.er e)
  | none, _ => none
theorem bdx_some {E R S : Type} {m : Option (Xr E R)} {k : R → Option (Xr E S)} {y : Xr E S} (h : bdx m k = some y) : (∃ e, m = some (.er e) ∧ (some (.er e) : Option (Xr E S)) = some y) ∨ ∃ v, m = some (.ok v) ∧ k v = some y := by
  cases m with
  | none => cases h
  | some m =>
    cases m with
    | ok x => exact .inr ⟨x, rfl, h⟩
    | er x => exact .inl ⟨x, rfl, h⟩
def bdo {E R S V W : Type} : Option (Xr E R) → (R → Option (Ou V W (Xr E S))) → Option (Ou V W (Xr E S))
  | some (.ok r), k => k r
  | some (.er e), _ => some (.rt (.er e))
  | none, _ => none
theorem bdo_some {E R S V W : Type} {m : Option (Xr E R)} {k : R → Option (Ou V W (Xr E S))} {y : Ou V W (Xr E S)} (h : bdo m k = some y) : (∃ e, m = some (.er e) ∧ (some (.rt (.er e)) : Option (Ou V W (Xr E S))) = some y) ∨ ∃ v, m = some (.ok v) ∧ k v = some y := by
  cases m with
  | none => cases h
  | some m =>
    cases m with
    | ok x => exact .inr ⟨x, rfl, h⟩
    | er x => exact .inl ⟨x, rfl, h⟩
theorem exO_nv {E R : Type} {te : E → Er} {er : R → O} (h : ∀ r, (er r).nv = true) : ∀ y : Xr E R, (exO te er y).nv = true ∨ ∃ e, exO te er y = .rs e
  | .ok r => .inl (h r)
  | .er e => .inr ⟨_, rfl⟩
end M
namespace M
open PySem L2 PySem.Spec PyProof.Rows
def tryR {V E R S : Type} : Ou V Unit (Xr E R) → (V → Option S) → (R → Option S) → (E → Option S) → Option S
  | .nx v, k, _, _ => k v
  | .rt (.ok r), _, kr, _ => kr r
  | .rt (.er e), _, _, kx => kx e
  | _, _, _, _ => none
theorem le_none : ∀ ρ : Slots, Le ρ (List.replicate ρ.length none)
  | [] => .nil
  | _ :: ρ => .no (le_none ρ)
theorem le_blank {x : Option O} : ∀ (ρ : Slots) (i : Nat), Le (ρ.set i x) ((List.replicate ρ.length none).set i x)
  | [], _ => .nil
  | _ :: ρ, 0 => .eq (le_none ρ)
  | _ :: ρ, i + 1 => .no (le_blank ρ i)
section
variable {X : Cx} {ρ : Slots} {G : Go}
end
section
variable {X : Cx} {ρ : Slots} {a C E : Addr} {oe : Obj} {pn : List (Addr × Obj)} {i : Nat} {n nm : Str} {p0 p1 p2 pos : Pos} {b : Bool} {T : String}
end
end M
namespace M
open PySem L2 PySem.Spec PyProof.Rows
section
open PySem.SeqAt
open PySem.AutoSeq1 (wpAny_loadPart')
open PySem.MeetsSeq PySem.MeetsSeq2 PySem.MeetsSeq3
end
section
variable {X : Cx} {pins : List (Addr × Obj)} {σ : L2.St} {H Z : Hp} {s : Shared}
end
section
variable {X : Cx} {ρ : Slots} {a b : Expr} {d : D} {xs : List Str} {pos p1 p2 p3 : Pos} {x : Str}
end
theorem kit_false {K : PySem.W.Frag} {C E : Addr} (h0 : PySem.W.mroIn K C (.ref C) = some true) (h1 : PySem.W.isClsIn K E = true) (h2 : PySem.W.typeIn K (.ref E) = some (.type "type")) (h3 : PySem.W.mroIn K C (.ref E) = some false) : PySem.W.kitOne K (.ref C) (.ref E) = some false := by
  unfold PySem.W.kitOne
  split
  · rename_i h
    have h := eq_of_beq h
    cases h
    rw [h0] at h3
    cases h3
  · have e : PySem.W.kitCls K (.ref C) (.ref E) = if ((PySem.W.clsIn K E).isSome && PySem.W.typeIn K (.ref E) == some (.type "type")) = true then PySem.W.mroIn K C (.ref E) else none := rfl
    rw [e, if_pos, h3]
    rw [h2]
    show ((PySem.W.clsIn K E).isSome && _) = true
    rw [show (PySem.W.clsIn K E).isSome = true from h1]
    decide
theorem kit_ty {K : PySem.W.Frag} {C : Addr} {T : String} {b : Bool} (h1 : PySem.W.kitMeta T = true) (h3 : PySem.W.mroIn K C (.type T) = some b) : PySem.W.kitOne K (.ref C) (.type T) = some b := by
  unfold PySem.W.kitOne
  split
  · rename_i h
    have h := eq_of_beq h
    cases h
  · have e : PySem.W.kitCls K (.ref C) (.type T) = if PySem.W.kitMeta T = true then PySem.W.mroIn K C (.type T) else none := rfl
    rw [e, if_pos h1, h3]
end M
namespace M
open PySem L2 PySem.Spec PyProof.Rows
def ixD : D → Int → Option D
  | .lst ds, k => L2.atI ds k
  | .tup ds, k => L2.atI ds k
  | _, _ => none
section
variable {X : Cx} {ρ : Slots} {a b : Expr} {d y : D} {ds : List D} {k : Int} {pos p0 p1 : Pos} {x z : Str}
theorem me_ixD (h : ixD d k = some y) (ha : ME X ρ a (.fz d)) (hb : ME X ρ b (.fz (.int k))) (hp : PlainIx b := by exact fun _ _ => rfl) : ME X ρ (.Subscript a b pos) (.fz y) := by
  cases d with
  | lst ds => exact me_ixL (MV.l (ME.v ha) (.fz _)) hb h hp
  | tup ds => exact me_ixT (MV.u (ME.v ha) (.fz _)) hb h hp
  | _ => cases h
theorem strs_own {K : PySem.W.Frag} {Z F H : Hp} : ∀ ys : List Str, RepOL K Z F H (ys.map V.str) ((ys.map D.str).map .fz) []
  | [] => .nil
  | y :: ys => .cons (A := []) (B := []) (.fz (.str y)) (strs_own ys)
/-- s.split(z) -/
theorem me_split (hz : (z.length == 0) = false ∧ x.length + 2 ≤ sizeLine) (ha : ME X ρ a (.fz (.str x))) (hb : ME X ρ b (.fz (.str z))) (hs : starEach [b] X.env = [(false, eval b X.env)] := by rfl) (hbase : attributeBase a "split" X.env (eval a X.env) = eval a X.env := by rfl) (hline : (p1.endLine == pos.line) = true := by rfl) :
    ME X ρ (.Call (.Attribute a "split" p1) [b] [] pos) (.lst (((Txt.split x z).map D.str).map .fz)) := .mk fun Z0 F Z σ H s Q qq =>
  PE_w (pe_split pe_w pe_w hs hbase hline) (ha.run Z0 F Z σ H s _ fun v Z1 H1 A1 g1 r1 n1 => by
    cases r1 with
    | fz r1 =>
      cases r1
      refine ⟨⟨_, rfl⟩, hb.run Z0 F Z1 σ H1 (s.grow g1) _ fun v Z2 H2 A2 g2 r2 n2 => ?_⟩
      cases r2 with
      | fz r2 =>
        cases r2
        refine ⟨x, z, rfl, rfl, hz.1, hz.2, fun p hp => ?_⟩
        have g3 := g1.trans g2
        exact qq _ Z2 _ [p] (g3.trans (Gr.new g2.zh hp)) (.lst upd_same (strs_own _)) (new_one (g3.hh.free hp) (g2.zh.free hp)))
end
end M
namespace M
open PySem L2 PySem.Spec PyProof.Rows
section
variable {X : Cx} {ρ : Slots} {a b c : Expr} {o : O} {os : List O} {sts : List Stmt} {G : Go} {k : Bool} {pos : Pos} {x : Str} {i j : Nat} {l : Addr}
end
end M
namespace M
open PySem L2 PySem.Spec PyProof.Rows
section
variable {X : Cx}
variable {ρ : Slots} {a : Expr} {α : Type}
end
def rCatS (K : PySem.W.Frag) : R2 := fun x y H Q => ∃ (l b : Addr) (xs zs : List V), x = .ref l ∧ y = .ref b ∧ SqL K H l xs ∧ SqL K H b zs ∧ xs.length + zs.length ≤ sizeLine ∧ ∀ p, H p = none → Q (.ref p) (upd H p (.lst (xs ++ zs)))
section
variable {X : Cx}
theorem op_catS : OpR X (binaryOp .Add) (rCatS X.K) := by
  intro pins s σ H x y v u Q I rx ry h
  obtain ⟨l, b, xs, zs, rfl, rfl, hl, hb, hz, q⟩ := h
  cases rx
  cases ry
  obtain ⟨its, r, ⟨⟨cls, dd, data, sl⟩, n, ho, hc, hdn, hd⟩, h1⟩ := I.list hl
  obtain ⟨its2, r2, ⟨⟨cls2, dd2, data2, sl2⟩, n2, ho2, hc2, hdn2, hd2⟩, h2⟩ := I.list hb
  simp only at hc hd hc2 hd2
  subst hc hd hc2 hd2
  have e1 := r.length
  have e2 := r2.length
  have ea : its.toArray ++ its2.toArray = (its ++ its2).toArray := by simp
  refine concat_meets ⟨_, ho, rfl⟩ ⟨_, ho2, rfl⟩ noFill_list_add seq_list_add PySem.F.slot_list_add PySem.F.entry_list_add (PySem.F.args_list_add_2 _ _) (list_addW l b its.toArray its2.toArray n n2 dd dd2 sl sl2 (by rw [List.size_toArray, List.size_toArray]; omega)) ⟨ho, ho2, ?_⟩
  rw [ea]
  exact ⟨.ref _, _, I.lnew (t' := s.toks) (r.append r2) (by rw [List.length_append]; omega), rfl, q _ I.fresh⟩
variable {ρ : Slots} {a b : Expr} {α : Type} {pos : Pos}
theorem me_catMM {xs ys : List α} {enc : α → D} (hl : xs.length + ys.length ≤ sizeLine) (ha : ML X ρ a (xs.map enc)) (hb : ML X ρ b (ys.map enc)) : ME X ρ (.BinOp a .Add b pos) (.lst (((xs ++ ys).map enc).map .fz)) := .mk fun Z0 F Z σ H s Q q =>
  PE_w (pe_op op_catS pe_w pe_w) (ha.run Z0 F Z σ H s _ fun l vs Z1 H1 g1 l1 r1 => hb.run Z0 F Z1 σ H1 (s.grow g1) _ fun l2 us Z2 H2 g2 l2' r2 => by
    have g := g1.trans g2
    have e1 := r1.length
    have e2 := r2.length
    rw [List.length_map] at e1 e2
    refine ⟨l, l2, vs, us, rfl, rfl, ex_l g2.hh l1, l2', by omega, fun p hp => ?_⟩
    rw [List.map_append] at q
    exact q _ Z2 _ [p] (g.trans (Gr.new g.zh hp)) (.lst upd_same ((r1.mono g2.zz).append r2).own) (new_one (g.hh.free hp) (g.zh.free hp)))
end
end M
namespace M
open PySem L2 PySem.Spec PyProof.Rows
section
variable {X : Cx} {ρ : Slots} {e : Expr} {d d' : D}
theorem MV.as (h : MV X ρ e (.fz d)) (q : d = d') : MV X ρ e (.fz d') := q ▸ h
theorem ME.as (h : ME X ρ e (.fz d)) (q : d = d') : ME X ρ e (.fz d') := q ▸ h
end
section
variable {X : Cx} {ρ : Slots} {e f : Expr} {pos dpos apos cpos : Pos} {s : Str} {d : Int} {keys : List (Option Expr)} {values : List Expr} {kvs : List (Str × Int)}
end
theorem fn_vac {A R : Type} {P : Program} {w : World} {K : PySem.W.Frag} {mg : Str → Option Value} {base : Heap} {CX : CXT} {k : Nat} {f : Addr} {fd : FuncData} {ps : List Str} {ar : A → List O} {g : A → Option R} {er : R → O} (h : ∀ x, g x = none) : FnOk P w K mg base CX k f fd ps (SpF K ar g er) :=
  ⟨fun vs H Q E z => (by
      obtain ⟨x, _, _, _, hp, _⟩ := z
      have hp : g x.1 = some x.2 := hp
      rw [h] at hp; cases hp), fun A outer s H args us vs Q E hr he hb hv z => (by
      obtain ⟨x, _, _, _, hp, _⟩ := z
      have hp : g x.1 = some x.2 := hp
      rw [h] at hp; cases hp)⟩
theorem fn_vacE {A R E' : Type} {P : Program} {w : World} {K : PySem.W.Frag} {mg : Str → Option Value} {base : Heap} {CX : CXT} {k : Nat} {f : Addr} {fd : FuncData} {ps : List Str} {ar : A → List O} {g : A → Option (Xr E' R)} {te : E' → Er} {er : R → O} (h : ∀ x, g x = none) : FnOk P w K mg base CX k f fd ps (SpFE K ar g te er) :=
  ⟨fun vs H Q E z => (by
      obtain ⟨x, _, _, _, hp, _⟩ := z
      have hp : g x.1 = some x.2 := hp
      rw [h] at hp; cases hp), fun A outer s H args us vs Q E hr he hb hv z => (by
      obtain ⟨x, _, _, _, hp, _⟩ := z
      have hp : g x.1 = some x.2 := hp
      rw [h] at hp; cases hp)⟩
end M
namespace M
open PySem L2 PySem.Spec PyProof.Rows
section
variable {X : Cx} {ρ : Slots} {a b : Expr} {o2 : O} {d : D} {ds : List D} {pos : Pos}
variable {α : Type} {enc : α → D} {xs : List α}
end
end M
namespace M
open PySem L2 PySem.Spec PyProof.Rows
section
variable {X : Cx} {ρ : Slots} {G : Go}
theorem m_tryK {body : List Stmt} {h0 : ExceptHandler} {hs : List ExceptHandler} {pos : Pos} (hb : MS X ρ body G) (hX : X.nox = X := by rfl) : MS1 X ρ (.Try body (h0 :: hs) [] [] pos) G := .mk fun Z0 F Z σ H D s g =>
  PS_w (ps_try_thru0 (t := wS X body) (by rw [hX]; exact pss_w)) (hb.run Z0 F Z σ H D s g)
end
section
variable {X : Cx} {ρ : Slots} {e : Expr} {pos dpos : Pos} {s v : Str} {keys : List (Option Expr)} {values : List Expr} {kvs : List (Str × Str)}
end
section
variable {X : Cx} {ρ : Slots} {e : Expr} {pos dpos : Pos} {s : Str} {v : Int} {keys : List (Option Expr)} {values : List Expr} {kvs : List (Str × Int)}
end
end M
namespace M
open PySem L2 PySem.Spec PyProof.Rows
section
variable {K : PySem.W.Frag} {Z F H : Hp}
mutual
theorem RepK.rep (e : Ex Z H) (f : Ex F H) : ∀ {v : V} {o : O}, RepK K Z F v o → Rep K H v o.frz
  | _, _, .fz h => h.mono e
  | _, _, .vw h r => .lst (ex_l f h) (r.mono e)
  | _, _, .vwa h r => .lst (ex_l f h) (r.mono e)
  | _, .lk o, .lk h => RepK.rep (o := o) e f h
  | _, _, .lst h r => .lst (SqL.of (f _ _ h)) (RepKL.rep e f r)
  | _, _, .tup h r => .tup (f _ _ h) (RepKL.rep e f r)
  | _, _, .ins h r => .ins (f _ _ h) (RepKL.rep e f r)
  | _, .loc _ o, .loc h => RepK.rep (o := o) e f h
  | _, _, .pt => .opq _
  | _, _, .at h r => .ins (f _ _ h) (RepKL.rep e f r)
  | _, _, .dct h r => .dct (f _ _ h) (RepKL.rep e f r)
  | _, _, .dctT h r => .dctT (f _ _ h) (RepKL.rep e f r)
theorem RepKL.rep (e : Ex Z H) (f : Ex F H) : ∀ {vs : List V} {os : List O}, RepKL K Z F vs os → RepL K H vs (O.frzL os)
  | _, _, .nil => .nil
  | _, _, .cons h r => .cons (RepK.rep e f h) (RepKL.rep e f r)
end
mutual
theorem RepO.rep (e : Ex Z H) (f : Ex F H) : ∀ {v : V} {o : O} {A : List Addr}, RepO K Z F H v o A → Rep K H v o.frz
  | _, _, _, .fz h => h.mono e
  | _, _, _, .vw h r => .lst (ex_l f h) (r.mono e)
  | _, _, _, .vwa h r => .lst (ex_l f h) (r.mono e)
  | _, .lk o, _, .lk h => RepK.rep (o := o) e f h
  | _, _, _, .lst h r => .lst (SqL.of h) (RepOL.rep e f r)
  | _, _, _, .tup h r => .tup h (RepOL.rep e f r)
  | _, _, _, .ins h r => .ins h (RepOL.rep e f r)
  | _, .loc _ o, _, .loc h => RepO.rep (o := o) e f h
  | _, _, _, .pt => .opq _
  | _, _, _, .at h r => .ins h (RepOL.rep e f r)
  | _, _, _, .dct h r => .dct h (RepOL.rep e f r)
  | _, _, _, .dctT h r => .dctT h (RepOL.rep e f r)
theorem RepOL.rep (e : Ex Z H) (f : Ex F H) : ∀ {vs : List V} {os : List O} {A : List Addr}, RepOL K Z F H vs os A → RepL K H vs (O.frzL os)
  | _, _, _, .nil => .nil
  | _, _, _, .cons h r => .cons (RepO.rep e f h) (RepOL.rep e f r)
end
end
/-- an expression that tells a thing, which is d now -/
structure MD (X : Cx) (ρ : Slots) (e : Expr) (d : D) : Prop where
  run : ∀ (Z0 F Z : Hp) (σ : L2.St) (H : Hp), StR X.K ρ Z0 F Z σ H → ∀ Q : VK, (∀ v Z' H', Gr Z H Z' H' → Rep X.K H' v d → Q v H') → wE X e σ H Q
section
variable {κ : Type} [DecidableEq κ] {β γ : Type}
/-- tables alike: entry by entry -/
def Tb (P : β → γ → Prop) : List (κ × β) → List (κ × γ) → Prop
  | [], [] => True
  | p :: r, q :: t => p.1 = q.1 ∧ P p.2 q.2 ∧ Tb P r t
  | _, _ => False
end
theorem RepL.tb {K : PySem.W.Frag} {Z : Hp} {κ : Type} [DecidableEq κ] : ∀ {m : List (κ × D)} {vs : List V}, RepL K Z vs (m.map (·.2)) → Tb (fun d v => Rep K Z v d) m ((m.map (·.1)).zip vs)
  | [], _, .nil => trivial
  | p :: r, _, .cons h t => ⟨rfl, h, RepL.tb t⟩
section
variable {X : Cx} {ρ : Slots} {R : O → Slots} {e e1 e2 f o a : Expr} {es : List Expr} {d y : D} {ds vs : List D} {pos p1 p2 p3 apos cpos : Pos} {C : Addr} {ns : List Str} {nm : Str} {oo : O} {G : Go}
theorem MV.now (h : MV X ρ e oo) : MD X ρ e oo.frz := .mk fun Z0 F Z σ H s Q q => h.run Z0 F Z σ H s Q fun v Z' H' A g r => q v Z' H' g (r.rep g.zh (s.gr.hh.trans g.hh))
end
end M
namespace M
open PySem L2 PySem.Spec PyProof.Rows
section
variable {X : Cx} {pins : List (Addr × Obj)} {σ : L2.St} {H : Hp} {s : Shared} {a b : Addr} {r : Value} {d : V} {k : List Key} {A : Around} {E : Value → Shared → Prop}
end
section
variable {κ : Type} [DecidableEq κ] {β : Type}
end
section
variable {X : Cx} {ρ ρ' : Slots} {R R' : O → Slots} {e a f call : Expr} {d y : D} {ds : List D} {pos p1 p2 p3 apos cpos dpos : Pos} {i : Nat} {st : Stmt} {sts : List Stmt} {G : Go} {oo o' : O} {nm : Str}
end
end M
namespace M
open PySem L2 PySem.Spec PyProof.Rows
section
variable {X : Cx} {ρ ρ' : Slots} {R R' : O → Slots} {e a b f call : Expr} {es : List Expr} {d y : D} {ds : List D} {pos p0 p1 p2 p3 apos cpos dpos : Pos} {i j : Nat} {st : Stmt} {sts : List Stmt} {G : Go} {oo o o' : O} {nm : Str} {C : Addr} {ns : List Str} {os : List O} {k : Int}
end
class Nv (o : O) : Prop where
  nv : o.nv = true
instance {d : D} : Nv (.fz d) := ⟨rfl⟩
instance {ds : List D} : Nv (.lst (ds.map .fz)) := ⟨O.nvL_fz ds⟩
instance {a : Addr} {o : O} [h : Nv o] : Nv (.loc a o) := ⟨h.nv⟩
instance {a : Addr} : Nv (.pt a) := ⟨rfl⟩
class NvL (os : List O) : Prop where
  nv : O.nvL os = true
instance : NvL [] := ⟨rfl⟩
instance {o : O} {os : List O} [h : Nv o] [t : NvL os] : NvL (o :: os) := ⟨by show (o.nv && O.nvL os) = true; rw [h.nv, t.nv]; rfl⟩
instance (priority := low) {β : Type} {g : β → O} {xs : List β} [h : ∀ x, Nv (g x)] : NvL (xs.map g) := ⟨by
  induction xs with
  | nil => rfl
  | cons x r ih => show ((g x).nv && O.nvL (r.map g)) = true; rw [(h x).nv, ih]; rfl⟩
instance {os : List O} [h : NvL os] : Nv (.lst os) := ⟨h.nv⟩
instance {os : List O} [h : NvL os] : Nv (.tup os) := ⟨h.nv⟩
instance {C : Addr} {ns : List Str} {os : List O} [h : NvL os] : Nv (.ins C ns os) := ⟨h.nv⟩
instance {ks : List Key} {os : List O} [h : NvL os] : Nv (.dct ks os) := ⟨h.nv⟩
instance {ks : List (List Key)} {os : List O} [h : NvL os] : Nv (.dctT ks os) := ⟨h.nv⟩
instance {a C : Addr} {ns : List Str} {os : List O} [h : NvL os] : Nv (.at a C ns os) := ⟨h.nv⟩
theorem Nv.is (o : O) [h : Nv o] : o.nv = true := h.nv
end M
namespace M
open PySem L2 PySem.Spec PyProof.Rows
section
variable {β : Type}
end
section
variable {X : Cx} {ρ ρ' : Slots} {R R' : O → Slots} {e a b f call o : Expr} {es : List Expr} {d y dk : D} {ds : List D} {pos p0 p1 p2 p3 p4 apos cpos dpos : Pos} {i j : Nat} {st : Stmt} {sts : List Stmt} {G : Go} {oo o' : O} {nm : Str} {C : Addr} {ns : List Str} {os : List O} {β : Type} {g : β → O} {enc : β → D} {k : Key} {ks : List Key} {y0 y1 : β}
end
section
variable {K : PySem.W.Frag} {Z0 F Z Z' H H' : Hp} {σ : L2.St} {T A B : List Addr} {v : V} {o o' : O} {R : O → Slots}
theorem FocA.step (f : FocA K F Z Z0 σ H T v o R A) (ez : Ex Z Z') (nz : ∀ a, Kept F T A a → Z' a = Z a) (zh : Ex Z' H') (k : ∀ a, Kept F T A a → ∀ u, H a = some u → H' a = some u) (th : ∀ a ∈ A, ∃ u, H' a = some u) (fh : Ex F H') (r : RepO K Z' F H' v o' B) (n : B.Nodup) (d : ∀ a ∈ B, (a ∈ A ∨ a ∉ T ∧ F a = none) ∧ Z' a = none) : FocA K F Z' Z0 σ H' (T ++ B) v o' R B := by
  have nB : ∀ a, Kept F T A a → a ∉ B := fun a ka m => by
    rcases (d a m).1 with z | z
    · exact ka.1 z
    · rcases ka.2 with y | ⟨u, y⟩
      · exact z.1 y
      · rw [z.2] at y; cases y
  have kB : ∀ a, Kept F T A a → Kept F (T ++ B) B a := fun a ka => ⟨nB a ka, ka.2.imp (List.mem_append_left _) id⟩
  refine ⟨r, n, fun a m => ⟨List.mem_append_right _ m, (d a m).2, ?_⟩, fun a m => ?_, fh, fun {Z2 H2 w o2 p B2} ez2 nz2 zh2 k2 r2 n2 d2 => ?_⟩
  · rcases (d a m).1 with z | z
    · exact (f.ds a z).2.2
    · exact z.2
  · rcases List.mem_append.mp m with m | m
    · by_cases ma : a ∈ A
      · exact th a ma
      · obtain ⟨u, e⟩ := f.th a m
        exact ⟨u, k a ⟨ma, .inl m⟩ u e⟩
    · exact r.there a m
  · refine f.k (ez.trans ez2) (fun a ka => (nz2 a (kB a ka)).trans (nz a ka)) zh2 (fun a ka u e => k2 a (kB a ka) u (k a ka u e)) r2 n2 fun a m => ⟨?_, (d2 a m).2⟩
    rcases (d2 a m).1 with z | z
    · exact (d a z).1
    · exact .inr ⟨fun y => z.1 (List.mem_append_left _ y), z.2⟩
end
section
variable {κ : Type} [DecidableEq κ] {β : Type}
end
end M
namespace M
open PySem L2 PySem.Spec PyProof.Rows
section
variable {κ : Type} [DecidableEq κ] {β γ : Type}
end
structure FQ (X : Cx) (ρ : Slots) (o : O) (R : O → Slots) : Prop where
  run : ∀ (Z0 F Z : Hp) (σ : L2.St) (H : Hp) (T : List Addr), StA X.K ρ Z0 F Z σ H T → ∃ v, Foc X.K Z0 F Z σ H T v o R
section
variable {X : Cx} {ρ ρ' : Slots} {R R' : O → Slots} {e a f : Expr} {d dk : D} {ds : List D} {pos p0 p1 p2 p3 apos cpos dpos : Pos} {i j : Nat} {st : Stmt} {sts : List Stmt} {G : Go} {oo o o' : O} {nm : Str} {C l b : Addr} {ns : List Str} {os : List O} {β : Type} {g : β → O} {k : Key} {ks : List Key} {y0 : β}
theorem FQ.loc (h : FQ X ρ (.loc l o) R) : FQ X ρ o (fun o' => R (.loc l o')) := .mk fun Z0 F Z σ H T s => by
  obtain ⟨v, f⟩ := h.run Z0 F Z σ H T s
  exact ⟨v, f.unloc.2⟩
theorem FQ.fld (h : FQ X ρ (.ins C ns os) R) (hd : os[j]? = some o) : FQ X ρ o (fun o' => R (.ins C ns (os.set j o'))) := .mk fun Z0 F Z σ H T s => by
  obtain ⟨v, A, f⟩ := h.run Z0 F Z σ H T s
  obtain ⟨_, _, _, v', _, _, _, _, f'⟩ := f.down hm_ins hd
  exact ⟨v', f'⟩
theorem FQ.it (h : FQ X ρ (.lst os) R) (hd : os[j]? = some o) : FQ X ρ o (fun o' => R (.lst (os.set j o'))) := .mk fun Z0 F Z σ H T s => by
  obtain ⟨v, A, f⟩ := h.run Z0 F Z σ H T s
  obtain ⟨_, _, _, v', _, _, _, _, f'⟩ := f.down hm_lst hd
  exact ⟨v', f'⟩
theorem FocA.same {K : PySem.W.Frag} {Z0 F Z H : Hp} {σ : L2.St} {T A : List Addr} {v : V} (f : FocA K F Z Z0 σ H T v o R A) (zh : Ex Z H) (hw : RepO K Z F H v o' A) : StR K (R o') Z0 F Z σ H :=
  f.chg (Ex.refl _) (fun _ _ => rfl) zh (fun _ _ _ e => e) hw f.nd fun a m => ⟨.inl m, (f.ds a m).2.1⟩
end
end M
namespace L2
open PySem PySem.Spec PyProof.Rows
section
variable {X : Cx} {pins : List (Addr × Obj)} {σ : St} {H : Hp} {s : Shared} {d : Addr} {o : Obj}
end
end L2
namespace M
open PySem L2 PySem.Spec PyProof.Rows
mutual
def O.nt : O → Bool
  | .lst os => O.ntL os
  | .tup _ => false
  | .ins _ _ os => O.ntL os
  | .at _ _ _ os => O.ntL os
  | .loc _ o => o.nt
  | .dct _ os => O.ntL os
  | .dctT _ os => O.ntL os
  | _ => true
def O.ntL : List O → Bool
  | [] => true
  | o :: r => o.nt && O.ntL r
end
section
variable {K : PySem.W.Frag} {Z F H : Hp}
mutual
theorem RepO.nt : ∀ {v : V} {o : O} {A : List Addr}, RepO K Z F H v o A → o.nt = true → ∀ a ∈ A, ∀ xs, H a ≠ some (.tup xs)
  | _, _, _, .fz _, _, _, m => nomatch m
  | _, _, _, .vw _ _, _, _, m => nomatch m
  | _, _, _, .vwa _ _, _, _, m => nomatch m
  | _, _, _, .lk _, _, _, m => nomatch m
  | _, _, _, .pt, _, _, m => nomatch m
  | _, _, _, .tup _ _, n, _, _ => nomatch n
  | _, .loc _ o, _, .loc h, n, a, m => RepO.nt (o := o) h n a m
  | _, _, _, .lst h r, n, a, m => (List.mem_cons.mp m).elim (fun e xs z => by rw [e, h] at z; cases z) fun m => RepOL.nt r n a m
  | _, _, _, .ins h r, n, a, m => (List.mem_cons.mp m).elim (fun e xs z => by rw [e, h] at z; cases z) fun m => RepOL.nt r n a m
  | _, _, _, .at h r, n, a, m => (List.mem_cons.mp m).elim (fun e xs z => by rw [e, h] at z; cases z) fun m => RepOL.nt r n a m
  | _, _, _, .dct h r, n, a, m => (List.mem_cons.mp m).elim (fun e xs z => by rw [e, h] at z; cases z) fun m => RepOL.nt r n a m
  | _, _, _, .dctT h r, n, a, m => (List.mem_cons.mp m).elim (fun e xs z => by rw [e, h] at z; cases z) fun m => RepOL.nt r n a m
theorem RepOL.nt : ∀ {vs : List V} {os : List O} {A : List Addr}, RepOL K Z F H vs os A → O.ntL os = true → ∀ a ∈ A, ∀ xs, H a ≠ some (.tup xs)
  | _, _, _, .nil, _, _, m => nomatch m
  | _, _, _, .cons h r, n, a, m => (List.mem_append.mp m).elim (fun m => RepO.nt h (Bool.and_eq_true_iff.mp n).1 a m) fun m => RepOL.nt r (Bool.and_eq_true_iff.mp n).2 a m
end
theorem StL.nt : ∀ {ρ : Slots} {σ : L2.St} {A : List Addr}, StL K Z F H ρ σ A → (∀ o, some o ∈ ρ → o.nt = true) → ∀ a ∈ A, ∀ xs, H a ≠ some (.tup xs)
  | _, _, _, .nil, _, _, m => nomatch m
  | _, _, _, .no h, n, a, m => h.nt (fun o z => n o (List.mem_cons_of_mem _ z)) a m
  | _, _, _, .so r h, n, a, m => (List.mem_append.mp m).elim (fun m => r.nt (n _ List.mem_cons_self) a m) fun m => h.nt (fun o z => n o (List.mem_cons_of_mem _ z)) a m
end
class Nt (o : O) : Prop where
  nt : o.nt = true
class NtL (os : List O) : Prop where
  nt : O.ntL os = true
instance {d : D} : Nt (.fz d) := ⟨rfl⟩
instance {o : O} : Nt (.lk o) := ⟨rfl⟩
instance {ds : List D} : Nt (.vw ds) := ⟨rfl⟩
instance {a : Addr} {ds : List D} : Nt (.vwa a ds) := ⟨rfl⟩
instance {a : Addr} : Nt (.pt a) := ⟨rfl⟩
instance {a : Addr} {o : O} [h : Nt o] : Nt (.loc a o) := ⟨h.nt⟩
instance : NtL [] := ⟨rfl⟩
instance {o : O} {os : List O} [h : Nt o] [t : NtL os] : NtL (o :: os) := ⟨by show (o.nt && O.ntL os) = true; rw [h.nt, t.nt]; rfl⟩
instance (priority := low) {β : Type} {g : β → O} {xs : List β} [h : ∀ x, Nt (g x)] : NtL (xs.map g) := ⟨by
  induction xs with
  | nil => rfl
  | cons x r ih => show ((g x).nt && O.ntL (r.map g)) = true; rw [(h x).nt, ih]; rfl⟩
instance {os : List O} [h : NtL os] : Nt (.lst os) := ⟨h.nt⟩
instance {C : Addr} {ns : List Str} {os : List O} [h : NtL os] : Nt (.ins C ns os) := ⟨h.nt⟩
instance {a C : Addr} {ns : List Str} {os : List O} [h : NtL os] : Nt (.at a C ns os) := ⟨h.nt⟩
instance {ks : List Key} {os : List O} [h : NtL os] : Nt (.dct ks os) := ⟨h.nt⟩
instance {ks : List (List Key)} {os : List O} [h : NtL os] : Nt (.dctT ks os) := ⟨h.nt⟩
class NtS (ρ : Slots) : Prop where
  nt : ∀ o, some o ∈ ρ → o.nt = true
instance : NtS [] := ⟨fun _ m => nomatch m⟩
instance {ρ : Slots} [t : NtS ρ] : NtS (none :: ρ) := ⟨fun o m => (List.mem_cons.mp m).elim (fun z => nomatch z) (t.nt o)⟩
instance {o : O} {ρ : Slots} [h : Nt o] [t : NtS ρ] : NtS (some o :: ρ) := ⟨fun o m => (List.mem_cons.mp m).elim (fun z => by cases z; exact h.nt) (t.nt o)⟩
section
variable {K : PySem.W.Frag} {Z0 F Z H : Hp} {ρ τ : Slots} {σ : L2.St} {i : Nat} {l d : Addr} {o : O} {u lu : HO} {qs : List Addr}
def lkF (F H : Hp) (B qs : List Addr) (d : Addr) (lu : HO) : Hp := fun a => if a = d then some lu else if a ∈ B ∨ a ∈ qs then H a else F a
theorem lkF_d {B : List Addr} : lkF F H B qs d lu d = some lu := if_pos rfl
theorem lkF_in {B : List Addr} {a : Addr} (h : a ≠ d) (m : a ∈ B ∨ a ∈ qs) : lkF F H B qs d lu a = H a := by unfold lkF; rw [if_neg h, if_pos m]
theorem lkF_out {B : List Addr} {a : Addr} (h : a ≠ d) (m : ¬ (a ∈ B ∨ a ∈ qs)) : lkF F H B qs d lu a = F a := by unfold lkF; rw [if_neg h, if_neg m]
theorem locked (s : StR K ρ Z0 F Z σ H) (hi : ρ[i]? = some (some (.loc l o))) (nt : ∀ o, some o ∈ ρ → o.nt = true) : σ[i]? = some (some (.ref l)) ∧ ∃ B, RepO K Z F H (.ref l) o B ∧ B.Nodup ∧ (∀ a ∈ B, Z a = none ∧ F a = none) ∧
    ∀ {d : Addr} {u lu : HO} {qs : List Addr}, d ∈ B → H d = some u → (∀ q ∈ qs, ∃ xs, H q = some (.tup xs)) →
      Ex F (lkF F H B qs d lu) ∧ StR K (ρ.set i (some (.pt l))) Z (lkF F H B qs d lu) Z σ (upd H d lu) ∧
      ∀ {τ : Slots} {Zn Hn : Hp} {σn : L2.St}, StR K τ Z (lkF F H B qs d lu) Zn σn Hn → τ[i]? = some (some (.pt l)) → Kp (ρ.set i (some (.pt l))) τ → o.nv = true → StR K (τ.set i (some (.loc l o))) Z0 F Zn σn (upd Hn d u) := by
  obtain ⟨A, h1, h2, h3⟩ := s.st
  obtain ⟨v, B, q1, q2, q3, q4, q5⟩ := h1.at hi h2
  have ev : v = .ref l := by cases q2 with | loc _ => rfl
  subst ev
  have r0 : RepO K Z F H (.ref l) o B := by cases q2 with | loc r => exact r
  refine ⟨q1, B, r0, q3, fun a m => h3 a (q4 a m), fun {d u lu qs} hd hu hq => ?_⟩
  generalize eF : lkF F H B qs d lu = F1
  have zd : Z d = none := (h3 d (q4 d hd)).1
  have fd : F d = none := (h3 d (q4 d hd)).2
  have F1d : F1 d = some lu := by rw [← eF]; exact lkF_d
  have F1i : ∀ a, a ≠ d → (a ∈ B ∨ a ∈ qs) → F1 a = H a := fun a n m => by rw [← eF]; exact lkF_in n m
  have F1o : ∀ a, a ≠ d → ¬ (a ∈ B ∨ a ∈ qs) → F1 a = F a := fun a n m => by rw [← eF]; exact lkF_out n m
  have ef : Ex F F1 := fun a w e => by
    have n : a ≠ d := fun z => by rw [z, fd] at e; cases e
    by_cases m : a ∈ B ∨ a ∈ qs
    · rw [F1i a n m]; exact s.gr.hh a w e
    · rw [F1o a n m]; exact e
  have eh : Ex F1 (upd H d lu) := fun a w e => by
    by_cases n : a = d
    · subst n
      rw [F1d] at e
      rw [upd_same]; exact e
    · rw [upd_ne n]
      by_cases m : a ∈ B ∨ a ∈ qs
      · rw [F1i a n m] at e; exact e
      · rw [F1o a n m] at e; exact s.gr.hh a w e
  have zh : Ex Z (upd H d lu) := fun a w e => by
    rw [upd_ne fun z => by rw [z, zd] at e; cases e]
    exact s.gr.zh a w e
  obtain ⟨A', t1, t2, t3⟩ := q5 (Z' := Z) (H' := upd H d lu) (v' := .ref l) (o' := .pt l) (B' := []) (Ex.refl _) (fun a m nb w e => by
    rw [upd_ne (show a ≠ d from fun z => nb (by rw [z]; exact hd))]; exact e) .pt List.nodup_nil fun _ m => nomatch m
  rw [set_same q1] at t1
  have ntA : ∀ a ∈ A, ∀ xs, H a ≠ some (.tup xs) := h1.nt nt
  have F1A : ∀ a ∈ A, a ∉ B → F1 a = none := fun a m nb => by
    have n : a ≠ d := fun z => nb (by rw [z]; exact hd)
    have nm : ¬ (a ∈ B ∨ a ∈ qs) := fun z => z.elim nb fun z => by
      obtain ⟨xs, e⟩ := hq a z
      exact ntA a m xs e
    rw [F1o a n nm]; exact (h3 a m).2
  refine ⟨ef, ⟨⟨Ex.refl _, eh, zh, fun _ _ _ => rfl⟩, A', t1.monoF ef, t2, fun a m => ?_⟩, fun {τ Zn Hn σn} sn hp hk hv => ?_⟩
  · rcases t3 a m with z | z
    · exact ⟨(h3 a z.1).1, F1A a z.1 z.2⟩
    · exact nomatch z
  · obtain ⟨An, l1, l2, l3⟩ := sn.st
    obtain ⟨w, Bn, u1, u2, u3, u4, u5⟩ := l1.at hp l2
    have ew : w = .ref l := by cases u2; rfl
    subst ew
    have nd : ∀ a ∈ An, a ≠ d := fun a m z => by rw [z] at m; rw [(l3 d m).2] at F1d; cases F1d
    have HnB : ∀ a ∈ B, a ≠ d → Hn a = H a := fun a m n => by
      obtain ⟨w, e⟩ := r0.there a m
      rw [e]
      exact sn.gr.hh a w (by rw [F1i a n (.inl m)]; exact e)
    have rB : RepO K Zn F (upd Hn d u) (.ref l) (.loc l o) B := .loc (r0.mono sn.gr.zz (Ex.refl _) fun a m w e => by
      by_cases n : a = d
      · subst n
        rw [hu] at e
        rw [upd_same]; exact e
      · rw [upd_ne n, HnB a m n]; exact e)
    have ZnB : ∀ a ∈ B, Zn a = none := fun a m => by
      have : ∃ w, F1 a = some w := by
        by_cases n : a = d
        · exact ⟨_, by rw [n]; exact F1d⟩
        · obtain ⟨w, e⟩ := r0.there a m
          exact ⟨w, by rw [F1i a n (.inl m)]; exact e⟩
      obtain ⟨w, e⟩ := this
      rw [sn.gr.nw a w e]
      exact (h3 a (q4 a m)).1
    have l1' : StL K Zn F1 (upd Hn d u) τ σn An := l1.mono (Ex.refl _) fun a m w e => by rw [upd_ne (nd a m)]; exact e
    have l2' : StL K Zn F (upd Hn d u) τ σn An := StL.kp ef sn.gr.zz hk t1 (by
      exact l1')
    obtain ⟨w2, Bn2, y1, y2, y3, y4, y5⟩ := l2'.at hp l2
    have eB2 : Bn2 = [] := by cases y2; rfl
    subst eB2
    have BA : ∀ a ∈ B, a ∉ An := fun a m z => by
      have := (l3 a z).2
      by_cases n : a = d
      · rw [n, F1d] at this; cases this
      · obtain ⟨w, e⟩ := r0.there a m
        rw [F1i a n (.inl m), e] at this; cases this
    obtain ⟨A2, x1, x2, x3⟩ := y5 (Z' := Zn) (H' := upd Hn d u) (v' := .ref l) (o' := .loc l o) (B' := B) (Ex.refl _) (fun _ _ _ _ e => e) rB q3 fun a m z => absurd z (BA a m)
    rw [set_same u1] at x1
    have znd : Zn d = none := ZnB d hd
    refine ⟨⟨s.gr.zz.trans sn.gr.zz, fun a w e => ?_, fun a w e => ?_, fun a w e => (sn.gr.nw a w (ef a w e)).trans (s.gr.nw a w e)⟩, A2, x1, x2, fun a m => ?_⟩
    · rw [upd_ne fun z => by rw [z, fd] at e; cases e]
      exact sn.gr.hh a w (ef a w e)
    · rw [upd_ne fun z => by rw [z, znd] at e; cases e]
      exact sn.gr.zh a w e
    · rcases x3 a m with z | z
      · refine ⟨(l3 a z.1).1, ?_⟩
        have n := nd a z.1
        have := (l3 a z.1).2
        by_cases mm : a ∈ B ∨ a ∈ qs
        · cases e : F a with
          | none => rfl
          | some w =>
            have := ef a w e
            rw [(l3 a z.1).2] at this
            cases this
        · rw [F1o a n mm] at this; exact this
      · exact ⟨ZnB a z, (h3 a (q4 a z)).2⟩
end
end M
namespace M
open PySem L2 PySem.Spec PyProof.Rows
section
variable {X : Cx} {ρ : Slots} {e : Expr} {st : Stmt} {G : Go} {o : O} {pos p0 p1 p2 : Pos} {i i1 i2 j : Nat} {nm x : Str} {C l : Addr} {ns : List Str} {os : List O} {β V : Type} {g : β → O}
end
end M
namespace M
open PySem PySem.Spec PyProof.Rows
/-- each text once, in the order of their first coming -/
def dd1 (σ : List Str) (x : Str) : List Str := if σ.any (· == x) = true then σ else σ ++ [x]
def dd (xs : List Str) : List Str := xs.foldl dd1 []
section
variable {prog : Program} {w : World} {A : Around}
end
end M
namespace M
open PySem L2 PySem.Spec PyProof.Rows
section
variable {X : Cx} {ρ : Slots} {e : Expr} {p p2 q pos : Pos}
end
end M
namespace M
open PySem L2 PySem.Spec PyProof.Rows
section
variable {X : Cx} {ρ ρ' : Slots} {R R' : O → Slots} {e a b c f : Expr} {es : List Expr} {d d1 dk : D} {ds : List D} {pos p0 p1 p2 p3 p4 : Pos} {i j : Nat} {st : Stmt} {sts : List Stmt} {G : Go} {o o' : O} {nm : Str} {C l : Addr} {ns : List Str} {os : List O} {β : Type} {g : β → O} {enc : β → D} {k : Key} {ks : List Key} {y1 : β} {n : Int}
end
end M
namespace M
open PySem L2 PySem.Spec PyProof.Rows
section
variable {X : Cx} {ρ ρ' : Slots} {R R' : O → Slots} {e a b c f : Expr} {es : List Expr} {d d1 dk : D} {ds : List D} {pos p0 p1 p2 p3 p4 : Pos} {i j : Nat} {st : Stmt} {sts : List Stmt} {G : Go} {o o' : O} {nm x : Str} {C l : Addr} {ns : List Str} {os : List O} {β : Type} {g : β → O} {enc : β → D}
end
end M
namespace L2
open PySem PySem.Spec PyProof.Rows
section
variable {X : Cx} {a C fI : Addr} {bmB : List Value} {B newId initId : String} {x : Str} {e : Expr} {es : List Expr} {te ta0 : TE} {ta : TA} {p p1 p2 pos : Pos} {n : Str}
/-- C.__init__(self, ..), C a class of errors of one's own that has ValueError's -/
theorem pe_cinit {C0 : Addr} {mc : Value} {pl : Sem Bool} {xx : Str} (hg : Gl X xx) (hmC : X.mg xx = some (.ref C0)) (r : ClX.CRead X.K C0 mc) (kv : PySem.W.findCls X.K (.ref C0) mc "__init__" = some (.val (.builtin "ValueError.__init__"))) (ha : PA X (e :: es) ta) (hdb : (xx == ("__debug__" : Str)) = false := by decide)
    (he : starEach (e :: es) X.env = (false, eval e X.env) :: starEach es X.env := by rfl) (hpl : (backTo pos (starEach es X.env)).any (·.1) = false := by rfl)
    (ht : eval (.Call (.Attribute (.Name xx p1) "__init__" p2) (e :: es) [] pos) X.env = (do
      let ov ← eval (.Name xx p1) X.env
      standAt p2.atName
      let (f, first) ← holding [ov] (getMethod ov "__init__" pl)
      callWith pos f first (backTo pos (starEach (e :: es) X.env)) (backToKw pos (keywordEach [] X.env))) := by rfl) :
    PE X (.Call (.Attribute (.Name xx p1) "__init__" p2) (e :: es) [] pos) (tVeI X.K ta) := by
  refine ⟨fun pins s σ H Q I h => ?_⟩
  have hN : PE X (.Name xx p1) (tC (.ref C0)) := pe_glob (v := .ref C0) hg hmC rfl hdb
  refine PySem.W.methodCall_KW (pl := pl) (thn (hN.run pins s σ H (fun x H1 => x = .ref C0 ∧ H1 = H) I ⟨rfl, rfl⟩) fun u s1 ⟨x, H1, I1, rx, ex, eH⟩ => ?_) ht
  subst ex eH
  obtain rfl : u = Value.ref C0 := rx
  refine PySem.W.method_cls I1.kIn r.ga (PySem.W.cls_value I1.kIn r.rd kv rfl ?_)
  show wpAny _ _ (callWith pos (Value.builtin "ValueError.__init__") [] (backTo pos (starEach (e :: es) X.env)) []) _ _ _
  refine PyProof.Rows.callWith_method1 (thn (ha.run pos pins _ σ H1 _ (I1.tok _) h) fun us s1 ⟨vs, H2, I2, r1, a, C, ws, ev, hl, T, ea, q⟩ => ?_) he hpl
  subst ev
  cases r1 with
  | @cons _ u0 _ ur ra rw' =>
    obtain rfl : u0 = Value.ref a := ra
    have hlen : ur.length ≤ sizeLine := by
      rw [← Paired.length rw', sizeLine_eq]
      omega
    exact oinit_ok T I2 ea hlen fun s' J => ⟨.non, H2, J, rfl, q⟩
end
end L2
namespace M
open PySem L2 PySem.Spec PyProof.Rows
/-- what an __init__ that keeps one int promises -/
def spI19 (K : PySem.W.Frag) (fld : Str) : Sp := fun vs H Q _ => ∃ (a C : Addr) (i : Int), vs = [.ref a, .int i] ∧ OexC K C ∧ PySem.W.findIn K (.ref C) fld = some none ∧ H a = some (exo a C none) ∧ ∀ dx, H dx = none → dx ≠ a → Q .non (upd (upd H dx (exd dx [(fld, .int i)])) a (exo a C (some dx)))
/-- a class of errors whose __init__ keeps one int -/
structure XiC (P : Program) (w : World) (K : PySem.W.Frag) (mg : Str → Option Value) (base : Heap) (nm : Str) (C : Addr) (fld : Str) (k : Nat) (ps : List Str) : Prop where
  T : OexC K C
  no : PySem.W.findIn K (.ref C) fld = some none
  g : mg nm = some (.ref C)
  ex : ∃ (fI : Addr) (fd : FuncData), PySem.W.findIn K (.ref C) "__init__" = some (some (.ref fI)) ∧ PySem.W.typeIn K (.ref fI) = some (.type "function") ∧ Binds K fd ps [] ∧ FnOk P w K mg base CX0 k fI fd ps (spI19 K fld)
theorem tail_ve : ∀ l : List Value, PySem.W.excTail [.type "ValueError", .type "Exception", .type "BaseException", .type "object"] l = true → PySem.HandSPX.refsVE l = true := fun l => by
  induction l with
  | nil => exact fun h => h
  | cons v r ih =>
    intro h
    cases v <;> first | exact ih h | exact h
theorem oexB_ok {K : PySem.W.Frag} {C : Addr} (q : PySem.W.excInitIn K C [.type "ValueError", .type "Exception", .type "BaseException", .type "object"] "ValueError.__new__" = true) (hd : PySem.W.hasDictIn K C = true) (sa : PySem.W.findIn K (.ref C) "__setattr__" = some (some (.builtin "object.__setattr__"))) (xb : PySem.W.subIn K (.ref C) (.type "BaseException") = some true) (xt : PySem.W.typeIn K (.ref C) = some (.type "type")) (kC : PySem.W.keepIn K (.ref C) = true) : OexC K C := by
  refine ⟨?_, sa, xb, xt, kC⟩
  obtain ⟨cd0, hc0, hd0⟩ := PySem.W.any_some hd
  unfold PySem.W.clsIn at hc0
  unfold PySem.W.excInitIn at q
  split at q
  · rename_i dd cd sl ho
    rw [ho] at hc0
    cases hc0
    split at q
    · rename_i C' bm k0 k1 k2 k3 n k5 hm hs
      simp only [Bool.and_eq_true, beq_iff_eq, Bool.not_eq_true'] at q
      obtain ⟨⟨⟨rfl, rfl⟩, hdel⟩, ht⟩ := q
      obtain ⟨nm, bs, mro, ns, qn, hdc, sn, sub, ab, col, del⟩ := cd0
      dsimp only at hm hdel hd0
      subst hm hdel hd0
      have hsl : sl = #[k0, k1, k2, k3, some (.builtin "ValueError.__new__"), k5] := by
        obtain ⟨l⟩ := sl
        simp only at hs
        rw [hs]
      subst hsl
      exact ⟨nm, qn, ns, bs, bm, sn, sub, ab, col, dd, k0, k1, k2, k3, k5, ho, tail_ve _ ht⟩
    · cases q
  · cases q
section
variable {X : Cx} {ρ : Slots} {C E : Addr} {e : Expr} {o : O} {nm fld n : Str} {f : Option (Str × Int)} {i : Int} {p0 p1 p2 pos : Pos} {b : Bool} {T : String} {k : Nat} {ps : List Str}
theorem ExF.dict {Z H : Hp} {d : Option Addr} (z : Ex Z H) : ∀ {f : Option (Str × Int)}, ExF Z d f → ∀ dd, d = some dd → ∃ fs, H dd = some (exd dd fs)
  | none, h, dd, e => by rw [show d = none from h] at e; cases e
  | some _, ⟨_, h, q⟩, dd, e => by
    rw [h] at e
    cases e
    exact ⟨_, z _ _ q⟩
end
end M
namespace L2
open PySem PySem.Spec PyProof.Rows
section
variable {X : Cx} {a D : Addr} {oe : Obj} {d : Option Addr} {pn : List (Addr × Obj)}
/-- isinstance(e, c), e the error that the suite holds, with its dict -/
def rIsF (K : PySem.W.Frag) (D a : Addr) (d : Option Addr) : List V → Hp → VK → Prop := fun xs H Q => ∃ (c : V) (cv : Value) (b : Bool), xs = [.ref a, c] ∧ (∀ dd, d = some dd → ∃ fs, H dd = some (.xd fs)) ∧ (∀ u, RelV c u → u = cv) ∧ PySem.W.kitOne K (.ref D) cv = some b ∧ Q (.bl b) H
theorem call_isF (C : ExcC X.K D) (hz : Zc (.ref D) d oe) (hf : ∃ vs, oe.data = .fields vs) : CallR (X.suite a ((a, oe) :: pn)) (.builtin "isinstance") (rIsF X.K D a d) := by
  intro pins s σ H xs us Q I r h
  obtain ⟨c, cv, b, rfl, hd, hcv, e, q⟩ := h
  cases r with
  | cons rx rr =>
    cases rr with
    | cons rt rr =>
      cases rr
      cases rx
      have ec := hcv _ rt
      subst ec
      obtain ⟨hget, _⟩ := I.pin (a, oe) (List.mem_append.mpr (.inl List.mem_cons_self))
      obtain ⟨vs, hv⟩ := hf
      have J : ∃ od, PySem.W.InstAt s.heap a oe D od := by
        obtain ⟨oc, oda, odt, osl⟩ := oe
        obtain ⟨h1, h2⟩ := hz
        dsimp only at h1 h2 hv
        subst h1 h2 hv
        cases oda with
        | none => exact ⟨none, hget, rfl, rfl, trivial⟩
        | some dd =>
          obtain ⟨fs, hdd⟩ := hd dd rfl
          have hx : ObjOk X.prog X.w H s.heap dd (.xd fs) := I.hok dd _ hdd
          obtain ⟨mA, ⟨o, _, _, e1, _⟩, _⟩ := hx
          exact ⟨some o, hget, rfl, rfl, e1⟩
      obtain ⟨od, J⟩ := J
      have hcl : (PySem.W.clsIn X.K D).isSome = true := by
        obtain ⟨cd, hc, _⟩ := PySem.W.any_some C.hd
        rw [hc]
        rfl
      exact PySem.W.kia_one (PySem.W.kitx_exc hcl C.hg C.hk C.hs C.ha C.hn C.ht C.hm) I.kIn J e (fun z => nomatch z) fun tk => ⟨.bl b, H, I.kept (t' := tk) fun _ _ z => z, rfl, q⟩
end
end L2
namespace M
open PySem L2 PySem.Spec PyProof.Rows
def fldI (e : Er) : Option (Str × Int) := match e.fld with
  | some (f, .int i) => some (f, i)
  | _ => none
theorem ExH.dict {Z H : Hp} {d : Option Addr} (z : Ex Z H) : ∀ {f : Option (Str × Int)}, ExH Z d f → ∀ dd, d = some dd → ∃ fs, H dd = some (.xd fs)
  | none, h, dd, e => by rw [show d = none from h] at e; cases e
  | some _, ⟨_, h, q⟩, dd, e => by
    rw [h] at e
    cases e
    exact ⟨_, z _ _ q⟩
section
variable {X : Cx} {ρ : Slots} {G : Go}
theorem m_tryF {E R V : Type} {xc n : Str} {C : Addr} {i : Nat} {body suite : List Stmt} {b0 : Stmt} {np pos pos' : Pos} {out : Ou V Unit (Xr E R)} (Rn : V → Slots) (te : E → Er) (er : R → O)
    (hN : X.N.Nodup) (hi : X.N[i]? = some n) (hln : X.env.kindOf n = some .local) (hc : Names X xc (.ref C)) (hne : ∀ r e, er r ≠ .rs e) (hfi : ∀ e f dv, (te e).fld = some (f, dv) → ∃ i : Int, dv = .int i)
    (hb : ∀ (pn : List (Addr × Obj)) (xe : Value → Shared → Prop), PassesOwn (model X.prog X.w) X.A X.env xe → MS (X.tr pn xe) ρ body (goO Rn (fun _ : Unit => []) (exO te er) out))
    (kb : ∀ w, out ≠ .bk w) (kc : ∀ w, out ≠ .ct w) (kr : ∀ r, out = .rt (.ok r) → G.rt (er r))
    (hm : ∀ e, out = .rt (.er e) → PySem.W.exmOne X.K (.ref (te e).C) (.ref C) = some true)
    (hs : ∀ e, out = .rt (.er e) → ∀ (a : Addr) (oe : Obj) (d : Option Addr) (pn : List (Addr × Obj)), Zc (.ref (te e).C) d oe → (∃ vs, oe.data = .fields vs) → MS (X.suite a ((a, oe) :: pn)) ((List.replicate X.N.length none).set i (some (.fz (.hx a d (fldI (te e)))))) (b0 :: suite) { rt := fun o => G.rt o ∧ ∀ e, o ≠ .rs e })
    (kn : ∀ v τ, out = .nx v → Le τ (Rn v) → G.nx τ)
    (e1 : X.stack = X.env :: X.outer := by rfl) (e2 : X.env.frame = some X.env.locals := by rfl) : MS1 X ρ (.Try body [.ExceptHandler (some (.Name xc np)) (some n) (b0 :: suite) pos'] [] [] pos) G := .mk fun Z0 F Z σ H D s g => by
  obtain ⟨Wout, tk, kk⟩ := g.ex
  refine PS_w (ps_try_as (i := i) (tb := fun W => fun D σ H => ∀ pn xe, Takes (X.tr pn xe) W → PassesOwn (model X.prog X.w) X.A X.env xe → wS (X.tr pn xe) body D σ H)
    (ts := fun a cls d => fun D σ H => ∀ (oe : Obj) (pn : List (Addr × Obj)), Zc cls d oe → (∃ vs, oe.data = .fields vs) → wS (X.suite a ((a, oe) :: pn)) (b0 :: suite) D σ H) e1 e2 hN hi hln hc tk
    (fun W pn xe t po => ⟨fun pins s σ H D I h => h pn xe t po pins s I⟩) (fun a oe cls d pn hz hf => ⟨fun pins s σ H D I h => h oe pn hz hf pins s I⟩)) ?_
  intro pn xe t po
  refine (hb pn xe po).run Z0 F Z σ H D s ⟨fun τ Z σ H ⟨v, e, l⟩ s' => g.nx τ Z σ H (kn v τ e l) s', fun _ _ _ _ ⟨w, e, _⟩ => absurd e (kb w), fun _ _ _ _ ⟨w, e, _⟩ => absurd e (kc w), fun o v Z' H' A k g' r n => ?_, fun _ _ _ _ _ _ z => z.elim, ⟨_, t, fun e ρ' Z' σ' H' k s' => ?_⟩⟩
  · obtain ⟨x, e, rfl⟩ := k
    cases x with
    | ok x => exact g.rt _ v Z' H' A (kr x e) g' r n
    | er x => cases r
  · obtain ⟨x, eo, ex⟩ := k
    cases x with
    | ok x => exact absurd ex.symm (hne x e)
    | er x =>
      cases ex
      have step : ∀ (d : Option Addr) (Z2 H2 : Hp), Gr Z' H' Z2 H2 → ExH Z2 d (fldI (te x)) → wAs X.K (.ref C) i (fun a cls d => fun D σ H => ∀ (oe : Obj) (pn : List (Addr × Obj)), Zc cls d oe → (∃ vs, oe.data = .fields vs) → wS (X.suite a ((a, oe) :: pn)) (b0 :: suite) D σ H) Wout D (.ref (te x).C) d σ' H2 := by
        intro d Z2 H2 g2 hx
        refine ⟨true, hm x eo, fun _ a na oe pn' hz hf => ?_, fun z => nomatch z⟩
        intro pins s2 I2
        have s4 := s'.grow g2
        have ln : σ'.length = X.N.length := by
          have := I2.len
          rw [List.length_set] at this
          exact this
        have lr : ρ'.length = X.N.length := by rw [← s'.len, ln]
        have hl : i < ρ'.length := by
          rw [lr]
          exact (List.getElem?_eq_some_iff.mp hi).1
        have s3 := s4.put (v := .ref a) (Gr.refl s4.ex) (RepO.fz (.hx (a := a) hx)) .nil hl
        have le := le_blank (x := some (O.fz (.hx a d (fldI (te x))))) ρ' i
        rw [lr] at le
        exact (hs x eo a oe d pn' hz hf).run Z0 F Z2 _ H2 { nx := fun σ' H' => D.nx (σ'.set i none) H', rt := D.rt, bk := fun σ' H' => D.bk (σ'.set i none) H', ct := fun σ' H' => D.ct (σ'.set i none) H' } (s3.le le) ⟨fun _ _ _ _ z => z.elim, fun _ _ _ _ z => z.elim, fun _ _ _ _ z => z.elim, fun o v Z H A k g' r n => g.rt o v Z H A k.1 g' r n, fun _ _ _ _ _ _ z => z.elim, GX.never fun e z => z.2 e rfl⟩ pins s2 I2
      unfold Thrown
      cases hf : (te x).fld with
      | none => exact step none Z' H' (Gr.refl s'.ex) (by unfold fldI; rw [hf]; rfl)
      | some p =>
        obtain ⟨f, dv⟩ := p
        obtain ⟨i0, rfl⟩ := hfi x f dv hf
        intro dd v hdd rv
        cases rv
        exact step (some dd) _ _ (Gr.newz s'.ex hdd) (by unfold fldI; rw [hf]; exact ⟨dd, rfl, upd_same⟩)
end
section
variable {X : Cx} {ρ : Slots} {a C E : Addr} {oe : Obj} {d : Option Addr} {fo : Option (Str × Int)} {pn : List (Addr × Obj)} {i : Nat} {n nm f : Str} {p0 p1 p2 pos : Pos} {b : Bool} {T : String} {k : Int}
theorem me_isiF (c : ExcC X.K C) (hz : Zc (.ref C) d oe) (hf : ∃ vs, oe.data = .fields vs) (hg : Gl X "isinstance") (hm : X.mg "isinstance" = none) (hE : X.mg nm = some (.ref E)) (p : PE (X.suite a ((a, oe) :: pn)) (.Name n p2) (tVar i)) (hi : ρ[i]? = some (some (.fz (.hx a d fo)))) (hk : PySem.W.kitOne X.K (.ref C) (.ref E) = some b) (hgE : Gl X nm := by rfl) (hd : (nm == ("__debug__" : Str)) = false := by decide) :
    ME (X.suite a ((a, oe) :: pn)) ρ (.Call (.Name "isinstance" p0) [.Name n p2, .Name nm p1] [] pos) (.fz (.bl b)) := .mk fun Z0 F Z σ H s Q q =>
  PE_w (pe_callB (call_isF c hz hf) hg hm (by decide +kernel) (pa_cons pe_w (pa_cons (pe_glob (v := .ref E) hgE hE rfl hd) pa_nil) rfl) (he := rfl)) ((mv_var p hi).run Z0 F Z σ H s _ fun v Z1 H1 A1 g1 r1 => by
    cases r1 with
    | fz r1 =>
    cases r1 with
    | hx h => exact ⟨.ref E, .ref E, b, rfl, h.dict g1.zh, fun u r => r, hk, q _ Z1 H1 [] g1 (.fz (.bl b)) .nil⟩)
theorem me_isiFB (c : ExcC X.K C) (hz : Zc (.ref C) d oe) (hf : ∃ vs, oe.data = .fields vs) (hg : Gl X "isinstance") (hm : X.mg "isinstance" = none) (hT : PE (X.suite a ((a, oe) :: pn)) (.Name nm p1) (tC (.ty T))) (p : PE (X.suite a ((a, oe) :: pn)) (.Name n p2) (tVar i)) (hi : ρ[i]? = some (some (.fz (.hx a d fo)))) (hk : PySem.W.kitOne X.K (.ref C) (.type T) = some b) :
    ME (X.suite a ((a, oe) :: pn)) ρ (.Call (.Name "isinstance" p0) [.Name n p2, .Name nm p1] [] pos) (.fz (.bl b)) := .mk fun Z0 F Z σ H s Q q =>
  PE_w (pe_callB (call_isF c hz hf) hg hm (by decide +kernel) (pa_cons pe_w (pa_cons hT pa_nil) rfl) (he := rfl)) ((mv_var p hi).run Z0 F Z σ H s _ fun v Z1 H1 A1 g1 r1 => by
    cases r1 with
    | fz r1 =>
    cases r1 with
    | hx h => exact ⟨.ty T, .type T, b, rfl, h.dict g1.zh, fun u r => r, hk, q _ Z1 H1 [] g1 (.fz (.bl b)) .nil⟩)
/-- e.f -/
theorem me_fldH (c : XfC X.K C) (no : PySem.W.findIn X.K (.ref C) f = some none) (hz : Zc (.ref C) d oe) (hf : ∃ vs, oe.data = .fields vs) (p : PE (X.suite a ((a, oe) :: pn)) (.Name n p2) (tVar i)) (hi : ρ[i]? = some (some (.fz (.hx a d (some (f, k)))))) : ME (X.suite a ((a, oe) :: pn)) ρ (.Attribute (.Name n p2) f pos) (.fz (.int k)) := .mk fun Z0 F Z σ H s Q q =>
  PE_w (pe_xf c no hz hf pe_w) ((mv_var p hi).run Z0 F Z σ H s _ fun v Z1 H1 A1 g1 r1 => by
    cases r1 with
    | fz r1 =>
    cases r1 with
    | hx h =>
      obtain ⟨dd, rfl, q1⟩ := h
      exact ⟨rfl, rfl, dd, _, .int k, rfl, g1.zh _ _ q1, by simp [List.lookup], q _ Z1 H1 [] g1 (.fz (.int k)) .nil⟩)
end
end M
namespace M
open PySem L2 PySem.Spec PyProof.Rows
section
variable {X : Cx} {ρ : Slots} {G : Go} {C : Addr} {e : Expr} {nm fld : Str} {i : Int} {p0 pos pos' : Pos} {k : Nat} {ps : List Str}
theorem m_raiseI (c : XiC X.prog X.w X.K X.mg X.base nm C fld k ps) (he : ME X ρ e (.fz (.int i))) (hr : Room (k + 1) X.A) (kk0 : G.rt (.rs ⟨C, some (fld, .int i)⟩)) (hc : X.calm = true := by rfl) (hg : Gl X nm := by rfl) (hs : starEach [e] X.env = (false, eval e X.env) :: starEach [] X.env := by rfl) (hdb : (nm == ("__debug__" : Str)) = false := by decide) : MS1 X ρ (.Raise (some (.Call (.Name nm p0) [e] [] pos)) none pos') G := .mk fun Z0 F0 Z σ H D s gd => by
  obtain ⟨W, tk, kk⟩ := gd.ex
  obtain ⟨fI, fd, iC, tI, hb, F⟩ := c.ex
  refine PS_w (ps_raise hc tk (pmk_oex c.T iC tI F hr hb .nil pass0 hg c.g (pa_cons pe_w pa_nil hs) hdb hs)) (he.run Z0 F0 Z σ H s _ fun v Z1 H1 A g r n => ⟨by show 1 ≤ 1000; decide, fun a ha => ?_⟩)
  cases r with
  | fz r =>
  cases r
  refine ⟨a, C, i, rfl, c.T, c.no, upd_same, fun dx hdx hne => ⟨rfl, dx, [(fld, .int i)], upd_same, (by rw [upd_ne hne, upd_same]), ?_, ?_⟩⟩
  · rw [upd_ne hne] at hdx
    exact hdx
  · have hd : H1 dx = none := by
      rw [upd_ne hne] at hdx
      exact hdx
    have eH : upd (L2.del (upd (upd (upd H1 a (exo a C none)) dx (exd dx [(fld, .int i)])) a (exo a C (some dx))) a) dx (.xd [(fld, .int i)]) = upd H1 dx (.xd [(fld, .int i)]) := by
      funext b
      by_cases hbd : b = dx
      · rw [hbd, upd_same, upd_same]
      · rw [upd_ne hbd, upd_ne hbd]
        by_cases hb : b = a
        · rw [hb, L2.del_same, ha]
        · rw [L2.del_ne hb, upd_ne hb, upd_ne hbd, upd_ne hb]
    rw [eH]
    have t := kk ⟨C, some (fld, .int i)⟩ ρ Z1 σ H1 kk0 (s.grow g)
    unfold Thrown at t
    exact t dx (.int i) hd (.int i)
end
end M
namespace M
open PySem L2 PySem.Spec PyProof.Rows
def eqT (x : Str) (v : Value) : Bool := match v with
  | .str y _ => y.cps.toList == x.cps.toList
  | _ => false
theorem str_cps {x y : Str} : (x.cps.toList == y.cps.toList) = (x == y) := by
  by_cases h : x = y
  · subst h; rw [beq_self_eq_true, beq_self_eq_true]
  · have h2 : x.cps.toList ≠ y.cps.toList := fun e => h (by
      cases x; cases y
      have e : _ = _ := e
      congr
      exact Array.toList_inj.mp e)
    rw [beq_eq_false_iff_ne.mpr h, beq_eq_false_iff_ne.mpr h2]
theorem eqT_gives {x : Str} {t : Tok} : ∀ {us : List Value} {ns : List Str}, Vals (ns.map V.str) us → ∀ y ∈ us, MeetsSeq.EqGives y (.str x t) (eqT x y)
  | _, [], .nil => fun y hy => by cases hy
  | _, n :: ns, .cons h r => fun y hy => by
    cases hy with
    | head =>
      obtain ⟨t', rfl⟩ := h
      exact SeqRoads2.EqGives.str n x t' t
    | tail _ hy => exact eqT_gives r y hy
theorem eqT_count {x : Str} : ∀ {us : List Value} {ns : List Str}, Vals (ns.map V.str) us → us.countP (eqT x) = ns.count x
  | _, [], .nil => rfl
  | _, n :: ns, .cons h r => by
    obtain ⟨t', rfl⟩ := h
    have ih := eqT_count (x := x) r
    rw [List.countP_cons, List.count_cons, ih]
    show _ + (if (n.cps.toList == x.cps.toList) = true then 1 else 0) = _
    rw [str_cps]
def rCntS (K : PySem.W.Frag) : V → List V → Hp → VK → Prop := fun x xs H Q => ∃ (p : Addr) (ns : List Str) (k : Str), x = .ref p ∧ xs = [.str k] ∧ SqL K H p (ns.map V.str) ∧ Q (.int (ns.count k : Nat)) H
theorem mt_lcountS {X : Cx} : MtR X "list.count" (rCntS X.K) := by
  intro pins s σ H x xs v us Q I rx rxs h
  obtain ⟨p, ns, k, rfl, rfl, hs, q⟩ := h
  cases rx
  obtain ⟨u, rfl, ru⟩ := rxs.one
  obtain ⟨t, rfl⟩ := ru
  obtain ⟨its, rv, ⟨⟨cls, dd, data, sl⟩, n, ho, hc, hdn, hd⟩, hlen⟩ := I.list hs
  simp only at hc hd
  subst hc hd
  refine call_meets PySem.F.slot_list_count ⟨_, ho, rfl⟩ PySem.F.entry_list_count (PySem.F.args_list_count_2 _ _)
    (SeqAt.list_countAt p its.toArray n dd sl (.str k t) (eqT k)) ⟨ho, fun y hy => (eqT_gives rv y (by simpa using hy)).at _ _, ?_⟩
  have ec : its.toArray.toList.countP (eqT k) = ns.count k := eqT_count rv
  refine ⟨.int (ns.count k : Nat), H, I.tok _, ⟨s.toks, ?_⟩, q⟩
  show Value.int ((its.toArray.toList.countP (eqT k) : Nat) : Int) s.toks = Value.int ((ns.count k : Nat) : Int) s.toks
  rw [ec]
theorem RepL.strsV {K : PySem.W.Frag} {Z : Hp} : ∀ {vs : List V} {bs : List Str}, RepL K Z vs (bs.map .str) → vs = bs.map .str
  | _, [], .nil => rfl
  | _, b :: r, .cons h t => by
    cases h
    rw [RepL.strsV t]
    rfl
section
variable {X : Cx} {ρ ρ' : Slots} {R' : O → Slots} {a b e : Expr} {bs : List Str} {k : Str} {p1 p2 p3 p4 pos : Pos} {G : Go}
theorem me_countL (ha : ML X ρ a (bs.map .str)) (hb : ME X ρ b (.fz (.str k)))
    (pm : PE X (.Call (.Attribute a "count" p1) [b] [] pos) (tBM X.K "list" (rCntS X.K) (wE X a) (tCons (wE X b) tNil)) := by exact pe_bm PySem.F.plainAttrs_list PySem.F.slot_list_count PySem.F.type_list_count mt_lcountS pe_w (pa_cons pe_w pa_nil)) : ME X ρ (.Call (.Attribute a "count" p1) [b] [] pos) (.fz (.int (bs.count k : Nat))) := .mk fun Z0 F Z σ H s Q q =>
  PE_w pm (ha.run Z0 F Z σ H s _ fun l vs Z1 H1 g1 l1 r1 => ⟨.inl ⟨rfl, vs, l1⟩, hb.run Z0 F Z1 σ H1 (s.grow g1) _ fun v Z2 H2 A2 g2 r2 n2 => by
    cases r2 with
    | fz r2 =>
      cases r2
      have e := r1.strsV
      subst e
      exact ⟨l, bs, k, rfl, rfl, ex_l g2.hh l1, q _ Z2 H2 [] (g1.trans g2) (.fz (.int _)) .nil⟩⟩)
theorem ext_meets (l : Addr) (items : Array Value) (n : Nat) (b : Addr) (items2 : Array Value) (n2 : Nat) (dd : Option Addr) (sl : Array (Option Value)) (hc0 : ¬(!items.isEmpty && Builtin.List.listTooLong (items.size + items2.size)) = true) (hc1 : items.size ≤ sizeLine) (hs2 : items.size + items2.size ≤ sizeLine + 1) :
    Meets (Builtin.«list.extend» ⟨[.ref l, .ref b], []⟩) (fun _ R s => s.heap.get? l = some { cls := .type "list", dict := none, data := .seq items n, slots := #[] } ∧ s.heap.get? b = some { cls := .type "list", dict := dd, data := .seq items2 n2, slots := sl } ∧ R (.ok (.ret Value.none)) { s with heap := s.heap.update l (Obj.mapSeq fun x => x ++ items2), toks := s.toks }) :=
  .of_wp fun prog w A R s h => by
    obtain ⟨hp, g, d, tk, os⟩ := s
    obtain ⟨hl, hb, h⟩ := h
    have f3 := AutoSeq1.sub_list_list
    have f5 := AutoSeq1.sub_list_tuple
    have hz' : (items ++ items2).size ≤ sizeLine + 1 := by rw [Array.size_append]; exact hs2
    wp_walk using (wpAny_updateSeq hl rfl (hz := hc1) (_hz' := hz')), AutoSeq1.wpAny_loadPart' hl, AutoSeq1.wpAny_loadPart' hb
    exact ⟨_, rfl, h⟩
def rExtS (K : PySem.W.Frag) : V → List V → Hp → VK → Prop := fun x vs H Q => ∃ l b xs zs, x = .ref l ∧ vs = [.ref b] ∧ H l = some (.lst xs) ∧ SqL K H b zs ∧ xs.length + zs.length ≤ sizeLine ∧ Q .non (upd H l (.lst (xs ++ zs)))
theorem mt_extS : MtM X "list.extend" (rExtS X.K) := by
  intro pins s σ H x vs v us Q I rx rv h
  obtain ⟨l, b, xs, zs, rfl, rfl, hH, hB, hz, q⟩ := h
  cases rx
  obtain ⟨u, rfl, ru⟩ := rv.one
  cases ru
  obtain ⟨z, its, n, r, hl, e⟩ := I.lstM hH
  obtain ⟨its2, r2, ⟨⟨cls, dd, data, sl⟩, n2, ho, hc, hdn, hd⟩, _⟩ := I.list hB
  simp only at hc hd
  subst hc hd
  have hl2 := r2.length
  have hsz : its.toArray.size + its2.toArray.size ≤ sizeLine := by rw [List.size_toArray, List.size_toArray]; omega
  have hlong : ¬ (!its.toArray.isEmpty && Builtin.List.listTooLong (its.toArray.size + its2.toArray.size)) = true := by
    rw [notLongL hsz, Bool.and_false]
    exact Bool.false_ne_true
  refine call_meets F.slot_list_extend ⟨_, e, rfl⟩ F.entry_list_extend (F.args_list_extend_2 _ _)
    (ext_meets l its.toArray n b its2.toArray n2 dd sl hlong (by rw [List.size_toArray]; omega) (by omega)) ⟨e, ho, ?_⟩
  refine ⟨.non, _, I.lset (its' := its ++ its2) hH e (by simp) (r.append r2) ?_, rfl, q⟩
  rw [List.length_append]
  omega
theorem m_extendF {os : List O} {ds : List D} (h : MP X ρ a (.lst os) ρ' R') (he : ML X ρ' e ds) (hl : os.length + ds.length ≤ sizeLine) (k : G.nx (R' (.lst (os ++ ds.map .fz))))
    (q : ∀ t, PE X (.Call (.Attribute a "extend" p2) [e] [] p3) t → PS X (.Expr (.Call (.Attribute a "extend" p2) [e] [] p3) p4) (tDrop t) := by exact fun _ h => ps_expr h)
    (pm : PE X (.Call (.Attribute a "extend" p2) [e] [] p3) (tBM X.K "list" (rExtS X.K) (wE X a) (tCons (wE X e) tNil)) := by exact pe_bm PySem.F.plainAttrs_list PySem.F.slot_list_extend PySem.F.type_list_extend mt_extS pe_w (pa_cons pe_w pa_nil)) : MS1 X ρ (.Expr (.Call (.Attribute a "extend" p2) [e] [] p3) p4) G := .mk fun Z0 F Z σ H D s g => by
  obtain ⟨T, s⟩ := s.a
  refine PS_w (q _ pm) (h.run Z0 F Z σ H T s _ fun v Z1 H1 T1 s1 f => ?_)
  have f0 := f
  obtain ⟨A, f⟩ := f
  obtain ⟨l, _, vs, A1, _, rfl, rfl, h0, rl⟩ := hm_lst.mp f.rp
  refine ⟨.inl ⟨rfl, _, SqL.of h0⟩, he.run Z0 F Z1 σ H1 s1 _ fun b zs Z2 H2 g1 l1 r1 => ?_⟩
  obtain ⟨A', f'⟩ := f0.grow g1
  obtain ⟨l', _, vs', A1', _, el, rfl, h0', rl'⟩ := hm_lst.mp f'.rp
  cases el
  exact ⟨l, b, vs', zs, rfl, rfl, h0', l1, by rw [rl'.length, r1.length]; exact hl, g.nx _ Z2 σ _ k (f'.chgL rfl g1.zh (rl'.apZ r1))⟩
theorem m_extendFT {α : Type} {xs ys : List α} {enc : α → D} (h : MP X ρ a (.lst ((xs.map enc).map .fz)) ρ' R') (he : ML X ρ' e (ys.map enc)) (hl : xs.length + ys.length ≤ sizeLine) (k : G.nx (R' (.lst (((xs ++ ys).map enc).map .fz))))
    (q : ∀ t, PE X (.Call (.Attribute a "extend" p2) [e] [] p3) t → PS X (.Expr (.Call (.Attribute a "extend" p2) [e] [] p3) p4) (tDrop t) := by exact fun _ h => ps_expr h)
    (pm : PE X (.Call (.Attribute a "extend" p2) [e] [] p3) (tBM X.K "list" (rExtS X.K) (wE X a) (tCons (wE X e) tNil)) := by exact pe_bm PySem.F.plainAttrs_list PySem.F.slot_list_extend PySem.F.type_list_extend mt_extS pe_w (pa_cons pe_w pa_nil)) : MS1 X ρ (.Expr (.Call (.Attribute a "extend" p2) [e] [] p3) p4) G :=
  m_extendF h he (by rw [List.length_map, List.length_map, List.length_map]; exact hl) (by rw [List.map_append, List.map_append] at k; exact k) q pm
end
/-- the length of a tuple -/
def lenTd : D → Option Int
  | .tup ds => some (ds.length : Int)
  | _ => none
theorem me_lenTd {X : Cx} {ρ : Slots} {a : Expr} {p0 pos : Pos} {d : D} {n : Int} (h : lenTd d = some n) (hg : Gl X "len") (hm : X.mg "len" = none) (ha : ME X ρ a (.fz d)) (n1 : NS X a := by exact fun _ => rfl) : ME X ρ (.Call (.Name "len" p0) [a] [] pos) (.fz (.int n)) := by
  cases d with
  | tup ds =>
    cases h
    exact me_lenT hg hm (MV.u (ME.v ha) (.fz _)) n1
  | _ => cases h
section
variable {X : Cx} {ρ : Slots} {e : Expr} {es : List Expr} {er : Er} {d : D} {pos p0 : Pos} {nm : Str} {C : Addr} {ns : List Str}
end
end M
namespace K28
open PySem L2 M
def top (i : Nat) : Stmt := PySem.Challenge.pw_coverroll_k28_bounds_of_words.main.body.getD i (.Pass ⟨0, 0, 0, 0⟩)
abbrev s_NoWords___init__ : Stmt := inClass (top 4) 0
abbrev s_is_whole : Stmt := top 9
abbrev s_all_figures : Stmt := top 10
abbrev s_read_cents : Stmt := top 11
abbrev s_Condition_holds : Stmt := inClass (top 14) 0
abbrev s_CauseIs___init__ : Stmt := inClass (top 15) 0
abbrev s_CauseIs_holds : Stmt := inClass (top 15) 1
abbrev s_ThingIs___init__ : Stmt := inClass (top 16) 0
abbrev s_ThingIs_holds : Stmt := inClass (top 16) 1
abbrev s_DaysIn___init__ : Stmt := inClass (top 17) 0
abbrev s_DaysIn_holds : Stmt := inClass (top 17) 1
abbrev s_Over___init__ : Stmt := inClass (top 18) 0
abbrev s_Over_holds : Stmt := inClass (top 18) 1
abbrev s_Not___init__ : Stmt := inClass (top 21) 0
abbrev s_Not_holds : Stmt := inClass (top 21) 1
abbrev s_All___init__ : Stmt := inClass (top 22) 0
abbrev s_All_holds : Stmt := inClass (top 22) 1
abbrev s_Some___init__ : Stmt := inClass (top 23) 0
abbrev s_Some_holds : Stmt := inClass (top 23) 1
abbrev s_is_name : Stmt := top 27
abbrev s_is_day : Stmt := top 28
abbrev s_read_condition : Stmt := top 34
abbrev s_some_at : Stmt := top 35
abbrev s_all_at : Stmt := top 36
abbrev s_piece_at : Stmt := top 37
abbrev s_atom_at : Stmt := top 38
abbrev s_name_at : Stmt := top 39
abbrev s_cents_at : Stmt := top 40
abbrev s_day_at : Stmt := top 41
abbrev s__law_cell : Stmt := top 43
abbrev s__law_mix : Stmt := top 44
abbrev s__law_whole : Stmt := top 45
abbrev s__law_refused : Stmt := top 48
abbrev s__law_refused_at : Stmt := top 49
abbrev s__law_truth : Stmt := top 50
abbrev s__law_atom : Stmt := top 51
abbrev s__law_opened : Stmt := top 52
abbrev s__law_holds : Stmt := top 53
abbrev s__law_nested : Stmt := top 54
abbrev s__law_row : Stmt := top 55
abbrev s__law_long : Stmt := top 56
abbrev s_law : Stmt := top 57
section
variable {P : Program} {w : World} {K : PySem.W.Frag} {mg : Str → Option Value} {base : Heap} {C_CoverError C_NoAmount C_NoWords C_TooDeep C_NoText C_Condition C_CauseIs C_ThingIs C_DaysIn C_Over C_Not C_All C_Some : Addr}
inductive Xc where
  | NoWords (i : Int) | TooDeep
abbrev t_Xc (C_NoWords C_TooDeep : Addr) : Xc → Er
  | .NoWords i => ⟨C_NoWords, some ("at", .int i)⟩
  | .TooDeep => ⟨C_TooDeep, none⟩
inductive Cd where
  | plain (p : Unit)
  | cause (p : Str)
  | thing (p : Str)
  | days (p : (Int × Int))
  | over (p : Int)
  | notOf (p : Cd)
  | allOf (p : (List Cd))
  | someOf (p : (List Cd))
mutual
def u_Cd (C_Condition C_CauseIs C_ThingIs C_DaysIn C_Over C_Not C_All C_Some : Addr) : Cd → D
  | .plain p => .ins C_Condition [] []
  | .cause p => .ins C_CauseIs ["name"] [.str p]
  | .thing p => .ins C_ThingIs ["name"] [.str p]
  | .days p => .ins C_DaysIn ["first", "last"] [.int p.1, .int p.2]
  | .over p => .ins C_Over ["cents"] [.int p]
  | .notOf p => .ins C_Not ["part"] [u_Cd C_Condition C_CauseIs C_ThingIs C_DaysIn C_Over C_Not C_All C_Some p]
  | .allOf p => .ins C_All ["several"] [.lst (u_CdL C_Condition C_CauseIs C_ThingIs C_DaysIn C_Over C_Not C_All C_Some p)]
  | .someOf p => .ins C_Some ["several"] [.lst (u_CdL C_Condition C_CauseIs C_ThingIs C_DaysIn C_Over C_Not C_All C_Some p)]
def u_CdL (C_Condition C_CauseIs C_ThingIs C_DaysIn C_Over C_Not C_All C_Some : Addr) : List Cd → List D
  | [] => []
  | x :: r => u_Cd C_Condition C_CauseIs C_ThingIs C_DaysIn C_Over C_Not C_All C_Some x :: u_CdL C_Condition C_CauseIs C_ThingIs C_DaysIn C_Over C_Not C_All C_Some r
end
theorem u_CdL_map (C_Condition C_CauseIs C_ThingIs C_DaysIn C_Over C_Not C_All C_Some : Addr) : ∀ xs : List Cd, u_CdL C_Condition C_CauseIs C_ThingIs C_DaysIn C_Over C_Not C_All C_Some xs = xs.map (u_Cd C_Condition C_CauseIs C_ThingIs C_DaysIn C_Over C_Not C_All C_Some)
  | [] => rfl
  | x :: r => congrArg (u_Cd C_Condition C_CauseIs C_ThingIs C_DaysIn C_Over C_Not C_All C_Some x :: ·) (u_CdL_map C_Condition C_CauseIs C_ThingIs C_DaysIn C_Over C_Not C_All C_Some r)
abbrev r_Condition (C_Condition : Addr) (p : Unit) : D := .ins C_Condition [] []
theorem u_Cd_plain (C_Condition C_CauseIs C_ThingIs C_DaysIn C_Over C_Not C_All C_Some : Addr) (p : Unit) : u_Cd C_Condition C_CauseIs C_ThingIs C_DaysIn C_Over C_Not C_All C_Some (.plain p) = r_Condition C_Condition p := by
  show (.ins _ _ _ : D) = .ins _ _ _
  first | rfl | (simp only [u_CdL_map])
abbrev r_CauseIs (C_CauseIs : Addr) (p : Str) : D := .ins C_CauseIs ["name"] [.str p]
theorem u_Cd_cause (C_Condition C_CauseIs C_ThingIs C_DaysIn C_Over C_Not C_All C_Some : Addr) (p : Str) : u_Cd C_Condition C_CauseIs C_ThingIs C_DaysIn C_Over C_Not C_All C_Some (.cause p) = r_CauseIs C_CauseIs p := by
  show (.ins _ _ _ : D) = .ins _ _ _
  first | rfl | (simp only [u_CdL_map])
abbrev r_ThingIs (C_ThingIs : Addr) (p : Str) : D := .ins C_ThingIs ["name"] [.str p]
theorem u_Cd_thing (C_Condition C_CauseIs C_ThingIs C_DaysIn C_Over C_Not C_All C_Some : Addr) (p : Str) : u_Cd C_Condition C_CauseIs C_ThingIs C_DaysIn C_Over C_Not C_All C_Some (.thing p) = r_ThingIs C_ThingIs p := by
  show (.ins _ _ _ : D) = .ins _ _ _
  first | rfl | (simp only [u_CdL_map])
abbrev r_DaysIn (C_DaysIn : Addr) (p : (Int × Int)) : D := .ins C_DaysIn ["first", "last"] [.int p.1, .int p.2]
theorem u_Cd_days (C_Condition C_CauseIs C_ThingIs C_DaysIn C_Over C_Not C_All C_Some : Addr) (p : (Int × Int)) : u_Cd C_Condition C_CauseIs C_ThingIs C_DaysIn C_Over C_Not C_All C_Some (.days p) = r_DaysIn C_DaysIn p := by
  show (.ins _ _ _ : D) = .ins _ _ _
  first | rfl | (simp only [u_CdL_map])
abbrev r_Over (C_Over : Addr) (p : Int) : D := .ins C_Over ["cents"] [.int p]
theorem u_Cd_over (C_Condition C_CauseIs C_ThingIs C_DaysIn C_Over C_Not C_All C_Some : Addr) (p : Int) : u_Cd C_Condition C_CauseIs C_ThingIs C_DaysIn C_Over C_Not C_All C_Some (.over p) = r_Over C_Over p := by
  show (.ins _ _ _ : D) = .ins _ _ _
  first | rfl | (simp only [u_CdL_map])
abbrev r_Not (C_Not : Addr) (C_Condition C_CauseIs C_ThingIs C_DaysIn C_Over C_All C_Some : Addr) (p : Cd) : D := .ins C_Not ["part"] [(u_Cd C_Condition C_CauseIs C_ThingIs C_DaysIn C_Over C_Not C_All C_Some) p]
theorem u_Cd_notOf (C_Condition C_CauseIs C_ThingIs C_DaysIn C_Over C_Not C_All C_Some : Addr) (p : Cd) : u_Cd C_Condition C_CauseIs C_ThingIs C_DaysIn C_Over C_Not C_All C_Some (.notOf p) = r_Not C_Not C_Condition C_CauseIs C_ThingIs C_DaysIn C_Over C_All C_Some p := by
  show (.ins _ _ _ : D) = .ins _ _ _
  first | rfl | (simp only [u_CdL_map])
abbrev r_All (C_All : Addr) (C_Condition C_CauseIs C_ThingIs C_DaysIn C_Over C_Not C_Some : Addr) (p : (List Cd)) : D := .ins C_All ["several"] [.lst (p.map (u_Cd C_Condition C_CauseIs C_ThingIs C_DaysIn C_Over C_Not C_All C_Some))]
theorem u_Cd_allOf (C_Condition C_CauseIs C_ThingIs C_DaysIn C_Over C_Not C_All C_Some : Addr) (p : (List Cd)) : u_Cd C_Condition C_CauseIs C_ThingIs C_DaysIn C_Over C_Not C_All C_Some (.allOf p) = r_All C_All C_Condition C_CauseIs C_ThingIs C_DaysIn C_Over C_Not C_Some p := by
  show (.ins _ _ _ : D) = .ins _ _ _
  first | rfl | (simp only [u_CdL_map])
abbrev r_Some (C_Some : Addr) (C_Condition C_CauseIs C_ThingIs C_DaysIn C_Over C_Not C_All : Addr) (p : (List Cd)) : D := .ins C_Some ["several"] [.lst (p.map (u_Cd C_Condition C_CauseIs C_ThingIs C_DaysIn C_Over C_Not C_All C_Some))]
theorem u_Cd_someOf (C_Condition C_CauseIs C_ThingIs C_DaysIn C_Over C_Not C_All C_Some : Addr) (p : (List Cd)) : u_Cd C_Condition C_CauseIs C_ThingIs C_DaysIn C_Over C_Not C_All C_Some (.someOf p) = r_Some C_Some C_Condition C_CauseIs C_ThingIs C_DaysIn C_Over C_Not C_All p := by
  show (.ins _ _ _ : D) = .ins _ _ _
  first | rfl | (simp only [u_CdL_map])
noncomputable def M_is_whole (thing : D) : Option Bool :=
  bd (isiD "int" thing) fun k1 =>
  bd (cond k1 (bd (isiD "bool" thing) fun k2 => some (!k2)) (some false)) fun v3 =>
  some v3
def sp_is_whole (K : PySem.W.Frag) : Sp := SpF K (fun x : D => [.fz x]) (fun x => M_is_whole x) (fun r => .fz (.bl r))
abbrev N_is_whole : List Str := ["thing"]
theorem sc_is_whole : FnScope N_is_whole ["thing"] (defScope s_is_whole) := ⟨rfl, rfl, rfl, by decide +kernel, rfl, by decide +kernel, by decide +kernel⟩
theorem ok_is_whole {f : Addr} {fd : FuncData} (F : Fun K "is_whole" "is_whole" s_is_whole f fd) (z_isinstance : mg "isinstance" = none) (z_int : mg "int" = none) (z_bool : mg "bool" = none) : FnOk P w K mg base CX0 1 f fd ["thing"] (sp_is_whole K) := by
  refine fn_m F sc_is_whole (fun x => rfl) (fun x _ => rfl) fun cdv A outer s H E hr x hx => ?_
  obtain ⟨thing, r⟩ := x
  replace hx : M_is_whole thing = some r := hx
  have nd := sc_is_whole.nd
  unfold M_is_whole at hx
  show MS _ [some (.fz thing)] _ _
  replace hx := bd_some hx
  obtain ⟨k1, hk1, hx⟩ := hx
  replace hx := bd_some hx
  obtain ⟨v3, hv3, hx⟩ := hx
  refine ms_one (m_ret (ps_ret pe_w) (ME.r (ME.isB (me_and (me_isiD (T := "int") hk1 (by rfl) z_isinstance (pe_bltn (v := .ty "int") (by rfl) z_int (by decide +kernel) rfl) (mv_var (pv 0) rfl)) fun q4 => (by have hx := cond_t hv3 q4; replace hx := bd_some hx; obtain ⟨k2, hk2, hx⟩ := hx; cases hx; exact (me_one (me_not (me_isiD (T := "bool") hk2 (by rfl) z_isinstance (pe_bltn (v := .ty "bool") (by rfl) z_bool (by decide +kernel) rfl) (mv_var (pv 0) rfl)))))) (and_c hv3))) ?_)
  cases hx; rfl

noncomputable def M_all_figures (text : Str) : Option Bool :=
  bd (lpO (fun (x2 : Nat) (p1 : Unit) => (cond (!decide (x2 ∈ ("0123456789" : Str).cps.toList)) (some (.rt false)) <|
    some (.nx ()) : Option (Ou (Unit) (Unit) Bool))) text.cps.toList ()) fun o3 => ouR o3 fun p1 =>
  some true
def sp_all_figures (K : PySem.W.Frag) : Sp := SpF K (fun x : Str => [.fz (.str x)]) (fun x => M_all_figures x) (fun r => .fz (.bl r))
abbrev N_all_figures : List Str := ["text", "sign"]
theorem sc_all_figures : FnScope N_all_figures ["text"] (defScope s_all_figures) := ⟨rfl, rfl, rfl, by decide +kernel, rfl, by decide +kernel, by decide +kernel⟩
theorem ok_all_figures {f : Addr} {fd : FuncData} (F : Fun K "all_figures" "all_figures" s_all_figures f fd) (g_FIGURES_cents : mg "FIGURES_cents" = some (.str "0123456789" tkFIGURES_cents)) : FnOk P w K mg base CX0 1 f fd ["text"] (sp_all_figures K) := by
  refine fn_m F sc_all_figures (fun x => rfl) (fun x _ => rfl) fun cdv A outer s H E hr x hx => ?_
  obtain ⟨text, r⟩ := x
  replace hx : M_all_figures text = some r := hx
  have nd := sc_all_figures.nd
  unfold M_all_figures at hx
  show MS _ [some (.fz (.str text)), none] _ _
  replace hx := bd_some hx
  obtain ⟨o3, ho3, hx⟩ := hx
  refine ms_cons (m_forO (xs := text.cps.toList) (enc := (fun c => D.str ⟨#[c]⟩)) (ps_for PassesOwn.never rfl (pi_str pe_w) (pg_name (i := 1) nd rfl (Or.inl rfl)) pss_w) (by exact (mi_strT (me_var (pv 0) rfl))) ho3 (fun p1 => [some (.fz (.str text)), none]) (fun r => .fz (.bl r)) le_auto (fun x2 p1 p1o mx hx => ?_) (fun p1 τ e le => ?_) fun q e => ?_)
  ·
    refine ⟨_, _, mg_name, ?_⟩
    show MS _ [some (.fz (.str text)), some (.fz (.str (sg1 x2)))] _ _
    refine ms_one (m_if (t := (!decide (x2 ∈ ("0123456789" : Str).cps.toList))) (mt_niS (me_var (pv 1) rfl) (me_gS g_FIGURES_cents)) (fun h => ?_) fun h => ms_nil ?_)
    · replace hx := cond_t hx h
      refine ms_one (m_ret (ps_ret pe_w) (ME.r me_bl) ?_)
      cases hx; exact ⟨_, rfl, rfl⟩
    replace hx := cond_f hx h
    cases hx; exact ⟨_, rfl, le_auto⟩
  · subst e
    dsimp only [ouR] at hx
    refine ms_le le ?_
    show MS _ [some (.fz (.str text)), none] _ _
    refine ms_one (m_ret (ps_ret pe_w) (ME.r me_bl) ?_)
    cases hx; rfl
  · subst e; cases hx; rfl

noncomputable def M_read_cents (text : Str) : Option Int :=
  cond (!true) (none) <|
  gd (text.length ≤ sizeLine) <|
  bd (cond (((Txt.partition text ("." : Str)).2.1 == ("" : Str))) (some true) (gd (((Txt.partition text ("." : Str)).2.2).length ≤ sizeLine) <| bd (cond (!((((Txt.partition text ("." : Str)).2.2).length : Int) == 2)) (some true) (bd (M_all_figures ((Txt.partition text ("." : Str)).2.2)) fun v3 => some (!v3))) fun v4 => some v4)) fun v6 =>
  cond v6 (none) <|
  gd (((Txt.partition text ("." : Str)).1).length ≤ sizeLine) <|
  bd (cond (decide ((((Txt.partition text ("." : Str)).1).length : Int) < 1)) (some true) (gd (((Txt.partition text ("." : Str)).1).length ≤ sizeLine) <| bd (cond (decide (10 < (((Txt.partition text ("." : Str)).1).length : Int))) (some true) (bd (M_all_figures ((Txt.partition text ("." : Str)).1)) fun v10 => some (!v10))) fun v11 => some v11)) fun v13 =>
  cond v13 (none) <|
  bd (L2.atI ((Txt.partition text ("." : Str)).1).cps.toList (0 : Int)) fun c15 =>
  gd (((Txt.partition text ("." : Str)).1).length ≤ sizeLine) <|
  bd (cond (((sg1 c15) == ("0" : Str))) (gd (((Txt.partition text ("." : Str)).1).length ≤ sizeLine) <| some (decide (1 < (((Txt.partition text ("." : Str)).1).length : Int)))) (some false)) fun v18 =>
  cond v18 (none) <|
  bd (PySem.intText? ((Txt.partition text ("." : Str)).1)) fun n20 =>
  gd (((Txt.partition text ("." : Str)).1).length ≤ 640) <|
  bd (PySem.intText? ((Txt.partition text ("." : Str)).2.2)) fun n22 =>
  gd (((Txt.partition text ("." : Str)).2.2).length ≤ 640) <|
  some ((n20 * 100) + n22)
def sp_read_cents (K : PySem.W.Frag) : Sp := SpF K (fun x : Str => [.fz (.str x)]) (fun x => M_read_cents x) (fun r => .fz (.int r))
abbrev N_read_cents : List Str := ["text", "whole", "point", "part"]
theorem sc_read_cents : FnScope N_read_cents ["text"] (defScope s_read_cents) := ⟨rfl, rfl, rfl, by decide +kernel, rfl, by decide +kernel, by decide +kernel⟩
theorem ok_read_cents {f : Addr} {fd : FuncData} (F : Fun K "read_cents" "read_cents" s_read_cents f fd) (z_isinstance : mg "isinstance" = none) (z_str : mg "str" = none) (z_len : mg "len" = none) (z_int : mg "int" = none) (c_all_figures : Fn1 P w K mg base "all_figures" 1 ["text"] (sp_all_figures K)) : FnOk P w K mg base CX0 2 f fd ["text"] (sp_read_cents K) := by
  refine fn_m F sc_read_cents (fun x => rfl) (fun x _ => rfl) fun cdv A outer s H E hr x hx => ?_
  obtain ⟨text, r⟩ := x
  replace hx : M_read_cents text = some r := hx
  have nd := sc_read_cents.nd
  unfold M_read_cents at hx
  show MS _ [some (.fz (.str text)), none, none, none] _ _
  refine ms_cons (m_if (t := (!true)) (mt_not (mt_val (me_isi (k := true) (by rfl) z_isinstance (pe_bltn (v := .ty "str") (by rfl) z_str (by decide +kernel) rfl) (mv_var (pv 0) rfl) rfl (by decide +kernel)))) (fun h => ?_) fun h => ms_nil ?_)
  · replace hx := cond_t hx h
    cases hx
  replace hx := cond_f hx h
  replace hx := gd_some hx
  obtain ⟨g1, hx⟩ := hx
  refine ms_cons (m_tgt (ps_asg pe_w (pg_tup (n := 3) rfl (pgs_cons (pg_name (i := 1) nd rfl (Or.inl rfl)) (pgs_cons (pg_name (i := 2) nd rfl (Or.inl rfl)) (pgs_cons (pg_name (i := 3) nd rfl (Or.inl rfl)) pgs_nil))))) (me_partition (me_var (pv 0) rfl) me_str rfl g1) (mg_tup (mgs_cons mg_name (mgs_cons mg_name (mgs_cons mg_name mgs_nil))) rfl) ?_)
  show MS _ [some (.fz (.str text)), some (.fz (.str ((Txt.partition text ("." : Str)).1))), some (.fz (.str ((Txt.partition text ("." : Str)).2.1))), some (.fz (.str ((Txt.partition text ("." : Str)).2.2)))] _ _
  replace hx := bd_some hx
  obtain ⟨v6, hv6, hx⟩ := hx
  refine ms_cons (m_if (t := v6) (MW.t (MW.is (mw_or (mt_eqS (me_var (pv 2) rfl) me_str) fun q7 => (by have hx := cond_f hv6 q7; replace hx := gd_some hx; obtain ⟨g2, hx⟩ := hx; replace hx := bd_some hx; obtain ⟨v4, hv4, hx⟩ := hx; first | (cases hx; exact (MW.is (mw_or (mt_neI (me_lenS (by rfl) z_len (me_var (pv 3) rfl) g2) me_int) fun q5 => (by have hx := cond_f hv4 q5; replace hx := bd_some hx; obtain ⟨v3, hv3, hx⟩ := hx; cases hx; exact (mw_or1 (mt_not (mt_val (me_fn c_all_figures ((Txt.partition text ("." : Str)).2.2, v3) (ma_fz (me_var (pv 3) rfl) ma_nil) hv3 (hr.mono (by decide)))))))) (or_c hv4))) | (injection hx with hx; subst hx; exact (MW.is (mw_or (mt_neI (me_lenS (by rfl) z_len (me_var (pv 3) rfl) g2) me_int) fun q5 => (by have hx := cond_f hv4 q5; replace hx := bd_some hx; obtain ⟨v3, hv3, hx⟩ := hx; cases hx; exact (mw_or1 (mt_not (mt_val (me_fn c_all_figures ((Txt.partition text ("." : Str)).2.2, v3) (ma_fz (me_var (pv 3) rfl) ma_nil) hv3 (hr.mono (by decide)))))))) (or_c hv4))))) (or_c hv6))) (fun h => ?_) fun h => ms_nil ?_)
  · replace hx := cond_t hx h
    cases hx
  replace hx := cond_f hx h
  replace hx := gd_some hx
  obtain ⟨g8, hx⟩ := hx
  replace hx := bd_some hx
  obtain ⟨v13, hv13, hx⟩ := hx
  refine ms_cons (m_if (t := v13) (MW.t (MW.is (mw_or (mt_lt (me_lenS (by rfl) z_len (me_var (pv 1) rfl) g8) me_int) fun q14 => (by have hx := cond_f hv13 q14; replace hx := gd_some hx; obtain ⟨g9, hx⟩ := hx; replace hx := bd_some hx; obtain ⟨v11, hv11, hx⟩ := hx; first | (cases hx; exact (MW.is (mw_or (mt_gt (me_lenS (by rfl) z_len (me_var (pv 1) rfl) g9) me_int) fun q12 => (by have hx := cond_f hv11 q12; replace hx := bd_some hx; obtain ⟨v10, hv10, hx⟩ := hx; cases hx; exact (mw_or1 (mt_not (mt_val (me_fn c_all_figures ((Txt.partition text ("." : Str)).1, v10) (ma_fz (me_var (pv 1) rfl) ma_nil) hv10 (hr.mono (by decide)))))))) (or_c hv11))) | (injection hx with hx; subst hx; exact (MW.is (mw_or (mt_gt (me_lenS (by rfl) z_len (me_var (pv 1) rfl) g9) me_int) fun q12 => (by have hx := cond_f hv11 q12; replace hx := bd_some hx; obtain ⟨v10, hv10, hx⟩ := hx; cases hx; exact (mw_or1 (mt_not (mt_val (me_fn c_all_figures ((Txt.partition text ("." : Str)).1, v10) (ma_fz (me_var (pv 1) rfl) ma_nil) hv10 (hr.mono (by decide)))))))) (or_c hv11))))) (or_c hv13))) (fun h => ?_) fun h => ms_nil ?_)
  · replace hx := cond_t hx h
    cases hx
  replace hx := cond_f hx h
  replace hx := bd_some hx
  obtain ⟨c15, hc15, hx⟩ := hx
  replace hx := gd_some hx
  obtain ⟨g16, hx⟩ := hx
  replace hx := bd_some hx
  obtain ⟨v18, hv18, hx⟩ := hx
  refine ms_cons (m_if (t := v18) (MW.t (MW.is (mw_and (mt_eqS (me_ixS (me_var (pv 1) rfl) me_int g16 hc15) me_str) fun q19 => (by have hx := cond_t hv18 q19; replace hx := gd_some hx; obtain ⟨g17, hx⟩ := hx; cases hx; exact (mw_and1 (mt_gt (me_lenS (by rfl) z_len (me_var (pv 1) rfl) g17) me_int)))) (and_c hv18))) (fun h => ?_) fun h => ms_nil ?_)
  · replace hx := cond_t hx h
    cases hx
  replace hx := cond_f hx h
  replace hx := bd_some hx
  obtain ⟨n20, hn20, hx⟩ := hx
  replace hx := gd_some hx
  obtain ⟨g21, hx⟩ := hx
  replace hx := bd_some hx
  obtain ⟨n22, hn22, hx⟩ := hx
  replace hx := gd_some hx
  obtain ⟨g23, hx⟩ := hx
  refine ms_one (m_ret (ps_ret pe_w) (ME.r (me_add (me_mul (me_intS (by rfl) z_int (me_var (pv 1) rfl) hn20 g21) me_int (.inr ⟨by decide, by decide⟩)) (me_intS (by rfl) z_int (me_var (pv 3) rfl) hn22 g23))) ?_)
  cases hx; rfl

noncomputable def M_is_name (thing : Str) : Option Bool :=
  cond (!true) (some false) <|
  gd (thing.length ≤ sizeLine) <|
  bd (cond (decide ((thing.length : Int) < 1)) (some true) (gd (thing.length ≤ sizeLine) <| some (decide (8 < (thing.length : Int))))) fun v3 =>
  cond v3 (some false) <|
  bd (lpO (fun (x6 : Nat) (p5 : Unit) => (cond (!decide (x6 ∈ ("abcdefghijklmnopqrstuvwxyz" : Str).cps.toList)) (some (.rt false)) <|
    some (.nx ()) : Option (Ou (Unit) (Unit) Bool))) thing.cps.toList ()) fun o7 => ouR o7 fun p5 =>
  some true
def sp_is_name (K : PySem.W.Frag) : Sp := SpF K (fun x : Str => [.fz (.str x)]) (fun x => M_is_name x) (fun r => .fz (.bl r))
abbrev N_is_name : List Str := ["thing", "sign"]
theorem sc_is_name : FnScope N_is_name ["thing"] (defScope s_is_name) := ⟨rfl, rfl, rfl, by decide +kernel, rfl, by decide +kernel, by decide +kernel⟩
theorem ok_is_name {f : Addr} {fd : FuncData} (F : Fun K "is_name" "is_name" s_is_name f fd) (z_isinstance : mg "isinstance" = none) (z_str : mg "str" = none) (z_len : mg "len" = none) (g_LETTERS : mg "LETTERS" = some (.str "abcdefghijklmnopqrstuvwxyz" tkLETTERS)) : FnOk P w K mg base CX0 1 f fd ["thing"] (sp_is_name K) := by
  refine fn_m F sc_is_name (fun x => rfl) (fun x _ => rfl) fun cdv A outer s H E hr x hx => ?_
  obtain ⟨thing, r⟩ := x
  replace hx : M_is_name thing = some r := hx
  have nd := sc_is_name.nd
  unfold M_is_name at hx
  show MS _ [some (.fz (.str thing)), none] _ _
  refine ms_cons (m_if (t := (!true)) (mt_not (mt_val (me_isi (k := true) (by rfl) z_isinstance (pe_bltn (v := .ty "str") (by rfl) z_str (by decide +kernel) rfl) (mv_var (pv 0) rfl) rfl (by decide +kernel)))) (fun h => ?_) fun h => ms_nil ?_)
  · replace hx := cond_t hx h
    refine ms_one (m_ret (ps_ret pe_w) (ME.r me_bl) ?_)
    cases hx; rfl
  replace hx := cond_f hx h
  replace hx := gd_some hx
  obtain ⟨g1, hx⟩ := hx
  replace hx := bd_some hx
  obtain ⟨v3, hv3, hx⟩ := hx
  refine ms_cons (m_if (t := v3) (MW.t (MW.is (mw_or (mt_lt (me_lenS (by rfl) z_len (me_var (pv 0) rfl) g1) me_int) fun q4 => (by have hx := cond_f hv3 q4; replace hx := gd_some hx; obtain ⟨g2, hx⟩ := hx; cases hx; exact (mw_or1 (mt_gt (me_lenS (by rfl) z_len (me_var (pv 0) rfl) g2) me_int)))) (or_c hv3))) (fun h => ?_) fun h => ms_nil ?_)
  · replace hx := cond_t hx h
    refine ms_one (m_ret (ps_ret pe_w) (ME.r me_bl) ?_)
    cases hx; rfl
  replace hx := cond_f hx h
  replace hx := bd_some hx
  obtain ⟨o7, ho7, hx⟩ := hx
  refine ms_cons (m_forO (xs := thing.cps.toList) (enc := (fun c => D.str ⟨#[c]⟩)) (ps_for PassesOwn.never rfl (pi_str pe_w) (pg_name (i := 1) nd rfl (Or.inl rfl)) pss_w) (by exact (mi_strT (me_var (pv 0) rfl))) ho7 (fun p5 => [some (.fz (.str thing)), none]) (fun r => .fz (.bl r)) le_auto (fun x6 p5 p5o mx hx => ?_) (fun p5 τ e le => ?_) fun q e => ?_)
  ·
    refine ⟨_, _, mg_name, ?_⟩
    show MS _ [some (.fz (.str thing)), some (.fz (.str (sg1 x6)))] _ _
    refine ms_one (m_if (t := (!decide (x6 ∈ ("abcdefghijklmnopqrstuvwxyz" : Str).cps.toList))) (mt_niS (me_var (pv 1) rfl) (me_gS g_LETTERS)) (fun h => ?_) fun h => ms_nil ?_)
    · replace hx := cond_t hx h
      refine ms_one (m_ret (ps_ret pe_w) (ME.r me_bl) ?_)
      cases hx; exact ⟨_, rfl, rfl⟩
    replace hx := cond_f hx h
    cases hx; exact ⟨_, rfl, le_auto⟩
  · subst e
    dsimp only [ouR] at hx
    refine ms_le le ?_
    show MS _ [some (.fz (.str thing)), none] _ _
    refine ms_one (m_ret (ps_ret pe_w) (ME.r me_bl) ?_)
    cases hx; rfl
  · subst e; cases hx; rfl

noncomputable def M_is_day (thing : Int) : Option Bool :=
  bd (M_is_whole (.int thing)) fun v1 =>
  some (v1 && (decide (0 ≤ thing) && decide (thing ≤ 1000000)))
def sp_is_day (K : PySem.W.Frag) : Sp := SpF K (fun x : Int => [.fz (.int x)]) (fun x => M_is_day x) (fun r => .fz (.bl r))
abbrev N_is_day : List Str := ["thing"]
theorem sc_is_day : FnScope N_is_day ["thing"] (defScope s_is_day) := ⟨rfl, rfl, rfl, by decide +kernel, rfl, by decide +kernel, by decide +kernel⟩
theorem ok_is_day {f : Addr} {fd : FuncData} (F : Fun K "is_day" "is_day" s_is_day f fd) (g_LAST_DAY : mg "LAST_DAY" = some (.int 1000000 tkLAST_DAY)) (c_is_whole : Fn1 P w K mg base "is_whole" 1 ["thing"] (sp_is_whole K)) : FnOk P w K mg base CX0 2 f fd ["thing"] (sp_is_day K) := by
  refine fn_m F sc_is_day (fun x => rfl) (fun x _ => rfl) fun cdv A outer s H E hr x hx => ?_
  obtain ⟨thing, r⟩ := x
  replace hx : M_is_day thing = some r := hx
  have nd := sc_is_day.nd
  unfold M_is_day at hx
  show MS _ [some (.fz (.int thing))] _ _
  replace hx := bd_some hx
  obtain ⟨v1, hv1, hx⟩ := hx
  refine ms_one (m_ret (ps_ret pe_w) (ME.r (me_and (me_fn c_is_whole ((.int thing), v1) (ma_fz (me_var (pv 0) rfl) ma_nil) hv1 (hr.mono (by decide))) fun _ => (me_one (me_chain (f := fun i j => decide (i ≤ j)) (f' := fun i j => decide (i ≤ j)) op_le op_le me_int (me_var (pv 0) rfl) (me_gI g_LAST_DAY))))) ?_)
  cases hx; rfl

abbrev e_T_i_i_s_s_s_i (p : (Int × Int × Str × Str × Str × Int)) : D := .tup [.int p.1, .int p.2.1, .str p.2.2.1, .str p.2.2.2.1, .str p.2.2.2.2.1, .int p.2.2.2.2.2]
noncomputable def M_Condition_holds (self : Cd) (loss : (Int × Int × Str × Str × Str × Int)) : Option Bool :=
  some true
def sp_Condition_holds (K : PySem.W.Frag) (C_Condition C_CauseIs C_ThingIs C_DaysIn C_Over C_Not C_All C_Some : Addr) : Sp := SpF K (fun x : Cd × (Int × Int × Str × Str × Str × Int) => [.fz ((u_Cd C_Condition C_CauseIs C_ThingIs C_DaysIn C_Over C_Not C_All C_Some) x.1), .fz (e_T_i_i_s_s_s_i x.2)]) (fun x => M_Condition_holds x.1 x.2) (fun r => .fz (.bl r))
abbrev N_Condition_holds : List Str := ["self", "loss"]
theorem sc_Condition_holds : FnScope N_Condition_holds ["self", "loss"] (defScope s_Condition_holds) := ⟨rfl, rfl, rfl, by decide +kernel, rfl, by decide +kernel, by decide +kernel⟩
theorem ok_Condition_holds {f : Addr} {fd : FuncData} (F : Fun K "holds" "Condition.holds" s_Condition_holds f fd)  : FnOk P w K mg base CX0 1 f fd ["self", "loss"] (sp_Condition_holds K C_Condition C_CauseIs C_ThingIs C_DaysIn C_Over C_Not C_All C_Some) := by
  refine fn_m F sc_Condition_holds (fun x => rfl) (fun x _ => rfl) fun cdv A outer s H E hr x hx => ?_
  obtain ⟨⟨self, loss⟩, r⟩ := x
  replace hx : M_Condition_holds self loss = some r := hx
  have nd := sc_Condition_holds.nd
  unfold M_Condition_holds at hx
  show MS _ [some (.fz ((u_Cd C_Condition C_CauseIs C_ThingIs C_DaysIn C_Over C_Not C_All C_Some) self)), some (.fz (e_T_i_i_s_s_s_i loss))] _ _
  refine ms_one (m_ret (ps_ret pe_w) (ME.r me_bl) ?_)
  cases hx; rfl

noncomputable def M_CauseIs_holds (self : Str) (loss : (Int × Int × Str × Str × Str × Int)) : Option Bool :=
  some ((loss.2.2.2.2.1 == self))
def sp_CauseIs_holds (K : PySem.W.Frag) (C_CauseIs : Addr) : Sp := SpF K (fun x : Str × (Int × Int × Str × Str × Str × Int) => [.fz ((r_CauseIs C_CauseIs) x.1), .fz (e_T_i_i_s_s_s_i x.2)]) (fun x => M_CauseIs_holds x.1 x.2) (fun r => .fz (.bl r))
abbrev N_CauseIs_holds : List Str := ["self", "loss"]
theorem sc_CauseIs_holds : FnScope N_CauseIs_holds ["self", "loss"] (defScope s_CauseIs_holds) := ⟨rfl, rfl, rfl, by decide +kernel, rfl, by decide +kernel, by decide +kernel⟩
theorem ok_CauseIs_holds {f : Addr} {fd : FuncData} (F : Fun K "holds" "CauseIs.holds" s_CauseIs_holds f fd) (o_CauseIs : OC K C_CauseIs ["name"]) : FnOk P w K mg base CX0 1 f fd ["self", "loss"] (sp_CauseIs_holds K C_CauseIs) := by
  refine fn_m F sc_CauseIs_holds (fun x => rfl) (fun x _ => rfl) fun cdv A outer s H E hr x hx => ?_
  obtain ⟨⟨self, loss⟩, r⟩ := x
  replace hx : M_CauseIs_holds self loss = some r := hx
  have nd := sc_CauseIs_holds.nd
  unfold M_CauseIs_holds at hx
  show MS _ [some (.fz ((r_CauseIs C_CauseIs) self)), some (.fz (e_T_i_i_s_s_s_i loss))] _ _
  refine ms_one (m_ret (ps_ret pe_w) (ME.r (me_eqS (me_ixT (MV.u (ME.v (me_var (pv 1) rfl)) (.fz _)) me_int rfl) (me_fld (j := 0) (mv_var (pv 0) rfl) o_CauseIs))) ?_)
  cases hx; rfl

noncomputable def M_ThingIs_holds (self : Str) (loss : (Int × Int × Str × Str × Str × Int)) : Option Bool :=
  some ((loss.2.2.2.1 == self))
def sp_ThingIs_holds (K : PySem.W.Frag) (C_ThingIs : Addr) : Sp := SpF K (fun x : Str × (Int × Int × Str × Str × Str × Int) => [.fz ((r_ThingIs C_ThingIs) x.1), .fz (e_T_i_i_s_s_s_i x.2)]) (fun x => M_ThingIs_holds x.1 x.2) (fun r => .fz (.bl r))
abbrev N_ThingIs_holds : List Str := ["self", "loss"]
theorem sc_ThingIs_holds : FnScope N_ThingIs_holds ["self", "loss"] (defScope s_ThingIs_holds) := ⟨rfl, rfl, rfl, by decide +kernel, rfl, by decide +kernel, by decide +kernel⟩
theorem ok_ThingIs_holds {f : Addr} {fd : FuncData} (F : Fun K "holds" "ThingIs.holds" s_ThingIs_holds f fd) (o_ThingIs : OC K C_ThingIs ["name"]) : FnOk P w K mg base CX0 1 f fd ["self", "loss"] (sp_ThingIs_holds K C_ThingIs) := by
  refine fn_m F sc_ThingIs_holds (fun x => rfl) (fun x _ => rfl) fun cdv A outer s H E hr x hx => ?_
  obtain ⟨⟨self, loss⟩, r⟩ := x
  replace hx : M_ThingIs_holds self loss = some r := hx
  have nd := sc_ThingIs_holds.nd
  unfold M_ThingIs_holds at hx
  show MS _ [some (.fz ((r_ThingIs C_ThingIs) self)), some (.fz (e_T_i_i_s_s_s_i loss))] _ _
  refine ms_one (m_ret (ps_ret pe_w) (ME.r (me_eqS (me_ixT (MV.u (ME.v (me_var (pv 1) rfl)) (.fz _)) me_int rfl) (me_fld (j := 0) (mv_var (pv 0) rfl) o_ThingIs))) ?_)
  cases hx; rfl

noncomputable def M_DaysIn_holds (self : (Int × Int)) (loss : (Int × Int × Str × Str × Str × Int)) : Option Bool :=
  some (decide (self.1 ≤ loss.2.1) && decide (loss.2.1 ≤ self.2))
def sp_DaysIn_holds (K : PySem.W.Frag) (C_DaysIn : Addr) : Sp := SpF K (fun x : (Int × Int) × (Int × Int × Str × Str × Str × Int) => [.fz ((r_DaysIn C_DaysIn) x.1), .fz (e_T_i_i_s_s_s_i x.2)]) (fun x => M_DaysIn_holds x.1 x.2) (fun r => .fz (.bl r))
abbrev N_DaysIn_holds : List Str := ["self", "loss"]
theorem sc_DaysIn_holds : FnScope N_DaysIn_holds ["self", "loss"] (defScope s_DaysIn_holds) := ⟨rfl, rfl, rfl, by decide +kernel, rfl, by decide +kernel, by decide +kernel⟩
theorem ok_DaysIn_holds {f : Addr} {fd : FuncData} (F : Fun K "holds" "DaysIn.holds" s_DaysIn_holds f fd) (o_DaysIn : OC K C_DaysIn ["first", "last"]) : FnOk P w K mg base CX0 1 f fd ["self", "loss"] (sp_DaysIn_holds K C_DaysIn) := by
  refine fn_m F sc_DaysIn_holds (fun x => rfl) (fun x _ => rfl) fun cdv A outer s H E hr x hx => ?_
  obtain ⟨⟨self, loss⟩, r⟩ := x
  replace hx : M_DaysIn_holds self loss = some r := hx
  have nd := sc_DaysIn_holds.nd
  unfold M_DaysIn_holds at hx
  show MS _ [some (.fz ((r_DaysIn C_DaysIn) self)), some (.fz (e_T_i_i_s_s_s_i loss))] _ _
  refine ms_one (m_ret (ps_ret pe_w) (ME.r (me_chain (f := fun i j => decide (i ≤ j)) (f' := fun i j => decide (i ≤ j)) op_le op_le (me_fld (j := 0) (mv_var (pv 0) rfl) o_DaysIn) (me_ixT (MV.u (ME.v (me_var (pv 1) rfl)) (.fz _)) me_int rfl) (me_fld (j := 1) (mv_var (pv 0) rfl) o_DaysIn))) ?_)
  cases hx; rfl

noncomputable def M_Over_holds (self : Int) (loss : (Int × Int × Str × Str × Str × Int)) : Option Bool :=
  some (decide (self < loss.2.2.2.2.2))
def sp_Over_holds (K : PySem.W.Frag) (C_Over : Addr) : Sp := SpF K (fun x : Int × (Int × Int × Str × Str × Str × Int) => [.fz ((r_Over C_Over) x.1), .fz (e_T_i_i_s_s_s_i x.2)]) (fun x => M_Over_holds x.1 x.2) (fun r => .fz (.bl r))
abbrev N_Over_holds : List Str := ["self", "loss"]
theorem sc_Over_holds : FnScope N_Over_holds ["self", "loss"] (defScope s_Over_holds) := ⟨rfl, rfl, rfl, by decide +kernel, rfl, by decide +kernel, by decide +kernel⟩
theorem ok_Over_holds {f : Addr} {fd : FuncData} (F : Fun K "holds" "Over.holds" s_Over_holds f fd) (o_Over : OC K C_Over ["cents"]) : FnOk P w K mg base CX0 1 f fd ["self", "loss"] (sp_Over_holds K C_Over) := by
  refine fn_m F sc_Over_holds (fun x => rfl) (fun x _ => rfl) fun cdv A outer s H E hr x hx => ?_
  obtain ⟨⟨self, loss⟩, r⟩ := x
  replace hx : M_Over_holds self loss = some r := hx
  have nd := sc_Over_holds.nd
  unfold M_Over_holds at hx
  show MS _ [some (.fz ((r_Over C_Over) self)), some (.fz (e_T_i_i_s_s_s_i loss))] _ _
  refine ms_one (m_ret (ps_ret pe_w) (ME.r (me_gt (me_ixT (MV.u (ME.v (me_var (pv 1) rfl)) (.fz _)) me_int rfl) (me_fld (j := 0) (mv_var (pv 0) rfl) o_Over))) ?_)
  cases hx; rfl

noncomputable def M_CauseIs___init__ (name : Str) : Option Str :=
  some name
def sp_CauseIs___init__ (K : PySem.W.Frag) (C_CauseIs : Addr) : Sp := SpX K (fun x : ((Str) × Str) => [.fz (.str x.1)]) (fun x => M_CauseIs___init__ x.1 = some x.2) (fun l x => .at l C_CauseIs [] []) (fun l x => .at l C_CauseIs ["name"] [(.fz (.str x.2))]) (fun _ => .fz .non)
def spI_CauseIs___init__ (K : PySem.W.Frag) (C_CauseIs : Addr) : Sp := SpI K C_CauseIs ["name"] (fun x : ((Str) × Str) => [.fz (.str x.1)]) (fun x => M_CauseIs___init__ x.1 = some x.2) (fun x => [(.fz (.str x.2))])
theorem toI_CauseIs___init__ {k : Nat} {f : Addr} {fd : FuncData} {ps : List Str} {C_CauseIs : Addr} (h : FnOk P w K mg base CX0 k f fd ps (sp_CauseIs___init__ K C_CauseIs)) : FnOk P w K mg base CX0 k f fd ps (spI_CauseIs___init__ K C_CauseIs) := SpX.init (fun y => y) h (fun _ => rfl) (fun _ h => h) (fun _ _ => rfl) (fun _ _ => rfl)
abbrev N_CauseIs___init__ : List Str := ["self", "name"]
theorem sc_CauseIs___init__ : FnScope N_CauseIs___init__ ["self", "name"] (defScope s_CauseIs___init__) := ⟨rfl, rfl, rfl, by decide +kernel, rfl, by decide +kernel, by decide +kernel⟩
theorem ok_CauseIs___init__ {f : Addr} {fd : FuncData} (F : Fun K "__init__" "CauseIs.__init__" s_CauseIs___init__ f fd) (o_CauseIs : OC K C_CauseIs ["name"]) : FnOk P w K mg base CX0 1 f fd ["self", "name"] (sp_CauseIs___init__ K C_CauseIs) := by
  refine fn_mX F sc_CauseIs___init__ (fun x => rfl) (fun l x _ => rfl) (fun x _ => rfl) (fun l x => ⟨_, _, _, rfl⟩) fun cdv A outer s H E hr l x hx => ?_
  obtain ⟨name, r⟩ := x
  replace hx : M_CauseIs___init__ name = some r := hx
  have nd := sc_CauseIs___init__.nd
  unfold M_CauseIs___init__ at hx
  show MS _ [some (.at l C_CauseIs [] []), some (.fz (.str name))] _ _
  refine ms_one (m_setFldN (i := 0) (pv _) rfl o_CauseIs (me_var (pv 1) rfl) ?_)
  cases hx; exact ⟨rfl, rfl⟩

noncomputable def M_ThingIs___init__ (name : Str) : Option Str :=
  some name
def sp_ThingIs___init__ (K : PySem.W.Frag) (C_ThingIs : Addr) : Sp := SpX K (fun x : ((Str) × Str) => [.fz (.str x.1)]) (fun x => M_ThingIs___init__ x.1 = some x.2) (fun l x => .at l C_ThingIs [] []) (fun l x => .at l C_ThingIs ["name"] [(.fz (.str x.2))]) (fun _ => .fz .non)
def spI_ThingIs___init__ (K : PySem.W.Frag) (C_ThingIs : Addr) : Sp := SpI K C_ThingIs ["name"] (fun x : ((Str) × Str) => [.fz (.str x.1)]) (fun x => M_ThingIs___init__ x.1 = some x.2) (fun x => [(.fz (.str x.2))])
theorem toI_ThingIs___init__ {k : Nat} {f : Addr} {fd : FuncData} {ps : List Str} {C_ThingIs : Addr} (h : FnOk P w K mg base CX0 k f fd ps (sp_ThingIs___init__ K C_ThingIs)) : FnOk P w K mg base CX0 k f fd ps (spI_ThingIs___init__ K C_ThingIs) := SpX.init (fun y => y) h (fun _ => rfl) (fun _ h => h) (fun _ _ => rfl) (fun _ _ => rfl)
abbrev N_ThingIs___init__ : List Str := ["self", "name"]
theorem sc_ThingIs___init__ : FnScope N_ThingIs___init__ ["self", "name"] (defScope s_ThingIs___init__) := ⟨rfl, rfl, rfl, by decide +kernel, rfl, by decide +kernel, by decide +kernel⟩
theorem ok_ThingIs___init__ {f : Addr} {fd : FuncData} (F : Fun K "__init__" "ThingIs.__init__" s_ThingIs___init__ f fd) (o_ThingIs : OC K C_ThingIs ["name"]) : FnOk P w K mg base CX0 1 f fd ["self", "name"] (sp_ThingIs___init__ K C_ThingIs) := by
  refine fn_mX F sc_ThingIs___init__ (fun x => rfl) (fun l x _ => rfl) (fun x _ => rfl) (fun l x => ⟨_, _, _, rfl⟩) fun cdv A outer s H E hr l x hx => ?_
  obtain ⟨name, r⟩ := x
  replace hx : M_ThingIs___init__ name = some r := hx
  have nd := sc_ThingIs___init__.nd
  unfold M_ThingIs___init__ at hx
  show MS _ [some (.at l C_ThingIs [] []), some (.fz (.str name))] _ _
  refine ms_one (m_setFldN (i := 0) (pv _) rfl o_ThingIs (me_var (pv 1) rfl) ?_)
  cases hx; exact ⟨rfl, rfl⟩

noncomputable def M_DaysIn___init__ (first : Int) (last : Int) : Option (Int × Int) :=
  some (first, last)
def sp_DaysIn___init__ (K : PySem.W.Frag) (C_DaysIn : Addr) : Sp := SpX K (fun x : ((Int × Int) × (Int × Int)) => [.fz (.int x.1.1), .fz (.int x.1.2)]) (fun x => M_DaysIn___init__ x.1.1 x.1.2 = some x.2) (fun l x => .at l C_DaysIn [] []) (fun l x => .at l C_DaysIn ["first", "last"] [(.fz (.int x.2.1)), (.fz (.int x.2.2))]) (fun _ => .fz .non)
def spI_DaysIn___init__ (K : PySem.W.Frag) (C_DaysIn : Addr) : Sp := SpI K C_DaysIn ["first", "last"] (fun x : ((Int × Int) × (Int × Int)) => [.fz (.int x.1.1), .fz (.int x.1.2)]) (fun x => M_DaysIn___init__ x.1.1 x.1.2 = some x.2) (fun x => [(.fz (.int x.2.1)), (.fz (.int x.2.2))])
theorem toI_DaysIn___init__ {k : Nat} {f : Addr} {fd : FuncData} {ps : List Str} {C_DaysIn : Addr} (h : FnOk P w K mg base CX0 k f fd ps (sp_DaysIn___init__ K C_DaysIn)) : FnOk P w K mg base CX0 k f fd ps (spI_DaysIn___init__ K C_DaysIn) := SpX.init (fun y => y) h (fun _ => rfl) (fun _ h => h) (fun _ _ => rfl) (fun _ _ => rfl)
abbrev N_DaysIn___init__ : List Str := ["self", "first", "last"]
theorem sc_DaysIn___init__ : FnScope N_DaysIn___init__ ["self", "first", "last"] (defScope s_DaysIn___init__) := ⟨rfl, rfl, rfl, by decide +kernel, rfl, by decide +kernel, by decide +kernel⟩
theorem ok_DaysIn___init__ {f : Addr} {fd : FuncData} (F : Fun K "__init__" "DaysIn.__init__" s_DaysIn___init__ f fd) (o_DaysIn : OC K C_DaysIn ["first", "last"]) : FnOk P w K mg base CX0 1 f fd ["self", "first", "last"] (sp_DaysIn___init__ K C_DaysIn) := by
  refine fn_mX F sc_DaysIn___init__ (fun x => rfl) (fun l x _ => rfl) (fun x _ => rfl) (fun l x => ⟨_, _, _, rfl⟩) fun cdv A outer s H E hr l x hx => ?_
  obtain ⟨⟨first, last⟩, r⟩ := x
  replace hx : M_DaysIn___init__ first last = some r := hx
  have nd := sc_DaysIn___init__.nd
  unfold M_DaysIn___init__ at hx
  show MS _ [some (.at l C_DaysIn [] []), some (.fz (.int first)), some (.fz (.int last))] _ _
  refine ms_cons (m_setFldN (i := 0) (pv _) rfl o_DaysIn (me_var (pv 1) rfl) ?_)
  show MS _ [some (.at l C_DaysIn ["first"] [(.fz (.int first))]), some (.fz (.int first)), some (.fz (.int last))] _ _
  refine ms_one (m_setFldN (i := 0) (pv _) rfl o_DaysIn (me_var (pv 2) rfl) ?_)
  cases hx; exact ⟨rfl, rfl⟩

noncomputable def M_Over___init__ (cents : Int) : Option Int :=
  some cents
def sp_Over___init__ (K : PySem.W.Frag) (C_Over : Addr) : Sp := SpX K (fun x : ((Int) × Int) => [.fz (.int x.1)]) (fun x => M_Over___init__ x.1 = some x.2) (fun l x => .at l C_Over [] []) (fun l x => .at l C_Over ["cents"] [(.fz (.int x.2))]) (fun _ => .fz .non)
def spI_Over___init__ (K : PySem.W.Frag) (C_Over : Addr) : Sp := SpI K C_Over ["cents"] (fun x : ((Int) × Int) => [.fz (.int x.1)]) (fun x => M_Over___init__ x.1 = some x.2) (fun x => [(.fz (.int x.2))])
theorem toI_Over___init__ {k : Nat} {f : Addr} {fd : FuncData} {ps : List Str} {C_Over : Addr} (h : FnOk P w K mg base CX0 k f fd ps (sp_Over___init__ K C_Over)) : FnOk P w K mg base CX0 k f fd ps (spI_Over___init__ K C_Over) := SpX.init (fun y => y) h (fun _ => rfl) (fun _ h => h) (fun _ _ => rfl) (fun _ _ => rfl)
abbrev N_Over___init__ : List Str := ["self", "cents"]
theorem sc_Over___init__ : FnScope N_Over___init__ ["self", "cents"] (defScope s_Over___init__) := ⟨rfl, rfl, rfl, by decide +kernel, rfl, by decide +kernel, by decide +kernel⟩
theorem ok_Over___init__ {f : Addr} {fd : FuncData} (F : Fun K "__init__" "Over.__init__" s_Over___init__ f fd) (o_Over : OC K C_Over ["cents"]) : FnOk P w K mg base CX0 1 f fd ["self", "cents"] (sp_Over___init__ K C_Over) := by
  refine fn_mX F sc_Over___init__ (fun x => rfl) (fun l x _ => rfl) (fun x _ => rfl) (fun l x => ⟨_, _, _, rfl⟩) fun cdv A outer s H E hr l x hx => ?_
  obtain ⟨cents, r⟩ := x
  replace hx : M_Over___init__ cents = some r := hx
  have nd := sc_Over___init__.nd
  unfold M_Over___init__ at hx
  show MS _ [some (.at l C_Over [] []), some (.fz (.int cents))] _ _
  refine ms_one (m_setFldN (i := 0) (pv _) rfl o_Over (me_var (pv 1) rfl) ?_)
  cases hx; exact ⟨rfl, rfl⟩

noncomputable def M_Not___init__ (part : Cd) : Option Cd :=
  some part
def sp_Not___init__ (K : PySem.W.Frag) (C_Not C_Condition C_CauseIs C_ThingIs C_DaysIn C_Over C_All C_Some : Addr) : Sp := SpX K (fun x : ((Cd) × Cd) => [.fz ((u_Cd C_Condition C_CauseIs C_ThingIs C_DaysIn C_Over C_Not C_All C_Some) x.1)]) (fun x => M_Not___init__ x.1 = some x.2) (fun l x => .at l C_Not [] []) (fun l x => .at l C_Not ["part"] [(.fz ((u_Cd C_Condition C_CauseIs C_ThingIs C_DaysIn C_Over C_Not C_All C_Some) x.2))]) (fun _ => .fz .non)
def spI_Not___init__ (K : PySem.W.Frag) (C_Not C_Condition C_CauseIs C_ThingIs C_DaysIn C_Over C_All C_Some : Addr) : Sp := SpI K C_Not ["part"] (fun x : ((Cd) × Cd) => [.fz ((u_Cd C_Condition C_CauseIs C_ThingIs C_DaysIn C_Over C_Not C_All C_Some) x.1)]) (fun x => M_Not___init__ x.1 = some x.2) (fun x => [(.fz ((u_Cd C_Condition C_CauseIs C_ThingIs C_DaysIn C_Over C_Not C_All C_Some) x.2))])
theorem toI_Not___init__ {k : Nat} {f : Addr} {fd : FuncData} {ps : List Str} {C_Not C_Condition C_CauseIs C_ThingIs C_DaysIn C_Over C_All C_Some : Addr} (h : FnOk P w K mg base CX0 k f fd ps (sp_Not___init__ K C_Not C_Condition C_CauseIs C_ThingIs C_DaysIn C_Over C_All C_Some)) : FnOk P w K mg base CX0 k f fd ps (spI_Not___init__ K C_Not C_Condition C_CauseIs C_ThingIs C_DaysIn C_Over C_All C_Some) := SpX.init (fun y => y) h (fun _ => rfl) (fun _ h => h) (fun _ _ => rfl) (fun _ _ => rfl)
abbrev N_Not___init__ : List Str := ["self", "part"]
theorem sc_Not___init__ : FnScope N_Not___init__ ["self", "part"] (defScope s_Not___init__) := ⟨rfl, rfl, rfl, by decide +kernel, rfl, by decide +kernel, by decide +kernel⟩
theorem ok_Not___init__ {f : Addr} {fd : FuncData} (F : Fun K "__init__" "Not.__init__" s_Not___init__ f fd) (o_Not : OC K C_Not ["part"]) : FnOk P w K mg base CX0 1 f fd ["self", "part"] (sp_Not___init__ K C_Not C_Condition C_CauseIs C_ThingIs C_DaysIn C_Over C_All C_Some) := by
  refine fn_mX F sc_Not___init__ (fun x => rfl) (fun l x _ => rfl) (fun x _ => rfl) (fun l x => ⟨_, _, _, rfl⟩) fun cdv A outer s H E hr l x hx => ?_
  obtain ⟨part, r⟩ := x
  replace hx : M_Not___init__ part = some r := hx
  have nd := sc_Not___init__.nd
  unfold M_Not___init__ at hx
  show MS _ [some (.at l C_Not [] []), some (.fz ((u_Cd C_Condition C_CauseIs C_ThingIs C_DaysIn C_Over C_Not C_All C_Some) part))] _ _
  refine ms_one (m_setFldN (i := 0) (pv _) rfl o_Not (me_var (pv 1) rfl) ?_)
  cases hx; exact ⟨rfl, rfl⟩

noncomputable def M_All___init__ (several : (List Cd)) : Option (List Cd) :=
  some several
def sp_All___init__ (K : PySem.W.Frag) (C_All C_Condition C_CauseIs C_ThingIs C_DaysIn C_Over C_Not C_Some : Addr) : Sp := SpX K (fun x : (((List Cd)) × (List Cd)) => [.vw (x.1.map (u_Cd C_Condition C_CauseIs C_ThingIs C_DaysIn C_Over C_Not C_All C_Some))]) (fun x => M_All___init__ x.1 = some x.2) (fun l x => .at l C_All [] []) (fun l x => .at l C_All ["several"] [(.lst ((x.2.map (u_Cd C_Condition C_CauseIs C_ThingIs C_DaysIn C_Over C_Not C_All C_Some)).map .fz))]) (fun _ => .fz .non)
def spI_All___init__ (K : PySem.W.Frag) (C_All C_Condition C_CauseIs C_ThingIs C_DaysIn C_Over C_Not C_Some : Addr) : Sp := SpI K C_All ["several"] (fun x : (((List Cd)) × (List Cd)) => [.vw (x.1.map (u_Cd C_Condition C_CauseIs C_ThingIs C_DaysIn C_Over C_Not C_All C_Some))]) (fun x => M_All___init__ x.1 = some x.2) (fun x => [(.lst ((x.2.map (u_Cd C_Condition C_CauseIs C_ThingIs C_DaysIn C_Over C_Not C_All C_Some)).map .fz))])
theorem toI_All___init__ {k : Nat} {f : Addr} {fd : FuncData} {ps : List Str} {C_All C_Condition C_CauseIs C_ThingIs C_DaysIn C_Over C_Not C_Some : Addr} (h : FnOk P w K mg base CX0 k f fd ps (sp_All___init__ K C_All C_Condition C_CauseIs C_ThingIs C_DaysIn C_Over C_Not C_Some)) : FnOk P w K mg base CX0 k f fd ps (spI_All___init__ K C_All C_Condition C_CauseIs C_ThingIs C_DaysIn C_Over C_Not C_Some) := SpX.init (fun y => y) h (fun _ => rfl) (fun _ h => h) (fun _ _ => rfl) (fun _ _ => rfl)
abbrev N_All___init__ : List Str := ["self", "several"]
theorem sc_All___init__ : FnScope N_All___init__ ["self", "several"] (defScope s_All___init__) := ⟨rfl, rfl, rfl, by decide +kernel, rfl, by decide +kernel, by decide +kernel⟩
theorem ok_All___init__ {f : Addr} {fd : FuncData} (F : Fun K "__init__" "All.__init__" s_All___init__ f fd) (z_list : mg "list" = none) (o_All : OC K C_All ["several"]) : FnOk P w K mg base CX0 1 f fd ["self", "several"] (sp_All___init__ K C_All C_Condition C_CauseIs C_ThingIs C_DaysIn C_Over C_Not C_Some) := by
  refine fn_mX F sc_All___init__ (fun x => rfl) (fun l x _ => by simp only [O.nv, O.nvL, O.nvL_fz, Bool.and_self]) (fun x _ => rfl) (fun l x => ⟨_, _, _, rfl⟩) fun cdv A outer s H E hr l x hx => ?_
  obtain ⟨several, r⟩ := x
  replace hx : M_All___init__ several = some r := hx
  have nd := sc_All___init__.nd
  unfold M_All___init__ at hx
  show MS _ [some (.at l C_All [] []), some (.vw (several.map (u_Cd C_Condition C_CauseIs C_ThingIs C_DaysIn C_Over C_Not C_All C_Some)))] _ _
  refine ms_one (m_setFldN (i := 0) (pv _) rfl o_All (me_list (ds := several.map (u_Cd C_Condition C_CauseIs C_ThingIs C_DaysIn C_Over C_Not C_All C_Some)) (by rfl) z_list (ml_var (pv 1) rfl)) ?_)
  cases hx; exact ⟨rfl, rfl⟩

noncomputable def M_Some___init__ (several : (List Cd)) : Option (List Cd) :=
  some several
def sp_Some___init__ (K : PySem.W.Frag) (C_Some C_Condition C_CauseIs C_ThingIs C_DaysIn C_Over C_Not C_All : Addr) : Sp := SpX K (fun x : (((List Cd)) × (List Cd)) => [.vw (x.1.map (u_Cd C_Condition C_CauseIs C_ThingIs C_DaysIn C_Over C_Not C_All C_Some))]) (fun x => M_Some___init__ x.1 = some x.2) (fun l x => .at l C_Some [] []) (fun l x => .at l C_Some ["several"] [(.lst ((x.2.map (u_Cd C_Condition C_CauseIs C_ThingIs C_DaysIn C_Over C_Not C_All C_Some)).map .fz))]) (fun _ => .fz .non)
def spI_Some___init__ (K : PySem.W.Frag) (C_Some C_Condition C_CauseIs C_ThingIs C_DaysIn C_Over C_Not C_All : Addr) : Sp := SpI K C_Some ["several"] (fun x : (((List Cd)) × (List Cd)) => [.vw (x.1.map (u_Cd C_Condition C_CauseIs C_ThingIs C_DaysIn C_Over C_Not C_All C_Some))]) (fun x => M_Some___init__ x.1 = some x.2) (fun x => [(.lst ((x.2.map (u_Cd C_Condition C_CauseIs C_ThingIs C_DaysIn C_Over C_Not C_All C_Some)).map .fz))])
theorem toI_Some___init__ {k : Nat} {f : Addr} {fd : FuncData} {ps : List Str} {C_Some C_Condition C_CauseIs C_ThingIs C_DaysIn C_Over C_Not C_All : Addr} (h : FnOk P w K mg base CX0 k f fd ps (sp_Some___init__ K C_Some C_Condition C_CauseIs C_ThingIs C_DaysIn C_Over C_Not C_All)) : FnOk P w K mg base CX0 k f fd ps (spI_Some___init__ K C_Some C_Condition C_CauseIs C_ThingIs C_DaysIn C_Over C_Not C_All) := SpX.init (fun y => y) h (fun _ => rfl) (fun _ h => h) (fun _ _ => rfl) (fun _ _ => rfl)
abbrev N_Some___init__ : List Str := ["self", "several"]
theorem sc_Some___init__ : FnScope N_Some___init__ ["self", "several"] (defScope s_Some___init__) := ⟨rfl, rfl, rfl, by decide +kernel, rfl, by decide +kernel, by decide +kernel⟩
theorem ok_Some___init__ {f : Addr} {fd : FuncData} (F : Fun K "__init__" "Some.__init__" s_Some___init__ f fd) (z_list : mg "list" = none) (o_Some : OC K C_Some ["several"]) : FnOk P w K mg base CX0 1 f fd ["self", "several"] (sp_Some___init__ K C_Some C_Condition C_CauseIs C_ThingIs C_DaysIn C_Over C_Not C_All) := by
  refine fn_mX F sc_Some___init__ (fun x => rfl) (fun l x _ => by simp only [O.nv, O.nvL, O.nvL_fz, Bool.and_self]) (fun x _ => rfl) (fun l x => ⟨_, _, _, rfl⟩) fun cdv A outer s H E hr l x hx => ?_
  obtain ⟨several, r⟩ := x
  replace hx : M_Some___init__ several = some r := hx
  have nd := sc_Some___init__.nd
  unfold M_Some___init__ at hx
  show MS _ [some (.at l C_Some [] []), some (.vw (several.map (u_Cd C_Condition C_CauseIs C_ThingIs C_DaysIn C_Over C_Not C_All C_Some)))] _ _
  refine ms_one (m_setFldN (i := 0) (pv _) rfl o_Some (me_list (ds := several.map (u_Cd C_Condition C_CauseIs C_ThingIs C_DaysIn C_Over C_Not C_All C_Some)) (by rfl) z_list (ml_var (pv 1) rfl)) ?_)
  cases hx; exact ⟨rfl, rfl⟩


abbrev TK_holds : Type := (Cd × (Int × Int × Str × Str × Str × Int) → Option Bool) × ((List Cd) × (Int × Int × Str × Str × Str × Int) → Option Bool) × ((List Cd) × (Int × Int × Str × Str × Str × Int) → Option Bool)
noncomputable def U_Cd_holds (r : TK_holds) (v : Cd) (y0 : (Int × Int × Str × Str × Str × Int)) : Option Bool := match v with
  | .plain p => M_Condition_holds (.plain p) y0
  | .cause p => M_CauseIs_holds p y0
  | .thing p => M_ThingIs_holds p y0
  | .days p => M_DaysIn_holds p y0
  | .over p => M_Over_holds p y0
  | .notOf p => r.1 (p, y0)
  | .allOf p => r.2.1 (p, y0)
  | .someOf p => r.2.2 (p, y0)
noncomputable def M_Not_holds (r : TK_holds) (self : Cd) (loss : (Int × Int × Str × Str × Str × Int)) : Option Bool :=
  bd (U_Cd_holds r self loss) fun v1 =>
  some (!v1)
noncomputable def M_All_holds (r : TK_holds) (self : (List Cd)) (loss : (Int × Int × Str × Str × Str × Int)) : Option Bool :=
  bd (lpO (fun (x2 : Cd) (p1 : Unit) => (bd (U_Cd_holds r x2 loss) fun v4 =>
    cond (!v4) (some (.rt false)) <|
    some (.nx ()) : Option (Ou (Unit) (Unit) Bool))) self ()) fun o3 => ouR o3 fun p1 =>
  some true
noncomputable def M_Some_holds (r : TK_holds) (self : (List Cd)) (loss : (Int × Int × Str × Str × Str × Int)) : Option Bool :=
  bd (lpO (fun (x2 : Cd) (p1 : Unit) => (bd (U_Cd_holds r x2 loss) fun v4 =>
    cond v4 (some (.rt true)) <|
    some (.nx ()) : Option (Ou (Unit) (Unit) Bool))) self ()) fun o3 => ouR o3 fun p1 =>
  some false
noncomputable def Kn_holds : Nat → TK_holds
  | 0 => (fun _ => none, fun _ => none, fun _ => none)
  | n + 1 => let r := Kn_holds n; (fun x => M_Not_holds r x.1 x.2, fun x => M_All_holds r x.1 x.2, fun x => M_Some_holds r x.1 x.2)
noncomputable def Mf_Not_holds (n : Nat) (x0 : Cd) (x1 : (Int × Int × Str × Str × Str × Int)) := (Kn_holds n).1 (x0, x1)
noncomputable def Mf_All_holds (n : Nat) (x0 : (List Cd)) (x1 : (Int × Int × Str × Str × Str × Int)) := (Kn_holds n).2.1 (x0, x1)
noncomputable def Mf_Some_holds (n : Nat) (x0 : (List Cd)) (x1 : (Int × Int × Str × Str × Str × Int)) := (Kn_holds n).2.2 (x0, x1)
def sp_Not_holds (K : PySem.W.Frag) (C_Not C_Condition C_CauseIs C_ThingIs C_DaysIn C_Over C_All C_Some : Addr) (n : Nat) : Sp := SpF K (fun x : Cd × (Int × Int × Str × Str × Str × Int) => [.fz ((r_Not C_Not C_Condition C_CauseIs C_ThingIs C_DaysIn C_Over C_All C_Some) x.1), .fz (e_T_i_i_s_s_s_i x.2)]) (fun x => Mf_Not_holds n x.1 x.2) (fun r => .fz (.bl r))
def sp_All_holds (K : PySem.W.Frag) (C_All C_Condition C_CauseIs C_ThingIs C_DaysIn C_Over C_Not C_Some : Addr) (n : Nat) : Sp := SpF K (fun x : (List Cd) × (Int × Int × Str × Str × Str × Int) => [.fz ((r_All C_All C_Condition C_CauseIs C_ThingIs C_DaysIn C_Over C_Not C_Some) x.1), .fz (e_T_i_i_s_s_s_i x.2)]) (fun x => Mf_All_holds n x.1 x.2) (fun r => .fz (.bl r))
def sp_Some_holds (K : PySem.W.Frag) (C_Some C_Condition C_CauseIs C_ThingIs C_DaysIn C_Over C_Not C_All : Addr) (n : Nat) : Sp := SpF K (fun x : (List Cd) × (Int × Int × Str × Str × Str × Int) => [.fz ((r_Some C_Some C_Condition C_CauseIs C_ThingIs C_DaysIn C_Over C_Not C_All) x.1), .fz (e_T_i_i_s_s_s_i x.2)]) (fun x => Mf_Some_holds n x.1 x.2) (fun r => .fz (.bl r))
abbrev N_Not_holds : List Str := ["self", "loss"]
theorem sc_Not_holds : FnScope N_Not_holds ["self", "loss"] (defScope s_Not_holds) := ⟨rfl, rfl, rfl, by decide +kernel, rfl, by decide +kernel, by decide +kernel⟩
theorem ok_Not_holds {f : Addr} {fd : FuncData} (n : Nat) (F : Fun K "holds" "Not.holds" s_Not_holds f fd) (o_Not : OC K C_Not ["part"]) (o_Condition : OC K C_Condition []) (o_CauseIs : OC K C_CauseIs ["name"]) (o_ThingIs : OC K C_ThingIs ["name"]) (o_DaysIn : OC K C_DaysIn ["first", "last"]) (o_Over : OC K C_Over ["cents"]) (o_All : OC K C_All ["several"]) (o_Some : OC K C_Some ["several"]) (m_Condition_holds : Mt1 P w K mg base C_Condition "holds" 1 ["self", "loss"] (sp_Condition_holds K C_Condition C_CauseIs C_ThingIs C_DaysIn C_Over C_Not C_All C_Some)) (m_CauseIs_holds : Mt1 P w K mg base C_CauseIs "holds" 1 ["self", "loss"] (sp_CauseIs_holds K C_CauseIs)) (m_ThingIs_holds : Mt1 P w K mg base C_ThingIs "holds" 1 ["self", "loss"] (sp_ThingIs_holds K C_ThingIs)) (m_DaysIn_holds : Mt1 P w K mg base C_DaysIn "holds" 1 ["self", "loss"] (sp_DaysIn_holds K C_DaysIn)) (m_Over_holds : Mt1 P w K mg base C_Over "holds" 1 ["self", "loss"] (sp_Over_holds K C_Over)) (m_Not_holds : Mt1 P w K mg base C_Not "holds" (1 + n) ["self", "loss"] (sp_Not_holds K C_Not C_Condition C_CauseIs C_ThingIs C_DaysIn C_Over C_All C_Some n)) (m_All_holds : Mt1 P w K mg base C_All "holds" (1 + n) ["self", "loss"] (sp_All_holds K C_All C_Condition C_CauseIs C_ThingIs C_DaysIn C_Over C_Not C_Some n)) (m_Some_holds : Mt1 P w K mg base C_Some "holds" (1 + n) ["self", "loss"] (sp_Some_holds K C_Some C_Condition C_CauseIs C_ThingIs C_DaysIn C_Over C_Not C_All n)) : FnOk P w K mg base CX0 (1 + n + 1) f fd ["self", "loss"] (sp_Not_holds K C_Not C_Condition C_CauseIs C_ThingIs C_DaysIn C_Over C_All C_Some (n + 1)) := by
  refine fn_m F sc_Not_holds (fun x => rfl) (fun x _ => rfl) fun cdv A outer s H E hr x hx => ?_
  obtain ⟨⟨self, loss⟩, r⟩ := x
  replace hx : M_Not_holds (Kn_holds n) self loss = some r := hx
  have nd := sc_Not_holds.nd
  unfold M_Not_holds at hx
  show MS _ [some (.fz ((r_Not C_Not C_Condition C_CauseIs C_ThingIs C_DaysIn C_Over C_All C_Some) self)), some (.fz (e_T_i_i_s_s_s_i loss))] _ _
  replace hx := bd_some hx
  obtain ⟨v1, hv1, hx⟩ := hx
  refine ms_one (m_ret (ps_ret pe_w) (ME.r (me_not (show ME _ _ _ (.fz (.bl v1)) from by obtain ⟨cc, hv⟩ : ∃ cc, self = cc := ⟨_, rfl⟩; cases cc with | plain p => exact me_mt m_Condition_holds o_Condition (((.plain p), loss), v1) (MV.as (ME.v (me_fld (j := 0) (mv_var (pv 0) rfl) o_Not)) (congrArg (u_Cd C_Condition C_CauseIs C_ThingIs C_DaysIn C_Over C_Not C_All C_Some) hv)) (ma_fz (me_var (pv 1) rfl) ma_nil) rfl ((congrArg (fun q => U_Cd_holds (Kn_holds n) q loss) hv).symm.trans hv1) (hr.mono (by omega)) | cause p => exact me_mt m_CauseIs_holds o_CauseIs ((p, loss), v1) (MV.as (ME.v (me_fld (j := 0) (mv_var (pv 0) rfl) o_Not)) ((congrArg (u_Cd C_Condition C_CauseIs C_ThingIs C_DaysIn C_Over C_Not C_All C_Some) hv).trans (u_Cd_cause C_Condition C_CauseIs C_ThingIs C_DaysIn C_Over C_Not C_All C_Some _))) (ma_fz (me_var (pv 1) rfl) ma_nil) rfl ((congrArg (fun q => U_Cd_holds (Kn_holds n) q loss) hv).symm.trans hv1) (hr.mono (by omega)) | thing p => exact me_mt m_ThingIs_holds o_ThingIs ((p, loss), v1) (MV.as (ME.v (me_fld (j := 0) (mv_var (pv 0) rfl) o_Not)) ((congrArg (u_Cd C_Condition C_CauseIs C_ThingIs C_DaysIn C_Over C_Not C_All C_Some) hv).trans (u_Cd_thing C_Condition C_CauseIs C_ThingIs C_DaysIn C_Over C_Not C_All C_Some _))) (ma_fz (me_var (pv 1) rfl) ma_nil) rfl ((congrArg (fun q => U_Cd_holds (Kn_holds n) q loss) hv).symm.trans hv1) (hr.mono (by omega)) | days p => exact me_mt m_DaysIn_holds o_DaysIn ((p, loss), v1) (MV.as (ME.v (me_fld (j := 0) (mv_var (pv 0) rfl) o_Not)) ((congrArg (u_Cd C_Condition C_CauseIs C_ThingIs C_DaysIn C_Over C_Not C_All C_Some) hv).trans (u_Cd_days C_Condition C_CauseIs C_ThingIs C_DaysIn C_Over C_Not C_All C_Some _))) (ma_fz (me_var (pv 1) rfl) ma_nil) rfl ((congrArg (fun q => U_Cd_holds (Kn_holds n) q loss) hv).symm.trans hv1) (hr.mono (by omega)) | over p => exact me_mt m_Over_holds o_Over ((p, loss), v1) (MV.as (ME.v (me_fld (j := 0) (mv_var (pv 0) rfl) o_Not)) ((congrArg (u_Cd C_Condition C_CauseIs C_ThingIs C_DaysIn C_Over C_Not C_All C_Some) hv).trans (u_Cd_over C_Condition C_CauseIs C_ThingIs C_DaysIn C_Over C_Not C_All C_Some _))) (ma_fz (me_var (pv 1) rfl) ma_nil) rfl ((congrArg (fun q => U_Cd_holds (Kn_holds n) q loss) hv).symm.trans hv1) (hr.mono (by omega)) | notOf p => exact me_mt m_Not_holds o_Not ((p, loss), v1) (MV.as (ME.v (me_fld (j := 0) (mv_var (pv 0) rfl) o_Not)) ((congrArg (u_Cd C_Condition C_CauseIs C_ThingIs C_DaysIn C_Over C_Not C_All C_Some) hv).trans (u_Cd_notOf C_Condition C_CauseIs C_ThingIs C_DaysIn C_Over C_Not C_All C_Some _))) (ma_fz (me_var (pv 1) rfl) ma_nil) rfl ((congrArg (fun q => U_Cd_holds (Kn_holds n) q loss) hv).symm.trans hv1) (hr.mono (by omega)) | allOf p => exact me_mt m_All_holds o_All ((p, loss), v1) (MV.as (ME.v (me_fld (j := 0) (mv_var (pv 0) rfl) o_Not)) ((congrArg (u_Cd C_Condition C_CauseIs C_ThingIs C_DaysIn C_Over C_Not C_All C_Some) hv).trans (u_Cd_allOf C_Condition C_CauseIs C_ThingIs C_DaysIn C_Over C_Not C_All C_Some _))) (ma_fz (me_var (pv 1) rfl) ma_nil) rfl ((congrArg (fun q => U_Cd_holds (Kn_holds n) q loss) hv).symm.trans hv1) (hr.mono (by omega)) | someOf p => exact me_mt m_Some_holds o_Some ((p, loss), v1) (MV.as (ME.v (me_fld (j := 0) (mv_var (pv 0) rfl) o_Not)) ((congrArg (u_Cd C_Condition C_CauseIs C_ThingIs C_DaysIn C_Over C_Not C_All C_Some) hv).trans (u_Cd_someOf C_Condition C_CauseIs C_ThingIs C_DaysIn C_Over C_Not C_All C_Some _))) (ma_fz (me_var (pv 1) rfl) ma_nil) rfl ((congrArg (fun q => U_Cd_holds (Kn_holds n) q loss) hv).symm.trans hv1) (hr.mono (by omega))))) ?_)
  cases hx; rfl

abbrev N_All_holds : List Str := ["self", "loss", "part"]
theorem sc_All_holds : FnScope N_All_holds ["self", "loss"] (defScope s_All_holds) := ⟨rfl, rfl, rfl, by decide +kernel, rfl, by decide +kernel, by decide +kernel⟩
theorem ok_All_holds {f : Addr} {fd : FuncData} (n : Nat) (F : Fun K "holds" "All.holds" s_All_holds f fd) (o_All : OC K C_All ["several"]) (o_Condition : OC K C_Condition []) (o_CauseIs : OC K C_CauseIs ["name"]) (o_ThingIs : OC K C_ThingIs ["name"]) (o_DaysIn : OC K C_DaysIn ["first", "last"]) (o_Over : OC K C_Over ["cents"]) (o_Not : OC K C_Not ["part"]) (o_Some : OC K C_Some ["several"]) (m_Condition_holds : Mt1 P w K mg base C_Condition "holds" 1 ["self", "loss"] (sp_Condition_holds K C_Condition C_CauseIs C_ThingIs C_DaysIn C_Over C_Not C_All C_Some)) (m_CauseIs_holds : Mt1 P w K mg base C_CauseIs "holds" 1 ["self", "loss"] (sp_CauseIs_holds K C_CauseIs)) (m_ThingIs_holds : Mt1 P w K mg base C_ThingIs "holds" 1 ["self", "loss"] (sp_ThingIs_holds K C_ThingIs)) (m_DaysIn_holds : Mt1 P w K mg base C_DaysIn "holds" 1 ["self", "loss"] (sp_DaysIn_holds K C_DaysIn)) (m_Over_holds : Mt1 P w K mg base C_Over "holds" 1 ["self", "loss"] (sp_Over_holds K C_Over)) (m_Not_holds : Mt1 P w K mg base C_Not "holds" (1 + n) ["self", "loss"] (sp_Not_holds K C_Not C_Condition C_CauseIs C_ThingIs C_DaysIn C_Over C_All C_Some n)) (m_All_holds : Mt1 P w K mg base C_All "holds" (1 + n) ["self", "loss"] (sp_All_holds K C_All C_Condition C_CauseIs C_ThingIs C_DaysIn C_Over C_Not C_Some n)) (m_Some_holds : Mt1 P w K mg base C_Some "holds" (1 + n) ["self", "loss"] (sp_Some_holds K C_Some C_Condition C_CauseIs C_ThingIs C_DaysIn C_Over C_Not C_All n)) : FnOk P w K mg base CX0 (1 + n + 1) f fd ["self", "loss"] (sp_All_holds K C_All C_Condition C_CauseIs C_ThingIs C_DaysIn C_Over C_Not C_Some (n + 1)) := by
  refine fn_m F sc_All_holds (fun x => rfl) (fun x _ => rfl) fun cdv A outer s H E hr x hx => ?_
  obtain ⟨⟨self, loss⟩, r⟩ := x
  replace hx : M_All_holds (Kn_holds n) self loss = some r := hx
  have nd := sc_All_holds.nd
  unfold M_All_holds at hx
  show MS _ [some (.fz ((r_All C_All C_Condition C_CauseIs C_ThingIs C_DaysIn C_Over C_Not C_Some) self)), some (.fz (e_T_i_i_s_s_s_i loss)), none] _ _
  replace hx := bd_some hx
  obtain ⟨o3, ho3, hx⟩ := hx
  refine ms_cons (m_forO (xs := self) (enc := (u_Cd C_Condition C_CauseIs C_ThingIs C_DaysIn C_Over C_Not C_All C_Some)) (ps_for PassesOwn.never rfl (pi_list pe_w) (pg_name (i := 2) nd rfl (Or.inl rfl)) pss_w) (by exact (mi_list (ds := self.map (u_Cd C_Condition C_CauseIs C_ThingIs C_DaysIn C_Over C_Not C_All C_Some)) (ME.k (me_fld (j := 0) (mv_var (pv 0) rfl) o_All)))) ho3 (fun p1 => [some (.fz ((r_All C_All C_Condition C_CauseIs C_ThingIs C_DaysIn C_Over C_Not C_Some) self)), some (.fz (e_T_i_i_s_s_s_i loss)), none]) (fun r => .fz (.bl r)) le_auto (fun x2 p1 p1o mx hx => ?_) (fun p1 τ e le => ?_) fun q e => ?_)
  ·
    refine ⟨_, _, mg_name, ?_⟩
    show MS _ [some (.fz ((r_All C_All C_Condition C_CauseIs C_ThingIs C_DaysIn C_Over C_Not C_Some) self)), some (.fz (e_T_i_i_s_s_s_i loss)), some (.fz ((u_Cd C_Condition C_CauseIs C_ThingIs C_DaysIn C_Over C_Not C_All C_Some) x2))] _ _
    replace hx := bd_some hx
    obtain ⟨v4, hv4, hx⟩ := hx
    refine ms_one (m_if (t := (!v4)) (mt_not (mt_val (show ME _ _ _ (.fz (.bl v4)) from by obtain ⟨cc, hv⟩ : ∃ cc, x2 = cc := ⟨_, rfl⟩; cases cc with | plain p => exact me_mt m_Condition_holds o_Condition (((.plain p), loss), v4) (MV.as (mv_var (pv 2) rfl) (congrArg (u_Cd C_Condition C_CauseIs C_ThingIs C_DaysIn C_Over C_Not C_All C_Some) hv)) (ma_fz (me_var (pv 1) rfl) ma_nil) rfl ((congrArg (fun q => U_Cd_holds (Kn_holds n) q loss) hv).symm.trans hv4) (hr.mono (by omega)) | cause p => exact me_mt m_CauseIs_holds o_CauseIs ((p, loss), v4) (MV.as (mv_var (pv 2) rfl) ((congrArg (u_Cd C_Condition C_CauseIs C_ThingIs C_DaysIn C_Over C_Not C_All C_Some) hv).trans (u_Cd_cause C_Condition C_CauseIs C_ThingIs C_DaysIn C_Over C_Not C_All C_Some _))) (ma_fz (me_var (pv 1) rfl) ma_nil) rfl ((congrArg (fun q => U_Cd_holds (Kn_holds n) q loss) hv).symm.trans hv4) (hr.mono (by omega)) | thing p => exact me_mt m_ThingIs_holds o_ThingIs ((p, loss), v4) (MV.as (mv_var (pv 2) rfl) ((congrArg (u_Cd C_Condition C_CauseIs C_ThingIs C_DaysIn C_Over C_Not C_All C_Some) hv).trans (u_Cd_thing C_Condition C_CauseIs C_ThingIs C_DaysIn C_Over C_Not C_All C_Some _))) (ma_fz (me_var (pv 1) rfl) ma_nil) rfl ((congrArg (fun q => U_Cd_holds (Kn_holds n) q loss) hv).symm.trans hv4) (hr.mono (by omega)) | days p => exact me_mt m_DaysIn_holds o_DaysIn ((p, loss), v4) (MV.as (mv_var (pv 2) rfl) ((congrArg (u_Cd C_Condition C_CauseIs C_ThingIs C_DaysIn C_Over C_Not C_All C_Some) hv).trans (u_Cd_days C_Condition C_CauseIs C_ThingIs C_DaysIn C_Over C_Not C_All C_Some _))) (ma_fz (me_var (pv 1) rfl) ma_nil) rfl ((congrArg (fun q => U_Cd_holds (Kn_holds n) q loss) hv).symm.trans hv4) (hr.mono (by omega)) | over p => exact me_mt m_Over_holds o_Over ((p, loss), v4) (MV.as (mv_var (pv 2) rfl) ((congrArg (u_Cd C_Condition C_CauseIs C_ThingIs C_DaysIn C_Over C_Not C_All C_Some) hv).trans (u_Cd_over C_Condition C_CauseIs C_ThingIs C_DaysIn C_Over C_Not C_All C_Some _))) (ma_fz (me_var (pv 1) rfl) ma_nil) rfl ((congrArg (fun q => U_Cd_holds (Kn_holds n) q loss) hv).symm.trans hv4) (hr.mono (by omega)) | notOf p => exact me_mt m_Not_holds o_Not ((p, loss), v4) (MV.as (mv_var (pv 2) rfl) ((congrArg (u_Cd C_Condition C_CauseIs C_ThingIs C_DaysIn C_Over C_Not C_All C_Some) hv).trans (u_Cd_notOf C_Condition C_CauseIs C_ThingIs C_DaysIn C_Over C_Not C_All C_Some _))) (ma_fz (me_var (pv 1) rfl) ma_nil) rfl ((congrArg (fun q => U_Cd_holds (Kn_holds n) q loss) hv).symm.trans hv4) (hr.mono (by omega)) | allOf p => exact me_mt m_All_holds o_All ((p, loss), v4) (MV.as (mv_var (pv 2) rfl) ((congrArg (u_Cd C_Condition C_CauseIs C_ThingIs C_DaysIn C_Over C_Not C_All C_Some) hv).trans (u_Cd_allOf C_Condition C_CauseIs C_ThingIs C_DaysIn C_Over C_Not C_All C_Some _))) (ma_fz (me_var (pv 1) rfl) ma_nil) rfl ((congrArg (fun q => U_Cd_holds (Kn_holds n) q loss) hv).symm.trans hv4) (hr.mono (by omega)) | someOf p => exact me_mt m_Some_holds o_Some ((p, loss), v4) (MV.as (mv_var (pv 2) rfl) ((congrArg (u_Cd C_Condition C_CauseIs C_ThingIs C_DaysIn C_Over C_Not C_All C_Some) hv).trans (u_Cd_someOf C_Condition C_CauseIs C_ThingIs C_DaysIn C_Over C_Not C_All C_Some _))) (ma_fz (me_var (pv 1) rfl) ma_nil) rfl ((congrArg (fun q => U_Cd_holds (Kn_holds n) q loss) hv).symm.trans hv4) (hr.mono (by omega))))) (fun h => ?_) fun h => ms_nil ?_)
    · replace hx := cond_t hx h
      refine ms_one (m_ret (ps_ret pe_w) (ME.r me_bl) ?_)
      cases hx; exact ⟨_, rfl, rfl⟩
    replace hx := cond_f hx h
    cases hx; exact ⟨_, rfl, le_auto⟩
  · subst e
    dsimp only [ouR] at hx
    refine ms_le le ?_
    show MS _ [some (.fz ((r_All C_All C_Condition C_CauseIs C_ThingIs C_DaysIn C_Over C_Not C_Some) self)), some (.fz (e_T_i_i_s_s_s_i loss)), none] _ _
    refine ms_one (m_ret (ps_ret pe_w) (ME.r me_bl) ?_)
    cases hx; rfl
  · subst e; cases hx; rfl

abbrev N_Some_holds : List Str := ["self", "loss", "part"]
theorem sc_Some_holds : FnScope N_Some_holds ["self", "loss"] (defScope s_Some_holds) := ⟨rfl, rfl, rfl, by decide +kernel, rfl, by decide +kernel, by decide +kernel⟩
theorem ok_Some_holds {f : Addr} {fd : FuncData} (n : Nat) (F : Fun K "holds" "Some.holds" s_Some_holds f fd) (o_Some : OC K C_Some ["several"]) (o_Condition : OC K C_Condition []) (o_CauseIs : OC K C_CauseIs ["name"]) (o_ThingIs : OC K C_ThingIs ["name"]) (o_DaysIn : OC K C_DaysIn ["first", "last"]) (o_Over : OC K C_Over ["cents"]) (o_Not : OC K C_Not ["part"]) (o_All : OC K C_All ["several"]) (m_Condition_holds : Mt1 P w K mg base C_Condition "holds" 1 ["self", "loss"] (sp_Condition_holds K C_Condition C_CauseIs C_ThingIs C_DaysIn C_Over C_Not C_All C_Some)) (m_CauseIs_holds : Mt1 P w K mg base C_CauseIs "holds" 1 ["self", "loss"] (sp_CauseIs_holds K C_CauseIs)) (m_ThingIs_holds : Mt1 P w K mg base C_ThingIs "holds" 1 ["self", "loss"] (sp_ThingIs_holds K C_ThingIs)) (m_DaysIn_holds : Mt1 P w K mg base C_DaysIn "holds" 1 ["self", "loss"] (sp_DaysIn_holds K C_DaysIn)) (m_Over_holds : Mt1 P w K mg base C_Over "holds" 1 ["self", "loss"] (sp_Over_holds K C_Over)) (m_Not_holds : Mt1 P w K mg base C_Not "holds" (1 + n) ["self", "loss"] (sp_Not_holds K C_Not C_Condition C_CauseIs C_ThingIs C_DaysIn C_Over C_All C_Some n)) (m_All_holds : Mt1 P w K mg base C_All "holds" (1 + n) ["self", "loss"] (sp_All_holds K C_All C_Condition C_CauseIs C_ThingIs C_DaysIn C_Over C_Not C_Some n)) (m_Some_holds : Mt1 P w K mg base C_Some "holds" (1 + n) ["self", "loss"] (sp_Some_holds K C_Some C_Condition C_CauseIs C_ThingIs C_DaysIn C_Over C_Not C_All n)) : FnOk P w K mg base CX0 (1 + n + 1) f fd ["self", "loss"] (sp_Some_holds K C_Some C_Condition C_CauseIs C_ThingIs C_DaysIn C_Over C_Not C_All (n + 1)) := by
  refine fn_m F sc_Some_holds (fun x => rfl) (fun x _ => rfl) fun cdv A outer s H E hr x hx => ?_
  obtain ⟨⟨self, loss⟩, r⟩ := x
  replace hx : M_Some_holds (Kn_holds n) self loss = some r := hx
  have nd := sc_Some_holds.nd
  unfold M_Some_holds at hx
  show MS _ [some (.fz ((r_Some C_Some C_Condition C_CauseIs C_ThingIs C_DaysIn C_Over C_Not C_All) self)), some (.fz (e_T_i_i_s_s_s_i loss)), none] _ _
  replace hx := bd_some hx
  obtain ⟨o3, ho3, hx⟩ := hx
  refine ms_cons (m_forO (xs := self) (enc := (u_Cd C_Condition C_CauseIs C_ThingIs C_DaysIn C_Over C_Not C_All C_Some)) (ps_for PassesOwn.never rfl (pi_list pe_w) (pg_name (i := 2) nd rfl (Or.inl rfl)) pss_w) (by exact (mi_list (ds := self.map (u_Cd C_Condition C_CauseIs C_ThingIs C_DaysIn C_Over C_Not C_All C_Some)) (ME.k (me_fld (j := 0) (mv_var (pv 0) rfl) o_Some)))) ho3 (fun p1 => [some (.fz ((r_Some C_Some C_Condition C_CauseIs C_ThingIs C_DaysIn C_Over C_Not C_All) self)), some (.fz (e_T_i_i_s_s_s_i loss)), none]) (fun r => .fz (.bl r)) le_auto (fun x2 p1 p1o mx hx => ?_) (fun p1 τ e le => ?_) fun q e => ?_)
  ·
    refine ⟨_, _, mg_name, ?_⟩
    show MS _ [some (.fz ((r_Some C_Some C_Condition C_CauseIs C_ThingIs C_DaysIn C_Over C_Not C_All) self)), some (.fz (e_T_i_i_s_s_s_i loss)), some (.fz ((u_Cd C_Condition C_CauseIs C_ThingIs C_DaysIn C_Over C_Not C_All C_Some) x2))] _ _
    replace hx := bd_some hx
    obtain ⟨v4, hv4, hx⟩ := hx
    refine ms_one (m_if (t := v4) (mt_val (show ME _ _ _ (.fz (.bl v4)) from by obtain ⟨cc, hv⟩ : ∃ cc, x2 = cc := ⟨_, rfl⟩; cases cc with | plain p => exact me_mt m_Condition_holds o_Condition (((.plain p), loss), v4) (MV.as (mv_var (pv 2) rfl) (congrArg (u_Cd C_Condition C_CauseIs C_ThingIs C_DaysIn C_Over C_Not C_All C_Some) hv)) (ma_fz (me_var (pv 1) rfl) ma_nil) rfl ((congrArg (fun q => U_Cd_holds (Kn_holds n) q loss) hv).symm.trans hv4) (hr.mono (by omega)) | cause p => exact me_mt m_CauseIs_holds o_CauseIs ((p, loss), v4) (MV.as (mv_var (pv 2) rfl) ((congrArg (u_Cd C_Condition C_CauseIs C_ThingIs C_DaysIn C_Over C_Not C_All C_Some) hv).trans (u_Cd_cause C_Condition C_CauseIs C_ThingIs C_DaysIn C_Over C_Not C_All C_Some _))) (ma_fz (me_var (pv 1) rfl) ma_nil) rfl ((congrArg (fun q => U_Cd_holds (Kn_holds n) q loss) hv).symm.trans hv4) (hr.mono (by omega)) | thing p => exact me_mt m_ThingIs_holds o_ThingIs ((p, loss), v4) (MV.as (mv_var (pv 2) rfl) ((congrArg (u_Cd C_Condition C_CauseIs C_ThingIs C_DaysIn C_Over C_Not C_All C_Some) hv).trans (u_Cd_thing C_Condition C_CauseIs C_ThingIs C_DaysIn C_Over C_Not C_All C_Some _))) (ma_fz (me_var (pv 1) rfl) ma_nil) rfl ((congrArg (fun q => U_Cd_holds (Kn_holds n) q loss) hv).symm.trans hv4) (hr.mono (by omega)) | days p => exact me_mt m_DaysIn_holds o_DaysIn ((p, loss), v4) (MV.as (mv_var (pv 2) rfl) ((congrArg (u_Cd C_Condition C_CauseIs C_ThingIs C_DaysIn C_Over C_Not C_All C_Some) hv).trans (u_Cd_days C_Condition C_CauseIs C_ThingIs C_DaysIn C_Over C_Not C_All C_Some _))) (ma_fz (me_var (pv 1) rfl) ma_nil) rfl ((congrArg (fun q => U_Cd_holds (Kn_holds n) q loss) hv).symm.trans hv4) (hr.mono (by omega)) | over p => exact me_mt m_Over_holds o_Over ((p, loss), v4) (MV.as (mv_var (pv 2) rfl) ((congrArg (u_Cd C_Condition C_CauseIs C_ThingIs C_DaysIn C_Over C_Not C_All C_Some) hv).trans (u_Cd_over C_Condition C_CauseIs C_ThingIs C_DaysIn C_Over C_Not C_All C_Some _))) (ma_fz (me_var (pv 1) rfl) ma_nil) rfl ((congrArg (fun q => U_Cd_holds (Kn_holds n) q loss) hv).symm.trans hv4) (hr.mono (by omega)) | notOf p => exact me_mt m_Not_holds o_Not ((p, loss), v4) (MV.as (mv_var (pv 2) rfl) ((congrArg (u_Cd C_Condition C_CauseIs C_ThingIs C_DaysIn C_Over C_Not C_All C_Some) hv).trans (u_Cd_notOf C_Condition C_CauseIs C_ThingIs C_DaysIn C_Over C_Not C_All C_Some _))) (ma_fz (me_var (pv 1) rfl) ma_nil) rfl ((congrArg (fun q => U_Cd_holds (Kn_holds n) q loss) hv).symm.trans hv4) (hr.mono (by omega)) | allOf p => exact me_mt m_All_holds o_All ((p, loss), v4) (MV.as (mv_var (pv 2) rfl) ((congrArg (u_Cd C_Condition C_CauseIs C_ThingIs C_DaysIn C_Over C_Not C_All C_Some) hv).trans (u_Cd_allOf C_Condition C_CauseIs C_ThingIs C_DaysIn C_Over C_Not C_All C_Some _))) (ma_fz (me_var (pv 1) rfl) ma_nil) rfl ((congrArg (fun q => U_Cd_holds (Kn_holds n) q loss) hv).symm.trans hv4) (hr.mono (by omega)) | someOf p => exact me_mt m_Some_holds o_Some ((p, loss), v4) (MV.as (mv_var (pv 2) rfl) ((congrArg (u_Cd C_Condition C_CauseIs C_ThingIs C_DaysIn C_Over C_Not C_All C_Some) hv).trans (u_Cd_someOf C_Condition C_CauseIs C_ThingIs C_DaysIn C_Over C_Not C_All C_Some _))) (ma_fz (me_var (pv 1) rfl) ma_nil) rfl ((congrArg (fun q => U_Cd_holds (Kn_holds n) q loss) hv).symm.trans hv4) (hr.mono (by omega)))) (fun h => ?_) fun h => ms_nil ?_)
    · replace hx := cond_t hx h
      refine ms_one (m_ret (ps_ret pe_w) (ME.r me_bl) ?_)
      cases hx; exact ⟨_, rfl, rfl⟩
    replace hx := cond_f hx h
    cases hx; exact ⟨_, rfl, le_auto⟩
  · subst e
    dsimp only [ouR] at hx
    refine ms_le le ?_
    show MS _ [some (.fz ((r_Some C_Some C_Condition C_CauseIs C_ThingIs C_DaysIn C_Over C_Not C_All) self)), some (.fz (e_T_i_i_s_s_s_i loss)), none] _ _
    refine ms_one (m_ret (ps_ret pe_w) (ME.r me_bl) ?_)
    cases hx; rfl
  · subst e; cases hx; rfl

-- GROUP holds 64 1 : Not_holds All_holds Some_holds
noncomputable def M__law_cell (script : (List Int)) (k_0 : Int) : Option Int :=
  cond (decide (k_0 < (script.length : Int))) (bd (L2.atI script k_0) fun v1 =>
    some (v1 % 1000000000000000000)) <|
  gd (CMul k_0 k_0) <|
  some (((((k_0 * k_0) * 48271) + (7919 * (script.length : Int))) + 12345) % 2147483647)
def sp__law_cell (K : PySem.W.Frag) : Sp := SpF K (fun x : (List Int) × Int => [.vw (x.1.map D.int), .fz (.int x.2)]) (fun x => M__law_cell x.1 x.2) (fun r => .fz (.int r))
abbrev N__law_cell : List Str := ["_law_script", "_law_k"]
theorem sc__law_cell : FnScope N__law_cell ["_law_script", "_law_k"] (defScope s__law_cell) := ⟨rfl, rfl, rfl, by decide +kernel, rfl, by decide +kernel, by decide +kernel⟩
theorem ok__law_cell {f : Addr} {fd : FuncData} (F : Fun K "_law_cell" "_law_cell" s__law_cell f fd) (z_len : mg "len" = none) : FnOk P w K mg base CX0 1 f fd ["_law_script", "_law_k"] (sp__law_cell K) := by
  refine fn_m F sc__law_cell (fun x => rfl) (fun x _ => rfl) fun cdv A outer s H E hr x hx => ?_
  obtain ⟨⟨script, k_0⟩, r⟩ := x
  replace hx : M__law_cell script k_0 = some r := hx
  have nd := sc__law_cell.nd
  unfold M__law_cell at hx
  show MS _ [some (.vw (script.map D.int)), some (.fz (.int k_0))] _ _
  refine ms_cons (m_if (t := (decide (k_0 < (script.length : Int)))) (mt_lt (me_var (pv 1) rfl) (me_lenLT (xs := script) (enc := D.int) (by rfl) z_len (ml_var (pv 0) rfl))) (fun h => ?_) fun h => ms_nil ?_)
  · replace hx := cond_t hx h
    replace hx := bd_some hx
    obtain ⟨v1, hv1, hx⟩ := hx
    refine ms_one (m_ret (ps_ret pe_w) (ME.r (me_mod (me_ixLT (xs := script) (enc := D.int) hv1 (ml_var (pv 0) rfl) (me_var (pv 1) rfl)) (ME.is (o' := .fz (.int 1000000000000000000)) (me_pow me_int me_int ⟨by decide, by decide, by decide⟩) rfl) (by decide))) ?_)
    cases hx; rfl
  replace hx := cond_f hx h
  replace hx := gd_some hx
  obtain ⟨g2, hx⟩ := hx
  refine ms_one (m_ret (ps_ret pe_w) (ME.r (me_mod (me_add (me_add (me_mul (me_mul (me_var (pv 1) rfl) (me_var (pv 1) rfl) g2) me_int (.inr ⟨by decide, by decide⟩)) (me_mul me_int (me_lenLT (xs := script) (enc := D.int) (by rfl) z_len (ml_var (pv 0) rfl)) (.inl ⟨by decide, by decide⟩))) me_int) me_int (by decide))) ?_)
  cases hx; rfl

noncomputable def M__law_mix (number : Int) (k_0 : Int) : Option Int :=
  gd (CMul k_0 k_0) <|
  lt ((((number * 48271) + ((k_0 * k_0) * 69621)) + 4099) % 2147483647) fun number_1 =>
  gd (CMul number_1 number_1) <|
  some ((number_1 * number_1) % 2147483629)
def sp__law_mix (K : PySem.W.Frag) : Sp := SpF K (fun x : Int × Int => [.fz (.int x.1), .fz (.int x.2)]) (fun x => M__law_mix x.1 x.2) (fun r => .fz (.int r))
abbrev N__law_mix : List Str := ["_law_number", "_law_k"]
theorem sc__law_mix : FnScope N__law_mix ["_law_number", "_law_k"] (defScope s__law_mix) := ⟨rfl, rfl, rfl, by decide +kernel, rfl, by decide +kernel, by decide +kernel⟩
theorem ok__law_mix {f : Addr} {fd : FuncData} (F : Fun K "_law_mix" "_law_mix" s__law_mix f fd)  : FnOk P w K mg base CX0 1 f fd ["_law_number", "_law_k"] (sp__law_mix K) := by
  refine fn_m F sc__law_mix (fun x => rfl) (fun x _ => rfl) fun cdv A outer s H E hr x hx => ?_
  obtain ⟨⟨number, k_0⟩, r⟩ := x
  replace hx : M__law_mix number k_0 = some r := hx
  have nd := sc__law_mix.nd
  unfold M__law_mix at hx
  show MS _ [some (.fz (.int number)), some (.fz (.int k_0))] _ _
  replace hx := gd_some hx
  obtain ⟨g1, hx⟩ := hx
  replace hx := lt_some hx
  obtain ⟨number_1, enumber_1, hx⟩ := hx
  refine ms_cons (m_set (ps_set (i := 0) nd rfl (Or.inl rfl) pe_w) (ME.is (o' := (.fz (.int number_1))) (me_mod (me_add (me_add (me_mul (me_var (pv 0) rfl) me_int (.inr ⟨by decide, by decide⟩)) (me_mul (me_mul (me_var (pv 1) rfl) (me_var (pv 1) rfl) g1) me_int (.inr ⟨by decide, by decide⟩))) me_int) me_int (by decide)) (by rw [enumber_1] <;> rfl)) ?_)
  show MS _ [some (.fz (.int number_1)), some (.fz (.int k_0))] _ _
  replace hx := gd_some hx
  obtain ⟨g2, hx⟩ := hx
  refine ms_one (m_ret (ps_ret pe_w) (ME.r (me_mod (me_mul (me_var (pv 0) rfl) (me_var (pv 0) rfl) g2) me_int (by decide))) ?_)
  cases hx; rfl

noncomputable def M__law_whole (found : D) : Option Bool :=
  bd (isiD "int" found) fun k1 =>
  bd (cond k1 (bd (isiD "bool" found) fun k2 => some (!k2)) (some false)) fun v3 =>
  some v3
def sp__law_whole (K : PySem.W.Frag) : Sp := SpF K (fun x : D => [.fz x]) (fun x => M__law_whole x) (fun r => .fz (.bl r))
abbrev N__law_whole : List Str := ["_law_found"]
theorem sc__law_whole : FnScope N__law_whole ["_law_found"] (defScope s__law_whole) := ⟨rfl, rfl, rfl, by decide +kernel, rfl, by decide +kernel, by decide +kernel⟩
theorem ok__law_whole {f : Addr} {fd : FuncData} (F : Fun K "_law_whole" "_law_whole" s__law_whole f fd) (z_isinstance : mg "isinstance" = none) (z_int : mg "int" = none) (z_bool : mg "bool" = none) : FnOk P w K mg base CX0 1 f fd ["_law_found"] (sp__law_whole K) := by
  refine fn_m F sc__law_whole (fun x => rfl) (fun x _ => rfl) fun cdv A outer s H E hr x hx => ?_
  obtain ⟨found, r⟩ := x
  replace hx : M__law_whole found = some r := hx
  have nd := sc__law_whole.nd
  unfold M__law_whole at hx
  show MS _ [some (.fz found)] _ _
  replace hx := bd_some hx
  obtain ⟨k1, hk1, hx⟩ := hx
  replace hx := bd_some hx
  obtain ⟨v3, hv3, hx⟩ := hx
  refine ms_one (m_ret (ps_ret pe_w) (ME.r (ME.isB (me_and (me_isiD (T := "int") hk1 (by rfl) z_isinstance (pe_bltn (v := .ty "int") (by rfl) z_int (by decide +kernel) rfl) (mv_var (pv 0) rfl)) fun q4 => (by have hx := cond_t hv3 q4; replace hx := bd_some hx; obtain ⟨k2, hk2, hx⟩ := hx; cases hx; exact (me_one (me_not (me_isiD (T := "bool") hk2 (by rfl) z_isinstance (pe_bltn (v := .ty "bool") (by rfl) z_bool (by decide +kernel) rfl) (mv_var (pv 0) rfl)))))) (and_c hv3))) ?_)
  cases hx; rfl

noncomputable def M__law_truth (found : Bool) (due : Bool) : Option Bool :=
  some (true && ((found == due)))
def sp__law_truth (K : PySem.W.Frag) : Sp := SpF K (fun x : Bool × Bool => [.fz (.bl x.1), .fz (.bl x.2)]) (fun x => M__law_truth x.1 x.2) (fun r => .fz (.bl r))
abbrev N__law_truth : List Str := ["_law_found", "_law_due"]
theorem sc__law_truth : FnScope N__law_truth ["_law_found", "_law_due"] (defScope s__law_truth) := ⟨rfl, rfl, rfl, by decide +kernel, rfl, by decide +kernel, by decide +kernel⟩
theorem ok__law_truth {f : Addr} {fd : FuncData} (F : Fun K "_law_truth" "_law_truth" s__law_truth f fd) (z_isinstance : mg "isinstance" = none) (z_bool : mg "bool" = none) : FnOk P w K mg base CX0 1 f fd ["_law_found", "_law_due"] (sp__law_truth K) := by
  refine fn_m F sc__law_truth (fun x => rfl) (fun x _ => rfl) fun cdv A outer s H E hr x hx => ?_
  obtain ⟨⟨found, due⟩, r⟩ := x
  replace hx : M__law_truth found due = some r := hx
  have nd := sc__law_truth.nd
  unfold M__law_truth at hx
  show MS _ [some (.fz (.bl found)), some (.fz (.bl due))] _ _
  refine ms_one (m_ret (ps_ret pe_w) (ME.r (me_and (me_isi (k := true) (by rfl) z_isinstance (pe_bltn (v := .ty "bool") (by rfl) z_bool (by decide +kernel) rfl) (mv_var (pv 0) rfl) rfl (by decide +kernel)) fun _ => (me_one (me_eqB (me_var (pv 0) rfl) (me_var (pv 1) rfl))))) ?_)
  cases hx; rfl

abbrev e_T_L_s_b (p : ((List Str) × Bool)) : D := .tup [.lst (p.1.map D.str), .bl p.2]
noncomputable def M__law_atom (number : Int) : Option ((List Str) × Bool) :=
  lt [([("always" : Str)], true), ([("cause" : Str), ("hail" : Str)], true), ([("cause" : Str), ("not" : Str)], false), ([("thing" : Str), ("roof" : Str)], true)] fun some_0 =>
  gd (some_0.length + [([("days" : Str), ("7" : Str), ("365" : Str)], true), ([("days" : Str), ("8" : Str), ("365" : Str)], false), ([("over" : Str), ("0.99" : Str)], true)].length ≤ sizeLine) <|
  lt (some_0 ++ [([("days" : Str), ("7" : Str), ("365" : Str)], true), ([("days" : Str), ("8" : Str), ("365" : Str)], false), ([("over" : Str), ("0.99" : Str)], true)]) fun some_1 =>
  gd (some_1.length + [([("over" : Str), ("1.00" : Str)], false), ([("thing" : Str), ("roo" : Str)], false)].length ≤ sizeLine) <|
  lt (some_1 ++ [([("over" : Str), ("1.00" : Str)], false), ([("thing" : Str), ("roo" : Str)], false)]) fun some_2 =>
  bd (L2.atI some_2 (number % 9)) fun v3 =>
  some v3
def sp__law_atom (K : PySem.W.Frag) : Sp := SpF K (fun x : Int => [.fz (.int x)]) (fun x => M__law_atom x) (fun r => .fz (e_T_L_s_b r))
abbrev N__law_atom : List Str := ["_law_number", "_law_some"]
theorem sc__law_atom : FnScope N__law_atom ["_law_number"] (defScope s__law_atom) := ⟨rfl, rfl, rfl, by decide +kernel, rfl, by decide +kernel, by decide +kernel⟩
theorem ok__law_atom {f : Addr} {fd : FuncData} (F : Fun K "_law_atom" "_law_atom" s__law_atom f fd)  : FnOk P w K mg base CX0 1 f fd ["_law_number"] (sp__law_atom K) := by
  refine fn_m F sc__law_atom (fun x => rfl) (fun x _ => rfl) fun cdv A outer s H E hr x hx => ?_
  obtain ⟨number, r⟩ := x
  replace hx : M__law_atom number = some r := hx
  have nd := sc__law_atom.nd
  unfold M__law_atom at hx
  show MS _ [some (.fz (.int number)), none] _ _
  replace hx := lt_some hx
  obtain ⟨some_0, esome_0, hx⟩ := hx
  refine ms_cons (m_set (ps_set (i := 1) nd rfl (Or.inl rfl) pe_w) (ME.is (o' := (.lst ((some_0.map e_T_L_s_b).map .fz))) (me_lst (ds := [([("always" : Str)], true), ([("cause" : Str), ("hail" : Str)], true), ([("cause" : Str), ("not" : Str)], false), ([("thing" : Str), ("roof" : Str)], true)].map e_T_L_s_b) (mf_cons (me_tup (mf_cons (ME.frzl (me_lst (ds := [("always" : Str)].map D.str) (mf_cons me_str mf_nil))) (mf_cons me_bl mf_nil))) (mf_cons (me_tup (mf_cons (ME.frzl (me_lst (ds := [("cause" : Str), ("hail" : Str)].map D.str) (mf_cons me_str (mf_cons me_str mf_nil)))) (mf_cons me_bl mf_nil))) (mf_cons (me_tup (mf_cons (ME.frzl (me_lst (ds := [("cause" : Str), ("not" : Str)].map D.str) (mf_cons me_str (mf_cons me_str mf_nil)))) (mf_cons me_bl mf_nil))) (mf_cons (me_tup (mf_cons (ME.frzl (me_lst (ds := [("thing" : Str), ("roof" : Str)].map D.str) (mf_cons me_str (mf_cons me_str mf_nil)))) (mf_cons me_bl mf_nil))) mf_nil))))) (by rw [esome_0] <;> rfl)) ?_)
  show MS _ [some (.fz (.int number)), some (.lst ((some_0.map e_T_L_s_b).map .fz))] _ _
  replace hx := gd_some hx
  obtain ⟨g1, hx⟩ := hx
  replace hx := lt_some hx
  obtain ⟨some_1, esome_1, hx⟩ := hx
  refine ms_cons (m_set (ps_set (i := 1) nd rfl (Or.inl rfl) pe_w) (ME.is (o' := (.lst ((some_1.map e_T_L_s_b).map .fz))) (me_catLT (xs := some_0) (ys := [([("days" : Str), ("7" : Str), ("365" : Str)], true), ([("days" : Str), ("8" : Str), ("365" : Str)], false), ([("over" : Str), ("0.99" : Str)], true)]) (enc := e_T_L_s_b) g1 (mv_var (pv 1) rfl) (ME.v (me_lst (ds := [([("days" : Str), ("7" : Str), ("365" : Str)], true), ([("days" : Str), ("8" : Str), ("365" : Str)], false), ([("over" : Str), ("0.99" : Str)], true)].map e_T_L_s_b) (mf_cons (me_tup (mf_cons (ME.frzl (me_lst (ds := [("days" : Str), ("7" : Str), ("365" : Str)].map D.str) (mf_cons me_str (mf_cons me_str (mf_cons me_str mf_nil))))) (mf_cons me_bl mf_nil))) (mf_cons (me_tup (mf_cons (ME.frzl (me_lst (ds := [("days" : Str), ("8" : Str), ("365" : Str)].map D.str) (mf_cons me_str (mf_cons me_str (mf_cons me_str mf_nil))))) (mf_cons me_bl mf_nil))) (mf_cons (me_tup (mf_cons (ME.frzl (me_lst (ds := [("over" : Str), ("0.99" : Str)].map D.str) (mf_cons me_str (mf_cons me_str mf_nil)))) (mf_cons me_bl mf_nil))) mf_nil)))))) (by rw [esome_1] <;> rfl)) ?_)
  show MS _ [some (.fz (.int number)), some (.lst ((some_1.map e_T_L_s_b).map .fz))] _ _
  replace hx := gd_some hx
  obtain ⟨g2, hx⟩ := hx
  replace hx := lt_some hx
  obtain ⟨some_2, esome_2, hx⟩ := hx
  refine ms_cons (m_set (ps_set (i := 1) nd rfl (Or.inl rfl) pe_w) (ME.is (o' := (.lst ((some_2.map e_T_L_s_b).map .fz))) (me_catLT (xs := some_1) (ys := [([("over" : Str), ("1.00" : Str)], false), ([("thing" : Str), ("roo" : Str)], false)]) (enc := e_T_L_s_b) g2 (mv_var (pv 1) rfl) (ME.v (me_lst (ds := [([("over" : Str), ("1.00" : Str)], false), ([("thing" : Str), ("roo" : Str)], false)].map e_T_L_s_b) (mf_cons (me_tup (mf_cons (ME.frzl (me_lst (ds := [("over" : Str), ("1.00" : Str)].map D.str) (mf_cons me_str (mf_cons me_str mf_nil)))) (mf_cons me_bl mf_nil))) (mf_cons (me_tup (mf_cons (ME.frzl (me_lst (ds := [("thing" : Str), ("roo" : Str)].map D.str) (mf_cons me_str (mf_cons me_str mf_nil)))) (mf_cons me_bl mf_nil))) mf_nil))))) (by rw [esome_2] <;> rfl)) ?_)
  show MS _ [some (.fz (.int number)), some (.lst ((some_2.map e_T_L_s_b).map .fz))] _ _
  replace hx := bd_some hx
  obtain ⟨v3, hv3, hx⟩ := hx
  refine ms_one (m_ret (ps_ret pe_w) (ME.r (me_ixLT (xs := some_2) (enc := e_T_L_s_b) hv3 (ml_var (pv 1) rfl) (me_mod (me_var (pv 0) rfl) me_int (by decide)))) ?_)
  cases hx; rfl

noncomputable def M__law_opened (number : Int) (size : Int) : Option (List Str) :=
  lt ([] : List Str) fun found =>
  gd (-(2 ^ 62) ≤ size ∧ size < 2 ^ 62) <|
  bd (lp (fun (x3 : Nat) (p2 : (List Str) × Int) => (bd (L2.atI [("not" : Str), ("(" : Str)] (p2.2 % 2)) fun v5 =>
    gd (p2.1.length < sizeLine) <|
    lt (p2.1 ++ [v5]) fun found_1 =>
    lt (p2.2 / 2) fun number_1 =>
    some (found_1, number_1) : Option ((List Str) × Int))) (List.range size.toNat) (found, number)) fun p4 =>
  some p4.1
def sp__law_opened (K : PySem.W.Frag) : Sp := SpF K (fun x : Int × Int => [.fz (.int x.1), .fz (.int x.2)]) (fun x => M__law_opened x.1 x.2) (fun r => .lst ((r.map D.str).map .fz))
abbrev N__law_opened : List Str := ["_law_number", "_law_size", "_law_found", "_law_k"]
theorem sc__law_opened : FnScope N__law_opened ["_law_number", "_law_size"] (defScope s__law_opened) := ⟨rfl, rfl, rfl, by decide +kernel, rfl, by decide +kernel, by decide +kernel⟩
theorem ok__law_opened {f : Addr} {fd : FuncData} (F : Fun K "_law_opened" "_law_opened" s__law_opened f fd) (z_range : mg "range" = none) : FnOk P w K mg base CX0 1 f fd ["_law_number", "_law_size"] (sp__law_opened K) := by
  refine fn_m F sc__law_opened (fun x => rfl) (fun x _ => O.nvL_fz _) fun cdv A outer s H E hr x hx => ?_
  obtain ⟨⟨number, size⟩, r⟩ := x
  replace hx : M__law_opened number size = some r := hx
  have nd := sc__law_opened.nd
  unfold M__law_opened at hx
  show MS _ [some (.fz (.int number)), some (.fz (.int size)), none, none] _ _
  replace hx := lt_some hx
  obtain ⟨found, efound, hx⟩ := hx
  refine ms_cons (m_set (ps_set (i := 2) nd rfl (Or.inl rfl) pe_w) (ME.is (o' := (.lst ((found.map D.str).map .fz))) (me_lst (ds := [].map D.str) mf_nil) (by rw [efound] <;> rfl)) ?_)
  show MS _ [some (.fz (.int number)), some (.fz (.int size)), some (.lst ((found.map D.str).map .fz)), none] _ _
  replace hx := gd_some hx
  obtain ⟨g1, hx⟩ := hx
  replace hx := bd_some hx
  obtain ⟨p4, hp4, hx⟩ := hx
  refine ms_cons (m_forP (xs := (List.range size.toNat)) (enc := (fun k : Nat => D.int (k : Nat))) (ps_for PassesOwn.never rfl (pi_range1 (by rfl) z_range pa_w) (pg_name (i := 3) nd rfl (Or.inl rfl)) pss_w) (by exact (mi_rangeT (mf_cons (me_var (pv 1) rfl) mf_nil) g1)) hp4 (fun p2 => [some (.fz (.int p2.2)), some (.fz (.int size)), some (.lst ((p2.1.map D.str).map .fz)), none]) le_auto (fun x3 p2 p2o mx hx => ?_) fun τ le => ?_)
  ·
    refine ⟨_, _, mg_name, ?_⟩
    show MS _ [some (.fz (.int p2.2)), some (.fz (.int size)), some (.lst ((p2.1.map D.str).map .fz)), some (.fz (.int (x3 : Int)))] _ _
    replace hx := bd_some hx
    obtain ⟨v5, hv5, hx⟩ := hx
    replace hx := gd_some hx
    obtain ⟨g6, hx⟩ := hx
    replace hx := lt_some hx
    obtain ⟨found_1, efound_1, hx⟩ := hx
    refine ms_cons (m_appendT (i := 2) (xs := p2.1) (enc := D.str) (y := v5) g6 (pv _) rfl (me_ixLT (xs := [("not" : Str), ("(" : Str)]) (enc := D.str) hv5 (ME.l (me_lst (ds := [("not" : Str), ("(" : Str)].map D.str) (mf_cons me_str (mf_cons me_str mf_nil)))) (me_mod (me_var (pv 0) rfl) me_int (by decide))) ?_)
    rw [← efound_1]
    show MS _ [some (.fz (.int p2.2)), some (.fz (.int size)), some (.lst ((found_1.map D.str).map .fz)), some (.fz (.int (x3 : Int)))] _ _
    replace hx := lt_some hx
    obtain ⟨number_1, enumber_1, hx⟩ := hx
    refine ms_one (m_set (ps_set (i := 0) nd rfl (Or.inl rfl) pe_w) (ME.is (o' := (.fz (.int number_1))) (me_fdiv (me_var (pv 0) rfl) me_int ⟨by decide, by decide⟩) (by rw [enumber_1] <;> rfl)) ?_)
    cases hx; exact le_auto
  refine ms_le le ?_
  show MS _ [some (.fz (.int p4.2)), some (.fz (.int size)), some (.lst ((p4.1.map D.str).map .fz)), none] _ _
  refine ms_one (m_ret (ps_ret pe_w) (mr_var (pv 2) rfl) ?_)
  cases hx; rfl
noncomputable def M_name_at (words : (List Str)) (at_0 : Int) : Option Str :=
  bd (cond ((at_0 == (words.length : Int))) (some true) (bd (L2.atI words at_0) fun v1 => bd (M_is_name v1) fun v2 => some (!v2))) fun v3 =>
  cond v3 (none) <|
  bd (L2.atI words at_0) fun v5 =>
  some v5
def sp_name_at (K : PySem.W.Frag) : Sp := SpF K (fun x : (List Str) × Int => [.vw (x.1.map D.str), .fz (.int x.2)]) (fun x => M_name_at x.1 x.2) (fun r => .fz (.str r))
abbrev N_name_at : List Str := ["words", "at"]
theorem sc_name_at : FnScope N_name_at ["words", "at"] (defScope s_name_at) := ⟨rfl, rfl, rfl, by decide +kernel, rfl, by decide +kernel, by decide +kernel⟩
theorem ok_name_at {f : Addr} {fd : FuncData} (F : Fun K "name_at" "name_at" s_name_at f fd) (z_len : mg "len" = none) (c_is_name : Fn1 P w K mg base "is_name" 1 ["thing"] (sp_is_name K)) : FnOk P w K mg base CX0 2 f fd ["words", "at"] (sp_name_at K) := by
  refine fn_m F sc_name_at (fun x => rfl) (fun x _ => rfl) fun cdv A outer s H E hr x hx => ?_
  obtain ⟨⟨words, at_0⟩, r⟩ := x
  replace hx : M_name_at words at_0 = some r := hx
  have nd := sc_name_at.nd
  unfold M_name_at at hx
  show MS _ [some (.vw (words.map D.str)), some (.fz (.int at_0))] _ _
  replace hx := bd_some hx
  obtain ⟨v3, hv3, hx⟩ := hx
  refine ms_cons (m_if (t := v3) (MW.t (MW.is (mw_or (mt_eqI (me_var (pv 1) rfl) (me_lenLT (xs := words) (enc := D.str) (by rfl) z_len (ml_var (pv 0) rfl))) fun q4 => (by have hx := cond_f hv3 q4; replace hx := bd_some hx; obtain ⟨v1, hv1, hx⟩ := hx; replace hx := bd_some hx; obtain ⟨v2, hv2, hx⟩ := hx; cases hx; exact (mw_or1 (mt_not (mt_val (me_fn c_is_name (v1, v2) (ma_fz (me_ixLT (xs := words) (enc := D.str) hv1 (ml_var (pv 0) rfl) (me_var (pv 1) rfl)) ma_nil) hv2 (hr.mono (by decide)))))))) (or_c hv3))) (fun h => ?_) fun h => ms_nil ?_)
  · replace hx := cond_t hx h
    cases hx
  replace hx := cond_f hx h
  replace hx := bd_some hx
  obtain ⟨v5, hv5, hx⟩ := hx
  refine ms_one (m_ret (ps_ret pe_w) (ME.r (me_ixLT (xs := words) (enc := D.str) hv5 (ml_var (pv 0) rfl) (me_var (pv 1) rfl))) ?_)
  cases hx; rfl

noncomputable def M_cents_at (words : (List Str)) (at_0 : Int) : Option Int :=
  cond ((at_0 == (words.length : Int))) (none) <|
  bd (L2.atI words at_0) fun v1 =>
  bd (M_read_cents v1) fun v2 =>
  some v2
def sp_cents_at (K : PySem.W.Frag) : Sp := SpF K (fun x : (List Str) × Int => [.vw (x.1.map D.str), .fz (.int x.2)]) (fun x => M_cents_at x.1 x.2) (fun r => .fz (.int r))
abbrev N_cents_at : List Str := ["words", "at", "cents"]
theorem sc_cents_at : FnScope N_cents_at ["words", "at"] (defScope s_cents_at) := ⟨rfl, rfl, rfl, by decide +kernel, rfl, by decide +kernel, by decide +kernel⟩
theorem ok_cents_at {f : Addr} {fd : FuncData} (F : Fun K "cents_at" "cents_at" s_cents_at f fd) (z_len : mg "len" = none) (c_read_cents : Fn1 P w K mg base "read_cents" 2 ["text"] (sp_read_cents K)) : FnOk P w K mg base CX0 3 f fd ["words", "at"] (sp_cents_at K) := by
  refine fn_m F sc_cents_at (fun x => rfl) (fun x _ => rfl) fun cdv A outer s H E hr x hx => ?_
  obtain ⟨⟨words, at_0⟩, r⟩ := x
  replace hx : M_cents_at words at_0 = some r := hx
  have nd := sc_cents_at.nd
  unfold M_cents_at at hx
  show MS _ [some (.vw (words.map D.str)), some (.fz (.int at_0)), none] _ _
  refine ms_cons (m_if (t := ((at_0 == (words.length : Int)))) (mt_eqI (me_var (pv 1) rfl) (me_lenLT (xs := words) (enc := D.str) (by rfl) z_len (ml_var (pv 0) rfl))) (fun h => ?_) fun h => ms_nil ?_)
  · replace hx := cond_t hx h
    cases hx
  replace hx := cond_f hx h
  refine ms_cons (m_tryK ?_)
  replace hx := bd_some hx
  obtain ⟨v1, hv1, hx⟩ := hx
  replace hx := bd_some hx
  obtain ⟨v2, hv2, hx⟩ := hx
  refine ms_one (m_set (ps_set (i := 2) nd rfl (Or.inl rfl) pe_w) (me_fn c_read_cents (v1, v2) (ma_fz (me_ixLT (xs := words) (enc := D.str) hv1 (ml_var (pv 0) rfl) (me_var (pv 1) rfl)) ma_nil) hv2 (hr.mono (by decide))) ?_)
  refine ms_one (m_ret (ps_ret pe_w) (ME.r (me_var (pv 2) rfl)) ?_)
  cases hx; rfl

noncomputable def M_day_at (words : (List Str)) (at_0 : Int) : Option Int :=
  cond ((at_0 == (words.length : Int))) (none) <|
  bd (L2.atI words at_0) fun v1 =>
  gd (v1.length ≤ sizeLine) <|
  bd (cond (decide ((v1.length : Int) < 1)) (some true) (gd (v1.length ≤ sizeLine) <| bd (cond (decide (7 < (v1.length : Int))) (some true) (gd (v1.length ≤ sizeLine) <| bd (cond (decide (1 < (v1.length : Int))) (bd (L2.atI v1.cps.toList (0 : Int)) fun c5 => gd (v1.length ≤ sizeLine) <| some (((sg1 c5) == ("0" : Str)))) (some false)) fun v7 => some v7)) fun v9 => some v9)) fun v11 =>
  cond v11 (none) <|
  bd (lpO (fun (x14 : Nat) (p13 : Unit) => (cond (!decide (x14 ∈ ("0123456789" : Str).cps.toList)) (none) <|
    some (.nx ()) : Option (Ou (Unit) (Unit) Int))) v1.cps.toList ()) fun o15 => ouR o15 fun p13 =>
  bd (PySem.intText? v1) fun n16 =>
  gd (v1.length ≤ 640) <|
  bd (M_is_day n16) fun v18 =>
  cond (!v18) (none) <|
  bd (PySem.intText? v1) fun n19 =>
  gd (v1.length ≤ 640) <|
  some n19
def sp_day_at (K : PySem.W.Frag) : Sp := SpF K (fun x : (List Str) × Int => [.vw (x.1.map D.str), .fz (.int x.2)]) (fun x => M_day_at x.1 x.2) (fun r => .fz (.int r))
abbrev N_day_at : List Str := ["words", "at", "word", "sign"]
theorem sc_day_at : FnScope N_day_at ["words", "at"] (defScope s_day_at) := ⟨rfl, rfl, rfl, by decide +kernel, rfl, by decide +kernel, by decide +kernel⟩
theorem ok_day_at {f : Addr} {fd : FuncData} (F : Fun K "day_at" "day_at" s_day_at f fd) (z_len : mg "len" = none) (z_int : mg "int" = none) (g_FIGURES_wording : mg "FIGURES_wording" = some (.str "0123456789" tkFIGURES_wording)) (c_is_day : Fn1 P w K mg base "is_day" 2 ["thing"] (sp_is_day K)) : FnOk P w K mg base CX0 3 f fd ["words", "at"] (sp_day_at K) := by
  refine fn_m F sc_day_at (fun x => rfl) (fun x _ => rfl) fun cdv A outer s H E hr x hx => ?_
  obtain ⟨⟨words, at_0⟩, r⟩ := x
  replace hx : M_day_at words at_0 = some r := hx
  have nd := sc_day_at.nd
  unfold M_day_at at hx
  show MS _ [some (.vw (words.map D.str)), some (.fz (.int at_0)), none, none] _ _
  refine ms_cons (m_if (t := ((at_0 == (words.length : Int)))) (mt_eqI (me_var (pv 1) rfl) (me_lenLT (xs := words) (enc := D.str) (by rfl) z_len (ml_var (pv 0) rfl))) (fun h => ?_) fun h => ms_nil ?_)
  · replace hx := cond_t hx h
    cases hx
  replace hx := cond_f hx h
  replace hx := bd_some hx
  obtain ⟨v1, hv1, hx⟩ := hx
  refine ms_cons (m_set (ps_set (i := 2) nd rfl (Or.inl rfl) pe_w) (me_ixLT (xs := words) (enc := D.str) hv1 (ml_var (pv 0) rfl) (me_var (pv 1) rfl)) ?_)
  show MS _ [some (.vw (words.map D.str)), some (.fz (.int at_0)), some (.fz (.str v1)), none] _ _
  replace hx := gd_some hx
  obtain ⟨g2, hx⟩ := hx
  replace hx := bd_some hx
  obtain ⟨v11, hv11, hx⟩ := hx
  refine ms_cons (m_if (t := v11) (MW.t (MW.is (mw_or (mt_lt (me_lenS (by rfl) z_len (me_var (pv 2) rfl) g2) me_int) fun q12 => (by have hx := cond_f hv11 q12; replace hx := gd_some hx; obtain ⟨g3, hx⟩ := hx; replace hx := bd_some hx; obtain ⟨v9, hv9, hx⟩ := hx; first | (cases hx; exact (MW.is (mw_or (mt_gt (me_lenS (by rfl) z_len (me_var (pv 2) rfl) g3) me_int) fun q10 => (by have hx := cond_f hv9 q10; replace hx := gd_some hx; obtain ⟨g4, hx⟩ := hx; replace hx := bd_some hx; obtain ⟨v7, hv7, hx⟩ := hx; first | (cases hx; exact (mw_or1 (MW.t (MW.is (mw_and (mt_gt (me_lenS (by rfl) z_len (me_var (pv 2) rfl) g4) me_int) fun q8 => (by have hx := cond_t hv7 q8; replace hx := bd_some hx; obtain ⟨c5, hc5, hx⟩ := hx; replace hx := gd_some hx; obtain ⟨g6, hx⟩ := hx; cases hx; exact (mw_and1 (mt_eqS (me_ixS (me_var (pv 2) rfl) me_int g6 hc5) me_str)))) (and_c hv7))))) | (injection hx with hx; subst hx; exact (mw_or1 (MW.t (MW.is (mw_and (mt_gt (me_lenS (by rfl) z_len (me_var (pv 2) rfl) g4) me_int) fun q8 => (by have hx := cond_t hv7 q8; replace hx := bd_some hx; obtain ⟨c5, hc5, hx⟩ := hx; replace hx := gd_some hx; obtain ⟨g6, hx⟩ := hx; cases hx; exact (mw_and1 (mt_eqS (me_ixS (me_var (pv 2) rfl) me_int g6 hc5) me_str)))) (and_c hv7))))))) (or_c hv9))) | (injection hx with hx; subst hx; exact (MW.is (mw_or (mt_gt (me_lenS (by rfl) z_len (me_var (pv 2) rfl) g3) me_int) fun q10 => (by have hx := cond_f hv9 q10; replace hx := gd_some hx; obtain ⟨g4, hx⟩ := hx; replace hx := bd_some hx; obtain ⟨v7, hv7, hx⟩ := hx; first | (cases hx; exact (mw_or1 (MW.t (MW.is (mw_and (mt_gt (me_lenS (by rfl) z_len (me_var (pv 2) rfl) g4) me_int) fun q8 => (by have hx := cond_t hv7 q8; replace hx := bd_some hx; obtain ⟨c5, hc5, hx⟩ := hx; replace hx := gd_some hx; obtain ⟨g6, hx⟩ := hx; cases hx; exact (mw_and1 (mt_eqS (me_ixS (me_var (pv 2) rfl) me_int g6 hc5) me_str)))) (and_c hv7))))) | (injection hx with hx; subst hx; exact (mw_or1 (MW.t (MW.is (mw_and (mt_gt (me_lenS (by rfl) z_len (me_var (pv 2) rfl) g4) me_int) fun q8 => (by have hx := cond_t hv7 q8; replace hx := bd_some hx; obtain ⟨c5, hc5, hx⟩ := hx; replace hx := gd_some hx; obtain ⟨g6, hx⟩ := hx; cases hx; exact (mw_and1 (mt_eqS (me_ixS (me_var (pv 2) rfl) me_int g6 hc5) me_str)))) (and_c hv7))))))) (or_c hv9))))) (or_c hv11))) (fun h => ?_) fun h => ms_nil ?_)
  · replace hx := cond_t hx h
    cases hx
  replace hx := cond_f hx h
  replace hx := bd_some hx
  obtain ⟨o15, ho15, hx⟩ := hx
  refine ms_cons (m_forO (xs := v1.cps.toList) (enc := (fun c => D.str ⟨#[c]⟩)) (ps_for PassesOwn.never rfl (pi_str pe_w) (pg_name (i := 3) nd rfl (Or.inl rfl)) pss_w) (by exact (mi_strT (me_var (pv 2) rfl))) ho15 (fun p13 => [some (.vw (words.map D.str)), some (.fz (.int at_0)), some (.fz (.str v1)), none]) (fun r => .fz (.int r)) le_auto (fun x14 p13 p13o mx hx => ?_) (fun p13 τ e le => ?_) fun q e => ?_)
  ·
    refine ⟨_, _, mg_name, ?_⟩
    show MS _ [some (.vw (words.map D.str)), some (.fz (.int at_0)), some (.fz (.str v1)), some (.fz (.str (sg1 x14)))] _ _
    refine ms_one (m_if (t := (!decide (x14 ∈ ("0123456789" : Str).cps.toList))) (mt_niS (me_var (pv 3) rfl) (me_gS g_FIGURES_wording)) (fun h => ?_) fun h => ms_nil ?_)
    · replace hx := cond_t hx h
      cases hx
    replace hx := cond_f hx h
    cases hx; exact ⟨_, rfl, le_auto⟩
  · subst e
    dsimp only [ouR] at hx
    refine ms_le le ?_
    show MS _ [some (.vw (words.map D.str)), some (.fz (.int at_0)), some (.fz (.str v1)), none] _ _
    replace hx := bd_some hx
    obtain ⟨n16, hn16, hx⟩ := hx
    replace hx := gd_some hx
    obtain ⟨g17, hx⟩ := hx
    replace hx := bd_some hx
    obtain ⟨v18, hv18, hx⟩ := hx
    refine ms_cons (m_if (t := (!v18)) (mt_not (mt_val (me_fn c_is_day (n16, v18) (ma_fz (me_intS (by rfl) z_int (me_var (pv 2) rfl) hn16 g17) ma_nil) hv18 (hr.mono (by decide))))) (fun h => ?_) fun h => ms_nil ?_)
    · replace hx := cond_t hx h
      cases hx
    replace hx := cond_f hx h
    replace hx := bd_some hx
    obtain ⟨n19, hn19, hx⟩ := hx
    replace hx := gd_some hx
    obtain ⟨g20, hx⟩ := hx
    refine ms_one (m_ret (ps_ret pe_w) (ME.r (me_intS (by rfl) z_int (me_var (pv 2) rfl) hn19 g20)) ?_)
    cases hx; rfl
  · subst e; cases hx; rfl

abbrev e_T_U_Cd_i (C_Condition C_CauseIs C_ThingIs C_DaysIn C_Over C_Not C_All C_Some : Addr) (p : (Cd × Int)) : D := .tup [(u_Cd C_Condition C_CauseIs C_ThingIs C_DaysIn C_Over C_Not C_All C_Some) p.1, .int p.2]
noncomputable def M_atom_at (words : (List Str)) (at_0 : Int) : Option (Xr Xc (Cd × Int)) :=
  bd (L2.atI words at_0) fun v1 =>
  cond ((v1 == ("always" : Str))) (some (.ok ((Cd.plain ()), (at_0 + 1)))) <|
  cond ((v1 == ("cause" : Str))) (bd (M_name_at words (at_0 + 1)) fun v2 =>
    bd (M_CauseIs___init__ v2) fun v3 =>
    some (.ok ((Cd.cause v3), (at_0 + 2)))) <|
  cond ((v1 == ("thing" : Str))) (bd (M_name_at words (at_0 + 1)) fun v4 =>
    bd (M_ThingIs___init__ v4) fun v5 =>
    some (.ok ((Cd.thing v5), (at_0 + 2)))) <|
  cond ((v1 == ("over" : Str))) (bd (M_cents_at words (at_0 + 1)) fun v6 =>
    bd (M_Over___init__ v6) fun v7 =>
    some (.ok ((Cd.over v7), (at_0 + 2)))) <|
  cond (!(v1 == ("days" : Str))) (some (.er (.NoWords at_0))) <|
  bd (M_day_at words (at_0 + 1)) fun v8 =>
  bd (M_day_at words (at_0 + 2)) fun v9 =>
  cond (decide (v9 < v8)) (some (.er (.NoWords (at_0 + 2)))) <|
  bd (M_DaysIn___init__ v8 v9) fun v10 =>
  some (.ok ((Cd.days v10), (at_0 + 3)))
def sp_atom_at (K : PySem.W.Frag) (C_Condition C_CauseIs C_ThingIs C_DaysIn C_Over C_Not C_All C_Some C_NoWords C_TooDeep : Addr) : Sp := SpFE K (fun x : (List Str) × Int => [.vw (x.1.map D.str), .fz (.int x.2)]) (fun x => M_atom_at x.1 x.2) (t_Xc C_NoWords C_TooDeep) (fun r => .fz ((e_T_U_Cd_i C_Condition C_CauseIs C_ThingIs C_DaysIn C_Over C_Not C_All C_Some) r))
abbrev N_atom_at : List Str := ["words", "at", "word", "first", "last"]
theorem sc_atom_at : FnScope N_atom_at ["words", "at"] (defScope s_atom_at) := ⟨rfl, rfl, rfl, by decide +kernel, rfl, by decide +kernel, by decide +kernel⟩
theorem ok_atom_at {f : Addr} {fd : FuncData} (F : Fun K "atom_at" "atom_at" s_atom_at f fd) (p_Condition : MkP K C_Condition) (e_Condition : mg "Condition" = some (.ref C_Condition)) (c_name_at : Fn1 P w K mg base "name_at" 2 ["words", "at"] (sp_name_at K)) (i_CauseIs : Mk1 P w K mg base "CauseIs" C_CauseIs 1 ["self", "name"] (spI_CauseIs___init__ K C_CauseIs)) (i_ThingIs : Mk1 P w K mg base "ThingIs" C_ThingIs 1 ["self", "name"] (spI_ThingIs___init__ K C_ThingIs)) (c_cents_at : Fn1 P w K mg base "cents_at" 3 ["words", "at"] (sp_cents_at K)) (i_Over : Mk1 P w K mg base "Over" C_Over 1 ["self", "cents"] (spI_Over___init__ K C_Over)) (j_NoWords : XiC P w K mg base "NoWords" C_NoWords "at" 1 ["self", "at"]) (c_day_at : Fn1 P w K mg base "day_at" 3 ["words", "at"] (sp_day_at K)) (i_DaysIn : Mk1 P w K mg base "DaysIn" C_DaysIn 1 ["self", "first", "last"] (spI_DaysIn___init__ K C_DaysIn)) : FnOk P w K mg base (L2.CX P w) 4 f fd ["words", "at"] (sp_atom_at K C_Condition C_CauseIs C_ThingIs C_DaysIn C_Over C_Not C_All C_Some C_NoWords C_TooDeep) := by
  refine fn_mE F sc_atom_at (fun x => rfl) (fun x _ => exO_nv (fun _ => rfl) x.2) fun cdv A outer s H E hr po x hx => ?_
  obtain ⟨⟨words, at_0⟩, r⟩ := x
  replace hx : M_atom_at words at_0 = some r := hx
  have nd := sc_atom_at.nd
  unfold M_atom_at at hx
  show MS _ [some (.vw (words.map D.str)), some (.fz (.int at_0)), none, none, none] _ _
  replace hx := bd_some hx
  obtain ⟨v1, hv1, hx⟩ := hx
  refine ms_cons (m_set (ps_set (i := 2) nd rfl (Or.inl rfl) pe_w) (me_ixLT (xs := words) (enc := D.str) hv1 (ml_var (pv 0) rfl) (me_var (pv 1) rfl)) ?_)
  show MS _ [some (.vw (words.map D.str)), some (.fz (.int at_0)), some (.fz (.str v1)), none, none] _ _
  refine ms_cons (m_if (t := ((v1 == ("always" : Str)))) (mt_eqS (me_var (pv 2) rfl) me_str) (fun h => ?_) fun h => ms_nil ?_)
  · replace hx := cond_t hx h
    refine ms_one (m_ret (ps_ret pe_w) (ME.r (me_tup (mf_cons (ME.as (ME.is (o' := .fz ((r_Condition C_Condition) ())) (ME.frz (me_plain p_Condition e_Condition) rfl) rfl) (u_Cd_plain C_Condition C_CauseIs C_ThingIs C_DaysIn C_Over C_Not C_All C_Some _).symm) (mf_cons (me_add (me_var (pv 1) rfl) me_int) mf_nil)))) ?_)
    cases hx; rfl
  replace hx := cond_f hx h
  refine ms_cons (m_if (t := ((v1 == ("cause" : Str)))) (mt_eqS (me_var (pv 2) rfl) me_str) (fun h => ?_) fun h => ms_nil ?_)
  · replace hx := cond_t hx h
    replace hx := bd_some hx
    obtain ⟨v2, hv2, hx⟩ := hx
    replace hx := bd_some hx
    obtain ⟨v3, hv3, hx⟩ := hx
    refine ms_one (m_ret (ps_ret pe_w) (ME.r (me_tup (mf_cons (ME.as (ME.is (o' := .fz ((r_CauseIs C_CauseIs) v3)) (ME.frz (me_make i_CauseIs (v2, v3) (ma_fz (me_fn c_name_at ((words, (at_0 + 1)), v2) (ma_vw (ml_var (pv 0) rfl) (ma_fz (me_add (me_var (pv 1) rfl) me_int) ma_nil)) hv2 (hr.mono (by decide))) ma_nil) hv3 (hr.mono (by decide))) rfl) rfl) (u_Cd_cause C_Condition C_CauseIs C_ThingIs C_DaysIn C_Over C_Not C_All C_Some _).symm) (mf_cons (me_add (me_var (pv 1) rfl) me_int) mf_nil)))) ?_)
    cases hx; rfl
  replace hx := cond_f hx h
  refine ms_cons (m_if (t := ((v1 == ("thing" : Str)))) (mt_eqS (me_var (pv 2) rfl) me_str) (fun h => ?_) fun h => ms_nil ?_)
  · replace hx := cond_t hx h
    replace hx := bd_some hx
    obtain ⟨v4, hv4, hx⟩ := hx
    replace hx := bd_some hx
    obtain ⟨v5, hv5, hx⟩ := hx
    refine ms_one (m_ret (ps_ret pe_w) (ME.r (me_tup (mf_cons (ME.as (ME.is (o' := .fz ((r_ThingIs C_ThingIs) v5)) (ME.frz (me_make i_ThingIs (v4, v5) (ma_fz (me_fn c_name_at ((words, (at_0 + 1)), v4) (ma_vw (ml_var (pv 0) rfl) (ma_fz (me_add (me_var (pv 1) rfl) me_int) ma_nil)) hv4 (hr.mono (by decide))) ma_nil) hv5 (hr.mono (by decide))) rfl) rfl) (u_Cd_thing C_Condition C_CauseIs C_ThingIs C_DaysIn C_Over C_Not C_All C_Some _).symm) (mf_cons (me_add (me_var (pv 1) rfl) me_int) mf_nil)))) ?_)
    cases hx; rfl
  replace hx := cond_f hx h
  refine ms_cons (m_if (t := ((v1 == ("over" : Str)))) (mt_eqS (me_var (pv 2) rfl) me_str) (fun h => ?_) fun h => ms_nil ?_)
  · replace hx := cond_t hx h
    replace hx := bd_some hx
    obtain ⟨v6, hv6, hx⟩ := hx
    replace hx := bd_some hx
    obtain ⟨v7, hv7, hx⟩ := hx
    refine ms_one (m_ret (ps_ret pe_w) (ME.r (me_tup (mf_cons (ME.as (ME.is (o' := .fz ((r_Over C_Over) v7)) (ME.frz (me_make i_Over (v6, v7) (ma_fz (me_fn c_cents_at ((words, (at_0 + 1)), v6) (ma_vw (ml_var (pv 0) rfl) (ma_fz (me_add (me_var (pv 1) rfl) me_int) ma_nil)) hv6 (hr.mono (by decide))) ma_nil) hv7 (hr.mono (by decide))) rfl) rfl) (u_Cd_over C_Condition C_CauseIs C_ThingIs C_DaysIn C_Over C_Not C_All C_Some _).symm) (mf_cons (me_add (me_var (pv 1) rfl) me_int) mf_nil)))) ?_)
    cases hx; rfl
  replace hx := cond_f hx h
  refine ms_cons (m_if (t := (!(v1 == ("days" : Str)))) (mt_neS (me_var (pv 2) rfl) me_str) (fun h => ?_) fun h => ms_nil ?_)
  · replace hx := cond_t hx h
    refine ms_one (m_raiseI j_NoWords (me_var (pv 1) rfl) (hr.mono (by decide)) ?_)
    cases hx; rfl
  replace hx := cond_f hx h
  replace hx := bd_some hx
  obtain ⟨v8, hv8, hx⟩ := hx
  refine ms_cons (m_set (ps_set (i := 3) nd rfl (Or.inl rfl) pe_w) (me_fn c_day_at ((words, (at_0 + 1)), v8) (ma_vw (ml_var (pv 0) rfl) (ma_fz (me_add (me_var (pv 1) rfl) me_int) ma_nil)) hv8 (hr.mono (by decide))) ?_)
  show MS _ [some (.vw (words.map D.str)), some (.fz (.int at_0)), some (.fz (.str v1)), some (.fz (.int v8)), none] _ _
  replace hx := bd_some hx
  obtain ⟨v9, hv9, hx⟩ := hx
  refine ms_cons (m_set (ps_set (i := 4) nd rfl (Or.inl rfl) pe_w) (me_fn c_day_at ((words, (at_0 + 2)), v9) (ma_vw (ml_var (pv 0) rfl) (ma_fz (me_add (me_var (pv 1) rfl) me_int) ma_nil)) hv9 (hr.mono (by decide))) ?_)
  show MS _ [some (.vw (words.map D.str)), some (.fz (.int at_0)), some (.fz (.str v1)), some (.fz (.int v8)), some (.fz (.int v9))] _ _
  refine ms_cons (m_if (t := (decide (v9 < v8))) (mt_lt (me_var (pv 4) rfl) (me_var (pv 3) rfl)) (fun h => ?_) fun h => ms_nil ?_)
  · replace hx := cond_t hx h
    refine ms_one (m_raiseI j_NoWords (me_add (me_var (pv 1) rfl) me_int) (hr.mono (by decide)) ?_)
    cases hx; rfl
  replace hx := cond_f hx h
  replace hx := bd_some hx
  obtain ⟨v10, hv10, hx⟩ := hx
  refine ms_one (m_ret (ps_ret pe_w) (ME.r (me_tup (mf_cons (ME.as (ME.is (o' := .fz ((r_DaysIn C_DaysIn) v10)) (ME.frz (me_make i_DaysIn ((v8, v9), v10) (ma_fz (me_var (pv 3) rfl) (ma_fz (me_var (pv 4) rfl) ma_nil)) hv10 (hr.mono (by decide))) rfl) rfl) (u_Cd_days C_Condition C_CauseIs C_ThingIs C_DaysIn C_Over C_Not C_All C_Some _).symm) (mf_cons (me_add (me_var (pv 1) rfl) me_int) mf_nil)))) ?_)
  cases hx; rfl


abbrev TK_parse : Type := ((List Str) × Int × Int → Option (Xr Xc (Cd × Int))) × ((List Str) × Int × Int → Option (Xr Xc (Cd × Int))) × ((List Str) × Int × Int → Option (Xr Xc (Cd × Int)))
noncomputable def M_some_at (r : TK_parse) (words : (List Str)) (at_0 : Int) (deep : Int) : Option (Xr Xc (Cd × Int)) :=
  bdx (r.2.1 (words, at_0, deep)) fun v1 =>
  lt [v1.1] fun parts =>
  bd (wl (fun (p3 : Cd × Int × (List Cd)) => (bd (cond (decide (p3.2.1 < (words.length : Int))) (bd (L2.atI words p3.2.1) fun v5 => some ((v5 == ("or" : Str)))) (some false)) fun v6 => some v6 : Option Bool)) (fun (p3 : Cd × Int × (List Cd)) => (cond (((p3.2.2.length : Int) == 8)) (some (.rt (.er (.NoWords (p3.2.1 + 1))))) <|
    bdo (r.2.1 (words, (p3.2.1 + 1), deep)) fun v8 =>
    gd (p3.2.2.length < sizeLine) <|
    lt (p3.2.2 ++ [v8.1]) fun parts_1 =>
    some (.nx (v8.1, v8.2, parts_1)) : Option (Ou (Cd × Int × (List Cd)) (Cd × Int × (List Cd)) (Xr Xc (Cd × Int))))) (v1.1, v1.2, parts)) fun o4 => ouR o4 fun p3 =>
  cond (((p3.2.2.length : Int) == 1)) (some (.ok (p3.1, p3.2.1))) <|
  bd (M_Some___init__ p3.2.2) fun v11 =>
  some (.ok ((Cd.someOf v11), p3.2.1))
noncomputable def M_all_at (r : TK_parse) (words : (List Str)) (at_0 : Int) (deep : Int) : Option (Xr Xc (Cd × Int)) :=
  bdx (r.2.2 (words, at_0, deep)) fun v1 =>
  lt [v1.1] fun parts =>
  bd (wl (fun (p3 : Cd × Int × (List Cd)) => (bd (cond (decide (p3.2.1 < (words.length : Int))) (bd (L2.atI words p3.2.1) fun v5 => some ((v5 == ("and" : Str)))) (some false)) fun v6 => some v6 : Option Bool)) (fun (p3 : Cd × Int × (List Cd)) => (cond (((p3.2.2.length : Int) == 8)) (some (.rt (.er (.NoWords (p3.2.1 + 1))))) <|
    bdo (r.2.2 (words, (p3.2.1 + 1), deep)) fun v8 =>
    gd (p3.2.2.length < sizeLine) <|
    lt (p3.2.2 ++ [v8.1]) fun parts_1 =>
    some (.nx (v8.1, v8.2, parts_1)) : Option (Ou (Cd × Int × (List Cd)) (Cd × Int × (List Cd)) (Xr Xc (Cd × Int))))) (v1.1, v1.2, parts)) fun o4 => ouR o4 fun p3 =>
  cond (((p3.2.2.length : Int) == 1)) (some (.ok (p3.1, p3.2.1))) <|
  bd (M_All___init__ p3.2.2) fun v11 =>
  some (.ok ((Cd.allOf v11), p3.2.1))
noncomputable def M_piece_at (r : TK_parse) (words : (List Str)) (at_0 : Int) (deep : Int) : Option (Xr Xc (Cd × Int)) :=
  cond ((at_0 == (words.length : Int))) (some (.er (.NoWords at_0))) <|
  bd (L2.atI words at_0) fun v1 =>
  bd (cond (!(v1 == ("not" : Str))) (bd (L2.atI words at_0) fun v2 => some ((!(v2 == ("(" : Str))))) (some false)) fun v3 =>
  cond v3 (bdx (M_atom_at words at_0) fun v5 =>
    some (.ok v5)) <|
  cond ((deep == 6)) (some (.er .TooDeep)) <|
  bd (L2.atI words at_0) fun v7 =>
  cond ((v7 == ("not" : Str))) (bdx (r.2.2 (words, (at_0 + 1), (deep + 1))) fun v8 =>
    bd (M_Not___init__ v8.1) fun v10 =>
    some (.ok ((Cd.notOf v10), v8.2))) <|
  bdx (r.1 (words, (at_0 + 1), (deep + 1))) fun v11 =>
  bd (cond ((v11.2 == (words.length : Int))) (some true) (bd (L2.atI words v11.2) fun v13 => some ((!(v13 == (")" : Str)))))) fun v14 =>
  cond v14 (some (.er (.NoWords v11.2))) <|
  some (.ok (v11.1, (v11.2 + 1)))
noncomputable def Kn_parse : Nat → TK_parse
  | 0 => (fun _ => none, fun _ => none, fun _ => none)
  | n + 1 => let r := Kn_parse n; (fun x => M_some_at r x.1 x.2.1 x.2.2, fun x => M_all_at r x.1 x.2.1 x.2.2, fun x => M_piece_at r x.1 x.2.1 x.2.2)
noncomputable def Mf_some_at (n : Nat) (x0 : (List Str)) (x1 : Int) (x2 : Int) := (Kn_parse n).1 (x0, x1, x2)
noncomputable def Mf_all_at (n : Nat) (x0 : (List Str)) (x1 : Int) (x2 : Int) := (Kn_parse n).2.1 (x0, x1, x2)
noncomputable def Mf_piece_at (n : Nat) (x0 : (List Str)) (x1 : Int) (x2 : Int) := (Kn_parse n).2.2 (x0, x1, x2)
def sp_some_at (K : PySem.W.Frag) (C_Condition C_CauseIs C_ThingIs C_DaysIn C_Over C_Not C_All C_Some C_NoWords C_TooDeep : Addr) (n : Nat) : Sp := SpFE K (fun x : (List Str) × Int × Int => [.vw (x.1.map D.str), .fz (.int x.2.1), .fz (.int x.2.2)]) (fun x => Mf_some_at n x.1 x.2.1 x.2.2) (t_Xc C_NoWords C_TooDeep) (fun r => .fz ((e_T_U_Cd_i C_Condition C_CauseIs C_ThingIs C_DaysIn C_Over C_Not C_All C_Some) r))
def sp_all_at (K : PySem.W.Frag) (C_Condition C_CauseIs C_ThingIs C_DaysIn C_Over C_Not C_All C_Some C_NoWords C_TooDeep : Addr) (n : Nat) : Sp := SpFE K (fun x : (List Str) × Int × Int => [.vw (x.1.map D.str), .fz (.int x.2.1), .fz (.int x.2.2)]) (fun x => Mf_all_at n x.1 x.2.1 x.2.2) (t_Xc C_NoWords C_TooDeep) (fun r => .fz ((e_T_U_Cd_i C_Condition C_CauseIs C_ThingIs C_DaysIn C_Over C_Not C_All C_Some) r))
def sp_piece_at (K : PySem.W.Frag) (C_Condition C_CauseIs C_ThingIs C_DaysIn C_Over C_Not C_All C_Some C_NoWords C_TooDeep : Addr) (n : Nat) : Sp := SpFE K (fun x : (List Str) × Int × Int => [.vw (x.1.map D.str), .fz (.int x.2.1), .fz (.int x.2.2)]) (fun x => Mf_piece_at n x.1 x.2.1 x.2.2) (t_Xc C_NoWords C_TooDeep) (fun r => .fz ((e_T_U_Cd_i C_Condition C_CauseIs C_ThingIs C_DaysIn C_Over C_Not C_All C_Some) r))
abbrev N_some_at : List Str := ["words", "at", "deep", "part", "parts"]
theorem sc_some_at : FnScope N_some_at ["words", "at", "deep"] (defScope s_some_at) := ⟨rfl, rfl, rfl, by decide +kernel, rfl, by decide +kernel, by decide +kernel⟩
theorem ok_some_at {f : Addr} {fd : FuncData} (n : Nat) (F : Fun K "some_at" "some_at" s_some_at f fd) (z_len : mg "len" = none) (g_MOST_PARTS : mg "MOST_PARTS" = some (.int 8 tkMOST_PARTS)) (c_all_at : Fn1E P w K mg base "all_at" (4 + n) ["words", "at", "deep"] (sp_all_at K C_Condition C_CauseIs C_ThingIs C_DaysIn C_Over C_Not C_All C_Some C_NoWords C_TooDeep n)) (j_NoWords : XiC P w K mg base "NoWords" C_NoWords "at" 1 ["self", "at"]) (i_Some : Mk1 P w K mg base "Some" C_Some 1 ["self", "several"] (spI_Some___init__ K C_Some C_Condition C_CauseIs C_ThingIs C_DaysIn C_Over C_Not C_All)) : FnOk P w K mg base (L2.CX P w) (4 + n + 1) f fd ["words", "at", "deep"] (sp_some_at K C_Condition C_CauseIs C_ThingIs C_DaysIn C_Over C_Not C_All C_Some C_NoWords C_TooDeep (n + 1)) := by
  refine fn_mE F sc_some_at (fun x => rfl) (fun x _ => exO_nv (fun _ => rfl) x.2) fun cdv A outer s H E hr po x hx => ?_
  obtain ⟨⟨words, at_0, deep⟩, r⟩ := x
  replace hx : M_some_at (Kn_parse n) words at_0 deep = some r := hx
  have nd := sc_some_at.nd
  unfold M_some_at at hx
  show MS _ [some (.vw (words.map D.str)), some (.fz (.int at_0)), some (.fz (.int deep)), none, none] _ _
  rcases bdx_some hx with ⟨xe2, hv1, hx⟩ | ⟨v1, hv1, hx⟩
  · refine ms_cons (m_rzAsg (ps_asg pe_w (pg_tup (n := 2) rfl (pgs_cons (pg_name (i := 3) nd rfl (Or.inl rfl)) (pgs_cons (pg_name (i := 1) nd rfl (Or.inl rfl)) pgs_nil)))) (mz_fn c_all_at ((words, at_0, deep), .er xe2) (ma_vw (ml_var (pv 0) rfl) (ma_fz (me_var (pv 1) rfl) (ma_fz (me_var (pv 2) rfl) ma_nil))) hv1 (hr.mono (by omega))) ?_)
    cases hx; rfl
  refine ms_cons (m_tgt (ps_asg pe_w (pg_tup (n := 2) rfl (pgs_cons (pg_name (i := 3) nd rfl (Or.inl rfl)) (pgs_cons (pg_name (i := 1) nd rfl (Or.inl rfl)) pgs_nil)))) (me_fn (Fn1E.ok c_all_at) ((words, at_0, deep), .ok v1) (ma_vw (ml_var (pv 0) rfl) (ma_fz (me_var (pv 1) rfl) (ma_fz (me_var (pv 2) rfl) ma_nil))) ⟨hv1, (by intro _ z; cases z)⟩ (hr.mono (by omega))) (mg_tup (mgs_cons mg_name (mgs_cons mg_name mgs_nil)) rfl) ?_)
  show MS _ [some (.vw (words.map D.str)), some (.fz (.int v1.2)), some (.fz (.int deep)), some (.fz ((u_Cd C_Condition C_CauseIs C_ThingIs C_DaysIn C_Over C_Not C_All C_Some) v1.1)), none] _ _
  replace hx := lt_some hx
  obtain ⟨parts, eparts, hx⟩ := hx
  refine ms_cons (m_set (ps_set (i := 4) nd rfl (Or.inl rfl) pe_w) (ME.is (o' := (.lst ((parts.map (u_Cd C_Condition C_CauseIs C_ThingIs C_DaysIn C_Over C_Not C_All C_Some)).map .fz))) (me_lst (ds := [v1.1].map (u_Cd C_Condition C_CauseIs C_ThingIs C_DaysIn C_Over C_Not C_All C_Some)) (mf_cons (me_var (pv 3) rfl) mf_nil)) (by rw [eparts] <;> rfl)) ?_)
  show MS _ [some (.vw (words.map D.str)), some (.fz (.int v1.2)), some (.fz (.int deep)), some (.fz ((u_Cd C_Condition C_CauseIs C_ThingIs C_DaysIn C_Over C_Not C_All C_Some) v1.1)), some (.lst ((parts.map (u_Cd C_Condition C_CauseIs C_ThingIs C_DaysIn C_Over C_Not C_All C_Some)).map .fz))] _ _
  replace hx := bd_some hx
  obtain ⟨o4, ho4, hx⟩ := hx
  refine ms_cons (m_whileO (ps_while po pt_w pss_w) ho4 (fun p3 => [some (.vw (words.map D.str)), some (.fz (.int p3.2.1)), some (.fz (.int deep)), some (.fz ((u_Cd C_Condition C_CauseIs C_ThingIs C_DaysIn C_Over C_Not C_All C_Some) p3.1)), some (.lst ((p3.2.2.map (u_Cd C_Condition C_CauseIs C_ThingIs C_DaysIn C_Over C_Not C_All C_Some)).map .fz))]) (fun r => exO (t_Xc C_NoWords C_TooDeep) (fun r => .fz ((e_T_U_Cd_i C_Condition C_CauseIs C_ThingIs C_DaysIn C_Over C_Not C_All C_Some) r)) r) le_auto (fun p3 k hx => ?_) (fun p3 p3o hx => ?_) (fun p3 τ e le => ?_) fun q e => ?_)
  · replace hx := bd_some hx; obtain ⟨v6, hv6, hx⟩ := hx; injection hx with hx; subst k; exact (MW.t (MW.is (mw_and (mt_lt (me_var (pv 1) rfl) (me_lenLT (xs := words) (enc := D.str) (by rfl) z_len (ml_var (pv 0) rfl))) fun q7 => (by have hx := cond_t hv6 q7; replace hx := bd_some hx; obtain ⟨v5, hv5, hx⟩ := hx; cases hx; exact (mw_and1 (mt_eqS (me_ixLT (xs := words) (enc := D.str) hv5 (ml_var (pv 0) rfl) (me_var (pv 1) rfl)) me_str)))) (and_c hv6)))
  ·
    show MS _ [some (.vw (words.map D.str)), some (.fz (.int p3.2.1)), some (.fz (.int deep)), some (.fz ((u_Cd C_Condition C_CauseIs C_ThingIs C_DaysIn C_Over C_Not C_All C_Some) p3.1)), some (.lst ((p3.2.2.map (u_Cd C_Condition C_CauseIs C_ThingIs C_DaysIn C_Over C_Not C_All C_Some)).map .fz))] _ _
    refine ms_cons (m_if (t := (((p3.2.2.length : Int) == 8))) (mt_eqI (me_lenLT (xs := p3.2.2) (enc := (u_Cd C_Condition C_CauseIs C_ThingIs C_DaysIn C_Over C_Not C_All C_Some)) (by rfl) z_len (ml_var (pv 4) rfl)) (me_gI g_MOST_PARTS)) (fun h => ?_) fun h => ms_nil ?_)
    · replace hx := cond_t hx h
      refine ms_one (m_raiseI j_NoWords (me_add (me_var (pv 1) rfl) me_int) (hr.mono (by omega)) ?_)
      cases hx; exact ⟨_, rfl, rfl⟩
    replace hx := cond_f hx h
    rcases bdo_some hx with ⟨xe9, hv8, hx⟩ | ⟨v8, hv8, hx⟩
    · refine ms_cons (m_rzAsg (ps_asg pe_w (pg_tup (n := 2) rfl (pgs_cons (pg_name (i := 3) nd rfl (Or.inl rfl)) (pgs_cons (pg_name (i := 1) nd rfl (Or.inl rfl)) pgs_nil)))) (mz_fn c_all_at ((words, (p3.2.1 + 1), deep), .er xe9) (ma_vw (ml_var (pv 0) rfl) (ma_fz (me_add (me_var (pv 1) rfl) me_int) (ma_fz (me_var (pv 2) rfl) ma_nil))) hv8 (hr.mono (by omega))) ?_)
      cases hx; exact ⟨_, rfl, rfl⟩
    refine ms_cons (m_tgt (ps_asg pe_w (pg_tup (n := 2) rfl (pgs_cons (pg_name (i := 3) nd rfl (Or.inl rfl)) (pgs_cons (pg_name (i := 1) nd rfl (Or.inl rfl)) pgs_nil)))) (me_fn (Fn1E.ok c_all_at) ((words, (p3.2.1 + 1), deep), .ok v8) (ma_vw (ml_var (pv 0) rfl) (ma_fz (me_add (me_var (pv 1) rfl) me_int) (ma_fz (me_var (pv 2) rfl) ma_nil))) ⟨hv8, (by intro _ z; cases z)⟩ (hr.mono (by omega))) (mg_tup (mgs_cons mg_name (mgs_cons mg_name mgs_nil)) rfl) ?_)
    show MS _ [some (.vw (words.map D.str)), some (.fz (.int v8.2)), some (.fz (.int deep)), some (.fz ((u_Cd C_Condition C_CauseIs C_ThingIs C_DaysIn C_Over C_Not C_All C_Some) v8.1)), some (.lst ((p3.2.2.map (u_Cd C_Condition C_CauseIs C_ThingIs C_DaysIn C_Over C_Not C_All C_Some)).map .fz))] _ _
    replace hx := gd_some hx
    obtain ⟨g10, hx⟩ := hx
    replace hx := lt_some hx
    obtain ⟨parts_1, eparts_1, hx⟩ := hx
    refine ms_one (m_appendT (i := 4) (xs := p3.2.2) (enc := (u_Cd C_Condition C_CauseIs C_ThingIs C_DaysIn C_Over C_Not C_All C_Some)) (y := v8.1) g10 (pv _) rfl (me_var (pv 3) rfl) ?_)
    rw [← eparts_1]
    cases hx; exact ⟨_, rfl, le_auto⟩
  · subst e
    dsimp only [ouR] at hx
    refine ms_le le ?_
    show MS _ [some (.vw (words.map D.str)), some (.fz (.int p3.2.1)), some (.fz (.int deep)), some (.fz ((u_Cd C_Condition C_CauseIs C_ThingIs C_DaysIn C_Over C_Not C_All C_Some) p3.1)), some (.lst ((p3.2.2.map (u_Cd C_Condition C_CauseIs C_ThingIs C_DaysIn C_Over C_Not C_All C_Some)).map .fz))] _ _
    refine ms_cons (m_if (t := (((p3.2.2.length : Int) == 1))) (mt_eqI (me_lenLT (xs := p3.2.2) (enc := (u_Cd C_Condition C_CauseIs C_ThingIs C_DaysIn C_Over C_Not C_All C_Some)) (by rfl) z_len (ml_var (pv 4) rfl)) me_int) (fun h => ?_) fun h => ms_nil ?_)
    · replace hx := cond_t hx h
      refine ms_one (m_ret (ps_ret pe_w) (ME.r (me_tup (mf_cons (me_var (pv 3) rfl) (mf_cons (me_var (pv 1) rfl) mf_nil)))) ?_)
      cases hx; rfl
    replace hx := cond_f hx h
    replace hx := bd_some hx
    obtain ⟨v11, hv11, hx⟩ := hx
    refine ms_one (m_ret (ps_ret pe_w) (ME.r (me_tup (mf_cons (ME.as (ME.is (o' := .fz ((r_Some C_Some C_Condition C_CauseIs C_ThingIs C_DaysIn C_Over C_Not C_All) v11)) (ME.frz (me_make i_Some (p3.2.2, v11) (ma_vw (ml_var (pv 4) rfl) ma_nil) hv11 (hr.mono (by omega))) (by simp only [O.nv, O.nvL, O.nvL_fz, Bool.and_self])) (by simp only [O.frz, O.frzL, O.frzL_fz])) (u_Cd_someOf C_Condition C_CauseIs C_ThingIs C_DaysIn C_Over C_Not C_All C_Some _).symm) (mf_cons (me_var (pv 1) rfl) mf_nil)))) ?_)
    cases hx; rfl
  · subst e; cases hx; rfl

abbrev N_all_at : List Str := ["words", "at", "deep", "part", "parts"]
theorem sc_all_at : FnScope N_all_at ["words", "at", "deep"] (defScope s_all_at) := ⟨rfl, rfl, rfl, by decide +kernel, rfl, by decide +kernel, by decide +kernel⟩
theorem ok_all_at {f : Addr} {fd : FuncData} (n : Nat) (F : Fun K "all_at" "all_at" s_all_at f fd) (z_len : mg "len" = none) (g_MOST_PARTS : mg "MOST_PARTS" = some (.int 8 tkMOST_PARTS)) (c_piece_at : Fn1E P w K mg base "piece_at" (4 + n) ["words", "at", "deep"] (sp_piece_at K C_Condition C_CauseIs C_ThingIs C_DaysIn C_Over C_Not C_All C_Some C_NoWords C_TooDeep n)) (j_NoWords : XiC P w K mg base "NoWords" C_NoWords "at" 1 ["self", "at"]) (i_All : Mk1 P w K mg base "All" C_All 1 ["self", "several"] (spI_All___init__ K C_All C_Condition C_CauseIs C_ThingIs C_DaysIn C_Over C_Not C_Some)) : FnOk P w K mg base (L2.CX P w) (4 + n + 1) f fd ["words", "at", "deep"] (sp_all_at K C_Condition C_CauseIs C_ThingIs C_DaysIn C_Over C_Not C_All C_Some C_NoWords C_TooDeep (n + 1)) := by
  refine fn_mE F sc_all_at (fun x => rfl) (fun x _ => exO_nv (fun _ => rfl) x.2) fun cdv A outer s H E hr po x hx => ?_
  obtain ⟨⟨words, at_0, deep⟩, r⟩ := x
  replace hx : M_all_at (Kn_parse n) words at_0 deep = some r := hx
  have nd := sc_all_at.nd
  unfold M_all_at at hx
  show MS _ [some (.vw (words.map D.str)), some (.fz (.int at_0)), some (.fz (.int deep)), none, none] _ _
  rcases bdx_some hx with ⟨xe2, hv1, hx⟩ | ⟨v1, hv1, hx⟩
  · refine ms_cons (m_rzAsg (ps_asg pe_w (pg_tup (n := 2) rfl (pgs_cons (pg_name (i := 3) nd rfl (Or.inl rfl)) (pgs_cons (pg_name (i := 1) nd rfl (Or.inl rfl)) pgs_nil)))) (mz_fn c_piece_at ((words, at_0, deep), .er xe2) (ma_vw (ml_var (pv 0) rfl) (ma_fz (me_var (pv 1) rfl) (ma_fz (me_var (pv 2) rfl) ma_nil))) hv1 (hr.mono (by omega))) ?_)
    cases hx; rfl
  refine ms_cons (m_tgt (ps_asg pe_w (pg_tup (n := 2) rfl (pgs_cons (pg_name (i := 3) nd rfl (Or.inl rfl)) (pgs_cons (pg_name (i := 1) nd rfl (Or.inl rfl)) pgs_nil)))) (me_fn (Fn1E.ok c_piece_at) ((words, at_0, deep), .ok v1) (ma_vw (ml_var (pv 0) rfl) (ma_fz (me_var (pv 1) rfl) (ma_fz (me_var (pv 2) rfl) ma_nil))) ⟨hv1, (by intro _ z; cases z)⟩ (hr.mono (by omega))) (mg_tup (mgs_cons mg_name (mgs_cons mg_name mgs_nil)) rfl) ?_)
  show MS _ [some (.vw (words.map D.str)), some (.fz (.int v1.2)), some (.fz (.int deep)), some (.fz ((u_Cd C_Condition C_CauseIs C_ThingIs C_DaysIn C_Over C_Not C_All C_Some) v1.1)), none] _ _
  replace hx := lt_some hx
  obtain ⟨parts, eparts, hx⟩ := hx
  refine ms_cons (m_set (ps_set (i := 4) nd rfl (Or.inl rfl) pe_w) (ME.is (o' := (.lst ((parts.map (u_Cd C_Condition C_CauseIs C_ThingIs C_DaysIn C_Over C_Not C_All C_Some)).map .fz))) (me_lst (ds := [v1.1].map (u_Cd C_Condition C_CauseIs C_ThingIs C_DaysIn C_Over C_Not C_All C_Some)) (mf_cons (me_var (pv 3) rfl) mf_nil)) (by rw [eparts] <;> rfl)) ?_)
  show MS _ [some (.vw (words.map D.str)), some (.fz (.int v1.2)), some (.fz (.int deep)), some (.fz ((u_Cd C_Condition C_CauseIs C_ThingIs C_DaysIn C_Over C_Not C_All C_Some) v1.1)), some (.lst ((parts.map (u_Cd C_Condition C_CauseIs C_ThingIs C_DaysIn C_Over C_Not C_All C_Some)).map .fz))] _ _
  replace hx := bd_some hx
  obtain ⟨o4, ho4, hx⟩ := hx
  refine ms_cons (m_whileO (ps_while po pt_w pss_w) ho4 (fun p3 => [some (.vw (words.map D.str)), some (.fz (.int p3.2.1)), some (.fz (.int deep)), some (.fz ((u_Cd C_Condition C_CauseIs C_ThingIs C_DaysIn C_Over C_Not C_All C_Some) p3.1)), some (.lst ((p3.2.2.map (u_Cd C_Condition C_CauseIs C_ThingIs C_DaysIn C_Over C_Not C_All C_Some)).map .fz))]) (fun r => exO (t_Xc C_NoWords C_TooDeep) (fun r => .fz ((e_T_U_Cd_i C_Condition C_CauseIs C_ThingIs C_DaysIn C_Over C_Not C_All C_Some) r)) r) le_auto (fun p3 k hx => ?_) (fun p3 p3o hx => ?_) (fun p3 τ e le => ?_) fun q e => ?_)
  · replace hx := bd_some hx; obtain ⟨v6, hv6, hx⟩ := hx; injection hx with hx; subst k; exact (MW.t (MW.is (mw_and (mt_lt (me_var (pv 1) rfl) (me_lenLT (xs := words) (enc := D.str) (by rfl) z_len (ml_var (pv 0) rfl))) fun q7 => (by have hx := cond_t hv6 q7; replace hx := bd_some hx; obtain ⟨v5, hv5, hx⟩ := hx; cases hx; exact (mw_and1 (mt_eqS (me_ixLT (xs := words) (enc := D.str) hv5 (ml_var (pv 0) rfl) (me_var (pv 1) rfl)) me_str)))) (and_c hv6)))
  ·
    show MS _ [some (.vw (words.map D.str)), some (.fz (.int p3.2.1)), some (.fz (.int deep)), some (.fz ((u_Cd C_Condition C_CauseIs C_ThingIs C_DaysIn C_Over C_Not C_All C_Some) p3.1)), some (.lst ((p3.2.2.map (u_Cd C_Condition C_CauseIs C_ThingIs C_DaysIn C_Over C_Not C_All C_Some)).map .fz))] _ _
    refine ms_cons (m_if (t := (((p3.2.2.length : Int) == 8))) (mt_eqI (me_lenLT (xs := p3.2.2) (enc := (u_Cd C_Condition C_CauseIs C_ThingIs C_DaysIn C_Over C_Not C_All C_Some)) (by rfl) z_len (ml_var (pv 4) rfl)) (me_gI g_MOST_PARTS)) (fun h => ?_) fun h => ms_nil ?_)
    · replace hx := cond_t hx h
      refine ms_one (m_raiseI j_NoWords (me_add (me_var (pv 1) rfl) me_int) (hr.mono (by omega)) ?_)
      cases hx; exact ⟨_, rfl, rfl⟩
    replace hx := cond_f hx h
    rcases bdo_some hx with ⟨xe9, hv8, hx⟩ | ⟨v8, hv8, hx⟩
    · refine ms_cons (m_rzAsg (ps_asg pe_w (pg_tup (n := 2) rfl (pgs_cons (pg_name (i := 3) nd rfl (Or.inl rfl)) (pgs_cons (pg_name (i := 1) nd rfl (Or.inl rfl)) pgs_nil)))) (mz_fn c_piece_at ((words, (p3.2.1 + 1), deep), .er xe9) (ma_vw (ml_var (pv 0) rfl) (ma_fz (me_add (me_var (pv 1) rfl) me_int) (ma_fz (me_var (pv 2) rfl) ma_nil))) hv8 (hr.mono (by omega))) ?_)
      cases hx; exact ⟨_, rfl, rfl⟩
    refine ms_cons (m_tgt (ps_asg pe_w (pg_tup (n := 2) rfl (pgs_cons (pg_name (i := 3) nd rfl (Or.inl rfl)) (pgs_cons (pg_name (i := 1) nd rfl (Or.inl rfl)) pgs_nil)))) (me_fn (Fn1E.ok c_piece_at) ((words, (p3.2.1 + 1), deep), .ok v8) (ma_vw (ml_var (pv 0) rfl) (ma_fz (me_add (me_var (pv 1) rfl) me_int) (ma_fz (me_var (pv 2) rfl) ma_nil))) ⟨hv8, (by intro _ z; cases z)⟩ (hr.mono (by omega))) (mg_tup (mgs_cons mg_name (mgs_cons mg_name mgs_nil)) rfl) ?_)
    show MS _ [some (.vw (words.map D.str)), some (.fz (.int v8.2)), some (.fz (.int deep)), some (.fz ((u_Cd C_Condition C_CauseIs C_ThingIs C_DaysIn C_Over C_Not C_All C_Some) v8.1)), some (.lst ((p3.2.2.map (u_Cd C_Condition C_CauseIs C_ThingIs C_DaysIn C_Over C_Not C_All C_Some)).map .fz))] _ _
    replace hx := gd_some hx
    obtain ⟨g10, hx⟩ := hx
    replace hx := lt_some hx
    obtain ⟨parts_1, eparts_1, hx⟩ := hx
    refine ms_one (m_appendT (i := 4) (xs := p3.2.2) (enc := (u_Cd C_Condition C_CauseIs C_ThingIs C_DaysIn C_Over C_Not C_All C_Some)) (y := v8.1) g10 (pv _) rfl (me_var (pv 3) rfl) ?_)
    rw [← eparts_1]
    cases hx; exact ⟨_, rfl, le_auto⟩
  · subst e
    dsimp only [ouR] at hx
    refine ms_le le ?_
    show MS _ [some (.vw (words.map D.str)), some (.fz (.int p3.2.1)), some (.fz (.int deep)), some (.fz ((u_Cd C_Condition C_CauseIs C_ThingIs C_DaysIn C_Over C_Not C_All C_Some) p3.1)), some (.lst ((p3.2.2.map (u_Cd C_Condition C_CauseIs C_ThingIs C_DaysIn C_Over C_Not C_All C_Some)).map .fz))] _ _
    refine ms_cons (m_if (t := (((p3.2.2.length : Int) == 1))) (mt_eqI (me_lenLT (xs := p3.2.2) (enc := (u_Cd C_Condition C_CauseIs C_ThingIs C_DaysIn C_Over C_Not C_All C_Some)) (by rfl) z_len (ml_var (pv 4) rfl)) me_int) (fun h => ?_) fun h => ms_nil ?_)
    · replace hx := cond_t hx h
      refine ms_one (m_ret (ps_ret pe_w) (ME.r (me_tup (mf_cons (me_var (pv 3) rfl) (mf_cons (me_var (pv 1) rfl) mf_nil)))) ?_)
      cases hx; rfl
    replace hx := cond_f hx h
    replace hx := bd_some hx
    obtain ⟨v11, hv11, hx⟩ := hx
    refine ms_one (m_ret (ps_ret pe_w) (ME.r (me_tup (mf_cons (ME.as (ME.is (o' := .fz ((r_All C_All C_Condition C_CauseIs C_ThingIs C_DaysIn C_Over C_Not C_Some) v11)) (ME.frz (me_make i_All (p3.2.2, v11) (ma_vw (ml_var (pv 4) rfl) ma_nil) hv11 (hr.mono (by omega))) (by simp only [O.nv, O.nvL, O.nvL_fz, Bool.and_self])) (by simp only [O.frz, O.frzL, O.frzL_fz])) (u_Cd_allOf C_Condition C_CauseIs C_ThingIs C_DaysIn C_Over C_Not C_All C_Some _).symm) (mf_cons (me_var (pv 1) rfl) mf_nil)))) ?_)
    cases hx; rfl
  · subst e; cases hx; rfl

abbrev N_piece_at : List Str := ["words", "at", "deep", "part"]
theorem sc_piece_at : FnScope N_piece_at ["words", "at", "deep"] (defScope s_piece_at) := ⟨rfl, rfl, rfl, by decide +kernel, rfl, by decide +kernel, by decide +kernel⟩
theorem ok_piece_at {f : Addr} {fd : FuncData} (n : Nat) (F : Fun K "piece_at" "piece_at" s_piece_at f fd) (z_len : mg "len" = none) (g_MOST_OPEN : mg "MOST_OPEN" = some (.int 6 tkMOST_OPEN)) (j_NoWords : XiC P w K mg base "NoWords" C_NoWords "at" 1 ["self", "at"]) (c_atom_at : Fn1E P w K mg base "atom_at" 4 ["words", "at"] (sp_atom_at K C_Condition C_CauseIs C_ThingIs C_DaysIn C_Over C_Not C_All C_Some C_NoWords C_TooDeep)) (x_TooDeep : XcC K mg "TooDeep" C_TooDeep) (c_piece_at : Fn1E P w K mg base "piece_at" (4 + n) ["words", "at", "deep"] (sp_piece_at K C_Condition C_CauseIs C_ThingIs C_DaysIn C_Over C_Not C_All C_Some C_NoWords C_TooDeep n)) (i_Not : Mk1 P w K mg base "Not" C_Not 1 ["self", "part"] (spI_Not___init__ K C_Not C_Condition C_CauseIs C_ThingIs C_DaysIn C_Over C_All C_Some)) (c_some_at : Fn1E P w K mg base "some_at" (4 + n) ["words", "at", "deep"] (sp_some_at K C_Condition C_CauseIs C_ThingIs C_DaysIn C_Over C_Not C_All C_Some C_NoWords C_TooDeep n)) : FnOk P w K mg base (L2.CX P w) (4 + n + 1) f fd ["words", "at", "deep"] (sp_piece_at K C_Condition C_CauseIs C_ThingIs C_DaysIn C_Over C_Not C_All C_Some C_NoWords C_TooDeep (n + 1)) := by
  refine fn_mE F sc_piece_at (fun x => rfl) (fun x _ => exO_nv (fun _ => rfl) x.2) fun cdv A outer s H E hr po x hx => ?_
  obtain ⟨⟨words, at_0, deep⟩, r⟩ := x
  replace hx : M_piece_at (Kn_parse n) words at_0 deep = some r := hx
  have nd := sc_piece_at.nd
  unfold M_piece_at at hx
  show MS _ [some (.vw (words.map D.str)), some (.fz (.int at_0)), some (.fz (.int deep)), none] _ _
  refine ms_cons (m_if (t := ((at_0 == (words.length : Int)))) (mt_eqI (me_var (pv 1) rfl) (me_lenLT (xs := words) (enc := D.str) (by rfl) z_len (ml_var (pv 0) rfl))) (fun h => ?_) fun h => ms_nil ?_)
  · replace hx := cond_t hx h
    refine ms_one (m_raiseI j_NoWords (me_var (pv 1) rfl) (hr.mono (by omega)) ?_)
    cases hx; rfl
  replace hx := cond_f hx h
  replace hx := bd_some hx
  obtain ⟨v1, hv1, hx⟩ := hx
  replace hx := bd_some hx
  obtain ⟨v3, hv3, hx⟩ := hx
  refine ms_cons (m_if (t := v3) (MW.t (MW.is (mw_and (mt_neS (me_ixLT (xs := words) (enc := D.str) hv1 (ml_var (pv 0) rfl) (me_var (pv 1) rfl)) me_str) fun q4 => (by have hx := cond_t hv3 q4; replace hx := bd_some hx; obtain ⟨v2, hv2, hx⟩ := hx; cases hx; exact (mw_and1 (mt_neS (me_ixLT (xs := words) (enc := D.str) hv2 (ml_var (pv 0) rfl) (me_var (pv 1) rfl)) me_str)))) (and_c hv3))) (fun h => ?_) fun h => ms_nil ?_)
  · replace hx := cond_t hx h
    rcases bdx_some hx with ⟨xe6, hv5, hx⟩ | ⟨v5, hv5, hx⟩
    · refine ms_one (m_rzRet (ps_ret pe_w) (mz_fn c_atom_at ((words, at_0), .er xe6) (ma_vw (ml_var (pv 0) rfl) (ma_fz (me_var (pv 1) rfl) ma_nil)) hv5 (hr.mono (by omega))) ?_)
      cases hx; rfl
    refine ms_one (m_ret (ps_ret pe_w) (ME.r (me_fn (Fn1E.ok c_atom_at) ((words, at_0), .ok v5) (ma_vw (ml_var (pv 0) rfl) (ma_fz (me_var (pv 1) rfl) ma_nil)) ⟨hv5, (by intro _ z; cases z)⟩ (hr.mono (by omega)))) ?_)
    cases hx; rfl
  replace hx := cond_f hx h
  refine ms_cons (m_if (t := ((deep == 6))) (mt_eqI (me_var (pv 2) rfl) (me_gI g_MOST_OPEN)) (fun h => ?_) fun h => ms_nil ?_)
  · replace hx := cond_t hx h
    refine ms_one (m_raise (pm_own x_TooDeep) ?_)
    cases hx; rfl
  replace hx := cond_f hx h
  replace hx := bd_some hx
  obtain ⟨v7, hv7, hx⟩ := hx
  refine ms_cons (m_if (t := ((v7 == ("not" : Str)))) (mt_eqS (me_ixLT (xs := words) (enc := D.str) hv7 (ml_var (pv 0) rfl) (me_var (pv 1) rfl)) me_str) (fun h => ?_) fun h => ms_nil ?_)
  · replace hx := cond_t hx h
    rcases bdx_some hx with ⟨xe9, hv8, hx⟩ | ⟨v8, hv8, hx⟩
    · refine ms_cons (m_rzAsg (ps_asg pe_w (pg_tup (n := 2) rfl (pgs_cons (pg_name (i := 3) nd rfl (Or.inl rfl)) (pgs_cons (pg_name (i := 1) nd rfl (Or.inl rfl)) pgs_nil)))) (mz_fn c_piece_at ((words, (at_0 + 1), (deep + 1)), .er xe9) (ma_vw (ml_var (pv 0) rfl) (ma_fz (me_add (me_var (pv 1) rfl) me_int) (ma_fz (me_add (me_var (pv 2) rfl) me_int) ma_nil))) hv8 (hr.mono (by omega))) ?_)
      cases hx; rfl
    refine ms_cons (m_tgt (ps_asg pe_w (pg_tup (n := 2) rfl (pgs_cons (pg_name (i := 3) nd rfl (Or.inl rfl)) (pgs_cons (pg_name (i := 1) nd rfl (Or.inl rfl)) pgs_nil)))) (me_fn (Fn1E.ok c_piece_at) ((words, (at_0 + 1), (deep + 1)), .ok v8) (ma_vw (ml_var (pv 0) rfl) (ma_fz (me_add (me_var (pv 1) rfl) me_int) (ma_fz (me_add (me_var (pv 2) rfl) me_int) ma_nil))) ⟨hv8, (by intro _ z; cases z)⟩ (hr.mono (by omega))) (mg_tup (mgs_cons mg_name (mgs_cons mg_name mgs_nil)) rfl) ?_)
    show MS _ [some (.vw (words.map D.str)), some (.fz (.int v8.2)), some (.fz (.int deep)), some (.fz ((u_Cd C_Condition C_CauseIs C_ThingIs C_DaysIn C_Over C_Not C_All C_Some) v8.1))] _ _
    replace hx := bd_some hx
    obtain ⟨v10, hv10, hx⟩ := hx
    refine ms_one (m_ret (ps_ret pe_w) (ME.r (me_tup (mf_cons (ME.as (ME.is (o' := .fz ((r_Not C_Not C_Condition C_CauseIs C_ThingIs C_DaysIn C_Over C_All C_Some) v10)) (ME.frz (me_make i_Not (v8.1, v10) (ma_fz (me_var (pv 3) rfl) ma_nil) hv10 (hr.mono (by omega))) rfl) rfl) (u_Cd_notOf C_Condition C_CauseIs C_ThingIs C_DaysIn C_Over C_Not C_All C_Some _).symm) (mf_cons (me_var (pv 1) rfl) mf_nil)))) ?_)
    cases hx; rfl
  replace hx := cond_f hx h
  rcases bdx_some hx with ⟨xe12, hv11, hx⟩ | ⟨v11, hv11, hx⟩
  · refine ms_cons (m_rzAsg (ps_asg pe_w (pg_tup (n := 2) rfl (pgs_cons (pg_name (i := 3) nd rfl (Or.inl rfl)) (pgs_cons (pg_name (i := 1) nd rfl (Or.inl rfl)) pgs_nil)))) (mz_fn c_some_at ((words, (at_0 + 1), (deep + 1)), .er xe12) (ma_vw (ml_var (pv 0) rfl) (ma_fz (me_add (me_var (pv 1) rfl) me_int) (ma_fz (me_add (me_var (pv 2) rfl) me_int) ma_nil))) hv11 (hr.mono (by omega))) ?_)
    cases hx; rfl
  refine ms_cons (m_tgt (ps_asg pe_w (pg_tup (n := 2) rfl (pgs_cons (pg_name (i := 3) nd rfl (Or.inl rfl)) (pgs_cons (pg_name (i := 1) nd rfl (Or.inl rfl)) pgs_nil)))) (me_fn (Fn1E.ok c_some_at) ((words, (at_0 + 1), (deep + 1)), .ok v11) (ma_vw (ml_var (pv 0) rfl) (ma_fz (me_add (me_var (pv 1) rfl) me_int) (ma_fz (me_add (me_var (pv 2) rfl) me_int) ma_nil))) ⟨hv11, (by intro _ z; cases z)⟩ (hr.mono (by omega))) (mg_tup (mgs_cons mg_name (mgs_cons mg_name mgs_nil)) rfl) ?_)
  show MS _ [some (.vw (words.map D.str)), some (.fz (.int v11.2)), some (.fz (.int deep)), some (.fz ((u_Cd C_Condition C_CauseIs C_ThingIs C_DaysIn C_Over C_Not C_All C_Some) v11.1))] _ _
  replace hx := bd_some hx
  obtain ⟨v14, hv14, hx⟩ := hx
  refine ms_cons (m_if (t := v14) (MW.t (MW.is (mw_or (mt_eqI (me_var (pv 1) rfl) (me_lenLT (xs := words) (enc := D.str) (by rfl) z_len (ml_var (pv 0) rfl))) fun q15 => (by have hx := cond_f hv14 q15; replace hx := bd_some hx; obtain ⟨v13, hv13, hx⟩ := hx; cases hx; exact (mw_or1 (mt_neS (me_ixLT (xs := words) (enc := D.str) hv13 (ml_var (pv 0) rfl) (me_var (pv 1) rfl)) me_str)))) (or_c hv14))) (fun h => ?_) fun h => ms_nil ?_)
  · replace hx := cond_t hx h
    refine ms_one (m_raiseI j_NoWords (me_var (pv 1) rfl) (hr.mono (by omega)) ?_)
    cases hx; rfl
  replace hx := cond_f hx h
  refine ms_one (m_ret (ps_ret pe_w) (ME.r (me_tup (mf_cons (me_var (pv 3) rfl) (mf_cons (me_add (me_var (pv 1) rfl) me_int) mf_nil)))) ?_)
  cases hx; rfl

-- GROUP parse 64 4 : some_at all_at piece_at
noncomputable def M_read_condition (text : Str) : Option (Xr Xc Cd) :=
  cond (!true) (some (.er (.NoWords (0 : Int)))) <|
  gd (((" " : Str).length == 0) = false ∧ text.length + 2 ≤ sizeLine) <|
  lt (Txt.split text (" " : Str)) fun words =>
  cond (decide (60 < (words.length : Int))) (some (.er (.NoWords (60 : Int)))) <|
  bdx (Mf_some_at 64 words (0 : Int) (0 : Int)) fun v2 =>
  cond (decide (v2.2 < (words.length : Int))) (some (.er (.NoWords v2.2))) <|
  some (.ok v2.1)
def sp_read_condition (K : PySem.W.Frag) (C_Condition C_CauseIs C_ThingIs C_DaysIn C_Over C_Not C_All C_Some C_NoWords C_TooDeep : Addr) : Sp := SpFE K (fun x : Str => [.fz (.str x)]) (fun x => M_read_condition x) (t_Xc C_NoWords C_TooDeep) (fun r => .fz ((u_Cd C_Condition C_CauseIs C_ThingIs C_DaysIn C_Over C_Not C_All C_Some) r))
abbrev N_read_condition : List Str := ["text", "words", "condition", "at"]
theorem sc_read_condition : FnScope N_read_condition ["text"] (defScope s_read_condition) := ⟨rfl, rfl, rfl, by decide +kernel, rfl, by decide +kernel, by decide +kernel⟩
theorem ok_read_condition {f : Addr} {fd : FuncData} (F : Fun K "read_condition" "read_condition" s_read_condition f fd) (z_isinstance : mg "isinstance" = none) (z_str : mg "str" = none) (z_len : mg "len" = none) (g_MOST_WORDS : mg "MOST_WORDS" = some (.int 60 tkMOST_WORDS)) (j_NoWords : XiC P w K mg base "NoWords" C_NoWords "at" 1 ["self", "at"]) (c_some_at : Fn1E P w K mg base "some_at" 68 ["words", "at", "deep"] (sp_some_at K C_Condition C_CauseIs C_ThingIs C_DaysIn C_Over C_Not C_All C_Some C_NoWords C_TooDeep 64)) : FnOk P w K mg base (L2.CX P w) 69 f fd ["text"] (sp_read_condition K C_Condition C_CauseIs C_ThingIs C_DaysIn C_Over C_Not C_All C_Some C_NoWords C_TooDeep) := by
  refine fn_mE F sc_read_condition (fun x => rfl) (fun x _ => exO_nv (fun _ => rfl) x.2) fun cdv A outer s H E hr po x hx => ?_
  obtain ⟨text, r⟩ := x
  replace hx : M_read_condition text = some r := hx
  have nd := sc_read_condition.nd
  unfold M_read_condition at hx
  show MS _ [some (.fz (.str text)), none, none, none] _ _
  refine ms_cons (m_if (t := (!true)) (mt_not (mt_val (me_isi (k := true) (by rfl) z_isinstance (pe_bltn (v := .ty "str") (by rfl) z_str (by decide +kernel) rfl) (mv_var (pv 0) rfl) rfl (by decide +kernel)))) (fun h => ?_) fun h => ms_nil ?_)
  · replace hx := cond_t hx h
    refine ms_one (m_raiseI j_NoWords me_int (hr.mono (by decide)) ?_)
    cases hx; rfl
  replace hx := cond_f hx h
  replace hx := gd_some hx
  obtain ⟨g1, hx⟩ := hx
  replace hx := lt_some hx
  obtain ⟨words, ewords, hx⟩ := hx
  refine ms_cons (m_set (ps_set (i := 1) nd rfl (Or.inl rfl) pe_w) (ME.is (o' := (.lst ((words.map D.str).map .fz))) (me_split g1 (me_var (pv 0) rfl) me_str) (by rw [ewords] <;> rfl)) ?_)
  show MS _ [some (.fz (.str text)), some (.lst ((words.map D.str).map .fz)), none, none] _ _
  refine ms_cons (m_if (t := (decide (60 < (words.length : Int)))) (mt_gt (me_lenLT (xs := words) (enc := D.str) (by rfl) z_len (ml_var (pv 1) rfl)) (me_gI g_MOST_WORDS)) (fun h => ?_) fun h => ms_nil ?_)
  · replace hx := cond_t hx h
    refine ms_one (m_raiseI j_NoWords (me_gI g_MOST_WORDS) (hr.mono (by decide)) ?_)
    cases hx; rfl
  replace hx := cond_f hx h
  rcases bdx_some hx with ⟨xe3, hv2, hx⟩ | ⟨v2, hv2, hx⟩
  · refine ms_cons (m_rzAsg (ps_asg pe_w (pg_tup (n := 2) rfl (pgs_cons (pg_name (i := 2) nd rfl (Or.inl rfl)) (pgs_cons (pg_name (i := 3) nd rfl (Or.inl rfl)) pgs_nil)))) (mz_fn c_some_at ((words, 0, 0), .er xe3) (ma_vw (ml_var (pv 1) rfl) (ma_fz me_int (ma_fz me_int ma_nil))) hv2 (hr.mono (by decide))) ?_)
    cases hx; rfl
  refine ms_cons (m_tgt (ps_asg pe_w (pg_tup (n := 2) rfl (pgs_cons (pg_name (i := 2) nd rfl (Or.inl rfl)) (pgs_cons (pg_name (i := 3) nd rfl (Or.inl rfl)) pgs_nil)))) (me_fn (Fn1E.ok c_some_at) ((words, 0, 0), .ok v2) (ma_vw (ml_var (pv 1) rfl) (ma_fz me_int (ma_fz me_int ma_nil))) ⟨hv2, (by intro _ z; cases z)⟩ (hr.mono (by decide))) (mg_tup (mgs_cons mg_name (mgs_cons mg_name mgs_nil)) rfl) ?_)
  show MS _ [some (.fz (.str text)), some (.lst ((words.map D.str).map .fz)), some (.fz ((u_Cd C_Condition C_CauseIs C_ThingIs C_DaysIn C_Over C_Not C_All C_Some) v2.1)), some (.fz (.int v2.2))] _ _
  refine ms_cons (m_if (t := (decide (v2.2 < (words.length : Int)))) (mt_lt (me_var (pv 3) rfl) (me_lenLT (xs := words) (enc := D.str) (by rfl) z_len (ml_var (pv 1) rfl))) (fun h => ?_) fun h => ms_nil ?_)
  · replace hx := cond_t hx h
    refine ms_one (m_raiseI j_NoWords (me_var (pv 3) rfl) (hr.mono (by decide)) ?_)
    cases hx; rfl
  replace hx := cond_f hx h
  refine ms_one (m_ret (ps_ret pe_w) (ME.r (me_var (pv 2) rfl)) ?_)
  cases hx; rfl

abbrev e_T_s (p : Str) : D := .tup [.str p]
def Xc.is_NoWords : Xc → Bool
  | .NoWords _ => true
  | .TooDeep => false
def Xc.is_TooDeep : Xc → Bool
  | .NoWords _ => false
  | .TooDeep => true
def Xc.f_at : Xc → Option Int
  | .NoWords i => some i
  | .TooDeep => none
abbrev e_T_s_i (p : (Str × Int)) : D := .tup [.str p.1, .int p.2]
noncomputable def M__law_refused (thing : Str) : Option D :=
  bd (bdo (M_read_condition thing) fun v3 =>
    some (.nx ()) : Option (Ou (Unit) Unit (Xr Xc D))) fun o2 => tryR o2 (fun p1 =>
  some (e_T_s ("read" : Str))) (fun r => some r) (fun xe => cond (!true) (some (e_T_s ("other" : Str))) <|
    cond ((Xc.is_NoWords xe) && ((!(Xc.is_TooDeep xe)) && (!false))) (bd (Xc.f_at xe) fun n5 =>
      some (e_T_s_i (("words" : Str), n5))) <|
    cond ((Xc.is_TooDeep xe) && ((!(Xc.is_NoWords xe)) && (!false))) (some (e_T_s ("deep" : Str))) <|
    some (e_T_s ("other" : Str)))
def sp__law_refused (K : PySem.W.Frag) : Sp := SpF K (fun x : Str => [.fz (.str x)]) (fun x => M__law_refused x) (fun r => .fz r)
abbrev N__law_refused : List Str := ["_law_thing", "e"]
theorem sc__law_refused : FnScope N__law_refused ["_law_thing"] (defScope s__law_refused) := ⟨rfl, rfl, rfl, by decide +kernel, rfl, by decide +kernel, by decide +kernel⟩
theorem ok__law_refused {f : Addr} {fd : FuncData} (F : Fun K "_law_refused" "_law_refused" s__law_refused f fd) (z_isinstance : mg "isinstance" = none) (z_ValueError : mg "ValueError" = none) (e_CoverError : mg "CoverError" = some (.ref C_CoverError)) (v_NoWords_CoverError : PySem.W.exmOne K (.ref C_NoWords) (.ref C_CoverError) = some true) (v_TooDeep_CoverError : PySem.W.exmOne K (.ref C_TooDeep) (.ref C_CoverError) = some true) (c_read_condition : Fn1E P w K mg base "read_condition" 69 ["text"] (sp_read_condition K C_Condition C_CauseIs C_ThingIs C_DaysIn C_Over C_Not C_All C_Some C_NoWords C_TooDeep)) (w_NoWords : ExcC K C_NoWords) (q_NoWords_ValueError : PySem.W.kitOne K (.ref C_NoWords) (.type "ValueError") = some true) (w_TooDeep : ExcC K C_TooDeep) (q_TooDeep_ValueError : PySem.W.kitOne K (.ref C_TooDeep) (.type "ValueError") = some true) (e_NoWords : mg "NoWords" = some (.ref C_NoWords)) (q_NoWords_NoWords : PySem.W.kitOne K (.ref C_NoWords) (.ref C_NoWords) = some true) (q_TooDeep_NoWords : PySem.W.kitOne K (.ref C_TooDeep) (.ref C_NoWords) = some false) (e_TooDeep : mg "TooDeep" = some (.ref C_TooDeep)) (q_NoWords_TooDeep : PySem.W.kitOne K (.ref C_NoWords) (.ref C_TooDeep) = some false) (q_TooDeep_TooDeep : PySem.W.kitOne K (.ref C_TooDeep) (.ref C_TooDeep) = some true) (e_NoText : mg "NoText" = some (.ref C_NoText)) (q_NoWords_NoText : PySem.W.kitOne K (.ref C_NoWords) (.ref C_NoText) = some false) (q_TooDeep_NoText : PySem.W.kitOne K (.ref C_TooDeep) (.ref C_NoText) = some false) (fx_NoWords : XfC K C_NoWords) (q_nf_NoWords : PySem.W.findIn K (.ref C_NoWords) "at" = some none) (e_NoAmount : mg "NoAmount" = some (.ref C_NoAmount)) (q_NoWords_NoAmount : PySem.W.kitOne K (.ref C_NoWords) (.ref C_NoAmount) = some false) (q_TooDeep_NoAmount : PySem.W.kitOne K (.ref C_TooDeep) (.ref C_NoAmount) = some false) : FnOk P w K mg base CX0 70 f fd ["_law_thing"] (sp__law_refused K) := by
  refine fn_m F sc__law_refused (fun x => rfl) (fun x _ => rfl) fun cdv A outer s H E hr x hx => ?_
  obtain ⟨thing, r⟩ := x
  replace hx : M__law_refused thing = some r := hx
  have nd := sc__law_refused.nd
  unfold M__law_refused at hx
  show MS _ [some (.fz (.str thing)), none] _ _
  replace hx := bd_some hx
  obtain ⟨o2, ho2, hx⟩ := hx
  refine ms_cons (m_tryF (i := 1) (out := o2) (fun p1 => [some (.fz (.str thing)), none]) (t_Xc C_NoWords C_TooDeep) (fun r => .fz r) nd rfl rfl ⟨rfl, by decide, .inl e_CoverError⟩ (by intro _ _ z; cases z) (fun e f dv h => by cases e <;> first | (cases h; exact ⟨_, rfl⟩) | cases h) (fun pn xe po => ?_) (fun _ e => ?_) (fun _ e => ?_) (fun q e => ?_) (fun e _ => (by cases e with | NoWords _ => exact v_NoWords_CoverError | TooDeep => exact v_TooDeep_CoverError)) (fun xe e a oe d pn hz hf => ?_) (fun p1 τ e le => ?_))
  · replace hx := ho2
    show MS _ [some (.fz (.str thing)), none] _ _
    rcases bdo_some hx with ⟨xe4, hv3, hx⟩ | ⟨v3, hv3, hx⟩
    · refine ms_one (m_rzDrop (ps_expr pe_w) (mz_fn c_read_condition (thing, .er xe4) (ma_fz (me_var (pv 0) rfl) ma_nil) hv3 (hr.mono (by decide))) ?_)
      cases hx; exact ⟨_, rfl, rfl⟩
    refine ms_one (m_expr (ps_expr pe_w) (me_fn (Fn1E.ok c_read_condition) (thing, .ok v3) (ma_fz (me_var (pv 0) rfl) ma_nil) ⟨hv3, (by intro _ z; cases z)⟩ (hr.mono (by decide))) ?_)
    cases hx; exact ⟨_, rfl, le_auto⟩
  · subst e; cases hx
  · subst e; cases hx
  · subst e; dsimp only [tryR] at hx; cases hx; rfl
  · subst e
    dsimp only [tryR] at hx
    show MS _ [none, some (.fz (.hx a d (fldI ((t_Xc C_NoWords C_TooDeep) xe))))] _ _
    refine ms_cons (m_if (t := (!true)) (mt_not (mt_val (show ME _ _ _ (.fz (.bl true)) from by cases xe with | NoWords _ => exact me_isiFB w_NoWords hz hf rfl z_isinstance (pe_bltn (v := .ty "ValueError") (by rfl) z_ValueError (by decide +kernel) rfl) (pv 1) rfl q_NoWords_ValueError | TooDeep => exact me_isiFB w_TooDeep hz hf rfl z_isinstance (pe_bltn (v := .ty "ValueError") (by rfl) z_ValueError (by decide +kernel) rfl) (pv 1) rfl q_TooDeep_ValueError))) (fun h => ?_) fun h => ms_nil ?_)
    · replace hx := cond_t hx h
      refine ms_one (m_ret (ps_ret pe_w) (ME.r (me_tup (mf_cons me_str mf_nil))) ?_)
      cases hx; exact ⟨rfl, fun _ h => nomatch h⟩
    replace hx := cond_f hx h
    refine ms_cons (m_if (t := ((Xc.is_NoWords xe) && ((!(Xc.is_TooDeep xe)) && (!false)))) (MW.t (mw_and (mt_val (show ME _ _ _ (.fz (.bl (Xc.is_NoWords xe))) from by cases xe with | NoWords _ => exact me_isiF w_NoWords hz hf rfl z_isinstance e_NoWords (pv 1) rfl q_NoWords_NoWords | TooDeep => exact me_isiF w_TooDeep hz hf rfl z_isinstance e_NoWords (pv 1) rfl q_TooDeep_NoWords)) fun _ => (mw_and (mt_not (mt_val (show ME _ _ _ (.fz (.bl (Xc.is_TooDeep xe))) from by cases xe with | NoWords _ => exact me_isiF w_NoWords hz hf rfl z_isinstance e_TooDeep (pv 1) rfl q_NoWords_TooDeep | TooDeep => exact me_isiF w_TooDeep hz hf rfl z_isinstance e_TooDeep (pv 1) rfl q_TooDeep_TooDeep))) fun _ => (mw_and1 (mt_not (mt_val (show ME _ _ _ (.fz (.bl false)) from by cases xe with | NoWords _ => exact me_isiF w_NoWords hz hf rfl z_isinstance e_NoText (pv 1) rfl q_NoWords_NoText | TooDeep => exact me_isiF w_TooDeep hz hf rfl z_isinstance e_NoText (pv 1) rfl q_TooDeep_NoText))))))) (fun h => ?_) fun h => ms_nil ?_)
    · replace hx := cond_t hx h
      replace hx := bd_some hx
      obtain ⟨n5, hn5, hx⟩ := hx
      refine ms_one (m_ret (ps_ret pe_w) (ME.r (me_tup (mf_cons me_str (mf_cons (show ME _ _ _ (.fz (.int n5)) from by cases xe with | NoWords i0 => (cases hn5; exact me_fldH fx_NoWords q_nf_NoWords hz hf (pv 1) rfl) | TooDeep => cases hn5) mf_nil)))) ?_)
      cases hx; exact ⟨rfl, fun _ h => nomatch h⟩
    replace hx := cond_f hx h
    refine ms_cons (m_if (t := ((Xc.is_TooDeep xe) && ((!(Xc.is_NoWords xe)) && (!false)))) (MW.t (mw_and (mt_val (show ME _ _ _ (.fz (.bl (Xc.is_TooDeep xe))) from by cases xe with | NoWords _ => exact me_isiF w_NoWords hz hf rfl z_isinstance e_TooDeep (pv 1) rfl q_NoWords_TooDeep | TooDeep => exact me_isiF w_TooDeep hz hf rfl z_isinstance e_TooDeep (pv 1) rfl q_TooDeep_TooDeep)) fun _ => (mw_and (mt_not (mt_val (show ME _ _ _ (.fz (.bl (Xc.is_NoWords xe))) from by cases xe with | NoWords _ => exact me_isiF w_NoWords hz hf rfl z_isinstance e_NoWords (pv 1) rfl q_NoWords_NoWords | TooDeep => exact me_isiF w_TooDeep hz hf rfl z_isinstance e_NoWords (pv 1) rfl q_TooDeep_NoWords))) fun _ => (mw_and1 (mt_not (mt_val (show ME _ _ _ (.fz (.bl false)) from by cases xe with | NoWords _ => exact me_isiF w_NoWords hz hf rfl z_isinstance e_NoAmount (pv 1) rfl q_NoWords_NoAmount | TooDeep => exact me_isiF w_TooDeep hz hf rfl z_isinstance e_NoAmount (pv 1) rfl q_TooDeep_NoAmount))))))) (fun h => ?_) fun h => ms_nil ?_)
    · replace hx := cond_t hx h
      refine ms_one (m_ret (ps_ret pe_w) (ME.r (me_tup (mf_cons me_str mf_nil))) ?_)
      cases hx; exact ⟨rfl, fun _ h => nomatch h⟩
    replace hx := cond_f hx h
    refine ms_one (m_ret (ps_ret pe_w) (ME.r (me_tup (mf_cons me_str mf_nil))) ?_)
    cases hx; exact ⟨rfl, fun _ h => nomatch h⟩
  · subst e
    dsimp only [tryR] at hx
    refine ms_le le ?_
    show MS _ [some (.fz (.str thing)), none] _ _
    refine ms_one (m_ret (ps_ret pe_w) (ME.r (me_tup (mf_cons me_str mf_nil))) ?_)
    cases hx; rfl

noncomputable def M__law_refused_at (thing : Str) (due : Int) : Option Bool :=
  bd (M__law_refused thing) fun v1 =>
  bd (lenTd v1) fun v2 =>
  bd (cond ((v2 == 2)) (bd (ixD v1 (1 : Int)) fun v3 => bd (M__law_whole v3) fun v4 => bd (cond v4 (gd (D.ok v1 ∧ D.ok (e_T_s_i (("words" : Str), due))) <| some ((D.eqv v1 (e_T_s_i (("words" : Str), due))))) (some false)) fun v6 => some v6) (some false)) fun v8 =>
  some v8
def sp__law_refused_at (K : PySem.W.Frag) : Sp := SpF K (fun x : Str × Int => [.fz (.str x.1), .fz (.int x.2)]) (fun x => M__law_refused_at x.1 x.2) (fun r => .fz (.bl r))
abbrev N__law_refused_at : List Str := ["_law_thing", "_law_due", "_law_found"]
theorem sc__law_refused_at : FnScope N__law_refused_at ["_law_thing", "_law_due"] (defScope s__law_refused_at) := ⟨rfl, rfl, rfl, by decide +kernel, rfl, by decide +kernel, by decide +kernel⟩
theorem ok__law_refused_at {f : Addr} {fd : FuncData} (F : Fun K "_law_refused_at" "_law_refused_at" s__law_refused_at f fd) (z_len : mg "len" = none) (c__law_refused : Fn1 P w K mg base "_law_refused" 70 ["_law_thing"] (sp__law_refused K)) (c__law_whole : Fn1 P w K mg base "_law_whole" 1 ["_law_found"] (sp__law_whole K)) : FnOk P w K mg base CX0 71 f fd ["_law_thing", "_law_due"] (sp__law_refused_at K) := by
  refine fn_m F sc__law_refused_at (fun x => rfl) (fun x _ => rfl) fun cdv A outer s H E hr x hx => ?_
  obtain ⟨⟨thing, due⟩, r⟩ := x
  replace hx : M__law_refused_at thing due = some r := hx
  have nd := sc__law_refused_at.nd
  unfold M__law_refused_at at hx
  show MS _ [some (.fz (.str thing)), some (.fz (.int due)), none] _ _
  replace hx := bd_some hx
  obtain ⟨v1, hv1, hx⟩ := hx
  refine ms_cons (m_set (ps_set (i := 2) nd rfl (Or.inl rfl) pe_w) (me_fn c__law_refused (thing, v1) (ma_fz (me_var (pv 0) rfl) ma_nil) hv1 (hr.mono (by decide))) ?_)
  show MS _ [some (.fz (.str thing)), some (.fz (.int due)), some (.fz v1)] _ _
  replace hx := bd_some hx
  obtain ⟨v2, hv2, hx⟩ := hx
  replace hx := bd_some hx
  obtain ⟨v8, hv8, hx⟩ := hx
  refine ms_one (m_ret (ps_ret pe_w) (ME.r (ME.isB (me_and (me_eqI (me_lenTd hv2 (by rfl) z_len (me_var (pv 2) rfl)) me_int) fun q9 => (by have hx := cond_t hv8 q9; replace hx := bd_some hx; obtain ⟨v3, hv3, hx⟩ := hx; replace hx := bd_some hx; obtain ⟨v4, hv4, hx⟩ := hx; replace hx := bd_some hx; obtain ⟨v6, hv6, hx⟩ := hx; first | (cases hx; exact (ME.isB (me_and (me_fn c__law_whole (v3, v4) (ma_fz (me_ixD hv3 (me_var (pv 2) rfl) me_int) ma_nil) hv4 (hr.mono (by decide))) fun q7 => (by have hx := cond_t hv6 q7; replace hx := gd_some hx; obtain ⟨g5, hx⟩ := hx; cases hx; exact (me_one (me_eqDT (d1 := v1) (d2 := (e_T_s_i (("words" : Str), due))) hr.units g5 rfl rfl (ME.v (me_var (pv 2) rfl)) (ME.v (me_tup (mf_cons me_str (mf_cons (me_var (pv 1) rfl) mf_nil)))))))) (and_c hv6))) | (injection hx with hx; subst hx; exact (ME.isB (me_and (me_fn c__law_whole (v3, v4) (ma_fz (me_ixD hv3 (me_var (pv 2) rfl) me_int) ma_nil) hv4 (hr.mono (by decide))) fun q7 => (by have hx := cond_t hv6 q7; replace hx := gd_some hx; obtain ⟨g5, hx⟩ := hx; cases hx; exact (me_one (me_eqDT (d1 := v1) (d2 := (e_T_s_i (("words" : Str), due))) hr.units g5 rfl rfl (ME.v (me_var (pv 2) rfl)) (ME.v (me_tup (mf_cons me_str (mf_cons (me_var (pv 1) rfl) mf_nil)))))))) (and_c hv6))))) (and_c hv8))) ?_)
  cases hx; rfl

noncomputable def M__law_holds (text : Str) : Option Bool :=
  bd (okx (M_read_condition text)) fun v1 =>
  bd (U_Cd_holds (Kn_holds 64) v1 (3, 7, ("storm" : Str), ("roof" : Str), ("hail" : Str), 100)) fun v2 =>
  some v2
def sp__law_holds (K : PySem.W.Frag) : Sp := SpF K (fun x : Str => [.fz (.str x)]) (fun x => M__law_holds x) (fun r => .fz (.bl r))
abbrev N__law_holds : List Str := ["_law_text"]
theorem sc__law_holds : FnScope N__law_holds ["_law_text"] (defScope s__law_holds) := ⟨rfl, rfl, rfl, by decide +kernel, rfl, by decide +kernel, by decide +kernel⟩
theorem ok__law_holds {f : Addr} {fd : FuncData} (F : Fun K "_law_holds" "_law_holds" s__law_holds f fd) (o_Condition : OC K C_Condition []) (o_CauseIs : OC K C_CauseIs ["name"]) (o_ThingIs : OC K C_ThingIs ["name"]) (o_DaysIn : OC K C_DaysIn ["first", "last"]) (o_Over : OC K C_Over ["cents"]) (o_Not : OC K C_Not ["part"]) (o_All : OC K C_All ["several"]) (o_Some : OC K C_Some ["several"]) (c_read_condition : Fn1E P w K mg base "read_condition" 69 ["text"] (sp_read_condition K C_Condition C_CauseIs C_ThingIs C_DaysIn C_Over C_Not C_All C_Some C_NoWords C_TooDeep)) (m_Condition_holds : Mt1 P w K mg base C_Condition "holds" 1 ["self", "loss"] (sp_Condition_holds K C_Condition C_CauseIs C_ThingIs C_DaysIn C_Over C_Not C_All C_Some)) (m_CauseIs_holds : Mt1 P w K mg base C_CauseIs "holds" 1 ["self", "loss"] (sp_CauseIs_holds K C_CauseIs)) (m_ThingIs_holds : Mt1 P w K mg base C_ThingIs "holds" 1 ["self", "loss"] (sp_ThingIs_holds K C_ThingIs)) (m_DaysIn_holds : Mt1 P w K mg base C_DaysIn "holds" 1 ["self", "loss"] (sp_DaysIn_holds K C_DaysIn)) (m_Over_holds : Mt1 P w K mg base C_Over "holds" 1 ["self", "loss"] (sp_Over_holds K C_Over)) (m_Not_holds : Mt1 P w K mg base C_Not "holds" 65 ["self", "loss"] (sp_Not_holds K C_Not C_Condition C_CauseIs C_ThingIs C_DaysIn C_Over C_All C_Some 64)) (m_All_holds : Mt1 P w K mg base C_All "holds" 65 ["self", "loss"] (sp_All_holds K C_All C_Condition C_CauseIs C_ThingIs C_DaysIn C_Over C_Not C_Some 64)) (m_Some_holds : Mt1 P w K mg base C_Some "holds" 65 ["self", "loss"] (sp_Some_holds K C_Some C_Condition C_CauseIs C_ThingIs C_DaysIn C_Over C_Not C_All 64)) : FnOk P w K mg base CX0 70 f fd ["_law_text"] (sp__law_holds K) := by
  refine fn_m F sc__law_holds (fun x => rfl) (fun x _ => rfl) fun cdv A outer s H E hr x hx => ?_
  obtain ⟨text, r⟩ := x
  replace hx : M__law_holds text = some r := hx
  have nd := sc__law_holds.nd
  unfold M__law_holds at hx
  show MS _ [some (.fz (.str text))] _ _
  replace hx := bd_some hx
  obtain ⟨v1, hv1, hx⟩ := hx
  replace hx := bd_some hx
  obtain ⟨v2, hv2, hx⟩ := hx
  refine ms_one (m_ret (ps_ret pe_w) (ME.r (show ME _ _ _ (.fz (.bl v2)) from by obtain ⟨cc, hv⟩ : ∃ cc, v1 = cc := ⟨_, rfl⟩; cases cc with | plain p => exact me_mt m_Condition_holds o_Condition (((.plain p), (3, 7, ("storm" : Str), ("roof" : Str), ("hail" : Str), 100)), v2) (MV.as (ME.v (me_fn (Fn1E.ok c_read_condition) (text, .ok v1) (ma_fz (me_var (pv 0) rfl) ma_nil) ⟨okx_is hv1, (by intro _ z; cases z)⟩ (hr.mono (by decide)))) (congrArg (u_Cd C_Condition C_CauseIs C_ThingIs C_DaysIn C_Over C_Not C_All C_Some) hv)) (ma_fz (me_tup (mf_cons me_int (mf_cons me_int (mf_cons me_str (mf_cons me_str (mf_cons me_str (mf_cons me_int mf_nil))))))) ma_nil) rfl ((congrArg (fun q => U_Cd_holds (Kn_holds 64) q (3, 7, ("storm" : Str), ("roof" : Str), ("hail" : Str), 100)) hv).symm.trans hv2) (hr.mono (by decide)) | cause p => exact me_mt m_CauseIs_holds o_CauseIs ((p, (3, 7, ("storm" : Str), ("roof" : Str), ("hail" : Str), 100)), v2) (MV.as (ME.v (me_fn (Fn1E.ok c_read_condition) (text, .ok v1) (ma_fz (me_var (pv 0) rfl) ma_nil) ⟨okx_is hv1, (by intro _ z; cases z)⟩ (hr.mono (by decide)))) ((congrArg (u_Cd C_Condition C_CauseIs C_ThingIs C_DaysIn C_Over C_Not C_All C_Some) hv).trans (u_Cd_cause C_Condition C_CauseIs C_ThingIs C_DaysIn C_Over C_Not C_All C_Some _))) (ma_fz (me_tup (mf_cons me_int (mf_cons me_int (mf_cons me_str (mf_cons me_str (mf_cons me_str (mf_cons me_int mf_nil))))))) ma_nil) rfl ((congrArg (fun q => U_Cd_holds (Kn_holds 64) q (3, 7, ("storm" : Str), ("roof" : Str), ("hail" : Str), 100)) hv).symm.trans hv2) (hr.mono (by decide)) | thing p => exact me_mt m_ThingIs_holds o_ThingIs ((p, (3, 7, ("storm" : Str), ("roof" : Str), ("hail" : Str), 100)), v2) (MV.as (ME.v (me_fn (Fn1E.ok c_read_condition) (text, .ok v1) (ma_fz (me_var (pv 0) rfl) ma_nil) ⟨okx_is hv1, (by intro _ z; cases z)⟩ (hr.mono (by decide)))) ((congrArg (u_Cd C_Condition C_CauseIs C_ThingIs C_DaysIn C_Over C_Not C_All C_Some) hv).trans (u_Cd_thing C_Condition C_CauseIs C_ThingIs C_DaysIn C_Over C_Not C_All C_Some _))) (ma_fz (me_tup (mf_cons me_int (mf_cons me_int (mf_cons me_str (mf_cons me_str (mf_cons me_str (mf_cons me_int mf_nil))))))) ma_nil) rfl ((congrArg (fun q => U_Cd_holds (Kn_holds 64) q (3, 7, ("storm" : Str), ("roof" : Str), ("hail" : Str), 100)) hv).symm.trans hv2) (hr.mono (by decide)) | days p => exact me_mt m_DaysIn_holds o_DaysIn ((p, (3, 7, ("storm" : Str), ("roof" : Str), ("hail" : Str), 100)), v2) (MV.as (ME.v (me_fn (Fn1E.ok c_read_condition) (text, .ok v1) (ma_fz (me_var (pv 0) rfl) ma_nil) ⟨okx_is hv1, (by intro _ z; cases z)⟩ (hr.mono (by decide)))) ((congrArg (u_Cd C_Condition C_CauseIs C_ThingIs C_DaysIn C_Over C_Not C_All C_Some) hv).trans (u_Cd_days C_Condition C_CauseIs C_ThingIs C_DaysIn C_Over C_Not C_All C_Some _))) (ma_fz (me_tup (mf_cons me_int (mf_cons me_int (mf_cons me_str (mf_cons me_str (mf_cons me_str (mf_cons me_int mf_nil))))))) ma_nil) rfl ((congrArg (fun q => U_Cd_holds (Kn_holds 64) q (3, 7, ("storm" : Str), ("roof" : Str), ("hail" : Str), 100)) hv).symm.trans hv2) (hr.mono (by decide)) | over p => exact me_mt m_Over_holds o_Over ((p, (3, 7, ("storm" : Str), ("roof" : Str), ("hail" : Str), 100)), v2) (MV.as (ME.v (me_fn (Fn1E.ok c_read_condition) (text, .ok v1) (ma_fz (me_var (pv 0) rfl) ma_nil) ⟨okx_is hv1, (by intro _ z; cases z)⟩ (hr.mono (by decide)))) ((congrArg (u_Cd C_Condition C_CauseIs C_ThingIs C_DaysIn C_Over C_Not C_All C_Some) hv).trans (u_Cd_over C_Condition C_CauseIs C_ThingIs C_DaysIn C_Over C_Not C_All C_Some _))) (ma_fz (me_tup (mf_cons me_int (mf_cons me_int (mf_cons me_str (mf_cons me_str (mf_cons me_str (mf_cons me_int mf_nil))))))) ma_nil) rfl ((congrArg (fun q => U_Cd_holds (Kn_holds 64) q (3, 7, ("storm" : Str), ("roof" : Str), ("hail" : Str), 100)) hv).symm.trans hv2) (hr.mono (by decide)) | notOf p => exact me_mt m_Not_holds o_Not ((p, (3, 7, ("storm" : Str), ("roof" : Str), ("hail" : Str), 100)), v2) (MV.as (ME.v (me_fn (Fn1E.ok c_read_condition) (text, .ok v1) (ma_fz (me_var (pv 0) rfl) ma_nil) ⟨okx_is hv1, (by intro _ z; cases z)⟩ (hr.mono (by decide)))) ((congrArg (u_Cd C_Condition C_CauseIs C_ThingIs C_DaysIn C_Over C_Not C_All C_Some) hv).trans (u_Cd_notOf C_Condition C_CauseIs C_ThingIs C_DaysIn C_Over C_Not C_All C_Some _))) (ma_fz (me_tup (mf_cons me_int (mf_cons me_int (mf_cons me_str (mf_cons me_str (mf_cons me_str (mf_cons me_int mf_nil))))))) ma_nil) rfl ((congrArg (fun q => U_Cd_holds (Kn_holds 64) q (3, 7, ("storm" : Str), ("roof" : Str), ("hail" : Str), 100)) hv).symm.trans hv2) (hr.mono (by decide)) | allOf p => exact me_mt m_All_holds o_All ((p, (3, 7, ("storm" : Str), ("roof" : Str), ("hail" : Str), 100)), v2) (MV.as (ME.v (me_fn (Fn1E.ok c_read_condition) (text, .ok v1) (ma_fz (me_var (pv 0) rfl) ma_nil) ⟨okx_is hv1, (by intro _ z; cases z)⟩ (hr.mono (by decide)))) ((congrArg (u_Cd C_Condition C_CauseIs C_ThingIs C_DaysIn C_Over C_Not C_All C_Some) hv).trans (u_Cd_allOf C_Condition C_CauseIs C_ThingIs C_DaysIn C_Over C_Not C_All C_Some _))) (ma_fz (me_tup (mf_cons me_int (mf_cons me_int (mf_cons me_str (mf_cons me_str (mf_cons me_str (mf_cons me_int mf_nil))))))) ma_nil) rfl ((congrArg (fun q => U_Cd_holds (Kn_holds 64) q (3, 7, ("storm" : Str), ("roof" : Str), ("hail" : Str), 100)) hv).symm.trans hv2) (hr.mono (by decide)) | someOf p => exact me_mt m_Some_holds o_Some ((p, (3, 7, ("storm" : Str), ("roof" : Str), ("hail" : Str), 100)), v2) (MV.as (ME.v (me_fn (Fn1E.ok c_read_condition) (text, .ok v1) (ma_fz (me_var (pv 0) rfl) ma_nil) ⟨okx_is hv1, (by intro _ z; cases z)⟩ (hr.mono (by decide)))) ((congrArg (u_Cd C_Condition C_CauseIs C_ThingIs C_DaysIn C_Over C_Not C_All C_Some) hv).trans (u_Cd_someOf C_Condition C_CauseIs C_ThingIs C_DaysIn C_Over C_Not C_All C_Some _))) (ma_fz (me_tup (mf_cons me_int (mf_cons me_int (mf_cons me_str (mf_cons me_str (mf_cons me_str (mf_cons me_int mf_nil))))))) ma_nil) rfl ((congrArg (fun q => U_Cd_holds (Kn_holds 64) q (3, 7, ("storm" : Str), ("roof" : Str), ("hail" : Str), 100)) hv).symm.trans hv2) (hr.mono (by decide)))) ?_)
  cases hx; rfl
abbrev e_L_s (xs : (List Str)) : D := .lst (xs.map D.str)
noncomputable def M__law_nested (script : (List Int)) (k_0 : Int) : Option Bool :=
  bd (M__law_cell script k_0) fun v1 =>
  lt (v1 % 13) fun size =>
  bd (M__law_mix v1 k_0) fun v2 =>
  bd (M__law_opened v2 size) fun v3 =>
  bd (M__law_cell script (k_0 + 1)) fun v4 =>
  bd (M__law_atom v4) fun v5 =>
  gd ((-(2 ^ 63) ≤ ((v3.count (("(" : Str)) : Nat) : Int) ∧ ((v3.count (("(" : Str)) : Nat) : Int) < 2 ^ 63) ∧ [(")" : Str)].length * (((v3.count (("(" : Str)) : Nat) : Int)).toNat ≤ sizeLine) <|
  lt ((repG [(")" : Str)] (((v3.count (("(" : Str)) : Nat) : Int)))) fun closing =>
  cond ((decide (size < 7)) && ((((v1 / 13) % 3) == 1))) (bd (L2.atI [[("not" : Str), ("always" : Str)], [("(" : Str), ("always" : Str), (")" : Str)], [("not" : Str)], [("(" : Str)]] ((v1 / 39) % 4)) fun v7 =>
    gd (v3.length + v5.1.length ≤ sizeLine) <|
    gd ((v3 ++ v5.1).length + v7.length ≤ sizeLine) <|
    gd ((((v3 ++ v5.1) ++ v7).map (·.length)).sum + ((v3 ++ v5.1) ++ v7).length * (" " : Str).length ≤ 16777216) <|
    bd (M__law_refused_at (Txt.join (" " : Str) ((v3 ++ v5.1) ++ v7)) (size + (v5.1.length : Int))) fun v11 =>
    some v11) <|
  cond (decide (6 < size)) (gd (v5.1.length + closing.length ≤ sizeLine) <|
    gd (v5.1.length + closing.length ≤ sizeLine) <|
    gd ((v5.1 ++ closing).length + [(")" : Str)].length ≤ sizeLine) <|
    lt [(v5.1 ++ closing), v5.1, [("Always" : Str)], [(")" : Str)], ([] : List Str), [("" : Str), ("(" : Str)], ((v5.1 ++ closing) ++ [(")" : Str)])] fun some_0 =>
    bd (L2.atI some_0 ((v1 / 13) % 7)) fun v15 =>
    gd (v3.length + v15.length ≤ sizeLine) <|
    gd (((v3 ++ v15).map (·.length)).sum + (v3 ++ v15).length * (" " : Str).length ≤ 16777216) <|
    lt (Txt.join (" " : Str) (v3 ++ v15)) fun text =>
    bd (M__law_refused text) fun v18 =>
    gd (D.ok v18 ∧ D.ok (e_T_s ("deep" : Str))) <|
    some ((D.eqv v18 (e_T_s ("deep" : Str))))) <|
  gd (v3.length + v5.1.length ≤ sizeLine) <|
  gd ((v3 ++ v5.1).length + closing.length ≤ sizeLine) <|
  gd ((((v3 ++ v5.1) ++ closing).map (·.length)).sum + ((v3 ++ v5.1) ++ closing).length * (" " : Str).length ≤ 16777216) <|
  lt (Txt.join (" " : Str) ((v3 ++ v5.1) ++ closing)) fun text_1 =>
  bd (M__law_holds text_1) fun v23 =>
  bd (M__law_truth v23 ((v5.2 == (((((v3.count ("not" : Str) : Nat) : Int) % 2) == 0))))) fun v24 =>
  some v24
def sp__law_nested (K : PySem.W.Frag) : Sp := SpF K (fun x : (List Int) × Int => [.vw (x.1.map D.int), .fz (.int x.2)]) (fun x => M__law_nested x.1 x.2) (fun r => .fz (.bl r))
abbrev N__law_nested : List Str := ["_law_script", "_law_k", "_law_cell_here", "_law_size", "_law_ahead", "_law_words", "_law_due", "_law_closing", "_law_some", "_law_text"]
theorem sc__law_nested : FnScope N__law_nested ["_law_script", "_law_k"] (defScope s__law_nested) := ⟨rfl, rfl, rfl, by decide +kernel, rfl, by decide +kernel, by decide +kernel⟩
theorem ok__law_nested {f : Addr} {fd : FuncData} (F : Fun K "_law_nested" "_law_nested" s__law_nested f fd) (z_len : mg "len" = none) (c__law_cell : Fn1 P w K mg base "_law_cell" 1 ["_law_script", "_law_k"] (sp__law_cell K)) (c__law_mix : Fn1 P w K mg base "_law_mix" 1 ["_law_number", "_law_k"] (sp__law_mix K)) (c__law_opened : Fn1 P w K mg base "_law_opened" 1 ["_law_number", "_law_size"] (sp__law_opened K)) (c__law_atom : Fn1 P w K mg base "_law_atom" 1 ["_law_number"] (sp__law_atom K)) (c__law_refused_at : Fn1 P w K mg base "_law_refused_at" 71 ["_law_thing", "_law_due"] (sp__law_refused_at K)) (c__law_refused : Fn1 P w K mg base "_law_refused" 70 ["_law_thing"] (sp__law_refused K)) (c__law_holds : Fn1 P w K mg base "_law_holds" 70 ["_law_text"] (sp__law_holds K)) (c__law_truth : Fn1 P w K mg base "_law_truth" 1 ["_law_found", "_law_due"] (sp__law_truth K)) : FnOk P w K mg base CX0 72 f fd ["_law_script", "_law_k"] (sp__law_nested K) := by
  refine fn_m F sc__law_nested (fun x => rfl) (fun x _ => rfl) fun cdv A outer s H E hr x hx => ?_
  obtain ⟨⟨script, k_0⟩, r⟩ := x
  replace hx : M__law_nested script k_0 = some r := hx
  have nd := sc__law_nested.nd
  unfold M__law_nested at hx
  show MS _ [some (.vw (script.map D.int)), some (.fz (.int k_0)), none, none, none, none, none, none, none, none] _ _
  replace hx := bd_some hx
  obtain ⟨v1, hv1, hx⟩ := hx
  refine ms_cons (m_set (ps_set (i := 2) nd rfl (Or.inl rfl) pe_w) (me_fn c__law_cell ((script, k_0), v1) (ma_vw (ml_var (pv 0) rfl) (ma_fz (me_var (pv 1) rfl) ma_nil)) hv1 (hr.mono (by decide))) ?_)
  show MS _ [some (.vw (script.map D.int)), some (.fz (.int k_0)), some (.fz (.int v1)), none, none, none, none, none, none, none] _ _
  replace hx := lt_some hx
  obtain ⟨size, esize, hx⟩ := hx
  refine ms_cons (m_set (ps_set (i := 3) nd rfl (Or.inl rfl) pe_w) (ME.is (o' := (.fz (.int size))) (me_mod (me_var (pv 2) rfl) me_int (by decide)) (by rw [esize] <;> rfl)) ?_)
  show MS _ [some (.vw (script.map D.int)), some (.fz (.int k_0)), some (.fz (.int v1)), some (.fz (.int size)), none, none, none, none, none, none] _ _
  replace hx := bd_some hx
  obtain ⟨v2, hv2, hx⟩ := hx
  replace hx := bd_some hx
  obtain ⟨v3, hv3, hx⟩ := hx
  refine ms_cons (m_set (ps_set (i := 4) nd rfl (Or.inl rfl) pe_w) (me_fn c__law_opened ((v2, size), v3) (ma_fz (me_fn c__law_mix ((v1, k_0), v2) (ma_fz (me_var (pv 2) rfl) (ma_fz (me_var (pv 1) rfl) ma_nil)) hv2 (hr.mono (by decide))) (ma_fz (me_var (pv 3) rfl) ma_nil)) hv3 (hr.mono (by decide))) ?_)
  show MS _ [some (.vw (script.map D.int)), some (.fz (.int k_0)), some (.fz (.int v1)), some (.fz (.int size)), some (.lst ((v3.map D.str).map .fz)), none, none, none, none, none] _ _
  replace hx := bd_some hx
  obtain ⟨v4, hv4, hx⟩ := hx
  replace hx := bd_some hx
  obtain ⟨v5, hv5, hx⟩ := hx
  refine ms_cons (m_tgt (ps_asg pe_w (pg_tup (n := 2) rfl (pgs_cons (pg_name (i := 5) nd rfl (Or.inl rfl)) (pgs_cons (pg_name (i := 6) nd rfl (Or.inl rfl)) pgs_nil)))) (me_fn c__law_atom (v4, v5) (ma_fz (me_fn c__law_cell ((script, (k_0 + 1)), v4) (ma_vw (ml_var (pv 0) rfl) (ma_fz (me_add (me_var (pv 1) rfl) me_int) ma_nil)) hv4 (hr.mono (by decide))) ma_nil) hv5 (hr.mono (by decide))) (mg_tup (mgs_cons mg_name (mgs_cons mg_name mgs_nil)) rfl) ?_)
  show MS _ [some (.vw (script.map D.int)), some (.fz (.int k_0)), some (.fz (.int v1)), some (.fz (.int size)), some (.lst ((v3.map D.str).map .fz)), some (.fz (.lst (v5.1.map D.str))), some (.fz (.bl v5.2)), none, none, none] _ _
  replace hx := gd_some hx
  obtain ⟨g6, hx⟩ := hx
  replace hx := lt_some hx
  obtain ⟨closing, eclosing, hx⟩ := hx
  refine ms_cons (m_set (ps_set (i := 7) nd rfl (Or.inl rfl) pe_w) (ME.is (o' := (.lst ((closing.map D.str).map .fz))) (me_repT (xs := [(")" : Str)]) (enc := D.str) g6 (ME.v (me_lst (ds := [(")" : Str)].map D.str) (mf_cons me_str mf_nil))) (me_countL (bs := v3) (ml_var (pv 4) rfl) me_str)) (by rw [eclosing] <;> rfl)) ?_)
  show MS _ [some (.vw (script.map D.int)), some (.fz (.int k_0)), some (.fz (.int v1)), some (.fz (.int size)), some (.lst ((v3.map D.str).map .fz)), some (.fz (.lst (v5.1.map D.str))), some (.fz (.bl v5.2)), some (.lst ((closing.map D.str).map .fz)), none, none] _ _
  refine ms_cons (m_if (t := ((decide (size < 7)) && ((((v1 / 13) % 3) == 1)))) (MW.t (mw_and (mt_lt (me_var (pv 3) rfl) me_int) fun _ => (mw_and1 (mt_eqI (me_mod (me_fdiv (me_var (pv 2) rfl) me_int ⟨by decide, by decide⟩) me_int (by decide)) me_int)))) (fun h => ?_) fun h => ms_nil ?_)
  · replace hx := cond_t hx h
    replace hx := bd_some hx
    obtain ⟨v7, hv7, hx⟩ := hx
    refine ms_cons (m_set (ps_set (i := 8) nd rfl (Or.inl rfl) pe_w) (me_ixLT (xs := [[("not" : Str), ("always" : Str)], [("(" : Str), ("always" : Str), (")" : Str)], [("not" : Str)], [("(" : Str)]]) (enc := e_L_s) hv7 (ME.l (me_lst (ds := [[("not" : Str), ("always" : Str)], [("(" : Str), ("always" : Str), (")" : Str)], [("not" : Str)], [("(" : Str)]].map e_L_s) (mf_cons (ME.frzl (me_lst (ds := [("not" : Str), ("always" : Str)].map D.str) (mf_cons me_str (mf_cons me_str mf_nil)))) (mf_cons (ME.frzl (me_lst (ds := [("(" : Str), ("always" : Str), (")" : Str)].map D.str) (mf_cons me_str (mf_cons me_str (mf_cons me_str mf_nil))))) (mf_cons (ME.frzl (me_lst (ds := [("not" : Str)].map D.str) (mf_cons me_str mf_nil))) (mf_cons (ME.frzl (me_lst (ds := [("(" : Str)].map D.str) (mf_cons me_str mf_nil))) mf_nil)))))) (me_mod (me_fdiv (me_var (pv 2) rfl) me_int ⟨by decide, by decide⟩) me_int (by decide))) ?_)
    show MS _ [some (.vw (script.map D.int)), some (.fz (.int k_0)), some (.fz (.int v1)), some (.fz (.int size)), some (.lst ((v3.map D.str).map .fz)), some (.fz (.lst (v5.1.map D.str))), some (.fz (.bl v5.2)), some (.lst ((closing.map D.str).map .fz)), some (.fz (.lst (v7.map D.str))), none] _ _
    replace hx := gd_some hx
    obtain ⟨g8, hx⟩ := hx
    replace hx := gd_some hx
    obtain ⟨g9, hx⟩ := hx
    replace hx := gd_some hx
    obtain ⟨g10, hx⟩ := hx
    replace hx := bd_some hx
    obtain ⟨v11, hv11, hx⟩ := hx
    refine ms_one (m_ret (ps_ret pe_w) (ME.r (me_fn c__law_refused_at (((Txt.join (" " : Str) ((v3 ++ v5.1) ++ v7)), (size + (v5.1.length : Int))), v11) (ma_fz (me_joinL (ys := ((v3 ++ v5.1) ++ v7)) me_str (ME.l (me_catMM (xs := (v3 ++ v5.1)) (ys := v7) (enc := D.str) g9 (ME.l (me_catMM (xs := v3) (ys := v5.1) (enc := D.str) g8 (ml_var (pv 4) rfl) (ml_var (pv 5) rfl))) (ml_var (pv 8) rfl))) g10) (ma_fz (me_add (me_var (pv 3) rfl) (me_lenLT (xs := v5.1) (enc := D.str) (by rfl) z_len (ml_var (pv 5) rfl))) ma_nil)) hv11 (hr.mono (by decide)))) ?_)
    cases hx; rfl
  replace hx := cond_f hx h
  refine ms_cons (m_if (t := (decide (6 < size))) (mt_gt (me_var (pv 3) rfl) me_int) (fun h => ?_) fun h => ms_nil ?_)
  · replace hx := cond_t hx h
    replace hx := gd_some hx
    obtain ⟨g12, hx⟩ := hx
    replace hx := gd_some hx
    obtain ⟨g13, hx⟩ := hx
    replace hx := gd_some hx
    obtain ⟨g14, hx⟩ := hx
    replace hx := lt_some hx
    obtain ⟨some_0, esome_0, hx⟩ := hx
    refine ms_cons (m_set (ps_set (i := 8) nd rfl (Or.inl rfl) pe_w) (ME.is (o' := (.lst ((some_0.map e_L_s).map .fz))) (me_lst (ds := [(v5.1 ++ closing), v5.1, [("Always" : Str)], [(")" : Str)], ([] : List Str), [("" : Str), ("(" : Str)], ((v5.1 ++ closing) ++ [(")" : Str)])].map e_L_s) (mf_cons (ME.frzl (me_catMM (xs := v5.1) (ys := closing) (enc := D.str) g12 (ml_var (pv 5) rfl) (ml_var (pv 7) rfl))) (mf_cons (me_var (pv 5) rfl) (mf_cons (ME.frzl (me_lst (ds := [("Always" : Str)].map D.str) (mf_cons me_str mf_nil))) (mf_cons (ME.frzl (me_lst (ds := [(")" : Str)].map D.str) (mf_cons me_str mf_nil))) (mf_cons (ME.frzl (me_lst (ds := [].map D.str) mf_nil)) (mf_cons (ME.frzl (me_lst (ds := [("" : Str), ("(" : Str)].map D.str) (mf_cons me_str (mf_cons me_str mf_nil)))) (mf_cons (ME.frzl (me_catLT (xs := (v5.1 ++ closing)) (ys := [(")" : Str)]) (enc := D.str) g14 (ME.v (me_catMM (xs := v5.1) (ys := closing) (enc := D.str) g13 (ml_var (pv 5) rfl) (ml_var (pv 7) rfl))) (ME.v (me_lst (ds := [(")" : Str)].map D.str) (mf_cons me_str mf_nil))))) mf_nil)))))))) (by rw [esome_0] <;> rfl)) ?_)
    show MS _ [some (.vw (script.map D.int)), some (.fz (.int k_0)), some (.fz (.int v1)), some (.fz (.int size)), some (.lst ((v3.map D.str).map .fz)), some (.fz (.lst (v5.1.map D.str))), some (.fz (.bl v5.2)), some (.lst ((closing.map D.str).map .fz)), some (.lst ((some_0.map e_L_s).map .fz)), none] _ _
    replace hx := bd_some hx
    obtain ⟨v15, hv15, hx⟩ := hx
    replace hx := gd_some hx
    obtain ⟨g16, hx⟩ := hx
    replace hx := gd_some hx
    obtain ⟨g17, hx⟩ := hx
    replace hx := lt_some hx
    obtain ⟨text, etext, hx⟩ := hx
    refine ms_cons (m_set (ps_set (i := 9) nd rfl (Or.inl rfl) pe_w) (ME.is (o' := (.fz (.str text))) (me_joinL (ys := (v3 ++ v15)) me_str (ME.l (me_catMM (xs := v3) (ys := v15) (enc := D.str) g16 (ml_var (pv 4) rfl) (MV.l (ME.v (me_ixLT (xs := some_0) (enc := e_L_s) hv15 (ml_var (pv 8) rfl) (me_mod (me_fdiv (me_var (pv 2) rfl) me_int ⟨by decide, by decide⟩) me_int (by decide)))) (.fz _)))) g17) (by rw [etext] <;> rfl)) ?_)
    show MS _ [some (.vw (script.map D.int)), some (.fz (.int k_0)), some (.fz (.int v1)), some (.fz (.int size)), some (.lst ((v3.map D.str).map .fz)), some (.fz (.lst (v5.1.map D.str))), some (.fz (.bl v5.2)), some (.lst ((closing.map D.str).map .fz)), some (.lst ((some_0.map e_L_s).map .fz)), some (.fz (.str text))] _ _
    replace hx := bd_some hx
    obtain ⟨v18, hv18, hx⟩ := hx
    replace hx := gd_some hx
    obtain ⟨g19, hx⟩ := hx
    refine ms_one (m_ret (ps_ret pe_w) (ME.r (me_eqDT (d1 := v18) (d2 := (e_T_s ("deep" : Str))) hr.units g19 rfl rfl (ME.v (me_fn c__law_refused (text, v18) (ma_fz (me_var (pv 9) rfl) ma_nil) hv18 (hr.mono (by decide)))) (ME.v (me_tup (mf_cons me_str mf_nil))))) ?_)
    cases hx; rfl
  replace hx := cond_f hx h
  replace hx := gd_some hx
  obtain ⟨g20, hx⟩ := hx
  replace hx := gd_some hx
  obtain ⟨g21, hx⟩ := hx
  replace hx := gd_some hx
  obtain ⟨g22, hx⟩ := hx
  replace hx := lt_some hx
  obtain ⟨text_1, etext_1, hx⟩ := hx
  refine ms_cons (m_set (ps_set (i := 9) nd rfl (Or.inl rfl) pe_w) (ME.is (o' := (.fz (.str text_1))) (me_joinL (ys := ((v3 ++ v5.1) ++ closing)) me_str (ME.l (me_catLT (xs := (v3 ++ v5.1)) (ys := closing) (enc := D.str) g21 (ME.v (me_catMM (xs := v3) (ys := v5.1) (enc := D.str) g20 (ml_var (pv 4) rfl) (ml_var (pv 5) rfl))) (mv_var (pv 7) rfl))) g22) (by rw [etext_1] <;> rfl)) ?_)
  show MS _ [some (.vw (script.map D.int)), some (.fz (.int k_0)), some (.fz (.int v1)), some (.fz (.int size)), some (.lst ((v3.map D.str).map .fz)), some (.fz (.lst (v5.1.map D.str))), some (.fz (.bl v5.2)), some (.lst ((closing.map D.str).map .fz)), none, some (.fz (.str text_1))] _ _
  replace hx := bd_some hx
  obtain ⟨v23, hv23, hx⟩ := hx
  replace hx := bd_some hx
  obtain ⟨v24, hv24, hx⟩ := hx
  refine ms_one (m_ret (ps_ret pe_w) (ME.r (me_fn c__law_truth ((v23, ((v5.2 == (((((v3.count ("not" : Str) : Nat) : Int) % 2) == 0))))), v24) (ma_fz (me_fn c__law_holds (text_1, v23) (ma_fz (me_var (pv 9) rfl) ma_nil) hv23 (hr.mono (by decide))) (ma_fz (me_eqB (me_var (pv 6) rfl) (me_eqI (me_mod (me_countL (bs := v3) (ml_var (pv 4) rfl) me_str) me_int (by decide)) me_int)) ma_nil)) hv24 (hr.mono (by decide)))) ?_)
  cases hx; rfl

abbrev e_T_b_b (p : (Bool × Bool)) : D := .tup [.bl p.1, .bl p.2]
noncomputable def M__law_row (script : (List Int)) (k_0 : Int) : Option Bool :=
  bd (M__law_cell script k_0) fun v1 =>
  lt (2 + (v1 % 10)) fun size =>
  bd (L2.atI [("and" : Str), ("or" : Str)] ((v1 / 10) % 2)) fun v2 =>
  bd (M__law_mix v1 (k_0 + 1)) fun v3 =>
  bd (M__law_opened v3 ((v1 / 20) % 7)) fun v4 =>
  gd (D.ok (.lst ((cutG v4 (some (-(1 : Int))) none).map D.str)) ∧ D.ok (.lst ([("not" : Str)].map D.str))) <|
  bd (cond ((D.eqv (.lst ((cutG v4 (some (-(1 : Int))) none).map D.str)) (.lst ([("not" : Str)].map D.str)))) (gd ((cutG v4 none (some (-(1 : Int)))).length + [("(" : Str)].length ≤ sizeLine) <|
    lt ((((cutG v4 none (some (-(1 : Int)))) ++ [("(" : Str)]) : (List Str))) fun ahead =>
    some ahead) (some v4) : Option ((List Str))) fun p6 =>
  lt ([] : List Bool) fun dues =>
  bd (cond ((decide ((p6.length : Int) < 6)) && (decide (size < 10))) (bd (M__law_mix v1 (k_0 + 7)) fun v9 =>
    lt (v9 / 32) fun nots =>
    some nots) (some (0 : Int)) : Option (Int)) fun p8 =>
  gd (-(2 ^ 62) ≤ size ∧ size < 2 ^ 62) <|
  bd (lp (fun (x12 : Nat) (p11 : Int × Int × (List Str) × (List Bool)) => (bd (M__law_mix v1 ((2 * k_0) + (x12 : Int))) fun v14 =>
    bd (M__law_atom v14) fun v15 =>
    bd (cond (((p11.1 % 2) == 1)) (bd (cond (((((v1 / 700) % 2) == 1)) && ((decide (size < 8)) && (decide ((p6.length : Int) < 5)))) (gd ([("(" : Str)].length + v15.1.length ≤ sizeLine) <|
        gd ((([("(" : Str)] ++ v15.1)).length + [(")" : Str)].length ≤ sizeLine) <|
        lt (([("(" : Str)] ++ v15.1) ++ [(")" : Str)]) fun atom_here =>
        some atom_here) (some v15.1) : Option ((List Str))) fun p17 =>
      gd ([("not" : Str)].length + p17.length ≤ sizeLine) <|
      lt ([("not" : Str)] ++ p17) fun atom_here_1 =>
      lt (!v15.2) fun due =>
      some (atom_here_1, due)) (some (v15.1, v15.2)) : Option ((List Str) × Bool)) fun p16 =>
    lt (p11.1 / 2) fun nots_1 =>
    bd (cond (((x12 : Int) == 8)) (lt ((p11.2.2.1.length : Int) + 1) fun ninth =>
      bd (L2.atI [p16.1, [("not" : Str), ("always" : Str)], [("(" : Str), ("always" : Str), (")" : Str)], [("and" : Str)], [("" : Str)]] ((v1 / 140) % 5)) fun v22 =>
      some (ninth, v22)) (some (p11.2.1, p16.1)) : Option (Int × (List Str))) fun p21 =>
    bd (cond (decide (0 < (x12 : Int))) (gd (p11.2.2.1.length < sizeLine) <|
      lt (p11.2.2.1 ++ [v2]) fun words =>
      some words) (some p11.2.2.1) : Option ((List Str))) fun p23 =>
    gd (p23.length + p21.2.length ≤ sizeLine) <|
    lt (p23 ++ p21.2) fun words_1 =>
    gd (p11.2.2.2.length < sizeLine) <|
    lt (p11.2.2.2 ++ [p16.2]) fun dues_1 =>
    some (nots_1, p21.1, words_1, dues_1) : Option (Int × Int × (List Str) × (List Bool)))) (List.range size.toNat) (p8, 0, p6, dues)) fun p13 =>
  gd ((-(2 ^ 63) ≤ ((p6.count (("(" : Str)) : Nat) : Int) ∧ ((p6.count (("(" : Str)) : Nat) : Int) < 2 ^ 63) ∧ [(")" : Str)].length * (((p6.count (("(" : Str)) : Nat) : Int)).toNat ≤ sizeLine) <|
  gd (p13.2.2.1.length + ((repG [(")" : Str)] (((p6.count (("(" : Str)) : Nat) : Int)))).length ≤ sizeLine) <|
  gd (((p13.2.2.1 ++ (repG [(")" : Str)] (((p6.count (("(" : Str)) : Nat) : Int)))).map (·.length)).sum + (p13.2.2.1 ++ (repG [(")" : Str)] (((p6.count (("(" : Str)) : Nat) : Int)))).length * (" " : Str).length ≤ 16777216) <|
  lt (Txt.join (" " : Str) (p13.2.2.1 ++ (repG [(")" : Str)] (((p6.count (("(" : Str)) : Nat) : Int))))) fun text =>
  cond (decide (8 < size)) (bd (M__law_refused_at text p13.2.1) fun v30 =>
    some v30) <|
  bd (ixD (e_T_b_b ((!(p13.2.2.2.contains false)), ((p13.2.2.2.contains true)))) (if ((v2 == ("or" : Str))) then 1 else 0)) fun v31 =>
  bd (M__law_holds text) fun v32 =>
  gd (D.ok v31 ∧ D.ok (.bl (((((p6.count ("not" : Str) : Nat) : Int) % 2) == 0)))) <|
  bd (M__law_truth v32 ((D.eqv v31 (.bl (((((p6.count ("not" : Str) : Nat) : Int) % 2) == 0)))))) fun v34 =>
  some v34
def sp__law_row (K : PySem.W.Frag) : Sp := SpF K (fun x : (List Int) × Int => [.vw (x.1.map D.int), .fz (.int x.2)]) (fun x => M__law_row x.1 x.2) (fun r => .fz (.bl r))
abbrev N__law_row : List Str := ["_law_script", "_law_k", "_law_cell_here", "_law_size", "_law_joiner", "_law_ahead", "_law_words", "_law_dues", "_law_ninth", "_law_nots", "_law_j", "_law_atom_here", "_law_due", "_law_text"]
theorem sc__law_row : FnScope N__law_row ["_law_script", "_law_k"] (defScope s__law_row) := ⟨rfl, rfl, rfl, by decide +kernel, rfl, by decide +kernel, by decide +kernel⟩
theorem ok__law_row {f : Addr} {fd : FuncData} (F : Fun K "_law_row" "_law_row" s__law_row f fd) (z_list : mg "list" = none) (z_len : mg "len" = none) (z_range : mg "range" = none) (z_int : mg "int" = none) (c__law_cell : Fn1 P w K mg base "_law_cell" 1 ["_law_script", "_law_k"] (sp__law_cell K)) (c__law_mix : Fn1 P w K mg base "_law_mix" 1 ["_law_number", "_law_k"] (sp__law_mix K)) (c__law_opened : Fn1 P w K mg base "_law_opened" 1 ["_law_number", "_law_size"] (sp__law_opened K)) (c__law_atom : Fn1 P w K mg base "_law_atom" 1 ["_law_number"] (sp__law_atom K)) (c__law_refused_at : Fn1 P w K mg base "_law_refused_at" 71 ["_law_thing", "_law_due"] (sp__law_refused_at K)) (c__law_holds : Fn1 P w K mg base "_law_holds" 70 ["_law_text"] (sp__law_holds K)) (c__law_truth : Fn1 P w K mg base "_law_truth" 1 ["_law_found", "_law_due"] (sp__law_truth K)) : FnOk P w K mg base CX0 72 f fd ["_law_script", "_law_k"] (sp__law_row K) := by
  refine fn_m F sc__law_row (fun x => rfl) (fun x _ => rfl) fun cdv A outer s H E hr x hx => ?_
  obtain ⟨⟨script, k_0⟩, r⟩ := x
  replace hx : M__law_row script k_0 = some r := hx
  have nd := sc__law_row.nd
  unfold M__law_row at hx
  show MS _ [some (.vw (script.map D.int)), some (.fz (.int k_0)), none, none, none, none, none, none, none, none, none, none, none, none] _ _
  replace hx := bd_some hx
  obtain ⟨v1, hv1, hx⟩ := hx
  refine ms_cons (m_set (ps_set (i := 2) nd rfl (Or.inl rfl) pe_w) (me_fn c__law_cell ((script, k_0), v1) (ma_vw (ml_var (pv 0) rfl) (ma_fz (me_var (pv 1) rfl) ma_nil)) hv1 (hr.mono (by decide))) ?_)
  show MS _ [some (.vw (script.map D.int)), some (.fz (.int k_0)), some (.fz (.int v1)), none, none, none, none, none, none, none, none, none, none, none] _ _
  replace hx := lt_some hx
  obtain ⟨size, esize, hx⟩ := hx
  refine ms_cons (m_set (ps_set (i := 3) nd rfl (Or.inl rfl) pe_w) (ME.is (o' := (.fz (.int size))) (me_add me_int (me_mod (me_var (pv 2) rfl) me_int (by decide))) (by rw [esize] <;> rfl)) ?_)
  show MS _ [some (.vw (script.map D.int)), some (.fz (.int k_0)), some (.fz (.int v1)), some (.fz (.int size)), none, none, none, none, none, none, none, none, none, none] _ _
  replace hx := bd_some hx
  obtain ⟨v2, hv2, hx⟩ := hx
  refine ms_cons (m_set (ps_set (i := 4) nd rfl (Or.inl rfl) pe_w) (me_ixLT (xs := [("and" : Str), ("or" : Str)]) (enc := D.str) hv2 (ME.l (me_lst (ds := [("and" : Str), ("or" : Str)].map D.str) (mf_cons me_str (mf_cons me_str mf_nil)))) (me_mod (me_fdiv (me_var (pv 2) rfl) me_int ⟨by decide, by decide⟩) me_int (by decide))) ?_)
  show MS _ [some (.vw (script.map D.int)), some (.fz (.int k_0)), some (.fz (.int v1)), some (.fz (.int size)), some (.fz (.str v2)), none, none, none, none, none, none, none, none, none] _ _
  replace hx := bd_some hx
  obtain ⟨v3, hv3, hx⟩ := hx
  replace hx := bd_some hx
  obtain ⟨v4, hv4, hx⟩ := hx
  refine ms_cons (m_set (ps_set (i := 5) nd rfl (Or.inl rfl) pe_w) (me_fn c__law_opened ((v3, ((v1 / 20) % 7)), v4) (ma_fz (me_fn c__law_mix ((v1, (k_0 + 1)), v3) (ma_fz (me_var (pv 2) rfl) (ma_fz (me_add (me_var (pv 1) rfl) me_int) ma_nil)) hv3 (hr.mono (by decide))) (ma_fz (me_mod (me_fdiv (me_var (pv 2) rfl) me_int ⟨by decide, by decide⟩) me_int (by decide)) ma_nil)) hv4 (hr.mono (by decide))) ?_)
  show MS _ [some (.vw (script.map D.int)), some (.fz (.int k_0)), some (.fz (.int v1)), some (.fz (.int size)), some (.fz (.str v2)), some (.lst ((v4.map D.str).map .fz)), none, none, none, none, none, none, none, none] _ _
  replace hx := gd_some hx
  obtain ⟨g5, hx⟩ := hx
  replace hx := bd_some hx
  obtain ⟨p6, hp6, hx⟩ := hx
  refine ms_cons (m_ifP (out := p6) (fun p6 => [some (.vw (script.map D.int)), some (.fz (.int k_0)), some (.fz (.int v1)), some (.fz (.int size)), some (.fz (.str v2)), some (.lst ((p6.map D.str).map .fz)), none, none, none, none, none, none, none, none]) (t := ((D.eqv (.lst ((cutG v4 (some (-(1 : Int))) none).map D.str)) (.lst ([("not" : Str)].map D.str))))) (mt_eqDT (d1 := .lst ((cutG v4 (some (-(1 : Int))) none).map D.str)) (d2 := .lst ([("not" : Str)].map D.str)) hr.units g5 frz_own frz_own (ME.v (me_slLT (xs := v4) (enc := D.str) (ml_var (pv 5) rfl) (.some (me_neg me_int)) .none)) (ME.v (me_lst (ds := [("not" : Str)].map D.str) (mf_cons me_str mf_nil)))) (fun h => ?_) (fun h => ?_) fun τ le => ?_)
  · replace hx := cond_t hp6 h
    replace hx := gd_some hx
    obtain ⟨g7, hx⟩ := hx
    replace hx := lt_some hx
    obtain ⟨ahead, eahead, hx⟩ := hx
    refine ms_one (m_set (ps_set (i := 5) nd rfl (Or.inl rfl) pe_w) (ME.is (o' := (.lst ((ahead.map D.str).map .fz))) (me_catLT (xs := (cutG v4 none (some (-(1 : Int))))) (ys := [("(" : Str)]) (enc := D.str) g7 (ME.v (me_slLT (xs := v4) (enc := D.str) (ml_var (pv 5) rfl) .none (.some (me_neg me_int)))) (ME.v (me_lst (ds := [("(" : Str)].map D.str) (mf_cons me_str mf_nil)))) (by rw [eahead] <;> rfl)) ?_)
    cases hx; exact le_auto
  · replace hx := cond_f hp6 h
    refine ms_nil ?_
    cases hx; exact le_auto
  refine ms_le le ?_
  show MS _ [some (.vw (script.map D.int)), some (.fz (.int k_0)), some (.fz (.int v1)), some (.fz (.int size)), some (.fz (.str v2)), some (.lst ((p6.map D.str).map .fz)), none, none, none, none, none, none, none, none] _ _
  refine ms_cons (m_set (ps_set (i := 6) nd rfl (Or.inl rfl) pe_w) (me_list (ds := p6.map D.str) (by rfl) z_list (ml_var (pv 5) rfl)) ?_)
  show MS _ [some (.vw (script.map D.int)), some (.fz (.int k_0)), some (.fz (.int v1)), some (.fz (.int size)), some (.fz (.str v2)), some (.lst ((p6.map D.str).map .fz)), some (.lst ((p6.map D.str).map .fz)), none, none, none, none, none, none, none] _ _
  replace hx := lt_some hx
  obtain ⟨dues, edues, hx⟩ := hx
  refine ms_cons (m_set (ps_set (i := 7) nd rfl (Or.inl rfl) pe_w) (ME.is (o' := (.lst ((dues.map D.bl).map .fz))) (me_lst (ds := [].map D.bl) mf_nil) (by rw [edues] <;> rfl)) ?_)
  show MS _ [some (.vw (script.map D.int)), some (.fz (.int k_0)), some (.fz (.int v1)), some (.fz (.int size)), some (.fz (.str v2)), some (.lst ((p6.map D.str).map .fz)), some (.lst ((p6.map D.str).map .fz)), some (.lst ((dues.map D.bl).map .fz)), none, none, none, none, none, none] _ _
  refine ms_cons (m_set (ps_set (i := 8) nd rfl (Or.inl rfl) pe_w) me_int ?_)
  show MS _ [some (.vw (script.map D.int)), some (.fz (.int k_0)), some (.fz (.int v1)), some (.fz (.int size)), some (.fz (.str v2)), some (.lst ((p6.map D.str).map .fz)), some (.lst ((p6.map D.str).map .fz)), some (.lst ((dues.map D.bl).map .fz)), some (.fz (.int (0 : Int))), none, none, none, none, none] _ _
  refine ms_cons (m_set (ps_set (i := 9) nd rfl (Or.inl rfl) pe_w) me_int ?_)
  show MS _ [some (.vw (script.map D.int)), some (.fz (.int k_0)), some (.fz (.int v1)), some (.fz (.int size)), some (.fz (.str v2)), some (.lst ((p6.map D.str).map .fz)), some (.lst ((p6.map D.str).map .fz)), some (.lst ((dues.map D.bl).map .fz)), some (.fz (.int (0 : Int))), some (.fz (.int (0 : Int))), none, none, none, none] _ _
  replace hx := bd_some hx
  obtain ⟨p8, hp8, hx⟩ := hx
  refine ms_cons (m_ifP (out := p8) (fun p8 => [some (.vw (script.map D.int)), some (.fz (.int k_0)), some (.fz (.int v1)), some (.fz (.int size)), some (.fz (.str v2)), some (.lst ((p6.map D.str).map .fz)), some (.lst ((p6.map D.str).map .fz)), some (.lst ((dues.map D.bl).map .fz)), some (.fz (.int (0 : Int))), some (.fz (.int p8)), none, none, none, none]) (t := ((decide ((p6.length : Int) < 6)) && (decide (size < 10)))) (MW.t (mw_and (mt_lt (me_lenLT (xs := p6) (enc := D.str) (by rfl) z_len (ml_var (pv 5) rfl)) me_int) fun _ => (mw_and1 (mt_lt (me_var (pv 3) rfl) me_int)))) (fun h => ?_) (fun h => ?_) fun τ le => ?_)
  · replace hx := cond_t hp8 h
    replace hx := bd_some hx
    obtain ⟨v9, hv9, hx⟩ := hx
    replace hx := lt_some hx
    obtain ⟨nots, enots, hx⟩ := hx
    refine ms_one (m_set (ps_set (i := 9) nd rfl (Or.inl rfl) pe_w) (ME.is (o' := (.fz (.int nots))) (me_fdiv (me_fn c__law_mix ((v1, (k_0 + 7)), v9) (ma_fz (me_var (pv 2) rfl) (ma_fz (me_add (me_var (pv 1) rfl) me_int) ma_nil)) hv9 (hr.mono (by decide))) (ME.is (o' := .fz (.int 32)) (me_pow me_int me_int ⟨by decide, by decide, by decide⟩) rfl) ⟨by decide, by decide⟩) (by rw [enots] <;> rfl)) ?_)
    cases hx; exact le_auto
  · replace hx := cond_f hp8 h
    refine ms_nil ?_
    cases hx; exact le_auto
  refine ms_le le ?_
  show MS _ [some (.vw (script.map D.int)), some (.fz (.int k_0)), some (.fz (.int v1)), some (.fz (.int size)), some (.fz (.str v2)), some (.lst ((p6.map D.str).map .fz)), some (.lst ((p6.map D.str).map .fz)), some (.lst ((dues.map D.bl).map .fz)), some (.fz (.int (0 : Int))), some (.fz (.int p8)), none, none, none, none] _ _
  replace hx := gd_some hx
  obtain ⟨g10, hx⟩ := hx
  replace hx := bd_some hx
  obtain ⟨p13, hp13, hx⟩ := hx
  refine ms_cons (m_forP (xs := (List.range size.toNat)) (enc := (fun k : Nat => D.int (k : Nat))) (ps_for PassesOwn.never rfl (pi_range1 (by rfl) z_range pa_w) (pg_name (i := 10) nd rfl (Or.inl rfl)) pss_w) (by exact (mi_rangeT (mf_cons (me_var (pv 3) rfl) mf_nil) g10)) hp13 (fun p11 => [some (.vw (script.map D.int)), some (.fz (.int k_0)), some (.fz (.int v1)), some (.fz (.int size)), some (.fz (.str v2)), some (.lst ((p6.map D.str).map .fz)), some (.lst ((p11.2.2.1.map D.str).map .fz)), some (.lst ((p11.2.2.2.map D.bl).map .fz)), some (.fz (.int p11.2.1)), some (.fz (.int p11.1)), none, none, none, none]) le_auto (fun x12 p11 p11o mx hx => ?_) fun τ le => ?_)
  ·
    refine ⟨_, _, mg_name, ?_⟩
    show MS _ [some (.vw (script.map D.int)), some (.fz (.int k_0)), some (.fz (.int v1)), some (.fz (.int size)), some (.fz (.str v2)), some (.lst ((p6.map D.str).map .fz)), some (.lst ((p11.2.2.1.map D.str).map .fz)), some (.lst ((p11.2.2.2.map D.bl).map .fz)), some (.fz (.int p11.2.1)), some (.fz (.int p11.1)), some (.fz (.int (x12 : Int))), none, none, none] _ _
    replace hx := bd_some hx
    obtain ⟨v14, hv14, hx⟩ := hx
    replace hx := bd_some hx
    obtain ⟨v15, hv15, hx⟩ := hx
    refine ms_cons (m_tgt (ps_asg pe_w (pg_tup (n := 2) rfl (pgs_cons (pg_name (i := 11) nd rfl (Or.inl rfl)) (pgs_cons (pg_name (i := 12) nd rfl (Or.inl rfl)) pgs_nil)))) (me_fn c__law_atom (v14, v15) (ma_fz (me_fn c__law_mix ((v1, ((2 * k_0) + (x12 : Int))), v14) (ma_fz (me_var (pv 2) rfl) (ma_fz (me_add (me_mul me_int (me_var (pv 1) rfl) (.inl ⟨by decide, by decide⟩)) (me_var (pv 10) rfl)) ma_nil)) hv14 (hr.mono (by decide))) ma_nil) hv15 (hr.mono (by decide))) (mg_tup (mgs_cons mg_name (mgs_cons mg_name mgs_nil)) rfl) ?_)
    show MS _ [some (.vw (script.map D.int)), some (.fz (.int k_0)), some (.fz (.int v1)), some (.fz (.int size)), some (.fz (.str v2)), some (.lst ((p6.map D.str).map .fz)), some (.lst ((p11.2.2.1.map D.str).map .fz)), some (.lst ((p11.2.2.2.map D.bl).map .fz)), some (.fz (.int p11.2.1)), some (.fz (.int p11.1)), some (.fz (.int (x12 : Int))), some (.fz (.lst (v15.1.map D.str))), some (.fz (.bl v15.2)), none] _ _
    replace hx := bd_some hx
    obtain ⟨p16, hp16, hx⟩ := hx
    refine ms_cons (m_ifP (out := p16) (fun p16 => [some (.vw (script.map D.int)), some (.fz (.int k_0)), some (.fz (.int v1)), some (.fz (.int size)), some (.fz (.str v2)), some (.lst ((p6.map D.str).map .fz)), some (.lst ((p11.2.2.1.map D.str).map .fz)), some (.lst ((p11.2.2.2.map D.bl).map .fz)), some (.fz (.int p11.2.1)), some (.fz (.int p11.1)), some (.fz (.int (x12 : Int))), some (.fz (.lst (p16.1.map D.str))), some (.fz (.bl p16.2)), none]) (t := (((p11.1 % 2) == 1))) (mt_eqI (me_mod (me_var (pv 9) rfl) me_int (by decide)) me_int) (fun h => ?_) (fun h => ?_) fun τ le => ?_)
    · replace hx := cond_t hp16 h
      replace hx := bd_some hx
      obtain ⟨p17, hp17, hx⟩ := hx
      refine ms_cons (m_ifP (out := p17) (fun p17 => [some (.vw (script.map D.int)), some (.fz (.int k_0)), some (.fz (.int v1)), some (.fz (.int size)), some (.fz (.str v2)), some (.lst ((p6.map D.str).map .fz)), some (.lst ((p11.2.2.1.map D.str).map .fz)), some (.lst ((p11.2.2.2.map D.bl).map .fz)), some (.fz (.int p11.2.1)), some (.fz (.int p11.1)), some (.fz (.int (x12 : Int))), some (.fz (.lst (p17.map D.str))), some (.fz (.bl v15.2)), none]) (t := (((((v1 / 700) % 2) == 1)) && ((decide (size < 8)) && (decide ((p6.length : Int) < 5))))) (MW.t (mw_and (mt_eqI (me_mod (me_fdiv (me_var (pv 2) rfl) me_int ⟨by decide, by decide⟩) me_int (by decide)) me_int) fun _ => (mw_and (mt_lt (me_var (pv 3) rfl) me_int) fun _ => (mw_and1 (mt_lt (me_lenLT (xs := p6) (enc := D.str) (by rfl) z_len (ml_var (pv 5) rfl)) me_int))))) (fun h => ?_) (fun h => ?_) fun τ le => ?_)
      · replace hx := cond_t hp17 h
        replace hx := gd_some hx
        obtain ⟨g18, hx⟩ := hx
        replace hx := gd_some hx
        obtain ⟨g19, hx⟩ := hx
        replace hx := lt_some hx
        obtain ⟨atom_here, eatom_here, hx⟩ := hx
        refine ms_one (m_set (ps_set (i := 11) nd rfl (Or.inl rfl) pe_w) (ME.is (o' := (.fz (.lst (atom_here.map D.str)))) (ME.frzl (me_catLT (xs := ([("(" : Str)] ++ v15.1)) (ys := [(")" : Str)]) (enc := D.str) g19 (ME.v (me_catMM (xs := [("(" : Str)]) (ys := v15.1) (enc := D.str) g18 (ME.l (me_lst (ds := [("(" : Str)].map D.str) (mf_cons me_str mf_nil))) (ml_var (pv 11) rfl))) (ME.v (me_lst (ds := [(")" : Str)].map D.str) (mf_cons me_str mf_nil))))) (by rw [eatom_here] <;> rfl)) ?_)
        cases hx; exact le_auto
      · replace hx := cond_f hp17 h
        refine ms_nil ?_
        cases hx; exact le_auto
      refine ms_le le ?_
      show MS _ [some (.vw (script.map D.int)), some (.fz (.int k_0)), some (.fz (.int v1)), some (.fz (.int size)), some (.fz (.str v2)), some (.lst ((p6.map D.str).map .fz)), some (.lst ((p11.2.2.1.map D.str).map .fz)), some (.lst ((p11.2.2.2.map D.bl).map .fz)), some (.fz (.int p11.2.1)), some (.fz (.int p11.1)), some (.fz (.int (x12 : Int))), some (.fz (.lst (p17.map D.str))), some (.fz (.bl v15.2)), none] _ _
      replace hx := gd_some hx
      obtain ⟨g20, hx⟩ := hx
      replace hx := lt_some hx
      obtain ⟨atom_here_1, eatom_here_1, hx⟩ := hx
      refine ms_cons (m_set (ps_set (i := 11) nd rfl (Or.inl rfl) pe_w) (ME.is (o' := (.fz (.lst (atom_here_1.map D.str)))) (ME.frzl (me_catMM (xs := [("not" : Str)]) (ys := p17) (enc := D.str) g20 (ME.l (me_lst (ds := [("not" : Str)].map D.str) (mf_cons me_str mf_nil))) (ml_var (pv 11) rfl))) (by rw [eatom_here_1] <;> rfl)) ?_)
      show MS _ [some (.vw (script.map D.int)), some (.fz (.int k_0)), some (.fz (.int v1)), some (.fz (.int size)), some (.fz (.str v2)), some (.lst ((p6.map D.str).map .fz)), some (.lst ((p11.2.2.1.map D.str).map .fz)), some (.lst ((p11.2.2.2.map D.bl).map .fz)), some (.fz (.int p11.2.1)), some (.fz (.int p11.1)), some (.fz (.int (x12 : Int))), some (.fz (.lst (atom_here_1.map D.str))), some (.fz (.bl v15.2)), none] _ _
      replace hx := lt_some hx
      obtain ⟨due, edue, hx⟩ := hx
      refine ms_one (m_set (ps_set (i := 12) nd rfl (Or.inl rfl) pe_w) (ME.is (o' := (.fz (.bl due))) (me_not (me_var (pv 12) rfl)) (by rw [edue] <;> rfl)) ?_)
      cases hx; exact le_auto
    · replace hx := cond_f hp16 h
      refine ms_nil ?_
      cases hx; exact le_auto
    refine ms_le le ?_
    show MS _ [some (.vw (script.map D.int)), some (.fz (.int k_0)), some (.fz (.int v1)), some (.fz (.int size)), some (.fz (.str v2)), some (.lst ((p6.map D.str).map .fz)), some (.lst ((p11.2.2.1.map D.str).map .fz)), some (.lst ((p11.2.2.2.map D.bl).map .fz)), some (.fz (.int p11.2.1)), some (.fz (.int p11.1)), some (.fz (.int (x12 : Int))), some (.fz (.lst (p16.1.map D.str))), some (.fz (.bl p16.2)), none] _ _
    replace hx := lt_some hx
    obtain ⟨nots_1, enots_1, hx⟩ := hx
    refine ms_cons (m_set (ps_set (i := 9) nd rfl (Or.inl rfl) pe_w) (ME.is (o' := (.fz (.int nots_1))) (me_fdiv (me_var (pv 9) rfl) me_int ⟨by decide, by decide⟩) (by rw [enots_1] <;> rfl)) ?_)
    show MS _ [some (.vw (script.map D.int)), some (.fz (.int k_0)), some (.fz (.int v1)), some (.fz (.int size)), some (.fz (.str v2)), some (.lst ((p6.map D.str).map .fz)), some (.lst ((p11.2.2.1.map D.str).map .fz)), some (.lst ((p11.2.2.2.map D.bl).map .fz)), some (.fz (.int p11.2.1)), some (.fz (.int nots_1)), some (.fz (.int (x12 : Int))), some (.fz (.lst (p16.1.map D.str))), some (.fz (.bl p16.2)), none] _ _
    replace hx := bd_some hx
    obtain ⟨p21, hp21, hx⟩ := hx
    refine ms_cons (m_ifP (out := p21) (fun p21 => [some (.vw (script.map D.int)), some (.fz (.int k_0)), some (.fz (.int v1)), some (.fz (.int size)), some (.fz (.str v2)), some (.lst ((p6.map D.str).map .fz)), some (.lst ((p11.2.2.1.map D.str).map .fz)), some (.lst ((p11.2.2.2.map D.bl).map .fz)), some (.fz (.int p21.1)), some (.fz (.int nots_1)), some (.fz (.int (x12 : Int))), some (.fz (.lst (p21.2.map D.str))), some (.fz (.bl p16.2)), none]) (t := (((x12 : Int) == 8))) (mt_eqI (me_var (pv 10) rfl) me_int) (fun h => ?_) (fun h => ?_) fun τ le => ?_)
    · replace hx := cond_t hp21 h
      replace hx := lt_some hx
      obtain ⟨ninth, eninth, hx⟩ := hx
      refine ms_cons (m_set (ps_set (i := 8) nd rfl (Or.inl rfl) pe_w) (ME.is (o' := (.fz (.int ninth))) (me_add (me_lenLT (xs := p11.2.2.1) (enc := D.str) (by rfl) z_len (ml_var (pv 6) rfl)) me_int) (by rw [eninth] <;> rfl)) ?_)
      show MS _ [some (.vw (script.map D.int)), some (.fz (.int k_0)), some (.fz (.int v1)), some (.fz (.int size)), some (.fz (.str v2)), some (.lst ((p6.map D.str).map .fz)), some (.lst ((p11.2.2.1.map D.str).map .fz)), some (.lst ((p11.2.2.2.map D.bl).map .fz)), some (.fz (.int ninth)), some (.fz (.int nots_1)), some (.fz (.int (x12 : Int))), some (.fz (.lst (p16.1.map D.str))), some (.fz (.bl p16.2)), none] _ _
      replace hx := bd_some hx
      obtain ⟨v22, hv22, hx⟩ := hx
      refine ms_one (m_set (ps_set (i := 11) nd rfl (Or.inl rfl) pe_w) (me_ixLT (xs := [p16.1, [("not" : Str), ("always" : Str)], [("(" : Str), ("always" : Str), (")" : Str)], [("and" : Str)], [("" : Str)]]) (enc := e_L_s) hv22 (ME.l (me_lst (ds := [p16.1, [("not" : Str), ("always" : Str)], [("(" : Str), ("always" : Str), (")" : Str)], [("and" : Str)], [("" : Str)]].map e_L_s) (mf_cons (me_var (pv 11) rfl) (mf_cons (ME.frzl (me_lst (ds := [("not" : Str), ("always" : Str)].map D.str) (mf_cons me_str (mf_cons me_str mf_nil)))) (mf_cons (ME.frzl (me_lst (ds := [("(" : Str), ("always" : Str), (")" : Str)].map D.str) (mf_cons me_str (mf_cons me_str (mf_cons me_str mf_nil))))) (mf_cons (ME.frzl (me_lst (ds := [("and" : Str)].map D.str) (mf_cons me_str mf_nil))) (mf_cons (ME.frzl (me_lst (ds := [("" : Str)].map D.str) (mf_cons me_str mf_nil))) mf_nil))))))) (me_mod (me_fdiv (me_var (pv 2) rfl) me_int ⟨by decide, by decide⟩) me_int (by decide))) ?_)
      cases hx; exact le_auto
    · replace hx := cond_f hp21 h
      refine ms_nil ?_
      cases hx; exact le_auto
    refine ms_le le ?_
    show MS _ [some (.vw (script.map D.int)), some (.fz (.int k_0)), some (.fz (.int v1)), some (.fz (.int size)), some (.fz (.str v2)), some (.lst ((p6.map D.str).map .fz)), some (.lst ((p11.2.2.1.map D.str).map .fz)), some (.lst ((p11.2.2.2.map D.bl).map .fz)), some (.fz (.int p21.1)), some (.fz (.int nots_1)), some (.fz (.int (x12 : Int))), some (.fz (.lst (p21.2.map D.str))), some (.fz (.bl p16.2)), none] _ _
    replace hx := bd_some hx
    obtain ⟨p23, hp23, hx⟩ := hx
    refine ms_cons (m_ifP (out := p23) (fun p23 => [some (.vw (script.map D.int)), some (.fz (.int k_0)), some (.fz (.int v1)), some (.fz (.int size)), some (.fz (.str v2)), some (.lst ((p6.map D.str).map .fz)), some (.lst ((p23.map D.str).map .fz)), some (.lst ((p11.2.2.2.map D.bl).map .fz)), some (.fz (.int p21.1)), some (.fz (.int nots_1)), some (.fz (.int (x12 : Int))), some (.fz (.lst (p21.2.map D.str))), some (.fz (.bl p16.2)), none]) (t := (decide (0 < (x12 : Int)))) (mt_gt (me_var (pv 10) rfl) me_int) (fun h => ?_) (fun h => ?_) fun τ le => ?_)
    · replace hx := cond_t hp23 h
      replace hx := gd_some hx
      obtain ⟨g24, hx⟩ := hx
      replace hx := lt_some hx
      obtain ⟨words, ewords, hx⟩ := hx
      refine ms_one (m_appendT (i := 6) (xs := p11.2.2.1) (enc := D.str) (y := v2) g24 (pv _) rfl (me_var (pv 4) rfl) ?_)
      rw [← ewords]
      cases hx; exact le_auto
    · replace hx := cond_f hp23 h
      refine ms_nil ?_
      cases hx; exact le_auto
    refine ms_le le ?_
    show MS _ [some (.vw (script.map D.int)), some (.fz (.int k_0)), some (.fz (.int v1)), some (.fz (.int size)), some (.fz (.str v2)), some (.lst ((p6.map D.str).map .fz)), some (.lst ((p23.map D.str).map .fz)), some (.lst ((p11.2.2.2.map D.bl).map .fz)), some (.fz (.int p21.1)), some (.fz (.int nots_1)), some (.fz (.int (x12 : Int))), some (.fz (.lst (p21.2.map D.str))), some (.fz (.bl p16.2)), none] _ _
    replace hx := gd_some hx
    obtain ⟨g25, hx⟩ := hx
    replace hx := lt_some hx
    obtain ⟨words_1, ewords_1, hx⟩ := hx
    refine ms_cons (m_extendFT (xs := p23) (ys := p21.2) (enc := D.str) (MQ.toP (mq_var (pv 6) rfl)) (ml_var (pv 11) rfl) g25 ?_)
    rw [← ewords_1]
    show MS _ [some (.vw (script.map D.int)), some (.fz (.int k_0)), some (.fz (.int v1)), some (.fz (.int size)), some (.fz (.str v2)), some (.lst ((p6.map D.str).map .fz)), some (.lst ((words_1.map D.str).map .fz)), some (.lst ((p11.2.2.2.map D.bl).map .fz)), some (.fz (.int p21.1)), some (.fz (.int nots_1)), some (.fz (.int (x12 : Int))), some (.fz (.lst (p21.2.map D.str))), some (.fz (.bl p16.2)), none] _ _
    replace hx := gd_some hx
    obtain ⟨g26, hx⟩ := hx
    replace hx := lt_some hx
    obtain ⟨dues_1, edues_1, hx⟩ := hx
    refine ms_one (m_appendT (i := 7) (xs := p11.2.2.2) (enc := D.bl) (y := p16.2) g26 (pv _) rfl (me_var (pv 12) rfl) ?_)
    rw [← edues_1]
    cases hx; exact le_auto
  refine ms_le le ?_
  show MS _ [some (.vw (script.map D.int)), some (.fz (.int k_0)), some (.fz (.int v1)), some (.fz (.int size)), some (.fz (.str v2)), some (.lst ((p6.map D.str).map .fz)), some (.lst ((p13.2.2.1.map D.str).map .fz)), some (.lst ((p13.2.2.2.map D.bl).map .fz)), some (.fz (.int p13.2.1)), some (.fz (.int p13.1)), none, none, none, none] _ _
  replace hx := gd_some hx
  obtain ⟨g27, hx⟩ := hx
  replace hx := gd_some hx
  obtain ⟨g28, hx⟩ := hx
  replace hx := gd_some hx
  obtain ⟨g29, hx⟩ := hx
  replace hx := lt_some hx
  obtain ⟨text, etext, hx⟩ := hx
  refine ms_cons (m_set (ps_set (i := 13) nd rfl (Or.inl rfl) pe_w) (ME.is (o' := (.fz (.str text))) (me_joinL (ys := (p13.2.2.1 ++ (repG [(")" : Str)] (((p6.count (("(" : Str)) : Nat) : Int))))) me_str (ME.l (me_catLT (xs := p13.2.2.1) (ys := (repG [(")" : Str)] (((p6.count (("(" : Str)) : Nat) : Int)))) (enc := D.str) g28 (mv_var (pv 6) rfl) (ME.v (me_repT (xs := [(")" : Str)]) (enc := D.str) g27 (ME.v (me_lst (ds := [(")" : Str)].map D.str) (mf_cons me_str mf_nil))) (me_countL (bs := p6) (ml_var (pv 5) rfl) me_str))))) g29) (by rw [etext] <;> rfl)) ?_)
  show MS _ [some (.vw (script.map D.int)), some (.fz (.int k_0)), some (.fz (.int v1)), some (.fz (.int size)), some (.fz (.str v2)), some (.lst ((p6.map D.str).map .fz)), some (.lst ((p13.2.2.1.map D.str).map .fz)), some (.lst ((p13.2.2.2.map D.bl).map .fz)), some (.fz (.int p13.2.1)), some (.fz (.int p13.1)), none, none, none, some (.fz (.str text))] _ _
  refine ms_cons (m_if (t := (decide (8 < size))) (mt_gt (me_var (pv 3) rfl) me_int) (fun h => ?_) fun h => ms_nil ?_)
  · replace hx := cond_t hx h
    replace hx := bd_some hx
    obtain ⟨v30, hv30, hx⟩ := hx
    refine ms_one (m_ret (ps_ret pe_w) (ME.r (me_fn c__law_refused_at ((text, p13.2.1), v30) (ma_fz (me_var (pv 13) rfl) (ma_fz (me_var (pv 8) rfl) ma_nil)) hv30 (hr.mono (by decide)))) ?_)
    cases hx; rfl
  replace hx := cond_f hx h
  replace hx := bd_some hx
  obtain ⟨v31, hv31, hx⟩ := hx
  refine ms_cons (m_set (ps_set (i := 12) nd rfl (Or.inl rfl) pe_w) (me_ixD hv31 (me_tup (mf_cons (me_niLT_b (xb := p13.2.2.2) me_bl (ml_var (pv 7) rfl)) (mf_cons (me_inLT_b (xb := p13.2.2.2) me_bl (ml_var (pv 7) rfl)) mf_nil))) (me_intB (by rfl) z_int (me_eqS (me_var (pv 4) rfl) me_str))) ?_)
  show MS _ [some (.vw (script.map D.int)), some (.fz (.int k_0)), some (.fz (.int v1)), some (.fz (.int size)), some (.fz (.str v2)), some (.lst ((p6.map D.str).map .fz)), some (.lst ((p13.2.2.1.map D.str).map .fz)), some (.lst ((p13.2.2.2.map D.bl).map .fz)), some (.fz (.int p13.2.1)), some (.fz (.int p13.1)), none, none, some (.fz v31), some (.fz (.str text))] _ _
  replace hx := bd_some hx
  obtain ⟨v32, hv32, hx⟩ := hx
  replace hx := gd_some hx
  obtain ⟨g33, hx⟩ := hx
  replace hx := bd_some hx
  obtain ⟨v34, hv34, hx⟩ := hx
  refine ms_one (m_ret (ps_ret pe_w) (ME.r (me_fn c__law_truth ((v32, ((D.eqv v31 (.bl (((((p6.count ("not" : Str) : Nat) : Int) % 2) == 0)))))), v34) (ma_fz (me_fn c__law_holds (text, v32) (ma_fz (me_var (pv 13) rfl) ma_nil) hv32 (hr.mono (by decide))) (ma_fz (me_eqDT (d1 := v31) (d2 := (.bl (((((p6.count ("not" : Str) : Nat) : Int) % 2) == 0)))) hr.units g33 rfl rfl (ME.v (me_var (pv 12) rfl)) (ME.v (me_eqI (me_mod (me_countL (bs := p6) (ml_var (pv 5) rfl) me_str) me_int (by decide)) me_int))) ma_nil)) hv34 (hr.mono (by decide)))) ?_)
  cases hx; rfl

noncomputable def M__law_long (script : (List Int)) (k_0 : Int) : Option Bool :=
  bd (M__law_cell script k_0) fun v1 =>
  lt (1 + (v1 % 40)) fun size =>
  gd (0 < (size + 1)) <|
  lt ((v1 / 40) % (size + 1)) fun odd =>
  lt ([] : List Str) fun words =>
  gd ((-(2 ^ 63) ≤ ((size + 7) / 8) ∧ ((size + 7) / 8) < 2 ^ 63) ∧ [false].length * ((size + 7) / 8).toNat ≤ sizeLine) <|
  lt (repG [false] ((size + 7) / 8)) fun rows =>
  gd (-(2 ^ 62) ≤ size ∧ size < 2 ^ 62) <|
  bd (lp (fun (x6 : Nat) (p5 : (List Str)) => (bd (cond (decide (0 < (x6 : Int))) (bd (L2.atI [("and" : Str), ("or" : Str)] (if ((((x6 : Int) % 8) == 0)) then 1 else 0)) fun v9 =>
      gd (p5.length < sizeLine) <|
      lt (p5 ++ [v9]) fun words_1 =>
      some words_1) (some p5) : Option ((List Str))) fun p8 =>
    bd (cond (((x6 : Int) == odd)) (gd (p8.length < sizeLine) <|
      lt (p8 ++ [("not" : Str)]) fun words_2 =>
      some words_2) (some p8) : Option ((List Str))) fun p11 =>
    gd (p11.length < sizeLine) <|
    lt (p11 ++ [("always" : Str)]) fun words_3 =>
    some words_3 : Option ((List Str)))) (List.range size.toNat) words) fun p7 =>
  gd (-(2 ^ 62) ≤ (rows.length : Int) ∧ (rows.length : Int) < 2 ^ 62) <|
  bd (lp (fun (x16 : Nat) (p15 : (List Bool)) => (bd (ixN p15.length (x16 : Int)) fun j18 =>
    lt (p15.set j18 (((odd == size)) || (!((odd / 8) == (x16 : Int))))) fun rows_1 =>
    some rows_1 : Option ((List Bool)))) (List.range (rows.length : Int).toNat) rows) fun p17 =>
  cond ((((v1 / 1640) % 3) == 1)) (bd (M__law_mix v1 k_0) fun v19 =>
    gd (0 < (p7.length : Int)) <|
    lt (v19 % (p7.length : Int)) fun at_0 =>
    bd (ixN p7.length at_0) fun j21 =>
    lt (p7.set j21 ("Always" : Str)) fun words_4 =>
    gd ((words_4.map (·.length)).sum + words_4.length * (" " : Str).length ≤ 16777216) <|
    bd (L2.atI [at_0, 60] (if (decide (60 < (words_4.length : Int))) then 1 else 0)) fun v23 =>
    bd (M__law_refused_at (Txt.join (" " : Str) words_4) v23) fun v24 =>
    some v24) <|
  cond (decide (60 < (p7.length : Int))) (gd ((p7.map (·.length)).sum + p7.length * (" " : Str).length ≤ 16777216) <|
    bd (M__law_refused_at (Txt.join (" " : Str) p7) (60 : Int)) fun v26 =>
    some v26) <|
  gd ((p7.map (·.length)).sum + p7.length * (" " : Str).length ≤ 16777216) <|
  bd (M__law_holds (Txt.join (" " : Str) p7)) fun v28 =>
  bd (M__law_truth v28 ((p17.contains true))) fun v29 =>
  some v29
def sp__law_long (K : PySem.W.Frag) : Sp := SpF K (fun x : (List Int) × Int => [.vw (x.1.map D.int), .fz (.int x.2)]) (fun x => M__law_long x.1 x.2) (fun r => .fz (.bl r))
abbrev N__law_long : List Str := ["_law_script", "_law_k", "_law_cell_here", "_law_size", "_law_odd", "_law_words", "_law_rows", "_law_j", "_law_at"]
theorem sc__law_long : FnScope N__law_long ["_law_script", "_law_k"] (defScope s__law_long) := ⟨rfl, rfl, rfl, by decide +kernel, rfl, by decide +kernel, by decide +kernel⟩
theorem ok__law_long {f : Addr} {fd : FuncData} (F : Fun K "_law_long" "_law_long" s__law_long f fd) (z_range : mg "range" = none) (z_int : mg "int" = none) (z_len : mg "len" = none) (c__law_cell : Fn1 P w K mg base "_law_cell" 1 ["_law_script", "_law_k"] (sp__law_cell K)) (c__law_mix : Fn1 P w K mg base "_law_mix" 1 ["_law_number", "_law_k"] (sp__law_mix K)) (c__law_refused_at : Fn1 P w K mg base "_law_refused_at" 71 ["_law_thing", "_law_due"] (sp__law_refused_at K)) (c__law_holds : Fn1 P w K mg base "_law_holds" 70 ["_law_text"] (sp__law_holds K)) (c__law_truth : Fn1 P w K mg base "_law_truth" 1 ["_law_found", "_law_due"] (sp__law_truth K)) : FnOk P w K mg base CX0 72 f fd ["_law_script", "_law_k"] (sp__law_long K) := by
  refine fn_m F sc__law_long (fun x => rfl) (fun x _ => rfl) fun cdv A outer s H E hr x hx => ?_
  obtain ⟨⟨script, k_0⟩, r⟩ := x
  replace hx : M__law_long script k_0 = some r := hx
  have nd := sc__law_long.nd
  unfold M__law_long at hx
  show MS _ [some (.vw (script.map D.int)), some (.fz (.int k_0)), none, none, none, none, none, none, none] _ _
  replace hx := bd_some hx
  obtain ⟨v1, hv1, hx⟩ := hx
  refine ms_cons (m_set (ps_set (i := 2) nd rfl (Or.inl rfl) pe_w) (me_fn c__law_cell ((script, k_0), v1) (ma_vw (ml_var (pv 0) rfl) (ma_fz (me_var (pv 1) rfl) ma_nil)) hv1 (hr.mono (by decide))) ?_)
  show MS _ [some (.vw (script.map D.int)), some (.fz (.int k_0)), some (.fz (.int v1)), none, none, none, none, none, none] _ _
  replace hx := lt_some hx
  obtain ⟨size, esize, hx⟩ := hx
  refine ms_cons (m_set (ps_set (i := 3) nd rfl (Or.inl rfl) pe_w) (ME.is (o' := (.fz (.int size))) (me_add me_int (me_mod (me_var (pv 2) rfl) me_int (by decide))) (by rw [esize] <;> rfl)) ?_)
  show MS _ [some (.vw (script.map D.int)), some (.fz (.int k_0)), some (.fz (.int v1)), some (.fz (.int size)), none, none, none, none, none] _ _
  replace hx := gd_some hx
  obtain ⟨g2, hx⟩ := hx
  replace hx := lt_some hx
  obtain ⟨odd, eodd, hx⟩ := hx
  refine ms_cons (m_set (ps_set (i := 4) nd rfl (Or.inl rfl) pe_w) (ME.is (o' := (.fz (.int odd))) (me_mod (me_fdiv (me_var (pv 2) rfl) me_int ⟨by decide, by decide⟩) (me_add (me_var (pv 3) rfl) me_int) g2) (by rw [eodd] <;> rfl)) ?_)
  show MS _ [some (.vw (script.map D.int)), some (.fz (.int k_0)), some (.fz (.int v1)), some (.fz (.int size)), some (.fz (.int odd)), none, none, none, none] _ _
  replace hx := lt_some hx
  obtain ⟨words, ewords, hx⟩ := hx
  refine ms_cons (m_set (ps_set (i := 5) nd rfl (Or.inl rfl) pe_w) (ME.is (o' := (.lst ((words.map D.str).map .fz))) (me_lst (ds := [].map D.str) mf_nil) (by rw [ewords] <;> rfl)) ?_)
  show MS _ [some (.vw (script.map D.int)), some (.fz (.int k_0)), some (.fz (.int v1)), some (.fz (.int size)), some (.fz (.int odd)), some (.lst ((words.map D.str).map .fz)), none, none, none] _ _
  replace hx := gd_some hx
  obtain ⟨g3, hx⟩ := hx
  replace hx := lt_some hx
  obtain ⟨rows, erows, hx⟩ := hx
  refine ms_cons (m_set (ps_set (i := 6) nd rfl (Or.inl rfl) pe_w) (ME.is (o' := (.lst ((rows.map D.bl).map .fz))) (me_repT (xs := [false]) (enc := D.bl) g3 (ME.v (me_lst (ds := [false].map D.bl) (mf_cons me_bl mf_nil))) (me_fdiv (me_add (me_var (pv 3) rfl) me_int) me_int ⟨by decide, by decide⟩)) (by rw [erows] <;> rfl)) ?_)
  show MS _ [some (.vw (script.map D.int)), some (.fz (.int k_0)), some (.fz (.int v1)), some (.fz (.int size)), some (.fz (.int odd)), some (.lst ((words.map D.str).map .fz)), some (.lst ((rows.map D.bl).map .fz)), none, none] _ _
  replace hx := gd_some hx
  obtain ⟨g4, hx⟩ := hx
  replace hx := bd_some hx
  obtain ⟨p7, hp7, hx⟩ := hx
  refine ms_cons (m_forP (xs := (List.range size.toNat)) (enc := (fun k : Nat => D.int (k : Nat))) (ps_for PassesOwn.never rfl (pi_range1 (by rfl) z_range pa_w) (pg_name (i := 7) nd rfl (Or.inl rfl)) pss_w) (by exact (mi_rangeT (mf_cons (me_var (pv 3) rfl) mf_nil) g4)) hp7 (fun p5 => [some (.vw (script.map D.int)), some (.fz (.int k_0)), some (.fz (.int v1)), some (.fz (.int size)), some (.fz (.int odd)), some (.lst ((p5.map D.str).map .fz)), some (.lst ((rows.map D.bl).map .fz)), none, none]) le_auto (fun x6 p5 p5o mx hx => ?_) fun τ le => ?_)
  ·
    refine ⟨_, _, mg_name, ?_⟩
    show MS _ [some (.vw (script.map D.int)), some (.fz (.int k_0)), some (.fz (.int v1)), some (.fz (.int size)), some (.fz (.int odd)), some (.lst ((p5.map D.str).map .fz)), some (.lst ((rows.map D.bl).map .fz)), some (.fz (.int (x6 : Int))), none] _ _
    replace hx := bd_some hx
    obtain ⟨p8, hp8, hx⟩ := hx
    refine ms_cons (m_ifP (out := p8) (fun p8 => [some (.vw (script.map D.int)), some (.fz (.int k_0)), some (.fz (.int v1)), some (.fz (.int size)), some (.fz (.int odd)), some (.lst ((p8.map D.str).map .fz)), some (.lst ((rows.map D.bl).map .fz)), some (.fz (.int (x6 : Int))), none]) (t := (decide (0 < (x6 : Int)))) (mt_gt (me_var (pv 7) rfl) me_int) (fun h => ?_) (fun h => ?_) fun τ le => ?_)
    · replace hx := cond_t hp8 h
      replace hx := bd_some hx
      obtain ⟨v9, hv9, hx⟩ := hx
      replace hx := gd_some hx
      obtain ⟨g10, hx⟩ := hx
      replace hx := lt_some hx
      obtain ⟨words_1, ewords_1, hx⟩ := hx
      refine ms_one (m_appendT (i := 5) (xs := p5) (enc := D.str) (y := v9) g10 (pv _) rfl (me_ixLT (xs := [("and" : Str), ("or" : Str)]) (enc := D.str) hv9 (ME.l (me_lst (ds := [("and" : Str), ("or" : Str)].map D.str) (mf_cons me_str (mf_cons me_str mf_nil)))) (me_intB (by rfl) z_int (me_eqI (me_mod (me_var (pv 7) rfl) me_int (by decide)) me_int))) ?_)
      rw [← ewords_1]
      cases hx; exact le_auto
    · replace hx := cond_f hp8 h
      refine ms_nil ?_
      cases hx; exact le_auto
    refine ms_le le ?_
    show MS _ [some (.vw (script.map D.int)), some (.fz (.int k_0)), some (.fz (.int v1)), some (.fz (.int size)), some (.fz (.int odd)), some (.lst ((p8.map D.str).map .fz)), some (.lst ((rows.map D.bl).map .fz)), some (.fz (.int (x6 : Int))), none] _ _
    replace hx := bd_some hx
    obtain ⟨p11, hp11, hx⟩ := hx
    refine ms_cons (m_ifP (out := p11) (fun p11 => [some (.vw (script.map D.int)), some (.fz (.int k_0)), some (.fz (.int v1)), some (.fz (.int size)), some (.fz (.int odd)), some (.lst ((p11.map D.str).map .fz)), some (.lst ((rows.map D.bl).map .fz)), some (.fz (.int (x6 : Int))), none]) (t := (((x6 : Int) == odd))) (mt_eqI (me_var (pv 7) rfl) (me_var (pv 4) rfl)) (fun h => ?_) (fun h => ?_) fun τ le => ?_)
    · replace hx := cond_t hp11 h
      replace hx := gd_some hx
      obtain ⟨g12, hx⟩ := hx
      replace hx := lt_some hx
      obtain ⟨words_2, ewords_2, hx⟩ := hx
      refine ms_one (m_appendT (i := 5) (xs := p8) (enc := D.str) (y := ("not" : Str)) g12 (pv _) rfl me_str ?_)
      rw [← ewords_2]
      cases hx; exact le_auto
    · replace hx := cond_f hp11 h
      refine ms_nil ?_
      cases hx; exact le_auto
    refine ms_le le ?_
    show MS _ [some (.vw (script.map D.int)), some (.fz (.int k_0)), some (.fz (.int v1)), some (.fz (.int size)), some (.fz (.int odd)), some (.lst ((p11.map D.str).map .fz)), some (.lst ((rows.map D.bl).map .fz)), some (.fz (.int (x6 : Int))), none] _ _
    replace hx := gd_some hx
    obtain ⟨g13, hx⟩ := hx
    replace hx := lt_some hx
    obtain ⟨words_3, ewords_3, hx⟩ := hx
    refine ms_one (m_appendT (i := 5) (xs := p11) (enc := D.str) (y := ("always" : Str)) g13 (pv _) rfl me_str ?_)
    rw [← ewords_3]
    cases hx; exact le_auto
  refine ms_le le ?_
  show MS _ [some (.vw (script.map D.int)), some (.fz (.int k_0)), some (.fz (.int v1)), some (.fz (.int size)), some (.fz (.int odd)), some (.lst ((p7.map D.str).map .fz)), some (.lst ((rows.map D.bl).map .fz)), none, none] _ _
  replace hx := gd_some hx
  obtain ⟨g14, hx⟩ := hx
  replace hx := bd_some hx
  obtain ⟨p17, hp17, hx⟩ := hx
  refine ms_cons (m_forP (xs := (List.range (rows.length : Int).toNat)) (enc := (fun k : Nat => D.int (k : Nat))) (ps_for PassesOwn.never rfl (pi_range1 (by rfl) z_range pa_w) (pg_name (i := 7) nd rfl (Or.inl rfl)) pss_w) (by exact (mi_rangeT (mf_cons (me_lenLT (xs := rows) (enc := D.bl) (by rfl) z_len (ml_var (pv 6) rfl)) mf_nil) g14)) hp17 (fun p15 => [some (.vw (script.map D.int)), some (.fz (.int k_0)), some (.fz (.int v1)), some (.fz (.int size)), some (.fz (.int odd)), some (.lst ((p7.map D.str).map .fz)), some (.lst ((p15.map D.bl).map .fz)), none, none]) le_auto (fun x16 p15 p15o mx hx => ?_) fun τ le => ?_)
  ·
    refine ⟨_, _, mg_name, ?_⟩
    show MS _ [some (.vw (script.map D.int)), some (.fz (.int k_0)), some (.fz (.int v1)), some (.fz (.int size)), some (.fz (.int odd)), some (.lst ((p7.map D.str).map .fz)), some (.lst ((p15.map D.bl).map .fz)), some (.fz (.int (x16 : Int))), none] _ _
    replace hx := bd_some hx
    obtain ⟨j18, hj18, hx⟩ := hx
    replace hx := lt_some hx
    obtain ⟨rows_1, erows_1, hx⟩ := hx
    refine ms_one (m_setItemT (i := 6) (xs := p15) (enc := D.bl) (y := (((odd == size)) || (!((odd / 8) == (x16 : Int))))) hj18 (pv _) rfl (me_var (pv 7) rfl) (me_or (me_eqI (me_var (pv 4) rfl) (me_var (pv 3) rfl)) fun _ => (me_one (me_neI (me_fdiv (me_var (pv 4) rfl) me_int ⟨by decide, by decide⟩) (me_var (pv 7) rfl)))) ?_)
    rw [← erows_1]
    cases hx; exact le_auto
  refine ms_le le ?_
  show MS _ [some (.vw (script.map D.int)), some (.fz (.int k_0)), some (.fz (.int v1)), some (.fz (.int size)), some (.fz (.int odd)), some (.lst ((p7.map D.str).map .fz)), some (.lst ((p17.map D.bl).map .fz)), none, none] _ _
  refine ms_cons (m_if (t := ((((v1 / 1640) % 3) == 1))) (mt_eqI (me_mod (me_fdiv (me_var (pv 2) rfl) me_int ⟨by decide, by decide⟩) me_int (by decide)) me_int) (fun h => ?_) fun h => ms_nil ?_)
  · replace hx := cond_t hx h
    replace hx := bd_some hx
    obtain ⟨v19, hv19, hx⟩ := hx
    replace hx := gd_some hx
    obtain ⟨g20, hx⟩ := hx
    replace hx := lt_some hx
    obtain ⟨at_0, eat_0, hx⟩ := hx
    refine ms_cons (m_set (ps_set (i := 8) nd rfl (Or.inl rfl) pe_w) (ME.is (o' := (.fz (.int at_0))) (me_mod (me_fn c__law_mix ((v1, k_0), v19) (ma_fz (me_var (pv 2) rfl) (ma_fz (me_var (pv 1) rfl) ma_nil)) hv19 (hr.mono (by decide))) (me_lenLT (xs := p7) (enc := D.str) (by rfl) z_len (ml_var (pv 5) rfl)) g20) (by rw [eat_0] <;> rfl)) ?_)
    show MS _ [some (.vw (script.map D.int)), some (.fz (.int k_0)), some (.fz (.int v1)), some (.fz (.int size)), some (.fz (.int odd)), some (.lst ((p7.map D.str).map .fz)), some (.lst ((p17.map D.bl).map .fz)), none, some (.fz (.int at_0))] _ _
    replace hx := bd_some hx
    obtain ⟨j21, hj21, hx⟩ := hx
    replace hx := lt_some hx
    obtain ⟨words_4, ewords_4, hx⟩ := hx
    refine ms_cons (m_setItemT (i := 5) (xs := p7) (enc := D.str) (y := ("Always" : Str)) hj21 (pv _) rfl (me_var (pv 8) rfl) me_str ?_)
    rw [← ewords_4]
    show MS _ [some (.vw (script.map D.int)), some (.fz (.int k_0)), some (.fz (.int v1)), some (.fz (.int size)), some (.fz (.int odd)), some (.lst ((words_4.map D.str).map .fz)), some (.lst ((p17.map D.bl).map .fz)), none, some (.fz (.int at_0))] _ _
    replace hx := gd_some hx
    obtain ⟨g22, hx⟩ := hx
    replace hx := bd_some hx
    obtain ⟨v23, hv23, hx⟩ := hx
    replace hx := bd_some hx
    obtain ⟨v24, hv24, hx⟩ := hx
    refine ms_one (m_ret (ps_ret pe_w) (ME.r (me_fn c__law_refused_at (((Txt.join (" " : Str) words_4), v23), v24) (ma_fz (me_joinL (ys := words_4) me_str (ml_var (pv 5) rfl) g22) (ma_fz (me_ixLT (xs := [at_0, 60]) (enc := D.int) hv23 (ME.l (me_lst (ds := [at_0, 60].map D.int) (mf_cons (me_var (pv 8) rfl) (mf_cons me_int mf_nil)))) (me_intB (by rfl) z_int (me_gt (me_lenLT (xs := words_4) (enc := D.str) (by rfl) z_len (ml_var (pv 5) rfl)) me_int))) ma_nil)) hv24 (hr.mono (by decide)))) ?_)
    cases hx; rfl
  replace hx := cond_f hx h
  refine ms_cons (m_if (t := (decide (60 < (p7.length : Int)))) (mt_gt (me_lenLT (xs := p7) (enc := D.str) (by rfl) z_len (ml_var (pv 5) rfl)) me_int) (fun h => ?_) fun h => ms_nil ?_)
  · replace hx := cond_t hx h
    replace hx := gd_some hx
    obtain ⟨g25, hx⟩ := hx
    replace hx := bd_some hx
    obtain ⟨v26, hv26, hx⟩ := hx
    refine ms_one (m_ret (ps_ret pe_w) (ME.r (me_fn c__law_refused_at (((Txt.join (" " : Str) p7), 60), v26) (ma_fz (me_joinL (ys := p7) me_str (ml_var (pv 5) rfl) g25) (ma_fz me_int ma_nil)) hv26 (hr.mono (by decide)))) ?_)
    cases hx; rfl
  replace hx := cond_f hx h
  replace hx := gd_some hx
  obtain ⟨g27, hx⟩ := hx
  replace hx := bd_some hx
  obtain ⟨v28, hv28, hx⟩ := hx
  replace hx := bd_some hx
  obtain ⟨v29, hv29, hx⟩ := hx
  refine ms_one (m_ret (ps_ret pe_w) (ME.r (me_fn c__law_truth ((v28, ((p17.contains true))), v29) (ma_fz (me_fn c__law_holds ((Txt.join (" " : Str) p7), v28) (ma_fz (me_joinL (ys := p7) me_str (ml_var (pv 5) rfl) g27) ma_nil) hv28 (hr.mono (by decide))) (ma_fz (me_inLT_b (xb := p17) me_bl (ml_var (pv 6) rfl)) ma_nil)) hv29 (hr.mono (by decide)))) ?_)
  cases hx; rfl
noncomputable def M_law (script : (List Int)) : Option Bool :=
  bd (lpO (fun (x2 : Nat) (p1 : Unit) => (bd (M__law_nested script (6 * (x2 : Int))) fun v4 =>
    bd (cond (!v4) (some true) (bd (M__law_row script ((6 * (x2 : Int)) + 2)) fun v5 => bd (cond (!v5) (some true) (bd (M__law_long script ((6 * (x2 : Int)) + 4)) fun v6 => some (!v6))) fun v7 => some v7)) fun v9 =>
    cond v9 (some (.rt false)) <|
    some (.nx ()) : Option (Ou (Unit) (Unit) Bool))) (List.range (10 : Int).toNat) ()) fun o3 => ouR o3 fun p1 =>
  some true
abbrev N_NoWords___init__ : List Str := ["self", "at"]
theorem sc_NoWords___init__ : FnScope N_NoWords___init__ ["self", "at"] (defScope s_NoWords___init__) := ⟨rfl, rfl, rfl, by decide +kernel, rfl, by decide +kernel, by decide +kernel⟩
theorem ok_NoWords___init__ {f : Addr} {fd : FuncData} (F : Fun K "__init__" "NoWords.__init__" s_NoWords___init__ f fd) (e_CoverError : mg "CoverError" = some (.ref C_CoverError)) (q_rd_CoverError : PySem.W.readsIn K C_CoverError (.type "type") = true) (q_ga_CoverError : PySem.W.specialIn K (.ref C_CoverError) "__getattribute__" = some (some (.builtin "type.__getattribute__"))) (q_vi_CoverError : PySem.W.findCls K (.ref C_CoverError) (.type "type") "__init__" = some (.val (.builtin "ValueError.__init__"))) (q_xo_NoWords : PySem.W.excInitIn K C_NoWords [.type "ValueError", .type "Exception", .type "BaseException", .type "object"] "ValueError.__new__" = true) (q_hd_NoWords : PySem.W.hasDictIn K C_NoWords = true) (q_sa_NoWords : PySem.W.findIn K (.ref C_NoWords) "__setattr__" = some (some (.builtin "object.__setattr__"))) (q_xb_NoWords : PySem.W.subIn K (.ref C_NoWords) (.type "BaseException") = some true) (q_xt_NoWords : PySem.W.typeIn K (.ref C_NoWords) = some (.type "type")) (q_xk_NoWords : PySem.W.keepIn K (.ref C_NoWords) = true) (q_nf_NoWords : PySem.W.findIn K (.ref C_NoWords) "at" = some none) : FnOk P w K mg base CX0 1 f fd ["self", "at"] (spI19 K "at") := by
  refine F.ok sc_NoWords___init__ (fun vs H Q E h => by obtain ⟨a, C, i, rfl, _⟩ := h; rfl) fun cdv A outer s H vs Q E hr h => ?_
  obtain ⟨a, C, i, rfl, T, hno, ha, q⟩ := h
  refine ⟨_, pss_cons (ps_expr (pe_cinit rfl e_CoverError ⟨q_rd_CoverError, q_ga_CoverError⟩ q_vi_CoverError (pa_cons (pv 0) (pa_cons pe_str pa_nil)))) (pss_one (ps_ost (pv 0) (pv 1))), ?_⟩
  refine ⟨_, rfl, a, C, _, rfl, (by show 1 ≤ 1000; decide), T, ha, ?_⟩
  exact ⟨_, rfl, _, rfl, a, C, rfl, T, hno, .inl ⟨ha, fun dx h1 h2 => q dx h1 h2⟩⟩
open SX TL
def Sm (x : Str) (n : Nat) : Prop := x.length ≤ n ∧ x.cps.toList.all (· < 128) = true
theorem Sm.mono {x : Str} {n m : Nat} (h : Sm x n) (l : n ≤ m) : Sm x m := ⟨Nat.le_trans h.1 l, h.2⟩
theorem sm_S {a : List Nat} {n : Nat} (l : a.length ≤ n) (h : a.all (· < 128) = true) : Sm (S a) n := ⟨by rw [S_len]; exact l, h⟩
theorem Sm.lay {x : Str} {n : Nat} (h : Sm x n) : (PyData.str x).canLay0 = true := by
  show x.cps.all (· < 0x110000) = true
  rw [← Array.all_toList]
  exact List.all_eq_true.mpr fun c m => by
    have := List.all_eq_true.mp h.2 c m
    simp at this ⊢
    omega
theorem Sm.smp {x : Str} {n k : Nat} (h : Sm x n) : Smp k (.str x) := .str h.lay
theorem join_is (p : Str) (ys : List Str) : Txt.join p ys = S (TL.joinL p.cps.toList (ys.map fun y => y.cps.toList)) := by
  have q := join_S p.cps.toList (ys.map fun y => y.cps.toList)
  rw [List.map_map] at q
  have e : (S ∘ fun y : Str => y.cps.toList) = id := funext fun y => S_tl y
  rw [e, List.map_id, S_tl] at q
  exact q
theorem joinL_len (p : List Nat) (n : Nat) : ∀ {ys : List (List Nat)}, (∀ y ∈ ys, y.length ≤ n) → (TL.joinL p ys).length ≤ ys.length * (n + p.length)
  | [], _ => Nat.zero_le _
  | [x], h => by
    have := h x List.mem_cons_self
    show x.length ≤ 1 * _
    omega
  | x :: y :: r, h => by
    have q := joinL_len p n (ys := y :: r) fun z m => h z (List.mem_cons_of_mem _ m)
    have hx := h x List.mem_cons_self
    show (x ++ (p ++ TL.joinL p (y :: r))).length ≤ _
    rw [List.length_append, List.length_append, List.length_cons (a := x), Nat.add_mul]
    omega
theorem joinL_all (p : List Nat) (f : Nat → Bool) (hp : p.all f = true) : ∀ {ys : List (List Nat)}, (∀ y ∈ ys, y.all f = true) → (TL.joinL p ys).all f = true
  | [], _ => rfl
  | [x], h => h x List.mem_cons_self
  | x :: y :: r, h => by
    have q := joinL_all p f hp (ys := y :: r) fun z m => h z (List.mem_cons_of_mem _ m)
    show (x ++ (p ++ TL.joinL p (y :: r))).all f = true
    rw [List.all_append, List.all_append, q, hp, h x List.mem_cons_self]
    rfl
theorem sm_join {p : Str} {n m : Nat} (hp : Sm p m) {ys : List Str} (h : ∀ y ∈ ys, Sm y n) : Sm (Txt.join p ys) (ys.length * (n + m)) := by
  rw [join_is]
  have lp := hp.1
  rw [TL.len_tl] at lp
  have lp : p.cps.toList.length ≤ m := lp
  refine sm_S ?_ (joinL_all _ _ hp.2 fun y my => ?_)
  · refine Nat.le_trans (joinL_len _ n fun y my => ?_) ?_
    · obtain ⟨z, hz, rfl⟩ := List.mem_map.mp my
      have := (h z hz).1
      rw [TL.len_tl] at this
      exact this
    · rw [List.length_map]
      exact Nat.mul_le_mul_left _ (by omega)
  · obtain ⟨z, hz, rfl⟩ := List.mem_map.mp my
    exact (h z hz).2
theorem join_len {ys : List Str} {n : Nat} (h : ∀ y ∈ ys, Sm y n) : (ys.map (·.length)).sum ≤ ys.length * n := by
  induction ys with
  | nil => exact Nat.zero_le _
  | cons y r ih =>
    rw [List.map_cons, List.sum_cons, List.length_cons, Nat.add_mul]
    have := (h y List.mem_cons_self).1
    have := ih fun z m => h z (List.mem_cons_of_mem _ m)
    omega
abbrev ABC : Str := "abcdefghijklmnopqrstuvwxyz"
def Lc (x : Str) (n : Nat) : Prop := x.length ≤ n ∧ x.cps.toList.all (fun c => 97 ≤ c && c ≤ 122) = true
theorem Lc.sm {x : Str} {n : Nat} (h : Lc x n) : Sm x n := ⟨h.1, List.all_eq_true.mpr fun c m => by
  have := List.all_eq_true.mp h.2 c m
  simp at this ⊢
  omega⟩
theorem Lc.mono {x : Str} {n m : Nat} (h : Lc x n) (l : n ≤ m) : Lc x m := ⟨Nat.le_trans h.1 l, h.2⟩
theorem strI_n (n : Nat) : strI (n : Int) = S (numL n) := num_S n
theorem dot_S : ((".") : Str) = S [46] := by decide +kernel
theorem numL_short {n k : Nat} (hk : 0 < k) (h : n < 10 ^ k) : (S (numL n)).length ≤ k := by rw [S_len]; exact numL_len hk h
def amtL (n : Nat) : List Nat := numL (n / 100) ++ ([46] ++ [48 + n / 10 % 10, 48 + n % 10])
def amtS (n : Nat) : Str := S (amtL n)

theorem eqv_b (a b : Bool) : D.eqv (.bl a) (.bl b) = (a == b) := by
  cases a <;> cases b <;> rfl
theorem eqv_s (a b : Str) : D.eqv (.str a) (.str b) = (a == b) := by
  first | rfl | (show PyData.eqv (.str a) (.str b) = _; simp [PyData.eqv]) 
theorem eqv_l (ds es : List D) : D.eqv (.lst ds) (.lst es) = PyData.eqvAll (D.pyL ds) (D.pyL es) := rfl
theorem eqv_map {α : Type} [BEq α] [LawfulBEq α] {enc : α → D} (h : ∀ a b, D.eqv (enc a) (enc b) = (a == b)) : ∀ xs ys : List α, D.eqv (.lst (xs.map enc)) (.lst (ys.map enc)) = (xs == ys)
  | [], [] => rfl
  | [], _ :: _ => rfl
  | _ :: _, [] => rfl
  | x :: xs, y :: ys => by
    have i := eqv_map h xs ys
    rw [eqv_l] at i ⊢
    show (PyData.eqv (enc x).py (enc y).py && PyData.eqvAll (D.pyL (xs.map enc)) (D.pyL (ys.map enc))) = _
    rw [i]
    have := h x y
    unfold D.eqv at this
    rw [this]
    rfl
theorem ixNn {n j : Nat} (hj : j < n) : ixN n (j : Int) = some j := by
  unfold ixN
  rw [if_pos (by omega), if_pos (by omega)]
  rfl
open SX TL
abbrev LOSS := Int × Int × Str × Str × Str × Int
mutual
def tr : Cd → D
  | .plain _ => .tup [.str "always"]
  | .cause x => .tup [.str "cause", .str x]
  | .thing x => .tup [.str "thing", .str x]
  | .days p => .tup [.str "days", .int p.1, .int p.2]
  | .over c => .tup [.str "over", .int c]
  | .notOf c => .tup [.str "not", tr c]
  | .allOf cs => .tup [.str "all", .lst (trL cs)]
  | .someOf cs => .tup [.str "some", .lst (trL cs)]
def trL : List Cd → List D
  | [] => []
  | c :: r => tr c :: trL r
end
theorem trL_map : ∀ cs : List Cd, trL cs = cs.map tr
  | [] => rfl
  | c :: r => congrArg (tr c :: ·) (trL_map r)
mutual
def hol (l : LOSS) : Cd → Bool
  | .plain _ => true
  | .cause x => l.2.2.2.2.1 == x
  | .thing x => l.2.2.2.1 == x
  | .days p => decide (p.1 ≤ l.2.1) && decide (l.2.1 ≤ p.2)
  | .over c => decide (c < l.2.2.2.2.2)
  | .notOf c => !(hol l c)
  | .allOf cs => holA l cs
  | .someOf cs => holS l cs
def holA (l : LOSS) : List Cd → Bool
  | [] => true
  | c :: r => hol l c && holA l r
def holS (l : LOSS) : List Cd → Bool
  | [] => false
  | c :: r => hol l c || holS l r
end
theorem holA_all (l : LOSS) : ∀ cs : List Cd, holA l cs = cs.all (hol l)
  | [] => rfl
  | c :: r => congrArg (hol l c && ·) (holA_all l r)
theorem holS_any (l : LOSS) : ∀ cs : List Cd, holS l cs = cs.any (hol l)
  | [] => rfl
  | c :: r => congrArg (hol l c || ·) (holS_any l r)
def kd : Cd → Str
  | .plain _ => "always"
  | .cause _ => "cause"
  | .thing _ => "thing"
  | .days _ => "days"
  | .over _ => "over"
  | .notOf _ => "not"
  | .allOf _ => "all"
  | .someOf _ => "some"
def rk : Cd → Int
  | .allOf _ => 2
  | .someOf _ => 1
  | _ => 3
def isAtom : Cd → Bool
  | .notOf _ => false
  | .allOf _ => false
  | .someOf _ => false
  | _ => true
theorem sm_lit {x : Str} (h : (decide (x.length ≤ 8) && x.cps.toList.all (· < 128)) = true) : Sm x 8 := by
  rw [Bool.and_eq_true] at h
  exact ⟨of_decide_eq_true h.1, h.2⟩
theorem kd_sm (c : Cd) : Sm (kd c) 8 := by
  cases c with
  | plain p => exact sm_lit (x := "always") (by decide +kernel)
  | cause p => exact sm_lit (x := "cause") (by decide +kernel)
  | thing p => exact sm_lit (x := "thing") (by decide +kernel)
  | days p => exact sm_lit (x := "days") (by decide +kernel)
  | over p => exact sm_lit (x := "over") (by decide +kernel)
  | notOf p => exact sm_lit (x := "not") (by decide +kernel)
  | allOf p => exact sm_lit (x := "all") (by decide +kernel)
  | someOf p => exact sm_lit (x := "some") (by decide +kernel)
/-- of a bounded depth, with small names -/
inductive Mk : Nat → Cd → Prop where
  | plain {n : Nat} (u : Unit) : Mk n (.plain u)
  | cause {n : Nat} {x : Str} (h : Sm x 17) : Mk n (.cause x)
  | thing {n : Nat} {x : Str} (h : Sm x 17) : Mk n (.thing x)
  | days {n : Nat} (p : Int × Int) : Mk n (.days p)
  | over {n : Nat} (c : Int) : Mk n (.over c)
  | notOf {n : Nat} {c : Cd} (h : Mk n c) : Mk (n + 1) (.notOf c)
  | allOf {n : Nat} {cs : List Cd} (l : 1 ≤ cs.length ∧ cs.length ≤ 100) (h : ∀ c ∈ cs, Mk n c) : Mk (n + 1) (.allOf cs)
  | someOf {n : Nat} {cs : List Cd} (l : 1 ≤ cs.length ∧ cs.length ≤ 100) (h : ∀ c ∈ cs, Mk n c) : Mk (n + 1) (.someOf cs)
/-- small names, some parts -/
inductive Gd : Cd → Prop where
  | plain (u : Unit) : Gd (.plain u)
  | cause {x : Str} (h : Lc x 8 ∧ 1 ≤ x.length) : Gd (.cause x)
  | thing {x : Str} (h : Lc x 8 ∧ 1 ≤ x.length) : Gd (.thing x)
  | days (p : Int × Int) (h : 0 ≤ p.1 ∧ p.1 ≤ p.2 ∧ p.2 ≤ 1000000) : Gd (.days p)
  | over (c : Int) (h : 0 ≤ c ∧ c ≤ 999999999999) : Gd (.over c)
  | notOf {c : Cd} (h : Gd c) : Gd (.notOf c)
  | allOf {cs : List Cd} (l : 2 ≤ cs.length ∧ cs.length ≤ 8) (h : ∀ c ∈ cs, Gd c) : Gd (.allOf cs)
  | someOf {cs : List Cd} (l : 2 ≤ cs.length ∧ cs.length ≤ 8) (h : ∀ c ∈ cs, Gd c) : Gd (.someOf cs)
mutual
def dn : Cd → Int
  | .plain _ => 0
  | .cause _ => 0
  | .thing _ => 0
  | .days _ => 0
  | .over _ => 0
  | .notOf c => (if rk c < 3 then dn c + 1 else dn c) + 1
  | .allOf cs => dnL 3 cs 0
  | .someOf cs => dnL 2 cs 0
def dnL (l : Int) : List Cd → Int → Int
  | [], d => d
  | c :: r, d => dnL l r (max d (if rk c < l then dn c + 1 else dn c))
end
def wt : Cd → Int
  | .allOf _ => 1
  | .someOf _ => 2
  | _ => 0
theorem Mk.up {n m : Nat} {c : Cd} (h : Mk n c) (l : n ≤ m) : Mk m c := by
  induction h generalizing m with
  | plain u => exact .plain u
  | cause h => exact .cause h
  | thing h => exact .thing h
  | days p => exact .days p
  | over c => exact .over c
  | notOf h ih =>
    cases m with
    | zero => exact absurd l (by omega)
    | succ m => exact .notOf (ih (by omega))
  | allOf k h ih =>
    cases m with
    | zero => exact absurd l (by omega)
    | succ m => exact .allOf k fun c mc => ih c mc (by omega)
  | someOf k h ih =>
    cases m with
    | zero => exact absurd l (by omega)
    | succ m => exact .someOf k fun c mc => ih c mc (by omega)
theorem dnL_ge (l : Int) : ∀ (cs : List Cd) (d : Int), d ≤ dnL l cs d ∧ ∀ c ∈ cs, (if rk c < l then dn c + 1 else dn c) ≤ dnL l cs d
  | [], d => ⟨Int.le_refl _, fun _ m => (nomatch m)⟩
  | c :: r, d => by
    obtain ⟨h1, h2⟩ := dnL_ge l r (max d (if rk c < l then dn c + 1 else dn c))
    show d ≤ dnL l r (max d (if rk c < l then dn c + 1 else dn c)) ∧ _
    refine ⟨by omega, fun c' m => ?_⟩
    show _ ≤ dnL l r (max d (if rk c < l then dn c + 1 else dn c))
    rcases List.mem_cons.mp m with rfl | m
    · exact Int.le_trans (Int.le_max_right _ _) h1
    · exact h2 c' m
theorem Gd.mk {c : Cd} (h : Gd c) : 0 ≤ dn c ∧ Mk (2 * dn c + wt c).toNat c := by
  have b3 : ∀ c : Cd, 0 ≤ dn c → 2 * dn c + wt c ≤ 2 * (if rk c < 3 then dn c + 1 else dn c) := fun c h => by
    cases c <;> simp only [rk, wt] <;> simp <;> omega
  have b2 : ∀ c : Cd, 0 ≤ dn c → 2 * dn c + wt c ≤ 2 * (if rk c < 2 then dn c + 1 else dn c) + 1 := fun c h => by
    cases c <;> simp only [rk, wt] <;> simp <;> omega
  induction h with
  | plain u => exact ⟨Int.le_refl _, .plain u⟩
  | cause h => exact ⟨Int.le_refl _, .cause (h.1.sm.mono (by omega))⟩
  | thing h => exact ⟨Int.le_refl _, .thing (h.1.sm.mono (by omega))⟩
  | days p => exact ⟨Int.le_refl _, .days p⟩
  | over c => exact ⟨Int.le_refl _, .over c⟩
  | @notOf c h ih =>
    have := b3 c ih.1
    have h0 : 0 ≤ (if rk c < 3 then dn c + 1 else dn c) := by have := ih.1; split <;> omega
    refine ⟨by show 0 ≤ (if rk c < 3 then dn c + 1 else dn c) + 1; omega, ?_⟩
    show Mk (2 * ((if rk c < 3 then dn c + 1 else dn c) + 1) + 0).toNat _
    generalize (if rk c < 3 then dn c + 1 else dn c) = q at *
    exact (Mk.notOf (n := (2 * q).toNat) (ih.2.up (by omega))).up (by omega)
  | @allOf cs l h ih =>
    obtain ⟨h1, h2⟩ := dnL_ge 3 cs 0
    refine ⟨h1, ?_⟩
    show Mk (2 * dnL 3 cs 0 + 1).toNat _
    refine (Mk.allOf (n := (2 * dnL 3 cs 0).toNat) (by omega) fun c mc => (ih c mc).2.up ?_).up (by omega)
    have := b3 c (ih c mc).1
    have := h2 c mc
    generalize (if rk c < 3 then dn c + 1 else dn c) = q at *
    omega
  | @someOf cs l h ih =>
    obtain ⟨h1, h2⟩ := dnL_ge 2 cs 0
    refine ⟨h1, ?_⟩
    show Mk (2 * dnL 2 cs 0 + 2).toNat _
    refine (Mk.someOf (n := (2 * dnL 2 cs 0 + 1).toNat) (by omega) fun c mc => (ih c mc).2.up ?_).up (by omega)
    have := b2 c (ih c mc).1
    have := h2 c mc
    generalize (if rk c < 2 then dn c + 1 else dn c) = q at *
    omega
theorem Mk.smp {n : Nat} {c : Cd} (h : Mk n c) : Smp (2 * n + 1) (tr c) := by
  have ks : ∀ {k : Nat} (c : Cd), Smp k (.str (kd c)) := fun c => by
    exact (kd_sm c).smp
  induction h with
  | plain u => exact .tup (smps_cons (ks (.plain u)) smps_nil)
  | @cause n x h => exact .tup (smps_cons (ks (.cause x)) (smps_cons h.smp smps_nil))
  | @thing n x h => exact .tup (smps_cons (ks (.thing x)) (smps_cons h.smp smps_nil))
  | days p => exact .tup (smps_cons (ks (.days p)) (smps_cons (.int _) (smps_cons (.int _) smps_nil)))
  | over c => exact .tup (smps_cons (ks (.over c)) (smps_cons (.int _) smps_nil))
  | @notOf n c h ih => exact .tup (smps_cons (ks (.notOf c)) (smps_cons (ih.up (by omega)) smps_nil))
  | @allOf n cs l h ih =>
    refine .tup (smps_cons (ks (.allOf cs)) (smps_cons ?_ smps_nil))
    show Smp (2 * n + 1 + 1) (.lst (trL cs))
    rw [trL_map]
    exact .lst fun d m => by
      obtain ⟨c, mc, rfl⟩ := List.mem_map.mp m
      exact ih c mc
  | @someOf n cs l h ih =>
    refine .tup (smps_cons (ks (.someOf cs)) (smps_cons ?_ smps_nil))
    show Smp (2 * n + 1 + 1) (.lst (trL cs))
    rw [trL_map]
    exact .lst fun d m => by
      obtain ⟨c, mc, rfl⟩ := List.mem_map.mp m
      exact ih c mc
theorem cont_false (cs : List Cd) (f : Cd → Bool) : (!(List.contains (cs.map f) false)) = cs.all f := by
  induction cs with
  | nil => rfl
  | cons c r ih =>
    rw [List.map_cons, List.contains_cons, List.all_cons, Bool.not_or, ih]
    cases f c <;> rfl
theorem cont_true (cs : List Cd) (f : Cd → Bool) : (List.contains (cs.map f) true) = cs.any f := by
  induction cs with
  | nil => rfl
  | cons c r ih =>
    rw [List.map_cons, List.contains_cons, List.any_cons, ih]
    cases f c <;> rfl
theorem all_lp {f : Cd → Option Bool} {g : Cd → Bool} {cs : List Cd} (h : ∀ c ∈ cs, f c = some (g c)) : lpO (fun (x : Cd) (_ : Unit) => (bd (f x) fun v => cond (!v) (some (.rt false)) <| some (.nx ()) : Option (Ou Unit Unit Bool))) cs () = some (if cs.all g then .nx () else .rt false) := by
  induction cs with
  | nil => rfl
  | cons c r ih =>
    have i := ih fun c m => h c (List.mem_cons_of_mem _ m)
    rw [List.all_cons]
    unfold lpO
    rw [h c List.mem_cons_self]
    cases g c with
    | true => exact i
    | false => rfl
theorem any_lp {f : Cd → Option Bool} {g : Cd → Bool} {cs : List Cd} (h : ∀ c ∈ cs, f c = some (g c)) : lpO (fun (x : Cd) (_ : Unit) => (bd (f x) fun v => cond v (some (.rt true)) <| some (.nx ()) : Option (Ou Unit Unit Bool))) cs () = some (if cs.any g then .rt true else .nx ()) := by
  induction cs with
  | nil => rfl
  | cons c r ih =>
    have i := ih fun c m => h c (List.mem_cons_of_mem _ m)
    rw [List.any_cons]
    unfold lpO
    rw [h c List.mem_cons_self]
    cases g c with
    | true => rfl
    | false => exact i
theorem holds_ok {n : Nat} {c : Cd} (l : LOSS) (h : Mk n c) : U_Cd_holds (Kn_holds n) c l = some (hol l c) := by
  induction h with
  | plain u => rfl
  | cause h => rfl
  | thing h => rfl
  | @days n p =>
    show M_DaysIn_holds p l = _
    unfold M_DaysIn_holds
    rfl
  | over c => rfl
  | @notOf n c h ih =>
    show M_Not_holds (Kn_holds n) c l = _
    unfold M_Not_holds
    rw [bd_of ih]
    rfl
  | @allOf n cs z h ih =>
    show M_All_holds (Kn_holds n) cs l = some (holA l cs)
    unfold M_All_holds
    rw [bd_of (all_lp (f := fun x => U_Cd_holds (Kn_holds n) x l) ih), holA_all]
    cases cs.all (hol l) <;> rfl
  | @someOf n cs z h ih =>
    show M_Some_holds (Kn_holds n) cs l = some (holS l cs)
    unfold M_Some_holds
    rw [bd_of (any_lp (f := fun x => U_Cd_holds (Kn_holds n) x l) ih), holS_any]
    cases cs.any (hol l) <;> rfl
open SX TL
theorem numL_all : ∀ n : Nat, (numL n).all (· < 128) = true := fun n => by
  induction n using Nat.strongRecOn with
  | _ n ih =>
    by_cases h : n < 10
    · rw [numL_lt h]
      simp
      omega
    · rw [numL_step (by omega), List.all_append, ih (n / 10) (by omega)]
      simp
      omega
theorem amtS_sm {n : Nat} (h : n < 10 ^ 60) : Sm (amtS n) 63 := by
  refine sm_S ?_ ?_
  · unfold amtL
    rw [List.length_append]
    have := numL_len (n := n / 100) (k := 60) (by decide) (by omega)
    show _ + 3 ≤ 63
    omega
  · unfold amtL
    rw [List.all_append, numL_all]
    simp
    omega

def tail (w : Str) : List (List Str) → List Str
  | [] => []
  | x :: r => w :: (x ++ tail w r)
def jn (w : Str) : List (List Str) → List Str
  | [] => []
  | x :: r => x ++ tail w r
mutual
def wds : Cd → List Str
  | .plain _ => ["always"]
  | .cause x => ["cause", x]
  | .thing x => ["thing", x]
  | .days p => ["days", strI p.1, strI p.2]
  | .over c => ["over", amtS c.toNat]
  | .notOf c => ("not" : Str) :: (if rk c < 3 then ("(" : Str) :: (wds c ++ [(")" : Str)]) else wds c)
  | .allOf cs => wdsL 3 "and" cs []
  | .someOf cs => wdsL 2 "or" cs []
def wdsL (l : Int) (w : Str) : List Cd → List Str → List Str
  | [], a => a
  | c :: r, a => wdsL l w r ((if a.isEmpty then a else a ++ [w]) ++ (if rk c < l then ("(" : Str) :: (wds c ++ [(")" : Str)]) else wds c))
end
/-- in brackets where the rank is below l -/
def brw (l : Int) (c : Cd) : List Str := if rk c < l then ("(" : Str) :: (wds c ++ [(")" : Str)]) else wds c
theorem wdsL_cons (l : Int) (w : Str) (c : Cd) (r : List Cd) (a : List Str) : wdsL l w (c :: r) a = wdsL l w r ((if a.isEmpty then a else a ++ [w]) ++ brw l c) := rfl
theorem wdsL_tail (l : Int) (w : Str) : ∀ (cs : List Cd) (a : List Str), a ≠ [] → wdsL l w cs a = a ++ tail w (cs.map (brw l))
  | [], a, _ => (List.append_nil a).symm
  | c :: r, a, h => by
    have e : a.isEmpty = false := by cases a with
      | nil => exact absurd rfl h
      | cons => rfl
    rw [wdsL_cons, e, if_neg (by decide), wdsL_tail l w r _ (by simp)]
    show (a ++ [w]) ++ brw l c ++ tail w (r.map (brw l)) = a ++ (w :: (brw l c ++ tail w (r.map (brw l))))
    simp only [List.append_assoc, List.singleton_append, List.cons_append, List.nil_append]
theorem wdsL_jn (l : Int) (w : Str) {cs : List Cd} (h : ∀ c ∈ cs, brw l c ≠ []) : wdsL l w cs [] = jn w (cs.map (brw l)) := by
  cases cs with
  | nil => rfl
  | cons c r =>
    rw [wdsL_cons]
    show wdsL l w r ([] ++ brw l c) = brw l c ++ tail w (r.map (brw l))
    rw [List.nil_append, wdsL_tail l w r _ (h c List.mem_cons_self)]
theorem brw_ne {l : Int} {c : Cd} (h : wds c ≠ []) : brw l c ≠ [] := by
  unfold brw
  split
  · simp
  · exact h
theorem wds_ne {c : Cd} (h : Gd c) : wds c ≠ [] := by
  induction h with
  | plain u => exact fun z => nomatch z
  | cause h => exact fun z => nomatch z
  | thing h => exact fun z => nomatch z
  | days p => exact fun z => nomatch z
  | over c => exact fun z => nomatch z
  | notOf h => exact fun z => nomatch z
  | @allOf cs l h ih =>
    cases cs with
    | nil => exact absurd l.1 (by decide)
    | cons c r =>
      show wdsL 3 "and" (c :: r) [] ≠ []
      rw [wdsL_jn 3 "and" fun c m => brw_ne (ih c m)]
      exact fun z => brw_ne (ih c List.mem_cons_self) (List.append_eq_nil_iff.mp z).1
  | @someOf cs l h ih =>
    cases cs with
    | nil => exact absurd l.1 (by decide)
    | cons c r =>
      show wdsL 2 "or" (c :: r) [] ≠ []
      rw [wdsL_jn 2 "or" fun c m => brw_ne (ih c m)]
      exact fun z => brw_ne (ih c List.mem_cons_self) (List.append_eq_nil_iff.mp z).1
theorem wds_all {cs : List Cd} (h : ∀ c ∈ cs, Gd c) : wds (.allOf cs) = jn "and" (cs.map (brw 3)) := wdsL_jn 3 "and" fun c m => brw_ne (wds_ne (h c m))
theorem wds_some {cs : List Cd} (h : ∀ c ∈ cs, Gd c) : wds (.someOf cs) = jn "or" (cs.map (brw 2)) := wdsL_jn 2 "or" fun c m => brw_ne (wds_ne (h c m))
/-- small, without a blank -/
def Wd (w : Str) : Prop := Sm w 63 ∧ 32 ∉ w.cps.toList
theorem lit_wd {x : Str} (h : (decide (x.length ≤ 63) && (x.cps.toList.all (· < 128) && !(x.cps.toList.contains 32))) = true) : Wd x := by
  rw [Bool.and_eq_true, Bool.and_eq_true] at h
  refine ⟨⟨of_decide_eq_true h.1, h.2.1⟩, fun z => ?_⟩
  have := h.2.2
  rw [List.contains_iff_mem.mpr z] at this
  cases this
theorem lc_wd {x : Str} {n : Nat} (h : Lc x n) (l : n ≤ 63) : Wd x := ⟨h.sm.mono l, fun z => by
  have := List.all_eq_true.mp h.2 32 z
  cases this⟩
theorem num_wd {n : Nat} (h : n < 10 ^ 60) : Wd (strI (n : Int)) := by
  rw [strI_n]
  refine ⟨sm_S (Nat.le_trans (numL_len (k := 60) (by decide) h) (by decide)) (numL_all n), numL_free (by decide)⟩
theorem amt_wd {n : Nat} (h : n < 10 ^ 60) : Wd (amtS n) := by
  refine ⟨amtS_sm h, ?_⟩
  show 32 ∉ amtL n
  unfold amtL
  intro z
  rcases List.mem_append.mp z with z | z
  · exact numL_free (by decide) z
  · simp at z
    omega
theorem brw_wd {l : Int} {c : Cd} (h : ∀ w ∈ wds c, Wd w) : ∀ w ∈ brw l c, Wd w := by
  unfold brw
  split
  · intro w m
    rcases List.mem_cons.mp m with rfl | m
    · exact lit_wd (by decide +kernel)
    · rcases List.mem_append.mp m with m | m
      · exact h w m
      · cases List.mem_singleton.mp m; exact lit_wd (by decide +kernel)
  · exact h
theorem tail_wd {w : Str} (hw : Wd w) : ∀ {xs : List (List Str)}, (∀ x ∈ xs, ∀ y ∈ x, Wd y) → ∀ y ∈ tail w xs, Wd y
  | [], _, _, m => nomatch m
  | x :: r, h, y, m => by
    rcases List.mem_cons.mp m with rfl | m
    · exact hw
    · rcases List.mem_append.mp m with m | m
      · exact h x List.mem_cons_self y m
      · exact tail_wd hw (fun x k => h x (List.mem_cons_of_mem _ k)) y m
theorem jn_wd {w : Str} (hw : Wd w) {xs : List (List Str)} (h : ∀ x ∈ xs, ∀ y ∈ x, Wd y) : ∀ y ∈ jn w xs, Wd y := by
  cases xs with
  | nil => exact fun _ m => nomatch m
  | cons x r =>
    intro y m
    rcases List.mem_append.mp m with m | m
    · exact h x List.mem_cons_self y m
    · exact tail_wd hw (fun x k => h x (List.mem_cons_of_mem _ k)) y m
theorem wds_wd {c : Cd} (h : Gd c) : ∀ w ∈ wds c, Wd w := by
  have one : ∀ {a b : Str}, Wd a → Wd b → ∀ w ∈ [a, b], Wd w := fun ha hb w m => by
    rcases List.mem_cons.mp m with rfl | m
    · exact ha
    · cases List.mem_singleton.mp m; exact hb
  induction h with
  | plain u => exact fun w m => by cases List.mem_singleton.mp m; exact lit_wd (by decide +kernel)
  | cause h => exact one (lit_wd (by decide +kernel)) (lc_wd h.1 (by decide))
  | thing h => exact one (lit_wd (by decide +kernel)) (lc_wd h.1 (by decide))
  | days p h =>
    obtain ⟨a, ea⟩ := Int.eq_ofNat_of_zero_le h.1
    obtain ⟨b, eb⟩ := Int.eq_ofNat_of_zero_le (show 0 ≤ p.2 by omega)
    have ha : Wd (strI p.1) := by rw [ea]; exact num_wd (by omega)
    have hb : Wd (strI p.2) := by rw [eb]; exact num_wd (by omega)
    intro w m
    rcases List.mem_cons.mp m with rfl | m
    · exact lit_wd (by decide +kernel)
    · exact one ha hb w m
  | over c h => exact one (lit_wd (by decide +kernel)) (amt_wd (by omega))
  | @notOf c h ih =>
    intro w m
    rcases List.mem_cons.mp (show w ∈ ("not" : Str) :: brw 3 c from m) with rfl | m
    · exact lit_wd (by decide +kernel)
    · exact brw_wd ih w m
  | @allOf cs l h ih =>
    rw [wds_all h]
    exact jn_wd (lit_wd (by decide +kernel)) fun x m => by obtain ⟨c, mc, rfl⟩ := List.mem_map.mp m; exact brw_wd (ih c mc)
  | @someOf cs l h ih =>
    rw [wds_some h]
    exact jn_wd (lit_wd (by decide +kernel)) fun x m => by obtain ⟨c, mc, rfl⟩ := List.mem_map.mp m; exact brw_wd (ih c mc)
theorem wd_lst {a : List Str} (h : ∀ y ∈ a, Wd y) : D.ok (.lst (a.map D.str)) := (show Smp 1 (.lst (a.map D.str)) from .lst (smps_map fun x m => (h x m).1.smp)).ok
theorem sz {n : Nat} (h : n ≤ 1001) : n ≤ sizeLine := Nat.le_trans h (by show 1001 ≤ 16777216; decide)
theorem szl {n : Nat} (h : n ≤ 1001) : n < sizeLine := Nat.lt_of_le_of_lt h (by show 1001 < 16777216; decide)
open SX TL
theorem bdx_of {E R S : Type} {m : Option (Xr E R)} {k : R → Option (Xr E S)} {r : R} (h : m = some (.ok r)) : bdx m k = k r := by rw [h]; rfl
theorem bdx_er {E R S : Type} {m : Option (Xr E R)} {k : R → Option (Xr E S)} {e : E} (h : m = some (.er e)) : bdx m k = some (.er e) := by rw [h]; rfl
theorem bdo_of {E R S V W : Type} {m : Option (Xr E R)} {k : R → Option (Ou V W (Xr E S))} {r : R} (h : m = some (.ok r)) : bdo m k = k r := by rw [h]; rfl
theorem bdo_er {E R S V W : Type} {m : Option (Xr E R)} {k : R → Option (Ou V W (Xr E S))} {e : E} (h : m = some (.er e)) : bdo m k = some (.rt (.er e)) := by rw [h]; rfl
theorem figs_L : (("0123456789") : Str).cps.toList = [48, 49, 50, 51, 52, 53, 54, 55, 56, 57] := by decide +kernel
theorem fig_mem {c : Nat} (h : 48 ≤ c ∧ c ≤ 57) : decide (c ∈ (("0123456789") : Str).cps.toList) = true := by
  rw [figs_L]
  simp
  omega
theorem numL_head : ∀ n : Nat, 1 ≤ n → ∀ c, (numL n)[0]? = some c → c ≠ 48 := fun n => by
  induction n using Nat.strongRecOn with
  | _ n ih =>
    intro h1 c hc
    by_cases h : n < 10
    · rw [numL_lt h] at hc
      simp at hc
      omega
    · rw [numL_step (by omega)] at hc
      have hl : 0 < (numL (n / 10)).length := List.length_pos_iff.mpr (numL_ne _)
      rw [List.getElem?_append_left hl] at hc
      exact ih (n / 10) (by omega) (by omega) c hc
theorem figs_ok {l : List Nat} (h : NumText.AllDigits l) : M_all_figures (S l) = some true := by
  unfold M_all_figures
  refine Ok.eq (ok_bd (ok_lpN (Q := fun o => o = .nx ()) (fun _ _ => True) trivial (fun i x v hx _ => ?_) fun v _ => rfl) fun o ho => by subst ho; exact ok_some rfl)
  exact ok_f (by rw [fig_mem (h x (List.mem_of_getElem? (show l[i]? = some x from hx)))]; rfl) (ok_some ⟨(), .inl rfl, trivial⟩)
theorem noZero {n : Nat} {c : Nat} (hc : (numL n)[0]? = some c) (h : (sg1 c == ("0" : Str)) = true) : (numL n).length = 1 := by
  have hc48 : c = 48 := by
    have q := eq_of_beq h
    have z : (("0") : Str) = S [48] := by decide +kernel
    rw [z] at q
    have := S_inj (a := [c]) (b := [48]) q
    simpa using this
  have hn0 : n = 0 := Classical.byContradiction fun hne => numL_head n (by omega) c hc hc48
  rw [hn0, numL_lt (by decide)]
  rfl
theorem read_ok {n : Nat} (h : n < 10 ^ 12) : M_read_cents (amtS n) = some (n : Int) := by
  have hw : n / 100 < 10 ^ 10 := by omega
  have wl := numL_short (n := n / 100) (k := 10) (by decide) hw
  have wl2 : (S (numL (n / 100))).length = (numL (n / 100)).length := S_len _
  have w0 : 0 < (numL (n / 100)).length := List.length_pos_iff.mpr (numL_ne _)
  have wd := numL_digits (n / 100)
  have pd : NumText.AllDigits [48 + n / 10 % 10, 48 + n % 10] := fun c hc => by
    simp at hc
    omega
  have al : (amtS n).length ≤ 63 := (amtS_sm (n := n) (by omega)).1
  have pe : Txt.partition (amtS n) (".") = (S (numL (n / 100)), S [46], S [48 + n / 10 % 10, 48 + n % 10]) := by
    rw [dot_S]
    exact partition_some (by simp) (par_head _ (numL_free (by decide)))
  have l2 : (S [48 + n / 10 % 10, 48 + n % 10]).length = 2 := S_len _
  unfold M_read_cents
  rw [pe]
  refine Ok.eq (ok_f rfl (ok_gd (sz (by omega)) ?_))
  refine ok_bd (Q := fun v => v = false) (ok_f (by show (S [46] == ("" : Str)) = false; decide +kernel) (ok_gd (sz (by show (S [48 + n / 10 % 10, 48 + n % 10]).length ≤ _; omega)) (ok_bd (Q := fun v => v = false) (ok_f (by show (!(((S [48 + n / 10 % 10, 48 + n % 10]).length : Int) == 2)) = false; rw [l2]; rfl) ?_) fun v hv => ok_some hv))) fun v hv => ?_
  · show Ok (bd (M_all_figures (S [48 + n / 10 % 10, 48 + n % 10])) _) _
    rw [bd_of (figs_ok pd)]
    exact ok_some rfl
  subst hv
  refine ok_f rfl (ok_gd (sz (by show (S (numL (n / 100))).length ≤ _; omega)) ?_)
  refine ok_bd (Q := fun v => v = false) (ok_f (decide_eq_false (by show ¬ (((S (numL (n / 100))).length : Int) < 1); omega)) (ok_gd (sz (by show (S (numL (n / 100))).length ≤ _; omega)) (ok_bd (Q := fun v => v = false) (ok_f (decide_eq_false (by show ¬ (10 < ((S (numL (n / 100))).length : Int)); omega)) ?_) fun v hv => ok_some hv))) fun v hv => ?_
  · show Ok (bd (M_all_figures (S (numL (n / 100)))) _) _
    rw [bd_of (figs_ok wd)]
    exact ok_some rfl
  subst hv
  refine ok_f rfl ?_
  obtain ⟨c, hc⟩ : ∃ c, (numL (n / 100))[0]? = some c := ⟨_, List.getElem?_eq_getElem w0⟩
  rw [bd_of (show L2.atI (S (numL (n / 100))).cps.toList 0 = some c from atI_nat (j := 0) hc)]
  refine ok_gd (sz (by show (S (numL (n / 100))).length ≤ _; omega)) (ok_bd (Q := fun v => v = false) (ok_cond (fun e => ok_gd (sz (by show (S (numL (n / 100))).length ≤ _; omega)) (ok_some (decide_eq_false ?_))) fun _ => ok_some rfl) fun v hv => ?_)
  · have := noZero hc e
    show ¬ (1 < ((S (numL (n / 100))).length : Int))
    omega
  subst hv
  have i1 : intText? (S (numL (n / 100))) = some ((n / 100 : Nat) : Int) := by
    rw [int_S (by rw [List.all_eq_true]; intro c hc; have := wd c hc; simp; omega) (numL_ne _) (by omega), numL_val]
  have i2 : intText? (S [48 + n / 10 % 10, 48 + n % 10]) = some ((n % 100 : Nat) : Int) := by
    rw [int_S (by rw [List.all_eq_true]; intro c hc; have := pd c hc; simp; omega) (by simp) (by simp)]
    have e : NumText.digitsVal [48 + n / 10 % 10, 48 + n % 10] = n % 100 := by
      show (0 * 10 + (48 + n / 10 % 10 - 48)) * 10 + (48 + n % 10 - 48) = _
      omega
    rw [e]
  refine ok_f rfl ?_
  show Ok (bd (intText? (S (numL (n / 100)))) _) _
  rw [bd_of i1]
  refine ok_gd (by show (S (numL (n / 100))).length ≤ 640; omega) ?_
  show Ok (bd (intText? (S [48 + n / 10 % 10, 48 + n % 10])) _) _
  rw [bd_of i2]
  exact ok_gd (by show (S [48 + n / 10 % 10, 48 + n % 10]).length ≤ 640; omega) (ok_some (by omega))
theorem isday_ok {n : Int} (h : 0 ≤ n ∧ n ≤ 1000000) : M_is_day n = some true := by
  unfold M_is_day
  have hw : M_is_whole (.int n) = some true := by
    unfold M_is_whole
    rw [bd_of (show isiD "int" (.int n) = some true from (by decide +kernel : kitB "int" "int" = some true))]
    refine Ok.eq (ok_bd (Q := fun v => v = true) (ok_t rfl ?_) fun v hv => ok_some hv)
    rw [bd_of (show isiD "bool" (.int n) = some false from (by decide +kernel : kitB "int" "bool" = some false))]
    exact ok_some rfl
  rw [bd_of hw, decide_eq_true h.1, decide_eq_true h.2]
  rfl
theorem isname_ok {x : Str} (h : Lc x 8 ∧ 1 ≤ x.length) : M_is_name x = some true := by
  have l := h.1.1
  unfold M_is_name
  refine Ok.eq (ok_f rfl (ok_gd (sz (by omega)) (ok_bd (Q := fun v => v = false) (ok_f (decide_eq_false (by omega)) (ok_gd (sz (by omega)) (ok_some (decide_eq_false (by omega))))) fun v hv => ok_f hv ?_)))
  refine ok_bd (ok_lpN (Q := fun o => o = .nx ()) (fun _ _ => True) trivial (fun i c v hc _ => ?_) fun v _ => rfl) fun o ho => by subst ho; exact ok_some rfl
  have hm : c ∈ ABC.cps.toList := by
    have z := List.all_eq_true.mp h.1.2 c (List.mem_of_getElem? hc)
    have z : 97 ≤ c ∧ c ≤ 122 := by simpa using z
    have q : ∀ k, k < 26 → 97 + k ∈ ABC.cps.toList := by decide +kernel
    have := q (c - 97) (by omega)
    rwa [show 97 + (c - 97) = c by omega] at this
  exact ok_f (by rw [decide_eq_true hm]; rfl) (ok_some ⟨(), .inl rfl, trivial⟩)
theorem at_mid {α : Type} (pre : List α) (x : α) (post : List α) : L2.atI (pre ++ (x :: post)) (pre.length : Int) = some x := atI_nat (by rw [List.getElem?_append_right (Nat.le_refl _), Nat.sub_self]; rfl)
theorem at_mid1 {α : Type} (pre : List α) (x y : α) (post : List α) : L2.atI (pre ++ (x :: y :: post)) ((pre.length : Int) + 1) = some y := by
  have := at_mid (pre ++ [x]) y post
  rw [List.append_assoc, List.length_append] at this
  exact this
theorem at_mid2 {α : Type} (pre : List α) (x y z : α) (post : List α) : L2.atI (pre ++ (x :: y :: z :: post)) ((pre.length : Int) + 2) = some z := by
  have := at_mid (pre ++ [x, y]) z post
  rw [List.append_assoc, List.length_append] at this
  exact this
theorem not_end {α : Type} (pre post : List α) (k : Int) (h : k < post.length) : (((pre.length : Int) + k) == ((pre ++ post).length : Int)) = false := by
  rw [beq_eq_false_iff_ne, List.length_append]
  omega
theorem name_at_ok {W : List Str} {i : Int} {x : Str} (e : L2.atI W i = some x) (ne : (i == (W.length : Int)) = false) (h : Lc x 8 ∧ 1 ≤ x.length) : M_name_at W i = some x := by
  unfold M_name_at
  refine Ok.eq (ok_bd (Q := fun v => v = false) (ok_f ne ?_) fun v hv => ok_f hv ?_)
  · rw [bd_of e, bd_of (isname_ok h)]; exact ok_some rfl
  · rw [bd_of e]; exact ok_some rfl
theorem cents_at_ok {W : List Str} {i : Int} {n : Nat} (e : L2.atI W i = some (amtS n)) (ne : (i == (W.length : Int)) = false) (h : n < 10 ^ 12) : M_cents_at W i = some (n : Int) := by
  unfold M_cents_at
  refine Ok.eq (ok_f ne ?_)
  rw [bd_of e, bd_of (read_ok h)]
  exact ok_some rfl
theorem day_at_ok {W : List Str} {i : Int} {n : Nat} (e : L2.atI W i = some (strI (n : Int))) (ne : (i == (W.length : Int)) = false) (h : n ≤ 1000000) : M_day_at W i = some (n : Int) := by
  rw [strI_n] at e
  have ll := numL_len (n := n) (k := 7) (by decide) (by omega)
  have l0 : 0 < (numL n).length := List.length_pos_iff.mpr (numL_ne _)
  have sl : (S (numL n)).length = (numL n).length := S_len _
  have z : (S (numL n)).length ≤ sizeLine := sz (by omega)
  unfold M_day_at
  refine Ok.eq (ok_f ne ?_)
  rw [bd_of e]
  obtain ⟨c, hc⟩ : ∃ c, (numL n)[0]? = some c := ⟨_, List.getElem?_eq_getElem l0⟩
  refine ok_gd z (ok_bd (Q := fun v => v = false) (ok_f (decide_eq_false (by omega)) (ok_gd z (ok_bd (Q := fun v => v = false) (ok_f (decide_eq_false (by omega)) (ok_gd z (ok_bd (Q := fun v => v = false) (ok_cond (fun hl => ?_) fun _ => ok_some rfl) fun v hv => ok_some hv))) fun v hv => ok_some hv))) fun v hv => ok_f hv ?_)
  · rw [bd_of (show L2.atI (S (numL n)).cps.toList 0 = some c from atI_nat (j := 0) hc)]
    refine ok_gd z (ok_some ?_)
    rw [Bool.eq_false_iff]
    intro q
    have := noZero hc q
    have := of_decide_eq_true hl
    omega
  · refine ok_bd (ok_lpN (Q := fun o => o = .nx ()) (fun _ _ => True) trivial (fun i x v hx _ => ?_) fun v _ => rfl) fun o ho => ?_
    · exact ok_f (by rw [fig_mem (numL_digits n x (List.mem_of_getElem? (show (numL n)[i]? = some x from hx)))]; rfl) (ok_some ⟨(), .inl rfl, trivial⟩)
    · subst ho
      have i1 : intText? (S (numL n)) = some (n : Int) := by
        rw [int_S (by rw [List.all_eq_true]; intro c hc; have := numL_digits n c hc; simp; omega) (numL_ne _) (by omega), numL_val]
      show Ok (bd (intText? (S (numL n))) _) _
      rw [bd_of i1]
      refine ok_gd (by omega) ?_
      rw [bd_of (isday_ok (by omega))]
      refine ok_f rfl ?_
      rw [bd_of i1]
      exact ok_gd (by omega) (ok_some rfl)
theorem atom_ok {c : Cd} (g : Gd c) (h : isAtom c = true) (pre post : List Str) : M_atom_at (pre ++ (wds c ++ post)) (pre.length : Int) = some (.ok (c, (pre.length : Int) + ((wds c).length : Int))) := by
  unfold M_atom_at
  cases g with
  | plain u =>
    rw [bd_of (show L2.atI (pre ++ (wds (.plain u) ++ post)) (pre.length : Int) = some "always" from at_mid pre _ post)]
    exact Ok.eq (ok_t (by decide +kernel) (ok_some rfl))
  | @cause x g =>
    rw [bd_of (show L2.atI (pre ++ (wds (.cause x) ++ post)) (pre.length : Int) = some "cause" from at_mid pre _ _)]
    refine Ok.eq (ok_f (by decide +kernel) (ok_t (by decide +kernel) ?_))
    rw [bd_of (name_at_ok (W := pre ++ (wds (.cause x) ++ post)) (at_mid1 pre _ x post) (not_end pre (wds (.cause x) ++ post) 1 (by show (1 : Int) < ((post.length + 1 + 1 : Nat) : Int); omega)) g)]
    exact ok_some rfl
  | @thing x g =>
    rw [bd_of (show L2.atI (pre ++ (wds (.thing x) ++ post)) (pre.length : Int) = some "thing" from at_mid pre _ _)]
    refine Ok.eq (ok_f (by decide +kernel) (ok_f (by decide +kernel) (ok_t (by decide +kernel) ?_)))
    rw [bd_of (name_at_ok (W := pre ++ (wds (.thing x) ++ post)) (at_mid1 pre _ x post) (not_end pre (wds (.thing x) ++ post) 1 (by show (1 : Int) < ((post.length + 1 + 1 : Nat) : Int); omega)) g)]
    exact ok_some rfl
  | over v g =>
    obtain ⟨n, rfl⟩ := Int.eq_ofNat_of_zero_le g.1
    rw [bd_of (show L2.atI (pre ++ (wds (.over (n : Int)) ++ post)) (pre.length : Int) = some "over" from at_mid pre _ _)]
    refine Ok.eq (ok_f (by decide +kernel) (ok_f (by decide +kernel) (ok_f (by decide +kernel) (ok_t (by decide +kernel) ?_))))
    rw [bd_of (cents_at_ok (W := pre ++ (wds (.over (n : Int)) ++ post)) (n := n) (at_mid1 pre _ (amtS n) post) (not_end pre (wds (.over (n : Int)) ++ post) 1 (by show (1 : Int) < ((post.length + 1 + 1 : Nat) : Int); omega)) (by omega))]
    exact ok_some rfl
  | days p g =>
    obtain ⟨a, ea⟩ := Int.eq_ofNat_of_zero_le g.1
    obtain ⟨b, eb⟩ := Int.eq_ofNat_of_zero_le (show 0 ≤ p.2 by omega)
    obtain ⟨p1, p2⟩ := p
    have ea : p1 = (a : Int) := ea
    have eb : p2 = (b : Int) := eb
    subst ea eb
    have g : 0 ≤ (a : Int) ∧ (a : Int) ≤ (b : Int) ∧ (b : Int) ≤ 1000000 := g
    rw [bd_of (show L2.atI (pre ++ (wds (.days ((a : Int), (b : Int))) ++ post)) (pre.length : Int) = some "days" from at_mid pre _ _)]
    refine Ok.eq (ok_f (by decide +kernel) (ok_f (by decide +kernel) (ok_f (by decide +kernel) (ok_f (by decide +kernel) (ok_f (by decide +kernel) ?_)))))
    rw [bd_of (day_at_ok (W := pre ++ (wds (.days ((a : Int), (b : Int))) ++ post)) (n := a) (at_mid1 pre _ (strI (a : Int)) _) (not_end pre (wds (.days ((a : Int), (b : Int))) ++ post) 1 (by show (1 : Int) < ((post.length + 1 + 1 + 1 : Nat) : Int); omega)) (by omega))]
    rw [bd_of (day_at_ok (W := pre ++ (wds (.days ((a : Int), (b : Int))) ++ post)) (n := b) (at_mid2 pre _ _ (strI (b : Int)) _) (not_end pre (wds (.days ((a : Int), (b : Int))) ++ post) 2 (by show (2 : Int) < ((post.length + 1 + 1 + 1 : Nat) : Int); omega)) (by omega))]
    exact ok_f (decide_eq_false (by omega)) (ok_some rfl)
  | notOf g => cases h
  | allOf l g => cases h
  | someOf l g => cases h
inductive Tx : Cd → Int → List Str → Int → Prop where
  | atom {c : Cd} (g : Gd c) (h : isAtom c = true) : Tx c 3 (wds c) 0
  | not {c : Cd} {ws : List Str} {d : Int} (h : Tx c 3 ws d) : Tx (.notOf c) 3 (("not" : Str) :: ws) (d + 1)
  | par {c : Cd} {r : Int} {ws : List Str} {d : Int} (h : Tx c r ws d) : Tx c 3 (("(" : Str) :: (ws ++ [(")" : Str)])) (d + 1)
  | all {ps : List (Cd × Int × List Str)} {d : Int} (l : 2 ≤ ps.length ∧ ps.length ≤ 8) (k : ∀ p ∈ ps, p.2.1 = 3) (h : ∀ p ∈ ps, Tx p.1 p.2.1 p.2.2 d) : Tx (.allOf (ps.map (·.1))) 2 (jn "and" (ps.map (·.2.2))) d
  | some {ps : List (Cd × Int × List Str)} {d : Int} (l : 2 ≤ ps.length ∧ ps.length ≤ 8) (k : ∀ p ∈ ps, 2 ≤ p.2.1) (h : ∀ p ∈ ps, Tx p.1 p.2.1 p.2.2 d) : Tx (.someOf (ps.map (·.1))) 1 (jn "or" (ps.map (·.2.2))) d
  | up {c : Cd} {r : Int} {ws : List Str} {d e : Int} (h : Tx c r ws d) (l : d ≤ e) : Tx c r ws e
theorem Tx.d0 {c : Cd} {r : Int} {ws : List Str} {d : Int} (h : Tx c r ws d) : 0 ≤ d ∧ 1 ≤ r ∧ r ≤ 3 := by
  induction h with
  | atom g h => exact ⟨Int.le_refl _, by decide, by decide⟩
  | not h ih => exact ⟨by omega, by decide, by decide⟩
  | par h ih => exact ⟨by omega, by decide, by decide⟩
  | @all ps d l k h ih =>
    cases ps with
    | nil => exact absurd l.1 (by decide)
    | cons p r => exact ⟨(ih p List.mem_cons_self).1, by decide, by decide⟩
  | @some ps d l k h ih =>
    cases ps with
    | nil => exact absurd l.1 (by decide)
    | cons p r => exact ⟨(ih p List.mem_cons_self).1, by decide, by decide⟩
  | up h l ih => exact ⟨by omega, ih.2⟩
def Ct (W : List Str) (w : Str) : Cd × Int × List Cd → Option Bool := fun (p2 : Cd × Int × (List Cd)) => (bd (cond (decide (p2.2.1 < (W.length : Int))) (bd (L2.atI W p2.2.1) fun v4 => some ((v4 == w))) (some false)) fun v5 => some v5 : Option Bool)
noncomputable def Bt (W : List Str) (deep : Int) (g : List Str × Int × Int → Option (Xr Xc (Cd × Int))) : Cd × Int × List Cd → Option (Ou (Cd × Int × (List Cd)) (Cd × Int × (List Cd)) (Xr Xc (Cd × Int))) := fun (p2 : Cd × Int × (List Cd)) => (cond (((p2.2.2.length : Int) == 8)) (some (.rt (.er (.NoWords (p2.2.1 + 1))))) <|
    bdo (g (W, (p2.2.1 + 1), deep)) fun v7 =>
    gd (p2.2.2.length < sizeLine) <|
    lt (p2.2.2 ++ [v7.1]) fun parts_1 =>
    some (.nx (v7.1, v7.2, parts_1)) : Option (Ou (Cd × Int × (List Cd)) (Cd × Int × (List Cd)) (Xr Xc (Cd × Int))))
theorem ct_hit {pre post : List Str} {w : Str} {c : Cd} {ds : List Cd} : Ct (pre ++ (w :: post)) w (c, (pre.length : Int), ds) = some true := by
  unfold Ct
  show bd (cond (decide ((pre.length : Int) < _)) (bd (L2.atI _ (pre.length : Int)) _) _) _ = _
  rw [decide_eq_true (by rw [List.length_append, List.length_cons]; omega), at_mid]
  show some (w == w) = _
  rw [beq_self_eq_true]
theorem ct_miss {pre post : List Str} {w : Str} {c : Cd} {ds : List Cd} (h : post.head? ≠ some w) : Ct (pre ++ post) w (c, (pre.length : Int), ds) = some false := by
  unfold Ct
  show bd (cond (decide ((pre.length : Int) < _)) (bd (L2.atI _ (pre.length : Int)) _) _) _ = _
  cases post with
  | nil => rw [decide_eq_false (by rw [List.append_nil]; omega)]; rfl
  | cons x r =>
    rw [decide_eq_true (by rw [List.length_append, List.length_cons]; omega), at_mid]
    show some (x == w) = _
    rw [beq_eq_false_iff_ne.mpr fun z => h (by rw [z]; rfl)]
theorem parts_loop {w : Str} {g : List Str × Int × Int → Option (Xr Xc (Cd × Int))} {deep : Int} : ∀ (ps : List (Cd × List Str)) (W pre post : List Str) (c0 : Cd) (done : List Cd), W = pre ++ (tail w (ps.map (·.2)) ++ post) → post.head? ≠ some w → done.length + ps.length ≤ 8 →
    (∀ p ∈ ps, ∀ pre' post' : List Str, W = pre' ++ (p.2 ++ post') → (post'.head? = some w ∨ post'.head? = post.head?) → g (W, (pre'.length : Int), deep) = some (.ok (p.1, (pre'.length : Int) + (p.2.length : Int)))) →
    ∃ c1, wl (Ct W w) (Bt W deep g) (c0, (pre.length : Int), done) = some (.nx (c1, (pre.length : Int) + ((tail w (ps.map (·.2))).length : Int), done ++ ps.map (·.1))) := by
  intro ps W pre post c0 done hW hp hl hg
  suffices H : ∀ (ps : List (Cd × List Str)) (pre : List Str) (c0 : Cd) (done : List Cd), W = pre ++ (tail w (ps.map (·.2)) ++ post) → done.length + ps.length ≤ 8 →
      (∀ p ∈ ps, ∀ pre' post' : List Str, W = pre' ++ (p.2 ++ post') → (post'.head? = some w ∨ post'.head? = post.head?) → g (W, (pre'.length : Int), deep) = some (.ok (p.1, (pre'.length : Int) + (p.2.length : Int)))) →
      ∃ c1 n, wlN (Ct W w) (Bt W deep g) n (c0, (pre.length : Int), done) = some (.nx (c1, (pre.length : Int) + ((tail w (ps.map (·.2))).length : Int), done ++ ps.map (·.1))) by
    obtain ⟨c1, n, e⟩ := H ps pre c0 done hW hl hg
    exact ⟨c1, wl_of e⟩
  clear hW hl hg ps pre c0 done
  intro ps
  induction ps with
  | nil =>
    intro pre c0 done hW _ _
    refine ⟨c0, 1, ?_⟩
    have hW : W = pre ++ post := hW
    show bd (Ct W w _) _ = _
    rw [hW, bd_of (ct_miss hp)]
    show some (Ou.nx (c0, (pre.length : Int), done)) = some (Ou.nx (c0, (pre.length : Int) + ((0 : Nat) : Int), done ++ []))
    rw [List.append_nil, show (pre.length : Int) + ((0 : Nat) : Int) = (pre.length : Int) by omega]
  | cons p r ih =>
    intro pre c0 done hW hl hg
    have hW1 : W = pre ++ (w :: (p.2 ++ (tail w (r.map (·.2)) ++ post))) := by
      rw [hW]
      show pre ++ ((w :: (p.2 ++ tail w (r.map (·.2)))) ++ post) = _
      rw [List.cons_append, List.append_assoc]
    have hW2 : W = (pre ++ [w]) ++ (p.2 ++ (tail w (r.map (·.2)) ++ post)) := by rw [hW1, List.append_assoc]; rfl
    have hW3 : W = (pre ++ [w] ++ p.2) ++ (tail w (r.map (·.2)) ++ post) := by rw [hW2]; simp only [List.append_assoc]
    rw [List.length_cons] at hl
    have e := hg p List.mem_cons_self (pre ++ [w]) (tail w (r.map (·.2)) ++ post) hW2 (by
      cases r with
      | nil => exact .inr rfl
      | cons q r => exact .inl rfl)
    obtain ⟨c1, n, en⟩ := ih (pre ++ [w] ++ p.2) p.1 (done ++ [p.1]) hW3 (by rw [List.length_append]; show done.length + 1 + _ ≤ 8; omega) fun q m => hg q (List.mem_cons_of_mem _ m)
    refine ⟨c1, n + 1, ?_⟩
    have hc : Ct W w (c0, (pre.length : Int), done) = some true := by rw [hW1]; exact ct_hit
    have hb : Bt W deep g (c0, (pre.length : Int), done) = some (.nx (p.1, ((pre ++ [w] ++ p.2).length : Int), done ++ [p.1])) := by
      unfold Bt
      show cond ((done.length : Int) == 8) _ _ = _
      rw [beq_eq_false_iff_ne.mpr (show (done.length : Int) ≠ 8 by omega)]
      show bdo (g (W, (pre.length : Int) + 1, deep)) _ = _
      have e' : g (W, (pre.length : Int) + 1, deep) = some (.ok (p.1, ((pre ++ [w] ++ p.2).length : Int))) := by
        rw [List.length_append] at e
        rw [show (pre.length : Int) + 1 = ((pre.length + [w].length : Nat) : Int) from rfl, e, List.length_append, List.length_append]
        congr 3
      rw [bdo_of e']
      show gd (done.length < sizeLine) _ = _
      rw [gd_pos (szl (by omega))]
      rfl
    show bd (Ct W w _) _ = _
    rw [bd_of hc]
    show bd (Bt W deep g _) _ = _
    rw [bd_of hb]
    show wlN _ _ n _ = _
    rw [en]
    congr 2
    show (c1, _, _) = (c1, _, _)
    congr 2
    · show _ = (pre.length : Int) + (((w :: (p.2 ++ tail w (r.map (·.2)))).length : Nat) : Int)
      rw [List.length_cons, List.length_append, List.length_append, List.length_append]
      show ((pre.length + 1 + p.2.length : Nat) : Int) + _ = _
      omega
    · rw [List.append_assoc]; rfl
/-- one part -/
theorem all_single {f : Nat} {W pre post : List Str} {ws : List Str} {c : Cd} {deep : Int} (hW : W = pre ++ (ws ++ post)) (hp : post.head? ≠ some "and") (h : (Kn_parse f).2.2 (W, (pre.length : Int), deep) = some (.ok (c, (pre.length : Int) + (ws.length : Int)))) : (Kn_parse (f + 1)).2.1 (W, (pre.length : Int), deep) = some (.ok (c, (pre.length : Int) + (ws.length : Int))) := by
  show M_all_at (Kn_parse f) W (pre.length : Int) deep = _
  have e0 : wl (Ct W "and") (Bt W deep (Kn_parse f).2.2) (c, (pre.length : Int) + (ws.length : Int), [c]) = some (.nx (c, (pre.length : Int) + (ws.length : Int), [c])) := by
    refine wl_of (n := 1) ?_
    show bd (Ct W "and" _) _ = _
    have hc : Ct W "and" (c, (pre.length : Int) + (ws.length : Int), [c]) = some false := by
      rw [hW, ← List.append_assoc, show (pre.length : Int) + (ws.length : Int) = ((pre ++ ws).length : Int) from by rw [List.length_append]; rfl]
      exact ct_miss hp
    rw [bd_of hc]
    rfl
  unfold M_all_at
  rw [bdx_of h]
  show bd (wl (Ct W "and") (Bt W deep (Kn_parse f).2.2) (c, (pre.length : Int) + (ws.length : Int), [c])) _ = _
  rw [bd_of e0]
  rfl
theorem some_single {f : Nat} {W pre post : List Str} {ws : List Str} {c : Cd} {deep : Int} (hW : W = pre ++ (ws ++ post)) (hp : post.head? ≠ some "or") (h : (Kn_parse f).2.1 (W, (pre.length : Int), deep) = some (.ok (c, (pre.length : Int) + (ws.length : Int)))) : (Kn_parse (f + 1)).1 (W, (pre.length : Int), deep) = some (.ok (c, (pre.length : Int) + (ws.length : Int))) := by
  show M_some_at (Kn_parse f) W (pre.length : Int) deep = _
  have e0 : wl (Ct W "or") (Bt W deep (Kn_parse f).2.1) (c, (pre.length : Int) + (ws.length : Int), [c]) = some (.nx (c, (pre.length : Int) + (ws.length : Int), [c])) := by
    refine wl_of (n := 1) ?_
    show bd (Ct W "or" _) _ = _
    have hc : Ct W "or" (c, (pre.length : Int) + (ws.length : Int), [c]) = some false := by
      rw [hW, ← List.append_assoc, show (pre.length : Int) + (ws.length : Int) = ((pre ++ ws).length : Int) from by rw [List.length_append]; rfl]
      exact ct_miss hp
    rw [bd_of hc]
    rfl
  unfold M_some_at
  rw [bdx_of h]
  show bd (wl (Ct W "or") (Bt W deep (Kn_parse f).2.1) (c, (pre.length : Int) + (ws.length : Int), [c])) _ = _
  rw [bd_of e0]
  rfl
theorem parse {c : Cd} {r : Int} {ws : List Str} {d : Int} (h : Tx c r ws d) : ∀ (pre post : List Str) (deep : Int) (f : Nat), deep + d ≤ 6 →
    (r = 3 → 3 * d.toNat + 1 ≤ f → (Kn_parse f).2.2 (pre ++ (ws ++ post), (pre.length : Int), deep) = some (.ok (c, (pre.length : Int) + (ws.length : Int)))) ∧
    (2 ≤ r → post.head? ≠ some "and" → 3 * d.toNat + 2 ≤ f → (Kn_parse f).2.1 (pre ++ (ws ++ post), (pre.length : Int), deep) = some (.ok (c, (pre.length : Int) + (ws.length : Int)))) ∧
    (1 ≤ r → post.head? ≠ some "and" → post.head? ≠ some "or" → 3 * d.toNat + 3 ≤ f → (Kn_parse f).1 (pre ++ (ws ++ post), (pre.length : Int), deep) = some (.ok (c, (pre.length : Int) + (ws.length : Int)))) := by
  -- from pieces to rows
  have up3 : ∀ {c : Cd} {ws : List Str} {d : Int}, (∀ (pre post : List Str) (deep : Int) (f : Nat), deep + d ≤ 6 → 3 * d.toNat + 1 ≤ f → (Kn_parse f).2.2 (pre ++ (ws ++ post), (pre.length : Int), deep) = some (.ok (c, (pre.length : Int) + (ws.length : Int)))) → ∀ (pre post : List Str) (deep : Int) (f : Nat), deep + d ≤ 6 →
      ((3 : Int) = 3 → 3 * d.toNat + 1 ≤ f → (Kn_parse f).2.2 (pre ++ (ws ++ post), (pre.length : Int), deep) = some (.ok (c, (pre.length : Int) + (ws.length : Int)))) ∧
      ((2 : Int) ≤ 3 → post.head? ≠ some "and" → 3 * d.toNat + 2 ≤ f → (Kn_parse f).2.1 (pre ++ (ws ++ post), (pre.length : Int), deep) = some (.ok (c, (pre.length : Int) + (ws.length : Int)))) ∧
      ((1 : Int) ≤ 3 → post.head? ≠ some "and" → post.head? ≠ some "or" → 3 * d.toNat + 3 ≤ f → (Kn_parse f).1 (pre ++ (ws ++ post), (pre.length : Int), deep) = some (.ok (c, (pre.length : Int) + (ws.length : Int)))) := by
    intro c ws d H pre post deep f hd
    have h2 : ∀ f, post.head? ≠ some "and" → 3 * d.toNat + 2 ≤ f → (Kn_parse f).2.1 (pre ++ (ws ++ post), (pre.length : Int), deep) = some (.ok (c, (pre.length : Int) + (ws.length : Int))) := fun f ha hf => by
      obtain ⟨k, rfl⟩ : ∃ k, f = k + 1 := ⟨f - 1, by omega⟩
      exact all_single rfl ha (H pre post deep k hd (by omega))
    refine ⟨fun _ hf => H pre post deep f hd hf, fun _ ha hf => h2 f ha hf, fun _ ha ho hf => ?_⟩
    obtain ⟨k, rfl⟩ : ∃ k, f = k + 1 := ⟨f - 1, by omega⟩
    exact some_single rfl ho (h2 k ha (by omega))
  have nw : (("not" : Str) == ("not" : Str)) = true := by decide +kernel
  have pn : (("(" : Str) == ("not" : Str)) = false := by decide +kernel
  have pw : (("(" : Str) == ("(" : Str)) = true := by decide +kernel
  have cw : ((")" : Str) == (")" : Str)) = true := by decide +kernel
  induction h with
  | @atom c g h =>
    refine up3 fun pre post deep f hd hf => ?_
    obtain ⟨k, rfl⟩ : ∃ k, f = k + 1 := ⟨f - 1, by omega⟩
    show M_piece_at (Kn_parse k) (pre ++ (wds c ++ post)) (pre.length : Int) deep = _
    obtain ⟨x, r, ex, hx1, hx2⟩ : ∃ x r, wds c = x :: r ∧ (x == ("not" : Str)) = false ∧ (x == ("(" : Str)) = false := by
      cases c with
      | plain u => exact ⟨"always", _, rfl, by decide +kernel, by decide +kernel⟩
      | cause u => exact ⟨"cause", _, rfl, by decide +kernel, by decide +kernel⟩
      | thing u => exact ⟨"thing", _, rfl, by decide +kernel, by decide +kernel⟩
      | days u => exact ⟨"days", _, rfl, by decide +kernel, by decide +kernel⟩
      | over u => exact ⟨"over", _, rfl, by decide +kernel, by decide +kernel⟩
      | notOf u => cases h
      | allOf u => cases h
      | someOf u => cases h
    have ea : L2.atI (pre ++ (wds c ++ post)) (pre.length : Int) = some x := by rw [ex]; exact at_mid pre x _
    unfold M_piece_at
    refine Ok.eq (ok_f ?_ ?_)
    · have := not_end pre (wds c ++ post) 0 (by rw [ex, List.length_append, List.length_cons]; omega)
      rwa [Int.add_zero] at this
    · rw [bd_of ea]
      refine ok_bd (Q := fun v => v = true) (ok_t (by rw [hx1]; rfl) ?_) fun v hv => ok_t hv ?_
      · rw [bd_of ea]; exact ok_some (by rw [hx2]; rfl)
      · rw [bdx_of (atom_ok g h pre post)]; exact ok_some rfl
  | @not c ws d h ih =>
    refine up3 fun pre post deep f hd hf => ?_
    have d0 := h.d0.1
    obtain ⟨k, rfl⟩ : ∃ k, f = k + 1 := ⟨f - 1, by omega⟩
    have e := (ih (pre ++ [("not" : Str)]) post (deep + 1) k (by omega)).1 rfl (by omega)
    rw [List.append_assoc, List.length_append] at e
    have e : (Kn_parse k).2.2 (pre ++ (("not" : Str) :: (ws ++ post)), (pre.length : Int) + 1, deep + 1) = some (.ok (c, (pre.length : Int) + 1 + (ws.length : Int))) := e
    show M_piece_at (Kn_parse k) (pre ++ (("not" : Str) :: (ws ++ post))) (pre.length : Int) deep = _
    have ea : L2.atI (pre ++ (("not" : Str) :: (ws ++ post))) (pre.length : Int) = some "not" := at_mid pre _ _
    unfold M_piece_at
    refine Ok.eq (ok_f ?_ ?_)
    · have := not_end pre (("not" : Str) :: (ws ++ post)) 0 (by rw [List.length_cons]; omega)
      rwa [Int.add_zero] at this
    · rw [bd_of ea]
      refine ok_bd (Q := fun v => v = false) (ok_f (by rw [nw]; rfl) (ok_some rfl)) fun v hv => ok_f hv (ok_f (by rw [beq_eq_false_iff_ne]; omega) ?_)
      rw [bd_of ea]
      refine ok_t nw ?_
      rw [bdx_of e]
      refine ok_some ?_
      show Xr.ok (Cd.notOf c, _) = Xr.ok (Cd.notOf c, _)
      rw [List.length_cons]
      congr 2
      omega
  | @par c r ws d h ih =>
    refine up3 fun pre post deep f hd hf => ?_
    have d0 := h.d0
    obtain ⟨k, rfl⟩ : ∃ k, f = k + 1 := ⟨f - 1, by omega⟩
    have e := (ih (pre ++ [("(" : Str)]) ((")" : Str) :: post) (deep + 1) k (by omega)).2.2 d0.2.1 (fun z => by cases z) (fun z => by cases z) (by omega)
    have eW : pre ++ [("(" : Str)] ++ (ws ++ ((")" : Str) :: post)) = pre ++ ((("(" : Str) :: (ws ++ [(")" : Str)])) ++ post) := by
      simp only [List.append_assoc, List.singleton_append, List.cons_append, List.nil_append]
    rw [eW, List.length_append] at e
    have e : (Kn_parse k).1 (pre ++ ((("(" : Str) :: (ws ++ [(")" : Str)])) ++ post), (pre.length : Int) + 1, deep + 1) = some (.ok (c, (pre.length : Int) + 1 + (ws.length : Int))) := e
    show M_piece_at (Kn_parse k) (pre ++ ((("(" : Str) :: (ws ++ [(")" : Str)])) ++ post)) (pre.length : Int) deep = _
    have ea : L2.atI (pre ++ ((("(" : Str) :: (ws ++ [(")" : Str)])) ++ post)) (pre.length : Int) = some "(" := at_mid pre _ _
    have ez : L2.atI (pre ++ ((("(" : Str) :: (ws ++ [(")" : Str)])) ++ post)) ((pre.length : Int) + 1 + (ws.length : Int)) = some ")" := by
      rw [← eW, ← List.append_assoc]
      have := at_mid (pre ++ [("(" : Str)] ++ ws) (")" : Str) post
      rw [List.length_append, List.length_append] at this
      exact this
    unfold M_piece_at
    refine Ok.eq (ok_f ?_ ?_)
    · have := not_end pre ((("(" : Str) :: (ws ++ [(")" : Str)])) ++ post) 0 (by rw [List.length_append, List.length_cons]; omega)
      rwa [Int.add_zero] at this
    · rw [bd_of ea]
      refine ok_bd (Q := fun v => v = false) (ok_t (by rw [pn]; rfl) ?_) fun v hv => ok_f hv (ok_f (by rw [beq_eq_false_iff_ne]; omega) ?_)
      · rw [bd_of ea]; exact ok_some (by rw [pw]; rfl)
      rw [bd_of ea]
      refine ok_f pn ?_
      rw [bdx_of e]
      refine ok_bd (Q := fun v => v = false) (ok_f ?_ ?_) fun v hv => ok_f hv (ok_some ?_)
      · show (((pre.length : Int) + 1 + (ws.length : Int)) == _) = false
        rw [beq_eq_false_iff_ne, List.length_append, List.length_append, List.length_cons, List.length_append]
        show _ ≠ ((pre.length + (ws.length + 1 + 1 + post.length) : Nat) : Int)
        omega
      · show Ok (bd (L2.atI _ ((pre.length : Int) + 1 + (ws.length : Int))) _) _
        rw [bd_of ez]
        exact ok_some (by rw [cw]; rfl)
      · show Xr.ok (c, _) = Xr.ok (c, _)
        rw [List.length_cons, List.length_append]
        congr 2
        show (pre.length : Int) + 1 + (ws.length : Int) + 1 = (pre.length : Int) + ((ws.length + 1 + 1 : Nat) : Int)
        omega
  | @all ps d l k h ih =>
    intro pre post deep f hd
    have h2 : ∀ f, post.head? ≠ some "and" → 3 * d.toNat + 2 ≤ f → (Kn_parse f).2.1 (pre ++ (jn "and" (ps.map (·.2.2)) ++ post), (pre.length : Int), deep) = some (.ok (.allOf (ps.map (·.1)), (pre.length : Int) + ((jn "and" (ps.map (·.2.2))).length : Int))) := fun f ha hf => by
      obtain ⟨q, rfl⟩ : ∃ q, f = q + 1 := ⟨f - 1, by omega⟩
      cases ps with
      | nil => exact absurd l.1 (by decide)
      | cons p r =>
        have g1 : ∀ p' ∈ p :: r, ∀ pre' post' : List Str, (Kn_parse q).2.2 (pre' ++ (p'.2.2 ++ post'), (pre'.length : Int), deep) = some (.ok (p'.1, (pre'.length : Int) + (p'.2.2.length : Int))) := fun p' m pre' post' => (ih p' m pre' post' deep q hd).1 (k p' m) (by omega)
        generalize eW : pre ++ (jn "and" ((p :: r).map (·.2.2)) ++ post) = W
        have hW1 : W = pre ++ (p.2.2 ++ (tail "and" (r.map (·.2.2)) ++ post)) := by
          rw [← eW]
          show pre ++ ((p.2.2 ++ tail "and" (r.map (·.2.2))) ++ post) = _
          rw [List.append_assoc]
        have ef := g1 p List.mem_cons_self pre (tail "and" (r.map (·.2.2)) ++ post)
        rw [← hW1] at ef
        have em : (r.map fun p => (p.1, p.2.2)).map (·.2) = r.map (·.2.2) := by rw [List.map_map]; rfl
        have em1 : (r.map fun p => (p.1, p.2.2)).map (·.1) = r.map (·.1) := by rw [List.map_map]; rfl
        obtain ⟨c1, el⟩ := parts_loop (w := "and") (g := (Kn_parse q).2.2) (deep := deep) (r.map fun p => (p.1, p.2.2)) W (pre ++ p.2.2) post p.1 [p.1] (by rw [em, hW1]; simp only [List.append_assoc]) ha (by rw [List.length_map]; have := l.2; rw [List.length_cons] at this; show 1 + _ ≤ 8; omega) (fun p' m pre' post' hw _ => by
          obtain ⟨p'', m'', rfl⟩ := List.mem_map.mp m
          rw [hw]
          exact g1 p'' (List.mem_cons_of_mem _ m'') pre' post')
        rw [em, em1, List.length_append] at el
        show M_all_at (Kn_parse q) W (pre.length : Int) deep = _
        unfold M_all_at
        rw [bdx_of ef]
        show bd (wl (Ct W "and") (Bt W deep (Kn_parse q).2.2) (p.1, ((pre.length + p.2.2.length : Nat) : Int), [p.1])) _ = _
        rw [bd_of el]
        have l1 := l.1
        rw [List.length_cons] at l1
        show cond ((([p.1] ++ r.map (·.1)).length : Int) == 1) _ _ = _
        rw [beq_eq_false_iff_ne.mpr (show (([p.1] ++ r.map (·.1)).length : Int) ≠ 1 from by rw [List.length_append, List.length_map]; show ((1 + r.length : Nat) : Int) ≠ 1; omega)]
        show some (Xr.ok ((Cd.allOf ([p.1] ++ r.map (·.1))), _)) = some (Xr.ok (Cd.allOf ((p :: r).map (·.1)), _))
        congr 3
        show ((pre.length + p.2.2.length : Nat) : Int) + _ = (pre.length : Int) + (((p.2.2 ++ tail "and" (r.map (·.2.2))).length : Nat) : Int)
        rw [List.length_append]
        omega
    refine ⟨fun z => absurd z (by decide), fun _ ha hf => h2 f ha hf, fun _ ha ho hf => ?_⟩
    obtain ⟨q, rfl⟩ : ∃ q, f = q + 1 := ⟨f - 1, by omega⟩
    exact some_single rfl ho (h2 q ha (by omega))
  | @some ps d l k h ih =>
    intro pre post deep f hd
    refine ⟨fun z => absurd z (by decide), fun z => absurd z (by decide), fun _ ha ho hf => ?_⟩
    obtain ⟨q, rfl⟩ : ∃ q, f = q + 1 := ⟨f - 1, by omega⟩
    cases ps with
    | nil => exact absurd l.1 (by decide)
    | cons p r =>
      have g1 : ∀ p' ∈ p :: r, ∀ pre' post' : List Str, post'.head? ≠ some "and" → (Kn_parse q).2.1 (pre' ++ (p'.2.2 ++ post'), (pre'.length : Int), deep) = some (.ok (p'.1, (pre'.length : Int) + (p'.2.2.length : Int))) := fun p' m pre' post' z => (ih p' m pre' post' deep q hd).2.1 (k p' m) z (by omega)
      have hoa : ∀ (xs : List (List Str)), (tail "or" xs ++ post).head? ≠ some ("and" : Str) := fun xs => by
        cases xs with
        | nil => exact ha
        | cons x r => exact fun z => by cases z
      generalize eW : pre ++ (jn "or" ((p :: r).map (·.2.2)) ++ post) = W
      have hW1 : W = pre ++ (p.2.2 ++ (tail "or" (r.map (·.2.2)) ++ post)) := by
        rw [← eW]
        show pre ++ ((p.2.2 ++ tail "or" (r.map (·.2.2))) ++ post) = _
        rw [List.append_assoc]
      have ef := g1 p List.mem_cons_self pre (tail "or" (r.map (·.2.2)) ++ post) (hoa _)
      rw [← hW1] at ef
      have em : (r.map fun p => (p.1, p.2.2)).map (·.2) = r.map (·.2.2) := by rw [List.map_map]; rfl
      have em1 : (r.map fun p => (p.1, p.2.2)).map (·.1) = r.map (·.1) := by rw [List.map_map]; rfl
      obtain ⟨c1, el⟩ := parts_loop (w := "or") (g := (Kn_parse q).2.1) (deep := deep) (r.map fun p => (p.1, p.2.2)) W (pre ++ p.2.2) post p.1 [p.1] (by rw [em, hW1]; simp only [List.append_assoc]) ho (by rw [List.length_map]; have := l.2; rw [List.length_cons] at this; show 1 + _ ≤ 8; omega) (fun p' m pre' post' hw hh => by
        obtain ⟨p'', m'', rfl⟩ := List.mem_map.mp m
        rw [hw]
        refine g1 p'' (List.mem_cons_of_mem _ m'') pre' post' ?_
        rcases hh with hh | hh
        · rw [hh]; exact fun z => by cases z
        · rw [hh]; exact ha)
      rw [em, em1, List.length_append] at el
      show M_some_at (Kn_parse q) W (pre.length : Int) deep = _
      unfold M_some_at
      rw [bdx_of ef]
      show bd (wl (Ct W "or") (Bt W deep (Kn_parse q).2.1) (p.1, ((pre.length + p.2.2.length : Nat) : Int), [p.1])) _ = _
      rw [bd_of el]
      have l1 := l.1
      rw [List.length_cons] at l1
      show cond ((([p.1] ++ r.map (·.1)).length : Int) == 1) _ _ = _
      rw [beq_eq_false_iff_ne.mpr (show (([p.1] ++ r.map (·.1)).length : Int) ≠ 1 from by rw [List.length_append, List.length_map]; show ((1 + r.length : Nat) : Int) ≠ 1; omega)]
      show some (Xr.ok ((Cd.someOf ([p.1] ++ r.map (·.1))), _)) = some (Xr.ok (Cd.someOf ((p :: r).map (·.1)), _))
      congr 3
      show ((pre.length + p.2.2.length : Nat) : Int) + _ = (pre.length : Int) + (((p.2.2 ++ tail "or" (r.map (·.2.2))).length : Nat) : Int)
      rw [List.length_append]
      omega
  | @up c r ws d e h l ih =>
    intro pre post deep f hd
    have d0 := h.d0.1
    obtain ⟨h1, h2, h3⟩ := ih pre post deep f (by omega)
    exact ⟨fun a b => h1 a (by omega), fun a b z => h2 a b (by omega), fun a b z w => h3 a b z (by omega)⟩
theorem Tx.ne {c : Cd} {r : Int} {ws : List Str} {d : Int} (h : Tx c r ws d) : ws ≠ [] := by
  induction h with
  | atom g h => exact wds_ne g
  | not h => exact fun z => nomatch z
  | par h => exact fun z => nomatch z
  | @all ps d l k h ih =>
    cases ps with
    | nil => exact absurd l.1 (by decide)
    | cons p r => exact fun z => ih p List.mem_cons_self (List.append_eq_nil_iff.mp z).1
  | @some ps d l k h ih =>
    cases ps with
    | nil => exact absurd l.1 (by decide)
    | cons p r => exact fun z => ih p List.mem_cons_self (List.append_eq_nil_iff.mp z).1
  | up h l ih => exact ih
theorem Tx.wd {c : Cd} {r : Int} {ws : List Str} {d : Int} (h : Tx c r ws d) : ∀ w ∈ ws, Wd w := by
  induction h with
  | atom g h => exact wds_wd g
  | not h ih =>
    intro w m
    rcases List.mem_cons.mp m with rfl | m
    · exact lit_wd (by decide +kernel)
    · exact ih w m
  | par h ih =>
    intro w m
    rcases List.mem_cons.mp m with rfl | m
    · exact lit_wd (by decide +kernel)
    · rcases List.mem_append.mp m with m | m
      · exact ih w m
      · cases List.mem_singleton.mp m; exact lit_wd (by decide +kernel)
  | all l k h ih => exact jn_wd (lit_wd (by decide +kernel)) fun x m => by obtain ⟨p, mp, rfl⟩ := List.mem_map.mp m; exact ih p mp
  | some l k h ih => exact jn_wd (lit_wd (by decide +kernel)) fun x m => by obtain ⟨p, mp, rfl⟩ := List.mem_map.mp m; exact ih p mp
  | up h l ih => exact ih
theorem blank_S : ((" ") : Str) = S [32] := by decide +kernel
theorem join_gd {ws : List Str} (h : ∀ w ∈ ws, Wd w) (hl : ws.length ≤ 900) : (ws.map (·.length)).sum + ws.length * (" " : Str).length ≤ 16777216 := by
  have h1 := join_len (ys := ws) (n := 63) fun y m => (h y m).1
  have h2 : (" " : Str).length = 1 := by decide +kernel
  rw [h2]
  omega
theorem split_join {ws : List Str} (h : ∀ w ∈ ws, Wd w) (ne : ws ≠ []) : Txt.split (Txt.join (" " : Str) ws) (" " : Str) = ws := by
  rw [join_is, blank_S, split_S (by simp) (by decide)]
  show (spl [32] 0 [] (joinL [32] (ws.map fun y => y.cps.toList))).map S = ws
  rw [TL.spl_join (by simpa using ne) fun p m => by obtain ⟨w, mw, rfl⟩ := List.mem_map.mp m; exact (h w mw).2, List.map_map]
  have e : (S ∘ fun y : Str => y.cps.toList) = id := funext fun y => S_tl y
  rw [e, List.map_id]
theorem read_cond_ok {c : Cd} {r : Int} {ws : List Str} {d : Int} (h : Tx c r ws d) (hd : d ≤ 6) (hl : ws.length ≤ 60) : M_read_condition (Txt.join (" " : Str) ws) = some (.ok c) := by
  have hw := h.wd
  have e := (parse h [] [] 0 64 (by omega)).2.2 h.d0.2.1 (fun z => by cases z) (fun z => by cases z) (by omega)
  rw [List.append_nil] at e
  have e : Mf_some_at 64 ws 0 0 = some (.ok (c, (0 : Int) + (ws.length : Int))) := e
  have sj := sm_join (p := (" " : Str)) (m := 1) ⟨by decide +kernel, by decide +kernel⟩ (n := 63) fun y m => (hw y m).1
  have jl := sj.1
  unfold M_read_condition
  refine Ok.eq (ok_f rfl (ok_gd ⟨by decide +kernel, by
    show _ ≤ 16777216
    have : ws.length * (63 + 1) ≤ 60 * 64 := Nat.mul_le_mul_right _ hl
    omega⟩ (ok_lt ?_)))
  rw [split_join hw h.ne]
  refine ok_f (decide_eq_false (by omega)) ?_
  rw [bdx_of e]
  exact ok_f (decide_eq_false (by show ¬ ((0 : Int) + (ws.length : Int) < _); omega)) (ok_some rfl)
open SX TL
theorem wl_nx {V R : Type} {c : V → Option Bool} {b : V → Option (Ou V V R)} {v v' : V} {o : Ou V V R} (hc : c v = some true) (hb : b v = some (.nx v')) (h : wl c b v' = some o) : wl c b v = some o := by
  obtain ⟨n, e⟩ := wl_some h
  refine wl_of (n := n + 1) ?_
  show bd (c v) _ = _
  rw [bd_of hc]
  show bd (b v) _ = _
  rw [bd_of hb]
  exact e
theorem wl_rt {V R : Type} {c : V → Option Bool} {b : V → Option (Ou V V R)} {v : V} {r : R} (hc : c v = some true) (hb : b v = some (.rt r)) : wl c b v = some (.rt r) := by
  refine wl_of (n := 1) ?_
  show bd (c v) _ = _
  rw [bd_of hc]
  show bd (b v) _ = _
  rw [bd_of hb]
theorem wl_end {V R : Type} {c : V → Option Bool} {b : V → Option (Ou V V R)} {v : V} (hc : c v = some false) : wl c b v = some (.nx v) := by
  refine wl_of (n := 1) ?_
  show bd (c v) _ = _
  rw [bd_of hc]
  rfl
/-- pieces, each followed by w -/
def hdw (w : Str) : List (List Str) → List Str
  | [] => []
  | x :: r => x ++ (w :: hdw w r)
theorem hdw_tail (w : Str) : ∀ (x : List Str) (xs : List (List Str)) (y : List Str), hdw w (x :: xs) ++ y = x ++ (tail w xs ++ (w :: y))
  | x, [], y => by
    show (x ++ [w]) ++ y = x ++ ([] ++ (w :: y))
    simp
  | x, z :: r, y => by
    show (x ++ (w :: hdw w (z :: r))) ++ y = x ++ ((w :: (z ++ tail w r)) ++ (w :: y))
    have ih := hdw_tail w z r y
    rw [List.append_assoc, List.cons_append, ih]
    simp only [List.cons_append, List.append_assoc]
theorem parts_go {w : Str} {g : List Str × Int × Int → Option (Xr Xc (Cd × Int))} {deep : Int} {W post : List Str} : ∀ (ps : List (Cd × List Str)) (pre : List Str) (c0 : Cd) (done : List Cd), W = pre ++ (tail w (ps.map (·.2)) ++ (w :: post)) → done.length + ps.length ≤ 8 →
    (∀ p ∈ ps, ∀ pre' post' : List Str, W = pre' ++ (p.2 ++ (w :: post')) → g (W, (pre'.length : Int), deep) = some (.ok (p.1, (pre'.length : Int) + (p.2.length : Int)))) →
    ∃ c1, ∀ o, wl (Ct W w) (Bt W deep g) (c1, (pre.length : Int) + ((tail w (ps.map (·.2))).length : Int), done ++ ps.map (·.1)) = some o → wl (Ct W w) (Bt W deep g) (c0, (pre.length : Int), done) = some o := by
  intro ps
  induction ps with
  | nil =>
    intro pre c0 done hW _ _
    refine ⟨c0, fun o h => ?_⟩
    have h : wl (Ct W w) (Bt W deep g) (c0, (pre.length : Int) + ((0 : Nat) : Int), done ++ []) = some o := h
    rwa [List.append_nil, show (pre.length : Int) + ((0 : Nat) : Int) = (pre.length : Int) by omega] at h
  | cons p r ih =>
    intro pre c0 done hW hl hg
    have hW1 : W = pre ++ (w :: (p.2 ++ (tail w (r.map (·.2)) ++ (w :: post)))) := by
      rw [hW]
      show pre ++ ((w :: (p.2 ++ tail w (r.map (·.2)))) ++ _) = _
      rw [List.cons_append, List.append_assoc]
    have hW2 : W = (pre ++ [w]) ++ (p.2 ++ (tail w (r.map (·.2)) ++ (w :: post))) := by rw [hW1, List.append_assoc]; rfl
    have hW3 : W = (pre ++ [w] ++ p.2) ++ (tail w (r.map (·.2)) ++ (w :: post)) := by rw [hW2]; simp only [List.append_assoc]
    rw [List.length_cons] at hl
    have e : g (W, ((pre ++ [w]).length : Int), deep) = some (.ok (p.1, ((pre ++ [w]).length : Int) + (p.2.length : Int))) := by
      cases r with
      | nil => exact hg p List.mem_cons_self (pre ++ [w]) post hW2
      | cons q r => exact hg p List.mem_cons_self (pre ++ [w]) (q.2 ++ tail w (r.map (·.2)) ++ (w :: post)) hW2
    obtain ⟨c1, en⟩ := ih (pre ++ [w] ++ p.2) p.1 (done ++ [p.1]) hW3 (by rw [List.length_append]; show done.length + 1 + _ ≤ 8; omega) fun q m => hg q (List.mem_cons_of_mem _ m)
    refine ⟨c1, fun o ho => ?_⟩
    have hc : Ct W w (c0, (pre.length : Int), done) = some true := by rw [hW1]; exact ct_hit
    have hb : Bt W deep g (c0, (pre.length : Int), done) = some (.nx (p.1, ((pre ++ [w] ++ p.2).length : Int), done ++ [p.1])) := by
      unfold Bt
      show cond ((done.length : Int) == 8) _ _ = _
      rw [beq_eq_false_iff_ne.mpr (show (done.length : Int) ≠ 8 by omega)]
      show bdo (g (W, (pre.length : Int) + 1, deep)) _ = _
      have e' : g (W, (pre.length : Int) + 1, deep) = some (.ok (p.1, ((pre ++ [w] ++ p.2).length : Int))) := by
        rw [List.length_append] at e
        rw [show (pre.length : Int) + 1 = ((pre.length + [w].length : Nat) : Int) from rfl, e, List.length_append, List.length_append]
        congr 3
      rw [bdo_of e']
      show gd (done.length < sizeLine) _ = _
      rw [gd_pos (szl (by omega))]
      rfl
    refine wl_nx hc hb (en o ?_)
    have e1 : ((pre ++ [w] ++ p.2).length : Int) + ((tail w (r.map (·.2))).length : Int) = (pre.length : Int) + ((tail w ((p :: r).map (·.2))).length : Int) := by
      show _ = (pre.length : Int) + (((w :: (p.2 ++ tail w (r.map (·.2)))).length : Nat) : Int)
      rw [List.length_cons, List.length_append, List.length_append, List.length_append]
      show ((pre.length + 1 + p.2.length : Nat) : Int) + _ = _
      omega
    rw [e1, List.append_assoc]
    exact ho
/-- the three ways to read: 3 a piece, 2 pieces joined by and, 1 rows joined by or -/
noncomputable def Lv (f : Nat) : Nat → List Str × Int × Int → Option (Xr Xc (Cd × Int))
  | 3 => (Kn_parse f).2.2
  | 2 => (Kn_parse f).2.1
  | _ => (Kn_parse f).1
/-- what stands ahead of a place: from how many open, how read, how what stands at the place is read, the words, how many open there, is a bracket among them -/
inductive Hx : Int → Nat → Nat → List Str → Int → Bool → Prop where
  | id {o : Int} {r : Nat} : Hx o r r [] o false
  | not {o e : Int} {h : Nat} {ws : List Str} {b : Bool} (l : o < 6) (x : Hx (o + 1) 3 h ws e b) : Hx o 3 h (("not" : Str) :: ws) e b
  | par {o e : Int} {h : Nat} {ws : List Str} {b : Bool} (l : o < 6) (x : Hx (o + 1) 1 h ws e b) : Hx o 3 h (("(" : Str) :: ws) e true
  | all {o e d : Int} {h : Nat} {ws : List Str} {b : Bool} (ps : List (Cd × List Str)) (l : ps.length ≤ 7) (ld : o + d ≤ 6) (t : ∀ p ∈ ps, Tx p.1 3 p.2 d) (x : Hx o 3 h ws e b) : Hx o 2 h (hdw "and" (ps.map (·.2)) ++ ws) e b
  | some {o e d : Int} {h : Nat} {ws : List Str} {b : Bool} (ps : List (Cd × List Str)) (l : ps.length ≤ 7) (ld : o + d ≤ 6) (t : ∀ p ∈ ps, ∃ r, 2 ≤ r ∧ Tx p.1 r p.2 d) (x : Hx o 2 h ws e b) : Hx o 1 h (hdw "or" (ps.map (·.2)) ++ ws) e b
theorem Hx.le {o e : Int} {r h : Nat} {ws : List Str} {b : Bool} (x : Hx o r h ws e b) : o ≤ e := by
  induction x with
  | id => exact Int.le_refl _
  | not l x ih => omega
  | par l x ih => omega
  | all ps l ld t x ih => exact ih
  | some ps l ld t x ih => exact ih
theorem piece_not {k : Nat} {W : List Str} {pre post : List Str} {o : Int} (hW : W = pre ++ (("not" : Str) :: post)) (ho : o < 6) : (Kn_parse (k + 1)).2.2 (W, (pre.length : Int), o) = bdx ((Kn_parse k).2.2 (W, (pre.length : Int) + 1, o + 1)) fun v => bd (M_Not___init__ v.1) fun z => some (.ok (Cd.notOf z, v.2)) := by
  have nw : (("not" : Str) == ("not" : Str)) = true := by decide +kernel
  have ea : L2.atI W (pre.length : Int) = some ("not" : Str) := by rw [hW]; exact at_mid pre _ _
  show M_piece_at (Kn_parse k) W (pre.length : Int) o = _
  unfold M_piece_at
  have hne : ((pre.length : Int) == (W.length : Int)) = false := by
    have := not_end pre (("not" : Str) :: post) 0 (by rw [List.length_cons]; omega)
    rw [hW]
    rwa [Int.add_zero] at this
  rw [hne, bd_of ea]
  show bd (cond (!(("not" : Str) == ("not" : Str))) _ _) _ = _
  rw [nw]
  show cond (o == 6) _ _ = _
  rw [beq_eq_false_iff_ne.mpr (show o ≠ 6 by omega)]
  show bd (L2.atI W (pre.length : Int)) _ = _
  rw [bd_of ea, nw]
  rfl
theorem piece_par {k : Nat} {W : List Str} {pre post : List Str} {o : Int} (hW : W = pre ++ (("(" : Str) :: post)) (ho : o < 6) : (Kn_parse (k + 1)).2.2 (W, (pre.length : Int), o) = bdx ((Kn_parse k).1 (W, (pre.length : Int) + 1, o + 1)) fun v => bd (cond ((v.2 == (W.length : Int))) (some true) (bd (L2.atI W v.2) fun v13 => some ((!(v13 == (")" : Str)))))) fun v14 => cond v14 (some (.er (.NoWords v.2))) <| some (.ok (v.1, (v.2 + 1))) := by
  have nw : (("(" : Str) == ("not" : Str)) = false := by decide +kernel
  have pw : (("(" : Str) == ("(" : Str)) = true := by decide +kernel
  have ea : L2.atI W (pre.length : Int) = some ("(" : Str) := by rw [hW]; exact at_mid pre _ _
  show M_piece_at (Kn_parse k) W (pre.length : Int) o = _
  unfold M_piece_at
  have hne : ((pre.length : Int) == (W.length : Int)) = false := by
    have := not_end pre (("(" : Str) :: post) 0 (by rw [List.length_cons]; omega)
    rw [hW]
    rwa [Int.add_zero] at this
  rw [hne, bd_of ea]
  show bd (cond (!(("(" : Str) == ("not" : Str))) (bd (L2.atI W (pre.length : Int)) _) _) _ = _
  rw [nw]
  show bd (bd (L2.atI W (pre.length : Int)) _) _ = _
  rw [bd_of ea, pw]
  show cond (o == 6) _ _ = _
  rw [beq_eq_false_iff_ne.mpr (show o ≠ 6 by omega)]
  show bd (L2.atI W (pre.length : Int)) _ = _
  rw [bd_of ea, nw]
  rfl
theorem all_is {k : Nat} {W : List Str} {i o : Int} : (Kn_parse (k + 1)).2.1 (W, i, o) = bdx ((Kn_parse k).2.2 (W, i, o)) fun v => bd (wl (Ct W "and") (Bt W o (Kn_parse k).2.2) (v.1, v.2, [v.1])) fun q => ouR q fun p => cond ((p.2.2.length : Int) == 1) (some (.ok (p.1, p.2.1))) (bd (M_All___init__ p.2.2) fun z => some (.ok (Cd.allOf z, p.2.1))) := rfl
theorem some_is {k : Nat} {W : List Str} {i o : Int} : (Kn_parse (k + 1)).1 (W, i, o) = bdx ((Kn_parse k).2.1 (W, i, o)) fun v => bd (wl (Ct W "or") (Bt W o (Kn_parse k).2.1) (v.1, v.2, [v.1])) fun q => ouR q fun p => cond ((p.2.2.length : Int) == 1) (some (.ok (p.1, p.2.1))) (bd (M_Some___init__ p.2.2) fun z => some (.ok (Cd.someOf z, p.2.1))) := rfl
/-- a refusal at a place is a refusal of the whole -/
theorem parts_er {f : Nat} {w : Str} {g : List Str × Int × Int → Option (Xr Xc (Cd × Int))} {deep : Int} {E : Xc} {W pre post : List Str} {p : Cd × List Str} {ps : List (Cd × List Str)} (hW : W = pre ++ (hdw w ((p :: ps).map (·.2)) ++ post)) (l : (p :: ps).length ≤ 8)
    (hg : ∀ q ∈ p :: ps, ∀ pre' post' : List Str, W = pre' ++ (q.2 ++ (w :: post')) → g (W, (pre'.length : Int), deep) = some (.ok (q.1, (pre'.length : Int) + (q.2.length : Int))))
    (hE : ∀ c1 ds, ds.length = (p :: ps).length → Bt W deep g (c1, ((pre.length + (hdw w ((p :: ps).map (·.2))).length : Nat) : Int) - 1, ds) = some (.rt (.er E))) :
    g (W, (pre.length : Int), deep) = some (.ok (p.1, (pre.length : Int) + (p.2.length : Int))) ∧ wl (Ct W w) (Bt W deep g) (p.1, (pre.length : Int) + (p.2.length : Int), [p.1]) = some (.rt (.er E)) := by
  have hW1 : W = pre ++ (p.2 ++ (tail w (ps.map (·.2)) ++ (w :: post))) := by
    rw [hW, List.map_cons, hdw_tail]
  have hp : g (W, (pre.length : Int), deep) = some (.ok (p.1, (pre.length : Int) + (p.2.length : Int))) := by
    cases ps with
    | nil => exact hg p List.mem_cons_self pre post hW1
    | cons q r => exact hg p List.mem_cons_self pre (q.2 ++ tail w (r.map (·.2)) ++ (w :: post)) hW1
  rw [List.length_cons] at l
  obtain ⟨c1, go⟩ := parts_go (w := w) (g := g) (deep := deep) ps (pre ++ p.2) p.1 [p.1] (by rw [hW1, List.append_assoc]) (by show 1 + _ ≤ 8; omega) fun q m => hg q (List.mem_cons_of_mem _ m)
  rw [List.length_append] at go
  have hl : (hdw w ((p :: ps).map (·.2))).length = p.2.length + (tail w (ps.map (·.2))).length + 1 := by
    have := congrArg List.length (hdw_tail w p.2 (ps.map (·.2)) [])
    rw [List.append_nil] at this
    rw [List.map_cons, this, List.length_append, List.length_append, List.length_cons, List.length_nil]
    omega
  refine ⟨hp, go _ (wl_rt ?_ ?_)⟩
  · have e : ((pre.length + p.2.length : Nat) : Int) + ((tail w (ps.map (·.2))).length : Int) = ((pre ++ p.2 ++ tail w (ps.map (·.2))).length : Int) := by
      rw [List.length_append, List.length_append]; rfl
    rw [e, show W = (pre ++ p.2 ++ tail w (ps.map (·.2))) ++ (w :: post) from by rw [hW1]; simp only [List.append_assoc]]
    exact ct_hit
  · have := hE c1 ([p.1] ++ ps.map (·.1)) (by rw [List.length_append, List.length_map]; show 1 + ps.length = ps.length + 1; omega)
    rw [hl] at this
    rw [show ((pre.length + (p.2.length + (tail w (ps.map (·.2))).length + 1) : Nat) : Int) - 1 = ((pre.length + p.2.length : Nat) : Int) + ((tail w (ps.map (·.2))).length : Int) from by omega] at this
    exact this
theorem bt_er {g : List Str × Int × Int → Option (Xr Xc (Cd × Int))} {deep i : Int} {E : Xc} {W : List Str} {c : Cd} {ds : List Cd} (l : ds.length ≤ 7) (h : g (W, i + 1, deep) = some (.er E)) : Bt W deep g (c, i, ds) = some (.rt (.er E)) := by
  unfold Bt
  show cond ((ds.length : Int) == 8) _ _ = _
  rw [beq_eq_false_iff_ne.mpr (show (ds.length : Int) ≠ 8 by omega)]
  show bdo (g (W, i + 1, deep)) _ = _
  rw [bdo_er h]
theorem bt_9 {g : List Str × Int × Int → Option (Xr Xc (Cd × Int))} {deep i : Int} {W : List Str} {c : Cd} {ds : List Cd} (l : ds.length = 8) : Bt W deep g (c, i, ds) = some (.rt (.er (.NoWords (i + 1)))) := by
  unfold Bt
  show cond ((ds.length : Int) == 8) _ _ = _
  rw [l]
  rfl
/-- parts of a row, read -/
theorem read3 {k : Nat} {c : Cd} {q : List Str} {d o : Int} (h : Tx c 3 q d) (ld : o + d ≤ 6) (l0 : 0 ≤ o) (lk : 19 ≤ k) {W pre post : List Str} (hW : W = pre ++ (q ++ post)) : (Kn_parse k).2.2 (W, (pre.length : Int), o) = some (.ok (c, (pre.length : Int) + (q.length : Int))) := by
  have := h.d0.1
  rw [hW]
  exact (parse h pre post o k ld).1 rfl (by omega)
theorem read2 {k : Nat} {c : Cd} {q : List Str} {r d o : Int} (h : Tx c r q d) (lr : 2 ≤ r) (ld : o + d ≤ 6) (l0 : 0 ≤ o) (lk : 20 ≤ k) {W pre post : List Str} (hW : W = pre ++ (q ++ post)) (ha : post.head? ≠ some "and") : (Kn_parse k).2.1 (W, (pre.length : Int), o) = some (.ok (c, (pre.length : Int) + (q.length : Int))) := by
  have := h.d0.1
  rw [hW]
  exact (parse h pre post o k ld).2.1 lr ha (by omega)
theorem or_and {post : List Str} : (("or" : Str) :: post).head? ≠ some ("and" : Str) := fun z => by cases z
theorem up_er {o e : Int} {r h : Nat} {ws : List Str} {b : Bool} (x : Hx o r h ws e b) (hr : 1 ≤ r ∧ r ≤ 3) (h0 : 0 ≤ o) {E : Xc} {m : Nat} (hm : 20 ≤ m) : ∀ (W pre post : List Str) (f : Nat), W = pre ++ (ws ++ post) → (∀ g, m ≤ g → Lv g h (W, ((pre.length + ws.length : Nat) : Int), e) = some (.er E)) → m + (3 * (e - o)).toNat + (3 - r) ≤ f → Lv f r (W, (pre.length : Int), o) = some (.er E) := by
  induction x with
  | id =>
    intro W pre post f hW H hf
    exact H f (by omega)
  | @not o e h ws b l x ih =>
    intro W pre post f hW H hf
    have le := x.le
    obtain ⟨k, rfl⟩ : ∃ k, f = k + 1 := ⟨f - 1, by omega⟩
    show (Kn_parse (k + 1)).2.2 (W, (pre.length : Int), o) = _
    have hW2 : W = (pre ++ [("not" : Str)]) ++ (ws ++ post) := by rw [hW, List.append_assoc]; rfl
    have e1 := ih (by decide) (by omega) W (pre ++ [("not" : Str)]) post k hW2 (fun g hg => by
      have := H g hg
      rw [List.length_cons, show pre.length + (ws.length + 1) = (pre ++ [("not" : Str)]).length + ws.length by rw [List.length_append]; show _ = pre.length + 1 + _; omega] at this
      exact this) (by omega)
    rw [List.length_append] at e1
    rw [piece_not (show W = pre ++ (("not" : Str) :: (ws ++ post)) from hW) l]
    exact bdx_er e1
  | @par o e h ws b l x ih =>
    intro W pre post f hW H hf
    have le := x.le
    obtain ⟨k, rfl⟩ : ∃ k, f = k + 1 := ⟨f - 1, by omega⟩
    show (Kn_parse (k + 1)).2.2 (W, (pre.length : Int), o) = _
    have hW2 : W = (pre ++ [("(" : Str)]) ++ (ws ++ post) := by rw [hW, List.append_assoc]; rfl
    have e1 := ih (by decide) (by omega) W (pre ++ [("(" : Str)]) post k hW2 (fun g hg => by
      have := H g hg
      rw [List.length_cons, show pre.length + (ws.length + 1) = (pre ++ [("(" : Str)]).length + ws.length by rw [List.length_append]; show _ = pre.length + 1 + _; omega] at this
      exact this) (by omega)
    rw [List.length_append] at e1
    rw [piece_par (show W = pre ++ (("(" : Str) :: (ws ++ post)) from hW) l]
    exact bdx_er e1
  | @all o e d h ws b ps l ld t x ih =>
    intro W pre post f hW H hf
    have le := x.le
    obtain ⟨k, rfl⟩ : ∃ k, f = k + 1 := ⟨f - 1, by omega⟩
    show (Kn_parse (k + 1)).2.1 (W, (pre.length : Int), o) = _
    rw [all_is]
    cases ps with
    | nil => exact bdx_er (ih (by decide) h0 W pre post k hW H (by omega))
    | cons p ps =>
      have e1 := ih (by decide) h0 W (pre ++ hdw "and" ((p :: ps).map (·.2))) post k (by rw [hW]; simp only [List.append_assoc]) (fun g hg => by
        have := H g hg
        rw [List.length_append] at this
        rw [List.length_append, Nat.add_assoc]
        exact this) (by omega)
      obtain ⟨a1, a2⟩ := parts_er (f := k) (w := "and") (g := (Kn_parse k).2.2) (deep := o) (E := E) (W := W) (pre := pre) (post := ws ++ post) (p := p) (ps := ps) (by rw [hW, List.append_assoc]) (by omega) (fun q m pre' post' hq => read3 (t q m) ld h0 (by omega) hq) (fun c1 ds hd => bt_er (by omega) (by
        rw [List.length_append] at e1
        rw [Int.sub_add_cancel]
        exact e1))
      rw [bdx_of a1]
      show bd (wl _ _ _) _ = _
      rw [bd_of a2]
      rfl
  | @some o e d h ws b ps l ld t x ih =>
    intro W pre post f hW H hf
    have le := x.le
    obtain ⟨k, rfl⟩ : ∃ k, f = k + 1 := ⟨f - 1, by omega⟩
    show (Kn_parse (k + 1)).1 (W, (pre.length : Int), o) = _
    rw [some_is]
    cases ps with
    | nil => exact bdx_er (ih (by decide) h0 W pre post k hW H (by omega))
    | cons p ps =>
      have e1 := ih (by decide) h0 W (pre ++ hdw "or" ((p :: ps).map (·.2))) post k (by rw [hW]; simp only [List.append_assoc]) (fun g hg => by
        have := H g hg
        rw [List.length_append] at this
        rw [List.length_append, Nat.add_assoc]
        exact this) (by omega)
      obtain ⟨a1, a2⟩ := parts_er (f := k) (w := "or") (g := (Kn_parse k).2.1) (deep := o) (E := E) (W := W) (pre := pre) (post := ws ++ post) (p := p) (ps := ps) (by rw [hW, List.append_assoc]) (by omega) (fun q m pre' post' hq => by
        obtain ⟨r, lr, tr⟩ := t q m
        exact read2 tr lr ld h0 (by omega) hq or_and) (fun c1 ds hd => bt_er (by omega) (by
        rw [List.length_append] at e1
        rw [Int.sub_add_cancel]
        exact e1))
      rw [bdx_of a1]
      show bd (wl _ _ _) _ = _
      rw [bd_of a2]
      rfl
/-- a ninth part -/
theorem nine_and {o d : Int} {ps : List (Cd × List Str)} (l : ps.length = 8) (ld : o + d ≤ 6) (h0 : 0 ≤ o) (t : ∀ p ∈ ps, Tx p.1 3 p.2 d) {W pre post : List Str} (hW : W = pre ++ (hdw "and" (ps.map (·.2)) ++ post)) {f : Nat} (hf : 20 ≤ f) : Lv f 2 (W, (pre.length : Int), o) = some (.er (.NoWords ((pre.length + (hdw "and" (ps.map (·.2))).length : Nat) : Int))) := by
  obtain ⟨k, rfl⟩ : ∃ k, f = k + 1 := ⟨f - 1, by omega⟩
  show (Kn_parse (k + 1)).2.1 (W, (pre.length : Int), o) = _
  rw [all_is]
  cases ps with
  | nil => cases l
  | cons p ps =>
    obtain ⟨a1, a2⟩ := parts_er (f := k) (w := "and") (g := (Kn_parse k).2.2) (deep := o) (E := .NoWords ((pre.length + (hdw "and" ((p :: ps).map (·.2))).length : Nat) : Int)) (W := W) (pre := pre) (post := post) (p := p) (ps := ps) hW (by omega) (fun q m pre' post' hq => read3 (t q m) ld h0 (by omega) hq) (fun c1 ds hd => by rw [bt_9 (by omega), Int.sub_add_cancel])
    rw [bdx_of a1]
    show bd (wl _ _ _) _ = _
    rw [bd_of a2]
    rfl
theorem nine_or {o d : Int} {ps : List (Cd × List Str)} (l : ps.length = 8) (ld : o + d ≤ 6) (h0 : 0 ≤ o) (t : ∀ p ∈ ps, ∃ r, 2 ≤ r ∧ Tx p.1 r p.2 d) {W pre post : List Str} (hW : W = pre ++ (hdw "or" (ps.map (·.2)) ++ post)) {f : Nat} (hf : 21 ≤ f) : Lv f 1 (W, (pre.length : Int), o) = some (.er (.NoWords ((pre.length + (hdw "or" (ps.map (·.2))).length : Nat) : Int))) := by
  obtain ⟨k, rfl⟩ : ∃ k, f = k + 1 := ⟨f - 1, by omega⟩
  show (Kn_parse (k + 1)).1 (W, (pre.length : Int), o) = _
  rw [some_is]
  cases ps with
  | nil => cases l
  | cons p ps =>
    obtain ⟨a1, a2⟩ := parts_er (f := k) (w := "or") (g := (Kn_parse k).2.1) (deep := o) (E := .NoWords ((pre.length + (hdw "or" ((p :: ps).map (·.2))).length : Nat) : Int)) (W := W) (pre := pre) (post := post) (p := p) (ps := ps) hW (by omega) (fun q m pre' post' hq => by
      obtain ⟨r, lr, tr⟩ := t q m
      exact read2 tr lr ld h0 (by omega) hq or_and) (fun c1 ds hd => by rw [bt_9 (by omega), Int.sub_add_cancel])
    rw [bdx_of a1]
    show bd (wl _ _ _) _ = _
    rw [bd_of a2]
    rfl
def stuck (post : List Str) : Prop := post.head? ≠ some "and" ∧ post.head? ≠ some "or" ∧ post.head? ≠ some ")"
theorem leaf_deep {W pre post : List Str} {x : Str} (hW : W = pre ++ (x :: post)) (hx : x = "not" ∨ x = "(") {f : Nat} (hf : 1 ≤ f) : Lv f 3 (W, (pre.length : Int), 6) = some (.er .TooDeep) := by
  obtain ⟨k, rfl⟩ : ∃ k, f = k + 1 := ⟨f - 1, by omega⟩
  have nw : (("not" : Str) == ("not" : Str)) = true := by decide +kernel
  have pn : (("(" : Str) == ("not" : Str)) = false := by decide +kernel
  have pw : (("(" : Str) == ("(" : Str)) = true := by decide +kernel
  have ea : L2.atI W (pre.length : Int) = some x := by rw [hW]; exact at_mid pre _ _
  have hne : ((pre.length : Int) == (W.length : Int)) = false := by
    have := not_end pre (x :: post) 0 (by rw [List.length_cons]; omega)
    rw [hW]
    rwa [Int.add_zero] at this
  show M_piece_at (Kn_parse k) W (pre.length : Int) 6 = _
  unfold M_piece_at
  rw [hne, bd_of ea]
  rcases hx with rfl | rfl
  · show bd (cond (!(("not" : Str) == ("not" : Str))) _ _) _ = _
    rw [nw]
    rfl
  · show bd (cond (!(("(" : Str) == ("not" : Str))) (bd (L2.atI W (pre.length : Int)) _) _) _ = _
    rw [pn]
    show bd (bd (L2.atI W (pre.length : Int)) _) _ = _
    rw [bd_of ea, pw]
    rfl
/-- a word that begins nothing -/
def noStart (x : Str) : Prop := (x == ("not" : Str)) = false ∧ (x == ("(" : Str)) = false ∧ (x == ("always" : Str)) = false ∧ (x == ("cause" : Str)) = false ∧ (x == ("thing" : Str)) = false ∧ (x == ("over" : Str)) = false ∧ (x == ("days" : Str)) = false
theorem leaf_bad {W pre post : List Str} {x : Str} (hW : W = pre ++ (x :: post)) (hx : noStart x) {f : Nat} {o : Int} (hf : 1 ≤ f) : Lv f 3 (W, (pre.length : Int), o) = some (.er (.NoWords (pre.length : Int))) := by
  obtain ⟨k, rfl⟩ : ∃ k, f = k + 1 := ⟨f - 1, by omega⟩
  obtain ⟨h1, h2, h3, h4, h5, h6, h7⟩ := hx
  have ea : L2.atI W (pre.length : Int) = some x := by rw [hW]; exact at_mid pre _ _
  have hne : ((pre.length : Int) == (W.length : Int)) = false := by
    have := not_end pre (x :: post) 0 (by rw [List.length_cons]; omega)
    rw [hW]
    rwa [Int.add_zero] at this
  show M_piece_at (Kn_parse k) W (pre.length : Int) o = _
  unfold M_piece_at
  rw [hne, bd_of ea]
  show bd (cond (!(x == ("not" : Str))) (bd (L2.atI W (pre.length : Int)) _) _) _ = _
  rw [h1]
  show bd (bd (L2.atI W (pre.length : Int)) _) _ = _
  rw [bd_of ea, h2]
  show bdx (M_atom_at W (pre.length : Int)) _ = _
  refine bdx_er ?_
  unfold M_atom_at
  rw [bd_of ea, h3, h4, h5, h6, h7]
  rfl
/-- a piece read, and nothing behind it that joins -/
theorem ct_stop {W pre post : List Str} {w : Str} {c : Cd} {ds : List Cd} {i : Int} (hW : W = pre ++ post) (hi : i = (pre.length : Int)) (h : post.head? ≠ some w) : Ct W w (c, i, ds) = some false := by
  subst hW hi
  exact ct_miss h
theorem bt_ok {g : List Str × Int × Int → Option (Xr Xc (Cd × Int))} {deep i j : Int} {W : List Str} {c c' : Cd} {ds : List Cd} (l : ds.length ≤ 7) (h : g (W, i + 1, deep) = some (.ok (c', j))) : Bt W deep g (c, i, ds) = some (.nx (c', j, ds ++ [c'])) := by
  unfold Bt
  show cond ((ds.length : Int) == 8) _ _ = _
  rw [beq_eq_false_iff_ne.mpr (show (ds.length : Int) ≠ 8 by omega)]
  show bdo (g (W, i + 1, deep)) _ = _
  rw [bdo_of h]
  show gd (ds.length < sizeLine) _ = _
  rw [gd_pos (szl (by omega))]
  rfl
theorem parts_ok8 {f : Nat} {w : Str} {g : List Str × Int × Int → Option (Xr Xc (Cd × Int))} {deep j : Int} {W pre post : List Str} {p : Cd × List Str} {ps : List (Cd × List Str)} {c' : Cd} (hW : W = pre ++ (hdw w ((p :: ps).map (·.2)) ++ post)) (l : (p :: ps).length ≤ 7)
    (hg : ∀ q ∈ p :: ps, ∀ pre' post' : List Str, W = pre' ++ (q.2 ++ (w :: post')) → g (W, (pre'.length : Int), deep) = some (.ok (q.1, (pre'.length : Int) + (q.2.length : Int))))
    (hl : g (W, ((pre.length + (hdw w ((p :: ps).map (·.2))).length : Nat) : Int), deep) = some (.ok (c', j))) (hs : ∀ c ds, Ct W w (c, j, ds) = some false) :
    g (W, (pre.length : Int), deep) = some (.ok (p.1, (pre.length : Int) + (p.2.length : Int))) ∧ ∃ ds : List Cd, 2 ≤ ds.length ∧ wl (Ct W w) (Bt W deep g) (p.1, (pre.length : Int) + (p.2.length : Int), [p.1]) = some (.nx (c', j, ds)) := by
  have hW1 : W = pre ++ (p.2 ++ (tail w (ps.map (·.2)) ++ (w :: post))) := by
    rw [hW, List.map_cons, hdw_tail]
  have hp : g (W, (pre.length : Int), deep) = some (.ok (p.1, (pre.length : Int) + (p.2.length : Int))) := by
    cases ps with
    | nil => exact hg p List.mem_cons_self pre post hW1
    | cons q r => exact hg p List.mem_cons_self pre (q.2 ++ tail w (r.map (·.2)) ++ (w :: post)) hW1
  rw [List.length_cons] at l
  obtain ⟨c1, go⟩ := parts_go (w := w) (g := g) (deep := deep) ps (pre ++ p.2) p.1 [p.1] (by rw [hW1, List.append_assoc]) (by show 1 + _ ≤ 8; omega) fun q m => hg q (List.mem_cons_of_mem _ m)
  rw [List.length_append] at go
  have hlen : (hdw w ((p :: ps).map (·.2))).length = p.2.length + (tail w (ps.map (·.2))).length + 1 := by
    have := congrArg List.length (hdw_tail w p.2 (ps.map (·.2)) [])
    rw [List.append_nil] at this
    rw [List.map_cons, this, List.length_append, List.length_append, List.length_cons, List.length_nil]
    omega
  have ld : ([p.1] ++ ps.map (·.1)).length = ps.length + 1 := by rw [List.length_append, List.length_map]; show 1 + _ = _; omega
  refine ⟨hp, [p.1] ++ ps.map (·.1) ++ [c'], by rw [List.length_append, ld]; show 2 ≤ ps.length + 1 + 1; omega, go _ (wl_nx ?_ (bt_ok (by rw [ld]; omega) ?_) (wl_end (hs _ _)))⟩
  · have e : ((pre.length + p.2.length : Nat) : Int) + ((tail w (ps.map (·.2))).length : Int) = ((pre ++ p.2 ++ tail w (ps.map (·.2))).length : Int) := by
      rw [List.length_append, List.length_append]; rfl
    rw [e, show W = (pre ++ p.2 ++ tail w (ps.map (·.2))) ++ (w :: post) from by rw [hW1]; simp only [List.append_assoc]]
    exact ct_hit
  · rw [hlen] at hl
    rw [show ((pre.length + (p.2.length + (tail w (ps.map (·.2))).length + 1) : Nat) : Int) = ((pre.length + p.2.length : Nat) : Int) + ((tail w (ps.map (·.2))).length : Int) + 1 from by omega] at hl
    exact hl
theorem up_stop {o e : Int} {r h : Nat} {ws : List Str} {b : Bool} (x : Hx o r h ws e b) (hh : h = 3) (hr : 1 ≤ r ∧ r ≤ 3) (h0 : 0 ≤ o) {m : Nat} (hm : 20 ≤ m) {c : Cd} {qs post : List Str} (hs : stuck post) : ∀ (W pre : List Str) (f : Nat), W = pre ++ (ws ++ (qs ++ post)) → (∀ g, m ≤ g → Lv g 3 (W, ((pre.length + ws.length : Nat) : Int), e) = some (.ok (c, ((pre.length + ws.length + qs.length : Nat) : Int)))) → m + (3 * (e - o)).toNat + (3 - r) ≤ f →
    (b = false ∧ ∃ c', Lv f r (W, (pre.length : Int), o) = some (.ok (c', ((pre.length + ws.length + qs.length : Nat) : Int)))) ∨ (b = true ∧ Lv f r (W, (pre.length : Int), o) = some (.er (.NoWords ((pre.length + ws.length + qs.length : Nat) : Int)))) := by
  induction x with
  | id =>
    intro W pre f hW H hf
    subst hh
    exact .inl ⟨rfl, c, H f (by omega)⟩
  | @not o e h ws b l x ih =>
    intro W pre f hW H hf
    have le := x.le
    obtain ⟨k, rfl⟩ : ∃ k, f = k + 1 := ⟨f - 1, by omega⟩
    have hW2 : W = (pre ++ [("not" : Str)]) ++ (ws ++ (qs ++ post)) := by rw [hW, List.append_assoc]; rfl
    have el : pre.length + (ws.length + 1) = (pre ++ [("not" : Str)]).length + ws.length := by rw [List.length_append]; show _ = pre.length + 1 + _; omega
    have e1 := ih hh (by decide) (by omega) W (pre ++ [("not" : Str)]) k hW2 (fun g hg => by
      have := H g hg
      rw [List.length_cons, el] at this
      exact this) (by omega)
    rw [List.length_cons, el]
    have hp : Lv (k + 1) 3 (W, (pre.length : Int), o) = _ := piece_not (k := k) (show W = pre ++ (("not" : Str) :: (ws ++ (qs ++ post))) from hW) l
    rw [hp]
    rcases e1 with ⟨hb, c', e1⟩ | ⟨hb, e1⟩
    · rw [show (pre.length : Int) + 1 = ((pre ++ [("not" : Str)]).length : Int) from by rw [List.length_append]; rfl, show (Kn_parse k).2.2 (W, ((pre ++ [("not" : Str)]).length : Int), o + 1) = _ from e1]
      exact .inl ⟨hb, _, rfl⟩
    · rw [show (pre.length : Int) + 1 = ((pre ++ [("not" : Str)]).length : Int) from by rw [List.length_append]; rfl, show (Kn_parse k).2.2 (W, ((pre ++ [("not" : Str)]).length : Int), o + 1) = _ from e1]
      exact .inr ⟨hb, rfl⟩
  | @par o e h ws b l x ih =>
    intro W pre f hW H hf
    have le := x.le
    obtain ⟨k, rfl⟩ : ∃ k, f = k + 1 := ⟨f - 1, by omega⟩
    have hW2 : W = (pre ++ [("(" : Str)]) ++ (ws ++ (qs ++ post)) := by rw [hW, List.append_assoc]; rfl
    have el : pre.length + (ws.length + 1) = (pre ++ [("(" : Str)]).length + ws.length := by rw [List.length_append]; show _ = pre.length + 1 + _; omega
    have e1 := ih hh (by decide) (by omega) W (pre ++ [("(" : Str)]) k hW2 (fun g hg => by
      have := H g hg
      rw [List.length_cons, el] at this
      exact this) (by omega)
    rw [List.length_cons, el]
    have hp : Lv (k + 1) 3 (W, (pre.length : Int), o) = _ := piece_par (k := k) (show W = pre ++ (("(" : Str) :: (ws ++ (qs ++ post))) from hW) l
    rw [hp]
    refine .inr ⟨rfl, ?_⟩
    rcases e1 with ⟨hb, c', e1⟩ | ⟨hb, e1⟩
    · rw [show (pre.length : Int) + 1 = ((pre ++ [("(" : Str)]).length : Int) from by rw [List.length_append]; rfl, show (Kn_parse k).1 (W, ((pre ++ [("(" : Str)]).length : Int), o + 1) = _ from e1]
      generalize hj : (pre ++ [("(" : Str)]).length + ws.length + qs.length = j
      have hW3 : W = ((pre ++ [("(" : Str)]) ++ ws ++ qs) ++ post := by rw [hW2]; simp only [List.append_assoc]
      have hj2 : ((pre ++ [("(" : Str)]) ++ ws ++ qs).length = j := by rw [List.length_append, List.length_append]; exact hj
      show bd (cond ((j : Int) == (W.length : Int)) _ (bd (L2.atI W (j : Int)) _)) _ = _
      cases post with
      | nil =>
        rw [List.append_nil] at hW3
        rw [hW3, hj2, beq_self_eq_true]
        rfl
      | cons y post =>
        rw [beq_eq_false_iff_ne.mpr (show (j : Int) ≠ (W.length : Int) by rw [hW3, List.length_append, List.length_cons, hj2]; omega)]
        have ea : L2.atI W (j : Int) = some y := by rw [hW3, ← hj2]; exact at_mid _ y post
        show bd (bd (L2.atI W (j : Int)) _) _ = _
        rw [bd_of ea, beq_eq_false_iff_ne.mpr (show y ≠ (")" : Str) from fun z => hs.2.2 (by rw [z]; rfl))]
        rfl
    · rw [show (pre.length : Int) + 1 = ((pre ++ [("(" : Str)]).length : Int) from by rw [List.length_append]; rfl, show (Kn_parse k).1 (W, ((pre ++ [("(" : Str)]).length : Int), o + 1) = _ from e1]
      rfl
  | @all o e d h ws b ps l ld t x ih =>
    intro W pre f hW H hf
    have le := x.le
    obtain ⟨k, rfl⟩ : ∃ k, f = k + 1 := ⟨f - 1, by omega⟩
    have hp : Lv (k + 1) 2 (W, (pre.length : Int), o) = _ := all_is (k := k)
    rw [hp]
    have e1 := ih hh (by decide) h0 W (pre ++ hdw "and" (ps.map (·.2))) k (by rw [hW]; simp only [List.append_assoc]) (fun g hg => by
      have := H g hg
      rw [List.length_append] at this
      rw [List.length_append, Nat.add_assoc pre.length]
      exact this) (by omega)
    rw [List.length_append (as := pre), Nat.add_assoc pre.length, ← List.length_append (as := hdw _ _)] at e1
    have hst : ∀ c ds, Ct W "and" (c, ((pre.length + (hdw "and" (ps.map (·.2)) ++ ws).length + qs.length : Nat) : Int), ds) = some false := fun c ds => ct_stop (pre := pre ++ (hdw "and" (ps.map (·.2)) ++ ws) ++ qs) (post := post) (by rw [hW]; simp only [List.append_assoc]) (by simp only [List.length_append]) hs.1
    cases ps with
    | nil =>
      rcases e1 with ⟨hb, c', e1⟩ | ⟨hb, e1⟩
      · refine .inl ⟨hb, c', ?_⟩
        rw [bdx_of (show (Kn_parse k).2.2 (W, (pre.length : Int), o) = some (.ok (c', _)) from e1)]
        show bd (wl _ _ _) _ = _
        rw [bd_of (wl_end (hst _ _))]
        rfl
      · exact .inr ⟨hb, bdx_er e1⟩
    | cons p ps =>
      rcases e1 with ⟨hb, c', e1⟩ | ⟨hb, e1⟩
      · obtain ⟨a1, ds, ld2, a2⟩ := parts_ok8 (f := k) (w := "and") (g := (Kn_parse k).2.2) (deep := o) (W := W) (pre := pre) (post := ws ++ (qs ++ post)) (p := p) (ps := ps) (c' := c') (by rw [hW, List.append_assoc]) (by omega) (fun q m pre' post' hq => read3 (t q m) ld h0 (by omega) hq) e1 hst
        refine .inl ⟨hb, .allOf ds, ?_⟩
        rw [bdx_of a1]
        show bd (wl _ _ _) _ = _
        rw [bd_of a2]
        show cond ((ds.length : Int) == 1) _ _ = _
        rw [beq_eq_false_iff_ne.mpr (show (ds.length : Int) ≠ 1 by omega)]
        rfl
      · refine .inr ⟨hb, ?_⟩
        obtain ⟨a1, a2⟩ := parts_er (f := k) (w := "and") (g := (Kn_parse k).2.2) (deep := o) (E := .NoWords ((pre.length + (hdw "and" ((p :: ps).map (·.2)) ++ ws).length + qs.length : Nat) : Int)) (W := W) (pre := pre) (post := ws ++ (qs ++ post)) (p := p) (ps := ps) (by rw [hW, List.append_assoc]) (by omega) (fun q m pre' post' hq => read3 (t q m) ld h0 (by omega) hq) (fun c1 ds hd => bt_er (by omega) (by
          rw [Int.sub_add_cancel]
          exact e1))
        rw [bdx_of a1]
        show bd (wl _ _ _) _ = _
        rw [bd_of a2]
        rfl
  | @some o e d h ws b ps l ld t x ih =>
    intro W pre f hW H hf
    have le := x.le
    obtain ⟨k, rfl⟩ : ∃ k, f = k + 1 := ⟨f - 1, by omega⟩
    have hp : Lv (k + 1) 1 (W, (pre.length : Int), o) = _ := some_is (k := k)
    rw [hp]
    have e1 := ih hh (by decide) h0 W (pre ++ hdw "or" (ps.map (·.2))) k (by rw [hW]; simp only [List.append_assoc]) (fun g hg => by
      have := H g hg
      rw [List.length_append] at this
      rw [List.length_append, Nat.add_assoc pre.length]
      exact this) (by omega)
    rw [List.length_append (as := pre), Nat.add_assoc pre.length, ← List.length_append (as := hdw _ _)] at e1
    have hst : ∀ c ds, Ct W "or" (c, ((pre.length + (hdw "or" (ps.map (·.2)) ++ ws).length + qs.length : Nat) : Int), ds) = some false := fun c ds => ct_stop (pre := pre ++ (hdw "or" (ps.map (·.2)) ++ ws) ++ qs) (post := post) (by rw [hW]; simp only [List.append_assoc]) (by simp only [List.length_append]) hs.2.1
    cases ps with
    | nil =>
      rcases e1 with ⟨hb, c', e1⟩ | ⟨hb, e1⟩
      · refine .inl ⟨hb, c', ?_⟩
        rw [bdx_of (show (Kn_parse k).2.1 (W, (pre.length : Int), o) = some (.ok (c', _)) from e1)]
        show bd (wl _ _ _) _ = _
        rw [bd_of (wl_end (hst _ _))]
        rfl
      · exact .inr ⟨hb, bdx_er e1⟩
    | cons p ps =>
      have hg : ∀ q ∈ p :: ps, ∀ pre' post' : List Str, W = pre' ++ (q.2 ++ (("or" : Str) :: post')) → (Kn_parse k).2.1 (W, (pre'.length : Int), o) = some (.ok (q.1, (pre'.length : Int) + (q.2.length : Int))) := fun q m pre' post' hq => by
        obtain ⟨r, lr, tr⟩ := t q m
        exact read2 tr lr ld h0 (by omega) hq or_and
      rcases e1 with ⟨hb, c', e1⟩ | ⟨hb, e1⟩
      · obtain ⟨a1, ds, ld2, a2⟩ := parts_ok8 (f := k) (w := "or") (g := (Kn_parse k).2.1) (deep := o) (W := W) (pre := pre) (post := ws ++ (qs ++ post)) (p := p) (ps := ps) (c' := c') (by rw [hW, List.append_assoc]) (by omega) hg e1 hst
        refine .inl ⟨hb, .someOf ds, ?_⟩
        rw [bdx_of a1]
        show bd (wl _ _ _) _ = _
        rw [bd_of a2]
        show cond ((ds.length : Int) == 1) _ _ = _
        rw [beq_eq_false_iff_ne.mpr (show (ds.length : Int) ≠ 1 by omega)]
        rfl
      · refine .inr ⟨hb, ?_⟩
        obtain ⟨a1, a2⟩ := parts_er (f := k) (w := "or") (g := (Kn_parse k).2.1) (deep := o) (E := .NoWords ((pre.length + (hdw "or" ((p :: ps).map (·.2)) ++ ws).length + qs.length : Nat) : Int)) (W := W) (pre := pre) (post := ws ++ (qs ++ post)) (p := p) (ps := ps) (by rw [hW, List.append_assoc]) (by omega) hg (fun c1 ds hd => bt_er (by omega) (by
          rw [Int.sub_add_cancel]
          exact e1))
        rw [bdx_of a1]
        show bd (wl _ _ _) _ = _
        rw [bd_of a2]
        rfl
open SX TL
theorem Tx.mk {c : Cd} {r : Int} {ws : List Str} {d : Int} (h : Tx c r ws d) : Mk (3 * d.toNat + (3 - r).toNat) c := by
  induction h with
  | @atom c g h =>
    have := (Gd.mk g).2
    cases c with
    | plain u => exact .plain u
    | cause x => cases this with | cause h => exact .cause h
    | thing x => cases this with | thing h => exact .thing h
    | days p => exact .days p
    | over v => exact .over v
    | notOf u => cases h
    | allOf u => cases h
    | someOf u => cases h
  | @not c ws d h ih =>
    have := h.d0.1
    exact (Mk.notOf ih).up (by omega)
  | @par c r ws d h ih =>
    have := h.d0
    exact ih.up (by omega)
  | @all ps d l k h ih =>
    have d0 : 0 ≤ d := by
      cases ps with
      | nil => exact absurd l.1 (by decide)
      | cons p r => exact (h p List.mem_cons_self).d0.1
    refine (Mk.allOf (n := 3 * d.toNat) (by rw [List.length_map]; omega) fun c m => ?_).up (by omega)
    obtain ⟨p, mp, rfl⟩ := List.mem_map.mp m
    have := ih p mp
    rw [k p mp] at this
    exact this
  | @some ps d l k h ih =>
    have d0 : 0 ≤ d := by
      cases ps with
      | nil => exact absurd l.1 (by decide)
      | cons p r => exact (h p List.mem_cons_self).d0.1
    refine (Mk.someOf (n := 3 * d.toNat + 1) (by rw [List.length_map]; omega) fun c m => ?_).up (by omega)
    obtain ⟨p, mp, rfl⟩ := List.mem_map.mp m
    exact (ih p mp).up (by have := k p mp; omega)
  | up h l ih =>
    have := h.d0.1
    exact ih.up (by omega)
/-- a row: the parts ahead of one of them -/
theorem jn_split (w : Str) : ∀ (A : List (List Str)) (x : List Str) (B : List (List Str)), jn w (A ++ x :: B) = hdw w A ++ (x ++ tail w B)
  | [], x, B => rfl
  | [a], x, B => by
    show a ++ (w :: (x ++ tail w B)) = (a ++ [w]) ++ (x ++ tail w B)
    simp
  | a :: b :: A, x, B => by
    have ih := jn_split w (b :: A) x B
    show a ++ (w :: (jn w ((b :: A) ++ x :: B))) = (a ++ (w :: hdw w (b :: A))) ++ (x ++ tail w B)
    rw [ih]
    simp
/-- a place among the words of a row: in a part, or a joiner -/
theorem jn_place (w : Str) : ∀ (xs : List (List Str)) (p : Nat), p < (jn w xs).length → ∃ (A : List (List Str)) (x : List Str) (B : List (List Str)), xs = A ++ x :: B ∧ ((∃ q, q < x.length ∧ p = (hdw w A).length + q) ∨ (B ≠ [] ∧ p = (hdw w A).length + x.length))
  | [], p, h => absurd h (Nat.not_lt_zero p)
  | [x], p, h => ⟨[], x, [], rfl, .inl ⟨p, by
      have : (jn w [x]).length = x.length := by show (x ++ []).length = _; rw [List.append_nil]
      omega, by show p = 0 + p; omega⟩⟩
  | x :: y :: r, p, h => by
    by_cases h1 : p < x.length
    · exact ⟨[], x, y :: r, rfl, .inl ⟨p, h1, by show p = 0 + p; omega⟩⟩
    by_cases h2 : p = x.length
    · exact ⟨[], x, y :: r, rfl, .inr ⟨(fun z => nomatch z), by show p = 0 + x.length; omega⟩⟩
    have e : (jn w (x :: y :: r)).length = x.length + 1 + (jn w (y :: r)).length := by
      show (x ++ (w :: jn w (y :: r))).length = _
      rw [List.length_append, List.length_cons]
      omega
    obtain ⟨A, z, B, e1, h3⟩ := jn_place w (y :: r) (p - (x.length + 1)) (by omega)
    have eh : (hdw w (x :: A)).length = x.length + 1 + (hdw w A).length := by
      show (x ++ (w :: hdw w A)).length = _
      rw [List.length_append, List.length_cons]
      omega
    refine ⟨x :: A, z, B, by rw [e1]; rfl, ?_⟩
    rcases h3 with ⟨q, hq, e3⟩ | ⟨hB, e3⟩
    · exact .inl ⟨q, hq, by omega⟩
    · exact .inr ⟨hB, by omega⟩
theorem jn_take {w : Str} {A B : List (List Str)} {x : List Str} {q : Nat} (h : q ≤ x.length) : (jn w (A ++ x :: B)).take ((hdw w A).length + q) = hdw w A ++ x.take q := by
  rw [jn_split, List.take_length_add_append, List.take_append_of_le_length h]
/-- contexts follow each other -/
theorem Hx.trans {o e e2 : Int} {r h h2 : Nat} {ws ws2 : List Str} {b b2 : Bool} (x : Hx o r h ws e b) (y : Hx e h h2 ws2 e2 b2) : ∃ b3, Hx o r h2 (ws ++ ws2) e2 b3 := by
  induction x with
  | id => exact ⟨_, y⟩
  | not l x ih => obtain ⟨b3, z⟩ := ih y; exact ⟨_, .not l z⟩
  | par l x ih => obtain ⟨b3, z⟩ := ih y; exact ⟨_, .par l z⟩
  | all ps l ld t x ih =>
    obtain ⟨b3, z⟩ := ih y
    rw [List.append_assoc]
    exact ⟨_, .all ps l ld t z⟩
  | some ps l ld t x ih =>
    obtain ⟨b3, z⟩ := ih y
    rw [List.append_assoc]
    exact ⟨_, .some ps l ld t z⟩
/-- a wider way to read -/
theorem hx_down {o : Int} (ho : o ≤ 6) {r s : Nat} (hr : r = 1 ∨ r = 2 ∨ r = 3) (hs : s = 1 ∨ s = 2 ∨ s = 3) (h : r ≤ s) : Hx o r s [] o false := by
  have a : Hx o 2 3 [] o false := .all (d := 0) [] (by decide) (by omega) (fun _ m => nomatch m) .id
  have b : Hx o 1 2 [] o false := .some (d := 0) [] (by decide) (by omega) (fun _ m => nomatch m) .id
  have c : Hx o 1 3 [] o false := .some (d := 0) [] (by decide) (by omega) (fun _ m => nomatch m) a
  rcases hr with rfl | rfl | rfl
  · rcases hs with rfl | rfl | rfl
    · exact .id
    · exact b
    · exact c
  · rcases hs with rfl | rfl | rfl
    · exact absurd h (by decide)
    · exact .id
    · exact a
  · rcases hs with rfl | rfl | rfl
    · exact absurd h (by decide)
    · exact absurd h (by decide)
    · exact .id
/-- the last piece of what is written -/
theorem last_piece {c : Cd} {r : Int} {ws : List Str} {d : Int} (h : Tx c r ws d) : ∀ {o : Int}, 0 ≤ o → o + d ≤ 6 → ∃ (a : List Str) (q : List Str) (c' : Cd) (b : Bool), ws = a ++ q ∧ Hx o r.toNat 3 a o b ∧ Tx c' 3 q d := by
  induction h with
  | @atom c g h => exact fun {o} h0 l => ⟨[], _, c, _, rfl, .id, .atom g h⟩
  | @not c ws d h ih => exact fun {o} h0 l => ⟨[], _, _, _, rfl, .id, .not h⟩
  | @par c r ws d h ih => exact fun {o} h0 l => ⟨[], _, _, _, rfl, .id, .par h⟩
  | @all ps d l k h ih =>
    intro o h0 ld
    rcases List.eq_nil_or_concat ps with rfl | ⟨A, p, e0⟩
    · exact absurd l.1 (by decide)
    · rw [List.concat_eq_append] at e0
      subst e0
      rw [List.length_append] at l
      have l2 : A.length + 1 ≤ 8 := l.2
      have t := h p (by simpa using mp)
      rw [k p (by simpa using mp)] at t
      refine ⟨hdw "and" (A.map (·.2.2)), p.2.2, p.1, false, ?_, ?_, t⟩
      · have := jn_split "and" (A.map (·.2.2)) p.2.2 []
        rw [show tail "and" [] = ([] : List Str) from rfl, List.append_nil] at this
        rw [List.map_append]
        exact this
      · have := Hx.all (o := o) (e := o) (d := d) (h := 3) (ws := []) (b := false) (A.map fun p => (p.1, p.2.2)) (by rw [List.length_map]; omega) ld (fun q m => by
          obtain ⟨p', mp', rfl⟩ := List.mem_map.mp m
          have t := h p' (by simp [mp'])
          rw [k p' (by simp [mp'])] at t
          exact t) .id
        rw [List.append_nil, List.map_map] at this
        exact this
  | @some ps d l k h ih =>
    intro o h0 ld
    rcases List.eq_nil_or_concat ps with rfl | ⟨A, p, e0⟩
    · exact absurd l.1 (by decide)
    · rw [List.concat_eq_append] at e0
      subst e0
      rw [List.length_append] at l
      have l2 : A.length + 1 ≤ 8 := l.2
      have mp : p ∈ A ++ [p] := by simp
      obtain ⟨a, q, c', b, e1, x, t⟩ := ih p mp h0 ld
      have kp := k p mp
      have d0 := (h p mp).d0
      obtain ⟨b3, x2⟩ := (hx_down (o := o) (r := 2) (s := p.2.1.toNat) (by omega) (.inr (.inl rfl)) (by omega) (by omega)).trans x
      refine ⟨hdw "or" (A.map (·.2.2)) ++ a, q, c', b3, ?_, ?_, t⟩
      · have := jn_split "or" (A.map (·.2.2)) p.2.2 []
        rw [show tail "or" [] = ([] : List Str) from rfl, List.append_nil, e1] at this
        rw [List.map_append, List.append_assoc]
        show jn "or" (A.map (·.2.2) ++ [p.2.2]) = _
        rw [← this, ← e1]
      · have := Hx.some (o := o) (e := o) (d := d) (h := 3) (ws := a) (b := b3) (A.map fun p => (p.1, p.2.2)) (by rw [List.length_map]; omega) ld (fun q m => by
          obtain ⟨p', mp', rfl⟩ := List.mem_map.mp m
          exact ⟨p'.2.1, k p' (by simp [mp']), h p' (by simp [mp'])⟩) x2
        rw [List.map_map] at this
        exact this
  | @up c r ws d e h l ih =>
    intro o h0 ld
    obtain ⟨a, q, c', b, e1, x, t⟩ := ih h0 (by omega)
    exact ⟨a, q, c', b, e1, x, t.up l⟩
/-- what stands ahead of a place: a piece may begin there, or one has ended, or an atom goes on -/
inductive Pos (o : Int) (r : Nat) (pre : List Str) : Prop where
  | a {e : Int} {b : Bool} (x : Hx o r 3 pre e b) (l : e ≤ 6) : Pos o r pre
  | b {e d : Int} {b : Bool} {a q : List Str} {c : Cd} (h : pre = a ++ q) (x : Hx o r 3 a e b) (t : Tx c 3 q d) (l : e + d ≤ 6) : Pos o r pre
  | c {e : Int} {b : Bool} {a : List Str} {c : Cd} {k : Nat} (h : pre = a ++ (wds c).take k) (x : Hx o r 3 a e b) (g : Gd c) (ha : isAtom c = true) (k0 : 0 < k ∧ k < (wds c).length) (l : e ≤ 6) : Pos o r pre
theorem Pos.lift {o e : Int} {r h : Nat} {ws pre : List Str} {b : Bool} (x : Hx o r h ws e b) (p : Pos e h pre) : Pos o r (ws ++ pre) := by
  cases p with
  | a y l => obtain ⟨b3, z⟩ := x.trans y; exact .a z l
  | b hh y t l => obtain ⟨b3, z⟩ := x.trans y; exact .b (by rw [hh, List.append_assoc]) z t l
  | c hh y g ha k0 l => obtain ⟨b3, z⟩ := x.trans y; exact .c (by rw [hh, List.append_assoc]) z g ha k0 l
theorem pos_of {c : Cd} {r : Int} {ws : List Str} {d : Int} (h : Tx c r ws d) : ∀ {o : Int}, 0 ≤ o → o + d ≤ 6 → ∀ p, p < ws.length → Pos o r.toNat (ws.take p) := by
  induction h with
  | @atom c g h =>
    intro o h0 l p hp
    cases p with
    | zero => exact .a .id (by omega)
    | succ p => exact .c (a := []) (k := p + 1) rfl .id g h ⟨Nat.succ_pos p, hp⟩ (by omega)
  | @not c ws d h ih =>
    intro o h0 l p hp
    have d0 := h.d0.1
    cases p with
    | zero => exact .a .id (by omega)
    | succ p =>
      rw [List.length_cons] at hp
      exact Pos.lift (.not (by omega) .id) (ih (o := o + 1) (by omega) (by omega) p (by omega))
  | @par c r ws d h ih =>
    intro o h0 l p hp
    have d0 := h.d0
    cases p with
    | zero => exact .a .id (by omega)
    | succ p =>
      have dn : Hx (o + 1) 1 r.toNat [] (o + 1) false := hx_down (by omega) (.inl rfl) (by omega) (by omega)
      rw [List.length_cons, List.length_append] at hp
      have hp : p + 1 < ws.length + 1 + 1 := hp
      show Pos o 3 (("(" : Str) :: (ws ++ [(")" : Str)]).take p)
      by_cases h1 : p < ws.length
      · rw [List.take_append_of_le_length (by omega)]
        exact Pos.lift (.par (by omega) dn) (ih (o := o + 1) (by omega) (by omega) p h1)
      · rw [show p = ws.length by omega, List.take_append_of_le_length (Nat.le_refl _), List.take_length]
        obtain ⟨a, q, c', b, e1, x, t⟩ := last_piece h (o := o + 1) (by omega) (by omega)
        obtain ⟨b3, z⟩ := dn.trans x
        exact .b (a := ("(" : Str) :: a) (q := q) (by rw [e1]; rfl) (.par (by omega) z) t (by omega)
  | @all ps d l k h ih =>
    intro o h0 ld p hp
    obtain ⟨A', x, B', e1, h2⟩ := jn_place "and" _ p hp
    obtain ⟨A, R, e2, e3, e4⟩ := List.map_eq_append_iff.mp e1
    obtain ⟨y, B, e5, e6, e7⟩ := List.map_eq_cons_iff.mp e4
    subst e2 e3 e5 e6 e7
    have my : y ∈ A ++ y :: B := by simp
    rw [List.length_append, List.length_cons] at l
    have ty := h y my
    have ky := k y my
    rw [ky] at ty
    have hx : Hx o 2 3 (hdw "and" (A.map (·.2.2))) o false := by
      have := Hx.all (o := o) (e := o) (d := d) (h := 3) (ws := []) (b := false) (A.map fun p => (p.1, p.2.2)) (by rw [List.length_map]; omega) ld (fun q m => by
        obtain ⟨p', mp', rfl⟩ := List.mem_map.mp m
        have t := h p' (by simp [mp'])
        rw [k p' (by simp [mp'])] at t
        exact t) .id
      rw [List.append_nil, List.map_map] at this
      exact this
    show Pos o 2 _
    rw [List.map_append, List.map_cons]
    rcases h2 with ⟨q, hq, rfl⟩ | ⟨hB, rfl⟩
    · rw [jn_take (by omega)]
      have z := ih y my (o := o) h0 ld q hq
      rw [ky] at z
      exact Pos.lift hx z
    · rw [jn_take (Nat.le_refl _), List.take_length]
      exact .b rfl hx ty ld
  | @some ps d l k h ih =>
    intro o h0 ld p hp
    obtain ⟨A', x, B', e1, h2⟩ := jn_place "or" _ p hp
    obtain ⟨A, R, e2, e3, e4⟩ := List.map_eq_append_iff.mp e1
    obtain ⟨y, B, e5, e6, e7⟩ := List.map_eq_cons_iff.mp e4
    subst e2 e3 e5 e6 e7
    have my : y ∈ A ++ y :: B := by simp
    rw [List.length_append, List.length_cons] at l
    have ty := h y my
    have ky := k y my
    have d0 := ty.d0
    have hx : Hx o 1 2 (hdw "or" (A.map (·.2.2))) o false := by
      have := Hx.some (o := o) (e := o) (d := d) (h := 2) (ws := []) (b := false) (A.map fun p => (p.1, p.2.2)) (by rw [List.length_map]; omega) ld (fun q m => by
        obtain ⟨p', mp', rfl⟩ := List.mem_map.mp m
        exact ⟨p'.2.1, k p' (by simp [mp']), h p' (by simp [mp'])⟩) .id
      rw [List.append_nil, List.map_map] at this
      exact this
    have dn : Hx o 2 y.2.1.toNat [] o false := hx_down (by omega) (.inr (.inl rfl)) (by omega) (by omega)
    show Pos o 1 _
    rw [List.map_append, List.map_cons]
    rcases h2 with ⟨q, hq, rfl⟩ | ⟨hB, rfl⟩
    · rw [jn_take (by omega)]
      exact Pos.lift hx (Pos.lift dn (ih y my (o := o) h0 ld q hq))
    · rw [jn_take (Nat.le_refl _), List.take_length]
      obtain ⟨a, q, c', b, e1, x, t⟩ := last_piece ty (o := o) h0 ld
      obtain ⟨b3, z⟩ := dn.trans x
      exact Pos.lift hx (.b e1 z t ld)
  | @up c r ws d e h l ih =>
    intro o h0 ld p hp
    exact ih h0 (by omega) p hp
theorem words_gd {ws : List Str} (h : ∀ w ∈ ws, Wd w) (l : ws.length ≤ 900) : (Txt.join (" " : Str) ws).length + 2 ≤ sizeLine := by
  have sj := sm_join (p := (" " : Str)) (m := 1) ⟨by decide +kernel, by decide +kernel⟩ (n := 63) fun y m => (h y m).1
  have jl := sj.1
  show _ ≤ 16777216
  have : ws.length * (63 + 1) ≤ 900 * 64 := Nat.mul_le_mul_right _ l
  omega
theorem refuse_long {ws : List Str} (h : ∀ w ∈ ws, Wd w) (l : 60 < ws.length ∧ ws.length ≤ 900) : M_read_condition (Txt.join (" " : Str) ws) = some (.er (.NoWords 60)) := by
  unfold M_read_condition
  refine Ok.eq (ok_f rfl (ok_gd ⟨by decide +kernel, words_gd h l.2⟩ (ok_lt ?_)))
  rw [split_join h (fun z => by rw [z] at l; exact absurd l.1 (by decide))]
  exact ok_t (decide_eq_true (by omega)) (ok_some rfl)
theorem refuse_er {ws : List Str} (h : ∀ w ∈ ws, Wd w) (ne : ws ≠ []) (l : ws.length ≤ 60) {E : Xc} (e : Lv 64 1 (ws, 0, 0) = some (.er E)) : M_read_condition (Txt.join (" " : Str) ws) = some (.er E) := by
  unfold M_read_condition
  refine Ok.eq (ok_f rfl (ok_gd ⟨by decide +kernel, words_gd h (by omega)⟩ (ok_lt ?_)))
  rw [split_join h ne]
  refine ok_f (decide_eq_false (by omega)) ?_
  rw [bdx_er (show Mf_some_at 64 ws 0 0 = _ from e)]
  exact ok_some rfl
theorem refuse_stop {ws : List Str} (h : ∀ w ∈ ws, Wd w) (ne : ws ≠ []) (l : ws.length ≤ 60) {p : Nat} {c : Cd} (hp : p < ws.length) (e : Lv 64 1 (ws, 0, 0) = some (.ok (c, (p : Int)))) : M_read_condition (Txt.join (" " : Str) ws) = some (.er (.NoWords (p : Int))) := by
  unfold M_read_condition
  refine Ok.eq (ok_f rfl (ok_gd ⟨by decide +kernel, words_gd h (by omega)⟩ (ok_lt ?_)))
  rw [split_join h ne]
  refine ok_f (decide_eq_false (by omega)) ?_
  rw [bdx_of (show Mf_some_at 64 ws 0 0 = _ from e)]
  exact ok_t (decide_eq_true (by show (p : Int) < _; omega)) (ok_some rfl)
/-- a bad word where a piece may begin, or behind a piece -/
theorem refuse_at {pre post : List Str} {x : Str} (hp : (∃ e b, Hx 0 1 3 pre e b ∧ e ≤ 6 ∧ noStart x) ∨ (∃ a q c e d b, pre = a ++ q ∧ Hx 0 1 3 a e b ∧ Tx c 3 q d ∧ e + d ≤ 6 ∧ stuck (x :: post))) (h : ∀ w ∈ pre ++ (x :: post), Wd w) (l : (pre ++ (x :: post)).length ≤ 60) : M_read_condition (Txt.join (" " : Str) (pre ++ (x :: post))) = some (.er (.NoWords (pre.length : Int))) := by
  have ne : pre ++ (x :: post) ≠ [] := by simp
  rcases hp with ⟨e, b, hx, le, hn⟩ | ⟨a, q, c, e, d, b, rfl, hx, t, le, hs⟩
  · have h0 := hx.le
    refine refuse_er h ne l ?_
    exact up_er hx ⟨Nat.le_refl _, by decide⟩ (Int.le_refl _) (m := 20) (Nat.le_refl _) (pre ++ (x :: post)) [] (x :: post) 64 rfl (fun g hg => by
      rw [List.length_nil, Nat.zero_add]
      exact leaf_bad rfl hn (by omega)) (by omega)
  · have h0 := hx.le
    have d0 := t.d0.1
    have z := up_stop hx rfl ⟨Nat.le_refl _, by decide⟩ (Int.le_refl _) (m := 20) (Nat.le_refl _) (c := c) (qs := q) hs (a ++ q ++ (x :: post)) [] 64 (by simp only [List.append_assoc, List.nil_append]) (fun g hg => by
      have := read3 (k := g) t le h0 (by omega) (W := a ++ q ++ (x :: post)) (pre := a) (post := x :: post) (by rw [List.append_assoc])
      rw [List.length_nil, Nat.zero_add]
      exact this) (by omega)
    rw [List.length_nil, Nat.zero_add, ← List.length_append] at z
    rcases z with ⟨_, c', z⟩ | ⟨_, z⟩
    · exact refuse_stop h ne l (by simp only [List.length_append, List.length_cons]; omega) z
    · exact refuse_er h ne l z
open SX TL
theorem cell_ok {ns : List Int} (hn : ns.length ≤ 63) {k : Int} (h : 0 ≤ k ∧ k < 1000) : Ok (M__law_cell ns k) fun v => 0 ≤ v ∧ v < 10 ^ 18 := by
  unfold M__law_cell
  refine ok_cond (fun h1 => ok_bd (ok_atI h.1 (of_decide_eq_true h1) (Q := fun _ => True) fun y _ => trivial) fun y _ => ok_some ⟨by omega, by omega⟩) fun _ => ok_gd (.inl ⟨by omega, by omega⟩) (ok_some ⟨by omega, by omega⟩)
theorem mix_ok {n k : Int} (h : 0 ≤ k ∧ k < 1000) : Ok (M__law_mix n k) fun v => 0 ≤ v := by
  unfold M__law_mix
  exact ok_gd (.inl ⟨by omega, by omega⟩) (ok_ltx fun x ex => ok_gd (.inl ⟨by omega, by omega⟩) (ok_some (by omega)))
abbrev L28 : LOSS := (3, 7, ("storm" : Str), ("roof" : Str), ("hail" : Str), 100)
def OpW (x : Str) : Prop := x = "not" ∨ x = "("
theorem opened_ok {n s : Int} (h : 0 ≤ s ∧ s < 100) : Ok (M__law_opened n s) fun ws => ws.length = s.toNat ∧ ∀ w ∈ ws, OpW w := by
  unfold M__law_opened
  refine ok_lt (ok_gd ⟨by omega, by omega⟩ (ok_bd (Q := fun p => p.1.length = s.toNat ∧ ∀ w ∈ p.1, OpW w) (ok_lp (fun k (p : List Str × Int) => p.1.length = k ∧ ∀ w ∈ p.1, OpW w) ⟨rfl, fun _ m => nomatch m⟩ (fun k x p hx hp => ?_) fun p hp => by rw [List.length_range] at hp; exact hp) fun p hp => ok_some hp))
  obtain ⟨hk, _⟩ := List.getElem?_eq_some_iff.mp hx
  rw [List.length_range] at hk
  refine ok_bd (ok_atIm (Q := OpW) (by omega) (by show _ < (2 : Int); omega) fun y m => by simpa [OpW] using m) fun y hy => ok_gd (szl (by omega)) (ok_lt (ok_lt (ok_some ⟨by rw [List.length_append]; show p.1.length + 1 = _; omega, fun w m => ?_⟩)))
  rcases List.mem_append.mp m with m | m
  · exact hp.2 w m
  · rw [List.mem_singleton.mp m]
    exact hy
theorem op_wd {x : Str} (h : OpW x) : Wd x := by
  rcases h with rfl | rfl
  · exact lit_wd (by decide +kernel)
  · exact lit_wd (by decide +kernel)
/-- an atom that is drawn -/
def AtomD (p : List Str × Bool) : Prop := ∃ c, Gd c ∧ isAtom c = true ∧ wds c = p.1 ∧ hol L28 c = p.2
theorem lc_of {x : Str} (h : (decide (x.length ≤ 8) && (decide (1 ≤ x.length) && x.cps.toList.all (fun c => decide (97 ≤ c ∧ c ≤ 122)))) = true) : Lc x 8 ∧ 1 ≤ x.length := by
  simp only [Bool.and_eq_true, decide_eq_true_eq] at h
  exact ⟨⟨h.1, by simpa using h.2.2⟩, h.2.1⟩
theorem atom_drawn (n : Int) : Ok (M__law_atom n) fun p => AtomD p ∧ 1 ≤ p.1.length ∧ p.1.length ≤ 3 := by
  unfold M__law_atom
  refine ok_lt (ok_gd (by show 7 ≤ 16777216; decide) (ok_lt (ok_gd (by show 9 ≤ 16777216; decide) (ok_ltx fun xs ex => ok_bd (ok_atIm (by omega) (by rw [ex]; show _ < (9 : Int); omega) (Q := fun p => AtomD p ∧ 1 ≤ p.1.length ∧ p.1.length ≤ 3) fun y m => ?_) fun y hy => ok_some hy))))
  rw [ex] at m
  simp only [List.cons_append, List.nil_append, List.mem_cons, List.not_mem_nil, or_false] at m
  rcases m with rfl | rfl | rfl | rfl | rfl | rfl | rfl | rfl | rfl
  · exact ⟨⟨.plain (), .plain (), rfl, rfl, rfl⟩, by show 1 ≤ 1; decide, by show 1 ≤ 3; decide⟩
  · exact ⟨⟨.cause "hail", .cause (lc_of (by decide +kernel)), rfl, rfl, by decide +kernel⟩, by show 1 ≤ 2; decide, by show 2 ≤ 3; decide⟩
  · exact ⟨⟨.cause "not", .cause (lc_of (by decide +kernel)), rfl, rfl, by decide +kernel⟩, by show 1 ≤ 2; decide, by show 2 ≤ 3; decide⟩
  · exact ⟨⟨.thing "roof", .thing (lc_of (by decide +kernel)), rfl, rfl, by decide +kernel⟩, by show 1 ≤ 2; decide, by show 2 ≤ 3; decide⟩
  · exact ⟨⟨.days (7, 365), .days _ (by decide), rfl, by decide +kernel, by decide +kernel⟩, by show 1 ≤ 3; decide, by show 3 ≤ 3; decide⟩
  · exact ⟨⟨.days (8, 365), .days _ (by decide), rfl, by decide +kernel, by decide +kernel⟩, by show 1 ≤ 3; decide, by show 3 ≤ 3; decide⟩
  · exact ⟨⟨.over 99, .over _ (by decide), rfl, by decide +kernel, by decide +kernel⟩, by show 1 ≤ 2; decide, by show 2 ≤ 3; decide⟩
  · exact ⟨⟨.over 100, .over _ (by decide), rfl, by decide +kernel, by decide +kernel⟩, by show 1 ≤ 2; decide, by show 2 ≤ 3; decide⟩
  · exact ⟨⟨.thing "roo", .thing (lc_of (by decide +kernel)), rfl, rfl, by decide +kernel⟩, by show 1 ≤ 2; decide, by show 2 ≤ 3; decide⟩
theorem refused_words {t : Str} {i : Int} (h : M_read_condition t = some (.er (.NoWords i))) : M__law_refused t = some (e_T_s_i (("words" : Str), i)) := by
  unfold M__law_refused
  rw [bdo_er h]
  rfl
theorem refused_deep {t : Str} (h : M_read_condition t = some (.er .TooDeep)) : M__law_refused t = some (e_T_s ("deep" : Str)) := by
  unfold M__law_refused
  rw [bdo_er h]
  rfl
theorem smp_words (i : Int) : Smp 1 (e_T_s_i (("words" : Str), i)) := .tup fun d m => by
  rcases List.mem_cons.mp m with rfl | m
  · exact (sm_lit (x := "words") (by decide +kernel)).smp
  · rw [List.mem_singleton.mp m]
    exact .int i
theorem refused_at {t : Str} {i : Int} (h : M_read_condition t = some (.er (.NoWords i))) : M__law_refused_at t i = some true := by
  unfold M__law_refused_at
  rw [bd_of (refused_words h)]
  have hw : M__law_whole (.int i) = some true := by
    unfold M__law_whole
    rw [bd_of (show isiD "int" (.int i) = some true from (by decide +kernel : kitB "int" "int" = some true))]
    refine Ok.eq (ok_bd (Q := fun v => v = true) (ok_t rfl ?_) fun v hv => ok_some hv)
    rw [bd_of (show isiD "bool" (.int i) = some false from (by decide +kernel : kitB "int" "bool" = some false))]
    exact ok_some rfl
  rw [bd_of (show lenTd (e_T_s_i (("words" : Str), i)) = some 2 from rfl)]
  refine Ok.eq (ok_bd (Q := fun v => v = true) (ok_t rfl ?_) fun v hv => ok_some hv)
  rw [bd_of (show ixD (e_T_s_i (("words" : Str), i)) 1 = some (.int i) from rfl), bd_of hw]
  refine ok_bd (Q := fun v => v = true) (ok_t rfl (ok_gd ⟨(smp_words i).ok, (smp_words i).ok⟩ (ok_some (smp_words i).eqv))) fun v hv => ok_some hv
theorem holds_is {t : Str} {c : Cd} (h : M_read_condition t = some (.ok c)) (m : Mk 64 c) : M__law_holds t = some (hol L28 c) := by
  unfold M__law_holds
  rw [show okx (M_read_condition t) = some c from by rw [h]; rfl, bd_of rfl, bd_of (holds_ok L28 m)]
theorem truth_is (a : Bool) : M__law_truth a a = some true := by
  unfold M__law_truth
  rw [beq_self_eq_true]
  rfl
theorem holds_text {c : Cd} {r : Int} {ws : List Str} {d : Int} (h : Tx c r ws d) (hd : d ≤ 6) (hl : ws.length ≤ 60) : M__law_holds (Txt.join (" " : Str) ws) = some (hol L28 c) := by
  have d0 := h.d0
  exact holds_is (read_cond_ok h hd hl) (h.mk.up (by omega))
/-- nots and brackets round a condition -/
def nst : List Str → Cd → Cd
  | [], c => c
  | x :: r, c => if x = "not" then .notOf (nst r c) else nst r c
theorem not_par : ("(" : Str) ≠ ("not" : Str) := by decide +kernel
theorem nst_hol (l : LOSS) (c : Cd) : ∀ {ws : List Str}, (∀ w ∈ ws, OpW w) → hol l (nst ws c) = (hol l c == decide (ws.count ("not" : Str) % 2 = 0))
  | [], _ => by
    show hol l c = (hol l c == decide (0 % 2 = 0))
    cases hol l c <;> rfl
  | x :: r, h => by
    have ih := nst_hol l c (ws := r) fun w m => h w (List.mem_cons_of_mem _ m)
    rcases h x List.mem_cons_self with rfl | rfl
    · show hol l (if ("not" : Str) = "not" then .notOf (nst r c) else nst r c) = _
      rw [if_pos rfl, List.count_cons_self]
      show (!hol l (nst r c)) = _
      rw [ih]
      by_cases e : r.count ("not" : Str) % 2 = 0
      · rw [decide_eq_true e, decide_eq_false (show ¬ ((r.count ("not" : Str) + 1) % 2 = 0) by omega)]
        cases hol l c <;> rfl
      · rw [decide_eq_false e, decide_eq_true (show (r.count ("not" : Str) + 1) % 2 = 0 by omega)]
        cases hol l c <;> rfl
    · show hol l (if ("(" : Str) = "not" then .notOf (nst r c) else nst r c) = _
      rw [if_neg not_par, ih, List.count_cons_of_ne (by exact not_par)]
theorem nst_tx {c : Cd} {r : Int} {qs : List Str} {d : Int} (h : Tx c r qs d) : ∀ {ws : List Str}, (∀ w ∈ ws, OpW w) → (r = 3 ∨ ws.getLast? ≠ some ("not" : Str)) → Tx (nst ws c) (if ws = [] then r else 3) (ws ++ qs ++ List.replicate (ws.count ("(" : Str)) (")" : Str)) (d + ws.length)
  | [], _, _ => by
    show Tx c r (qs ++ []) (d + ((0 : Nat) : Int))
    rw [List.append_nil, show d + ((0 : Nat) : Int) = d by omega]
    exact h
  | x :: t, hw, hr => by
    have ht : r = 3 ∨ t = [] ∨ t.getLast? ≠ some ("not" : Str) := by
      rcases hr with hr | hr
      · exact .inl hr
      · cases t with
        | nil => exact .inr (.inl rfl)
        | cons y t => exact .inr (.inr (by rwa [List.getLast?_cons_cons] at hr))
    have ht2 : r = 3 ∨ t.getLast? ≠ some ("not" : Str) := by
      rcases ht with e | rfl | e
      · exact .inl e
      · exact .inr (fun z => by cases z)
      · exact .inr e
    have ih := nst_tx h (ws := t) (fun w m => hw w (List.mem_cons_of_mem _ m)) ht2
    rw [if_neg (List.cons_ne_nil _ _)]
    have el : d + ((x :: t).length : Int) = d + (t.length : Int) + 1 := by rw [List.length_cons]; omega
    rw [el]
    rcases hw x List.mem_cons_self with rfl | rfl
    · have e3 : (if t = [] then r else 3) = 3 := by
        by_cases e : t = []
        · subst e
          rcases hr with e | e
          · rw [if_pos rfl, e]
          · exact absurd rfl e
        · rw [if_neg e]
      rw [e3] at ih
      show Tx (if ("not" : Str) = "not" then .notOf (nst t c) else nst t c) 3 _ _
      rw [if_pos rfl, List.count_cons_of_ne (by exact not_par.symm)]
      exact .not ih
    · show Tx (if ("(" : Str) = "not" then .notOf (nst t c) else nst t c) 3 _ _
      rw [if_neg not_par, List.count_cons_self, List.replicate_succ']
      have := Tx.par ih
      simp only [List.cons_append, List.append_assoc] at this ⊢
      exact this
theorem nst_hx {o : Int} : ∀ {ws : List Str} {h : Nat}, (h = 1 ∨ h = 2 ∨ h = 3) → (∀ w ∈ ws, OpW w) → (h = 3 ∨ ws.getLast? ≠ some ("not" : Str)) → o + ws.length ≤ 6 → ∀ (r : Nat), (r = 1 ∨ r = 2 ∨ r = 3) → (ws ≠ [] ∨ r ≤ h) → ∃ b, Hx o r h ws (o + ws.length) b
  | [], h, hh, _, _, l, r, hr, hrh => by
    have : r ≤ h := by
      rcases hrh with z | z
      · exact absurd rfl z
      · exact z
    refine ⟨false, ?_⟩
    show Hx o r h [] (o + ((0 : Nat) : Int)) false
    rw [show o + ((0 : Nat) : Int) = o by omega]
    exact hx_down (by have : o + ((0 : Nat) : Int) ≤ 6 := l; omega) hr hh this
  | x :: t, h, hh, hw, hl, l, r, hr, _ => by
    have l : o + ((t.length + 1 : Nat) : Int) ≤ 6 := l
    have hl2 : h = 3 ∨ t.getLast? ≠ some ("not" : Str) := by
      rcases hl with e | e
      · exact .inl e
      · cases t with
        | nil => exact .inr (fun z => by cases z)
        | cons y t => exact .inr (by rwa [List.getLast?_cons_cons] at e)
    have e1 : o + ((x :: t).length : Int) = o + 1 + (t.length : Int) := by rw [List.length_cons]; omega
    have dn : Hx o r 3 [] o false := hx_down (by omega) hr (.inr (.inr rfl)) (by rcases hr with rfl | rfl | rfl <;> decide)
    rw [e1]
    rcases hw x List.mem_cons_self with rfl | rfl
    · obtain ⟨b, z⟩ := nst_hx (o := o + 1) (ws := t) hh (fun w m => hw w (List.mem_cons_of_mem _ m)) hl2 (by omega) 3 (.inr (.inr rfl)) (by
        by_cases e : t = []
        · subst e
          rcases hl with e | e
          · exact .inr (by omega)
          · exact absurd rfl e
        · exact .inl e)
      exact dn.trans (.not (by omega) z)
    · obtain ⟨b, z⟩ := nst_hx (o := o + 1) (ws := t) hh (fun w m => hw w (List.mem_cons_of_mem _ m)) hl2 (by omega) 1 (.inl rfl) (.inr (by omega))
      exact dn.trans (.par (by omega) z)
theorem rep_close (n : Nat) : repG [(")" : Str)] (n : Int) = List.replicate n (")" : Str) := by
  show (List.replicate (n : Int).toNat [(")" : Str)]).flatten = _
  rw [show ((n : Int)).toNat = n by omega]
  induction n with
  | zero => rfl
  | succ n ih => rw [List.replicate_succ, List.flatten_cons, ih, List.replicate_succ]; rfl
theorem par_mod (n : Nat) : (((n : Int) % 2) == 0) = decide (n % 2 = 0) := by
  by_cases h : n % 2 = 0
  · rw [decide_eq_true h, beq_iff_eq]; omega
  · rw [decide_eq_false h, beq_eq_false_iff_ne]; omega
open SX TL
theorem wd_app {a b : List Str} (ha : ∀ w ∈ a, Wd w) (hb : ∀ w ∈ b, Wd w) : ∀ w ∈ a ++ b, Wd w := fun w m => (List.mem_append.mp m).elim (ha w) (hb w)
theorem ops_wd {ws : List Str} (h : ∀ w ∈ ws, OpW w) : ∀ w ∈ ws, Wd w := fun w m => op_wd (h w m)
theorem cl_wd : Wd (")" : Str) := lit_wd (by decide +kernel)
theorem reps_wd {n : Nat} {x : Str} (h : Wd x) : ∀ w ∈ List.replicate n x, Wd w := fun w m => by rw [(List.mem_replicate.mp m).2]; exact h
theorem read_gd {ws : List Str} (h : ∀ w ∈ ws, Wd w) (l : ws.length ≤ 900) : (ws.map (·.length)).sum + ws.length * (" " : Str).length ≤ 16777216 := join_gd h l
theorem cnt_gd {ws : List Str} (x : Str) (l : ws.length ≤ 100) : (-(2 ^ 63) ≤ ((ws.count x : Nat) : Int) ∧ ((ws.count x : Nat) : Int) < 2 ^ 63) ∧ [(")" : Str)].length * ((ws.count x : Nat) : Int).toNat ≤ sizeLine := by
  have := List.count_le_length (a := x) (l := ws)
  refine ⟨⟨by omega, by omega⟩, ?_⟩
  show 1 * ((ws.count x : Nat) : Int).toNat ≤ 16777216
  omega
theorem smp_deep : Smp 1 (e_T_s ("deep" : Str)) := .tup fun d m => by
  rw [List.mem_singleton.mp m]
  exact (sm_lit (x := "deep") (by decide +kernel)).smp
/-- a word that goes on after a piece: none of the words that join or close -/
def MoreD (y : List Str) : Prop := stuck y ∧ (∃ x post, y = x :: post) ∧ (∀ w ∈ y, Wd w) ∧ y.length ≤ 3
def AnyD (n : Nat) (y : List Str) : Prop := (∀ w ∈ y, Wd w) ∧ y.length ≤ n
theorem any_lits {xs : List Str} (h : xs.all (fun x => decide (x.length ≤ 63) && (x.cps.toList.all (· < 128) && !(x.cps.toList.contains 32))) = true) : ∀ w ∈ xs, Wd w := fun w m => lit_wd (List.all_eq_true.mp h w m)
theorem nested_ok {ns : List Int} (hn : ns.length ≤ 63) {k : Int} (hk : 0 ≤ k ∧ k < 900) : Ok (M__law_nested ns k) (· = true) := by
  unfold M__law_nested
  refine ok_bd (cell_ok hn ⟨hk.1, by omega⟩) fun v1 h1 => ok_ltx fun size es => ok_bd (mix_ok ⟨hk.1, by omega⟩) fun v2 _ => ok_bd (opened_ok (by omega)) fun v3 ⟨l3, o3⟩ => ok_bd (cell_ok hn ⟨by omega, by omega⟩) fun v4 _ => ok_bd (atom_drawn v4) fun v5 ⟨⟨c, gc, ac, wc, hc⟩, a1, a3⟩ => ?_
  have s0 : 0 ≤ size ∧ size < 13 := by omega
  clear es
  have w5 : ∀ w ∈ v5.1, Wd w := by rw [← wc]; exact wds_wd gc
  have w3 := ops_wd o3
  have cle := List.count_le_length (a := ("(" : Str)) (l := v3)
  refine ok_gd (cnt_gd _ (by omega)) (ok_ltx fun closing ecl => ?_)
  rw [rep_close] at ecl
  have lcl : closing.length ≤ 12 := by rw [ecl, List.length_replicate]; omega
  have wcl : ∀ w ∈ closing, Wd w := by rw [ecl]; exact reps_wd cl_wd
  have tc : Tx c 3 v5.1 0 := by rw [← wc]; exact .atom gc ac
  refine ok_cond (fun hb => ?_) fun _ => ok_cond (fun hb => ?_) fun hb => ?_
  · have hb := of_decide_eq_true (Bool.and_eq_true_iff.mp hb).1
    refine ok_bd (ok_atIm (Q := MoreD) (by omega) (by show _ < (4 : Int); omega) fun y m => ?_) fun v7 ⟨st, ⟨x, post, e7⟩, w7, l7⟩ => ?_
    · simp only [List.mem_cons, List.not_mem_nil, or_false] at m
      rcases m with rfl | rfl | rfl | rfl
      · exact ⟨by unfold stuck; decide +kernel, ⟨_, _, rfl⟩, any_lits (by decide +kernel), by show 2 ≤ 3; decide⟩
      · exact ⟨by unfold stuck; decide +kernel, ⟨_, _, rfl⟩, any_lits (by decide +kernel), by show 3 ≤ 3; decide⟩
      · exact ⟨by unfold stuck; decide +kernel, ⟨_, _, rfl⟩, any_lits (by decide +kernel), by show 1 ≤ 3; decide⟩
      · exact ⟨by unfold stuck; decide +kernel, ⟨_, _, rfl⟩, any_lits (by decide +kernel), by show 1 ≤ 3; decide⟩
    · subst e7
      have ww : ∀ w ∈ (v3 ++ v5.1) ++ (x :: post), Wd w := wd_app (wd_app w3 w5) w7
      have lw : ((v3 ++ v5.1) ++ (x :: post)).length ≤ 20 := by rw [List.length_append, List.length_append]; omega
      refine ok_gd (sz (by omega)) (ok_gd (sz (by rw [List.length_append]; omega)) (ok_gd (read_gd ww (by omega)) ?_))
      obtain ⟨b, hx⟩ := nst_hx (o := 0) (ws := v3) (h := 3) (.inr (.inr rfl)) o3 (.inl rfl) (by omega) 1 (.inl rfl) (.inr (by decide))
      have e := refuse_at (pre := v3 ++ v5.1) (x := x) (post := post) (.inr ⟨v3, v5.1, c, _, 0, b, rfl, hx, tc, by omega, st⟩) ww (by omega)
      rw [show size + (v5.1.length : Int) = ((v3 ++ v5.1).length : Int) from by rw [List.length_append]; omega, bd_of (refused_at e)]
      exact ok_some rfl
  · have hb := of_decide_eq_true hb
    refine ok_gd (sz (by omega)) (ok_gd (sz (by omega)) (ok_gd (sz (by rw [List.length_append]; show _ + 1 ≤ _; omega)) (ok_ltx fun some_ eso => ?_)))
    refine ok_bd (ok_atIm (Q := AnyD 16) (by omega) (by rw [eso]; show _ < (7 : Int); omega) fun y m => ?_) fun v15 ⟨w15, l15⟩ => ?_
    · rw [eso] at m
      simp only [List.mem_cons, List.not_mem_nil, or_false] at m
      rcases m with rfl | rfl | rfl | rfl | rfl | rfl | rfl
      · exact ⟨wd_app w5 wcl, by rw [List.length_append]; omega⟩
      · exact ⟨w5, by omega⟩
      · exact ⟨any_lits (by decide +kernel), by show 1 ≤ 16; decide⟩
      · exact ⟨any_lits (by decide +kernel), by show 1 ≤ 16; decide⟩
      · exact ⟨(fun _ m => nomatch m), by show 0 ≤ 16; decide⟩
      · exact ⟨any_lits (by decide +kernel), by show 2 ≤ 16; decide⟩
      · exact ⟨wd_app (wd_app w5 wcl) (any_lits (by decide +kernel)), by rw [List.length_append, List.length_append]; show _ + 1 ≤ 16; omega⟩
    · have ww : ∀ w ∈ v3 ++ v15, Wd w := wd_app w3 w15
      have lw : (v3 ++ v15).length ≤ 40 := by rw [List.length_append]; omega
      refine ok_gd (sz (by omega)) (ok_gd (read_gd ww (by omega)) (ok_lt ?_))
      have e : M_read_condition (Txt.join (" " : Str) (v3 ++ v15)) = some (.er .TooDeep) := by
        obtain ⟨x, r, ex⟩ : ∃ x r, v3.drop 6 = x :: r := by
          cases hd : v3.drop 6 with
          | nil =>
            have := congrArg List.length hd
            rw [List.length_drop] at this
            have : v3.length - 6 = 0 := this
            omega
          | cons x r => exact ⟨x, r, rfl⟩
        have e3 : v3 = v3.take 6 ++ (x :: r) := by rw [← ex, List.take_append_drop]
        have l6 : (v3.take 6).length = 6 := by rw [List.length_take]; omega
        have ox : OpW x := o3 x (by rw [e3]; simp)
        obtain ⟨b, hx⟩ := nst_hx (o := 0) (ws := v3.take 6) (h := 3) (.inr (.inr rfl)) (fun w m => o3 w (List.mem_of_mem_take m)) (.inl rfl) (by omega) 1 (.inl rfl) (.inr (by decide))
        rw [l6] at hx
        refine refuse_er ww (fun z => by
          have := congrArg List.length z
          rw [List.length_append] at this
          have : v3.length + v15.length = 0 := this
          omega) (by omega) ?_
        have eW : v3 ++ v15 = v3.take 6 ++ (x :: (r ++ v15)) := by rw [← List.cons_append, ← List.append_assoc, ← e3]
        exact up_er hx ⟨Nat.le_refl _, by decide⟩ (Int.le_refl _) (m := 20) (Nat.le_refl _) (v3 ++ v15) [] (x :: (r ++ v15)) 64 (by rw [eW]; rfl) (fun g hg => by
          rw [List.length_nil, Nat.zero_add]
          exact leaf_deep eW ox (by omega)) (by omega)
      rw [bd_of (refused_deep e)]
      exact ok_gd ⟨smp_deep.ok, smp_deep.ok⟩ (ok_some smp_deep.eqv)
  · have hb : size ≤ 6 := by have := of_decide_eq_false hb; omega
    have lw : ((v3 ++ v5.1) ++ closing).length ≤ 30 := by rw [List.length_append, List.length_append]; omega
    refine ok_gd (sz (by omega)) (ok_gd (sz (by rw [List.length_append]; omega)) (ok_gd (read_gd (wd_app (wd_app w3 w5) wcl) (by omega)) (ok_lt ?_)))
    have t := nst_tx tc o3 (.inl rfl)
    rw [← ecl] at t
    rw [bd_of (holds_text t (by omega) (by omega)), nst_hol L28 c o3, hc, par_mod]
    rw [bd_of (truth_is _)]
    exact ok_some rfl
open SX TL
theorem cut_m1 {α : Type} (a : List α) (x : α) : cutG (a ++ [x]) (some (-(1 : Int))) none = [x] := by
  unfold cutG
  have e1 : HT.sIx (a ++ [x]).length 0 (some (-(1 : Int))) = a.length := by
    unfold HT.sIx
    simp only [List.length_append, List.length_singleton]
    rw [if_pos (by decide)]
    omega
  have e2 : HT.sIx (a ++ [x]).length (a ++ [x]).length none = (a ++ [x]).length := rfl
  rw [e1, e2, List.drop_left, List.length_append]
  show [x].take (a.length + 1 - a.length) = _
  rw [show a.length + 1 - a.length = 1 by omega]
  rfl
theorem cut_p1 {α : Type} (a : List α) (x : α) : cutG (a ++ [x]) none (some (-(1 : Int))) = a := by
  unfold cutG
  have e1 : HT.sIx (a ++ [x]).length (a ++ [x]).length (some (-(1 : Int))) = a.length := by
    unfold HT.sIx
    simp only [List.length_append, List.length_singleton]
    rw [if_pos (by decide)]
    omega
  have e2 : HT.sIx (a ++ [x]).length 0 none = 0 := rfl
  rw [e1, e2, List.drop_zero, Nat.sub_zero, List.take_left]
theorem hdw_jn (w : Str) : ∀ {xs : List (List Str)}, xs ≠ [] → hdw w xs = jn w xs ++ [w]
  | [], h => absurd rfl h
  | [x], _ => by
    show x ++ [w] = (x ++ []) ++ [w]
    rw [List.append_nil]
  | x :: y :: r, _ => by
    have ih := hdw_jn w (xs := y :: r) (by simp)
    show x ++ (w :: hdw w (y :: r)) = (x ++ (w :: jn w (y :: r))) ++ [w]
    rw [ih]
    simp
theorem jn_snoc (w : Str) (xs : List (List Str)) (y : List Str) : jn w (xs ++ [y]) = hdw w xs ++ y := by
  rw [jn_split]
  show _ ++ (y ++ []) = _
  rw [List.append_nil]
/-- a part that is drawn -/
structure PartD (d : Int) (B : Nat) (p : Cd × List Str) : Prop where
  tx : Tx p.1 3 p.2 d
  wd : ∀ w ∈ p.2, Wd w
  len : p.2.length ≤ B
theorem par_wd : Wd ("(" : Str) := lit_wd (by decide +kernel)
theorem notw_wd : Wd ("not" : Str) := lit_wd (by decide +kernel)
theorem hdw_wd {w : Str} (hw : Wd w) : ∀ {xs : List (List Str)}, (∀ x ∈ xs, ∀ y ∈ x, Wd y) → ∀ y ∈ hdw w xs, Wd y
  | [], _, _, m => nomatch m
  | x :: r, h, y, m => by
    have m : y ∈ x ++ (w :: hdw w r) := m
    rcases List.mem_append.mp m with m | m
    · exact h x List.mem_cons_self y m
    · rcases List.mem_cons.mp m with rfl | m
      · exact hw
      · exact hdw_wd hw (fun z mz => h z (List.mem_cons_of_mem _ mz)) y m
theorem hdw_len {w : Str} {B : Nat} : ∀ {xs : List (List Str)}, (∀ x ∈ xs, x.length ≤ B) → (hdw w xs).length ≤ xs.length * (B + 1)
  | [], _ => Nat.zero_le _
  | x :: r, h => by
    have ih := hdw_len (w := w) (xs := r) fun z m => h z (List.mem_cons_of_mem _ m)
    have := h x List.mem_cons_self
    show (x ++ (w :: hdw w r)).length ≤ (r.length + 1) * (B + 1)
    rw [List.length_append, List.length_cons, Nat.add_mul]
    omega
theorem jn_len2 {w : Str} {B : Nat} {xs : List (List Str)} (h : ∀ x ∈ xs, x.length ≤ B) : (jn w xs).length ≤ xs.length * (B + 1) := by
  cases xs with
  | nil => exact Nat.zero_le _
  | cons x r =>
    have h1 := hdw_len (w := w) h
    rw [hdw_jn w (List.cons_ne_nil _ _), List.length_append] at h1
    omega
/-- what the walk over the parts keeps -/
structure RowI (ah : List Str) (w : Str) (d : Int) (B : Nat) (few : Prop) (j : Nat) (p : Int × Int × List Str × List Bool) : Prop where
  n0 : 0 ≤ p.1 ∧ (¬ few → p.1 = 0)
  lo : j ≤ 8 → ∃ ps : List (Cd × List Str), ps.length = j ∧ (∀ q ∈ ps, PartD d B q) ∧ p.2.2.1 = ah ++ jn w (ps.map (·.2)) ∧ p.2.2.2 = (ps.map (·.1)).map (hol L28)
  hi : 8 < j → ∃ (ps : List (Cd × List Str)) (rest : List Str), ps.length = 8 ∧ (∀ q ∈ ps, PartD d B q) ∧ p.2.2.1 = ah ++ (hdw w (ps.map (·.2)) ++ rest) ∧ (∀ x ∈ rest, Wd x) ∧ rest.length ≤ (j - 8) * (B + 1) ∧ p.2.1 = ((ah ++ hdw w (ps.map (·.2))).length : Int)
  dl : p.2.2.2.length = j
theorem last_op {ws : List Str} (h : ∀ w ∈ ws, OpW w) : ws = [] ∨ ∃ a x, ws = a ++ [x] ∧ OpW x := by
  rcases List.eq_nil_or_concat ws with e | ⟨a, x, e⟩
  · exact .inl e
  · rw [List.concat_eq_append] at e
    exact .inr ⟨a, x, e, h x (by rw [e]; simp)⟩
theorem row_ok {ns : List Int} (hn : ns.length ≤ 63) {k : Int} (hk : 0 ≤ k ∧ k < 400) : Ok (M__law_row ns k) (· = true) := by
  unfold M__law_row
  refine ok_bd (cell_ok hn ⟨hk.1, by omega⟩) fun v1 h1 => ok_ltx fun size es => ?_
  have s0 : 2 ≤ size ∧ size ≤ 11 := by omega
  clear es
  refine ok_bd (ok_atIm (Q := fun w => w = ("and" : Str) ∨ w = ("or" : Str)) (by omega) (by show _ < (2 : Int); omega) fun y m => by simpa using m) fun v2 h2 => ok_bd (mix_ok ⟨by omega, by omega⟩) fun v3 _ => ok_bd (opened_ok (by omega)) fun v4 ⟨l4, o4⟩ => ?_
  have w2 : Wd v2 := by
    rcases h2 with rfl | rfl
    · exact lit_wd (by decide +kernel)
    · exact lit_wd (by decide +kernel)
  have l4 : v4.length ≤ 6 := by omega
  refine ok_gd ⟨wd_lst fun y m => ops_wd o4 y (by
    unfold cutG at m
    exact List.mem_of_mem_drop (List.mem_of_mem_take m)), wd_lst fun y m => by rw [List.mem_singleton.mp m]; exact notw_wd⟩ ?_
  refine ok_bd (Q := fun ah => (∀ w ∈ ah, OpW w) ∧ ah.length ≤ 6 ∧ ah.getLast? ≠ some ("not" : Str)) ?_ fun p6 ⟨o6, l6, g6⟩ => ok_ltx fun dues ed => ?_
  · rcases last_op o4 with rfl | ⟨a, x, rfl, ox⟩
    · exact ok_f (by rfl) (ok_some ⟨o4, by decide, fun z => by cases z⟩)
    · rw [List.length_append] at l4
      have l4 : a.length + 1 ≤ 6 := l4
      rw [cut_m1, cut_p1, eqv_map eqv_s]
      rcases ox with rfl | rfl
      · refine ok_t (by decide +kernel) (ok_gd (sz (by show a.length + 1 ≤ _; omega)) (ok_lt (ok_some ⟨fun w m => ?_, by rw [List.length_append]; exact l4, ?_⟩)))
        · rcases List.mem_append.mp m with m | m
          · exact o4 w (List.mem_append.mpr (.inl m))
          · rw [List.mem_singleton.mp m]; exact .inr rfl
        · rw [List.getLast?_append]
          exact fun z => not_par (Option.some.inj z)
      · refine ok_f (by decide +kernel) (ok_some ⟨o4, by rw [List.length_append]; exact l4, ?_⟩)
        rw [List.getLast?_append]
        exact fun z => not_par (Option.some.inj z)
  have w6 := ops_wd o6
  have c6 := List.count_le_length (a := ("(" : Str)) (l := p6)
  refine ok_bd (Q := fun n : Int => 0 ≤ n ∧ (¬ (p6.length < 6 ∧ size < 10) → n = 0)) (ok_cond (fun h => ok_bd (mix_ok ⟨by omega, by omega⟩) fun v9 h9 => ok_lt (ok_some ⟨by omega, fun z => absurd ?_ z⟩)) fun _ => ok_some ⟨Int.le_refl _, fun _ => rfl⟩) fun p8 h8 => ok_gd ⟨by omega, by omega⟩ ?_
  · have := Bool.and_eq_true_iff.mp h
    have h1 := of_decide_eq_true this.1
    exact ⟨by omega, of_decide_eq_true this.2⟩
  obtain ⟨B, B3, B4, B6, BL⟩ : ∃ B : Nat, 3 ≤ B ∧ (p6.length < 6 ∧ size < 10 → 4 ≤ B) ∧ (size < 8 ∧ p6.length < 5 → 6 ≤ B) ∧ 2 * p6.length + size.toNat * (B + 1) ≤ 60 := by
    by_cases a : size < 8 ∧ p6.length < 5
    · exact ⟨6, by omega, by omega, by omega, by omega⟩
    by_cases b : p6.length < 6 ∧ size < 10
    · exact ⟨4, by omega, by omega, fun z => absurd z a, by omega⟩
    · exact ⟨3, by omega, fun z => absurd z b, fun z => absurd z a, by omega⟩
  generalize hd : (6 - (p6.length : Int)) = d
  have d0 : 0 ≤ d := by omega
  refine ok_bd (Q := RowI p6 v2 d B (p6.length < 6 ∧ size < 10) size.toNat) (ok_lp (RowI p6 v2 d B (p6.length < 6 ∧ size < 10)) ?_ (fun j x p hx hp => ?_) fun p hp => by rwa [List.length_range] at hp) fun p13 h13 => ?_
  · exact ⟨h8, fun _ => ⟨[], rfl, fun _ m => (nomatch m), (List.append_nil _).symm, by rw [ed]; rfl⟩, fun z => absurd z (by decide), by rw [ed]; rfl⟩
  · obtain ⟨hj, ej⟩ := List.getElem?_eq_some_iff.mp hx
    rw [List.length_range] at hj
    rw [List.getElem_range] at ej
    subst ej
    have n0 := hp.n0.1
    have n1 := hp.n0.2
    have dl := hp.dl
    refine ok_bd (mix_ok ⟨by omega, by omega⟩) fun v14 _ => ok_bd (atom_drawn v14) fun v15 ⟨⟨c, gc, ac, wc, hc⟩, a1, a3⟩ => ?_
    have w5 : ∀ w ∈ v15.1, Wd w := by rw [← wc]; exact wds_wd gc
    have tc : Tx c 3 v15.1 0 := by rw [← wc]; exact .atom gc ac
    refine ok_bd (Q := fun q : List Str × Bool => ∃ c, PartD d B (c, q.1) ∧ hol L28 c = q.2) (ok_cond (fun ho => ?_) fun _ => ok_some ⟨c, ⟨tc.up (by omega), w5, by show v15.1.length ≤ B; omega⟩, hc⟩) fun p16 ⟨c2, hp2, hh2⟩ => ok_ltx fun nots_1 en => ?_
    · have few : p6.length < 6 ∧ size < 10 := Classical.byContradiction fun z => by
        have e := n1 z
        rw [e] at ho
        exact absurd ho (by decide)
      have := B4 few
      refine ok_bd (Q := fun q => ∃ d2, Tx c 3 q d2 ∧ d2 + 1 ≤ d ∧ (∀ w ∈ q, Wd w) ∧ q.length + 1 ≤ B) (ok_cond (fun hb => ?_) fun _ => ok_some ⟨0, tc, by omega, w5, by omega⟩) fun p17 ⟨d2, t2, l2, ww2, ll2⟩ => ?_
      · have hb := Bool.and_eq_true_iff.mp (Bool.and_eq_true_iff.mp hb).2
        have b1 := of_decide_eq_true hb.1
        have b2 := of_decide_eq_true hb.2
        have := B6 ⟨b1, by omega⟩
        refine ok_gd (sz (by show 1 + v15.1.length ≤ _; omega)) (ok_gd (sz (by rw [List.length_append]; show 1 + v15.1.length + 1 ≤ _; omega)) (ok_lt (ok_some ⟨1, tc.par, by omega, ?_, ?_⟩)))
        · exact wd_app (wd_app (fun w m => by rw [List.mem_singleton.mp m]; exact par_wd) w5) fun w m => by rw [List.mem_singleton.mp m]; exact cl_wd
        · rw [List.length_append, List.length_append]
          show 1 + v15.1.length + 1 + 1 ≤ B
          omega
      · refine ok_gd (sz (by
          show 1 + p17.length ≤ _
          have : B ≤ 60 := by
            have h2 : 2 ≤ size.toNat := by omega
            have := Nat.mul_le_mul_right (B + 1) h2
            omega
          omega)) (ok_lt (ok_lt (ok_some ⟨.notOf c, ⟨(Tx.not t2).up (by omega), ?_, ?_⟩, ?_⟩)))
        · exact wd_app (fun w m => by rw [List.mem_singleton.mp m]; exact notw_wd) ww2
        · show ([("not" : Str)] ++ p17).length ≤ B
          rw [List.length_append]
          show 1 + p17.length ≤ B
          omega
        · show (!hol L28 c) = !v15.2
          rw [hc]
    have BB : B ≤ 60 := by
      have h2 : 2 ≤ size.toNat := by omega
      have := Nat.mul_le_mul_right (B + 1) h2
      omega
    have hn2 : 0 ≤ nots_1 ∧ (¬ (p6.length < 6 ∧ size < 10) → nots_1 = 0) := ⟨by omega, fun z => by rw [en, n1 z]; rfl⟩
    clear en
    -- what the words are so far
    have wl : p.2.2.1.length ≤ 200 ∧ ∀ w ∈ p.2.2.1, Wd w := by
      by_cases h9 : j ≤ 8
      · obtain ⟨ps, lp, hps, ew, _⟩ := hp.lo h9
        have := jn_len2 (w := v2) (B := B) (xs := ps.map (·.2)) fun x m => by obtain ⟨q, mq, rfl⟩ := List.mem_map.mp m; exact (hps q mq).len
        rw [List.length_map, lp] at this
        have hm := Nat.mul_le_mul_right (B + 1) (Nat.le_of_lt hj)
        refine ⟨by rw [ew, List.length_append]; omega, ?_⟩
        rw [ew]
        exact wd_app w6 (jn_wd w2 fun x m => by obtain ⟨q, mq, rfl⟩ := List.mem_map.mp m; exact (hps q mq).wd)
      · obtain ⟨ps, rest, lp, hps, ew, wr, lr, _⟩ := hp.hi (by omega)
        have := hdw_len (w := v2) (B := B) (xs := ps.map (·.2)) fun x m => by obtain ⟨q, mq, rfl⟩ := List.mem_map.mp m; exact (hps q mq).len
        rw [List.length_map, lp] at this
        have hm := Nat.mul_le_mul_right (B + 1) (Nat.le_of_lt hj)
        have hs : (j - 8) * (B + 1) + 8 * (B + 1) = j * (B + 1) := by rw [← Nat.add_mul, show j - 8 + 8 = j by omega]
        refine ⟨by rw [ew, List.length_append, List.length_append]; omega, ?_⟩
        rw [ew]
        exact wd_app w6 (wd_app (hdw_wd w2 fun x m => by obtain ⟨q, mq, rfl⟩ := List.mem_map.mp m; exact (hps q mq).wd) wr)
    refine ok_bd (Q := fun q : Int × List Str => (∀ w ∈ q.2, Wd w) ∧ q.2.length ≤ B ∧ (j < 8 → q.2 = p16.1) ∧ (j = 8 → q.1 = (p.2.2.1.length : Int) + 1) ∧ (8 < j → q.1 = p.2.1)) (ok_cond (fun h => ?_) fun h => ok_some ⟨hp2.wd, hp2.len, fun _ => rfl, fun z => ?_, fun _ => rfl⟩) fun p21 ⟨w21, l21, q1, q2, q3⟩ => ?_
    · have e8 : j = 8 := by have := eq_of_beq h; omega
      refine ok_lt (ok_bd (ok_atIm (Q := fun y => (∀ w ∈ y, Wd w) ∧ y.length ≤ B) (by omega) (by show _ < (5 : Int); omega) fun y m => ?_) fun v22 h22 => ok_some ⟨h22.1, h22.2, fun z => absurd z (by omega), fun _ => rfl, fun z => absurd z (by omega)⟩)
      simp only [List.mem_cons, List.not_mem_nil, or_false] at m
      rcases m with rfl | rfl | rfl | rfl | rfl
      · exact ⟨hp2.wd, hp2.len⟩
      · exact ⟨any_lits (by decide +kernel), by show 2 ≤ B; omega⟩
      · exact ⟨any_lits (by decide +kernel), by show 3 ≤ B; omega⟩
      · exact ⟨any_lits (by decide +kernel), by show 1 ≤ B; omega⟩
      · exact ⟨any_lits (by decide +kernel), by show 1 ≤ B; omega⟩
    · subst z
      exact absurd h (by decide)
    refine ok_bd (Q := fun ws => ws = p.2.2.1 ++ (if j = 0 then [] else [v2])) (ok_cond (fun h => ok_gd (szl (by omega)) (ok_lt (ok_some ?_))) fun h => ok_some ?_) fun p23 e23 => ?_
    · have := of_decide_eq_true h
      rw [if_neg (by omega)]
    · have := of_decide_eq_false h
      rw [if_pos (by omega), List.append_nil]
    have l23 : p23.length ≤ 201 := by
      rw [e23, List.length_append]
      split
      · show _ + 0 ≤ _; omega
      · show _ + 1 ≤ _; omega
    refine ok_gd (sz (by omega)) (ok_lt (ok_gd (szl (by omega)) (ok_lt (ok_some ⟨hn2, fun h9 => ?_, fun h9 => ?_, ?_⟩))))
    · obtain ⟨ps, lp, hps, ew, ed2⟩ := hp.lo (by omega)
      refine ⟨ps ++ [(c2, p16.1)], by rw [List.length_append, lp]; rfl, fun q m => ?_, ?_, ?_⟩
      · rcases List.mem_append.mp m with m | m
        · exact hps q m
        · rw [List.mem_singleton.mp m]; exact hp2
      · show p23 ++ p21.2 = _
        rw [e23, ew, q1 (by omega), List.map_append]
        show _ = p6 ++ jn v2 (ps.map (·.2) ++ [p16.1])
        rw [jn_snoc]
        by_cases j0 : j = 0
        · rw [if_pos j0]
          have : ps = [] := List.eq_nil_of_length_eq_zero (by omega)
          rw [this]
          show p6 ++ [] ++ [] ++ _ = p6 ++ ([] ++ p16.1)
          simp
        · rw [if_neg j0, hdw_jn v2 (by simp; intro z; rw [z] at lp; exact j0 lp.symm)]
          simp only [List.append_assoc]
      · show p.2.2.2 ++ [p16.2] = _
        rw [ed2, ← hh2, List.map_append, List.map_append]
        rfl
    · by_cases h10 : j = 8
      · obtain ⟨ps, lp, hps, ew, ed2⟩ := hp.lo (by omega)
        have eh : hdw v2 (ps.map (·.2)) = jn v2 (ps.map (·.2)) ++ [v2] := hdw_jn v2 (by simp; intro z; rw [z] at lp; exact absurd (lp.trans h10) (by decide))
        refine ⟨ps, p21.2, by omega, hps, ?_, w21, by rw [h10]; show _ ≤ 1 * (B + 1); omega, ?_⟩
        · show p23 ++ p21.2 = _
          rw [e23, ew, if_neg (by omega), eh]
          simp only [List.append_assoc]
        · show p21.1 = _
          rw [q2 h10, ew, eh]
          simp only [List.length_append, List.length_singleton]
          omega
      · obtain ⟨ps, rest, lp, hps, ew, wr, lr, e9⟩ := hp.hi (by omega)
        refine ⟨ps, rest ++ (v2 :: p21.2), lp, hps, ?_, wd_app wr (fun w m => by rcases List.mem_cons.mp m with rfl | m; exact w2; exact w21 w m), ?_, ?_⟩
        · show p23 ++ p21.2 = _
          rw [e23, ew, if_neg (by omega)]
          simp only [List.append_assoc, List.singleton_append]
        · rw [List.length_append, List.length_cons, show j + 1 - 8 = (j - 8) + 1 by omega, Nat.add_mul]
          omega
        · show p21.1 = _
          rw [q3 (by omega), e9]
    · show (p.2.2.2 ++ [p16.2]).length = _
      rw [List.length_append, dl]
      rfl
  · rw [rep_close]
    refine ok_gd (cnt_gd _ (by omega)) ?_
    have wcl : ∀ w ∈ List.replicate (p6.count ("(" : Str)) (")" : Str), Wd w := reps_wd cl_wd
    have lcl : (List.replicate (p6.count ("(" : Str)) (")" : Str)).length ≤ p6.length := by rw [List.length_replicate]; exact c6
    by_cases h9 : 8 < size
    · obtain ⟨ps, rest, lp, hps, ew, wr, lr, e9⟩ := h13.hi (by omega)
      have lh := hdw_len (w := v2) (B := B) (xs := ps.map (·.2)) fun x m => by obtain ⟨q, mq, rfl⟩ := List.mem_map.mp m; exact (hps q mq).len
      rw [List.length_map, lp] at lh
      have hs : (size.toNat - 8) * (B + 1) + 8 * (B + 1) = size.toNat * (B + 1) := by rw [← Nat.add_mul, show size.toNat - 8 + 8 = size.toNat by omega]
      generalize List.replicate (p6.count ("(" : Str)) (")" : Str) = cl at wcl lcl
      have eW : p13.2.2.1 ++ cl = p6 ++ (hdw v2 (ps.map (·.2)) ++ (rest ++ cl)) := by rw [ew]; simp only [List.append_assoc]
      have ww : ∀ w ∈ p13.2.2.1 ++ cl, Wd w := by
        rw [eW]
        exact wd_app w6 (wd_app (hdw_wd w2 fun x m => by obtain ⟨q, mq, rfl⟩ := List.mem_map.mp m; exact (hps q mq).wd) (wd_app wr wcl))
      have lw : (p13.2.2.1 ++ cl).length ≤ 60 := by
        rw [eW]
        simp only [List.length_append]
        omega
      refine ok_gd (sz (by rw [List.length_append] at lw; omega)) (ok_gd (read_gd ww (by omega)) (ok_lt (ok_t (decide_eq_true h9) ?_)))
      have ne : p13.2.2.1 ++ cl ≠ [] := fun z => by
        have := congrArg List.length z
        rw [eW] at this
        simp only [List.length_append] at this
        have l8 : (hdw v2 (ps.map (·.2))) ≠ [] := by
          cases ps with
          | nil => exact absurd lp (by decide)
          | cons q r =>
            intro z
            have z : q.2 ++ (v2 :: hdw v2 (r.map (·.2))) = [] := z
            simp at z
        have : 0 < (hdw v2 (ps.map (·.2))).length := List.length_pos_iff.mpr l8
        have e0 : ([] : List Str).length = 0 := rfl
        omega
      have er : M_read_condition (Txt.join (" " : Str) (p13.2.2.1 ++ cl)) = some (.er (.NoWords p13.2.1)) := by
        rw [e9]
        rcases h2 with rfl | rfl
        · obtain ⟨b, hx⟩ := nst_hx (o := 0) (ws := p6) (h := 2) (.inr (.inl rfl)) o6 (.inr g6) (by omega) 1 (.inl rfl) (.inr (by decide))
          refine refuse_er ww ne lw (up_er hx ⟨Nat.le_refl _, by decide⟩ (Int.le_refl _) (m := 20) (Nat.le_refl _) _ [] (hdw "and" (ps.map (·.2)) ++ (rest ++ cl)) 64 (by rw [eW]; rfl) (fun g hg => ?_) (by omega))
          have := nine_and (o := 0 + (p6.length : Int)) (d := d) lp (by omega) (by omega) (fun q m => (hps q m).tx) (W := p13.2.2.1 ++ cl) (pre := p6) (post := rest ++ cl) eW (f := g) (by omega)
          rw [List.length_nil, Nat.zero_add, List.length_append]
          exact this
        · obtain ⟨b, hx⟩ := nst_hx (o := 0) (ws := p6) (h := 1) (.inl rfl) o6 (.inr g6) (by omega) 1 (.inl rfl) (.inr (by decide))
          refine refuse_er ww ne lw (up_er hx ⟨Nat.le_refl _, by decide⟩ (Int.le_refl _) (m := 21) (by decide) _ [] (hdw "or" (ps.map (·.2)) ++ (rest ++ cl)) 64 (by rw [eW]; rfl) (fun g hg => ?_) (by omega))
          have := nine_or (o := 0 + (p6.length : Int)) (d := d) lp (by omega) (by omega) (fun q m => ⟨3, by decide, (hps q m).tx⟩) (W := p13.2.2.1 ++ cl) (pre := p6) (post := rest ++ cl) eW (f := g) (by omega)
          rw [List.length_nil, Nat.zero_add, List.length_append]
          exact this
      rw [bd_of (refused_at er)]
      exact ok_some rfl
    · obtain ⟨ps, lp, hps, ew, ed2⟩ := h13.lo (by omega)
      have lh := jn_len2 (w := v2) (B := B) (xs := ps.map (·.2)) fun x m => by obtain ⟨q, mq, rfl⟩ := List.mem_map.mp m; exact (hps q mq).len
      rw [List.length_map, lp] at lh
      have ww : ∀ w ∈ p13.2.2.1 ++ List.replicate (p6.count ("(" : Str)) (")" : Str), Wd w := by
        rw [ew]
        exact wd_app (wd_app w6 (jn_wd w2 fun x m => by obtain ⟨q, mq, rfl⟩ := List.mem_map.mp m; exact (hps q mq).wd)) wcl
      have lw : (p13.2.2.1 ++ List.replicate (p6.count ("(" : Str)) (")" : Str)).length ≤ 60 := by
        rw [ew]
        simp only [List.length_append]
        omega
      refine ok_gd (sz (by rw [List.length_append] at lw; omega)) (ok_gd (read_gd ww (by omega)) (ok_lt (ok_f (decide_eq_false h9) ?_)))
      have l2 : 2 ≤ (ps.map fun p => (p.1, (3 : Int), p.2)).length ∧ (ps.map fun p => (p.1, (3 : Int), p.2)).length ≤ 8 := by rw [List.length_map]; omega
      have m1 : (ps.map fun p => (p.1, (3 : Int), p.2)).map (·.1) = ps.map (·.1) := by rw [List.map_map]; rfl
      have m2 : (ps.map fun p => (p.1, (3 : Int), p.2)).map (·.2.2) = ps.map (·.2) := by rw [List.map_map]; rfl
      rw [ed2, cont_false, cont_true]
      have fin : ∀ (c : Cd) (r : Int) (v31 : D), Tx c r (jn v2 (ps.map (·.2))) d → v31 = .bl (hol L28 c) → ixD (e_T_b_b ((ps.map (·.1)).all (hol L28), (ps.map (·.1)).any (hol L28))) (if (v2 == ("or" : Str)) = true then 1 else 0) = some v31 → Ok (bd (ixD (e_T_b_b ((ps.map (·.1)).all (hol L28), (ps.map (·.1)).any (hol L28))) (if (v2 == ("or" : Str)) = true then 1 else 0)) fun v31 =>
          bd (M__law_holds (Txt.join (" " : Str) (p13.2.2.1 ++ List.replicate (p6.count ("(" : Str)) (")" : Str)))) fun v32 =>
          gd (D.ok v31 ∧ D.ok (.bl (((((p6.count ("not" : Str) : Nat) : Int) % 2) == 0)))) <|
          bd (M__law_truth v32 ((D.eqv v31 (.bl (((((p6.count ("not" : Str) : Nat) : Int) % 2) == 0)))))) fun v34 => some v34) (· = true) := fun c r v31 t e31 ei => by
        have t2 := nst_tx t o6 (.inr g6)
        rw [← ew] at t2
        rw [bd_of ei, bd_of (holds_text t2 (by omega) lw), nst_hol L28 c o6, e31]
        refine ok_gd ⟨(show Smp 0 (.bl (hol L28 c)) from .bl _).ok, (show Smp 0 (.bl _) from .bl _).ok⟩ ?_
        rw [eqv_b, par_mod, bd_of (truth_is _)]
        exact ok_some rfl
      rcases h2 with rfl | rfl
      · have t := Tx.all (ps := ps.map fun p => (p.1, (3 : Int), p.2)) (d := d) l2 (fun p m => by obtain ⟨q, mq, rfl⟩ := List.mem_map.mp m; rfl) (fun p m => by obtain ⟨q, mq, rfl⟩ := List.mem_map.mp m; exact (hps q mq).tx)
        rw [m1, m2] at t
        refine fin _ _ _ t rfl ?_
        rw [show hol L28 (.allOf (ps.map (·.1))) = holA L28 (ps.map (·.1)) from rfl, holA_all]
        rfl
      · have t := Tx.some (ps := ps.map fun p => (p.1, (3 : Int), p.2)) (d := d) l2 (fun p m => by obtain ⟨q, mq, rfl⟩ := List.mem_map.mp m; show (2 : Int) ≤ 3; decide) (fun p m => by obtain ⟨q, mq, rfl⟩ := List.mem_map.mp m; exact (hps q mq).tx)
        rw [m1, m2] at t
        refine fin _ _ _ t rfl ?_
        rw [show hol L28 (.someOf (ps.map (·.1))) = holS L28 (ps.map (·.1)) from rfl, holS_any]
        rfl
open SX TL
def WL (w : Str) : Prop := w = "always" ∨ w = "and" ∨ w = "or" ∨ w = "not"
theorem wl_wd {w : Str} (h : WL w) : Wd w := by
  rcases h with rfl | rfl | rfl | rfl
  · exact lit_wd (by decide +kernel)
  · exact lit_wd (by decide +kernel)
  · exact lit_wd (by decide +kernel)
  · exact lit_wd (by decide +kernel)
def pcs (odd j : Nat) : Cd × List Str := if j = odd then (.notOf (.plain ()), ["not", "always"]) else (.plain (), ["always"])
def rowP (odd r m : Nat) : List (Cd × List Str) := (List.range m).map fun i => pcs odd (8 * r + i)
def rwW (odd r m : Nat) : List Str := jn "and" ((rowP odd r m).map (·.2))
theorem hdw_snoc (w : Str) : ∀ (xs : List (List Str)) (y : List Str), hdw w (xs ++ [y]) = hdw w xs ++ (y ++ [w])
  | [], y => rfl
  | x :: r, y => by
    show x ++ (w :: hdw w (r ++ [y])) = (x ++ (w :: hdw w r)) ++ (y ++ [w])
    rw [hdw_snoc w r y]
    simp
theorem rw_one (odd r : Nat) : rwW odd r 1 = (pcs odd (8 * r)).2 := by
  show (pcs odd (8 * r + 0)).2 ++ [] = _
  rw [List.append_nil, Nat.add_zero]
theorem rw_succ (odd r m : Nat) (h : 1 ≤ m) : rwW odd r (m + 1) = rwW odd r m ++ (("and" : Str) :: (pcs odd (8 * r + m)).2) := by
  unfold rwW rowP
  rw [List.range_succ, List.map_append, List.map_append]
  show jn "and" (_ ++ [(pcs odd (8 * r + m)).2]) = _
  rw [jn_snoc, hdw_jn]
  · rw [List.append_assoc]; rfl
  · intro z
    have := congrArg List.length z
    rw [List.length_map, List.length_map, List.length_range] at this
    have : m = 0 := this
    omega
structure LongI (odd n : Nat) (ws : List Str) : Prop where
  wl : ∀ w ∈ ws, WL w
  len : ws.length ≤ 3 * n
  sh : (n = 0 ∧ ws = []) ∨ ∃ q m, 1 ≤ m ∧ m ≤ 8 ∧ n = 8 * q + m ∧ ws = hdw "or" ((List.range q).map fun r => rwW odd r 8) ++ rwW odd q m
theorem pcs_wl (odd j : Nat) : (∀ w ∈ (pcs odd j).2, WL w) ∧ (pcs odd j).2.length ≤ 2 ∧ Tx (pcs odd j).1 3 (pcs odd j).2 1 ∧ hol L28 (pcs odd j).1 = decide (j ≠ odd) := by
  have t0 : Tx (.plain ()) 3 [("always" : Str)] 0 := .atom (.plain ()) rfl
  unfold pcs
  split
  · rename_i e
    refine ⟨fun w m => ?_, by show 2 ≤ 2; decide, .not t0, by rw [decide_eq_false (fun z => z e)]; rfl⟩
    rcases List.mem_cons.mp m with rfl | m
    · exact .inr (.inr (.inr rfl))
    · rw [List.mem_singleton.mp m]; exact .inl rfl
  · rename_i e
    refine ⟨fun w m => by rw [List.mem_singleton.mp m]; exact .inl rfl, by show 1 ≤ 2; decide, t0.up (by decide), by rw [decide_eq_true e]; rfl⟩
theorem row_tx {odd r m : Nat} (h : 1 ≤ m ∧ m ≤ 8) : ∃ c k, 2 ≤ k ∧ Tx c k (rwW odd r m) 1 ∧ hol L28 c = (List.range m).all fun i => decide (8 * r + i ≠ odd) := by
  by_cases h1 : m = 1
  · subst h1
    obtain ⟨_, _, t, hh⟩ := pcs_wl odd (8 * r)
    refine ⟨_, 3, by decide, by rw [rw_one]; exact t, ?_⟩
    rw [hh]
    show _ = (decide (8 * r + 0 ≠ odd) && true)
    rw [Bool.and_true, Nat.add_zero]
  · have t := Tx.all (ps := (rowP odd r m).map fun p => (p.1, (3 : Int), p.2)) (d := 1) (by unfold rowP; rw [List.length_map, List.length_map, List.length_range]; omega) (fun p mp => by obtain ⟨q, mq, rfl⟩ := List.mem_map.mp mp; rfl) (fun p mp => by
      obtain ⟨q, mq, rfl⟩ := List.mem_map.mp mp
      unfold rowP at mq
      obtain ⟨i, mi, rfl⟩ := List.mem_map.mp mq
      exact (pcs_wl odd (8 * r + i)).2.2.1)
    rw [List.map_map, List.map_map] at t
    refine ⟨_, 2, by decide, t, ?_⟩
    show holA L28 _ = _
    rw [holA_all, List.all_map]
    unfold rowP
    rw [List.all_map]
    refine congrArg (fun f => (List.range m).all f) (funext fun i => ?_)
    exact (pcs_wl odd (8 * r + i)).2.2.2
/-- what is asked of row j -/
def rowB (size odd j : Nat) : Bool := decide (odd = size) || !(decide (odd / 8 = j))
theorem all_ne {odd r m size : Nat} (ho : odd ≤ size) (h : (m = 8 ∧ 8 * r + 8 ≤ size) ∨ (m ≤ 8 ∧ size = 8 * r + m)) : ((List.range m).all fun i => decide (8 * r + i ≠ odd)) = rowB size odd r := by
  unfold rowB
  rw [Bool.eq_iff_iff, List.all_eq_true]
  constructor
  · intro z
    rw [Bool.or_eq_true, decide_eq_true_eq, Bool.not_eq_true', decide_eq_false_iff_not]
    refine Classical.byContradiction fun y => ?_
    have y1 : odd ≠ size := fun e => y (.inl e)
    have y2 : odd / 8 = r := Classical.byContradiction fun e => y (.inr e)
    have := z (odd % 8) (List.mem_range.mpr (by omega))
    exact of_decide_eq_true this (by omega)
  · intro z i mi
    have mi := List.mem_range.mp mi
    rw [Bool.or_eq_true, decide_eq_true_eq, Bool.not_eq_true', decide_eq_false_iff_not] at z
    refine decide_eq_true fun e => ?_
    omega
theorem long_tx {odd n : Nat} {ws : List Str} (h : LongI odd n ws) (hn : 1 ≤ n ∧ n ≤ 40) (ho : odd ≤ n) : ∃ c r, Tx c r ws 1 ∧ hol L28 c = (List.range ((n + 7) / 8)).any (rowB n odd) := by
  rcases h.sh with ⟨e, _⟩ | ⟨q, m, m1, m8, en, ew⟩
  · omega
  have eq : (n + 7) / 8 = q + 1 := by omega
  rw [eq]
  obtain ⟨c, k, k2, t, hc⟩ := row_tx (odd := odd) (r := q) (m := m) ⟨m1, m8⟩
  rw [all_ne (size := n) ho (.inr ⟨m8, en⟩)] at hc
  have rows : ∀ q', q' ≤ q → ∃ ps : List (Cd × Int × List Str), ps.map (·.2.2) = (List.range q').map (fun r => rwW odd r 8) ∧ (∀ p ∈ ps, 2 ≤ p.2.1) ∧ (∀ p ∈ ps, Tx p.1 p.2.1 p.2.2 1) ∧ ps.length = q' ∧ (ps.map (·.1)).any (hol L28) = (List.range q').any (rowB n odd) := fun q' => by
    induction q' with
    | zero => exact fun _ => ⟨[], rfl, (fun _ m => nomatch m), (fun _ m => nomatch m), rfl, rfl⟩
    | succ q' ih =>
      intro l
      obtain ⟨ps, e1, e2, e3, e4, e5⟩ := ih (by omega)
      obtain ⟨c, k, k2, t, hc⟩ := row_tx (odd := odd) (r := q') (m := 8) ⟨by decide, by decide⟩
      rw [all_ne (size := n) ho (.inl ⟨rfl, by omega⟩)] at hc
      refine ⟨ps ++ [(c, k, rwW odd q' 8)], ?_, fun p m => ?_, fun p m => ?_, by rw [List.length_append, e4]; rfl, ?_⟩
      · rw [List.map_append, e1, List.range_succ, List.map_append]; rfl
      · rcases List.mem_append.mp m with m | m
        · exact e2 p m
        · rw [List.mem_singleton.mp m]; exact k2
      · rcases List.mem_append.mp m with m | m
        · exact e3 p m
        · rw [List.mem_singleton.mp m]; exact t
      · rw [List.map_append, List.any_append, e5, List.range_succ, List.any_append]
        show (_ || (hol L28 c || false)) = (_ || (rowB n odd q' || false))
        rw [hc]
  obtain ⟨ps, e1, e2, e3, e4, e5⟩ := rows q (Nat.le_refl _)
  by_cases q0 : q = 0
  · subst q0
    refine ⟨c, k, by rw [ew]; exact t, ?_⟩
    rw [hc]
    show _ = (rowB n odd 0 || false)
    rw [Bool.or_false]
  · have t2 := Tx.some (ps := ps ++ [(c, k, rwW odd q m)]) (d := 1) (by rw [List.length_append, e4]; show 2 ≤ q + 1 ∧ q + 1 ≤ 8; omega) (fun p m => by
      rcases List.mem_append.mp m with m | m
      · exact e2 p m
      · rw [List.mem_singleton.mp m]; exact k2) (fun p m => by
      rcases List.mem_append.mp m with m | m
      · exact e3 p m
      · rw [List.mem_singleton.mp m]; exact t)
    refine ⟨.someOf ((ps ++ [(c, k, rwW odd q m)]).map (·.1)), 1, ?_, ?_⟩
    · rw [List.map_append (f := fun x : Cd × Int × List Str => x.2.2), e1] at t2
      have : jn "or" ((List.range q).map (fun r => rwW odd r 8) ++ [rwW odd q m]) = ws := by rw [jn_snoc, ew]
      rw [← this]
      exact t2
    · show holS L28 _ = _
      rw [holS_any, List.map_append, List.any_append, e5, List.range_succ, List.any_append]
      show (_ || (hol L28 c || false)) = (_ || (rowB n odd q || false))
      rw [hc]
/-- a bad word in the place of one of them -/
theorem always_bad {c : Cd} {r : Int} {ws : List Str} (h : Tx c r ws 1) (hw : ∀ w ∈ ws, WL w) (l : ws.length ≤ 60) {p : Nat} (hp : p < ws.length) : M_read_condition (Txt.join (" " : Str) (ws.set p ("Always" : Str))) = some (.er (.NoWords (p : Int))) := by
  have d0 := h.d0
  rw [List.set_eq_take_append_cons_drop, if_pos hp]
  have wd : ∀ w ∈ ws.take p ++ (("Always" : Str) :: ws.drop (p + 1)), Wd w := wd_app (fun w m => wl_wd (hw w (List.mem_of_mem_take m))) fun w m => by
    rcases List.mem_cons.mp m with rfl | m
    · exact lit_wd (by decide +kernel)
    · exact wl_wd (hw w (List.mem_of_mem_drop m))
  have ll : (ws.take p ++ (("Always" : Str) :: ws.drop (p + 1))).length ≤ 60 := by
    rw [List.length_append, List.length_take, List.length_cons, List.length_drop]
    omega
  have lp : (ws.take p).length = p := by rw [List.length_take]; omega
  have key := refuse_at (pre := ws.take p) (x := ("Always" : Str)) (post := ws.drop (p + 1)) ?_ wd ll
  · rw [lp] at key
    exact key
  have po := pos_of h (o := 0) (Int.le_refl _) (by decide) p hp
  have po := Pos.lift (hx_down (o := 0) (r := 1) (s := r.toNat) (by decide) (.inl rfl) (by omega) (by omega)) po
  rw [List.nil_append] at po
  cases po with
  | a x l => exact .inl ⟨_, _, x, l, by unfold noStart; decide +kernel⟩
  | b hh x t l => exact .inr ⟨_, _, _, _, _, _, hh, x, t, l, by unfold stuck; exact ⟨(fun z => absurd (Option.some.inj z) (by decide +kernel)), (fun z => absurd (Option.some.inj z) (by decide +kernel)), (fun z => absurd (Option.some.inj z) (by decide +kernel))⟩⟩
  | @c e b a c k hh x g ha k0 l =>
    have mem : ∀ y, (wds c).head? = some y → WL y := fun y hy => by
      refine hw y (List.mem_of_mem_take (i := p) ?_)
      rw [hh]
      refine List.mem_append.mpr (.inr ?_)
      cases hc : wds c with
      | nil => rw [hc] at hy; cases hy
      | cons z r =>
        rw [hc] at hy
        cases hy
        obtain ⟨k, rfl⟩ : ∃ j, k = j + 1 := ⟨k - 1, by omega⟩
        exact List.mem_cons_self
    have no : ∀ y : Str, (y == ("always" : Str) || (y == ("and" : Str) || (y == ("or" : Str) || y == ("not" : Str)))) = false → ¬ WL y := fun y hy z => by
      rcases z with rfl | rfl | rfl | rfl
      · exact absurd hy (by decide +kernel)
      · exact absurd hy (by decide +kernel)
      · exact absurd hy (by decide +kernel)
      · exact absurd hy (by decide +kernel)
    cases c with
    | plain u => exact absurd k0 (by show ¬ (0 < k ∧ k < 1); omega)
    | cause u => exact absurd (mem _ rfl) (no _ (by decide +kernel))
    | thing u => exact absurd (mem _ rfl) (no _ (by decide +kernel))
    | days u => exact absurd (mem _ rfl) (no _ (by decide +kernel))
    | over u => exact absurd (mem _ rfl) (no _ (by decide +kernel))
    | notOf u => cases ha
    | allOf u => cases ha
    | someOf u => cases ha
theorem rep_false (n : Nat) : repG [false] (n : Int) = List.replicate n false := by
  show (List.replicate (n : Int).toNat [false]).flatten = _
  rw [show ((n : Int)).toNat = n by omega]
  induction n with
  | zero => rfl
  | succ n ih => rw [List.replicate_succ, List.flatten_cons, ih, List.replicate_succ]; rfl
theorem any_cont (n : Nat) (f : Nat → Bool) : ((List.range n).map f).contains true = (List.range n).any f := by
  rw [Bool.eq_iff_iff, List.contains_iff_mem, List.mem_map, List.any_eq_true]
theorem long_ok {ns : List Int} (hn : ns.length ≤ 63) {k : Int} (hk : 0 ≤ k ∧ k < 400) : Ok (M__law_long ns k) (· = true) := by
  unfold M__law_long
  refine ok_bd (cell_ok hn ⟨hk.1, by omega⟩) fun v1 h1 => ok_ltx fun size es => ok_gd (by omega) (ok_ltx fun odd eo => ok_ltx fun words ew => ?_)
  have s0 : 1 ≤ size ∧ size ≤ 40 := by omega
  have o0 : 0 ≤ odd ∧ odd ≤ size := by
    have := Int.emod_nonneg (v1 / 40) (show size + 1 ≠ 0 by omega)
    have := Int.emod_lt_of_pos (v1 / 40) (show 0 < size + 1 by omega)
    omega
  clear es eo
  obtain ⟨n, rfl⟩ := Int.eq_ofNat_of_zero_le (show 0 ≤ size by omega)
  obtain ⟨od, rfl⟩ := Int.eq_ofNat_of_zero_le o0.1
  have en : ((n : Int) + 7) / 8 = (((n + 7) / 8 : Nat) : Int) := by omega
  rw [en, rep_false]
  refine ok_gd ⟨⟨by omega, by omega⟩, by show 1 * _ ≤ 16777216; omega⟩ (ok_ltx fun rows er => ok_gd ⟨by omega, by omega⟩ ?_)
  rw [show ((n : Int)).toNat = n by omega]
  refine ok_bd (Q := LongI od n) (ok_lp (LongI od) ?_ (fun j x p hx hp => ?_) fun p hp => by rwa [List.length_range] at hp) fun p7 h7 => ?_
  · rw [ew]
    exact ⟨(fun _ m => nomatch m), Nat.le_refl _, .inl ⟨rfl, rfl⟩⟩
  · obtain ⟨hj, ej⟩ := List.getElem?_eq_some_iff.mp hx
    rw [List.length_range] at hj
    rw [List.getElem_range] at ej
    subst ej
    have lp := hp.len
    refine ok_bd (Q := fun q => q = p ++ (if j = 0 then [] else [if j % 8 = 0 then ("or" : Str) else ("and" : Str)])) (ok_cond (fun h => ?_) fun h => ok_some ?_) fun p8 e8 => ?_
    · have h := of_decide_eq_true h
      have ea : L2.atI [("and" : Str), ("or" : Str)] (if (((j : Int) % 8) == 0) = true then 1 else 0) = some (if j % 8 = 0 then ("or" : Str) else ("and" : Str)) := by
        by_cases e : j % 8 = 0
        · rw [if_pos e, if_pos (by rw [beq_iff_eq]; omega)]; rfl
        · rw [if_neg e, if_neg (by rw [beq_iff_eq]; omega)]; rfl
      rw [bd_of ea]
      refine ok_gd (szl (by omega)) (ok_lt (ok_some ?_))
      rw [if_neg (show ¬ j = 0 by omega)]
    · have := of_decide_eq_false h
      rw [if_pos (by omega), List.append_nil]
    have l8 : p8.length ≤ p.length + 1 := by
      rw [e8, List.length_append]
      split
      · show _ + 0 ≤ _; omega
      · show _ + 1 ≤ _; omega
    refine ok_bd (Q := fun q => q ++ [("always" : Str)] = p8 ++ (pcs od j).2 ∧ q.length ≤ p8.length + 1) (ok_cond (fun h => ok_gd (szl (by omega)) (ok_lt (ok_some ⟨?_, by rw [List.length_append]; exact Nat.le_refl _⟩))) fun h => ok_some ⟨?_, by omega⟩) fun p11 ⟨e11, l11⟩ => ok_gd (szl (by omega)) (ok_lt (ok_some ?_))
    · have : j = od := by have := eq_of_beq h; omega
      unfold pcs
      rw [if_pos this, List.append_assoc]
      rfl
    · have : j ≠ od := fun z => by rw [z, beq_self_eq_true] at h; cases h
      unfold pcs
      rw [if_neg this]
    · rw [e11]
      obtain ⟨pw, pl, _, _⟩ := pcs_wl od j
      refine ⟨fun w m => ?_, by rw [List.length_append]; omega, .inr ?_⟩
      · rcases List.mem_append.mp m with m | m
        · rw [e8] at m
          rcases List.mem_append.mp m with m | m
          · exact hp.wl w m
          · split at m
            · cases m
            · rw [List.mem_singleton.mp m]
              split
              · exact .inr (.inr (.inl rfl))
              · exact .inr (.inl rfl)
        · exact pw w m
      · rcases hp.sh with ⟨j0, p0⟩ | ⟨q, m, m1, m8, em, ep⟩
        · refine ⟨0, 1, by decide, by decide, by omega, ?_⟩
          rw [e8, if_pos j0, p0, j0, rw_one]
          rfl
        · rw [e8, if_neg (by omega), ep]
          by_cases e : m = 8
          · refine ⟨q + 1, 1, by decide, by decide, by omega, ?_⟩
            rw [if_pos (by omega), List.range_succ, List.map_append, rw_one, show 8 * (q + 1) = j by omega]
            show _ = hdw "or" (_ ++ [rwW od q 8]) ++ _
            rw [hdw_snoc, e]
            simp only [List.append_assoc]
          · refine ⟨q, m + 1, by omega, by omega, by omega, ?_⟩
            rw [if_neg (by omega), rw_succ od q m m1, show 8 * q + m = j by omega]
            simp only [List.append_assoc, List.singleton_append]
  · have lr : rows.length = (n + 7) / 8 := by rw [er, List.length_replicate]
    refine ok_gd ⟨by omega, by omega⟩ ?_
    rw [lr, show (((n + 7) / 8 : Nat) : Int).toNat = (n + 7) / 8 by omega]
    refine ok_bd (Q := fun q => q = (List.range ((n + 7) / 8)).map (rowB n od)) (ok_lp (fun j (q : List Bool) => q.length = (n + 7) / 8 ∧ ∀ i, i < j → q[i]? = some (rowB n od i)) ⟨lr, fun i hi => absurd hi (Nat.not_lt_zero i)⟩ (fun j x q hx hq => ?_) fun q hq => ?_) fun p17 e17 => ?_
    · obtain ⟨hj, ej⟩ := List.getElem?_eq_some_iff.mp hx
      rw [List.length_range] at hj
      rw [List.getElem_range] at ej
      subst ej
      have ei : ixN q.length (j : Int) = some j := ixNn (by omega)
      rw [bd_of ei]
      have eb : (((od : Int) == (n : Int)) || (!(((od : Int) / 8) == (j : Int)))) = rowB n od j := by
        unfold rowB
        congr 1
        · by_cases e : od = n
          · rw [decide_eq_true e, beq_iff_eq]; omega
          · rw [decide_eq_false e, beq_eq_false_iff_ne]; omega
        · congr 1
          by_cases e : od / 8 = j
          · rw [decide_eq_true e, beq_iff_eq]; omega
          · rw [decide_eq_false e, beq_eq_false_iff_ne]; omega
      rw [eb]
      refine ok_lt (ok_some ⟨by rw [List.length_set]; exact hq.1, fun i hi => ?_⟩)
      by_cases e : i = j
      · subst e
        rw [List.getElem?_set_self (by omega)]
      · rw [List.getElem?_set_ne (Ne.symm e)]
        exact hq.2 i (by omega)
    · rw [List.length_range] at hq
      refine List.ext_getElem? fun i => ?_
      by_cases hi : i < (n + 7) / 8
      · rw [hq.2 i hi, List.getElem?_map, List.getElem?_range hi]
        rfl
      · rw [List.getElem?_eq_none (by omega), List.getElem?_eq_none (by rw [List.length_map, List.length_range]; omega)]
    obtain ⟨c, r, t, hc⟩ := long_tx h7 (by omega) (by omega)
    have l7 := h7.len
    have w7 : ∀ w ∈ p7, Wd w := fun w m => wl_wd (h7.wl w m)
    have ne : p7 ≠ [] := t.ne
    have l0 : 0 < p7.length := List.length_pos_iff.mpr ne
    refine ok_cond (fun _ => ?_) fun _ => ok_cond (fun h => ?_) fun h => ?_
    · refine ok_bd (mix_ok ⟨by omega, by omega⟩) fun v19 _ => ok_gd (by omega) (ok_ltx fun at_ ea => ?_)
      have a0 : 0 ≤ at_ ∧ at_ < (p7.length : Int) := by
        have := Int.emod_nonneg v19 (show (p7.length : Int) ≠ 0 by omega)
        have := Int.emod_lt_of_pos v19 (show 0 < (p7.length : Int) by omega)
        omega
      clear ea
      obtain ⟨p, rfl⟩ := Int.eq_ofNat_of_zero_le a0.1
      rw [bd_of (ixNn (by omega) : ixN p7.length (p : Int) = some p)]
      refine ok_ltx fun w4 e4 => ?_
      have l4 : w4.length = p7.length := by rw [e4, List.length_set]
      have ww : ∀ w ∈ w4, Wd w := fun w m => by
        rw [e4] at m
        rcases List.mem_or_eq_of_mem_set m with m | m
        · exact w7 w m
        · rw [m]; exact lit_wd (by decide +kernel)
      refine ok_gd (read_gd ww (by omega)) ?_
      by_cases h6 : 60 < w4.length
      · rw [if_pos (decide_eq_true (by omega)), bd_of (show L2.atI [(p : Int), 60] 1 = some 60 from rfl), bd_of (refused_at (refuse_long ww ⟨h6, by omega⟩))]
        exact ok_some rfl
      · rw [if_neg (by rw [decide_eq_true_eq]; omega), bd_of (show L2.atI [(p : Int), 60] 0 = some (p : Int) from rfl)]
        have := always_bad t h7.wl (by omega) (p := p) (by omega)
        rw [← e4] at this
        rw [bd_of (refused_at this)]
        exact ok_some rfl
    · have h := of_decide_eq_true h
      refine ok_gd (read_gd w7 (by omega)) ?_
      rw [bd_of (refused_at (refuse_long w7 ⟨by omega, by omega⟩))]
      exact ok_some rfl
    · have h := of_decide_eq_false h
      refine ok_gd (read_gd w7 (by omega)) ?_
      rw [bd_of (holds_text t (by decide) (by omega)), hc, e17, any_cont, bd_of (truth_is _)]
      exact ok_some rfl
theorem law_true (ns : List Int) (h : ns.length ≤ 63) : M_law ns = some true := by
  unfold M_law
  refine Ok.eq (ok_bd (ok_lpN (Q := fun o => o = .nx ()) (fun _ _ => True) trivial (fun i x v hx _ => ?_) fun v _ => rfl) fun o ho => by subst ho; exact ok_some rfl)
  obtain ⟨hj, ej⟩ := List.getElem?_eq_some_iff.mp hx
  rw [List.length_range] at hj
  rw [List.getElem_range] at ej
  subst ej
  have hj : i < 10 := hj
  refine ok_bd (nested_ok h ⟨by omega, by omega⟩) fun v4 h4 => ok_bd (Q := fun b => b = false) (ok_f (by rw [h4]; rfl) ?_) fun b hb => ok_f hb (ok_some ⟨_, .inl rfl, trivial⟩)
  refine ok_bd (row_ok h ⟨by omega, by omega⟩) fun v5 h5 => ok_bd (Q := fun b => b = false) (ok_f (by rw [h5]; rfl) ?_) fun b hb => ok_some hb
  exact ok_bd (long_ok h ⟨by omega, by omega⟩) fun v6 h6 => ok_some (by rw [h6]; rfl)
abbrev N_law : List Str := ["_law_script", "_law_k"]
theorem sc_law : FnScope N_law ["_law_script"] (defScope s_law) := ⟨rfl, rfl, rfl, by decide +kernel, rfl, by decide +kernel, by decide +kernel⟩
theorem ok_law {f : Addr} {fd : FuncData} (F : Fun K "law" "law" s_law f fd) (z_range : mg "range" = none) (c__law_nested : Fn1 P w K mg base "_law_nested" 72 ["_law_script", "_law_k"] (sp__law_nested K)) (c__law_row : Fn1 P w K mg base "_law_row" 72 ["_law_script", "_law_k"] (sp__law_row K)) (c__law_long : Fn1 P w K mg base "_law_long" 72 ["_law_script", "_law_k"] (sp__law_long K)) : FnOk P w K mg base CX0 73 f fd ["_law_script"] (spLaw K) := by
  refine fn_m F sc_law (fun x => rfl) (fun x _ => rfl) fun cdv A outer s H E hr script hx => ?_
  have hx : M_law script = some true := law_true script hx
  have nd := sc_law.nd
  unfold M_law at hx
  show MS _ [some (.vw (script.map D.int)), none] _ _
  replace hx := bd_some hx
  obtain ⟨o3, ho3, hx⟩ := hx
  refine ms_cons (m_forO (xs := (List.range (10 : Int).toNat)) (enc := (fun k : Nat => D.int (k : Nat))) (ps_for PassesOwn.never rfl (pi_range1 (by rfl) z_range pa_w) (pg_name (i := 1) nd rfl (Or.inl rfl)) pss_w) (by exact (mi_rangeT (mf_cons me_int mf_nil) ⟨by decide, by decide⟩)) ho3 (fun p1 => [some (.vw (script.map D.int)), none]) (fun r => .fz (.bl r)) le_auto (fun x2 p1 p1o mx hx => ?_) (fun p1 τ e le => ?_) fun q e => ?_)
  ·
    refine ⟨_, _, mg_name, ?_⟩
    show MS _ [some (.vw (script.map D.int)), some (.fz (.int (x2 : Int)))] _ _
    replace hx := bd_some hx
    obtain ⟨v4, hv4, hx⟩ := hx
    replace hx := bd_some hx
    obtain ⟨v9, hv9, hx⟩ := hx
    refine ms_one (m_if (t := v9) (MW.t (MW.is (mw_or (mt_not (mt_val (me_fn c__law_nested ((script, (6 * (x2 : Int))), v4) (ma_vw (ml_var (pv 0) rfl) (ma_fz (me_mul me_int (me_var (pv 1) rfl) (.inl ⟨by decide, by decide⟩)) ma_nil)) hv4 (hr.mono (by decide))))) fun q10 => (by have hx := cond_f hv9 q10; replace hx := bd_some hx; obtain ⟨v5, hv5, hx⟩ := hx; replace hx := bd_some hx; obtain ⟨v7, hv7, hx⟩ := hx; first | (cases hx; exact (MW.is (mw_or (mt_not (mt_val (me_fn c__law_row ((script, ((6 * (x2 : Int)) + 2)), v5) (ma_vw (ml_var (pv 0) rfl) (ma_fz (me_add (me_mul me_int (me_var (pv 1) rfl) (.inl ⟨by decide, by decide⟩)) me_int) ma_nil)) hv5 (hr.mono (by decide))))) fun q8 => (by have hx := cond_f hv7 q8; replace hx := bd_some hx; obtain ⟨v6, hv6, hx⟩ := hx; cases hx; exact (mw_or1 (mt_not (mt_val (me_fn c__law_long ((script, ((6 * (x2 : Int)) + 4)), v6) (ma_vw (ml_var (pv 0) rfl) (ma_fz (me_add (me_mul me_int (me_var (pv 1) rfl) (.inl ⟨by decide, by decide⟩)) me_int) ma_nil)) hv6 (hr.mono (by decide)))))))) (or_c hv7))) | (injection hx with hx; subst hx; exact (MW.is (mw_or (mt_not (mt_val (me_fn c__law_row ((script, ((6 * (x2 : Int)) + 2)), v5) (ma_vw (ml_var (pv 0) rfl) (ma_fz (me_add (me_mul me_int (me_var (pv 1) rfl) (.inl ⟨by decide, by decide⟩)) me_int) ma_nil)) hv5 (hr.mono (by decide))))) fun q8 => (by have hx := cond_f hv7 q8; replace hx := bd_some hx; obtain ⟨v6, hv6, hx⟩ := hx; cases hx; exact (mw_or1 (mt_not (mt_val (me_fn c__law_long ((script, ((6 * (x2 : Int)) + 4)), v6) (ma_vw (ml_var (pv 0) rfl) (ma_fz (me_add (me_mul me_int (me_var (pv 1) rfl) (.inl ⟨by decide, by decide⟩)) me_int) ma_nil)) hv6 (hr.mono (by decide)))))))) (or_c hv7))))) (or_c hv9))) (fun h => ?_) fun h => ms_nil ?_)
    · replace hx := cond_t hx h
      refine ms_one (m_ret (ps_ret pe_w) (ME.r me_bl) ?_)
      cases hx; exact ⟨_, rfl, rfl⟩
    replace hx := cond_f hx h
    cases hx; exact ⟨_, rfl, le_auto⟩
  · subst e
    dsimp only [ouR] at hx
    refine ms_le le ?_
    show MS _ [some (.vw (script.map D.int)), none] _ _
    refine ms_one (m_ret (ps_ret pe_w) (ME.r me_bl) ?_)
    first | (cases hx; done) | (cases hx; rfl) | (injection hx with hx; show O.fz (.bl _) = O.fz (.bl true); rw [hx])
  · subst e; cases hx; rfl
end
theorem all_mk {l : PySem.W.OpenLaw} {w : World} {K : PySem.W.Frag} {h : Heap} {mg : Str → Option Value} {fa : Addr} (X : K.In h) (G : h.Ns mainGlobals mg) (hfa : mg "law" = some (.ref fa))
    {C_Some : Addr} (a_Some : PySem.W.nsIn K mainGlobals "Some" = some (some (.ref C_Some))) (pg_Some : PySem.W.plainGet K C_Some Str.empty = true) (hd_Some : PySem.W.hasDictIn K C_Some = true) (po_Some : PySem.W.plainOver K C_Some = true) (sa_Some : PySem.W.findIn K (.ref C_Some) "__setattr__" = some (some (.builtin "object.__setattr__"))) (mk_Some : PySem.W.makesIn K C_Some = true) (kc_Some : PySem.W.keepIn K (.ref C_Some) = true)
    (na_Some_several : PySem.W.findIn K (.ref C_Some) "several" = some none)
    {C_All : Addr} (a_All : PySem.W.nsIn K mainGlobals "All" = some (some (.ref C_All))) (pg_All : PySem.W.plainGet K C_All Str.empty = true) (hd_All : PySem.W.hasDictIn K C_All = true) (po_All : PySem.W.plainOver K C_All = true) (sa_All : PySem.W.findIn K (.ref C_All) "__setattr__" = some (some (.builtin "object.__setattr__"))) (mk_All : PySem.W.makesIn K C_All = true) (kc_All : PySem.W.keepIn K (.ref C_All) = true)
    (na_All_several : PySem.W.findIn K (.ref C_All) "several" = some none)
    {C_CauseIs : Addr} (a_CauseIs : PySem.W.nsIn K mainGlobals "CauseIs" = some (some (.ref C_CauseIs))) (pg_CauseIs : PySem.W.plainGet K C_CauseIs Str.empty = true) (hd_CauseIs : PySem.W.hasDictIn K C_CauseIs = true) (po_CauseIs : PySem.W.plainOver K C_CauseIs = true) (sa_CauseIs : PySem.W.findIn K (.ref C_CauseIs) "__setattr__" = some (some (.builtin "object.__setattr__"))) (mk_CauseIs : PySem.W.makesIn K C_CauseIs = true) (kc_CauseIs : PySem.W.keepIn K (.ref C_CauseIs) = true)
    (na_CauseIs_name : PySem.W.findIn K (.ref C_CauseIs) "name" = some none)
    {C_ThingIs : Addr} (a_ThingIs : PySem.W.nsIn K mainGlobals "ThingIs" = some (some (.ref C_ThingIs))) (pg_ThingIs : PySem.W.plainGet K C_ThingIs Str.empty = true) (hd_ThingIs : PySem.W.hasDictIn K C_ThingIs = true) (po_ThingIs : PySem.W.plainOver K C_ThingIs = true) (sa_ThingIs : PySem.W.findIn K (.ref C_ThingIs) "__setattr__" = some (some (.builtin "object.__setattr__"))) (mk_ThingIs : PySem.W.makesIn K C_ThingIs = true) (kc_ThingIs : PySem.W.keepIn K (.ref C_ThingIs) = true)
    (na_ThingIs_name : PySem.W.findIn K (.ref C_ThingIs) "name" = some none)
    {C_Over : Addr} (a_Over : PySem.W.nsIn K mainGlobals "Over" = some (some (.ref C_Over))) (pg_Over : PySem.W.plainGet K C_Over Str.empty = true) (hd_Over : PySem.W.hasDictIn K C_Over = true) (po_Over : PySem.W.plainOver K C_Over = true) (sa_Over : PySem.W.findIn K (.ref C_Over) "__setattr__" = some (some (.builtin "object.__setattr__"))) (mk_Over : PySem.W.makesIn K C_Over = true) (kc_Over : PySem.W.keepIn K (.ref C_Over) = true)
    (na_Over_cents : PySem.W.findIn K (.ref C_Over) "cents" = some none)
    {C_DaysIn : Addr} (a_DaysIn : PySem.W.nsIn K mainGlobals "DaysIn" = some (some (.ref C_DaysIn))) (pg_DaysIn : PySem.W.plainGet K C_DaysIn Str.empty = true) (hd_DaysIn : PySem.W.hasDictIn K C_DaysIn = true) (po_DaysIn : PySem.W.plainOver K C_DaysIn = true) (sa_DaysIn : PySem.W.findIn K (.ref C_DaysIn) "__setattr__" = some (some (.builtin "object.__setattr__"))) (mk_DaysIn : PySem.W.makesIn K C_DaysIn = true) (kc_DaysIn : PySem.W.keepIn K (.ref C_DaysIn) = true)
    (na_DaysIn_first : PySem.W.findIn K (.ref C_DaysIn) "first" = some none)
    (na_DaysIn_last : PySem.W.findIn K (.ref C_DaysIn) "last" = some none)
    {C_Condition : Addr} (a_Condition : PySem.W.nsIn K mainGlobals "Condition" = some (some (.ref C_Condition))) (pg_Condition : PySem.W.plainGet K C_Condition Str.empty = true) (hd_Condition : PySem.W.hasDictIn K C_Condition = true) (po_Condition : PySem.W.plainOver K C_Condition = true) (sa_Condition : PySem.W.findIn K (.ref C_Condition) "__setattr__" = some (some (.builtin "object.__setattr__"))) (mk_Condition : PySem.W.makesIn K C_Condition = true) (kc_Condition : PySem.W.keepIn K (.ref C_Condition) = true)
    {C_Not : Addr} (a_Not : PySem.W.nsIn K mainGlobals "Not" = some (some (.ref C_Not))) (pg_Not : PySem.W.plainGet K C_Not Str.empty = true) (hd_Not : PySem.W.hasDictIn K C_Not = true) (po_Not : PySem.W.plainOver K C_Not = true) (sa_Not : PySem.W.findIn K (.ref C_Not) "__setattr__" = some (some (.builtin "object.__setattr__"))) (mk_Not : PySem.W.makesIn K C_Not = true) (kc_Not : PySem.W.keepIn K (.ref C_Not) = true)
    (na_Not_part : PySem.W.findIn K (.ref C_Not) "part" = some none)
    {C_CoverError : Addr} (a_CoverError : PySem.W.nsIn K mainGlobals "CoverError" = some (some (.ref C_CoverError)))
    {C_NoWords : Addr} (a_NoWords : PySem.W.nsIn K mainGlobals "NoWords" = some (some (.ref C_NoWords)))
    {C_TooDeep : Addr} (a_TooDeep : PySem.W.nsIn K mainGlobals "TooDeep" = some (some (.ref C_TooDeep)))
    {C_NoText : Addr} (a_NoText : PySem.W.nsIn K mainGlobals "NoText" = some (some (.ref C_NoText)))
    {C_NoAmount : Addr} (a_NoAmount : PySem.W.nsIn K mainGlobals "NoAmount" = some (some (.ref C_NoAmount)))
    (xq_TooDeep : PySem.W.excIn K C_TooDeep [.type "ValueError", .type "Exception", .type "BaseException", .type "object"] "ValueError.__new__" = true)
    (xk_TooDeep : PySem.W.keepIn K (.ref C_TooDeep) = true)
    (xb_TooDeep : PySem.W.subIn K (.ref C_TooDeep) (.type "BaseException") = some true)
    (xt_TooDeep : PySem.W.typeIn K (.ref C_TooDeep) = some (.type "type"))
    (xg_NoWords : PySem.W.findIn K (.ref C_NoWords) "__getattribute__" = some (some (.builtin "BaseException.__getattribute__")))
    (xh_NoWords : PySem.W.findIn K (.ref C_NoWords) "__getattr__" = some none)
    (xb_NoWords : PySem.W.subIn K (.ref C_NoWords) (.type "BaseException") = some true)
    (xd_NoWords : PySem.W.hasDictIn K C_NoWords = true)
    (xa_NoWords : PySem.W.findIn K (.ref C_NoWords) "__class__" = some (some (.builtin "object.__class__")))
    (xm_NoWords : PySem.W.mroIn K C_NoWords (.type "object") = some true)
    (xg_TooDeep : PySem.W.findIn K (.ref C_TooDeep) "__getattribute__" = some (some (.builtin "BaseException.__getattribute__")))
    (xh_TooDeep : PySem.W.findIn K (.ref C_TooDeep) "__getattr__" = some none)
    (xd_TooDeep : PySem.W.hasDictIn K C_TooDeep = true)
    (xa_TooDeep : PySem.W.findIn K (.ref C_TooDeep) "__class__" = some (some (.builtin "object.__class__")))
    (xm_TooDeep : PySem.W.mroIn K C_TooDeep (.type "object") = some true)
    (xn0 : PySem.W.specialIn K (.builtin "object.__class__") "__get__" = some (some (.builtin "getset_descriptor.__get__"))) (xt0 : PySem.W.takesIn K (.builtin "object.__class__") = some true)
    (xb_CoverError : PySem.W.subIn K (.ref C_CoverError) (.type "BaseException") = some true)
    (xd_CoverError : PySem.W.hasDictIn K C_CoverError = true)
    (xt_CoverError : PySem.W.typeIn K (.ref C_CoverError) = some (.type "type"))
    (xs_NoWords_CoverError : PySem.W.subIn K (.ref C_NoWords) (.ref C_CoverError) = some true)
    (xs_TooDeep_CoverError : PySem.W.subIn K (.ref C_TooDeep) (.ref C_CoverError) = some true)
    (ob_Condition : PySem.W.findIn K (.ref C_Condition) "__init__" = some (some (.builtin "object.__init__")))
    {f0 : Addr} {od0 an0 : Option Addr} {sl0 : Array (Option Value)} {oc0 kV0 dc0 pm0 cd0 ct0 : Value}
    (a0 : PySem.W.nsIn K mainGlobals "_law_cell" = some (some (.ref f0))) (l0 : K.lookup f0 = some ⟨oc0, od0, .func (PySem.W.fnOf "_law_cell" "_law_cell" (defArgs s__law_cell) (defBody s__law_cell) (defScope s__law_cell) .none kV0 dc0 pm0 an0 cd0 ct0), sl0⟩) (c0 : PySem.W.codeIn K cd0 "_law_cell" = true) (k0 : PySem.W.keepIn K (.ref f0) = true)
    {f1 : Addr} {od1 an1 : Option Addr} {sl1 : Array (Option Value)} {oc1 kV1 dc1 pm1 cd1 ct1 : Value}
    (a1 : PySem.W.nsIn K mainGlobals "_law_mix" = some (some (.ref f1))) (l1 : K.lookup f1 = some ⟨oc1, od1, .func (PySem.W.fnOf "_law_mix" "_law_mix" (defArgs s__law_mix) (defBody s__law_mix) (defScope s__law_mix) .none kV1 dc1 pm1 an1 cd1 ct1), sl1⟩) (c1 : PySem.W.codeIn K cd1 "_law_mix" = true) (k1 : PySem.W.keepIn K (.ref f1) = true)
    {f2 : Addr} {od2 an2 : Option Addr} {sl2 : Array (Option Value)} {oc2 kV2 dc2 pm2 cd2 ct2 : Value}
    (a2 : PySem.W.nsIn K mainGlobals "_law_opened" = some (some (.ref f2))) (l2 : K.lookup f2 = some ⟨oc2, od2, .func (PySem.W.fnOf "_law_opened" "_law_opened" (defArgs s__law_opened) (defBody s__law_opened) (defScope s__law_opened) .none kV2 dc2 pm2 an2 cd2 ct2), sl2⟩) (c2 : PySem.W.codeIn K cd2 "_law_opened" = true) (k2 : PySem.W.keepIn K (.ref f2) = true)
    {f3 : Addr} {od3 an3 : Option Addr} {sl3 : Array (Option Value)} {oc3 kV3 dc3 pm3 cd3 ct3 : Value}
    (a3 : PySem.W.nsIn K mainGlobals "_law_atom" = some (some (.ref f3))) (l3 : K.lookup f3 = some ⟨oc3, od3, .func (PySem.W.fnOf "_law_atom" "_law_atom" (defArgs s__law_atom) (defBody s__law_atom) (defScope s__law_atom) .none kV3 dc3 pm3 an3 cd3 ct3), sl3⟩) (c3 : PySem.W.codeIn K cd3 "_law_atom" = true) (k3 : PySem.W.keepIn K (.ref f3) = true)
    {f4 : Addr} {od4 an4 : Option Addr} {sl4 : Array (Option Value)} {oc4 kV4 dc4 pm4 cd4 ct4 : Value}
    (a4 : PySem.W.findIn K (.ref C_NoWords) "__init__" = some (some (.ref f4))) (l4 : K.lookup f4 = some ⟨oc4, od4, .func (PySem.W.fnOf "__init__" "NoWords.__init__" (defArgs s_NoWords___init__) (defBody s_NoWords___init__) (defScope s_NoWords___init__) .none kV4 dc4 pm4 an4 cd4 ct4), sl4⟩) (c4 : PySem.W.codeIn K cd4 "NoWords.__init__" = true) (k4 : PySem.W.keepIn K (.ref f4) = true) (i4 : PySem.W.isFn K (.ref f4) = true) (tf4 : PySem.W.typeIn K (.ref f4) = some (.type "function"))
    {f5 : Addr} {od5 an5 : Option Addr} {sl5 : Array (Option Value)} {oc5 kV5 dc5 pm5 cd5 ct5 : Value}
    (a5 : PySem.W.findIn K (.ref C_Some) "__init__" = some (some (.ref f5))) (l5 : K.lookup f5 = some ⟨oc5, od5, .func (PySem.W.fnOf "__init__" "Some.__init__" (defArgs s_Some___init__) (defBody s_Some___init__) (defScope s_Some___init__) .none kV5 dc5 pm5 an5 cd5 ct5), sl5⟩) (c5 : PySem.W.codeIn K cd5 "Some.__init__" = true) (k5 : PySem.W.keepIn K (.ref f5) = true) (i5 : PySem.W.isFn K (.ref f5) = true)
    {f6 : Addr} {od6 an6 : Option Addr} {sl6 : Array (Option Value)} {oc6 kV6 dc6 pm6 cd6 ct6 : Value}
    (a6 : PySem.W.findIn K (.ref C_All) "__init__" = some (some (.ref f6))) (l6 : K.lookup f6 = some ⟨oc6, od6, .func (PySem.W.fnOf "__init__" "All.__init__" (defArgs s_All___init__) (defBody s_All___init__) (defScope s_All___init__) .none kV6 dc6 pm6 an6 cd6 ct6), sl6⟩) (c6 : PySem.W.codeIn K cd6 "All.__init__" = true) (k6 : PySem.W.keepIn K (.ref f6) = true) (i6 : PySem.W.isFn K (.ref f6) = true)
    {f7 : Addr} {od7 an7 : Option Addr} {sl7 : Array (Option Value)} {oc7 kV7 dc7 pm7 cd7 ct7 : Value}
    (a7 : PySem.W.nsIn K mainGlobals "is_name" = some (some (.ref f7))) (l7 : K.lookup f7 = some ⟨oc7, od7, .func (PySem.W.fnOf "is_name" "is_name" (defArgs s_is_name) (defBody s_is_name) (defScope s_is_name) .none kV7 dc7 pm7 an7 cd7 ct7), sl7⟩) (c7 : PySem.W.codeIn K cd7 "is_name" = true) (k7 : PySem.W.keepIn K (.ref f7) = true)
    {f8 : Addr} {od8 an8 : Option Addr} {sl8 : Array (Option Value)} {oc8 kV8 dc8 pm8 cd8 ct8 : Value}
    (a8 : PySem.W.nsIn K mainGlobals "name_at" = some (some (.ref f8))) (l8 : K.lookup f8 = some ⟨oc8, od8, .func (PySem.W.fnOf "name_at" "name_at" (defArgs s_name_at) (defBody s_name_at) (defScope s_name_at) .none kV8 dc8 pm8 an8 cd8 ct8), sl8⟩) (c8 : PySem.W.codeIn K cd8 "name_at" = true) (k8 : PySem.W.keepIn K (.ref f8) = true)
    {f9 : Addr} {od9 an9 : Option Addr} {sl9 : Array (Option Value)} {oc9 kV9 dc9 pm9 cd9 ct9 : Value}
    (a9 : PySem.W.findIn K (.ref C_CauseIs) "__init__" = some (some (.ref f9))) (l9 : K.lookup f9 = some ⟨oc9, od9, .func (PySem.W.fnOf "__init__" "CauseIs.__init__" (defArgs s_CauseIs___init__) (defBody s_CauseIs___init__) (defScope s_CauseIs___init__) .none kV9 dc9 pm9 an9 cd9 ct9), sl9⟩) (c9 : PySem.W.codeIn K cd9 "CauseIs.__init__" = true) (k9 : PySem.W.keepIn K (.ref f9) = true) (i9 : PySem.W.isFn K (.ref f9) = true)
    {f10 : Addr} {od10 an10 : Option Addr} {sl10 : Array (Option Value)} {oc10 kV10 dc10 pm10 cd10 ct10 : Value}
    (a10 : PySem.W.findIn K (.ref C_ThingIs) "__init__" = some (some (.ref f10))) (l10 : K.lookup f10 = some ⟨oc10, od10, .func (PySem.W.fnOf "__init__" "ThingIs.__init__" (defArgs s_ThingIs___init__) (defBody s_ThingIs___init__) (defScope s_ThingIs___init__) .none kV10 dc10 pm10 an10 cd10 ct10), sl10⟩) (c10 : PySem.W.codeIn K cd10 "ThingIs.__init__" = true) (k10 : PySem.W.keepIn K (.ref f10) = true) (i10 : PySem.W.isFn K (.ref f10) = true)
    {f11 : Addr} {od11 an11 : Option Addr} {sl11 : Array (Option Value)} {oc11 kV11 dc11 pm11 cd11 ct11 : Value}
    (a11 : PySem.W.nsIn K mainGlobals "all_figures" = some (some (.ref f11))) (l11 : K.lookup f11 = some ⟨oc11, od11, .func (PySem.W.fnOf "all_figures" "all_figures" (defArgs s_all_figures) (defBody s_all_figures) (defScope s_all_figures) .none kV11 dc11 pm11 an11 cd11 ct11), sl11⟩) (c11 : PySem.W.codeIn K cd11 "all_figures" = true) (k11 : PySem.W.keepIn K (.ref f11) = true)
    {f12 : Addr} {od12 an12 : Option Addr} {sl12 : Array (Option Value)} {oc12 kV12 dc12 pm12 cd12 ct12 : Value}
    (a12 : PySem.W.nsIn K mainGlobals "read_cents" = some (some (.ref f12))) (l12 : K.lookup f12 = some ⟨oc12, od12, .func (PySem.W.fnOf "read_cents" "read_cents" (defArgs s_read_cents) (defBody s_read_cents) (defScope s_read_cents) .none kV12 dc12 pm12 an12 cd12 ct12), sl12⟩) (c12 : PySem.W.codeIn K cd12 "read_cents" = true) (k12 : PySem.W.keepIn K (.ref f12) = true)
    {f13 : Addr} {od13 an13 : Option Addr} {sl13 : Array (Option Value)} {oc13 kV13 dc13 pm13 cd13 ct13 : Value}
    (a13 : PySem.W.nsIn K mainGlobals "cents_at" = some (some (.ref f13))) (l13 : K.lookup f13 = some ⟨oc13, od13, .func (PySem.W.fnOf "cents_at" "cents_at" (defArgs s_cents_at) (defBody s_cents_at) (defScope s_cents_at) .none kV13 dc13 pm13 an13 cd13 ct13), sl13⟩) (c13 : PySem.W.codeIn K cd13 "cents_at" = true) (k13 : PySem.W.keepIn K (.ref f13) = true)
    {f14 : Addr} {od14 an14 : Option Addr} {sl14 : Array (Option Value)} {oc14 kV14 dc14 pm14 cd14 ct14 : Value}
    (a14 : PySem.W.findIn K (.ref C_Over) "__init__" = some (some (.ref f14))) (l14 : K.lookup f14 = some ⟨oc14, od14, .func (PySem.W.fnOf "__init__" "Over.__init__" (defArgs s_Over___init__) (defBody s_Over___init__) (defScope s_Over___init__) .none kV14 dc14 pm14 an14 cd14 ct14), sl14⟩) (c14 : PySem.W.codeIn K cd14 "Over.__init__" = true) (k14 : PySem.W.keepIn K (.ref f14) = true) (i14 : PySem.W.isFn K (.ref f14) = true)
    {f15 : Addr} {od15 an15 : Option Addr} {sl15 : Array (Option Value)} {oc15 kV15 dc15 pm15 cd15 ct15 : Value}
    (a15 : PySem.W.nsIn K mainGlobals "is_whole" = some (some (.ref f15))) (l15 : K.lookup f15 = some ⟨oc15, od15, .func (PySem.W.fnOf "is_whole" "is_whole" (defArgs s_is_whole) (defBody s_is_whole) (defScope s_is_whole) .none kV15 dc15 pm15 an15 cd15 ct15), sl15⟩) (c15 : PySem.W.codeIn K cd15 "is_whole" = true) (k15 : PySem.W.keepIn K (.ref f15) = true)
    {f16 : Addr} {od16 an16 : Option Addr} {sl16 : Array (Option Value)} {oc16 kV16 dc16 pm16 cd16 ct16 : Value}
    (a16 : PySem.W.nsIn K mainGlobals "is_day" = some (some (.ref f16))) (l16 : K.lookup f16 = some ⟨oc16, od16, .func (PySem.W.fnOf "is_day" "is_day" (defArgs s_is_day) (defBody s_is_day) (defScope s_is_day) .none kV16 dc16 pm16 an16 cd16 ct16), sl16⟩) (c16 : PySem.W.codeIn K cd16 "is_day" = true) (k16 : PySem.W.keepIn K (.ref f16) = true)
    {f17 : Addr} {od17 an17 : Option Addr} {sl17 : Array (Option Value)} {oc17 kV17 dc17 pm17 cd17 ct17 : Value}
    (a17 : PySem.W.nsIn K mainGlobals "day_at" = some (some (.ref f17))) (l17 : K.lookup f17 = some ⟨oc17, od17, .func (PySem.W.fnOf "day_at" "day_at" (defArgs s_day_at) (defBody s_day_at) (defScope s_day_at) .none kV17 dc17 pm17 an17 cd17 ct17), sl17⟩) (c17 : PySem.W.codeIn K cd17 "day_at" = true) (k17 : PySem.W.keepIn K (.ref f17) = true)
    {f18 : Addr} {od18 an18 : Option Addr} {sl18 : Array (Option Value)} {oc18 kV18 dc18 pm18 cd18 ct18 : Value}
    (a18 : PySem.W.findIn K (.ref C_DaysIn) "__init__" = some (some (.ref f18))) (l18 : K.lookup f18 = some ⟨oc18, od18, .func (PySem.W.fnOf "__init__" "DaysIn.__init__" (defArgs s_DaysIn___init__) (defBody s_DaysIn___init__) (defScope s_DaysIn___init__) .none kV18 dc18 pm18 an18 cd18 ct18), sl18⟩) (c18 : PySem.W.codeIn K cd18 "DaysIn.__init__" = true) (k18 : PySem.W.keepIn K (.ref f18) = true) (i18 : PySem.W.isFn K (.ref f18) = true)
    {f19 : Addr} {od19 an19 : Option Addr} {sl19 : Array (Option Value)} {oc19 kV19 dc19 pm19 cd19 ct19 : Value}
    (a19 : PySem.W.nsIn K mainGlobals "atom_at" = some (some (.ref f19))) (l19 : K.lookup f19 = some ⟨oc19, od19, .func (PySem.W.fnOf "atom_at" "atom_at" (defArgs s_atom_at) (defBody s_atom_at) (defScope s_atom_at) .none kV19 dc19 pm19 an19 cd19 ct19), sl19⟩) (c19 : PySem.W.codeIn K cd19 "atom_at" = true) (k19 : PySem.W.keepIn K (.ref f19) = true)
    {f20 : Addr} {od20 an20 : Option Addr} {sl20 : Array (Option Value)} {oc20 kV20 dc20 pm20 cd20 ct20 : Value}
    (a20 : PySem.W.findIn K (.ref C_Not) "__init__" = some (some (.ref f20))) (l20 : K.lookup f20 = some ⟨oc20, od20, .func (PySem.W.fnOf "__init__" "Not.__init__" (defArgs s_Not___init__) (defBody s_Not___init__) (defScope s_Not___init__) .none kV20 dc20 pm20 an20 cd20 ct20), sl20⟩) (c20 : PySem.W.codeIn K cd20 "Not.__init__" = true) (k20 : PySem.W.keepIn K (.ref f20) = true) (i20 : PySem.W.isFn K (.ref f20) = true)
    {f21 : Addr} {od21 an21 : Option Addr} {sl21 : Array (Option Value)} {oc21 kV21 dc21 pm21 cd21 ct21 : Value}
    (a21 : PySem.W.nsIn K mainGlobals "some_at" = some (some (.ref f21))) (l21 : K.lookup f21 = some ⟨oc21, od21, .func (PySem.W.fnOf "some_at" "some_at" (defArgs s_some_at) (defBody s_some_at) (defScope s_some_at) .none kV21 dc21 pm21 an21 cd21 ct21), sl21⟩) (c21 : PySem.W.codeIn K cd21 "some_at" = true) (k21 : PySem.W.keepIn K (.ref f21) = true)
    {f22 : Addr} {od22 an22 : Option Addr} {sl22 : Array (Option Value)} {oc22 kV22 dc22 pm22 cd22 ct22 : Value}
    (a22 : PySem.W.nsIn K mainGlobals "all_at" = some (some (.ref f22))) (l22 : K.lookup f22 = some ⟨oc22, od22, .func (PySem.W.fnOf "all_at" "all_at" (defArgs s_all_at) (defBody s_all_at) (defScope s_all_at) .none kV22 dc22 pm22 an22 cd22 ct22), sl22⟩) (c22 : PySem.W.codeIn K cd22 "all_at" = true) (k22 : PySem.W.keepIn K (.ref f22) = true)
    {f23 : Addr} {od23 an23 : Option Addr} {sl23 : Array (Option Value)} {oc23 kV23 dc23 pm23 cd23 ct23 : Value}
    (a23 : PySem.W.nsIn K mainGlobals "piece_at" = some (some (.ref f23))) (l23 : K.lookup f23 = some ⟨oc23, od23, .func (PySem.W.fnOf "piece_at" "piece_at" (defArgs s_piece_at) (defBody s_piece_at) (defScope s_piece_at) .none kV23 dc23 pm23 an23 cd23 ct23), sl23⟩) (c23 : PySem.W.codeIn K cd23 "piece_at" = true) (k23 : PySem.W.keepIn K (.ref f23) = true)
    {f24 : Addr} {od24 an24 : Option Addr} {sl24 : Array (Option Value)} {oc24 kV24 dc24 pm24 cd24 ct24 : Value}
    (a24 : PySem.W.nsIn K mainGlobals "read_condition" = some (some (.ref f24))) (l24 : K.lookup f24 = some ⟨oc24, od24, .func (PySem.W.fnOf "read_condition" "read_condition" (defArgs s_read_condition) (defBody s_read_condition) (defScope s_read_condition) .none kV24 dc24 pm24 an24 cd24 ct24), sl24⟩) (c24 : PySem.W.codeIn K cd24 "read_condition" = true) (k24 : PySem.W.keepIn K (.ref f24) = true)
    {f25 : Addr} {od25 an25 : Option Addr} {sl25 : Array (Option Value)} {oc25 kV25 dc25 pm25 cd25 ct25 : Value}
    (a25 : PySem.W.nsIn K mainGlobals "_law_refused" = some (some (.ref f25))) (l25 : K.lookup f25 = some ⟨oc25, od25, .func (PySem.W.fnOf "_law_refused" "_law_refused" (defArgs s__law_refused) (defBody s__law_refused) (defScope s__law_refused) .none kV25 dc25 pm25 an25 cd25 ct25), sl25⟩) (c25 : PySem.W.codeIn K cd25 "_law_refused" = true) (k25 : PySem.W.keepIn K (.ref f25) = true)
    {f26 : Addr} {od26 an26 : Option Addr} {sl26 : Array (Option Value)} {oc26 kV26 dc26 pm26 cd26 ct26 : Value}
    (a26 : PySem.W.nsIn K mainGlobals "_law_whole" = some (some (.ref f26))) (l26 : K.lookup f26 = some ⟨oc26, od26, .func (PySem.W.fnOf "_law_whole" "_law_whole" (defArgs s__law_whole) (defBody s__law_whole) (defScope s__law_whole) .none kV26 dc26 pm26 an26 cd26 ct26), sl26⟩) (c26 : PySem.W.codeIn K cd26 "_law_whole" = true) (k26 : PySem.W.keepIn K (.ref f26) = true)
    {f27 : Addr} {od27 an27 : Option Addr} {sl27 : Array (Option Value)} {oc27 kV27 dc27 pm27 cd27 ct27 : Value}
    (a27 : PySem.W.nsIn K mainGlobals "_law_refused_at" = some (some (.ref f27))) (l27 : K.lookup f27 = some ⟨oc27, od27, .func (PySem.W.fnOf "_law_refused_at" "_law_refused_at" (defArgs s__law_refused_at) (defBody s__law_refused_at) (defScope s__law_refused_at) .none kV27 dc27 pm27 an27 cd27 ct27), sl27⟩) (c27 : PySem.W.codeIn K cd27 "_law_refused_at" = true) (k27 : PySem.W.keepIn K (.ref f27) = true)
    {f28 : Addr} {od28 an28 : Option Addr} {sl28 : Array (Option Value)} {oc28 kV28 dc28 pm28 cd28 ct28 : Value}
    (a28 : PySem.W.findIn K (.ref C_Condition) "holds" = some (some (.ref f28))) (l28 : K.lookup f28 = some ⟨oc28, od28, .func (PySem.W.fnOf "holds" "Condition.holds" (defArgs s_Condition_holds) (defBody s_Condition_holds) (defScope s_Condition_holds) .none kV28 dc28 pm28 an28 cd28 ct28), sl28⟩) (c28 : PySem.W.codeIn K cd28 "Condition.holds" = true) (k28 : PySem.W.keepIn K (.ref f28) = true) (i28 : PySem.W.isFn K (.ref f28) = true)
    {f29 : Addr} {od29 an29 : Option Addr} {sl29 : Array (Option Value)} {oc29 kV29 dc29 pm29 cd29 ct29 : Value}
    (a29 : PySem.W.findIn K (.ref C_CauseIs) "holds" = some (some (.ref f29))) (l29 : K.lookup f29 = some ⟨oc29, od29, .func (PySem.W.fnOf "holds" "CauseIs.holds" (defArgs s_CauseIs_holds) (defBody s_CauseIs_holds) (defScope s_CauseIs_holds) .none kV29 dc29 pm29 an29 cd29 ct29), sl29⟩) (c29 : PySem.W.codeIn K cd29 "CauseIs.holds" = true) (k29 : PySem.W.keepIn K (.ref f29) = true) (i29 : PySem.W.isFn K (.ref f29) = true)
    {f30 : Addr} {od30 an30 : Option Addr} {sl30 : Array (Option Value)} {oc30 kV30 dc30 pm30 cd30 ct30 : Value}
    (a30 : PySem.W.findIn K (.ref C_ThingIs) "holds" = some (some (.ref f30))) (l30 : K.lookup f30 = some ⟨oc30, od30, .func (PySem.W.fnOf "holds" "ThingIs.holds" (defArgs s_ThingIs_holds) (defBody s_ThingIs_holds) (defScope s_ThingIs_holds) .none kV30 dc30 pm30 an30 cd30 ct30), sl30⟩) (c30 : PySem.W.codeIn K cd30 "ThingIs.holds" = true) (k30 : PySem.W.keepIn K (.ref f30) = true) (i30 : PySem.W.isFn K (.ref f30) = true)
    {f31 : Addr} {od31 an31 : Option Addr} {sl31 : Array (Option Value)} {oc31 kV31 dc31 pm31 cd31 ct31 : Value}
    (a31 : PySem.W.findIn K (.ref C_DaysIn) "holds" = some (some (.ref f31))) (l31 : K.lookup f31 = some ⟨oc31, od31, .func (PySem.W.fnOf "holds" "DaysIn.holds" (defArgs s_DaysIn_holds) (defBody s_DaysIn_holds) (defScope s_DaysIn_holds) .none kV31 dc31 pm31 an31 cd31 ct31), sl31⟩) (c31 : PySem.W.codeIn K cd31 "DaysIn.holds" = true) (k31 : PySem.W.keepIn K (.ref f31) = true) (i31 : PySem.W.isFn K (.ref f31) = true)
    {f32 : Addr} {od32 an32 : Option Addr} {sl32 : Array (Option Value)} {oc32 kV32 dc32 pm32 cd32 ct32 : Value}
    (a32 : PySem.W.findIn K (.ref C_Over) "holds" = some (some (.ref f32))) (l32 : K.lookup f32 = some ⟨oc32, od32, .func (PySem.W.fnOf "holds" "Over.holds" (defArgs s_Over_holds) (defBody s_Over_holds) (defScope s_Over_holds) .none kV32 dc32 pm32 an32 cd32 ct32), sl32⟩) (c32 : PySem.W.codeIn K cd32 "Over.holds" = true) (k32 : PySem.W.keepIn K (.ref f32) = true) (i32 : PySem.W.isFn K (.ref f32) = true)
    {f33 : Addr} {od33 an33 : Option Addr} {sl33 : Array (Option Value)} {oc33 kV33 dc33 pm33 cd33 ct33 : Value}
    (a33 : PySem.W.findIn K (.ref C_Not) "holds" = some (some (.ref f33))) (l33 : K.lookup f33 = some ⟨oc33, od33, .func (PySem.W.fnOf "holds" "Not.holds" (defArgs s_Not_holds) (defBody s_Not_holds) (defScope s_Not_holds) .none kV33 dc33 pm33 an33 cd33 ct33), sl33⟩) (c33 : PySem.W.codeIn K cd33 "Not.holds" = true) (k33 : PySem.W.keepIn K (.ref f33) = true) (i33 : PySem.W.isFn K (.ref f33) = true)
    {f34 : Addr} {od34 an34 : Option Addr} {sl34 : Array (Option Value)} {oc34 kV34 dc34 pm34 cd34 ct34 : Value}
    (a34 : PySem.W.findIn K (.ref C_All) "holds" = some (some (.ref f34))) (l34 : K.lookup f34 = some ⟨oc34, od34, .func (PySem.W.fnOf "holds" "All.holds" (defArgs s_All_holds) (defBody s_All_holds) (defScope s_All_holds) .none kV34 dc34 pm34 an34 cd34 ct34), sl34⟩) (c34 : PySem.W.codeIn K cd34 "All.holds" = true) (k34 : PySem.W.keepIn K (.ref f34) = true) (i34 : PySem.W.isFn K (.ref f34) = true)
    {f35 : Addr} {od35 an35 : Option Addr} {sl35 : Array (Option Value)} {oc35 kV35 dc35 pm35 cd35 ct35 : Value}
    (a35 : PySem.W.findIn K (.ref C_Some) "holds" = some (some (.ref f35))) (l35 : K.lookup f35 = some ⟨oc35, od35, .func (PySem.W.fnOf "holds" "Some.holds" (defArgs s_Some_holds) (defBody s_Some_holds) (defScope s_Some_holds) .none kV35 dc35 pm35 an35 cd35 ct35), sl35⟩) (c35 : PySem.W.codeIn K cd35 "Some.holds" = true) (k35 : PySem.W.keepIn K (.ref f35) = true) (i35 : PySem.W.isFn K (.ref f35) = true)
    {f36 : Addr} {od36 an36 : Option Addr} {sl36 : Array (Option Value)} {oc36 kV36 dc36 pm36 cd36 ct36 : Value}
    (a36 : PySem.W.nsIn K mainGlobals "_law_holds" = some (some (.ref f36))) (l36 : K.lookup f36 = some ⟨oc36, od36, .func (PySem.W.fnOf "_law_holds" "_law_holds" (defArgs s__law_holds) (defBody s__law_holds) (defScope s__law_holds) .none kV36 dc36 pm36 an36 cd36 ct36), sl36⟩) (c36 : PySem.W.codeIn K cd36 "_law_holds" = true) (k36 : PySem.W.keepIn K (.ref f36) = true)
    {f37 : Addr} {od37 an37 : Option Addr} {sl37 : Array (Option Value)} {oc37 kV37 dc37 pm37 cd37 ct37 : Value}
    (a37 : PySem.W.nsIn K mainGlobals "_law_truth" = some (some (.ref f37))) (l37 : K.lookup f37 = some ⟨oc37, od37, .func (PySem.W.fnOf "_law_truth" "_law_truth" (defArgs s__law_truth) (defBody s__law_truth) (defScope s__law_truth) .none kV37 dc37 pm37 an37 cd37 ct37), sl37⟩) (c37 : PySem.W.codeIn K cd37 "_law_truth" = true) (k37 : PySem.W.keepIn K (.ref f37) = true)
    {f38 : Addr} {od38 an38 : Option Addr} {sl38 : Array (Option Value)} {oc38 kV38 dc38 pm38 cd38 ct38 : Value}
    (a38 : PySem.W.nsIn K mainGlobals "_law_nested" = some (some (.ref f38))) (l38 : K.lookup f38 = some ⟨oc38, od38, .func (PySem.W.fnOf "_law_nested" "_law_nested" (defArgs s__law_nested) (defBody s__law_nested) (defScope s__law_nested) .none kV38 dc38 pm38 an38 cd38 ct38), sl38⟩) (c38 : PySem.W.codeIn K cd38 "_law_nested" = true) (k38 : PySem.W.keepIn K (.ref f38) = true)
    {f39 : Addr} {od39 an39 : Option Addr} {sl39 : Array (Option Value)} {oc39 kV39 dc39 pm39 cd39 ct39 : Value}
    (a39 : PySem.W.nsIn K mainGlobals "_law_row" = some (some (.ref f39))) (l39 : K.lookup f39 = some ⟨oc39, od39, .func (PySem.W.fnOf "_law_row" "_law_row" (defArgs s__law_row) (defBody s__law_row) (defScope s__law_row) .none kV39 dc39 pm39 an39 cd39 ct39), sl39⟩) (c39 : PySem.W.codeIn K cd39 "_law_row" = true) (k39 : PySem.W.keepIn K (.ref f39) = true)
    {f40 : Addr} {od40 an40 : Option Addr} {sl40 : Array (Option Value)} {oc40 kV40 dc40 pm40 cd40 ct40 : Value}
    (a40 : PySem.W.nsIn K mainGlobals "_law_long" = some (some (.ref f40))) (l40 : K.lookup f40 = some ⟨oc40, od40, .func (PySem.W.fnOf "_law_long" "_law_long" (defArgs s__law_long) (defBody s__law_long) (defScope s__law_long) .none kV40 dc40 pm40 an40 cd40 ct40), sl40⟩) (c40 : PySem.W.codeIn K cd40 "_law_long" = true) (k40 : PySem.W.keepIn K (.ref f40) = true)
    {f41 : Addr} {od41 an41 : Option Addr} {sl41 : Array (Option Value)} {oc41 kV41 dc41 pm41 cd41 ct41 : Value}
    (a41 : PySem.W.nsIn K mainGlobals "law" = some (some (.ref f41))) (l41 : K.lookup f41 = some ⟨oc41, od41, .func (PySem.W.fnOf "law" "law" (defArgs s_law) (defBody s_law) (defScope s_law) .none kV41 dc41 pm41 an41 cd41 ct41), sl41⟩) (c41 : PySem.W.codeIn K cd41 "law" = true) (k41 : PySem.W.keepIn K (.ref f41) = true)
    (q_rd_CoverError : PySem.W.readsIn K C_CoverError (.type "type") = true)
    (q_ga_CoverError : PySem.W.specialIn K (.ref C_CoverError) "__getattribute__" = some (some (.builtin "type.__getattribute__")))
    (q_vi_CoverError : PySem.W.findCls K (.ref C_CoverError) (.type "type") "__init__" = some (.val (.builtin "ValueError.__init__")))
    (q_xo_NoWords : PySem.W.excInitIn K C_NoWords [.type "ValueError", .type "Exception", .type "BaseException", .type "object"] "ValueError.__new__" = true)
    (q_hd_NoWords : PySem.W.hasDictIn K C_NoWords = true)
    (q_sa_NoWords : PySem.W.findIn K (.ref C_NoWords) "__setattr__" = some (some (.builtin "object.__setattr__")))
    (q_xb_NoWords : PySem.W.subIn K (.ref C_NoWords) (.type "BaseException") = some true)
    (q_xt_NoWords : PySem.W.typeIn K (.ref C_NoWords) = some (.type "type"))
    (q_xk_NoWords : PySem.W.keepIn K (.ref C_NoWords) = true)
    (q_nf_NoWords : PySem.W.findIn K (.ref C_NoWords) "at" = some none)
    (mr_NoWords_ValueError : PySem.W.mroIn K C_NoWords (.type "ValueError") = some true)
    (mr_TooDeep_ValueError : PySem.W.mroIn K C_TooDeep (.type "ValueError") = some true)
    (mr_NoWords_NoWords : PySem.W.mroIn K C_NoWords (.ref C_NoWords) = some true)
    (mr_TooDeep_NoWords : PySem.W.mroIn K C_TooDeep (.ref C_NoWords) = some false)
    (ms_TooDeep : PySem.W.mroIn K C_TooDeep (.ref C_TooDeep) = some true)
    (mr_NoWords_TooDeep : PySem.W.mroIn K C_NoWords (.ref C_TooDeep) = some false)
    (ms_NoWords : PySem.W.mroIn K C_NoWords (.ref C_NoWords) = some true)
    (mr_TooDeep_TooDeep : PySem.W.mroIn K C_TooDeep (.ref C_TooDeep) = some true)
    (mr_NoWords_NoText : PySem.W.mroIn K C_NoWords (.ref C_NoText) = some false)
    (mr_TooDeep_NoText : PySem.W.mroIn K C_TooDeep (.ref C_NoText) = some false)
    (mr_NoWords_NoAmount : PySem.W.mroIn K C_NoWords (.ref C_NoAmount) = some false)
    (mr_TooDeep_NoAmount : PySem.W.mroIn K C_TooDeep (.ref C_NoAmount) = some false)
    (ic_NoAmount : PySem.W.isClsIn K C_NoAmount = true) (ti_NoAmount : PySem.W.typeIn K (.ref C_NoAmount) = some (.type "type"))
    (ic_NoText : PySem.W.isClsIn K C_NoText = true) (ti_NoText : PySem.W.typeIn K (.ref C_NoText) = some (.type "type"))
    (ic_NoWords : PySem.W.isClsIn K C_NoWords = true) (ti_NoWords : PySem.W.typeIn K (.ref C_NoWords) = some (.type "type"))
    (ic_TooDeep : PySem.W.isClsIn K C_TooDeep = true) (ti_TooDeep : PySem.W.typeIn K (.ref C_TooDeep) = some (.type "type"))
    (z_len : PySem.W.nsIn K mainGlobals "len" = some none)
    (z_range : PySem.W.nsIn K mainGlobals "range" = some none)
    (z_list : PySem.W.nsIn K mainGlobals "list" = some none)
    (z_isinstance : PySem.W.nsIn K mainGlobals "isinstance" = some none)
    (z_str : PySem.W.nsIn K mainGlobals "str" = some none)
    (z_int : PySem.W.nsIn K mainGlobals "int" = some none)
    (z_bool : PySem.W.nsIn K mainGlobals "bool" = some none)
    (z_ValueError : PySem.W.nsIn K mainGlobals "ValueError" = some none)
    {tg_LETTERS : Tok} (g_LETTERS : PySem.W.nsIn K mainGlobals "LETTERS" = some (some (.str "abcdefghijklmnopqrstuvwxyz" tg_LETTERS)))
    {tg_FIGURES_cents : Tok} (g_FIGURES_cents : PySem.W.nsIn K mainGlobals "FIGURES_cents" = some (some (.str "0123456789" tg_FIGURES_cents)))
    {tg_LAST_DAY : Tok} (g_LAST_DAY : PySem.W.nsIn K mainGlobals "LAST_DAY" = some (some (.int 1000000 tg_LAST_DAY)))
    {tg_FIGURES_wording : Tok} (g_FIGURES_wording : PySem.W.nsIn K mainGlobals "FIGURES_wording" = some (some (.str "0123456789" tg_FIGURES_wording)))
    {tg_MOST_PARTS : Tok} (g_MOST_PARTS : PySem.W.nsIn K mainGlobals "MOST_PARTS" = some (some (.int 8 tg_MOST_PARTS)))
    {tg_MOST_OPEN : Tok} (g_MOST_OPEN : PySem.W.nsIn K mainGlobals "MOST_OPEN" = some (some (.int 6 tg_MOST_OPEN)))
    {tg_MOST_WORDS : Tok} (g_MOST_WORDS : PySem.W.nsIn K mainGlobals "MOST_WORDS" = some (some (.int 60 tg_MOST_WORDS)))
    : ∃ fd : FuncData, (∀ (s : Shared) (v : Value), BindsTo s fd ⟨[v], []⟩ [("_law_script", v)]) ∧ ∀ base : Heap, K.In base → base.Ns mainGlobals mg → FnOk l.prog w K mg base CX0 73 fa fd ["_law_script"] (spLaw K) := by
  have e := hfa.symm.trans (PySem.W.mg_of X G a41)
  cases e
  have q_NoWords_NoWords := kit_true ic_NoWords ti_NoWords mr_NoWords_NoWords
  have q_TooDeep_TooDeep := kit_true ic_TooDeep ti_TooDeep mr_TooDeep_TooDeep
  have q_TooDeep_NoWords := kit_false ms_TooDeep ic_NoWords ti_NoWords mr_TooDeep_NoWords
  have q_NoWords_TooDeep := kit_false ms_NoWords ic_TooDeep ti_TooDeep mr_NoWords_TooDeep
  have q_NoWords_NoText := kit_false ms_NoWords ic_NoText ti_NoText mr_NoWords_NoText
  have q_TooDeep_NoText := kit_false ms_TooDeep ic_NoText ti_NoText mr_TooDeep_NoText
  have q_NoWords_NoAmount := kit_false ms_NoWords ic_NoAmount ti_NoAmount mr_NoWords_NoAmount
  have q_TooDeep_NoAmount := kit_false ms_TooDeep ic_NoAmount ti_NoAmount mr_TooDeep_NoAmount
  have q_NoWords_ValueError : PySem.W.kitOne K (.ref C_NoWords) (.type "ValueError") = some true := kit_ty (by decide +kernel) mr_NoWords_ValueError
  have q_TooDeep_ValueError : PySem.W.kitOne K (.ref C_TooDeep) (.type "ValueError") = some true := kit_ty (by decide +kernel) mr_TooDeep_ValueError
  have z_len := PySem.W.mg_none_of X G z_len
  have z_range := PySem.W.mg_none_of X G z_range
  have z_list := PySem.W.mg_none_of X G z_list
  have z_isinstance := PySem.W.mg_none_of X G z_isinstance
  have z_str := PySem.W.mg_none_of X G z_str
  have z_int := PySem.W.mg_none_of X G z_int
  have z_bool := PySem.W.mg_none_of X G z_bool
  have z_ValueError := PySem.W.mg_none_of X G z_ValueError
  have g_LETTERS := PySem.W.mg_of X G g_LETTERS
  have g_FIGURES_cents := PySem.W.mg_of X G g_FIGURES_cents
  have g_LAST_DAY := PySem.W.mg_of X G g_LAST_DAY
  have g_FIGURES_wording := PySem.W.mg_of X G g_FIGURES_wording
  have g_MOST_PARTS := PySem.W.mg_of X G g_MOST_PARTS
  have g_MOST_OPEN := PySem.W.mg_of X G g_MOST_OPEN
  have g_MOST_WORDS := PySem.W.mg_of X G g_MOST_WORDS
  have F0 := fun_mk (st := s__law_cell) l0 c0 k0
  have b0 := F0.binds (ps := ["_law_script", "_law_k"]) fun _ _ _ _ _ _ us hl => match us, hl with | [_, _], _ => rfl
  have F1 := fun_mk (st := s__law_mix) l1 c1 k1
  have b1 := F1.binds (ps := ["_law_number", "_law_k"]) fun _ _ _ _ _ _ us hl => match us, hl with | [_, _], _ => rfl
  have F2 := fun_mk (st := s__law_opened) l2 c2 k2
  have b2 := F2.binds (ps := ["_law_number", "_law_size"]) fun _ _ _ _ _ _ us hl => match us, hl with | [_, _], _ => rfl
  have F3 := fun_mk (st := s__law_atom) l3 c3 k3
  have b3 := F3.binds (ps := ["_law_number"]) fun _ _ _ _ _ _ us hl => match us, hl with | [_], _ => rfl
  have F4 := fun_mk (st := s_NoWords___init__) l4 c4 k4
  have b4 := F4.binds (ps := ["self", "at"]) fun _ _ _ _ _ _ us hl => match us, hl with | [_, _], _ => rfl
  have F5 := fun_mk (st := s_Some___init__) l5 c5 k5
  have b5 := F5.binds (ps := ["self", "several"]) fun _ _ _ _ _ _ us hl => match us, hl with | [_, _], _ => rfl
  have F6 := fun_mk (st := s_All___init__) l6 c6 k6
  have b6 := F6.binds (ps := ["self", "several"]) fun _ _ _ _ _ _ us hl => match us, hl with | [_, _], _ => rfl
  have F7 := fun_mk (st := s_is_name) l7 c7 k7
  have b7 := F7.binds (ps := ["thing"]) fun _ _ _ _ _ _ us hl => match us, hl with | [_], _ => rfl
  have F8 := fun_mk (st := s_name_at) l8 c8 k8
  have b8 := F8.binds (ps := ["words", "at"]) fun _ _ _ _ _ _ us hl => match us, hl with | [_, _], _ => rfl
  have F9 := fun_mk (st := s_CauseIs___init__) l9 c9 k9
  have b9 := F9.binds (ps := ["self", "name"]) fun _ _ _ _ _ _ us hl => match us, hl with | [_, _], _ => rfl
  have F10 := fun_mk (st := s_ThingIs___init__) l10 c10 k10
  have b10 := F10.binds (ps := ["self", "name"]) fun _ _ _ _ _ _ us hl => match us, hl with | [_, _], _ => rfl
  have F11 := fun_mk (st := s_all_figures) l11 c11 k11
  have b11 := F11.binds (ps := ["text"]) fun _ _ _ _ _ _ us hl => match us, hl with | [_], _ => rfl
  have F12 := fun_mk (st := s_read_cents) l12 c12 k12
  have b12 := F12.binds (ps := ["text"]) fun _ _ _ _ _ _ us hl => match us, hl with | [_], _ => rfl
  have F13 := fun_mk (st := s_cents_at) l13 c13 k13
  have b13 := F13.binds (ps := ["words", "at"]) fun _ _ _ _ _ _ us hl => match us, hl with | [_, _], _ => rfl
  have F14 := fun_mk (st := s_Over___init__) l14 c14 k14
  have b14 := F14.binds (ps := ["self", "cents"]) fun _ _ _ _ _ _ us hl => match us, hl with | [_, _], _ => rfl
  have F15 := fun_mk (st := s_is_whole) l15 c15 k15
  have b15 := F15.binds (ps := ["thing"]) fun _ _ _ _ _ _ us hl => match us, hl with | [_], _ => rfl
  have F16 := fun_mk (st := s_is_day) l16 c16 k16
  have b16 := F16.binds (ps := ["thing"]) fun _ _ _ _ _ _ us hl => match us, hl with | [_], _ => rfl
  have F17 := fun_mk (st := s_day_at) l17 c17 k17
  have b17 := F17.binds (ps := ["words", "at"]) fun _ _ _ _ _ _ us hl => match us, hl with | [_, _], _ => rfl
  have F18 := fun_mk (st := s_DaysIn___init__) l18 c18 k18
  have b18 := F18.binds (ps := ["self", "first", "last"]) fun _ _ _ _ _ _ us hl => match us, hl with | [_, _, _], _ => rfl
  have F19 := fun_mk (st := s_atom_at) l19 c19 k19
  have b19 := F19.binds (ps := ["words", "at"]) fun _ _ _ _ _ _ us hl => match us, hl with | [_, _], _ => rfl
  have F20 := fun_mk (st := s_Not___init__) l20 c20 k20
  have b20 := F20.binds (ps := ["self", "part"]) fun _ _ _ _ _ _ us hl => match us, hl with | [_, _], _ => rfl
  have F21 := fun_mk (st := s_some_at) l21 c21 k21
  have b21 := F21.binds (ps := ["words", "at", "deep"]) fun _ _ _ _ _ _ us hl => match us, hl with | [_, _, _], _ => rfl
  have F22 := fun_mk (st := s_all_at) l22 c22 k22
  have b22 := F22.binds (ps := ["words", "at", "deep"]) fun _ _ _ _ _ _ us hl => match us, hl with | [_, _, _], _ => rfl
  have F23 := fun_mk (st := s_piece_at) l23 c23 k23
  have b23 := F23.binds (ps := ["words", "at", "deep"]) fun _ _ _ _ _ _ us hl => match us, hl with | [_, _, _], _ => rfl
  have F24 := fun_mk (st := s_read_condition) l24 c24 k24
  have b24 := F24.binds (ps := ["text"]) fun _ _ _ _ _ _ us hl => match us, hl with | [_], _ => rfl
  have F25 := fun_mk (st := s__law_refused) l25 c25 k25
  have b25 := F25.binds (ps := ["_law_thing"]) fun _ _ _ _ _ _ us hl => match us, hl with | [_], _ => rfl
  have F26 := fun_mk (st := s__law_whole) l26 c26 k26
  have b26 := F26.binds (ps := ["_law_found"]) fun _ _ _ _ _ _ us hl => match us, hl with | [_], _ => rfl
  have F27 := fun_mk (st := s__law_refused_at) l27 c27 k27
  have b27 := F27.binds (ps := ["_law_thing", "_law_due"]) fun _ _ _ _ _ _ us hl => match us, hl with | [_, _], _ => rfl
  have F28 := fun_mk (st := s_Condition_holds) l28 c28 k28
  have b28 := F28.binds (ps := ["self", "loss"]) fun _ _ _ _ _ _ us hl => match us, hl with | [_, _], _ => rfl
  have F29 := fun_mk (st := s_CauseIs_holds) l29 c29 k29
  have b29 := F29.binds (ps := ["self", "loss"]) fun _ _ _ _ _ _ us hl => match us, hl with | [_, _], _ => rfl
  have F30 := fun_mk (st := s_ThingIs_holds) l30 c30 k30
  have b30 := F30.binds (ps := ["self", "loss"]) fun _ _ _ _ _ _ us hl => match us, hl with | [_, _], _ => rfl
  have F31 := fun_mk (st := s_DaysIn_holds) l31 c31 k31
  have b31 := F31.binds (ps := ["self", "loss"]) fun _ _ _ _ _ _ us hl => match us, hl with | [_, _], _ => rfl
  have F32 := fun_mk (st := s_Over_holds) l32 c32 k32
  have b32 := F32.binds (ps := ["self", "loss"]) fun _ _ _ _ _ _ us hl => match us, hl with | [_, _], _ => rfl
  have F33 := fun_mk (st := s_Not_holds) l33 c33 k33
  have b33 := F33.binds (ps := ["self", "loss"]) fun _ _ _ _ _ _ us hl => match us, hl with | [_, _], _ => rfl
  have F34 := fun_mk (st := s_All_holds) l34 c34 k34
  have b34 := F34.binds (ps := ["self", "loss"]) fun _ _ _ _ _ _ us hl => match us, hl with | [_, _], _ => rfl
  have F35 := fun_mk (st := s_Some_holds) l35 c35 k35
  have b35 := F35.binds (ps := ["self", "loss"]) fun _ _ _ _ _ _ us hl => match us, hl with | [_, _], _ => rfl
  have F36 := fun_mk (st := s__law_holds) l36 c36 k36
  have b36 := F36.binds (ps := ["_law_text"]) fun _ _ _ _ _ _ us hl => match us, hl with | [_], _ => rfl
  have F37 := fun_mk (st := s__law_truth) l37 c37 k37
  have b37 := F37.binds (ps := ["_law_found", "_law_due"]) fun _ _ _ _ _ _ us hl => match us, hl with | [_, _], _ => rfl
  have F38 := fun_mk (st := s__law_nested) l38 c38 k38
  have b38 := F38.binds (ps := ["_law_script", "_law_k"]) fun _ _ _ _ _ _ us hl => match us, hl with | [_, _], _ => rfl
  have F39 := fun_mk (st := s__law_row) l39 c39 k39
  have b39 := F39.binds (ps := ["_law_script", "_law_k"]) fun _ _ _ _ _ _ us hl => match us, hl with | [_, _], _ => rfl
  have F40 := fun_mk (st := s__law_long) l40 c40 k40
  have b40 := F40.binds (ps := ["_law_script", "_law_k"]) fun _ _ _ _ _ _ us hl => match us, hl with | [_, _], _ => rfl
  have F41 := fun_mk (st := s_law) l41 c41 k41
  refine ⟨PySem.W.fnOf "law" "law" (defArgs s_law) (defBody s_law) (defScope s_law) .none kV41 dc41 pm41 an41 cd41 ct41, fun s v => .of_eq rfl, fun base _ _ => ?_⟩
  have n__law_cell : Fn1 l.prog w K mg base "_law_cell" 1 ["_law_script", "_law_k"] (sp__law_cell K) := ⟨_, _, PySem.W.mg_of X G a0, k0, b0, ok__law_cell F0 z_len⟩
  have n__law_mix : Fn1 l.prog w K mg base "_law_mix" 1 ["_law_number", "_law_k"] (sp__law_mix K) := ⟨_, _, PySem.W.mg_of X G a1, k1, b1, ok__law_mix F1 ⟩
  have n__law_opened : Fn1 l.prog w K mg base "_law_opened" 1 ["_law_number", "_law_size"] (sp__law_opened K) := ⟨_, _, PySem.W.mg_of X G a2, k2, b2, ok__law_opened F2 z_range⟩
  have n__law_atom : Fn1 l.prog w K mg base "_law_atom" 1 ["_law_number"] (sp__law_atom K) := ⟨_, _, PySem.W.mg_of X G a3, k3, b3, ok__law_atom F3 ⟩
  have o_NoWords___init__ := ok_NoWords___init__ (P := l.prog) (w := w) (mg := mg) (base := base)  F4 (PySem.W.mg_of X G a_CoverError) q_rd_CoverError q_ga_CoverError q_vi_CoverError q_xo_NoWords q_hd_NoWords q_sa_NoWords q_xb_NoWords q_xt_NoWords q_xk_NoWords q_nf_NoWords
  have nj_NoWords : XiC l.prog w K mg base "NoWords" C_NoWords "at" 1 ["self", "at"] := ⟨oexB_ok q_xo_NoWords q_hd_NoWords q_sa_NoWords q_xb_NoWords q_xt_NoWords q_xk_NoWords, q_nf_NoWords, PySem.W.mg_of X G a_NoWords, _, _, a4, tf4, b4, o_NoWords___init__⟩
  have o_Some___init__ := ok_Some___init__ (P := l.prog) (w := w) (mg := mg) (base := base) (C_Some := C_Some) (C_Condition := C_Condition) (C_CauseIs := C_CauseIs) (C_ThingIs := C_ThingIs) (C_DaysIn := C_DaysIn) (C_Over := C_Over) (C_Not := C_Not) (C_All := C_All) F5 z_list ⟨⟨pg_Some, hd_Some, po_Some, sa_Some⟩, fun _ => fun m => (List.mem_cons.mp m).elim (fun e => by rw [e]; exact na_Some_several) (fun m => (nomatch m))⟩
  have ni_Some : Mk1 l.prog w K mg base "Some" C_Some 1 ["self", "several"] (spI_Some___init__ K C_Some C_Condition C_CauseIs C_ThingIs C_DaysIn C_Over C_Not C_All) := ⟨_, _, PySem.W.mg_of X G a_Some, ⟨mk_Some, a5, i5, kc_Some⟩, b5, toI_Some___init__ o_Some___init__⟩
  have o_All___init__ := ok_All___init__ (P := l.prog) (w := w) (mg := mg) (base := base) (C_All := C_All) (C_Condition := C_Condition) (C_CauseIs := C_CauseIs) (C_ThingIs := C_ThingIs) (C_DaysIn := C_DaysIn) (C_Over := C_Over) (C_Not := C_Not) (C_Some := C_Some) F6 z_list ⟨⟨pg_All, hd_All, po_All, sa_All⟩, fun _ => fun m => (List.mem_cons.mp m).elim (fun e => by rw [e]; exact na_All_several) (fun m => (nomatch m))⟩
  have ni_All : Mk1 l.prog w K mg base "All" C_All 1 ["self", "several"] (spI_All___init__ K C_All C_Condition C_CauseIs C_ThingIs C_DaysIn C_Over C_Not C_Some) := ⟨_, _, PySem.W.mg_of X G a_All, ⟨mk_All, a6, i6, kc_All⟩, b6, toI_All___init__ o_All___init__⟩
  have n_is_name : Fn1 l.prog w K mg base "is_name" 1 ["thing"] (sp_is_name K) := ⟨_, _, PySem.W.mg_of X G a7, k7, b7, ok_is_name F7 z_isinstance z_str z_len g_LETTERS⟩
  have n_name_at : Fn1 l.prog w K mg base "name_at" 2 ["words", "at"] (sp_name_at K) := ⟨_, _, PySem.W.mg_of X G a8, k8, b8, ok_name_at F8 z_len n_is_name⟩
  have o_CauseIs___init__ := ok_CauseIs___init__ (P := l.prog) (w := w) (mg := mg) (base := base) (C_CauseIs := C_CauseIs) F9 ⟨⟨pg_CauseIs, hd_CauseIs, po_CauseIs, sa_CauseIs⟩, fun _ => fun m => (List.mem_cons.mp m).elim (fun e => by rw [e]; exact na_CauseIs_name) (fun m => (nomatch m))⟩
  have ni_CauseIs : Mk1 l.prog w K mg base "CauseIs" C_CauseIs 1 ["self", "name"] (spI_CauseIs___init__ K C_CauseIs) := ⟨_, _, PySem.W.mg_of X G a_CauseIs, ⟨mk_CauseIs, a9, i9, kc_CauseIs⟩, b9, toI_CauseIs___init__ o_CauseIs___init__⟩
  have o_ThingIs___init__ := ok_ThingIs___init__ (P := l.prog) (w := w) (mg := mg) (base := base) (C_ThingIs := C_ThingIs) F10 ⟨⟨pg_ThingIs, hd_ThingIs, po_ThingIs, sa_ThingIs⟩, fun _ => fun m => (List.mem_cons.mp m).elim (fun e => by rw [e]; exact na_ThingIs_name) (fun m => (nomatch m))⟩
  have ni_ThingIs : Mk1 l.prog w K mg base "ThingIs" C_ThingIs 1 ["self", "name"] (spI_ThingIs___init__ K C_ThingIs) := ⟨_, _, PySem.W.mg_of X G a_ThingIs, ⟨mk_ThingIs, a10, i10, kc_ThingIs⟩, b10, toI_ThingIs___init__ o_ThingIs___init__⟩
  have n_all_figures : Fn1 l.prog w K mg base "all_figures" 1 ["text"] (sp_all_figures K) := ⟨_, _, PySem.W.mg_of X G a11, k11, b11, ok_all_figures F11 g_FIGURES_cents⟩
  have n_read_cents : Fn1 l.prog w K mg base "read_cents" 2 ["text"] (sp_read_cents K) := ⟨_, _, PySem.W.mg_of X G a12, k12, b12, ok_read_cents F12 z_isinstance z_str z_len z_int n_all_figures⟩
  have n_cents_at : Fn1 l.prog w K mg base "cents_at" 3 ["words", "at"] (sp_cents_at K) := ⟨_, _, PySem.W.mg_of X G a13, k13, b13, ok_cents_at F13 z_len n_read_cents⟩
  have o_Over___init__ := ok_Over___init__ (P := l.prog) (w := w) (mg := mg) (base := base) (C_Over := C_Over) F14 ⟨⟨pg_Over, hd_Over, po_Over, sa_Over⟩, fun _ => fun m => (List.mem_cons.mp m).elim (fun e => by rw [e]; exact na_Over_cents) (fun m => (nomatch m))⟩
  have ni_Over : Mk1 l.prog w K mg base "Over" C_Over 1 ["self", "cents"] (spI_Over___init__ K C_Over) := ⟨_, _, PySem.W.mg_of X G a_Over, ⟨mk_Over, a14, i14, kc_Over⟩, b14, toI_Over___init__ o_Over___init__⟩
  have n_is_whole : Fn1 l.prog w K mg base "is_whole" 1 ["thing"] (sp_is_whole K) := ⟨_, _, PySem.W.mg_of X G a15, k15, b15, ok_is_whole F15 z_isinstance z_int z_bool⟩
  have n_is_day : Fn1 l.prog w K mg base "is_day" 2 ["thing"] (sp_is_day K) := ⟨_, _, PySem.W.mg_of X G a16, k16, b16, ok_is_day F16 g_LAST_DAY n_is_whole⟩
  have n_day_at : Fn1 l.prog w K mg base "day_at" 3 ["words", "at"] (sp_day_at K) := ⟨_, _, PySem.W.mg_of X G a17, k17, b17, ok_day_at F17 z_len z_int g_FIGURES_wording n_is_day⟩
  have o_DaysIn___init__ := ok_DaysIn___init__ (P := l.prog) (w := w) (mg := mg) (base := base) (C_DaysIn := C_DaysIn) F18 ⟨⟨pg_DaysIn, hd_DaysIn, po_DaysIn, sa_DaysIn⟩, fun _ => fun m => (List.mem_cons.mp m).elim (fun e => by rw [e]; exact na_DaysIn_first) (fun m => (List.mem_cons.mp m).elim (fun e => by rw [e]; exact na_DaysIn_last) (fun m => (nomatch m)))⟩
  have ni_DaysIn : Mk1 l.prog w K mg base "DaysIn" C_DaysIn 1 ["self", "first", "last"] (spI_DaysIn___init__ K C_DaysIn) := ⟨_, _, PySem.W.mg_of X G a_DaysIn, ⟨mk_DaysIn, a18, i18, kc_DaysIn⟩, b18, toI_DaysIn___init__ o_DaysIn___init__⟩
  have n_atom_at : Fn1E l.prog w K mg base "atom_at" 4 ["words", "at"] (sp_atom_at K C_Condition C_CauseIs C_ThingIs C_DaysIn C_Over C_Not C_All C_Some C_NoWords C_TooDeep) := ⟨_, _, PySem.W.mg_of X G a19, k19, b19, ok_atom_at F19 ⟨mk_Condition, ob_Condition, kc_Condition⟩ (PySem.W.mg_of X G a_Condition) n_name_at ni_CauseIs ni_ThingIs n_cents_at ni_Over nj_NoWords n_day_at ni_DaysIn⟩
  have o_Not___init__ := ok_Not___init__ (P := l.prog) (w := w) (mg := mg) (base := base) (C_Not := C_Not) (C_Condition := C_Condition) (C_CauseIs := C_CauseIs) (C_ThingIs := C_ThingIs) (C_DaysIn := C_DaysIn) (C_Over := C_Over) (C_All := C_All) (C_Some := C_Some) F20 ⟨⟨pg_Not, hd_Not, po_Not, sa_Not⟩, fun _ => fun m => (List.mem_cons.mp m).elim (fun e => by rw [e]; exact na_Not_part) (fun m => (nomatch m))⟩
  have ni_Not : Mk1 l.prog w K mg base "Not" C_Not 1 ["self", "part"] (spI_Not___init__ K C_Not C_Condition C_CauseIs C_ThingIs C_DaysIn C_Over C_All C_Some) := ⟨_, _, PySem.W.mg_of X G a_Not, ⟨mk_Not, a20, i20, kc_Not⟩, b20, toI_Not___init__ o_Not___init__⟩
  have O_parse : ∀ n : Nat, FnOk l.prog w K mg base (L2.CX l.prog w) (4 + n) f21 (PySem.W.fnOf "some_at" "some_at" (defArgs s_some_at) (defBody s_some_at) (defScope s_some_at) .none kV21 dc21 pm21 an21 cd21 ct21) ["words", "at", "deep"] (sp_some_at K C_Condition C_CauseIs C_ThingIs C_DaysIn C_Over C_Not C_All C_Some C_NoWords C_TooDeep n) ∧ FnOk l.prog w K mg base (L2.CX l.prog w) (4 + n) f22 (PySem.W.fnOf "all_at" "all_at" (defArgs s_all_at) (defBody s_all_at) (defScope s_all_at) .none kV22 dc22 pm22 an22 cd22 ct22) ["words", "at", "deep"] (sp_all_at K C_Condition C_CauseIs C_ThingIs C_DaysIn C_Over C_Not C_All C_Some C_NoWords C_TooDeep n) ∧ FnOk l.prog w K mg base (L2.CX l.prog w) (4 + n) f23 (PySem.W.fnOf "piece_at" "piece_at" (defArgs s_piece_at) (defBody s_piece_at) (defScope s_piece_at) .none kV23 dc23 pm23 an23 cd23 ct23) ["words", "at", "deep"] (sp_piece_at K C_Condition C_CauseIs C_ThingIs C_DaysIn C_Over C_Not C_All C_Some C_NoWords C_TooDeep n) ∧ True := by
    intro n
    induction n with
    | zero => exact ⟨fn_vacE (fun _ => rfl), fn_vacE (fun _ => rfl), fn_vacE (fun _ => rfl), trivial⟩
    | succ n ih =>
      obtain ⟨ih_some_at, ih_all_at, ih_piece_at, _⟩ := ih
      have n_all_at : Fn1E l.prog w K mg base "all_at" (4 + n) ["words", "at", "deep"] (sp_all_at K C_Condition C_CauseIs C_ThingIs C_DaysIn C_Over C_Not C_All C_Some C_NoWords C_TooDeep n) := ⟨_, _, PySem.W.mg_of X G a22, k22, b22, ih_all_at⟩
      have n_piece_at : Fn1E l.prog w K mg base "piece_at" (4 + n) ["words", "at", "deep"] (sp_piece_at K C_Condition C_CauseIs C_ThingIs C_DaysIn C_Over C_Not C_All C_Some C_NoWords C_TooDeep n) := ⟨_, _, PySem.W.mg_of X G a23, k23, b23, ih_piece_at⟩
      have n_some_at : Fn1E l.prog w K mg base "some_at" (4 + n) ["words", "at", "deep"] (sp_some_at K C_Condition C_CauseIs C_ThingIs C_DaysIn C_Over C_Not C_All C_Some C_NoWords C_TooDeep n) := ⟨_, _, PySem.W.mg_of X G a21, k21, b21, ih_some_at⟩
      exact ⟨ok_some_at (P := l.prog) (w := w) (mg := mg) (base := base) (C_Condition := C_Condition) (C_CauseIs := C_CauseIs) (C_ThingIs := C_ThingIs) (C_DaysIn := C_DaysIn) (C_Over := C_Over) (C_Not := C_Not) (C_All := C_All) (C_Some := C_Some) (C_NoWords := C_NoWords) (C_TooDeep := C_TooDeep) n F21 z_len g_MOST_PARTS n_all_at nj_NoWords ni_Some, ok_all_at (P := l.prog) (w := w) (mg := mg) (base := base) (C_Condition := C_Condition) (C_CauseIs := C_CauseIs) (C_ThingIs := C_ThingIs) (C_DaysIn := C_DaysIn) (C_Over := C_Over) (C_Not := C_Not) (C_All := C_All) (C_Some := C_Some) (C_NoWords := C_NoWords) (C_TooDeep := C_TooDeep) n F22 z_len g_MOST_PARTS n_piece_at nj_NoWords ni_All, ok_piece_at (P := l.prog) (w := w) (mg := mg) (base := base) (C_Condition := C_Condition) (C_CauseIs := C_CauseIs) (C_ThingIs := C_ThingIs) (C_DaysIn := C_DaysIn) (C_Over := C_Over) (C_Not := C_Not) (C_All := C_All) (C_Some := C_Some) (C_NoWords := C_NoWords) (C_TooDeep := C_TooDeep) n F23 z_len g_MOST_OPEN nj_NoWords n_atom_at ⟨xq_TooDeep, PySem.W.mg_of X G a_TooDeep, xk_TooDeep, xb_TooDeep, xt_TooDeep⟩ n_piece_at ni_Not n_some_at, trivial⟩
  obtain ⟨o_some_at, o_all_at, o_piece_at, _⟩ := O_parse 64
  have n_some_at : Fn1E l.prog w K mg base "some_at" 68 ["words", "at", "deep"] (sp_some_at K C_Condition C_CauseIs C_ThingIs C_DaysIn C_Over C_Not C_All C_Some C_NoWords C_TooDeep 64) := ⟨_, _, PySem.W.mg_of X G a21, k21, b21, o_some_at⟩
  have n_all_at : Fn1E l.prog w K mg base "all_at" 68 ["words", "at", "deep"] (sp_all_at K C_Condition C_CauseIs C_ThingIs C_DaysIn C_Over C_Not C_All C_Some C_NoWords C_TooDeep 64) := ⟨_, _, PySem.W.mg_of X G a22, k22, b22, o_all_at⟩
  have n_piece_at : Fn1E l.prog w K mg base "piece_at" 68 ["words", "at", "deep"] (sp_piece_at K C_Condition C_CauseIs C_ThingIs C_DaysIn C_Over C_Not C_All C_Some C_NoWords C_TooDeep 64) := ⟨_, _, PySem.W.mg_of X G a23, k23, b23, o_piece_at⟩
  have n_read_condition : Fn1E l.prog w K mg base "read_condition" 69 ["text"] (sp_read_condition K C_Condition C_CauseIs C_ThingIs C_DaysIn C_Over C_Not C_All C_Some C_NoWords C_TooDeep) := ⟨_, _, PySem.W.mg_of X G a24, k24, b24, ok_read_condition F24 z_isinstance z_str z_len g_MOST_WORDS nj_NoWords n_some_at⟩
  have n__law_refused : Fn1 l.prog w K mg base "_law_refused" 70 ["_law_thing"] (sp__law_refused K) := ⟨_, _, PySem.W.mg_of X G a25, k25, b25, ok__law_refused F25 z_isinstance z_ValueError (PySem.W.mg_of X G a_CoverError) (PySem.W.exm_ref xb_CoverError xd_CoverError xt_CoverError xs_NoWords_CoverError) (PySem.W.exm_ref xb_CoverError xd_CoverError xt_CoverError xs_TooDeep_CoverError) n_read_condition ⟨xg_NoWords, xh_NoWords, xb_NoWords, xd_NoWords, xa_NoWords, xn0, xt0, xm_NoWords⟩ q_NoWords_ValueError ⟨xg_TooDeep, xh_TooDeep, xb_TooDeep, xd_TooDeep, xa_TooDeep, xn0, xt0, xm_TooDeep⟩ q_TooDeep_ValueError (PySem.W.mg_of X G a_NoWords) q_NoWords_NoWords q_TooDeep_NoWords (PySem.W.mg_of X G a_TooDeep) q_NoWords_TooDeep q_TooDeep_TooDeep (PySem.W.mg_of X G a_NoText) q_NoWords_NoText q_TooDeep_NoText ⟨xg_NoWords, xh_NoWords, xb_NoWords, xd_NoWords⟩ q_nf_NoWords (PySem.W.mg_of X G a_NoAmount) q_NoWords_NoAmount q_TooDeep_NoAmount⟩
  have n__law_whole : Fn1 l.prog w K mg base "_law_whole" 1 ["_law_found"] (sp__law_whole K) := ⟨_, _, PySem.W.mg_of X G a26, k26, b26, ok__law_whole F26 z_isinstance z_int z_bool⟩
  have n__law_refused_at : Fn1 l.prog w K mg base "_law_refused_at" 71 ["_law_thing", "_law_due"] (sp__law_refused_at K) := ⟨_, _, PySem.W.mg_of X G a27, k27, b27, ok__law_refused_at F27 z_len n__law_refused n__law_whole⟩
  have o_Condition_holds := ok_Condition_holds (P := l.prog) (w := w) (mg := mg) (base := base) (C_Condition := C_Condition) (C_CauseIs := C_CauseIs) (C_ThingIs := C_ThingIs) (C_DaysIn := C_DaysIn) (C_Over := C_Over) (C_Not := C_Not) (C_All := C_All) (C_Some := C_Some) F28 
  have nm_Condition_holds : Mt1 l.prog w K mg base C_Condition "holds" 1 ["self", "loss"] (sp_Condition_holds K C_Condition C_CauseIs C_ThingIs C_DaysIn C_Over C_Not C_All C_Some) := ⟨_, _, ⟨a28, i28, k28⟩, b28, o_Condition_holds⟩
  have o_CauseIs_holds := ok_CauseIs_holds (P := l.prog) (w := w) (mg := mg) (base := base) (C_CauseIs := C_CauseIs) F29 ⟨⟨pg_CauseIs, hd_CauseIs, po_CauseIs, sa_CauseIs⟩, fun _ => fun m => (List.mem_cons.mp m).elim (fun e => by rw [e]; exact na_CauseIs_name) (fun m => (nomatch m))⟩
  have nm_CauseIs_holds : Mt1 l.prog w K mg base C_CauseIs "holds" 1 ["self", "loss"] (sp_CauseIs_holds K C_CauseIs) := ⟨_, _, ⟨a29, i29, k29⟩, b29, o_CauseIs_holds⟩
  have o_ThingIs_holds := ok_ThingIs_holds (P := l.prog) (w := w) (mg := mg) (base := base) (C_ThingIs := C_ThingIs) F30 ⟨⟨pg_ThingIs, hd_ThingIs, po_ThingIs, sa_ThingIs⟩, fun _ => fun m => (List.mem_cons.mp m).elim (fun e => by rw [e]; exact na_ThingIs_name) (fun m => (nomatch m))⟩
  have nm_ThingIs_holds : Mt1 l.prog w K mg base C_ThingIs "holds" 1 ["self", "loss"] (sp_ThingIs_holds K C_ThingIs) := ⟨_, _, ⟨a30, i30, k30⟩, b30, o_ThingIs_holds⟩
  have o_DaysIn_holds := ok_DaysIn_holds (P := l.prog) (w := w) (mg := mg) (base := base) (C_DaysIn := C_DaysIn) F31 ⟨⟨pg_DaysIn, hd_DaysIn, po_DaysIn, sa_DaysIn⟩, fun _ => fun m => (List.mem_cons.mp m).elim (fun e => by rw [e]; exact na_DaysIn_first) (fun m => (List.mem_cons.mp m).elim (fun e => by rw [e]; exact na_DaysIn_last) (fun m => (nomatch m)))⟩
  have nm_DaysIn_holds : Mt1 l.prog w K mg base C_DaysIn "holds" 1 ["self", "loss"] (sp_DaysIn_holds K C_DaysIn) := ⟨_, _, ⟨a31, i31, k31⟩, b31, o_DaysIn_holds⟩
  have o_Over_holds := ok_Over_holds (P := l.prog) (w := w) (mg := mg) (base := base) (C_Over := C_Over) F32 ⟨⟨pg_Over, hd_Over, po_Over, sa_Over⟩, fun _ => fun m => (List.mem_cons.mp m).elim (fun e => by rw [e]; exact na_Over_cents) (fun m => (nomatch m))⟩
  have nm_Over_holds : Mt1 l.prog w K mg base C_Over "holds" 1 ["self", "loss"] (sp_Over_holds K C_Over) := ⟨_, _, ⟨a32, i32, k32⟩, b32, o_Over_holds⟩
  have O_holds : ∀ n : Nat, FnOk l.prog w K mg base CX0 (1 + n) f33 (PySem.W.fnOf "holds" "Not.holds" (defArgs s_Not_holds) (defBody s_Not_holds) (defScope s_Not_holds) .none kV33 dc33 pm33 an33 cd33 ct33) ["self", "loss"] (sp_Not_holds K C_Not C_Condition C_CauseIs C_ThingIs C_DaysIn C_Over C_All C_Some n) ∧ FnOk l.prog w K mg base CX0 (1 + n) f34 (PySem.W.fnOf "holds" "All.holds" (defArgs s_All_holds) (defBody s_All_holds) (defScope s_All_holds) .none kV34 dc34 pm34 an34 cd34 ct34) ["self", "loss"] (sp_All_holds K C_All C_Condition C_CauseIs C_ThingIs C_DaysIn C_Over C_Not C_Some n) ∧ FnOk l.prog w K mg base CX0 (1 + n) f35 (PySem.W.fnOf "holds" "Some.holds" (defArgs s_Some_holds) (defBody s_Some_holds) (defScope s_Some_holds) .none kV35 dc35 pm35 an35 cd35 ct35) ["self", "loss"] (sp_Some_holds K C_Some C_Condition C_CauseIs C_ThingIs C_DaysIn C_Over C_Not C_All n) ∧ True := by
    intro n
    induction n with
    | zero => exact ⟨fn_vac (fun _ => rfl), fn_vac (fun _ => rfl), fn_vac (fun _ => rfl), trivial⟩
    | succ n ih =>
      obtain ⟨ih_Not_holds, ih_All_holds, ih_Some_holds, _⟩ := ih
      have nm_Not_holds : Mt1 l.prog w K mg base C_Not "holds" (1 + n) ["self", "loss"] (sp_Not_holds K C_Not C_Condition C_CauseIs C_ThingIs C_DaysIn C_Over C_All C_Some n) := ⟨_, _, ⟨a33, i33, k33⟩, b33, ih_Not_holds⟩
      have nm_All_holds : Mt1 l.prog w K mg base C_All "holds" (1 + n) ["self", "loss"] (sp_All_holds K C_All C_Condition C_CauseIs C_ThingIs C_DaysIn C_Over C_Not C_Some n) := ⟨_, _, ⟨a34, i34, k34⟩, b34, ih_All_holds⟩
      have nm_Some_holds : Mt1 l.prog w K mg base C_Some "holds" (1 + n) ["self", "loss"] (sp_Some_holds K C_Some C_Condition C_CauseIs C_ThingIs C_DaysIn C_Over C_Not C_All n) := ⟨_, _, ⟨a35, i35, k35⟩, b35, ih_Some_holds⟩
      exact ⟨ok_Not_holds (P := l.prog) (w := w) (mg := mg) (base := base) (C_Not := C_Not) (C_Condition := C_Condition) (C_CauseIs := C_CauseIs) (C_ThingIs := C_ThingIs) (C_DaysIn := C_DaysIn) (C_Over := C_Over) (C_All := C_All) (C_Some := C_Some) n F33 ⟨⟨pg_Not, hd_Not, po_Not, sa_Not⟩, fun _ => fun m => (List.mem_cons.mp m).elim (fun e => by rw [e]; exact na_Not_part) (fun m => (nomatch m))⟩ ⟨⟨pg_Condition, hd_Condition, po_Condition, sa_Condition⟩, fun _ => fun m => (nomatch m)⟩ ⟨⟨pg_CauseIs, hd_CauseIs, po_CauseIs, sa_CauseIs⟩, fun _ => fun m => (List.mem_cons.mp m).elim (fun e => by rw [e]; exact na_CauseIs_name) (fun m => (nomatch m))⟩ ⟨⟨pg_ThingIs, hd_ThingIs, po_ThingIs, sa_ThingIs⟩, fun _ => fun m => (List.mem_cons.mp m).elim (fun e => by rw [e]; exact na_ThingIs_name) (fun m => (nomatch m))⟩ ⟨⟨pg_DaysIn, hd_DaysIn, po_DaysIn, sa_DaysIn⟩, fun _ => fun m => (List.mem_cons.mp m).elim (fun e => by rw [e]; exact na_DaysIn_first) (fun m => (List.mem_cons.mp m).elim (fun e => by rw [e]; exact na_DaysIn_last) (fun m => (nomatch m)))⟩ ⟨⟨pg_Over, hd_Over, po_Over, sa_Over⟩, fun _ => fun m => (List.mem_cons.mp m).elim (fun e => by rw [e]; exact na_Over_cents) (fun m => (nomatch m))⟩ ⟨⟨pg_All, hd_All, po_All, sa_All⟩, fun _ => fun m => (List.mem_cons.mp m).elim (fun e => by rw [e]; exact na_All_several) (fun m => (nomatch m))⟩ ⟨⟨pg_Some, hd_Some, po_Some, sa_Some⟩, fun _ => fun m => (List.mem_cons.mp m).elim (fun e => by rw [e]; exact na_Some_several) (fun m => (nomatch m))⟩ nm_Condition_holds nm_CauseIs_holds nm_ThingIs_holds nm_DaysIn_holds nm_Over_holds nm_Not_holds nm_All_holds nm_Some_holds, ok_All_holds (P := l.prog) (w := w) (mg := mg) (base := base) (C_All := C_All) (C_Condition := C_Condition) (C_CauseIs := C_CauseIs) (C_ThingIs := C_ThingIs) (C_DaysIn := C_DaysIn) (C_Over := C_Over) (C_Not := C_Not) (C_Some := C_Some) n F34 ⟨⟨pg_All, hd_All, po_All, sa_All⟩, fun _ => fun m => (List.mem_cons.mp m).elim (fun e => by rw [e]; exact na_All_several) (fun m => (nomatch m))⟩ ⟨⟨pg_Condition, hd_Condition, po_Condition, sa_Condition⟩, fun _ => fun m => (nomatch m)⟩ ⟨⟨pg_CauseIs, hd_CauseIs, po_CauseIs, sa_CauseIs⟩, fun _ => fun m => (List.mem_cons.mp m).elim (fun e => by rw [e]; exact na_CauseIs_name) (fun m => (nomatch m))⟩ ⟨⟨pg_ThingIs, hd_ThingIs, po_ThingIs, sa_ThingIs⟩, fun _ => fun m => (List.mem_cons.mp m).elim (fun e => by rw [e]; exact na_ThingIs_name) (fun m => (nomatch m))⟩ ⟨⟨pg_DaysIn, hd_DaysIn, po_DaysIn, sa_DaysIn⟩, fun _ => fun m => (List.mem_cons.mp m).elim (fun e => by rw [e]; exact na_DaysIn_first) (fun m => (List.mem_cons.mp m).elim (fun e => by rw [e]; exact na_DaysIn_last) (fun m => (nomatch m)))⟩ ⟨⟨pg_Over, hd_Over, po_Over, sa_Over⟩, fun _ => fun m => (List.mem_cons.mp m).elim (fun e => by rw [e]; exact na_Over_cents) (fun m => (nomatch m))⟩ ⟨⟨pg_Not, hd_Not, po_Not, sa_Not⟩, fun _ => fun m => (List.mem_cons.mp m).elim (fun e => by rw [e]; exact na_Not_part) (fun m => (nomatch m))⟩ ⟨⟨pg_Some, hd_Some, po_Some, sa_Some⟩, fun _ => fun m => (List.mem_cons.mp m).elim (fun e => by rw [e]; exact na_Some_several) (fun m => (nomatch m))⟩ nm_Condition_holds nm_CauseIs_holds nm_ThingIs_holds nm_DaysIn_holds nm_Over_holds nm_Not_holds nm_All_holds nm_Some_holds, ok_Some_holds (P := l.prog) (w := w) (mg := mg) (base := base) (C_Some := C_Some) (C_Condition := C_Condition) (C_CauseIs := C_CauseIs) (C_ThingIs := C_ThingIs) (C_DaysIn := C_DaysIn) (C_Over := C_Over) (C_Not := C_Not) (C_All := C_All) n F35 ⟨⟨pg_Some, hd_Some, po_Some, sa_Some⟩, fun _ => fun m => (List.mem_cons.mp m).elim (fun e => by rw [e]; exact na_Some_several) (fun m => (nomatch m))⟩ ⟨⟨pg_Condition, hd_Condition, po_Condition, sa_Condition⟩, fun _ => fun m => (nomatch m)⟩ ⟨⟨pg_CauseIs, hd_CauseIs, po_CauseIs, sa_CauseIs⟩, fun _ => fun m => (List.mem_cons.mp m).elim (fun e => by rw [e]; exact na_CauseIs_name) (fun m => (nomatch m))⟩ ⟨⟨pg_ThingIs, hd_ThingIs, po_ThingIs, sa_ThingIs⟩, fun _ => fun m => (List.mem_cons.mp m).elim (fun e => by rw [e]; exact na_ThingIs_name) (fun m => (nomatch m))⟩ ⟨⟨pg_DaysIn, hd_DaysIn, po_DaysIn, sa_DaysIn⟩, fun _ => fun m => (List.mem_cons.mp m).elim (fun e => by rw [e]; exact na_DaysIn_first) (fun m => (List.mem_cons.mp m).elim (fun e => by rw [e]; exact na_DaysIn_last) (fun m => (nomatch m)))⟩ ⟨⟨pg_Over, hd_Over, po_Over, sa_Over⟩, fun _ => fun m => (List.mem_cons.mp m).elim (fun e => by rw [e]; exact na_Over_cents) (fun m => (nomatch m))⟩ ⟨⟨pg_Not, hd_Not, po_Not, sa_Not⟩, fun _ => fun m => (List.mem_cons.mp m).elim (fun e => by rw [e]; exact na_Not_part) (fun m => (nomatch m))⟩ ⟨⟨pg_All, hd_All, po_All, sa_All⟩, fun _ => fun m => (List.mem_cons.mp m).elim (fun e => by rw [e]; exact na_All_several) (fun m => (nomatch m))⟩ nm_Condition_holds nm_CauseIs_holds nm_ThingIs_holds nm_DaysIn_holds nm_Over_holds nm_Not_holds nm_All_holds nm_Some_holds, trivial⟩
  obtain ⟨o_Not_holds, o_All_holds, o_Some_holds, _⟩ := O_holds 64
  have nm_Not_holds : Mt1 l.prog w K mg base C_Not "holds" 65 ["self", "loss"] (sp_Not_holds K C_Not C_Condition C_CauseIs C_ThingIs C_DaysIn C_Over C_All C_Some 64) := ⟨_, _, ⟨a33, i33, k33⟩, b33, o_Not_holds⟩
  have nm_All_holds : Mt1 l.prog w K mg base C_All "holds" 65 ["self", "loss"] (sp_All_holds K C_All C_Condition C_CauseIs C_ThingIs C_DaysIn C_Over C_Not C_Some 64) := ⟨_, _, ⟨a34, i34, k34⟩, b34, o_All_holds⟩
  have nm_Some_holds : Mt1 l.prog w K mg base C_Some "holds" 65 ["self", "loss"] (sp_Some_holds K C_Some C_Condition C_CauseIs C_ThingIs C_DaysIn C_Over C_Not C_All 64) := ⟨_, _, ⟨a35, i35, k35⟩, b35, o_Some_holds⟩
  have n__law_holds : Fn1 l.prog w K mg base "_law_holds" 70 ["_law_text"] (sp__law_holds K) := ⟨_, _, PySem.W.mg_of X G a36, k36, b36, ok__law_holds F36 ⟨⟨pg_Condition, hd_Condition, po_Condition, sa_Condition⟩, fun _ => fun m => (nomatch m)⟩ ⟨⟨pg_CauseIs, hd_CauseIs, po_CauseIs, sa_CauseIs⟩, fun _ => fun m => (List.mem_cons.mp m).elim (fun e => by rw [e]; exact na_CauseIs_name) (fun m => (nomatch m))⟩ ⟨⟨pg_ThingIs, hd_ThingIs, po_ThingIs, sa_ThingIs⟩, fun _ => fun m => (List.mem_cons.mp m).elim (fun e => by rw [e]; exact na_ThingIs_name) (fun m => (nomatch m))⟩ ⟨⟨pg_DaysIn, hd_DaysIn, po_DaysIn, sa_DaysIn⟩, fun _ => fun m => (List.mem_cons.mp m).elim (fun e => by rw [e]; exact na_DaysIn_first) (fun m => (List.mem_cons.mp m).elim (fun e => by rw [e]; exact na_DaysIn_last) (fun m => (nomatch m)))⟩ ⟨⟨pg_Over, hd_Over, po_Over, sa_Over⟩, fun _ => fun m => (List.mem_cons.mp m).elim (fun e => by rw [e]; exact na_Over_cents) (fun m => (nomatch m))⟩ ⟨⟨pg_Not, hd_Not, po_Not, sa_Not⟩, fun _ => fun m => (List.mem_cons.mp m).elim (fun e => by rw [e]; exact na_Not_part) (fun m => (nomatch m))⟩ ⟨⟨pg_All, hd_All, po_All, sa_All⟩, fun _ => fun m => (List.mem_cons.mp m).elim (fun e => by rw [e]; exact na_All_several) (fun m => (nomatch m))⟩ ⟨⟨pg_Some, hd_Some, po_Some, sa_Some⟩, fun _ => fun m => (List.mem_cons.mp m).elim (fun e => by rw [e]; exact na_Some_several) (fun m => (nomatch m))⟩ n_read_condition nm_Condition_holds nm_CauseIs_holds nm_ThingIs_holds nm_DaysIn_holds nm_Over_holds nm_Not_holds nm_All_holds nm_Some_holds⟩
  have n__law_truth : Fn1 l.prog w K mg base "_law_truth" 1 ["_law_found", "_law_due"] (sp__law_truth K) := ⟨_, _, PySem.W.mg_of X G a37, k37, b37, ok__law_truth F37 z_isinstance z_bool⟩
  have n__law_nested : Fn1 l.prog w K mg base "_law_nested" 72 ["_law_script", "_law_k"] (sp__law_nested K) := ⟨_, _, PySem.W.mg_of X G a38, k38, b38, ok__law_nested F38 z_len n__law_cell n__law_mix n__law_opened n__law_atom n__law_refused_at n__law_refused n__law_holds n__law_truth⟩
  have n__law_row : Fn1 l.prog w K mg base "_law_row" 72 ["_law_script", "_law_k"] (sp__law_row K) := ⟨_, _, PySem.W.mg_of X G a39, k39, b39, ok__law_row F39 z_list z_len z_range z_int n__law_cell n__law_mix n__law_opened n__law_atom n__law_refused_at n__law_holds n__law_truth⟩
  have n__law_long : Fn1 l.prog w K mg base "_law_long" 72 ["_law_script", "_law_k"] (sp__law_long K) := ⟨_, _, PySem.W.mg_of X G a40, k40, b40, ok__law_long F40 z_range z_int z_len n__law_cell n__law_mix n__law_refused_at n__law_holds n__law_truth⟩
  exact ok_law F41 z_range n__law_nested n__law_row n__law_long
theorem walk {l : PySem.W.OpenLaw} {q : Program} {loose : List Str} {XP : (Str → Option Value) → Heap → Prop} {YP : World → Heap → Prop} {d : DefRec} {K : Params → PySem.W.Frag} (hn : l.most = some 63) (hdf : d.params.defaults = [])
    (hY : ∀ (w : World) (h : Heap), YP w h → (K w.params).In h)
    (F : ∀ (w : World) (mg : Str → Option Value) (fa : Addr) (h : Heap), (K w.params).In h → h.Ns mainGlobals mg → mg d.name = some (.ref fa) →
      ∃ fd : FuncData, (∀ (s : Shared) (u : Value), BindsTo s fd ⟨[u], []⟩ [("_law_script", u)]) ∧ ∀ base : Heap, (K w.params).In base → base.Ns mainGlobals mg → FnOk l.prog w (K w.params) mg base CX0 73 fa fd ["_law_script"] (spLaw (K w.params))) :
    PySem.W.WalkO q loose XP YP l.row.toRowW d [] (fun f vs => PySem.call f vs) :=
  L2.walk_of (n := 63) (k := 73) (x := "_law_script") (CX := fun _ => CX0) (sp := fun w => spLaw (K w.params)) hn (by decide) hdf ⟨rfl, by decide, by decide⟩ hY F (fun _ H a ns hl _ hS => spLaw_of hS hl) fun _ _ _ _ _ z => z
end K28

open PySem PySem.W PyProof.Rows in
set_option maxRecDepth 100000 in
set_option maxHeartbeats 0 in
theorem PySem.Challenge.cw_coverroll_k28_bounds_of_words_holds : PySem.Challenge.rw_coverroll_k28_bounds_of_words.Holds := by
  w_on; o_law; k_head; (case hw => w_witness2)
  k_fill
  refine K28.walk (l := PySem.Challenge.rw_coverroll_k28_bounds_of_words) rfl rfl (fun w h Y => PySem.W.kIn_of Y) ?F
  case F =>
    intro w mg fa h KX G hmg
    refine' K28.all_mk KX G hmg ?a_Some ?pg_Some ?hd_Some ?po_Some ?sa_Some ?mk_Some ?kc_Some ?na_Some_several ?a_All ?pg_All ?hd_All ?po_All ?sa_All ?mk_All ?kc_All ?na_All_several ?a_CauseIs ?pg_CauseIs ?hd_CauseIs ?po_CauseIs ?sa_CauseIs ?mk_CauseIs ?kc_CauseIs ?na_CauseIs_name ?a_ThingIs ?pg_ThingIs ?hd_ThingIs ?po_ThingIs ?sa_ThingIs ?mk_ThingIs ?kc_ThingIs ?na_ThingIs_name ?a_Over ?pg_Over ?hd_Over ?po_Over ?sa_Over ?mk_Over ?kc_Over ?na_Over_cents ?a_DaysIn ?pg_DaysIn ?hd_DaysIn ?po_DaysIn ?sa_DaysIn ?mk_DaysIn ?kc_DaysIn ?na_DaysIn_first ?na_DaysIn_last ?a_Condition ?pg_Condition ?hd_Condition ?po_Condition ?sa_Condition ?mk_Condition ?kc_Condition ?a_Not ?pg_Not ?hd_Not ?po_Not ?sa_Not ?mk_Not ?kc_Not ?na_Not_part ?a_CoverError ?a_NoWords ?a_TooDeep ?a_NoText ?a_NoAmount ?xq_TooDeep ?xk_TooDeep ?xb_TooDeep ?xt_TooDeep ?xg_NoWords ?xh_NoWords ?xb_NoWords ?xd_NoWords ?xa_NoWords ?xm_NoWords ?xg_TooDeep ?xh_TooDeep ?xd_TooDeep ?xa_TooDeep ?xm_TooDeep ?xn0 ?xt0 ?xb_CoverError ?xd_CoverError ?xt_CoverError ?xs_NoWords_CoverError ?xs_TooDeep_CoverError ?ob_Condition ?a0 ?l0 ?c0 ?k0 ?a1 ?l1 ?c1 ?k1 ?a2 ?l2 ?c2 ?k2 ?a3 ?l3 ?c3 ?k3 ?a4 ?l4 ?c4 ?k4 ?i4 ?tf4 ?a5 ?l5 ?c5 ?k5 ?i5 ?a6 ?l6 ?c6 ?k6 ?i6 ?a7 ?l7 ?c7 ?k7 ?a8 ?l8 ?c8 ?k8 ?a9 ?l9 ?c9 ?k9 ?i9 ?a10 ?l10 ?c10 ?k10 ?i10 ?a11 ?l11 ?c11 ?k11 ?a12 ?l12 ?c12 ?k12 ?a13 ?l13 ?c13 ?k13 ?a14 ?l14 ?c14 ?k14 ?i14 ?a15 ?l15 ?c15 ?k15 ?a16 ?l16 ?c16 ?k16 ?a17 ?l17 ?c17 ?k17 ?a18 ?l18 ?c18 ?k18 ?i18 ?a19 ?l19 ?c19 ?k19 ?a20 ?l20 ?c20 ?k20 ?i20 ?a21 ?l21 ?c21 ?k21 ?a22 ?l22 ?c22 ?k22 ?a23 ?l23 ?c23 ?k23 ?a24 ?l24 ?c24 ?k24 ?a25 ?l25 ?c25 ?k25 ?a26 ?l26 ?c26 ?k26 ?a27 ?l27 ?c27 ?k27 ?a28 ?l28 ?c28 ?k28 ?i28 ?a29 ?l29 ?c29 ?k29 ?i29 ?a30 ?l30 ?c30 ?k30 ?i30 ?a31 ?l31 ?c31 ?k31 ?i31 ?a32 ?l32 ?c32 ?k32 ?i32 ?a33 ?l33 ?c33 ?k33 ?i33 ?a34 ?l34 ?c34 ?k34 ?i34 ?a35 ?l35 ?c35 ?k35 ?i35 ?a36 ?l36 ?c36 ?k36 ?a37 ?l37 ?c37 ?k37 ?a38 ?l38 ?c38 ?k38 ?a39 ?l39 ?c39 ?k39 ?a40 ?l40 ?c40 ?k40 ?a41 ?l41 ?c41 ?k41 ?q_rd_CoverError ?q_ga_CoverError ?q_vi_CoverError ?q_xo_NoWords ?q_hd_NoWords ?q_sa_NoWords ?q_xb_NoWords ?q_xt_NoWords ?q_xk_NoWords ?q_nf_NoWords ?mr_NoWords_ValueError ?mr_TooDeep_ValueError ?mr_NoWords_NoWords ?mr_TooDeep_NoWords ?ms_TooDeep ?mr_NoWords_TooDeep ?ms_NoWords ?mr_TooDeep_TooDeep ?mr_NoWords_NoText ?mr_TooDeep_NoText ?mr_NoWords_NoAmount ?mr_TooDeep_NoAmount ?ic_NoAmount ?ti_NoAmount ?ic_NoText ?ti_NoText ?ic_NoWords ?ti_NoWords ?ic_TooDeep ?ti_TooDeep ?z_len ?z_range ?z_list ?z_isinstance ?z_str ?z_int ?z_bool ?z_ValueError ?g_LETTERS ?g_FIGURES_cents ?g_LAST_DAY ?g_FIGURES_wording ?g_MOST_PARTS ?g_MOST_OPEN ?g_MOST_WORDS
    (case a_Some => k_is)
    (case pg_Some => k_is)
    (case hd_Some => k_is)
    (case po_Some => k_is)
    (case sa_Some => k_is)
    (case mk_Some => k_is)
    (case kc_Some => k_is)
    (case na_Some_several => k_is)
    (case a_All => k_is)
    (case pg_All => k_is)
    (case hd_All => k_is)
    (case po_All => k_is)
    (case sa_All => k_is)
    (case mk_All => k_is)
    (case kc_All => k_is)
    (case na_All_several => k_is)
    (case a_CauseIs => k_is)
    (case pg_CauseIs => k_is)
    (case hd_CauseIs => k_is)
    (case po_CauseIs => k_is)
    (case sa_CauseIs => k_is)
    (case mk_CauseIs => k_is)
    (case kc_CauseIs => k_is)
    (case na_CauseIs_name => k_is)
    (case a_ThingIs => k_is)
    (case pg_ThingIs => k_is)
    (case hd_ThingIs => k_is)
    (case po_ThingIs => k_is)
    (case sa_ThingIs => k_is)
    (case mk_ThingIs => k_is)
    (case kc_ThingIs => k_is)
    (case na_ThingIs_name => k_is)
    (case a_Over => k_is)
    (case pg_Over => k_is)
    (case hd_Over => k_is)
    (case po_Over => k_is)
    (case sa_Over => k_is)
    (case mk_Over => k_is)
    (case kc_Over => k_is)
    (case na_Over_cents => k_is)
    (case a_DaysIn => k_is)
    (case pg_DaysIn => k_is)
    (case hd_DaysIn => k_is)
    (case po_DaysIn => k_is)
    (case sa_DaysIn => k_is)
    (case mk_DaysIn => k_is)
    (case kc_DaysIn => k_is)
    (case na_DaysIn_first => k_is)
    (case na_DaysIn_last => k_is)
    (case a_Condition => k_is)
    (case pg_Condition => k_is)
    (case hd_Condition => k_is)
    (case po_Condition => k_is)
    (case sa_Condition => k_is)
    (case mk_Condition => k_is)
    (case kc_Condition => k_is)
    (case a_Not => k_is)
    (case pg_Not => k_is)
    (case hd_Not => k_is)
    (case po_Not => k_is)
    (case sa_Not => k_is)
    (case mk_Not => k_is)
    (case kc_Not => k_is)
    (case na_Not_part => k_is)
    (case a_CoverError => k_is)
    (case a_NoWords => k_is)
    (case a_TooDeep => k_is)
    (case a_NoText => k_is)
    (case a_NoAmount => k_is)
    (case xq_TooDeep => k_exc)
    (case xk_TooDeep => k_is)
    (case xb_TooDeep => k_is)
    (case xt_TooDeep => k_is)
    (case xg_NoWords => k_is)
    (case xh_NoWords => k_is)
    (case xb_NoWords => k_is)
    (case xd_NoWords => k_is)
    (case xa_NoWords => k_is)
    (case xm_NoWords => k_is)
    (case xg_TooDeep => k_is)
    (case xh_TooDeep => k_is)
    (case xd_TooDeep => k_is)
    (case xa_TooDeep => k_is)
    (case xm_TooDeep => k_is)
    (case xn0 => k_is)
    (case xt0 => k_is)
    (case xb_CoverError => k_is)
    (case xd_CoverError => k_is)
    (case xt_CoverError => k_is)
    (case xs_NoWords_CoverError => k_is)
    (case xs_TooDeep_CoverError => k_is)
    (case ob_Condition => k_is)
    (case a0 => k_is)
    (case l0 => k_is)
    (case c0 => k_is)
    (case k0 => k_is)
    (case a1 => k_is)
    (case l1 => k_is)
    (case c1 => k_is)
    (case k1 => k_is)
    (case a2 => k_is)
    (case l2 => k_is)
    (case c2 => k_is)
    (case k2 => k_is)
    (case a3 => k_is)
    (case l3 => k_is)
    (case c3 => k_is)
    (case k3 => k_is)
    (case a4 => k_is)
    (case l4 => k_is)
    (case c4 => k_is)
    (case k4 => k_is)
    (case i4 => k_is)
    (case tf4 => k_is)
    (case a5 => k_is)
    (case l5 => k_is)
    (case c5 => k_is)
    (case k5 => k_is)
    (case i5 => k_is)
    (case a6 => k_is)
    (case l6 => k_is)
    (case c6 => k_is)
    (case k6 => k_is)
    (case i6 => k_is)
    (case a7 => k_is)
    (case l7 => k_is)
    (case c7 => k_is)
    (case k7 => k_is)
    (case a8 => k_is)
    (case l8 => k_is)
    (case c8 => k_is)
    (case k8 => k_is)
    (case a9 => k_is)
    (case l9 => k_is)
    (case c9 => k_is)
    (case k9 => k_is)
    (case i9 => k_is)
    (case a10 => k_is)
    (case l10 => k_is)
    (case c10 => k_is)
    (case k10 => k_is)
    (case i10 => k_is)
    (case a11 => k_is)
    (case l11 => k_is)
    (case c11 => k_is)
    (case k11 => k_is)
    (case a12 => k_is)
    (case l12 => k_is)
    (case c12 => k_is)
    (case k12 => k_is)
    (case a13 => k_is)
    (case l13 => k_is)
    (case c13 => k_is)
    (case k13 => k_is)
    (case a14 => k_is)
    (case l14 => k_is)
    (case c14 => k_is)
    (case k14 => k_is)
    (case i14 => k_is)
    (case a15 => k_is)
    (case l15 => k_is)
    (case c15 => k_is)
    (case k15 => k_is)
    (case a16 => k_is)
    (case l16 => k_is)
    (case c16 => k_is)
    (case k16 => k_is)
    (case a17 => k_is)
    (case l17 => k_is)
    (case c17 => k_is)
    (case k17 => k_is)
    (case a18 => k_is)
    (case l18 => k_is)
    (case c18 => k_is)
    (case k18 => k_is)
    (case i18 => k_is)
    (case a19 => k_is)
    (case l19 => k_is)
    (case c19 => k_is)
    (case k19 => k_is)
    (case a20 => k_is)
    (case l20 => k_is)
    (case c20 => k_is)
    (case k20 => k_is)
    (case i20 => k_is)
    (case a21 => k_is)
    (case l21 => k_is)
    (case c21 => k_is)
    (case k21 => k_is)
    (case a22 => k_is)
    (case l22 => k_is)
    (case c22 => k_is)
    (case k22 => k_is)
    (case a23 => k_is)
    (case l23 => k_is)
    (case c23 => k_is)
    (case k23 => k_is)
    (case a24 => k_is)
    (case l24 => k_is)
    (case c24 => k_is)
    (case k24 => k_is)
    (case a25 => k_is)
    (case l25 => k_is)
    (case c25 => k_is)
    (case k25 => k_is)
    (case a26 => k_is)
    (case l26 => k_is)
    (case c26 => k_is)
    (case k26 => k_is)
    (case a27 => k_is)
    (case l27 => k_is)
    (case c27 => k_is)
    (case k27 => k_is)
    (case a28 => k_is)
    (case l28 => k_is)
    (case c28 => k_is)
    (case k28 => k_is)
    (case i28 => k_is)
    (case a29 => k_is)
    (case l29 => k_is)
    (case c29 => k_is)
    (case k29 => k_is)
    (case i29 => k_is)
    (case a30 => k_is)
    (case l30 => k_is)
    (case c30 => k_is)
    (case k30 => k_is)
    (case i30 => k_is)
    (case a31 => k_is)
    (case l31 => k_is)
    (case c31 => k_is)
    (case k31 => k_is)
    (case i31 => k_is)
    (case a32 => k_is)
    (case l32 => k_is)
    (case c32 => k_is)
    (case k32 => k_is)
    (case i32 => k_is)
    (case a33 => k_is)
    (case l33 => k_is)
    (case c33 => k_is)
    (case k33 => k_is)
    (case i33 => k_is)
    (case a34 => k_is)
    (case l34 => k_is)
    (case c34 => k_is)
    (case k34 => k_is)
    (case i34 => k_is)
    (case a35 => k_is)
    (case l35 => k_is)
    (case c35 => k_is)
    (case k35 => k_is)
    (case i35 => k_is)
    (case a36 => k_is)
    (case l36 => k_is)
    (case c36 => k_is)
    (case k36 => k_is)
    (case a37 => k_is)
    (case l37 => k_is)
    (case c37 => k_is)
    (case k37 => k_is)
    (case a38 => k_is)
    (case l38 => k_is)
    (case c38 => k_is)
    (case k38 => k_is)
    (case a39 => k_is)
    (case l39 => k_is)
    (case c39 => k_is)
    (case k39 => k_is)
    (case a40 => k_is)
    (case l40 => k_is)
    (case c40 => k_is)
    (case k40 => k_is)
    (case a41 => k_is)
    (case l41 => k_is)
    (case c41 => k_is)
    (case k41 => k_is)
    (case q_rd_CoverError => k_is)
    (case q_ga_CoverError => k_is)
    (case q_vi_CoverError => k_is)
    (case q_xo_NoWords => kx_is)
    (case q_hd_NoWords => k_is)
    (case q_sa_NoWords => k_is)
    (case q_xb_NoWords => k_is)
    (case q_xt_NoWords => k_is)
    (case q_xk_NoWords => k_is)
    (case q_nf_NoWords => k_is)
    (case mr_NoWords_ValueError => k_is)
    (case mr_TooDeep_ValueError => k_is)
    (case mr_NoWords_NoWords => k_is)
    (case mr_TooDeep_NoWords => k_is)
    (case ms_TooDeep => k_is)
    (case mr_NoWords_TooDeep => k_is)
    (case ms_NoWords => k_is)
    (case mr_TooDeep_TooDeep => k_is)
    (case mr_NoWords_NoText => k_is)
    (case mr_TooDeep_NoText => k_is)
    (case mr_NoWords_NoAmount => k_is)
    (case mr_TooDeep_NoAmount => k_is)
    (case ic_NoAmount => k_is)
    (case ti_NoAmount => k_is)
    (case ic_NoText => k_is)
    (case ti_NoText => k_is)
    (case ic_NoWords => k_is)
    (case ti_NoWords => k_is)
    (case ic_TooDeep => k_is)
    (case ti_TooDeep => k_is)
    (case z_len => k_is)
    (case z_range => k_is)
    (case z_list => k_is)
    (case z_isinstance => k_is)
    (case z_str => k_is)
    (case z_int => k_is)
    (case z_bool => k_is)
    (case z_ValueError => k_is)
    (case g_LETTERS => k_is)
    (case g_FIGURES_cents => k_is)
    (case g_LAST_DAY => k_is)
    (case g_FIGURES_wording => k_is)
    (case g_MOST_PARTS => k_is)
    (case g_MOST_OPEN => k_is)
    (case g_MOST_WORDS => k_is)
