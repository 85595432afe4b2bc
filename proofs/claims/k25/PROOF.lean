import PyProof.Rows.All
import Wide.All
import OpenK.AllK
import Wide.FinOn
import HandS.ForMost
import HandS.IsInst
import HandS.ExcInit
import HandS.Exc
import HandS.Style
import HandS.Wide
import HandS.StrMore
import HandS.SetFor
import PyProof.LongRange
import HandS.Codes
import KE.SortData
import HandS.ClsMeth
import PyProof.Rows.StrRev
import PyProof.StrOps2
import HandS.Defaults
import HandS.More
import HandS.ExcOwn
import HandS.WordsExc
import HandS.TryOnly
import HandS.ExcIs
import HandS.Deep
import HandS.Text
import PyProof.EqKinds
import PyProof.P3In
import HandS.Dict
import PyProof.DictMoreH
import HandS.SetKeys
import KE.KDictWalk
import HandS.Iter
import HandS.Strs
import PyProof.Rows.SetFrom
import HandS.Head0
import HandS.Head1
import HandS.Head2
import HandS.HeadEnd
import HandS.HeadHook1
import HandS.HeadHook2
import HandS.List
import HandS.ExcValue
import HandS.ExcField
import KE.KExcIs
import KE.KExcLine
import PyProof.SeqRoads2
import HandS.ExcCtx
import HandS.HotCalls
import HandS.SuiteRaise
import HandS.RaiseFrom
import HandS.ExcInitHot
import PySem.Challenge.RW_coverroll_k25_words_that_cannot_stand
set_option Elab.async false
set_option linter.all false
set_option maxRecDepth 100000
set_option maxHeartbeats 4000000
namespace M
open PySem L2

/-- data that no one changes any more -/
inductive D where
  | non | bl (b : Bool) | int (i : Int) | str (x : Str) | ty (n : String) | opq (a : Addr) | exc (C : Addr) (f : Option (Str × Int)) | hx (a : Addr) (d : Option Addr) (f : Option (Str × Int))
  | tup (ds : List D) | lst (ds : List D) | ins (C : Addr) (ns : List Str) (ds : List D)
  | dct (ks : List Key) (ds : List D) | dctT (ks : List (List Key)) (ds : List D)
/-- an error: its class, its attribute -/
structure Er where
  C : Addr
  fld : Option (Str × D) := none
/-- things of the def's own, that may be changed; rs: nothing comes back, an error is raised; vw: a list that stays as it is while the def runs -/
inductive O where
  | fz (d : D) | vw (ds : List D) | lst (os : List O) | tup (os : List O) | ins (C : Addr) (ns : List Str) (os : List O)
  | dct (ks : List Key) (os : List O) | dctT (ks : List (List Key)) (os : List O)
  | at (a : Addr) (C : Addr) (ns : List Str) (os : List O)
  | vwa (a : Addr) (ds : List D)
  | loc (a : Addr) (o : O)
  | pt (a : Addr)
  | rs (e : Er)
  | lk (o : O)

def Ex (H H' : Hp) : Prop := ∀ a o, H a = some o → H' a = some o
theorem Ex.refl (H : Hp) : Ex H H := fun _ _ h => h
theorem Ex.trans {H H1 H2 : Hp} (a : Ex H H1) (b : Ex H1 H2) : Ex H H2 := fun x o h => b x o (a x o h)
theorem Ex.new {H : Hp} {p : Addr} {o : HO} (h : H p = none) : Ex H (upd H p o) := fun a u e => by
  rw [upd_ne (ne_of_none e h)]
  exact e
theorem Ex.free {H H' : Hp} {p : Addr} (e : Ex H H') (h : H' p = none) : H p = none := by
  cases h1 : H p with
  | none => rfl
  | some o =>
    rw [e p o h1] at h
    cases h
theorem Ex.mut {H H' : Hp} {p : Addr} {o : HO} (e : Ex H H') (h : H p = none) : Ex H (upd H' p o) := fun a u ha => by
  rw [upd_ne (ne_of_none ha h)]
  exact e a u ha
theorem ex_rd {H H' : Hp} {a : Addr} {u : HO} (e : Ex H H') (h : Rd H a u) : Rd H' a u := by
  rcases h with h | ⟨o, h⟩
  · exact .inl (e a _ h)
  · exact .inr ⟨o, e a _ h⟩
theorem ex_l {K : PySem.W.Frag} {H H' : Hp} {a : Addr} {xs : List V} (e : Ex H H') (h : SqL K H a xs) : SqL K H' a xs := by
  rcases h with h | h
  · exact .inl (ex_rd e h)
  · exact .inr h
theorem ex_t {K : PySem.W.Frag} {H H' : Hp} {a : Addr} {xs : List V} (e : Ex H H') (h : SqT K H a xs) : SqT K H' a xs := by
  rcases h with h | h
  · exact .inl (ex_rd e h)
  · exact .inr h

/-- the field that an error of its own class may have -/
def ExF (Z : Hp) (d : Option Addr) : Option (Str × Int) → Prop
  | none => d = none
  | some p => ∃ dd, d = some dd ∧ Z dd = some (exd dd [(p.1, .int p.2)])
theorem ExF.mono {Z Z' : Hp} {d : Option Addr} (e : Ex Z Z') : ∀ {f : Option (Str × Int)}, ExF Z d f → ExF Z' d f
  | none, h => h
  | some _, ⟨dd, h, q⟩ => ⟨dd, h, e _ _ q⟩
/-- the field of the error that a suite holds -/
def ExH (Z : Hp) (d : Option Addr) : Option (Str × Int) → Prop
  | none => d = none
  | some p => ∃ dd, d = some dd ∧ Z dd = some (.xd [(p.1, .int p.2)])
theorem ExH.mono {Z Z' : Hp} {d : Option Addr} (e : Ex Z Z') : ∀ {f : Option (Str × Int)}, ExH Z d f → ExH Z' d f
  | none, h => h
  | some _, ⟨dd, h, q⟩ => ⟨dd, h, e _ _ q⟩
mutual
inductive Rep (K : PySem.W.Frag) (Z : Hp) : V → D → Prop where
  | non : Rep K Z .non .non
  | bl (b : Bool) : Rep K Z (.bl b) (.bl b)
  | int (i : Int) : Rep K Z (.int i) (.int i)
  | str (x : Str) : Rep K Z (.str x) (.str x)
  | ty (n : String) : Rep K Z (.ty n) (.ty n)
  | opq (a : Addr) : Rep K Z (.ref a) (.opq a)
  | exc {a C : Addr} {d : Option Addr} {f : Option (Str × Int)} : Z a = some (exo a C d) → ExF Z d f → Rep K Z (.ref a) (.exc C f)
  | hx {a : Addr} {d : Option Addr} {f : Option (Str × Int)} : ExH Z d f → Rep K Z (.ref a) (.hx a d f)
  | tup {a : Addr} {vs : List V} {ds : List D} : Z a = some (.tup vs) → RepL K Z vs ds → Rep K Z (.ref a) (.tup ds)
  | lst {a : Addr} {vs : List V} {ds : List D} : SqL K Z a vs → RepL K Z vs ds → Rep K Z (.ref a) (.lst ds)
  | ins {a C dx : Addr} {ns : List Str} {vs : List V} {ds : List D} : Z a = some (.ins C dx (ns.zip vs)) → RepL K Z vs ds → Rep K Z (.ref a) (.ins C ns ds)
  | dct {a : Addr} {ks : List Key} {vs : List V} {ds : List D} : Z a = some (.dK (ks.zip vs)) → RepL K Z vs ds → Rep K Z (.ref a) (.dct ks ds)
  | dctT {a : Addr} {ks : List (List Key)} {vs : List V} {ds : List D} : Z a = some (.dT (ks.zip vs)) → RepL K Z vs ds → Rep K Z (.ref a) (.dctT ks ds)
inductive RepL (K : PySem.W.Frag) (Z : Hp) : List V → List D → Prop where
  | nil : RepL K Z [] []
  | cons {v : V} {vs : List V} {d : D} {ds : List D} : Rep K Z v d → RepL K Z vs ds → RepL K Z (v :: vs) (d :: ds)
end
mutual
/-- a thing that is looked at: its cells lie in F -/
inductive RepK (K : PySem.W.Frag) (Z F : Hp) : V → O → Prop where
  | fz {v : V} {d : D} : Rep K Z v d → RepK K Z F v (.fz d)
  | vw {a : Addr} {vs : List V} {ds : List D} : SqL K F a vs → RepL K Z vs ds → RepK K Z F (.ref a) (.vw ds)
  | vwa {a : Addr} {vs : List V} {ds : List D} : SqL K F a vs → RepL K Z vs ds → RepK K Z F (.ref a) (.vwa a ds)
  | lst {a : Addr} {vs : List V} {os : List O} : F a = some (.lst vs) → RepKL K Z F vs os → RepK K Z F (.ref a) (.lst os)
  | tup {a : Addr} {vs : List V} {os : List O} : F a = some (.tup vs) → RepKL K Z F vs os → RepK K Z F (.ref a) (.tup os)
  | ins {a C dx : Addr} {ns : List Str} {vs : List V} {os : List O} : F a = some (.ins C dx (ns.zip vs)) → RepKL K Z F vs os → RepK K Z F (.ref a) (.ins C ns os)
  | at {a C dx : Addr} {ns : List Str} {vs : List V} {os : List O} : F a = some (.ins C dx (ns.zip vs)) → RepKL K Z F vs os → RepK K Z F (.ref a) (.at a C ns os)
  | dct {a : Addr} {ks : List Key} {vs : List V} {os : List O} : F a = some (.dK (ks.zip vs)) → RepKL K Z F vs os → RepK K Z F (.ref a) (.dct ks os)
  | dctT {a : Addr} {ks : List (List Key)} {vs : List V} {os : List O} : F a = some (.dT (ks.zip vs)) → RepKL K Z F vs os → RepK K Z F (.ref a) (.dctT ks os)
  | loc {a : Addr} {o : O} : RepK K Z F (.ref a) o → RepK K Z F (.ref a) (.loc a o)
  | pt {a : Addr} : RepK K Z F (.ref a) (.pt a)
  | lk {v : V} {o : O} : RepK K Z F v o → RepK K Z F v (.lk o)
inductive RepKL (K : PySem.W.Frag) (Z F : Hp) : List V → List O → Prop where
  | nil : RepKL K Z F [] []
  | cons {v : V} {vs : List V} {o : O} {os : List O} : RepK K Z F v o → RepKL K Z F vs os → RepKL K Z F (v :: vs) (o :: os)
end
mutual
inductive RepO (K : PySem.W.Frag) (Z F H : Hp) : V → O → List Addr → Prop where
  | fz {v : V} {d : D} : Rep K Z v d → RepO K Z F H v (.fz d) []
  | vw {a : Addr} {vs : List V} {ds : List D} : SqL K F a vs → RepL K Z vs ds → RepO K Z F H (.ref a) (.vw ds) []
  | vwa {a : Addr} {vs : List V} {ds : List D} : SqL K F a vs → RepL K Z vs ds → RepO K Z F H (.ref a) (.vwa a ds) []
  | lst {a : Addr} {vs : List V} {os : List O} {A : List Addr} : H a = some (.lst vs) → RepOL K Z F H vs os A → RepO K Z F H (.ref a) (.lst os) (a :: A)
  | tup {a : Addr} {vs : List V} {os : List O} {A : List Addr} : H a = some (.tup vs) → RepOL K Z F H vs os A → RepO K Z F H (.ref a) (.tup os) (a :: A)
  | ins {a C dx : Addr} {ns : List Str} {vs : List V} {os : List O} {A : List Addr} : H a = some (.ins C dx (ns.zip vs)) → RepOL K Z F H vs os A → RepO K Z F H (.ref a) (.ins C ns os) (a :: A)
  | at {a C dx : Addr} {ns : List Str} {vs : List V} {os : List O} {A : List Addr} : H a = some (.ins C dx (ns.zip vs)) → RepOL K Z F H vs os A → RepO K Z F H (.ref a) (.at a C ns os) (a :: A)
  | dct {a : Addr} {ks : List Key} {vs : List V} {os : List O} {A : List Addr} : H a = some (.dK (ks.zip vs)) → RepOL K Z F H vs os A → RepO K Z F H (.ref a) (.dct ks os) (a :: A)
  | dctT {a : Addr} {ks : List (List Key)} {vs : List V} {os : List O} {A : List Addr} : H a = some (.dT (ks.zip vs)) → RepOL K Z F H vs os A → RepO K Z F H (.ref a) (.dctT ks os) (a :: A)
  | loc {a : Addr} {o : O} {A : List Addr} : RepO K Z F H (.ref a) o A → RepO K Z F H (.ref a) (.loc a o) A
  | pt {a : Addr} : RepO K Z F H (.ref a) (.pt a) []
  | lk {v : V} {o : O} : RepK K Z F v o → RepO K Z F H v (.lk o) []
inductive RepOL (K : PySem.W.Frag) (Z F H : Hp) : List V → List O → List Addr → Prop where
  | nil : RepOL K Z F H [] [] []
  | cons {v : V} {vs : List V} {o : O} {os : List O} {A B : List Addr} : RepO K Z F H v o A → RepOL K Z F H vs os B → RepOL K Z F H (v :: vs) (o :: os) (A ++ B)
end

section
variable {K : PySem.W.Frag} {Z Z' F F' H H' : Hp}
mutual
theorem Rep.mono (e : Ex Z Z') : ∀ {v : V} {d : D}, Rep K Z v d → Rep K Z' v d
  | _, _, .non => .non
  | _, _, .bl b => .bl b
  | _, _, .int i => .int i
  | _, _, .str x => .str x
  | _, _, .ty n => .ty n
  | _, _, .opq a => .opq a
  | _, _, .exc h q => .exc (e _ _ h) (q.mono e)
  | _, _, .hx q => .hx (q.mono e)
  | _, _, .tup h r => .tup (e _ _ h) (RepL.mono e r)
  | _, _, .lst h r => .lst (ex_l e h) (RepL.mono e r)
  | _, _, .ins h r => .ins (e _ _ h) (RepL.mono e r)
  | _, _, .dct h r => .dct (e _ _ h) (RepL.mono e r)
  | _, _, .dctT h r => .dctT (e _ _ h) (RepL.mono e r)
theorem RepL.mono (e : Ex Z Z') : ∀ {vs : List V} {ds : List D}, RepL K Z vs ds → RepL K Z' vs ds
  | _, _, .nil => .nil
  | _, _, .cons h r => .cons (Rep.mono e h) (RepL.mono e r)
end
mutual
theorem RepK.mono (e : Ex Z Z') (f : Ex F F') : ∀ {v : V} {o : O}, RepK K Z F v o → RepK K Z' F' v o
  | _, _, .fz h => .fz (h.mono e)
  | _, _, .vw h r => .vw (ex_l f h) (r.mono e)
  | _, _, .vwa h r => .vwa (ex_l f h) (r.mono e)
  | _, _, .lst h r => .lst (f _ _ h) (RepKL.mono e f r)
  | _, _, .tup h r => .tup (f _ _ h) (RepKL.mono e f r)
  | _, _, .ins h r => .ins (f _ _ h) (RepKL.mono e f r)
  | _, _, .at h r => .at (f _ _ h) (RepKL.mono e f r)
  | _, _, .dct h r => .dct (f _ _ h) (RepKL.mono e f r)
  | _, _, .dctT h r => .dctT (f _ _ h) (RepKL.mono e f r)
  | _, .loc _ o, .loc h => .loc (RepK.mono (o := o) e f h)
  | _, _, .pt => .pt
  | _, .lk o, .lk h => .lk (RepK.mono (o := o) e f h)
theorem RepKL.mono (e : Ex Z Z') (f : Ex F F') : ∀ {vs : List V} {os : List O}, RepKL K Z F vs os → RepKL K Z' F' vs os
  | _, _, .nil => .nil
  | _, _, .cons h r => .cons (RepK.mono e f h) (RepKL.mono e f r)
end
mutual
theorem RepO.mono (e : Ex Z Z') (f : Ex F F') : ∀ {v : V} {o : O} {A : List Addr}, RepO K Z F H v o A → (∀ a ∈ A, ∀ u, H a = some u → H' a = some u) → RepO K Z' F' H' v o A
  | _, _, _, .fz h, _ => .fz (h.mono e)
  | _, _, _, .vw h r, _ => .vw (ex_l f h) (r.mono e)
  | _, _, _, .vwa h r, _ => .vwa (ex_l f h) (r.mono e)
  | _, _, _, .lk h, _ => .lk (h.mono e f)
  | _, _, _, .lst h r, k => .lst (k _ List.mem_cons_self _ h) (RepOL.mono e f r fun a m => k a (List.mem_cons_of_mem _ m))
  | _, _, _, .tup h r, k => .tup (k _ List.mem_cons_self _ h) (RepOL.mono e f r fun a m => k a (List.mem_cons_of_mem _ m))
  | _, _, _, .ins h r, k => .ins (k _ List.mem_cons_self _ h) (RepOL.mono e f r fun a m => k a (List.mem_cons_of_mem _ m))
  | _, _, _, .loc h, k => .loc (RepO.mono e f h k)
  | _, _, _, .pt, _ => .pt
  | _, _, _, .at h r, k => .at (k _ List.mem_cons_self _ h) (RepOL.mono e f r fun a m => k a (List.mem_cons_of_mem _ m))
  | _, _, _, .dct h r, k => .dct (k _ List.mem_cons_self _ h) (RepOL.mono e f r fun a m => k a (List.mem_cons_of_mem _ m))
  | _, _, _, .dctT h r, k => .dctT (k _ List.mem_cons_self _ h) (RepOL.mono e f r fun a m => k a (List.mem_cons_of_mem _ m))
theorem RepOL.mono (e : Ex Z Z') (f : Ex F F') : ∀ {vs : List V} {os : List O} {A : List Addr}, RepOL K Z F H vs os A → (∀ a ∈ A, ∀ u, H a = some u → H' a = some u) → RepOL K Z' F' H' vs os A
  | _, _, _, .nil, _ => .nil
  | _, _, _, .cons h r, k => .cons (RepO.mono e f h fun a m => k a (List.mem_append_left _ m)) (RepOL.mono e f r fun a m => k a (List.mem_append_right _ m))
end
mutual
theorem RepO.there : ∀ {v : V} {o : O} {A : List Addr}, RepO K Z F H v o A → ∀ a ∈ A, ∃ u, H a = some u
  | _, _, _, .fz _, _, m => nomatch m
  | _, _, _, .vw _ _, _, m => nomatch m
  | _, _, _, .vwa _ _, _, m => nomatch m
  | _, _, _, .lk _, _, m => nomatch m
  | _, _, _, .lst h r, a, m => (List.mem_cons.mp m).elim (fun e => ⟨_, e ▸ h⟩) fun m => RepOL.there r a m
  | _, _, _, .tup h r, a, m => (List.mem_cons.mp m).elim (fun e => ⟨_, e ▸ h⟩) fun m => RepOL.there r a m
  | _, _, _, .ins h r, a, m => (List.mem_cons.mp m).elim (fun e => ⟨_, e ▸ h⟩) fun m => RepOL.there r a m
  | _, _, _, .loc h, a, m => RepO.there h a m
  | _, _, _, .pt, _, m => nomatch m
  | _, _, _, .at h r, a, m => (List.mem_cons.mp m).elim (fun e => ⟨_, e ▸ h⟩) fun m => RepOL.there r a m
  | _, _, _, .dct h r, a, m => (List.mem_cons.mp m).elim (fun e => ⟨_, e ▸ h⟩) fun m => RepOL.there r a m
  | _, _, _, .dctT h r, a, m => (List.mem_cons.mp m).elim (fun e => ⟨_, e ▸ h⟩) fun m => RepOL.there r a m
theorem RepOL.there : ∀ {vs : List V} {os : List O} {A : List Addr}, RepOL K Z F H vs os A → ∀ a ∈ A, ∃ u, H a = some u
  | _, _, _, .nil, _, m => nomatch m
  | _, _, _, .cons h r, a, m => (List.mem_append.mp m).elim (fun m => RepO.there h a m) fun m => RepOL.there r a m
end
theorem RepO.ex {v : V} {o : O} {A : List Addr} (e : Ex Z Z') (g : Ex H H') (r : RepO K Z F H v o A) : RepO K Z' F H' v o A := r.mono e (Ex.refl _) fun a _ u h => g a u h
theorem RepO.frame {v : V} {o : O} {A : List Addr} (r : RepO K Z F H v o A) (k : ∀ a ∈ A, H' a = H a) : RepO K Z F H' v o A := r.mono (Ex.refl _) (Ex.refl _) fun a m u h => (k a m).trans h
theorem RepKL.length : ∀ {vs : List V} {os : List O}, RepKL K Z F vs os → vs.length = os.length
  | _, _, .nil => rfl
  | _, _, .cons _ r => congrArg (· + 1) r.length
theorem RepKL.get : ∀ {vs : List V} {os : List O} {i : Nat} {o : O}, RepKL K Z F vs os → os[i]? = some o → ∃ v, vs[i]? = some v ∧ RepK K Z F v o
  | _, _, _, _, .nil, e => by simp at e
  | _, _, 0, _, .cons h _, e => by
    simp at e
    subst e
    exact ⟨_, rfl, h⟩
  | _, _, i + 1, o, .cons _ r, e => by
    obtain ⟨v, h1, h2⟩ := RepKL.get (i := i) (o := o) r (by simpa using e)
    exact ⟨v, by simpa using h1, h2⟩
theorem RepKL.fzs : ∀ {ds : List D} {vs : List V}, RepKL K Z F vs (ds.map .fz) → RepL K Z vs ds
  | [], _, .nil => .nil
  | _ :: _, _, .cons (.fz h) r => .cons h r.fzs
theorem RepL.length : ∀ {vs : List V} {ds : List D}, RepL K Z vs ds → vs.length = ds.length
  | _, _, .nil => rfl
  | _, _, .cons _ r => congrArg (· + 1) r.length
theorem RepL.get : ∀ {vs : List V} {ds : List D} {i : Nat} {d : D}, RepL K Z vs ds → ds[i]? = some d → ∃ v, vs[i]? = some v ∧ Rep K Z v d
  | _, _, _, _, .nil, e => by simp at e
  | _, _, 0, _, .cons h _, e => by
    simp at e
    subst e
    exact ⟨_, rfl, h⟩
  | _, _, i + 1, d, .cons _ r, e => by
    obtain ⟨v, h1, h2⟩ := RepL.get (i := i) (d := d) r (by simpa using e)
    exact ⟨v, by simpa using h1, h2⟩
theorem RepL.append : ∀ {vs ws : List V} {ds es : List D}, RepL K Z vs ds → RepL K Z ws es → RepL K Z (vs ++ ws) (ds ++ es)
  | _, _, _, _, .nil, s => s
  | _, _, _, _, .cons h r, s => .cons h (r.append s)
theorem RepL.set {v : V} {d : D} (h : Rep K Z v d) : ∀ {vs : List V} {ds : List D} (i : Nat), RepL K Z vs ds → RepL K Z (vs.set i v) (ds.set i d)
  | _, _, _, .nil => .nil
  | _, _, 0, .cons _ r => .cons h r
  | _, _, i + 1, .cons g r => .cons g (RepL.set h i r)
theorem RepL.take : ∀ {vs : List V} {ds : List D} (n : Nat), RepL K Z vs ds → RepL K Z (vs.take n) (ds.take n)
  | _, _, 0, _ => .nil
  | _, _, _ + 1, .nil => .nil
  | _, _, n + 1, .cons h r => .cons h (RepL.take n r)
theorem RepL.drop : ∀ {vs : List V} {ds : List D} (n : Nat), RepL K Z vs ds → RepL K Z (vs.drop n) (ds.drop n)
  | _, _, 0, r => r
  | _, _, _ + 1, .nil => .nil
  | _, _, n + 1, .cons _ r => RepL.drop n r
theorem RepL.reverse : ∀ {vs : List V} {ds : List D}, RepL K Z vs ds → RepL K Z vs.reverse ds.reverse
  | _, _, .nil => .nil
  | _, _, .cons h r => by
    rw [List.reverse_cons, List.reverse_cons]
    exact r.reverse.append (.cons h .nil)
/-- a list of frozen things -/
theorem RepOL.fzs : ∀ {ds : List D} {vs : List V} {A : List Addr}, RepOL K Z F H vs (ds.map .fz) A → A = [] ∧ RepL K Z vs ds
  | [], _, _, .nil => ⟨rfl, .nil⟩
  | _ :: _, _, _, .cons (.fz h) r => by
    obtain ⟨e, q⟩ := RepOL.fzs r
    exact ⟨by rw [e]; rfl, .cons h q⟩
theorem RepL.own : ∀ {vs : List V} {ds : List D}, RepL K Z vs ds → RepOL K Z F H vs (ds.map .fz) []
  | _, _, .nil => .nil
  | _, _, .cons h r => .cons (A := []) (B := []) (.fz h) r.own
theorem RepL.ints : ∀ {ns : List Int} {vs : List V}, RepL K Z vs (ns.map .int) → vs = ns.map V.int
  | [], _, .nil => rfl
  | _ :: _, _, .cons (.int _) r => by rw [r.ints]; rfl
theorem RepL.ofInts : ∀ {ns : List Int}, RepL K Z (ns.map V.int) (ns.map .int)
  | [] => .nil
  | n :: r => .cons (.int n) (RepL.ofInts (ns := r))
end

mutual
def O.frz : O → D
  | .fz d => d
  | .vw ds => .lst ds
  | .vwa _ ds => .lst ds
  | .lk o => o.frz
  | .lst os => .lst (O.frzL os)
  | .tup os => .tup (O.frzL os)
  | .ins C ns os => .ins C ns (O.frzL os)
  | .at _ C ns os => .ins C ns (O.frzL os)
  | .loc _ o => o.frz
  | .pt a => .opq a
  | .rs _ => .non
  | .dct ks os => .dct ks (O.frzL os)
  | .dctT ks os => .dctT ks (O.frzL os)
def O.frzL : List O → List D
  | [] => []
  | o :: r => o.frz :: O.frzL r
end
mutual
def O.nv : O → Bool
  | .fz _ => true
  | .vw _ => false
  | .vwa _ _ => false
  | .lk _ => false
  | .lst os => O.nvL os
  | .tup os => O.nvL os
  | .ins _ _ os => O.nvL os
  | .at _ _ _ os => O.nvL os
  | .loc _ o => o.nv
  | .pt _ => true
  | .rs _ => false
  | .dct _ os => O.nvL os
  | .dctT _ os => O.nvL os
def O.nvL : List O → Bool
  | [] => true
  | o :: r => o.nv && O.nvL r
end
theorem O.frzL_fz : ∀ ds : List D, O.frzL (ds.map .fz) = ds
  | [] => rfl
  | d :: r => by
    show O.frz (.fz d) :: O.frzL (r.map .fz) = d :: r
    rw [O.frzL_fz r]
    rfl
theorem O.nvL_fz : ∀ ds : List D, O.nvL (ds.map .fz) = true
  | [] => rfl
  | d :: r => by
    show (O.nv (.fz d) && O.nvL (r.map .fz)) = true
    rw [O.nvL_fz r]
    rfl
section
variable {K : PySem.W.Frag} {Z Z' F H : Hp}
mutual
theorem RepO.frz (e : Ex Z Z') : ∀ {v : V} {o : O} {A : List Addr}, RepO K Z F H v o A → (∀ a ∈ A, Z' a = H a) → o.nv = true → Rep K Z' v o.frz
  | _, _, _, .fz h, _, _ => h.mono e
  | _, _, _, .vw _ _, _, n => nomatch n
  | _, _, _, .vwa _ _, _, n => nomatch n
  | _, _, _, .lk _, _, n => nomatch n
  | _, _, _, .lst h r, k, n => .lst (SqL.of ((k _ List.mem_cons_self).trans h)) (RepOL.frz e r (fun a m => k a (List.mem_cons_of_mem _ m)) n)
  | _, _, _, .tup h r, k, n => .tup ((k _ List.mem_cons_self).trans h) (RepOL.frz e r (fun a m => k a (List.mem_cons_of_mem _ m)) n)
  | _, _, _, .ins h r, k, n => .ins ((k _ List.mem_cons_self).trans h) (RepOL.frz e r (fun a m => k a (List.mem_cons_of_mem _ m)) n)
  | _, .loc _ o, _, .loc h, k, n => by
    have h : RepO K Z F H _ o _ := h
    exact (show Rep K Z' _ o.frz from RepO.frz (o := o) e h k n)
  | _, _, _, .pt, _, _ => .opq _
  | _, _, _, .at h r, k, n => .ins ((k _ List.mem_cons_self).trans h) (RepOL.frz e r (fun a m => k a (List.mem_cons_of_mem _ m)) n)
  | _, _, _, .dct h r, k, n => .dct ((k _ List.mem_cons_self).trans h) (RepOL.frz e r (fun a m => k a (List.mem_cons_of_mem _ m)) n)
  | _, _, _, .dctT h r, k, n => .dctT ((k _ List.mem_cons_self).trans h) (RepOL.frz e r (fun a m => k a (List.mem_cons_of_mem _ m)) n)
theorem RepOL.frz (e : Ex Z Z') : ∀ {vs : List V} {os : List O} {A : List Addr}, RepOL K Z F H vs os A → (∀ a ∈ A, Z' a = H a) → O.nvL os = true → RepL K Z' vs (O.frzL os)
  | _, _, _, .nil, _, _ => .nil
  | _, _, _, .cons h r, k, n => .cons (RepO.frz e h (fun a m => k a (List.mem_append_left _ m)) (Bool.and_eq_true_iff.mp n).1) (RepOL.frz e r (fun a m => k a (List.mem_append_right _ m)) (Bool.and_eq_true_iff.mp n).2)
end
end
/-- Z and the cells at A -/
def frzAt (Z H : Hp) (A : List Addr) : Hp := fun a => if a ∈ A then H a else Z a
theorem frzAt_in {Z H : Hp} {A : List Addr} {a : Addr} (h : a ∈ A) : frzAt Z H A a = H a := if_pos h
theorem frzAt_out {Z H : Hp} {A : List Addr} {a : Addr} (h : a ∉ A) : frzAt Z H A a = Z a := if_neg h
theorem ex_frzAt {Z H : Hp} {A : List Addr} (e : Ex Z H) : Ex Z (frzAt Z H A) := fun a u h => by
  by_cases m : a ∈ A
  · rw [frzAt_in m]
    exact e a u h
  · rw [frzAt_out m]
    exact h
theorem frzAt_ex {Z H : Hp} {A : List Addr} (e : Ex Z H) : Ex (frzAt Z H A) H := fun a u h => by
  by_cases m : a ∈ A
  · rw [frzAt_in m] at h
    exact h
  · rw [frzAt_out m] at h
    exact e a u h

/-- the heap grows: frozen part Z, all H -/
structure Gr (Z H Z' H' : Hp) : Prop where
  zz : Ex Z Z'
  hh : Ex H H'
  zh : Ex Z' H'
  nw : ∀ a o, H a = some o → Z' a = Z a
theorem Gr.trans {Z H Z1 H1 Z2 H2 : Hp} (a : Gr Z H Z1 H1) (b : Gr Z1 H1 Z2 H2) : Gr Z H Z2 H2 :=
  ⟨a.zz.trans b.zz, a.hh.trans b.hh, b.zh, fun x o h => (b.nw x o (a.hh x o h)).trans (a.nw x o h)⟩
theorem Gr.refl {Z H : Hp} (h : Ex Z H) : Gr Z H Z H := ⟨Ex.refl _, Ex.refl _, h, fun _ _ _ => rfl⟩
/-- a new object that is not frozen -/
theorem Gr.new {Z H : Hp} {p : Addr} {o : HO} (h : Ex Z H) (hp : H p = none) : Gr Z H Z (upd H p o) := ⟨Ex.refl _, Ex.new hp, h.trans (Ex.new hp), fun _ _ _ => rfl⟩
/-- .. frozen at once -/
theorem Gr.newz {Z H : Hp} {p : Addr} {o : HO} (h : Ex Z H) (hp : H p = none) : Gr Z H (upd Z p o) (upd H p o) :=
  ⟨Ex.new (h.free hp), Ex.new hp, fun a u e => by
    by_cases ha : a = p
    · subst ha
      rw [upd_same] at e ⊢
      exact e
    · rw [upd_ne ha] at e ⊢
      exact h a u e, fun a u e => upd_ne (ne_of_none e hp)⟩

abbrev Slots := List (Option O)
inductive StL (K : PySem.W.Frag) (Z F H : Hp) : Slots → L2.St → List Addr → Prop where
  | nil : StL K Z F H [] [] []
  | no {s : Option V} {ρ : Slots} {σ : L2.St} {A : List Addr} : StL K Z F H ρ σ A → StL K Z F H (none :: ρ) (s :: σ) A
  | so {v : V} {o : O} {ρ : Slots} {σ : L2.St} {A B : List Addr} : RepO K Z F H v o A → StL K Z F H ρ σ B → StL K Z F H (some o :: ρ) (some v :: σ) (A ++ B)
structure StR (K : PySem.W.Frag) (ρ : Slots) (Z0 F Z : Hp) (σ : L2.St) (H : Hp) : Prop where
  gr : Gr Z0 F Z H
  st : ∃ A, StL K Z F H ρ σ A ∧ A.Nodup ∧ ∀ a ∈ A, Z a = none ∧ F a = none
section
variable {K : PySem.W.Frag} {Z0 Z Z' F H H' : Hp} {ρ : Slots} {σ : L2.St}
theorem StL.mono (e : Ex Z Z') : ∀ {ρ : Slots} {σ : L2.St} {A : List Addr}, StL K Z F H ρ σ A → (∀ a ∈ A, ∀ u, H a = some u → H' a = some u) → StL K Z' F H' ρ σ A
  | _, _, _, .nil, _ => .nil
  | _, _, _, .no h, k => .no (h.mono e k)
  | _, _, _, .so r h, k => .so (r.mono e (Ex.refl _) fun a m => k a (List.mem_append_left _ m)) (h.mono e fun a m => k a (List.mem_append_right _ m))
theorem StL.there : ∀ {ρ : Slots} {σ : L2.St} {A : List Addr}, StL K Z F H ρ σ A → ∀ a ∈ A, ∃ u, H a = some u
  | _, _, _, .nil, _, m => nomatch m
  | _, _, _, .no h, a, m => h.there a m
  | _, _, _, .so r h, a, m => (List.mem_append.mp m).elim (fun m => r.there a m) fun m => h.there a m
theorem StL.length : ∀ {ρ : Slots} {σ : L2.St} {A : List Addr}, StL K Z F H ρ σ A → σ.length = ρ.length
  | _, _, _, .nil => rfl
  | _, _, _, .no h => congrArg (· + 1) h.length
  | _, _, _, .so _ h => congrArg (· + 1) h.length
theorem StL.get : ∀ {ρ : Slots} {σ : L2.St} {A : List Addr} {i : Nat} {o : O}, StL K Z F H ρ σ A → ρ[i]? = some (some o) → ∃ v B, σ[i]? = some (some v) ∧ RepO K Z F H v o B ∧ ∀ a ∈ B, a ∈ A
  | _, _, _, _, _, .nil, e => by simp at e
  | _, _, _, 0, _, .no h, e => by simp at e
  | _, _, _, i + 1, _, .no h, e => by
    obtain ⟨v, B, h1, h2, h3⟩ := h.get (i := i) (by simpa using e)
    exact ⟨v, B, by simpa using h1, h2, h3⟩
  | _, _, _, 0, _, .so r h, e => by
    simp at e
    subst e
    exact ⟨_, _, rfl, r, fun a m => List.mem_append_left _ m⟩
  | _, _, _, i + 1, _, .so r h, e => by
    obtain ⟨v, B, h1, h2, h3⟩ := h.get (i := i) (by simpa using e)
    exact ⟨v, B, by simpa using h1, h2, fun a m => List.mem_append_right _ (h3 a m)⟩
/-- a slot is stored anew -/
theorem StL.put {v : V} {o : O} {B : List Addr} (r : RepO K Z F H v o B) : ∀ {ρ : Slots} {σ : L2.St} {A : List Addr} {i : Nat}, StL K Z F H ρ σ A → i < ρ.length → A.Nodup → B.Nodup → (∀ a ∈ B, a ∉ A) →
    ∃ A', StL K Z F H (ρ.set i (some o)) (σ.set i (some v)) A' ∧ A'.Nodup ∧ ∀ a ∈ A', a ∈ A ∨ a ∈ B
  | _, _, _, _, .nil, hi, _, _, _ => by simp at hi
  | _, _, _, 0, .no h, _, nA, nB, d => ⟨_, .so r h, by
      refine List.nodup_append.mpr ⟨nB, nA, fun a ha b hb e => ?_⟩
      subst e
      exact d a ha hb, fun a m => (List.mem_append.mp m).symm⟩
  | _, _, _, i + 1, .no h, hi, nA, nB, d => by
    obtain ⟨A', h1, h2, h3⟩ := StL.put r (i := i) h (by simpa using hi) nA nB d
    exact ⟨A', .no h1, h2, h3⟩
  | _, _, _, 0, .so (A := A1) (B := A2) _ h, _, nA, nB, d => ⟨_, .so r h, by
      refine List.nodup_append.mpr ⟨nB, (List.nodup_append.mp nA).2.1, fun a ha b hb e => ?_⟩
      subst e
      exact d a ha (List.mem_append_right _ hb), fun a m => (List.mem_append.mp m).elim .inr fun m => .inl (List.mem_append_right _ m)⟩
  | _, _, _, i + 1, .so (A := A1) (B := A2) q h, hi, nA, nB, d => by
    obtain ⟨n1, n2, n3⟩ := List.nodup_append.mp nA
    obtain ⟨A', h1, h2, h3⟩ := StL.put r (i := i) h (by simpa using hi) n2 nB fun a ha hb => d a ha (List.mem_append_right _ hb)
    refine ⟨_, .so q h1, List.nodup_append.mpr ⟨n1, h2, fun a ha b hb e => ?_⟩, fun a m => ?_⟩
    · subst e
      rcases h3 a hb with z | z
      · exact n3 a ha a z rfl
      · exact d a z (List.mem_append_left _ ha)
    · rcases List.mem_append.mp m with m | m
      · exact .inl (List.mem_append_left _ m)
      · exact (h3 a m).imp (List.mem_append_right _) id
/-- a slot's own thing is changed in place -/
theorem StL.at : ∀ {ρ : Slots} {σ : L2.St} {A : List Addr} {i : Nat} {o : O}, StL K Z F H ρ σ A → ρ[i]? = some (some o) → A.Nodup →
    ∃ v B, σ[i]? = some (some v) ∧ RepO K Z F H v o B ∧ B.Nodup ∧ (∀ a ∈ B, a ∈ A) ∧ ∀ {Z' H' : Hp} {v' : V} {o' : O} {B' : List Addr}, Ex Z Z' → (∀ a ∈ A, a ∉ B → ∀ u, H a = some u → H' a = some u) → RepO K Z' F H' v' o' B' → B'.Nodup → (∀ a ∈ B', a ∈ A → a ∈ B) →
      ∃ A', StL K Z' F H' (ρ.set i (some o')) (σ.set i (some v')) A' ∧ A'.Nodup ∧ ∀ a ∈ A', (a ∈ A ∧ a ∉ B) ∨ a ∈ B'
  | _, _, _, _, _, .nil, e, _ => by simp at e
  | _, _, _, 0, _, .no h, e, _ => by simp at e
  | _, _, _, i + 1, _, .no h, e, nA => by
    obtain ⟨v, B, h1, h2, h3, h4, h5⟩ := StL.at (i := i) h (by simpa using e) nA
    refine ⟨v, B, by simpa using h1, h2, h3, h4, fun ez k r n d => ?_⟩
    obtain ⟨A', q1, q2, q3⟩ := h5 ez k r n d
    exact ⟨A', .no q1, q2, q3⟩
  | _, _, _, 0, _, .so (A := A1) (B := A2) q h, e, nA => by
    simp at e
    subst e
    obtain ⟨n1, n2, n3⟩ := List.nodup_append.mp nA
    refine ⟨_, A1, rfl, q, n1, fun a m => List.mem_append_left _ m, fun ez k r n d => ?_⟩
    refine ⟨_, .so r (h.mono ez fun a m => k a (List.mem_append_right _ m) fun z => n3 a z a m rfl), List.nodup_append.mpr ⟨n, n2, fun a ha b hb e => ?_⟩, fun a m => ?_⟩
    · subst e
      exact n3 a (d a ha (List.mem_append_right _ hb)) a hb rfl
    · rcases List.mem_append.mp m with m | m
      · exact .inr m
      · exact .inl ⟨List.mem_append_right _ m, fun z => n3 a z a m rfl⟩
  | _, _, _, i + 1, _, .so (A := A1) (B := A2) q h, e, nA => by
    obtain ⟨n1, n2, n3⟩ := List.nodup_append.mp nA
    obtain ⟨v, B, h1, h2, h3, h4, h5⟩ := StL.at (i := i) h (by simpa using e) n2
    refine ⟨v, B, by simpa using h1, h2, h3, fun a m => List.mem_append_right _ (h4 a m), fun ez k r n d => ?_⟩
    obtain ⟨A', q1, q2, q3⟩ := h5 ez (fun a m nb => k a (List.mem_append_right _ m) nb) r n fun a m z => d a m (List.mem_append_right _ z)
    refine ⟨_, .so (q.mono ez (Ex.refl _) fun a m => k a (List.mem_append_left _ m) fun z => n3 a m a (h4 a z) rfl) q1, List.nodup_append.mpr ⟨n1, q2, fun a ha b hb e => ?_⟩, fun a m => ?_⟩
    · subst e
      rcases q3 a hb with z | z
      · exact n3 a ha a z.1 rfl
      · exact n3 a ha a (h4 a (d a z (List.mem_append_left _ ha))) rfl
    · rcases List.mem_append.mp m with m | m
      · exact .inl ⟨List.mem_append_left _ m, fun z => n3 a m a (h4 a z) rfl⟩
      · exact (q3 a m).imp (fun z => ⟨List.mem_append_right _ z.1, z.2⟩) id

theorem StR.ex (s : StR K ρ Z0 F Z σ H) : Ex Z H := s.gr.zh
theorem StR.grow (s : StR K ρ Z0 F Z σ H) (g : Gr Z H Z' H') : StR K ρ Z0 F Z' σ H' := by
  obtain ⟨A, h1, h2, h3⟩ := s.st
  refine ⟨s.gr.trans g, A, h1.mono g.zz fun a _ u e => g.hh a u e, h2, fun a m => ⟨?_, (h3 a m).2⟩⟩
  obtain ⟨u, e⟩ := h1.there a m
  rw [g.nw a u e]
  exact (h3 a m).1
theorem StR.len (s : StR K ρ Z0 F Z σ H) : σ.length = ρ.length := let ⟨_, h, _⟩ := s.st; h.length
/-- what is new: not there ahead, not frozen -/
def New (H Z' : Hp) (A : List Addr) : Prop := A.Nodup ∧ ∀ a ∈ A, H a = none ∧ Z' a = none
theorem New.nil {H Z' : Hp} : New H Z' [] := ⟨List.nodup_nil, fun _ m => nomatch m⟩
theorem StR.put {v : V} {o : O} {B : List Addr} {i : Nat} (s : StR K ρ Z0 F Z σ H) (g : Gr Z H Z' H') (r : RepO K Z' F H' v o B) (n : New H Z' B) (hi : i < ρ.length) : StR K (ρ.set i (some o)) Z0 F Z' (σ.set i (some v)) H' := by
  have s' := s.grow g
  obtain ⟨A, h1, h2, h3⟩ := s.st
  have m1 : StL K Z' F H' ρ σ A := h1.mono g.zz fun a _ u e => g.hh a u e
  obtain ⟨A', q1, q2, q3⟩ := StL.put r m1 hi h2 n.1 fun a ha hb => by
    obtain ⟨u, e⟩ := h1.there a hb
    rw [(n.2 a ha).1] at e
    cases e
  refine ⟨s'.gr, A', q1, q2, fun a m => ?_⟩
  rcases q3 a m with z | z
  · obtain ⟨u, e⟩ := h1.there a z
    exact ⟨(g.nw a u e).trans (h3 a z).1, (h3 a z).2⟩
  · exact ⟨(n.2 a z).2, s.gr.hh.free (n.2 a z).1⟩
/-- a slot's own thing is frozen -/
theorem StR.freeze {i : Nat} {o : O} (s : StR K ρ Z0 F Z σ H) (hi : ρ[i]? = some (some o)) (hn : o.nv = true) : ∃ Z', Gr Z0 F Z' H ∧ Ex Z Z' ∧ StR K (ρ.set i (some (.fz o.frz))) Z0 F Z' σ H := by
  obtain ⟨A, h1, h2, h3⟩ := s.st
  obtain ⟨v, B, q1, q2, q3, q4, q5⟩ := h1.at hi h2
  have hr : Rep K (frzAt Z H B) v o.frz := q2.frz (ex_frzAt s.ex) (fun a m => frzAt_in m) hn
  have g : Gr Z0 F (frzAt Z H B) H := ⟨s.gr.zz.trans (ex_frzAt s.ex), s.gr.hh, frzAt_ex s.ex, fun a u e => by
    have nb : a ∉ B := fun m => by
      rw [(h3 a (q4 a m)).2] at e
      cases e
    rw [frzAt_out nb]
    exact s.gr.nw a u e⟩
  obtain ⟨A', r1, r2, r3⟩ := q5 (Z' := frzAt Z H B) (H' := H) (v' := v) (o' := .fz o.frz) (B' := []) (ex_frzAt s.ex) (fun _ _ _ _ e => e) (.fz hr) List.nodup_nil fun _ m => nomatch m
  have eσ : σ.set i (some v) = σ := by
    apply List.ext_getElem?
    intro j
    by_cases hj : i = j
    · subst hj
      rw [List.getElem?_set_self (List.getElem?_eq_some_iff.mp q1).1, q1]
    · rw [List.getElem?_set_ne hj]
  rw [eσ] at r1
  refine ⟨frzAt Z H B, g, ex_frzAt s.ex, g, A', r1, r2, fun a m => ?_⟩
  rcases r3 a m with z | z
  · rw [frzAt_out z.2]
    exact h3 a z.1
  · exact nomatch z
theorem set_same {σ : L2.St} {i : Nat} {v : V} (q : σ[i]? = some (some v)) : σ.set i (some v) = σ := by
  apply List.ext_getElem?
  intro j
  by_cases hj : i = j
  · subst hj
    rw [List.getElem?_set_self (List.getElem?_eq_some_iff.mp q).1, q]
  · rw [List.getElem?_set_ne hj]
/-- a slot's own thing changes -/
theorem StR.upd {i : Nat} {o : O} (s : StR K ρ Z0 F Z σ H) (hi : ρ[i]? = some (some o)) : ∃ v A, σ[i]? = some (some v) ∧ RepO K Z F H v o A ∧ A.Nodup ∧ (∀ a ∈ A, Z a = none ∧ F a = none) ∧
    ∀ {Z' H' : Hp} {o' : O} {A' : List Addr}, Ex Z Z' → (∀ a u, H a = some u → Z' a = Z a) → Ex Z' H' → (∀ a, a ∉ A → ∀ u, H a = some u → H' a = some u) → RepO K Z' F H' v o' A' → A'.Nodup → (∀ a ∈ A', a ∈ A ∨ (H a = none ∧ Z' a = none)) →
      StR K (ρ.set i (some o')) Z0 F Z' σ H' := by
  obtain ⟨A, h1, h2, h3⟩ := s.st
  obtain ⟨v, B, q1, q2, q3, q4, q5⟩ := h1.at hi h2
  refine ⟨v, B, q1, q2, q3, fun a m => h3 a (q4 a m), fun {Z' H' o' A'} ez nz zh k r n d => ?_⟩
  obtain ⟨A2, r1, r2, r3⟩ := q5 (v' := v) ez (fun a _ nb u e => k a nb u e) r n fun a m ma => by
    rcases d a m with z | z
    · exact z
    · obtain ⟨u, e⟩ := h1.there a ma
      rw [z.1] at e
      cases e
  rw [set_same q1] at r1
  have hF : ∀ a u, F a = some u → a ∉ B := fun a u e m => by
    rw [(h3 a (q4 a m)).2] at e
    cases e
  refine ⟨⟨s.gr.zz.trans ez, fun a u e => k a (hF a u e) u (s.gr.hh a u e), zh, fun a u e => (nz a u (s.gr.hh a u e)).trans (s.gr.nw a u e)⟩, A2, r1, r2, fun a m => ?_⟩
  have old : ∀ a ∈ A, Z' a = none ∧ F a = none := fun a m => by
    obtain ⟨u, e⟩ := h1.there a m
    exact ⟨(nz a u e).trans (h3 a m).1, (h3 a m).2⟩
  rcases r3 a m with z | z
  · exact old a z.1
  · rcases d a z with y | y
    · exact old a (q4 a y)
    · exact ⟨y.2, s.gr.hh.free y.1⟩
/-- slots are forgotten -/
inductive Le : Slots → Slots → Prop where
  | nil : Le [] []
  | no {x : Option O} {ρ τ : Slots} : Le ρ τ → Le (x :: ρ) (none :: τ)
  | eq {x : Option O} {ρ τ : Slots} : Le ρ τ → Le (x :: ρ) (x :: τ)
theorem Le.refl : ∀ ρ : Slots, Le ρ ρ
  | [] => .nil
  | _ :: r => .eq (Le.refl r)
theorem StL.le : ∀ {ρ τ : Slots} {σ : L2.St} {A : List Addr}, Le ρ τ → StL K Z F H ρ σ A → A.Nodup → ∃ A', StL K Z F H τ σ A' ∧ A'.Nodup ∧ ∀ a ∈ A', a ∈ A
  | _, _, _, _, .nil, .nil, n => ⟨_, .nil, n, fun _ m => m⟩
  | _, _, _, _, .no l, .no h, n => by
    obtain ⟨A', q1, q2, q3⟩ := StL.le l h n
    exact ⟨A', .no q1, q2, q3⟩
  | _, _, _, _, .no l, .so _ h, n => by
    obtain ⟨A', q1, q2, q3⟩ := StL.le l h (List.nodup_append.mp n).2.1
    exact ⟨A', .no q1, q2, fun a m => List.mem_append_right _ (q3 a m)⟩
  | _, _, _, _, .eq l, .no h, n => by
    obtain ⟨A', q1, q2, q3⟩ := StL.le l h n
    exact ⟨A', .no q1, q2, q3⟩
  | _, _, _, _, .eq l, .so r h, n => by
    obtain ⟨n1, n2, n3⟩ := List.nodup_append.mp n
    obtain ⟨A', q1, q2, q3⟩ := StL.le l h n2
    refine ⟨_, .so r q1, List.nodup_append.mpr ⟨n1, q2, fun a ha b hb => n3 a ha b (q3 b hb)⟩, fun a m => ?_⟩
    rcases List.mem_append.mp m with m | m
    · exact List.mem_append_left _ m
    · exact List.mem_append_right _ (q3 a m)
theorem StR.le {τ : Slots} (s : StR K ρ Z0 F Z σ H) (l : Le ρ τ) : StR K τ Z0 F Z σ H := by
  obtain ⟨A, h1, h2, h3⟩ := s.st
  obtain ⟨A', q1, q2, q3⟩ := h1.le l h2
  exact ⟨s.gr, A', q1, q2, fun a m => h3 a (q3 a m)⟩
end
end M
namespace M
open PySem L2

def wE (X : Cx) (e : Expr) : TE := fun σ H Q => ∀ (pins : List (Addr × Obj)) (s : Shared), Inv X pins σ H s → wpAny (model X.prog X.w) X.A (eval e X.env) (EP X pins σ Q) X.xe s
def wT (X : Cx) (e : Expr) : TT := fun σ H Q => ∀ (pins : List (Addr × Obj)) (s : Shared), Inv X pins σ H s → wpAny (model X.prog X.w) X.A (isTrue e X.env (eval e X.env)) (TP X pins σ Q) X.xe s
def wA (X : Cx) (es : List Expr) : TA := fun σ H Q => ∀ (pos : Pos) (pins : List (Addr × Obj)) (s : Shared), Inv X pins σ H s → wpAny (model X.prog X.w) X.A (spliced (backTo pos (starEach es X.env))) (AP X pins σ Q) X.xe s
def wS1 (X : Cx) (st : Stmt) : TS := fun D σ H => ∀ (pins : List (Addr × Obj)) (s : Shared), Inv X pins σ H s → wpAny (model X.prog X.w) X.A (exec st X.env) (SP X pins D) X.xe s
def wS (X : Cx) (st : List Stmt) : TS := fun D σ H => ∀ (pins : List (Addr × Obj)) (s : Shared), Inv X pins σ H s → wpAny (model X.prog X.w) X.A (execs st X.env) (SP X pins D) X.xe s
section
variable {X : Cx} {e : Expr} {es : List Expr} {st : Stmt} {sts : List Stmt}
theorem pe_w : PE X e (wE X e) := ⟨fun pins s _ _ _ I h => h pins s I⟩
theorem pt_w : PT X e (wT X e) := ⟨fun pins s _ _ _ I h => h pins s I⟩
theorem pa_w : PA X es (wA X es) := ⟨fun pos pins s _ _ _ I h => h pos pins s I⟩
theorem ps_w : PS X st (wS1 X st) := ⟨fun pins s _ _ _ I h => h pins s I⟩
theorem pss_w : PSs X sts (wS X sts) := ⟨fun pins s _ _ _ I h => h pins s I⟩
theorem PE_w {t : TE} (p : PE X e t) {σ : L2.St} {H : Hp} {Q : VK} (h : t σ H Q) : wE X e σ H Q := fun pins s I => p.run pins s σ H Q I h
theorem PT_w {t : TT} (p : PT X e t) {σ : L2.St} {H : Hp} {Q : Bool → Hp → Prop} (h : t σ H Q) : wT X e σ H Q := fun pins s I => p.run pins s σ H Q I h
theorem PA_w {t : TA} (p : PA X es t) {σ : L2.St} {H : Hp} {Q : List V → Hp → Prop} (h : t σ H Q) : wA X es σ H Q := fun pos pins s I => p.run pos pins s σ H Q I h
theorem PS_w {t : TS} (p : PS X st t) {σ : L2.St} {H : Hp} {D : Ends} (h : t D σ H) : wS1 X st D σ H := fun pins s I => p.run pins s σ H D I h
theorem PSs_w {t : TS} (p : PSs X sts t) {σ : L2.St} {H : Hp} {D : Ends} (h : t D σ H) : wS X sts D σ H := fun pins s I => p.run pins s σ H D I h
end

/-- a new thing (or a frozen one) -/
structure ME (X : Cx) (ρ : Slots) (e : Expr) (o : O) : Prop where
  run : ∀ (Z0 F Z : Hp) (σ : L2.St) (H : Hp), StR X.K ρ Z0 F Z σ H → ∀ Q : VK,
  (∀ v Z' H' A, Gr Z H Z' H' → RepO X.K Z' F H' v o A → New H Z' A → Q v H') → wE X e σ H Q
/-- a thing that is looked at -/
structure MV (X : Cx) (ρ : Slots) (e : Expr) (o : O) : Prop where
  run : ∀ (Z0 F Z : Hp) (σ : L2.St) (H : Hp), StR X.K ρ Z0 F Z σ H → ∀ Q : VK,
  (∀ v Z' H' A, Gr Z H Z' H' → RepO X.K Z' F H' v o A → Q v H') → wE X e σ H Q
/-- a list that is looked at -/
structure ML (X : Cx) (ρ : Slots) (e : Expr) (ds : List D) : Prop where
  run : ∀ (Z0 F Z : Hp) (σ : L2.St) (H : Hp), StR X.K ρ Z0 F Z σ H → ∀ Q : VK,
  (∀ a vs Z' H', Gr Z H Z' H' → SqL X.K H' a vs → RepL X.K Z' vs ds → Q (.ref a) H') → wE X e σ H Q
/-- a tuple that is looked at -/
structure MU (X : Cx) (ρ : Slots) (e : Expr) (ds : List D) : Prop where
  run : ∀ (Z0 F Z : Hp) (σ : L2.St) (H : Hp), StR X.K ρ Z0 F Z σ H → ∀ Q : VK,
  (∀ a vs Z' H', Gr Z H Z' H' → SqT X.K H' a vs → RepL X.K Z' vs ds → Q (.ref a) H') → wE X e σ H Q
structure MT (X : Cx) (ρ : Slots) (e : Expr) (b : Bool) : Prop where
  run : ∀ (Z0 F Z : Hp) (σ : L2.St) (H : Hp), StR X.K ρ Z0 F Z σ H → ∀ Q : Bool → Hp → Prop,
  (∀ Z' H', Gr Z H Z' H' → Q b H') → wT X e σ H Q
/-- arguments: frozen things, lists that are looked at -/
structure MA (X : Cx) (ρ : Slots) (es : List Expr) (os : List O) : Prop where
  run : ∀ (Z0 F Z : Hp) (σ : L2.St) (H : Hp), StR X.K ρ Z0 F Z σ H → ∀ Q : List V → Hp → Prop,
  (∀ vs Z' H', Gr Z H Z' H' → RepOL X.K Z' H' H' vs os [] → Q vs H') → wA X es σ H Q
/-- what is handed back: own slots may go with it -/
structure MR (X : Cx) (ρ : Slots) (e : Expr) (o : O) : Prop where
  run : ∀ (Z0 F Z : Hp) (σ : L2.St) (H : Hp), StR X.K ρ Z0 F Z σ H → ∀ Q : VK,
  (∀ v Z' H' A, Gr Z H Z' H' → RepO X.K Z' F H' v o A → A.Nodup → (∀ a ∈ A, Z' a = none ∧ F a = none) → Q v H') → wE X e σ H Q

structure Go where
  nx : Slots → Prop := fun _ => False
  rt : O → Prop := fun _ => False
  bk : Slots → Prop := fun _ => False
  ct : Slots → Prop := fun _ => False
  rs : O → Slots → Prop := fun _ _ => False
/-- the error e is taken -/
def Thrown (K : PySem.W.Frag) (W : WX) (e : Er) (Z : Hp) (σ : L2.St) (H : Hp) : Prop := match e.fld with
  | none => W (.ref e.C) none σ H
  | some (f, d) => ∀ (a : Addr) (v : V), H a = none → Rep K Z v d → W (.ref e.C) (some a) σ (upd H a (.xd [(f, v)]))
/-- the errors r are taken -/
def GX (X : Cx) (Z0 F : Hp) (r : O → Prop) : Prop := ∃ W : WX, Takes X W ∧ ∀ (e : Er) (ρ : Slots) (Z : Hp) (σ : L2.St) (H : Hp), r (.rs e) → StR X.K ρ Z0 F Z σ H → Thrown X.K W e Z σ H
theorem GX.never {X : Cx} {Z0 F : Hp} {r : O → Prop} (n : ∀ e, ¬ r (.rs e)) : GX X Z0 F r := ⟨fun _ _ _ _ => False, fun _ _ ⟨_, _, _, _, _, _, _, _, _, _, _, _, _, _, _, _, w⟩ => w.elim, fun e _ _ _ _ k _ => (n e k).elim⟩
theorem GX.imp {X : Cx} {Z0 F : Hp} {r r' : O → Prop} (g : GX X Z0 F r) (h : ∀ o, r' o → r o) : GX X Z0 F r' := by
  obtain ⟨W, t, k⟩ := g
  exact ⟨W, t, fun e ρ Z σ H q s => k e ρ Z σ H (h _ q) s⟩
structure GD (X : Cx) (Z0 F : Hp) (G : Go) (D : Ends) : Prop where
  nx : ∀ ρ Z σ H, G.nx ρ → StR X.K ρ Z0 F Z σ H → D.nx σ H
  bk : ∀ ρ Z σ H, G.bk ρ → StR X.K ρ Z0 F Z σ H → D.bk σ H
  ct : ∀ ρ Z σ H, G.ct ρ → StR X.K ρ Z0 F Z σ H → D.ct σ H
  rt : ∀ o v Z H A, G.rt o → Gr Z0 F Z H → RepO X.K Z F H v o A → New F Z A → D.rt v H
  rs : ∀ o ρ v Z σ H, G.rs o ρ → StR X.K (ρ ++ [some o]) Z0 F Z (σ ++ [some v]) H → D.rt v H
  ex : GX X Z0 F G.rt
structure MS1 (X : Cx) (ρ : Slots) (st : Stmt) (G : Go) : Prop where
  run : ∀ (Z0 F Z : Hp) (σ : L2.St) (H : Hp) (D : Ends), StR X.K ρ Z0 F Z σ H → GD X Z0 F G D → wS1 X st D σ H
structure MS (X : Cx) (ρ : Slots) (sts : List Stmt) (G : Go) : Prop where
  run : ∀ (Z0 F Z : Hp) (σ : L2.St) (H : Hp) (D : Ends), StR X.K ρ Z0 F Z σ H → GD X Z0 F G D → wS X sts D σ H
/-- then the rest -/
def Go.th (G : Go) (X : Cx) (sts : List Stmt) : Go := { G with nx := fun ρ => MS X ρ sts G }

section
variable {X : Cx} {ρ : Slots} {e : Expr} {es : List Expr} {st : Stmt} {sts : List Stmt} {G : Go} {o : O} {d : D} {ds : List D} {pos : Pos}
theorem ms_nil (h : G.nx ρ) : MS X ρ [] G := .mk fun Z0 F Z σ H D s g => PSs_w pss_nil (g.nx ρ Z σ H h s)
theorem ms_cons (h : MS1 X ρ st (G.th X sts)) : MS X ρ (st :: sts) G := .mk fun Z0 F Z σ H D s g =>
  PSs_w (pss_cons ps_w pss_w) (h.run Z0 F Z σ H _ s ⟨fun ρ' Z' σ' H' m s' => m.run Z0 F Z' σ' H' D s' g, g.bk, g.ct, g.rt, g.rs, g.ex⟩)
theorem ms_one (h : MS1 X ρ st G) : MS X ρ [st] G := .mk fun Z0 F Z σ H D s g => PSs_w (pss_one ps_w) (h.run Z0 F Z σ H _ s g)

theorem ME.v (h : ME X ρ e o) : MV X ρ e o := .mk fun Z0 F Z σ H s Q q => h.run Z0 F Z σ H s Q fun v Z' H' A g r _ => q v Z' H' A g r
theorem MV.em (h : MV X ρ e (.fz d)) : ME X ρ e (.fz d) := .mk fun Z0 F Z σ H s Q q => h.run Z0 F Z σ H s Q fun v Z' H' A g r => by
  cases r with
  | fz r => exact q v Z' H' [] g (.fz r) .nil
theorem ME.r (h : ME X ρ e o) : MR X ρ e o := .mk fun Z0 F Z σ H s Q q => h.run Z0 F Z σ H s Q fun v Z' H' A g r n => q v Z' H' A g r n.1 fun a m => ⟨(n.2 a m).2, s.gr.hh.free (n.2 a m).1⟩
/-- the lists that can be looked at -/
inductive IsLst : O → List D → Prop where
  | fz (ds : List D) : IsLst (.fz (.lst ds)) ds
  | vw (ds : List D) : IsLst (.vw ds) ds
  | vwa (a : Addr) (ds : List D) : IsLst (.vwa a ds) ds
  | own (ds : List D) : IsLst (.lst (ds.map .fz)) ds
inductive IsTp : O → List D → Prop where
  | fz (ds : List D) : IsTp (.fz (.tup ds)) ds
  | own (ds : List D) : IsTp (.tup (ds.map .fz)) ds
theorem MV.l (h : MV X ρ e o) (i : IsLst o ds) : ML X ρ e ds := .mk fun Z0 F Z σ H s Q q => h.run Z0 F Z σ H s Q fun v Z' H' A g r => by
  cases i with
  | fz ds =>
    cases r with
    | fz r =>
      cases r with
      | lst a b => exact q _ _ Z' H' g (ex_l g.zh a) b
  | vw ds =>
    cases r with
    | vw a b => exact q _ _ Z' H' g (ex_l (s.gr.hh.trans g.hh) a) b
  | vwa a ds =>
    cases r with
    | vwa a b => exact q _ _ Z' H' g (ex_l (s.gr.hh.trans g.hh) a) b
  | own ds =>
    cases r with
    | lst a b => exact q _ _ Z' H' g (.of a) (RepOL.fzs b).2
theorem MV.u (h : MV X ρ e o) (i : IsTp o ds) : MU X ρ e ds := .mk fun Z0 F Z σ H s Q q => h.run Z0 F Z σ H s Q fun v Z' H' A g r => by
  cases i with
  | fz ds =>
    cases r with
    | fz r =>
      cases r with
      | tup a b => exact q _ _ Z' H' g (.of (g.zh _ _ a)) b
  | own ds =>
    cases r with
    | tup a b => exact q _ _ Z' H' g (.of a) (RepOL.fzs b).2





/-- a new thing is frozen at once -/
theorem ME.frz (h : ME X ρ e o) (n : o.nv = true) : ME X ρ e (.fz o.frz) := .mk fun Z0 F Z σ H s Q q => h.run Z0 F Z σ H s Q fun v Z' H' A g r w => by
  refine q v (frzAt Z' H' A) H' [] ⟨g.zz.trans (ex_frzAt g.zh), g.hh, frzAt_ex g.zh, fun a u e => ?_⟩ (.fz (r.frz (ex_frzAt g.zh) (fun a m => frzAt_in m) n)) .nil
  have na : a ∉ A := fun m => by
    rw [(w.2 a m).1] at e
    cases e
  rw [frzAt_out na]
  exact g.nw a u e
theorem ME.frzl (h : ME X ρ e (.lst (ds.map .fz))) : ME X ρ e (.fz (.lst ds)) := by
  have q := h.frz (O.nvL_fz ds)
  rw [show (O.lst (ds.map .fz)).frz = .lst ds from congrArg D.lst (O.frzL_fz ds)] at q
  exact q
theorem ME.l (h : ME X ρ e (.lst (ds.map .fz))) : ML X ρ e ds := MV.l h.v (.own ds)

theorem mv_var {i : Nat} {x : Str} (p : PE X (.Name x pos) (tVar i)) (h : ρ[i]? = some (some o)) : MV X ρ (.Name x pos) o := .mk fun Z0 F Z σ H s Q q => by
  obtain ⟨A, h1, h2, h3⟩ := s.st
  obtain ⟨v, B, e, r, _⟩ := h1.get h
  exact PE_w p ⟨v, e, q v Z H B (Gr.refl s.ex) r⟩
theorem me_var {i : Nat} {x : Str} (p : PE X (.Name x pos) (tVar i)) (h : ρ[i]? = some (some (.fz d))) : ME X ρ (.Name x pos) (.fz d) := MV.em (mv_var p h)
theorem mr_var {i : Nat} {x : Str} (p : PE X (.Name x pos) (tVar i)) (h : ρ[i]? = some (some o)) : MR X ρ (.Name x pos) o := .mk fun Z0 F Z σ H s Q q => by
  obtain ⟨A, h1, h2, h3⟩ := s.st
  obtain ⟨v, B, e, r, n, m, _⟩ := h1.at h h2
  exact PE_w p ⟨v, e, q v Z H B (Gr.refl s.ex) r n fun a z => h3 a (m a z)⟩
/-- a value that is what it is -/
inductive Sc : D → V → Prop where
  | non : Sc .non .non
  | bl (b : Bool) : Sc (.bl b) (.bl b)
  | int (i : Int) : Sc (.int i) (.int i)
  | str (x : Str) : Sc (.str x) (.str x)
  | ty (n : String) : Sc (.ty n) (.ty n)
  | opq (a : Addr) : Sc (.opq a) (.ref a)
theorem Sc.rep {K : PySem.W.Frag} {Z : Hp} {v : V} (h : Sc d v) : Rep K Z v d := by
  cases h <;> constructor
theorem Sc.eq {K : PySem.W.Frag} {Z : Hp} {v w : V} (h : Sc d v) (r : Rep K Z w d) : w = v := by
  cases h <;> cases r <;> rfl
theorem me_c {v : V} (p : PE X e (tC v)) (h : Sc d v) : ME X ρ e (.fz d) := .mk fun Z0 F Z σ H s Q q => PE_w p (q v Z H [] (Gr.refl s.ex) (.fz h.rep) .nil)
theorem me_int {i : Int} {j : Nat} : ME X ρ (.Constant (.int i) j pos) (.fz (.int i)) := me_c pe_int (.int i)
theorem me_bl {b : Bool} {j : Nat} : ME X ρ (.Constant (.bool b) j pos) (.fz (.bl b)) := me_c pe_bl (.bl b)
theorem me_non {j : Nat} : ME X ρ (.Constant .none j pos) (.fz .non) := me_c pe_non .non
theorem me_str {x : Str} {j : Nat} : ME X ρ (.Constant (.str x) j pos) (.fz (.str x)) := me_c pe_str (.str x)

variable {a b : Expr} {d1 d2 d3 : D} {x y z : V}
theorem me_r2 {r : R2} {t : TE} (p : PE X e (tOp r (wE X a) (wE X b))) (ha : ME X ρ a (.fz d1)) (hb : ME X ρ b (.fz d2)) (s1 : Sc d1 x) (s2 : Sc d2 y) (s3 : Sc d3 z) (h : ∀ H (Q : VK), Q z H → r x y H Q) : ME X ρ e (.fz d3) := .mk fun Z0 F Z σ H s Q q => by
  refine PE_w p (ha.run Z0 F Z σ H s _ fun v Z1 H1 A1 g1 r1 n1 => ?_)
  refine hb.run Z0 F Z1 σ H1 (s.grow g1) _ fun w Z2 H2 A2 g2 r2 n2 => ?_
  cases r1 with
  | fz r1 =>
    cases r2 with
    | fz r2 =>
      rw [s1.eq r1, s2.eq r2]
      exact h H2 Q (q z Z2 H2 [] (g1.trans g2) (.fz s3.rep) .nil)
theorem me_op {op : Operator} {r : R2} (ho : OpR X (binaryOp op) r) (ha : ME X ρ a (.fz d1)) (hb : ME X ρ b (.fz d2)) (s1 : Sc d1 x) (s2 : Sc d2 y) (s3 : Sc d3 z) (h : ∀ H (Q : VK), Q z H → r x y H Q) : ME X ρ (.BinOp a op b pos) (.fz d3) :=
  me_r2 (t := tOp r (wE X a) (wE X b)) (pe_op ho pe_w pe_w) ha hb s1 s2 s3 h
variable {i j : Int}
theorem me_add (ha : ME X ρ a (.fz (.int i))) (hb : ME X ρ b (.fz (.int j))) : ME X ρ (.BinOp a .Add b pos) (.fz (.int (i + j))) := me_op op_add ha hb (.int i) (.int j) (.int _) fun _ _ q => ⟨i, j, rfl, rfl, q⟩
theorem me_sub (ha : ME X ρ a (.fz (.int i))) (hb : ME X ρ b (.fz (.int j))) : ME X ρ (.BinOp a .Sub b pos) (.fz (.int (i - j))) := me_op op_sub ha hb (.int i) (.int j) (.int _) fun _ _ q => ⟨i, j, rfl, rfl, q⟩
theorem me_mul (ha : ME X ρ a (.fz (.int i))) (hb : ME X ρ b (.fz (.int j))) (c : CMul i j := by first | exact Or.inr (by decide) | exact Or.inl (by decide)) : ME X ρ (.BinOp a .Mult b pos) (.fz (.int (i * j))) := me_op op_mul ha hb (.int i) (.int j) (.int _) fun _ _ q => ⟨i, j, rfl, rfl, c, q⟩
theorem me_fdiv (ha : ME X ρ a (.fz (.int i))) (hb : ME X ρ b (.fz (.int j))) (c : CDiv i j := by exact ⟨by decide, by decide⟩) : ME X ρ (.BinOp a .FloorDiv b pos) (.fz (.int (i / j))) := me_op op_fdiv ha hb (.int i) (.int j) (.int _) fun _ _ q => ⟨i, j, rfl, rfl, c, q⟩
theorem me_mod (ha : ME X ρ a (.fz (.int i))) (hb : ME X ρ b (.fz (.int j))) (c : 0 < j := by decide) : ME X ρ (.BinOp a .Mod b pos) (.fz (.int (i % j))) := me_op op_mod ha hb (.int i) (.int j) (.int _) fun _ _ q => ⟨i, j, rfl, rfl, c, q⟩
theorem me_pow (ha : ME X ρ a (.fz (.int i))) (hb : ME X ρ b (.fz (.int j))) (c : CPow i j := by exact ⟨by decide, by decide, by decide⟩) : ME X ρ (.BinOp a .Pow b pos) (.fz (.int (i ^ j.toNat))) := me_op op_pow ha hb (.int i) (.int j) (.int _) fun _ _ q => ⟨i, j, rfl, rfl, c, q⟩
variable {p q : Str}
theorem me_cat (ha : ME X ρ a (.fz (.str p))) (hb : ME X ρ b (.fz (.str q))) (c : p.length + q.length ≤ sizeLine) : ME X ρ (.BinOp a .Add b pos) (.fz (.str (p ++ q))) := me_op op_add_str ha hb (.str p) (.str q) (.str _) fun _ _ k => ⟨p, q, rfl, rfl, c, k⟩
theorem me_neg (ha : ME X ρ a (.fz (.int i))) : ME X ρ (.UnaryOp .USub a pos) (.fz (.int (-i))) := .mk fun Z0 F Z σ H s Q q => by
  refine PE_w (pe_un un_neg pe_w) (ha.run Z0 F Z σ H s _ fun v Z1 H1 A1 g1 r1 n1 => ?_)
  cases r1 with
  | fz r1 =>
    cases r1
    exact ⟨i, rfl, q _ Z1 H1 [] g1 (.fz (.int _)) .nil⟩

theorem me_cmp {op : CmpOp} {r : R2} {k : Bool} (ho : OpR X (compareOp op) r) (ha : ME X ρ a (.fz d1)) (hb : ME X ρ b (.fz d2)) (s1 : Sc d1 x) (s2 : Sc d2 y) (h : ∀ H (Q : VK), Q (.bl k) H → r x y H Q) (hm : behindInMarks op b = false) : ME X ρ (.Compare a [op] [b] pos) (.fz (.bl k)) :=
  me_r2 (t := tOp r (wE X a) (wE X b)) (pe_cmpR ho pe_w pe_w hm) ha hb s1 s2 (.bl k) h
theorem mt_cmp {op : CmpOp} {r : R2} {k : Bool} (ho : OpR X (compareOp op) r) (ha : ME X ρ a (.fz d1)) (hb : ME X ρ b (.fz d2)) (s1 : Sc d1 x) (s2 : Sc d2 y) (h : ∀ H (Q : VK), Q (.bl k) H → r x y H Q) (hm : behindInMarks op b = false) : MT X ρ (.Compare a [op] [b] pos) k := .mk fun Z0 F Z σ H s Q q => by
  refine PT_w (pt_cmpR ho pe_w pe_w hm) (ha.run Z0 F Z σ H s _ fun v Z1 H1 A1 g1 r1 n1 => ?_)
  refine hb.run Z0 F Z1 σ H1 (s.grow g1) _ fun w Z2 H2 A2 g2 r2 n2 => ?_
  cases r1 with
  | fz r1 =>
    cases r2 with
    | fz r2 =>
      rw [s1.eq r1, s2.eq r2]
      exact h H2 _ ⟨k, rfl, q Z2 H2 (g1.trans g2)⟩
theorem mt_lt (ha : ME X ρ a (.fz (.int i))) (hb : ME X ρ b (.fz (.int j))) : MT X ρ (.Compare a [.Lt] [b] pos) (decide (i < j)) := mt_cmp op_lt ha hb (.int i) (.int j) (fun _ _ k => ⟨i, j, rfl, rfl, k⟩) (nomark _)
theorem mt_le (ha : ME X ρ a (.fz (.int i))) (hb : ME X ρ b (.fz (.int j))) : MT X ρ (.Compare a [.LtE] [b] pos) (decide (i ≤ j)) := mt_cmp op_le ha hb (.int i) (.int j) (fun _ _ k => ⟨i, j, rfl, rfl, k⟩) (nomark _)
theorem me_gt (ha : ME X ρ a (.fz (.int i))) (hb : ME X ρ b (.fz (.int j))) : ME X ρ (.Compare a [.Gt] [b] pos) (.fz (.bl (decide (j < i)))) := me_cmp op_gt ha hb (.int i) (.int j) (fun _ _ k => ⟨i, j, rfl, rfl, k⟩) (nomark _)
theorem mt_gt (ha : ME X ρ a (.fz (.int i))) (hb : ME X ρ b (.fz (.int j))) : MT X ρ (.Compare a [.Gt] [b] pos) (decide (j < i)) := mt_cmp op_gt ha hb (.int i) (.int j) (fun _ _ k => ⟨i, j, rfl, rfl, k⟩) (nomark _)
theorem mt_ge (ha : ME X ρ a (.fz (.int i))) (hb : ME X ρ b (.fz (.int j))) : MT X ρ (.Compare a [.GtE] [b] pos) (decide (j ≤ i)) := mt_cmp op_ge ha hb (.int i) (.int j) (fun _ _ k => ⟨i, j, rfl, rfl, k⟩) (nomark _)
theorem me_eqI (ha : ME X ρ a (.fz (.int i))) (hb : ME X ρ b (.fz (.int j))) : ME X ρ (.Compare a [.Eq] [b] pos) (.fz (.bl (i == j))) := me_cmp op_eq ha hb (.int i) (.int j) (fun _ _ k => ⟨rfl, by rw [dec_int]; exact k⟩) (nomark _)
theorem me_eqS (ha : ME X ρ a (.fz (.str p))) (hb : ME X ρ b (.fz (.str q))) : ME X ρ (.Compare a [.Eq] [b] pos) (.fz (.bl (p == q))) := me_cmp op_eq ha hb (.str p) (.str q) (fun _ _ k => ⟨rfl, by rw [dec_str]; exact k⟩) (nomark _)
theorem mt_eqI (ha : ME X ρ a (.fz (.int i))) (hb : ME X ρ b (.fz (.int j))) : MT X ρ (.Compare a [.Eq] [b] pos) (i == j) := mt_cmp op_eq ha hb (.int i) (.int j) (fun _ _ k => ⟨rfl, by rw [dec_int]; exact k⟩) (nomark _)
theorem mt_neI (ha : ME X ρ a (.fz (.int i))) (hb : ME X ρ b (.fz (.int j))) : MT X ρ (.Compare a [.NotEq] [b] pos) (!(i == j)) := mt_cmp op_ne ha hb (.int i) (.int j) (fun _ _ k => ⟨rfl, by rw [dec_int]; exact k⟩) (nomark _)
theorem mt_eqS (ha : ME X ρ a (.fz (.str p))) (hb : ME X ρ b (.fz (.str q))) : MT X ρ (.Compare a [.Eq] [b] pos) (p == q) := mt_cmp op_eq ha hb (.str p) (.str q) (fun _ _ k => ⟨rfl, by rw [dec_str]; exact k⟩) (nomark _)
theorem mt_neS (ha : ME X ρ a (.fz (.str p))) (hb : ME X ρ b (.fz (.str q))) : MT X ρ (.Compare a [.NotEq] [b] pos) (!(p == q)) := mt_cmp op_ne ha hb (.str p) (.str q) (fun _ _ k => ⟨rfl, by rw [dec_str]; exact k⟩) (nomark _)

def D.isNon : D → Bool
  | .non => true
  | _ => false
def O.isNon : O → Bool
  | .fz d => d.isNon
  | .lk o => o.isNon
  | _ => false
theorem Rep.isNon {K : PySem.W.Frag} {Z : Hp} {v : V} (r : Rep K Z v d) : decide (v = .non) = d.isNon := by
  cases r <;> rfl
theorem RepK.isNon {K : PySem.W.Frag} {Z F : Hp} : ∀ {v : V} {o : O}, RepK K Z F v o → decide (v = .non) = o.isNon
  | _, _, .fz r => r.isNon
  | _, .lk o, .lk r => RepK.isNon (o := o) r
  | _, _, .vw _ _ => rfl
  | _, _, .vwa _ _ => rfl
  | _, _, .lst _ _ => rfl
  | _, _, .tup _ _ => rfl
  | _, _, .ins _ _ => rfl
  | _, _, .at _ _ => rfl
  | _, _, .dct _ _ => rfl
  | _, _, .dctT _ _ => rfl
  | _, _, .loc _ => rfl
  | _, _, .pt => rfl
theorem RepO.isNon {K : PySem.W.Frag} {Z F H : Hp} {v : V} {A : List Addr} (r : RepO K Z F H v o A) : decide (v = .non) = o.isNon := by
  cases r with
  | fz r => exact r.isNon
  | lk r => exact r.isNon
  | _ => rfl
theorem mt_isN {k2 : Nat} {p2 : Pos} (ha : MV X ρ a o) : MT X ρ (.Compare a [.Is] [.Constant .none k2 p2] pos) o.isNon := .mk fun Z0 F Z σ H s Q q => by
  refine PT_w (pt_cmpR op_isN pe_w pe_non (nomark _)) (ha.run Z0 F Z σ H s _ fun v Z1 H1 A1 g1 r1 => ?_)
  exact ⟨rfl, o.isNon, by rw [r1.isNon], q Z1 H1 g1⟩
/-- a value that is a bool, as a test -/
theorem mt_val {k : Bool} (ha : ME X ρ e (.fz (.bl k))) (he : ∀ whole, isTrue e X.env whole = (do let v ← whole; standAt e.pos; holding [v] (truthy v)) := by intro _; rfl) : MT X ρ e k := .mk fun Z0 F Z σ H s Q q => by
  refine PT_w (pt_val pe_w he) (ha.run Z0 F Z σ H s _ fun v Z1 H1 A1 g1 r1 n1 => ?_)
  cases r1 with
  | fz r1 =>
    cases r1
    exact ⟨k, rfl, q Z1 H1 g1⟩

def wW (X : Cx) (e : Expr) : TT := fun σ H Q => ∀ (whole : Sem Value) (pins : List (Addr × Obj)) (s : Shared), Inv X pins σ H s → wpAny (model X.prog X.w) X.A (isTrue e X.env whole) (TP X pins σ Q) X.xe s
theorem pw_w : PW X e (wW X e) := ⟨fun whole pins s _ _ _ I h => h whole pins s I⟩
theorem PW_w {t : TT} (p : PW X e t) {σ : L2.St} {H : Hp} {Q : Bool → Hp → Prop} (h : t σ H Q) : wW X e σ H Q := fun whole pins s I => p.run whole pins s σ H Q I h
structure MW (X : Cx) (ρ : Slots) (e : Expr) (b : Bool) : Prop where
  run : ∀ (Z0 F Z : Hp) (σ : L2.St) (H : Hp), StR X.K ρ Z0 F Z σ H → ∀ Q : Bool → Hp → Prop,
  (∀ Z' H', Gr Z H Z' H' → Q b H') → wW X e σ H Q
variable {k l : Bool} {rest : List Expr}
theorem MW.t (h : MW X ρ e k) : MT X ρ e k := .mk fun Z0 F Z σ H s Q q => PT_w (PW.pt pw_w) (h.run Z0 F Z σ H s Q q)
theorem mw_and1 (h : MT X ρ a k) : MW X ρ (.BoolOp .And [a] pos) k := .mk fun Z0 F Z σ H s Q q => PW_w (pw_and1 pt_w) (h.run Z0 F Z σ H s Q q)
theorem mw_or1 (h : MT X ρ a k) : MW X ρ (.BoolOp .Or [a] pos) k := .mk fun Z0 F Z σ H s Q q => PW_w (pw_or1 pt_w) (h.run Z0 F Z σ H s Q q)
theorem mw_and (h : MT X ρ a k) (h2 : k = true → MW X ρ (.BoolOp .And (b :: rest) pos) l) : MW X ρ (.BoolOp .And (a :: b :: rest) pos) (k && l) := .mk fun Z0 F Z σ H s Q q =>
  PW_w (pw_and pt_w pw_w) (h.run Z0 F Z σ H s _ fun Z1 H1 g1 => by
    cases k with
    | true => exact (h2 rfl).run Z0 F Z1 σ H1 (s.grow g1) Q fun Z2 H2 g2 => q Z2 H2 (g1.trans g2)
    | false => exact q Z1 H1 g1)
theorem mw_or (h : MT X ρ a k) (h2 : k = false → MW X ρ (.BoolOp .Or (b :: rest) pos) l) : MW X ρ (.BoolOp .Or (a :: b :: rest) pos) (k || l) := .mk fun Z0 F Z σ H s Q q =>
  PW_w (pw_or pt_w pw_w) (h.run Z0 F Z σ H s _ fun Z1 H1 g1 => by
    cases k with
    | true => exact q Z1 H1 g1
    | false => exact (h2 rfl).run Z0 F Z1 σ H1 (s.grow g1) Q fun Z2 H2 g2 => q Z2 H2 (g1.trans g2))
theorem mt_not (h : MT X ρ a k) : MT X ρ (.UnaryOp .Not a pos) (!k) := .mk fun Z0 F Z σ H s Q q => PT_w (pt_not pt_w) (h.run Z0 F Z σ H s _ fun Z1 H1 g1 => q Z1 H1 g1)
theorem me_one {op : BoolOp} (h : ME X ρ a o) : ME X ρ (.BoolOp op [a] pos) o := .mk fun Z0 F Z σ H s Q q => PE_w (pe_one pe_w) (h.run Z0 F Z σ H s Q q)
theorem me_and (h : ME X ρ a (.fz (.bl k))) (h2 : k = true → ME X ρ (.BoolOp .And (b :: rest) pos) (.fz (.bl l))) : ME X ρ (.BoolOp .And (a :: b :: rest) pos) (.fz (.bl (k && l))) := .mk fun Z0 F Z σ H s Q q =>
  PE_w (pe_and pe_w pe_w) (h.run Z0 F Z σ H s _ fun v Z1 H1 A1 g1 r1 n1 => by
    cases r1 with
    | fz r1 =>
      cases r1
      refine ⟨k, rfl, ?_⟩
      cases k with
      | true =>
        refine (h2 rfl).run Z0 F Z1 σ H1 (s.grow g1) Q fun w Z2 H2 A2 g2 r2 n2 => ?_
        cases r2 with
        | fz r2 => exact q w Z2 H2 [] (g1.trans g2) (.fz r2) .nil
      | false => exact q _ Z1 H1 [] g1 (.fz (.bl false)) .nil)
theorem me_not (h : ME X ρ a (.fz (.bl k))) : ME X ρ (.UnaryOp .Not a pos) (.fz (.bl (!k))) := .mk fun Z0 F Z σ H s Q q =>
  PE_w (pe_not pe_w) (h.run Z0 F Z σ H s _ fun v Z1 H1 A1 g1 r1 n1 => by
    cases r1 with
    | fz r1 =>
      cases r1
      exact ⟨k, rfl, q _ Z1 H1 [] g1 (.fz (.bl _)) .nil⟩)
/-- not starred -/
abbrev NS (X : Cx) (e : Expr) : Prop := ∀ es, starEach (e :: es) X.env = (false, eval e X.env) :: starEach es X.env
/-- frozen things -/
structure MF (X : Cx) (ρ : Slots) (es : List Expr) (ds : List D) : Prop where
  run : ∀ (Z0 F Z : Hp) (σ : L2.St) (H : Hp), StR X.K ρ Z0 F Z σ H → ∀ Q : List V → Hp → Prop,
  (∀ vs Z' H', Gr Z H Z' H' → RepL X.K Z' vs ds → Q vs H') → wA X es σ H Q
theorem mf_nil : MF X ρ [] [] := .mk fun Z0 F Z σ H s Q q => PA_w pa_nil (q [] Z H (Gr.refl s.ex) .nil)
theorem mf_cons (h : ME X ρ e (.fz d)) (h2 : MF X ρ es ds) (hs : starEach (e :: es) X.env = (false, eval e X.env) :: starEach es X.env := by rfl) : MF X ρ (e :: es) (d :: ds) := .mk fun Z0 F Z σ H s Q q =>
  PA_w (pa_cons pe_w pa_w hs) (h.run Z0 F Z σ H s _ fun v Z1 H1 A1 g1 r1 n1 => by
    cases r1 with
    | fz r1 => exact h2.run Z0 F Z1 σ H1 (s.grow g1) _ fun vs Z2 H2 g2 r2 => q _ Z2 H2 (g1.trans g2) (.cons (r1.mono g2.zz) r2))
theorem ma_nil : MA X ρ [] [] := .mk fun Z0 F Z σ H s Q q => PA_w pa_nil (q [] Z H (Gr.refl s.ex) .nil)
theorem ma_fz {os : List O} (h : ME X ρ e (.fz d)) (h2 : MA X ρ es os) (hs : starEach (e :: es) X.env = (false, eval e X.env) :: starEach es X.env := by rfl) : MA X ρ (e :: es) (.fz d :: os) := .mk fun Z0 F Z σ H s Q q =>
  PA_w (pa_cons pe_w pa_w hs) (h.run Z0 F Z σ H s _ fun v Z1 H1 A1 g1 r1 n1 => by
    cases r1 with
    | fz r1 => exact h2.run Z0 F Z1 σ H1 (s.grow g1) _ fun vs Z2 H2 g2 r2 => q _ Z2 H2 (g1.trans g2) (.cons (A := []) (B := []) (.fz (r1.mono g2.zz)) r2))
theorem ma_vw {os : List O} (h : ML X ρ e ds) (h2 : MA X ρ es os) (hs : starEach (e :: es) X.env = (false, eval e X.env) :: starEach es X.env := by rfl) : MA X ρ (e :: es) (.vw ds :: os) := .mk fun Z0 F Z σ H s Q q =>
  PA_w (pa_cons pe_w pa_w hs) (h.run Z0 F Z σ H s _ fun a vs Z1 H1 g1 l1 r1 =>
    h2.run Z0 F Z1 σ H1 (s.grow g1) _ fun ws Z2 H2 g2 r2 => q _ Z2 H2 (g1.trans g2) (.cons (A := []) (B := []) (.vw (ex_l g2.hh l1) (r1.mono g2.zz)) r2))
theorem new_one {H Z : Hp} {p : Addr} (h : H p = none) (h2 : Z p = none) : New H Z [p] := ⟨List.nodup_cons.mpr ⟨(fun m => nomatch m), List.nodup_nil⟩, fun a m => by
  cases List.mem_singleton.mp m
  exact ⟨h, h2⟩⟩
theorem me_tup {n : Nat} (h : MF X ρ es ds) (hl : ds.length ≤ 1000 := by first | decide | (simp; done)) : ME X ρ (.Tuple es n pos) (.fz (.tup ds)) := .mk fun Z0 F Z σ H s Q q =>
  PE_w (pe_tup pa_w) (h.run Z0 F Z σ H s _ fun vs Z1 H1 g1 r1 => ⟨(by rw [r1.length]; exact Nat.le_of_lt (small1000 hl)), fun p hp => by
    exact q _ (upd Z1 p (.tup vs)) _ [] (g1.trans (Gr.newz g1.zh hp)) (.fz (.tup upd_same (r1.mono (Ex.new (g1.zh.free hp))))) .nil⟩)
theorem me_lst (h : MF X ρ es ds) (hl : ds.length ≤ 1000 := by first | decide | (simp; done)) : ME X ρ (.List es pos) (.lst (ds.map .fz)) := .mk fun Z0 F Z σ H s Q q =>
  PE_w (pe_lst pa_w) (h.run Z0 F Z σ H s _ fun vs Z1 H1 g1 r1 => ⟨(by rw [r1.length]; exact Nat.le_of_lt (small1000 hl)), fun p hp => by
    refine q _ Z1 _ [p] (g1.trans (Gr.new g1.zh hp)) (.lst upd_same r1.own) (new_one (g1.hh.free hp) (g1.zh.free hp))⟩)

theorem RepL.atI {K : PySem.W.Frag} {Z : Hp} {vs : List V} {ds : List D} {i : Int} {d : D} (r : RepL K Z vs ds) (h : L2.atI ds i = some d) : ∃ v, L2.atI vs i = some v ∧ Rep K Z v d := by
  unfold L2.atI at h ⊢
  rw [r.length]
  cases e : ixN ds.length i with
  | none =>
    rw [e] at h
    cases h
  | some n =>
    rw [e] at h
    exact r.get h
theorem me_ixL (ha : ML X ρ a ds) (hb : ME X ρ b (.fz (.int i))) (h : L2.atI ds i = some d) (hp : PlainIx b := by exact fun _ _ => rfl) : ME X ρ (.Subscript a b pos) (.fz d) := .mk fun Z0 F Z σ H s Q q =>
  PE_w (pe_ix ix_list pe_w pe_w hp) (ha.run Z0 F Z σ H s _ fun l vs Z1 H1 g1 l1 r1 => hb.run Z0 F Z1 σ H1 (s.grow g1) _ fun w Z2 H2 A2 g2 r2 n2 => by
    cases r2 with
    | fz r2 =>
      cases r2
      obtain ⟨v, e, rv⟩ := (r1.mono g2.zz).atI h
      exact ⟨l, vs, i, v, rfl, rfl, ex_l g2.hh l1, e, q v Z2 H2 [] (g1.trans g2) (.fz rv) .nil⟩)
theorem me_ixT (ha : MU X ρ a ds) (hb : ME X ρ b (.fz (.int i))) (h : L2.atI ds i = some d) (hp : PlainIx b := by exact fun _ _ => rfl) : ME X ρ (.Subscript a b pos) (.fz d) := .mk fun Z0 F Z σ H s Q q =>
  PE_w (pe_ix ix_tup pe_w pe_w hp) (ha.run Z0 F Z σ H s _ fun l vs Z1 H1 g1 l1 r1 => hb.run Z0 F Z1 σ H1 (s.grow g1) _ fun w Z2 H2 A2 g2 r2 n2 => by
    cases r2 with
    | fz r2 =>
      cases r2
      obtain ⟨v, e, rv⟩ := (r1.mono g2.zz).atI h
      exact ⟨l, vs, i, v, rfl, rfl, ex_t g2.hh l1, e, q v Z2 H2 [] (g1.trans g2) (.fz rv) .nil⟩)
theorem me_ixS {c : Nat} (ha : ME X ρ a (.fz (.str p))) (hb : ME X ρ b (.fz (.int i))) (hl : p.length ≤ sizeLine) (h : L2.atI p.cps.toList i = some c) (hp : PlainIx b := by exact fun _ _ => rfl) : ME X ρ (.Subscript a b pos) (.fz (.str ⟨#[c]⟩)) :=
  me_r2 (t := tOp rIxS (wE X a) (wE X b)) (pe_ix ix_str pe_w pe_w hp) ha hb (.str p) (.int i) (.str _) fun _ _ k => ⟨p, i, c, rfl, rfl, hl, h, k⟩
theorem RepOL.get {K : PySem.W.Frag} {Z F H : Hp} : ∀ {vs : List V} {os : List O} {A : List Addr} {i : Nat} {o : O}, RepOL K Z F H vs os A → os[i]? = some o → ∃ v B, vs[i]? = some v ∧ RepO K Z F H v o B
  | _, _, _, _, _, .nil, e => by simp at e
  | _, _, _, 0, _, .cons h _, e => by
    simp at e
    subst e
    exact ⟨_, _, rfl, h⟩
  | _, _, _, i + 1, _, .cons _ r, e => by
    obtain ⟨v, B, h1, h2⟩ := RepOL.get (i := i) r (by simpa using e)
    exact ⟨v, B, by simpa using h1, h2⟩
theorem RepOL.length {K : PySem.W.Frag} {Z F H : Hp} : ∀ {vs : List V} {os : List O} {A : List Addr}, RepOL K Z F H vs os A → vs.length = os.length
  | _, _, _, .nil => rfl
  | _, _, _, .cons _ r => congrArg (· + 1) r.length
theorem RepOL.atI {K : PySem.W.Frag} {Z F H : Hp} {vs : List V} {os : List O} {A : List Addr} {i : Int} {o : O} (r : RepOL K Z F H vs os A) (h : L2.atI os i = some o) : ∃ v B, L2.atI vs i = some v ∧ RepO K Z F H v o B := by
  unfold L2.atI at h ⊢
  rw [r.length]
  cases e : ixN os.length i with
  | none =>
    rw [e] at h
    cases h
  | some n =>
    rw [e] at h
    exact r.get h
variable {nm T id : Str} {p0 p1 p2 : Pos}
theorem me_len (hg : Gl X "len") (hm : X.mg "len" = none) (ha : ML X ρ a ds) (n1 : NS X a := by exact fun _ => rfl) : ME X ρ (.Call (.Name "len" p0) [a] [] pos) (.fz (.int (ds.length : Int))) := .mk fun Z0 F Z σ H s Q q =>
  PE_w (pe_callB call_len_seq hg hm boot_len (pa_cons pe_w pa_nil (n1 _)) (he := n1 _)) (ha.run Z0 F Z σ H s _ fun l vs Z1 H1 g1 l1 r1 => ⟨l, vs, rfl, .inl l1, by rw [r1.length]; exact q _ Z1 H1 [] g1 (.fz (.int _)) .nil⟩)
theorem me_lenT (hg : Gl X "len") (hm : X.mg "len" = none) (ha : MU X ρ a ds) (n1 : NS X a := by exact fun _ => rfl) : ME X ρ (.Call (.Name "len" p0) [a] [] pos) (.fz (.int (ds.length : Int))) := .mk fun Z0 F Z σ H s Q q =>
  PE_w (pe_callB call_len_seq hg hm boot_len (pa_cons pe_w pa_nil (n1 _)) (he := n1 _)) (ha.run Z0 F Z σ H s _ fun l vs Z1 H1 g1 l1 r1 => ⟨l, vs, rfl, .inr l1, by rw [r1.length]; exact q _ Z1 H1 [] g1 (.fz (.int _)) .nil⟩)
theorem me_lenS (hg : Gl X "len") (hm : X.mg "len" = none) (ha : ME X ρ a (.fz (.str p))) (hl : p.length ≤ sizeLine) (n1 : NS X a := by exact fun _ => rfl) : ME X ρ (.Call (.Name "len" p0) [a] [] pos) (.fz (.int (p.length : Int))) := .mk fun Z0 F Z σ H s Q q =>
  PE_w (pe_callB call_len_str hg hm boot_len (pa_cons pe_w pa_nil (n1 _)) (he := n1 _)) (ha.run Z0 F Z σ H s _ fun v Z1 H1 A g1 r1 n1 => by
    cases r1 with
    | fz r1 =>
      cases r1
      exact ⟨p, rfl, hl, q _ Z1 H1 [] g1 (.fz (.int _)) .nil⟩)
theorem me_list (hg : Gl X "list") (hm : X.mg "list" = none) (ha : ML X ρ a ds) (n1 : NS X a := by exact fun _ => rfl) : ME X ρ (.Call (.Name "list" p0) [a] [] pos) (.lst (ds.map .fz)) := .mk fun Z0 F Z σ H s Q q =>
  PE_w (pe_callTy call_list_of hg hm (by decide +kernel) (pa_cons pe_w pa_nil (n1 _)) (he := n1 _)) (ha.run Z0 F Z σ H s _ fun l vs Z1 H1 g1 l1 r1 => ⟨l, vs, rfl, .inl l1, fun p hp =>
    q _ Z1 _ [p] (g1.trans (Gr.new g1.zh hp)) (.lst upd_same r1.own) (new_one (g1.hh.free hp) (g1.zh.free hp))⟩)
theorem me_min (hc : X.calm = true) (hg : Gl X "min") (hm : X.mg "min" = none) (ha : ME X ρ a (.fz (.int i))) (hb : ME X ρ b (.fz (.int j))) (n1 : NS X a := by exact fun _ => rfl) (n2 : NS X b := by exact fun _ => rfl) : ME X ρ (.Call (.Name "min" p0) [a, b] [] pos) (.fz (.int (min i j))) := .mk fun Z0 F Z σ H s Q q =>
  PE_w (pe_callB (call_min2 hc) hg hm (by decide +kernel) (pa_cons pe_w (pa_cons pe_w pa_nil (n2 _)) (n1 _)) (he := n1 _) (hpl := by rw [n2 []]; rfl)) (ha.run Z0 F Z σ H s _ fun v Z1 H1 A1 g1 r1 n1 => hb.run Z0 F Z1 σ H1 (s.grow g1) _ fun w Z2 H2 A2 g2 r2 n2 => by
    cases r1 with
    | fz r1 =>
      cases r2 with
      | fz r2 =>
        cases r1
        cases r2
        refine ⟨i, j, rfl, ?_⟩
        have e : (if j < i then j else i) = min i j := by omega
        rw [e]
        exact q _ Z2 H2 [] (g1.trans g2) (.fz (.int _)) .nil)
theorem me_max (hc : X.calm = true) (hg : Gl X "max") (hm : X.mg "max" = none) (ha : ME X ρ a (.fz (.int i))) (hb : ME X ρ b (.fz (.int j))) (n1 : NS X a := by exact fun _ => rfl) (n2 : NS X b := by exact fun _ => rfl) : ME X ρ (.Call (.Name "max" p0) [a, b] [] pos) (.fz (.int (max i j))) := .mk fun Z0 F Z σ H s Q q =>
  PE_w (pe_callB (call_max2 hc) hg hm (by decide +kernel) (pa_cons pe_w (pa_cons pe_w pa_nil (n2 _)) (n1 _)) (he := n1 _) (hpl := by rw [n2 []]; rfl)) (ha.run Z0 F Z σ H s _ fun v Z1 H1 A1 g1 r1 n1 => hb.run Z0 F Z1 σ H1 (s.grow g1) _ fun w Z2 H2 A2 g2 r2 n2 => by
    cases r1 with
    | fz r1 =>
      cases r2 with
      | fz r2 =>
        cases r1
        cases r2
        refine ⟨i, j, rfl, ?_⟩
        have e : (if j > i then j else i) = max i j := by omega
        rw [e]
        exact q _ Z2 H2 [] (g1.trans g2) (.fz (.int _)) .nil)
inductive MO (X : Cx) (ρ : Slots) : Option Expr → Option Int → Prop where
  | none : MO X ρ none none
  | some {e : Expr} {i : Int} (h : ME X ρ e (.fz (.int i))) : MO X ρ (some e) (some i)
theorem MO.run {eo : Option Expr} {io : Option Int} (h : MO X ρ eo io) : ∃ t, PO X eo t ∧ ∀ (Z0 F Z : Hp) (σ : L2.St) (H : Hp), StR X.K ρ Z0 F Z σ H → ∀ Q : Option Int → Hp → Prop, (∀ Z' H', Gr Z H Z' H' → Q io H') → t σ H Q := by
  cases h with
  | none => exact ⟨_, po_none, fun Z0 F Z σ H s Q q => q Z H (Gr.refl s.ex)⟩
  | @some e i h => exact ⟨_, po_some pe_w, fun Z0 F Z σ H s Q q => h.run Z0 F Z σ H s _ fun v Z1 H1 A1 g1 r1 n1 => by
      cases r1 with
      | fz r1 =>
        cases r1
        exact ⟨i, rfl, q Z1 H1 g1⟩⟩
def cutG {α : Type} (xs : List α) (lo hi : Option Int) : List α := (xs.drop (HT.sIx xs.length 0 lo)).take (HT.sIx xs.length xs.length hi - HT.sIx xs.length 0 lo)
theorem RepL.cut {K : PySem.W.Frag} {Z : Hp} {vs : List V} {ds : List D} (r : RepL K Z vs ds) (lo hi : Option Int) : RepL K Z (cutV vs lo hi) (cutG ds lo hi) := by
  unfold cutV cutG
  rw [r.length]
  exact (r.drop _).take _
theorem me_slL {lo hi : Option Expr} {li hj : Option Int} (ha : ML X ρ a ds) (hl : MO X ρ lo li) (hh : MO X ρ hi hj) : ME X ρ (.Subscript a (.Slice lo hi none p2) pos) (.lst ((cutG ds li hj).map .fz)) := .mk fun Z0 F Z σ H s Q q => by
  obtain ⟨tl, pl, kl⟩ := hl.run
  obtain ⟨th, ph, kh⟩ := hh.run
  refine PE_w (pe_slice sl_list pe_w pl ph) (ha.run Z0 F Z σ H s _ fun l vs Z1 H1 g1 l1 r1 => kl Z0 F Z1 σ H1 (s.grow g1) _ fun Z2 H2 g2 => kh Z0 F Z2 σ H2 (s.grow (g1.trans g2)) _ fun Z3 H3 g3 => ?_)
  refine ⟨l, vs, rfl, ex_l (g2.hh.trans g3.hh) l1, fun p hp => ?_⟩
  have g := g1.trans (g2.trans g3)
  exact q _ Z3 _ [p] (g.trans (Gr.new g.zh hp)) (.lst upd_same ((r1.mono (g2.zz.trans g3.zz)).cut li hj).own) (new_one (g.hh.free hp) (g.zh.free hp))

def D.tyN : D → Option String
  | .non => some "NoneType"
  | .bl _ => some "bool"
  | .int _ => some "int"
  | .str _ => some "str"
  | .tup _ => some "tuple"
  | .lst _ => some "list"
  | .dct _ _ => some "dict"
  | .dctT _ _ => some "dict"
  | _ => none
def O.tyN : O → Option String
  | .fz d => d.tyN
  | .vw _ => some "list"
  | .vwa _ _ => some "list"
  | .lk o => o.tyN
  | .lst _ => some "list"
  | .tup _ => some "tuple"
  | .dct _ _ => some "dict"
  | .dctT _ _ => some "dict"
  | .ins _ _ _ => none
  | .at _ _ _ _ => none
  | .loc _ o => o.tyN
  | .pt _ => none
  | .rs _ => none
theorem sql_ty {K : PySem.W.Frag} {H : Hp} {l : Addr} {vs : List V} (h : SqL K H l vs) : TyX K H (.ref l) (.type "list") := by
  rcases h with (h | ⟨o, h⟩) | ⟨o, its, n, h, c, _⟩
  · exact .base (.lst h)
  · exact .base (.frz h)
  · exact .kList h c
theorem sqt_ty {K : PySem.W.Frag} {H : Hp} {l : Addr} {vs : List V} (h : SqT K H l vs) : TyX K H (.ref l) (.type "tuple") := by
  rcases h with (h | ⟨o, h⟩) | ⟨o, its, n, h, c, _⟩
  · exact .base (.tup h)
  · exact .fTuple h
  · exact .kTuple h c
theorem Rep.ty' {K : PySem.W.Frag} {Z H : Hp} {v : V} {d : D} {t : String} (e : Ex Z H) (r : Rep K Z v d) (h : d.tyN = some t) : TyX K H v (.type t) := by
  cases r with
  | non => cases h; exact .base .non
  | bl b => cases h; exact .base (.bl b)
  | int i => cases h; exact .base (.int i)
  | str x => cases h; exact .base (.str x)
  | ty n => cases h
  | opq a => cases h
  | exc a b => cases h
  | hx a => cases h
  | tup a b => cases h; exact sqt_ty (.of (e _ _ a))
  | lst a b => cases h; exact sql_ty (ex_l e a)
  | ins a b => cases h
  | dct a b => cases h; exact .base (.dK (e _ _ a))
  | dctT a b => cases h; exact .base (.dT (e _ _ a))
theorem RepK.ty' {K : PySem.W.Frag} {Z F H : Hp} {t : String} (e : Ex Z H) (f : Ex F H) : ∀ {v : V} {o : O}, RepK K Z F v o → o.tyN = some t → TyX K H v (.type t)
  | _, _, .fz r, h => r.ty' e h
  | _, _, .vw a b, h => by cases h; exact sql_ty (ex_l f a)
  | _, _, .vwa a b, h => by cases h; exact sql_ty (ex_l f a)
  | _, .lk o, .lk r, h => RepK.ty' (o := o) e f r h
  | _, _, .lst a b, h => by cases h; exact .base (.lst (f _ _ a))
  | _, _, .tup a b, h => by cases h; exact .base (.tup (f _ _ a))
  | _, _, .ins a b, h => by cases h
  | _, _, .at a b, h => by cases h
  | _, _, .dct a b, h => by cases h; exact .base (.dK (f _ _ a))
  | _, _, .dctT a b, h => by cases h; exact .base (.dT (f _ _ a))
  | _, .loc _ o, .loc r, h => RepK.ty' (o := o) e f r h
  | _, _, .pt, h => by cases h
theorem RepO.ty' {K : PySem.W.Frag} {Z F H : Hp} {t : String} (e : Ex Z H) (f : Ex F H) : ∀ {v : V} {o : O} {A : List Addr}, RepO K Z F H v o A → o.tyN = some t → TyX K H v (.type t)
  | _, _, _, .fz r, h => r.ty' e h
  | _, _, _, .vw a b, h => by cases h; exact sql_ty (ex_l f a)
  | _, _, _, .vwa a b, h => by cases h; exact sql_ty (ex_l f a)
  | _, .lk o, _, .lk r, h => RepK.ty' (o := o) e f r h
  | _, _, _, .lst a b, h => by cases h; exact .base (.lst a)
  | _, _, _, .tup a b, h => by cases h; exact .base (.tup a)
  | _, _, _, .ins a b, h => by cases h
  | _, _, _, .at a b, h => by cases h
  | _, _, _, .dct a b, h => by cases h; exact .base (.dK a)
  | _, _, _, .dctT a b, h => by cases h; exact .base (.dT a)
  | _, _, _, .loc r, h => RepO.ty' e f r h
  | _, _, _, .pt, h => by cases h
theorem me_isi {T t : String} {TS : Str} {k : Bool} (hg : Gl X "isinstance") (hm : X.mg "isinstance" = none) (hT : PE X (.Name TS p1) (tC (.ty T))) (ha : MV X ρ a o) (ht : o.tyN = some t) (hk : kitB t T = some k) (n1 : NS X a := by exact fun _ => rfl) :
    ME X ρ (.Call (.Name "isinstance" p0) [a, .Name TS p1] [] pos) (.fz (.bl k)) := .mk fun Z0 F Z σ H s Q q =>
  PE_w (pe_callB call_isi hg hm (by decide +kernel) (pa_cons pe_w (pa_cons hT pa_nil) (n1 _)) (he := n1 _)) (ha.run Z0 F Z σ H s _ fun v Z1 H1 A1 g1 r1 =>
    ⟨v, .ty T, .type t, .type T, k, rfl, .ty T, r1.ty' g1.zh (s.gr.hh.trans g1.hh) ht, kit_ty hk, q _ Z1 H1 [] g1 (.fz (.bl k)) .nil⟩)
end
end M
namespace M
open PySem L2

theorem RepOL.snoc {K : PySem.W.Frag} {Z F H : Hp} {w : V} {o : O} {B : List Addr} (h : RepO K Z F H w o B) : ∀ {vs : List V} {os : List O} {A : List Addr}, RepOL K Z F H vs os A → RepOL K Z F H (vs ++ [w]) (os ++ [o]) (A ++ B)
  | _, _, _, .nil => by
    have q := RepOL.cons h (RepOL.nil (K := K) (Z := Z) (F := F) (H := H))
    rw [List.append_nil] at q
    exact q
  | _, _, _, .cons g r => by
    rw [List.append_assoc]
    exact .cons g (r.snoc h)
section
variable {X : Cx} {ρ : Slots} {e : Expr} {es : List Expr} {st : Stmt} {sts : List Stmt} {G : Go} {o : O} {d : D} {ds : List D} {pos : Pos} {i : Nat}

theorem m_set (p : PS X st (tAsg (wE X e) (gName i))) (h : ME X ρ e o) (k : G.nx (ρ.set i (some o))) (hi : i < ρ.length := by exact Nat.le_of_ble_eq_true rfl) : MS1 X ρ st G := .mk fun Z0 F Z σ H D s g =>
  PS_w p (h.run Z0 F Z σ H s _ fun v Z1 H1 A g1 r n => g.nx _ Z1 _ H1 k (s.put g1 r n hi))
theorem m_expr (p : PS X st (tDrop (wE X e))) (h : ME X ρ e o) (k : G.nx ρ) : MS1 X ρ st G := .mk fun Z0 F Z σ H D s g =>
  PS_w p (h.run Z0 F Z σ H s _ fun v Z1 H1 A g1 r n => g.nx _ Z1 _ H1 k (s.grow g1))
theorem m_ret (p : PS X st (tRet (wE X e))) (h : MR X ρ e o) (k : G.rt o) : MS1 X ρ st G := .mk fun Z0 F Z σ H D s g =>
  PS_w p (h.run Z0 F Z σ H s _ fun v Z1 H1 A g1 r n d => g.rt o v Z1 H1 A k (s.gr.trans g1) r ⟨n, fun a m => ⟨(d a m).2, (d a m).1⟩⟩)
theorem m_if {c : Expr} {a b : List Stmt} {t : Bool} (hc : MT X ρ c t) (h1 : t = true → MS X ρ a G) (h2 : t = false → MS X ρ b G) : MS1 X ρ (.If c a b pos) G := .mk fun Z0 F Z σ H D s g =>
  PS_w (ps_if pt_w pss_w pss_w) (hc.run Z0 F Z σ H s _ fun Z1 H1 g1 => by
    cases t with
    | true => exact (h1 rfl).run Z0 F Z1 σ H1 D (s.grow g1) g
    | false => exact (h2 rfl).run Z0 F Z1 σ H1 D (s.grow g1) g)
/-- a slot's thing is frozen from here on -/
theorem ms_frz (hi : ρ[i]? = some (some o)) (hn : o.nv = true) (h : MS X (ρ.set i (some (.fz o.frz))) sts G) : MS X ρ sts G := .mk fun Z0 F Z σ H D s g => by
  obtain ⟨Z', _, _, s'⟩ := s.freeze hi hn
  exact h.run Z0 F Z' σ H D s' g
theorem ms_frzl (hi : ρ[i]? = some (some (.lst (ds.map .fz)))) (h : MS X (ρ.set i (some (.fz (.lst ds)))) sts G) : MS X ρ sts G := by
  refine ms_frz hi (O.nvL_fz ds) ?_
  rw [show (O.lst (ds.map .fz)).frz = .lst ds from congrArg D.lst (O.frzL_fz ds)]
  exact h
theorem ms_le {τ : Slots} (l : Le ρ τ) (h : MS X τ sts G) : MS X ρ sts G := .mk fun Z0 F Z σ H D s g => h.run Z0 F Z σ H D (s.le l) g
theorem Go.le {τ : Slots} (h : MS X τ sts G) : ∀ ρ, Le ρ τ → MS X ρ sts G := fun _ l => ms_le l h
/-- another end -/
theorem ms_imp {G' : Go} (h : MS X ρ sts G) (n : ∀ ρ, G.nx ρ → G'.nx ρ) (r : ∀ o, G.rt o → G'.rt o) (b : ∀ ρ, G.bk ρ → G'.bk ρ) (c : ∀ ρ, G.ct ρ → G'.ct ρ) (rs : ∀ o ρ, G.rs o ρ → G'.rs o ρ := by exact fun _ _ h => h) : MS X ρ sts G' := .mk fun Z0 F Z σ H D s g =>
  h.run Z0 F Z σ H D s ⟨fun ρ Z σ H k => g.nx ρ Z σ H (n ρ k), fun ρ Z σ H k => g.bk ρ Z σ H (b ρ k), fun ρ Z σ H k => g.ct ρ Z σ H (c ρ k), fun o v Z H A k => g.rt o v Z H A (r o k), fun o ρ v Z σ H k => g.rs o ρ v Z σ H (rs o ρ k), g.ex.imp r⟩
/-- x.append(e), x a slot with an own list -/
theorem m_append {x : Str} {p1 p2 p3 p4 : Pos} {os : List O} {o : O} (p : PE X (.Name x p1) (tVar i)) (hi : ρ[i]? = some (some (.lst os))) (he : ME X ρ e o) (hl : os.length < sizeLine) (k : G.nx (ρ.set i (some (.lst (os ++ [o])))))
    (q : ∀ t, PE X (.Call (.Attribute (.Name x p1) "append" p2) [e] [] p3) t → PS X (.Expr (.Call (.Attribute (.Name x p1) "append" p2) [e] [] p3) p4) (tDrop t) := by exact fun _ h => ps_expr h)
    (pm : PE X (.Call (.Attribute (.Name x p1) "append" p2) [e] [] p3) (tBM X.K "list" rAppend (tVar i) (tCons (wE X e) tNil)) := by exact pe_bm PySem.F.plainAttrs_list PySem.F.slot_list_append PySem.F.type_list_append mt_append (pv _) (pa_cons pe_w pa_nil)) : MS1 X ρ (.Expr (.Call (.Attribute (.Name x p1) "append" p2) [e] [] p3) p4) G := .mk fun Z0 F Z σ H D s g => by
  obtain ⟨v, A, e1, r1, nA, dA, k1⟩ := s.upd hi
  cases r1 with
  | @lst a vs _ A h0 r1 =>
    refine PS_w (q _ pm) ⟨_, e1, .inl ⟨rfl, _, SqL.of h0⟩, ?_⟩
    refine he.run Z0 F Z σ H s _ fun w Z1 H1 B g1 r2 n2 => ?_
    refine ⟨a, vs, w, rfl, rfl, g1.hh _ _ h0, by rw [r1.length]; exact hl, ?_⟩
    have za : Z1 a = none := by
      rw [g1.nw a _ h0]
      exact (dA a List.mem_cons_self).1
    obtain ⟨na, nA'⟩ := List.nodup_cons.mp nA
    have nB : ∀ b ∈ B, b ≠ a ∧ b ∉ A := fun b m => by
      refine ⟨fun q => ?_, fun q => ?_⟩
      · have z := (n2.2 b m).1
        rw [q, h0] at z
        cases z
      · obtain ⟨u, hu⟩ := r1.there b q
        rw [(n2.2 b m).1] at hu
        cases hu
    have r1' : RepOL X.K Z1 F (upd H1 a (.lst (vs ++ [w]))) vs os A := r1.mono g1.zz (Ex.refl _) fun b m u hu => by
      have ne : b ≠ a := fun q => na (by rw [← q]; exact m)
      rw [upd_ne ne]
      exact g1.hh b u hu
    have r2' : RepO X.K Z1 F (upd H1 a (.lst (vs ++ [w]))) w o B := r2.mono (Ex.refl _) (Ex.refl _) fun b m u hu => by
      rw [upd_ne (nB b m).1]
      exact hu
    refine g.nx _ Z1 σ _ k (k1 g1.zz g1.nw (g1.zh.mut za) (fun b nb u hu => ?_) (.lst upd_same (r1'.snoc r2')) ?_ fun b m => ?_)
    · have ne : b ≠ a := fun q => nb (by rw [q]; exact List.mem_cons_self)
      rw [upd_ne ne]
      exact g1.hh b u hu
    · refine List.nodup_cons.mpr ⟨fun m => ?_, List.nodup_append.mpr ⟨nA', n2.1, fun b hb c hc q => (nB c hc).2 (by rw [← q]; exact hb)⟩⟩
      rcases List.mem_append.mp m with m | m
      · exact na m
      · exact (nB a m).1 rfl
    · rcases List.mem_cons.mp m with m | m
      · exact .inl (by rw [m]; exact List.mem_cons_self)
      · rcases List.mem_append.mp m with m | m
        · exact .inl (List.mem_cons_of_mem _ m)
        · exact .inr (n2.2 b m)
end
end M
namespace M
open PySem L2 PySem.Spec PyProof.Rows

section
variable {K : PySem.W.Frag} {Z0 Z Z' F H H' : Hp} {ρ : Slots} {σ : L2.St} {G : Go} {D : Ends}
/-- from a later beginning -/
theorem StR.rebase {H1 : Hp} (s : StR K ρ Z0 F Z σ H) : StR K ρ Z F Z σ H := ⟨⟨Ex.refl _, s.gr.hh, s.gr.zh, fun _ _ _ => rfl⟩, s.st⟩
theorem Gr.base {Z1 H1 : Hp} (g0 : Gr Z0 F Z1 H1) (g : Gr Z1 F Z H) : Gr Z0 F Z H := ⟨g0.zz.trans g.zz, g.hh, g.zh, fun a u e => (g.nw a u e).trans (g0.nw a u e)⟩
theorem StR.unbase {Z1 H1 : Hp} (g0 : Gr Z0 F Z1 H1) (s : StR K ρ Z1 F Z σ H) : StR K ρ Z0 F Z σ H := ⟨g0.base s.gr, s.st⟩
theorem GX.rebase {X : Cx} {Z1 H1 : Hp} {r : O → Prop} (g0 : Gr Z0 F Z1 H1) (g : GX X Z0 F r) : GX X Z1 F r := by
  obtain ⟨W, t, k⟩ := g
  exact ⟨W, t, fun e ρ Z σ H q s => k e ρ Z σ H q (s.unbase g0)⟩
theorem GD.rebase {X : Cx} {Z1 H1 : Hp} (g0 : Gr Z0 F Z1 H1) (g : GD X Z0 F G D) : GD X Z1 F G D :=
  ⟨fun ρ Z σ H k s => g.nx ρ Z σ H k (s.unbase g0), fun ρ Z σ H k s => g.bk ρ Z σ H k (s.unbase g0), fun ρ Z σ H k s => g.ct ρ Z σ H k (s.unbase g0), fun o v Z H A k r => g.rt o v Z H A k (g0.base r), fun o ρ v Z σ H k s => g.rs o ρ v Z σ H k (s.unbase g0), g.ex.rebase g0⟩
end

/-- a list that stands still -/
structure MK (X : Cx) (ρ : Slots) (e : Expr) (ds : List D) : Prop where
  run : ∀ (Z0 F Z : Hp) (σ : L2.St) (H : Hp), StR X.K ρ Z0 F Z σ H → ∀ Q : VK,
  (∀ a vs Z' H', Gr Z H Z' H' → (SqL X.K Z' a vs ∨ SqL X.K F a vs) → RepL X.K Z' vs ds → Q (.ref a) H') → wE X e σ H Q
/-- what is walked: n items, from the heap Zs (frozen) and F on -/
structure Wk (K : PySem.W.Frag) (Zs F : Hp) (J : It) (ds : List D) : Prop where
  go : ∀ (i : Nat) (d : D) (Z H : Hp), ds[i]? = some d → Ex Zs Z → Ex F H → Ex Z H → J.go i H ∧ ∀ x H', J.yld i H x H' → ∃ Z', Gr Z H Z' H' ∧ Rep K Z' x d
  stop : ∀ (Z H : Hp), Ex Zs Z → Ex F H → Ex Z H → J.stop ds.length H
structure MI (X : Cx) (ρ : Slots) (wi : TI) (ds : List D) : Prop where
  run : ∀ (Z0 F Z : Hp) (σ : L2.St) (H : Hp), StR X.K ρ Z0 F Z σ H → ∀ R : It → Hp → Prop,
  (∀ J Z' H', Gr Z H Z' H' → Wk X.K Z' F J ds → R J H') → wi σ H R
/-- a target: d is stored; the slots at ws change alone -/
structure MTg (g : TG) (K : PySem.W.Frag) (ρ : Slots) (d : D) (ρ' : Slots) (ws : List Nat) : Prop where
  run : ∀ (Z0 F Z : Hp) (σ : L2.St) (H : Hp) (v : V), StR K ρ Z0 F Z σ H → Rep K Z v d → ∀ Q : L2.St → Hp → Prop,
  (∀ σ', StR K ρ' Z0 F Z σ' H → (∀ vs : List Nat, (∀ w ∈ ws, w ∈ vs) → wipe σ' vs = wipe σ vs) → Q σ' H) → g v σ H Q
structure MTgs (g : TGs) (K : PySem.W.Frag) (ρ : Slots) (ds : List D) (ρ' : Slots) (ws : List Nat) : Prop where
  run : ∀ (Z0 F Z : Hp) (σ : L2.St) (H : Hp) (vs : List V), StR K ρ Z0 F Z σ H → RepL K Z vs ds → ∀ Q : L2.St → Hp → Prop,
  (∀ σ', StR K ρ' Z0 F Z σ' H → (∀ vs : List Nat, (∀ w ∈ ws, w ∈ vs) → wipe σ' vs = wipe σ vs) → Q σ' H) → g vs σ H Q
theorem wipe_get (σ : L2.St) : ∀ (vs : List Nat) (j : Nat), (wipe σ vs)[j]? = if j ∈ vs then (if j < σ.length then some none else none) else σ[j]?
  | [], j => by simp [wipe]
  | v :: vs, j => by
    unfold wipe
    rw [List.getElem?_set, wipe_length, wipe_get σ vs j]
    by_cases h : v = j
    · subst h
      by_cases hl : v < σ.length
      · simp [hl]
      · simp [hl]
    · have h2 : ¬ j = v := fun q => h q.symm
      simp [h, h2]
theorem wipe_set {σ : L2.St} {vs : List Nat} {i : Nat} {x : Option V} (h : i ∈ vs) : wipe (σ.set i x) vs = wipe σ vs := by
  apply List.ext_getElem?
  intro j
  rw [wipe_get, wipe_get, List.length_set]
  by_cases hj : j ∈ vs
  · rw [if_pos hj, if_pos hj]
  · rw [if_neg hj, if_neg hj]
    exact List.getElem?_set_ne (fun q => hj (by rw [← q]; exact h))
theorem wipe_wipe {σ : L2.St} {vs : List Nat} : wipe (wipe σ vs) vs = wipe σ vs := by
  apply List.ext_getElem?
  intro j
  rw [wipe_get, wipe_length, wipe_get]
  by_cases hj : j ∈ vs
  · rw [if_pos hj, if_pos hj]
  · rw [if_neg hj, if_neg hj]
section
variable {K : PySem.W.Frag} {ρ ρ' ρ2 : Slots} {d : D} {ds : List D} {i : Nat} {ws ws2 : List Nat}
theorem mg_name (hi : i < ρ.length := by exact Nat.le_of_ble_eq_true rfl) : MTg (gName i) K ρ d (ρ.set i (some (.fz d))) [i] := .mk fun Z0 F Z σ H v s r Q q =>
  q _ (s.put (Gr.refl s.ex) (.fz r) .nil hi) fun vs h => wipe_set (h i List.mem_cons_self)
theorem mgs_nil : MTgs gNil K ρ [] ρ [] := .mk fun Z0 F Z σ H vs s r Q q => by
  cases r
  exact ⟨rfl, q σ s fun _ _ => rfl⟩
theorem mgs_cons {t : TG} {u : TGs} (h1 : MTg t K ρ d ρ' ws) (h2 : MTgs u K ρ' ds ρ2 ws2) : MTgs (gCons t u) K ρ (d :: ds) ρ2 (ws ++ ws2) := .mk fun Z0 F Z σ H vs s r Q q => by
  cases r with
  | cons a b =>
    exact ⟨_, _, rfl, h1.run Z0 F Z σ H _ s a _ fun σ1 s1 w1 => h2.run Z0 F Z σ1 H _ s1 b _ fun σ2 s2 w2 => q σ2 s2 fun vs h =>
      (w2 vs fun w m => h w (List.mem_append_right _ m)).trans (w1 vs fun w m => h w (List.mem_append_left _ m))⟩
theorem mg_tup {n : Nat} {u : TGs} (h : MTgs u K ρ ds ρ' ws) (hn : ds.length = n) : MTg (gTup K n u) K ρ (.tup ds) ρ' ws := .mk fun Z0 F Z σ H v s r Q q => by
  cases r with
  | tup a b => exact ⟨_, _, rfl, .of (s.ex _ _ a), by rw [b.length, hn], h.run Z0 F Z σ H _ s b Q q⟩
end

section
variable {X : Cx} {ρ : Slots} {e : Expr} {es : List Expr} {st : Stmt} {sts : List Stmt} {G : Go} {o : O} {d : D} {ds : List D} {pos : Pos} {i : Nat}
theorem ME.k (h : ME X ρ e (.fz (.lst ds))) : MK X ρ e ds := .mk fun Z0 F Z σ H s Q q => h.run Z0 F Z σ H s Q fun v Z' H' A g r n => by
  cases r with
  | fz r =>
    cases r with
    | lst a b => exact q _ _ Z' H' g (.inl a) b
theorem MV.k (h : MV X ρ e (.vw ds)) : MK X ρ e ds := .mk fun Z0 F Z σ H s Q q => h.run Z0 F Z σ H s Q fun v Z' H' A g r => by
  cases r with
  | vw a b => exact q _ _ Z' H' g (.inr a) b
theorem MV.ka {a : Addr} (h : MV X ρ e (.vwa a ds)) : MK X ρ e ds := .mk fun Z0 F Z σ H s Q q => h.run Z0 F Z σ H s Q fun v Z' H' A g r => by
  cases r with
  | vwa a b => exact q _ _ Z' H' g (.inr a) b
theorem MK.l (h : MK X ρ e ds) : ML X ρ e ds := .mk fun Z0 F Z σ H s Q q => h.run Z0 F Z σ H s Q fun a vs Z' H' g l r => q a vs Z' H' g (l.elim (ex_l g.zh) (ex_l (s.gr.hh.trans g.hh))) r
theorem mi_list (h : MK X ρ e ds) : MI X ρ (iList X.K (wE X e)) ds := .mk fun Z0 F Z σ H s R q => h.run Z0 F Z σ H s _ fun a vs Z' H' g l r => by
  have lv : ∀ {Z2 H2 : Hp}, Ex Z' Z2 → Ex F H2 → Ex Z2 H2 → SqL X.K H2 a vs := fun e f z => l.elim (fun l => ex_l (e.trans z) l) fun l => ex_l f l
  refine ⟨a, rfl, ⟨vs, lv (Ex.refl _) (s.gr.hh.trans g.hh) g.zh⟩, q _ Z' H' g ⟨fun j d Z2 H2 hd ez ef zh => ?_, fun Z2 H2 ez ef zh => ⟨vs, lv ez ef zh, Nat.le_of_eq r.length⟩⟩⟩
  obtain ⟨x, hx, rx⟩ := r.get hd
  refine ⟨⟨vs, x, lv ez ef zh, hx⟩, fun y H3 hy => ?_⟩
  obtain ⟨e3, hy⟩ := hy
  subst e3
  have e4 := hy vs (lv ez ef zh)
  rw [hx] at e4
  cases e4
  exact ⟨Z2, Gr.refl zh, rx.mono ez⟩
/-- a text, sign by sign -/
def sgn (x : Str) : List D := x.cps.toList.map fun c => .str ⟨#[c]⟩
theorem mi_str {x : Str} (h : ME X ρ e (.fz (.str x))) : MI X ρ (iStr (wE X e)) (sgn x) := .mk fun Z0 F Z σ H s R q => h.run Z0 F Z σ H s _ fun v Z' H' A g r n => by
  cases r with
  | fz r =>
    cases r
    refine ⟨x, rfl, q _ Z' H' g ⟨fun j d Z2 H2 hd ez ef zh => ?_, fun Z2 H2 ez ef zh => ?_⟩⟩
    · unfold sgn at hd
      rw [List.getElem?_map] at hd
      cases e : x.cps.toList[j]? with
      | none =>
        rw [e] at hd
        cases hd
      | some c =>
        rw [e] at hd
        have hd2 : D.str ⟨#[c]⟩ = d := Option.some.inj hd
        subst hd2
        have e' : x.cps[j]? = some c := by simpa using e
        refine ⟨(Array.getElem?_eq_some_iff.mp e').1, fun y H3 hy => ?_⟩
        obtain ⟨e3, c2, h1, h2⟩ := hy
        subst e3 h2
        rw [e'] at h1
        cases h1
        exact ⟨Z2, Gr.refl zh, .str _⟩
    · show x.cps.size ≤ (sgn x).length
      unfold sgn
      simp
def rng (lo : Int) (n : Nat) : List D := (List.range n).map fun k => .int (lo + (k : Nat))
theorem rng_len (lo : Int) (n : Nat) : (rng lo n).length = n := by simp [rng]
theorem rng_get {lo : Int} {n i : Nat} {d : D} (h : (rng lo n)[i]? = some d) : i < n ∧ d = .int (lo + (i : Nat)) := by
  unfold rng at h
  rw [List.getElem?_map] at h
  by_cases hi : i < n
  · rw [List.getElem?_range hi] at h
    exact ⟨hi, (Option.some.inj h).symm⟩
  · rw [List.getElem?_eq_none (by simpa using hi)] at h
    cases h
theorem wk_rng {K : PySem.W.Frag} {Zs F : Hp} (lo : Int) (n : Nat) : Wk K Zs F (Itr lo n) (rng lo n) := ⟨fun i d Z H h _ _ zh => by
    obtain ⟨hi, e⟩ := rng_get h
    subst e
    refine ⟨hi, fun x H' hy => ?_⟩
    obtain ⟨e, ex⟩ := hy
    subst e ex
    exact ⟨Z, Gr.refl zh, .int _⟩, fun Z H _ _ _ => Nat.le_of_eq (rng_len lo n).symm⟩
theorem mi_range1 {j : Int} (h : MF X ρ es [.int j]) (h1 : -(2 ^ 62) ≤ j) (h2 : j < 2 ^ 62) : MI X ρ (iRng1 (wA X es)) (rng 0 j.toNat) := .mk fun Z0 F Z σ H s R q => h.run Z0 F Z σ H s _ fun vs Z' H' g r => by
  cases r with
  | cons a r =>
    cases a
    cases r
    exact ⟨j, rfl, h1, h2, q _ Z' H' g (wk_rng 0 _)⟩
theorem mi_range2 {k j : Int} (h : MF X ρ es [.int k, .int j]) (hb : -(2 ^ 62) ≤ k ∧ k < 2 ^ 62 ∧ -(2 ^ 62) ≤ j ∧ j < 2 ^ 62) : MI X ρ (iRng2 (wA X es)) (rng k (j - k).toNat) := .mk fun Z0 F Z σ H s R q => h.run Z0 F Z σ H s _ fun vs Z' H' g r => by
  cases r with
  | cons a r =>
    cases a
    cases r with
    | cons b r =>
      cases b
      cases r
      exact ⟨k, j, rfl, hb, q _ Z' H' g (wk_rng k _)⟩

/-- for: I i holds ahead of turn i -/
theorem m_for {wi : TI} {g : TG} {body : List Stmt} (p : PS X st (tFor wi g (wS X body))) (h : MI X ρ wi ds) (I : Nat → Slots → Prop) (h0 : I 0 ρ)
    (hs : ∀ (j : Nat) (d : D) (τ : Slots), ds[j]? = some d → I j τ → ∃ τ' ws, MTg g X.K τ d τ' ws ∧ MS X τ' body { nx := I (j + 1), ct := I (j + 1), bk := G.nx, rt := G.rt, rs := G.rs })
    (hd : ∀ τ, I ds.length τ → G.nx τ) : MS1 X ρ st G := .mk fun Z0 F Z σ H D s gd => by
  refine PS_w p (h.run Z0 F Z σ H s _ fun J Z1 H1 g1 wk => ?_)
  have s1 := s.grow g1
  have g0 : Gr Z0 F Z1 H1 := s1.gr
  refine ⟨fun j m σ H => m = ds.length - j ∧ j ≤ ds.length ∧ ∃ τ Z2, I j τ ∧ StR X.K τ Z1 F Z2 σ H, ⟨ds.length, by simp, Nat.zero_le _, ρ, Z1, h0, ⟨⟨Ex.refl _, g0.hh, g0.zh, fun _ _ _ => rfl⟩, s1.st⟩⟩, ?_⟩
  rintro j m σ2 H2 ⟨rfl, hj, τ, Z2, hI, s2⟩
  by_cases hlt : j < ds.length
  · obtain ⟨d, ed⟩ : ∃ d, ds[j]? = some d := ⟨ds[j], by simp [hlt]⟩
    obtain ⟨w1, w2⟩ := wk.go j d Z2 H2 ed s2.gr.zz s2.gr.hh s2.gr.zh
    refine .inr ⟨w1, fun σ' H' => ∃ τ Z2, I (j + 1) τ ∧ StR X.K τ Z1 F Z2 σ' H', fun σ' H' q => ⟨ds.length - (j + 1), by omega, rfl, hlt, q⟩, fun x H3 hy => ?_⟩
    obtain ⟨Z3, g3, r3⟩ := w2 x H3 hy
    have s3 := s2.grow g3
    obtain ⟨τ', ws, t1, t2⟩ := hs j d τ ed hI
    refine t1.run Z1 F Z3 σ2 H3 x s3 r3 _ fun σ4 s4 _ => ?_
    exact t2.run Z1 F Z3 σ4 H3 _ s4 ⟨fun τ Z σ H k s => ⟨τ, Z, k, s⟩, fun τ Z σ H k s => gd.nx τ Z σ H k (s.unbase g0), fun τ Z σ H k s => ⟨τ, Z, k, s⟩, fun o v Z H A k gr r n => gd.rt o v Z H A k (g0.base gr) r n, fun o ρ v Z σ H k s => gd.rs o ρ v Z σ H k (s.unbase g0), gd.ex.rebase g0⟩
  · have e : j = ds.length := by omega
    subst e
    exact .inl ⟨wk.stop Z2 H2 s2.gr.zz s2.gr.hh s2.gr.zh, gd.nx τ Z2 σ2 H2 (hd τ hI) (s2.unbase g0)⟩
/-- a, b = e, e a frozen tuple -/
theorem m_tgt {g : TG} {ρ' : Slots} {ws : List Nat} (p : PS X st (tAsg (wE X e) g)) (h : ME X ρ e (.fz d)) (t : MTg g X.K ρ d ρ' ws) (k : G.nx ρ') : MS1 X ρ st G := .mk fun Z0 F Z σ H D s gd =>
  PS_w p (h.run Z0 F Z σ H s _ fun v Z1 H1 A g1 r n => by
    cases r with
    | fz r => exact t.run Z0 F Z1 σ H1 v (s.grow g1) r _ fun σ2 s2 _ => gd.nx ρ' Z1 σ2 H1 k s2)
/-- the promise of a def: the arguments (frozen things, lists that stay as they are), what is handed back -/
def SpM {α : Type} (K : PySem.W.Frag) (ar : α → List O) (pre : α → Prop) (res : α → O) : Sp := fun vs H Q _ => ∃ (x : α) (Z : Hp), Ex Z H ∧ RepOL K Z H H vs (ar x) [] ∧ pre x ∧
  ∀ v Z' H' A, Gr Z H Z' H' → RepO K Z' (fun _ => none) H' v (res x) A → New H Z' A → Q v H'
theorem me_call {α : Type} {ar : α → List O} {pre : α → Prop} {res : α → O} {E : XK} (p : PE X e (tCall (SpM X.K ar pre res) [] E (wA X es))) (x : α) (ha : MA X ρ es (ar x)) (hp : pre x) : ME X ρ e (res x) := .mk fun Z0 F Z σ H s Q q =>
  PE_w p (ha.run Z0 F Z σ H s _ fun vs Z1 H1 g1 r1 => ⟨x, Z1, g1.zh, by rw [List.append_nil]; exact r1, hp, fun v Z2 H2 A g2 r2 n2 =>
    q v Z2 H2 A (g1.trans g2) (r2.mono (Ex.refl _) (fun _ _ z => by cases z) fun _ _ _ z => z) ⟨n2.1, fun a m => ⟨g1.hh.free (n2.2 a m).1, (n2.2 a m).2⟩⟩⟩)
mutual
theorem RepO.unF {K : PySem.W.Frag} {Z F F' H : Hp} : ∀ {v : V} {o : O} {A : List Addr}, RepO K Z F H v o A → o.nv = true → RepO K Z F' H v o A
  | _, _, _, .fz h, _ => .fz h
  | _, _, _, .vw _ _, n => nomatch n
  | _, _, _, .vwa _ _, n => nomatch n
  | _, _, _, .lk _, n => nomatch n
  | _, _, _, .lst h r, n => .lst h (RepOL.unF r n)
  | _, _, _, .tup h r, n => .tup h (RepOL.unF r n)
  | _, _, _, .ins h r, n => .ins h (RepOL.unF r n)
  | _, _, _, .at h r, n => .at h (RepOL.unF r n)
  | _, _, _, .loc h, n => .loc (RepO.unF h n)
  | _, _, _, .pt, _ => .pt
  | _, _, _, .dct h r, n => .dct h (RepOL.unF r n)
  | _, _, _, .dctT h r, n => .dctT h (RepOL.unF r n)
theorem RepOL.unF {K : PySem.W.Frag} {Z F F' H : Hp} : ∀ {vs : List V} {os : List O} {A : List Addr}, RepOL K Z F H vs os A → O.nvL os = true → RepOL K Z F' H vs os A
  | _, _, _, .nil, _ => .nil
  | _, _, _, .cons h r, n => .cons (RepO.unF h (Bool.and_eq_true_iff.mp n).1) (RepOL.unF r (Bool.and_eq_true_iff.mp n).2)
end
theorem stL_args {K : PySem.W.Frag} {Z F H : Hp} : ∀ {vs : List V} {os : List O} {A : List Addr}, RepOL K Z F H vs os A → StL K Z F H (os.map some) (vs.map some) A
  | _, _, _, .nil => .nil
  | _, _, _, .cons h r => .so h (stL_args r)
theorem stL_more {K : PySem.W.Frag} {Z F H : Hp} (n : Nat) : ∀ {ρ : Slots} {σ : L2.St} {A : List Addr}, StL K Z F H ρ σ A → StL K Z F H (ρ ++ List.replicate n none) (σ ++ List.replicate n none) A
  | _, _, _, .nil => by
    rw [List.nil_append, List.nil_append]
    induction n with
    | zero => exact .nil
    | succ n ih => exact .no ih
  | _, _, _, .no h => .no (stL_more n h)
  | _, _, _, .so r h => .so r (stL_more n h)
/-- a def's body keeps its promise -/
theorem fn_m {α : Type} {P : Program} {w : World} {K : PySem.W.Frag} {mg : Str → Option Value} {base : Heap} {x qual : Str} {st : Stmt} {f : Addr} {fd : FuncData} {N ps : List Str} {k : Nat} {ar : α → List O} {pre : α → Prop} {res : α → O}
    (F : Fun K x qual st f fd) (S : FnScope N ps (defScope st)) (hl : ∀ x, (ar x).length = ps.length) (hn : ∀ x, pre x → (res x).nv = true)
    (hb : ∀ (cdv : Value) (A : Around) (outer : List Env) (s : Shared) (H : Hp) (E : XK), Room k (A.deeper (envOfC qual (defScope st) s.heap.objs.size f cdv)) → ∀ x, pre x →
      MS (cxOf CX0 P w K mg base N qual (defScope st) f cdv A outer s H E).nox ((ar x).map some ++ List.replicate (N.length - ps.length) none) (defBody st) { nx := fun _ => res x = .fz .non, rt := fun o => o = res x }) :
    FnOk P w K mg base CX0 (k + 1) f fd ps (SpM K ar pre res) := by
  refine F.ok S (fun vs H Q E h => ?_) (fun cdv A outer s H vs Q E hr h => ?_)
  · obtain ⟨x, Z, _, r, _⟩ := h
    rw [r.length, hl]
  · obtain ⟨x, Z, ez, r, hp, q⟩ := h
    refine ⟨_, pss_w, (hb cdv A outer s H E hr x hp).run Z H Z _ H _ ⟨Gr.refl ez, [], ?_, List.nodup_nil, fun _ m => nomatch m⟩ ⟨fun ρ Z' σ H' e s' => ?_, fun _ _ _ _ z => z.elim, fun _ _ _ _ z => z.elim, fun o v Z' H' A e g r n => ?_, fun _ _ _ _ _ _ z => z.elim, GX.never fun e z => by
      have n := hn x hp
      rw [← show O.rs e = res x from z] at n
      cases n⟩⟩
    · have e : L2.start N vs = vs.map some ++ List.replicate (N.length - ps.length) none := by
        unfold L2.start
        rw [r.length, hl]
      rw [e]
      exact stL_more _ (stL_args r)
    · refine q _ Z' H' [] s'.gr ?_ .nil
      rw [e]
      exact .fz .non
    · subst e
      exact q _ Z' H' A g (r.unF (hn x hp)) n
end
end M
namespace M
open PySem L2 PySem.Spec PyProof.Rows

mutual
def D.py : D → PyData
  | .bl b => .bool b
  | .int i => .int i
  | .str x => .str x
  | .tup ds => .tuple (D.pyL ds)
  | .lst ds => .list (D.pyL ds)
  | _ => .none
def D.pyL : List D → List PyData
  | [] => []
  | d :: r => d.py :: D.pyL r
end
mutual
def D.pl : D → Bool
  | .non => true
  | .bl _ => true
  | .int _ => true
  | .str _ => true
  | .tup ds => D.plL ds
  | .lst ds => D.plL ds
  | _ => false
def D.plL : List D → Bool
  | [] => true
  | d :: r => d.pl && D.plL r
end
section
variable {K : PySem.W.Frag} {Z F H : Hp}
mutual
theorem Rep.dp (e : Ex Z H) : ∀ {v : V} {d : D}, Rep K Z v d → d.pl = true → Dp K H v d.py
  | _, _, .non, _ => .non
  | _, _, .bl b, _ => .bl b
  | _, _, .int i, _ => .int i
  | _, _, .str x, _ => .str x
  | _, _, .ty _, h => nomatch h
  | _, _, .opq _, h => nomatch h
  | _, _, .exc _ _, h => nomatch h
  | _, _, .hx _, h => nomatch h
  | _, _, .tup a r, h => .tup (.of (e _ _ a)) (RepL.dp e r h)
  | _, _, .lst a r, h => .lst (ex_l e a) (RepL.dp e r h)
  | _, _, .ins _ _, h => nomatch h
  | _, _, .dct _ _, h => nomatch h
  | _, _, .dctT _ _, h => nomatch h
theorem RepL.dp (e : Ex Z H) : ∀ {vs : List V} {ds : List D}, RepL K Z vs ds → D.plL ds = true → DpAll K H vs (D.pyL ds)
  | _, _, .nil, _ => .nil
  | _, _, .cons a r, h => .cons (Rep.dp e a (Bool.and_eq_true_iff.mp h).1) (RepL.dp e r (Bool.and_eq_true_iff.mp h).2)
end
mutual
theorem RepK.dp (e : Ex Z H) (f : Ex F H) : ∀ {v : V} {o : O}, RepK K Z F v o → o.frz.pl = true → Dp K H v o.frz.py
  | _, _, .fz r, h => r.dp e h
  | _, _, .vw a r, h => .lst (ex_l f a) (r.dp e h)
  | _, _, .vwa a r, h => .lst (ex_l f a) (r.dp e h)
  | _, .lk o, .lk r, h => RepK.dp (o := o) e f r h
  | _, _, .lst a r, h => .lst (.of (f _ _ a)) (RepKL.dp e f r h)
  | _, _, .tup a r, h => .tup (.of (f _ _ a)) (RepKL.dp e f r h)
  | _, .loc _ o, .loc r, h => RepK.dp (o := o) e f r h
  | _, _, .pt, h => nomatch h
  | _, _, .ins _ _, h => nomatch h
  | _, _, .at _ _, h => nomatch h
  | _, _, .dct _ _, h => nomatch h
  | _, _, .dctT _ _, h => nomatch h
theorem RepKL.dp (e : Ex Z H) (f : Ex F H) : ∀ {vs : List V} {os : List O}, RepKL K Z F vs os → D.plL (O.frzL os) = true → DpAll K H vs (D.pyL (O.frzL os))
  | _, _, .nil, _ => .nil
  | _, _, .cons a r, h => .cons (RepK.dp e f a (Bool.and_eq_true_iff.mp h).1) (RepKL.dp e f r (Bool.and_eq_true_iff.mp h).2)
end
mutual
theorem RepO.dp (e : Ex Z H) (f : Ex F H) : ∀ {v : V} {o : O} {A : List Addr}, RepO K Z F H v o A → o.frz.pl = true → Dp K H v o.frz.py
  | _, _, _, .fz r, h => r.dp e h
  | _, _, _, .vw a r, h => .lst (ex_l f a) (r.dp e h)
  | _, _, _, .vwa a r, h => .lst (ex_l f a) (r.dp e h)
  | _, .lk o, _, .lk r, h => RepK.dp (o := o) e f r h
  | _, _, _, .lst a r, h => .lst (.of a) (RepOL.dp e f r h)
  | _, _, _, .tup a r, h => .tup (.of a) (RepOL.dp e f r h)
  | _, .loc _ o, _, .loc r, h => RepO.dp (o := o) e f r h
  | _, _, _, .pt, h => nomatch h
  | _, _, _, .ins _ _, h => nomatch h
  | _, _, _, .dct _ _, h => nomatch h
  | _, _, _, .dctT _ _, h => nomatch h
theorem RepOL.dp (e : Ex Z H) (f : Ex F H) : ∀ {vs : List V} {os : List O} {A : List Addr}, RepOL K Z F H vs os A → D.plL (O.frzL os) = true → DpAll K H vs (D.pyL (O.frzL os))
  | _, _, _, .nil, _ => .nil
  | _, _, _, .cons a r, h => .cons (RepO.dp e f a (Bool.and_eq_true_iff.mp h).1) (RepOL.dp e f r (Bool.and_eq_true_iff.mp h).2)
end
end
/-- data that can be compared -/
def D.ok (d : D) : Prop := d.pl = true ∧ SeqAt.shaped d.py = true
def D.eqv (d e : D) : Bool := PyData.eqv d.py e.py
section
variable {X : Cx} {ρ : Slots} {e a b elt : Expr} {es : List Expr} {st : Stmt} {sts : List Stmt} {G : Go} {o o1 o2 : O} {d : D} {ds : List D} {pos : Pos} {i : Nat}
theorem me_rD {r : R2} {t : TE} {k : Bool} (p : PE X e (tOp r (wE X a) (wE X b))) (ha : MV X ρ a o1) (hb : MV X ρ b o2) (h1 : o1.frz.pl = true) (h2 : o2.frz.pl = true)
    (h : ∀ x y H (Q : VK), Dp X.K H x o1.frz.py → Dp X.K H y o2.frz.py → Q (.bl k) H → r x y H Q) : ME X ρ e (.fz (.bl k)) := .mk fun Z0 F Z σ H s Q q => by
  refine PE_w p (ha.run Z0 F Z σ H s _ fun v Z1 H1 A1 g1 r1 => ?_)
  refine hb.run Z0 F Z1 σ H1 (s.grow g1) _ fun w Z2 H2 A2 g2 r2 => ?_
  have g := g1.trans g2
  exact h v w H2 Q ((r1.ex g2.zz g2.hh).dp g2.zh (s.gr.hh.trans g.hh) h1) (r2.dp g2.zh (s.gr.hh.trans g.hh) h2) (q _ Z2 H2 [] g (.fz (.bl k)) .nil)
theorem me_eqD (hu : X.A.units + 64 < cLine) (ha : MV X ρ a o1) (hb : MV X ρ b o2) (h1 : o1.frz.ok) (h2 : o2.frz.ok) : ME X ρ (.Compare a [.Eq] [b] pos) (.fz (.bl (o1.frz.eqv o2.frz))) :=
  me_rD (t := tOp (rEqD X.K) (wE X a) (wE X b)) (pe_cmpR (op_eqD hu) pe_w pe_w (nomark _)) ha hb h1.1 h2.1 fun x y H Q p1 p2 q => ⟨_, _, p1, p2, h1.2, h2.2, q⟩
theorem mt_rD {r : R2} {k : Bool} (p : PT X e (tTest (tOp r (wE X a) (wE X b)))) (ha : MV X ρ a o1) (hb : MV X ρ b o2) (h1 : o1.frz.pl = true) (h2 : o2.frz.pl = true)
    (h : ∀ x y H (Q : VK), Dp X.K H x o1.frz.py → Dp X.K H y o2.frz.py → Q (.bl k) H → r x y H Q) : MT X ρ e k := .mk fun Z0 F Z σ H s Q q => by
  refine PT_w p (ha.run Z0 F Z σ H s _ fun v Z1 H1 A1 g1 r1 => ?_)
  refine hb.run Z0 F Z1 σ H1 (s.grow g1) _ fun w Z2 H2 A2 g2 r2 => ?_
  have g := g1.trans g2
  exact h v w H2 _ ((r1.ex g2.zz g2.hh).dp g2.zh (s.gr.hh.trans g.hh) h1) (r2.dp g2.zh (s.gr.hh.trans g.hh) h2) ⟨k, rfl, q Z2 H2 g⟩
theorem mt_eqD (hu : X.A.units + 64 < cLine) (ha : MV X ρ a o1) (hb : MV X ρ b o2) (h1 : o1.frz.ok) (h2 : o2.frz.ok) : MT X ρ (.Compare a [.Eq] [b] pos) (o1.frz.eqv o2.frz) :=
  mt_rD (pt_cmpR (op_eqD hu) pe_w pe_w (nomark _)) ha hb h1.1 h2.1 fun x y H Q p1 p2 q => ⟨_, _, p1, p2, h1.2, h2.2, q⟩
theorem mt_neD (hu : X.A.units + 64 < cLine) (ha : MV X ρ a o1) (hb : MV X ρ b o2) (h1 : o1.frz.ok) (h2 : o2.frz.ok) : MT X ρ (.Compare a [.NotEq] [b] pos) (!o1.frz.eqv o2.frz) :=
  mt_rD (pt_cmpR (op_neD hu) pe_w pe_w (nomark _)) ha hb h1.1 h2.1 fun x y H Q p1 p2 q => ⟨_, _, p1, p2, h1.2, h2.2, q⟩

/-- what is walked while nothing that stands changes -/
structure MIc (X : Cx) (ρ : Slots) (wi : TI) (ds : List D) : Prop where
  run : ∀ (Z0 F Z : Hp) (σ : L2.St) (H : Hp), StR X.K ρ Z0 F Z σ H → ∀ R : It → Hp → Prop,
  (∀ J Z' H', Gr Z H Z' H' → Wk X.K Z' H' J ds → R J H') → wi σ H R
theorem MI.c {wi : TI} (h : MI X ρ wi ds) : MIc X ρ wi ds := .mk fun Z0 F Z σ H s R q => h.run Z0 F Z σ H s R fun J Z' H' g wk =>
  q J Z' H' g ⟨fun i d Z2 H2 hd e f z => wk.go i d Z2 H2 hd e ((s.gr.hh.trans g.hh).trans f) z, fun Z2 H2 e f z => wk.stop Z2 H2 e ((s.gr.hh.trans g.hh).trans f) z⟩
theorem mic_list (h : ML X ρ e ds) : MIc X ρ (iList X.K (wE X e)) ds := .mk fun Z0 F Z σ H s R q => h.run Z0 F Z σ H s _ fun a vs Z' H' g l r => by
  refine ⟨a, rfl, ⟨vs, l⟩, q _ Z' H' g ⟨fun j d Z2 H2 hd ez ef zh => ?_, fun Z2 H2 ez ef zh => ⟨vs, ex_l ef l, Nat.le_of_eq r.length⟩⟩⟩
  obtain ⟨x, hx, rx⟩ := r.get hd
  refine ⟨⟨vs, x, ex_l ef l, hx⟩, fun y H3 hy => ?_⟩
  obtain ⟨e3, hy⟩ := hy
  subst e3
  have e4 := hy vs (ex_l ef l)
  rw [hx] at e4
  cases e4
  exact ⟨Z2, Gr.refl zh, rx.mono ez⟩
def wipeS (ρ : Slots) : List Nat → Slots
  | [] => ρ
  | v :: vs => (wipeS ρ vs).set v none
theorem StL.none {K : PySem.W.Frag} {Z F H : Hp} (x : Option V) : ∀ {ρ : Slots} {σ : L2.St} {A : List Addr} (i : Nat), StL K Z F H ρ σ A → A.Nodup → ∃ A', StL K Z F H (ρ.set i Option.none) (σ.set i x) A' ∧ A'.Nodup ∧ ∀ a ∈ A', a ∈ A
  | _, _, _, _, .nil, n => ⟨_, .nil, n, fun _ m => m⟩
  | _, _, _, 0, .no h, n => ⟨_, .no h, n, fun _ m => m⟩
  | _, _, _, i + 1, .no h, n => by
    obtain ⟨A', q1, q2, q3⟩ := StL.none x i h n
    exact ⟨A', .no q1, q2, q3⟩
  | _, _, _, 0, .so _ h, n => ⟨_, .no h, (List.nodup_append.mp n).2.1, fun _ m => List.mem_append_right _ m⟩
  | _, _, _, i + 1, .so r h, n => by
    obtain ⟨n1, n2, n3⟩ := List.nodup_append.mp n
    obtain ⟨A', q1, q2, q3⟩ := StL.none x i h n2
    refine ⟨_, .so r q1, List.nodup_append.mpr ⟨n1, q2, fun a ha b hb => n3 a ha b (q3 b hb)⟩, fun a m => ?_⟩
    rcases List.mem_append.mp m with m | m
    · exact List.mem_append_left _ m
    · exact List.mem_append_right _ (q3 a m)
theorem StR.wipe {K : PySem.W.Frag} {Z0 F Z H : Hp} {σ : L2.St} (s : StR K ρ Z0 F Z σ H) : ∀ vs : List Nat, StR K (wipeS ρ vs) Z0 F Z (L2.wipe σ vs) H
  | [] => s
  | v :: vs => by
    obtain ⟨g, A, h1, h2, h3⟩ := StR.wipe s vs
    obtain ⟨A', q1, q2, q3⟩ := h1.none none v h2
    exact ⟨g, A', q1, q2, fun a m => h3 a (q3 a m)⟩
/-- the list that a comprehension makes -/
theorem lc_run {α : Type} {xs : List α} {enc : α → D} {wi : TI} {g : TG} {tt : TT} {te : TE} {vs : List Nat} (h : MIc X ρ wi (xs.map enc)) (pb : α → Bool) (f : α → D) (hz : xs.length < sizeLine)
    (hs : ∀ d ∈ xs, ∃ τ ws, MTg g X.K (wipeS ρ vs) (enc d) τ ws ∧ (∀ w ∈ ws, w ∈ vs) ∧
      (∀ (Z0 F Z : Hp) (σ : L2.St) (H : Hp), StR X.K τ Z0 F Z σ H → ∀ Q : Bool → Hp → Prop, (∀ Z' H', Gr Z H Z' H' → Q (pb d) H') → tt σ H Q) ∧
      (pb d = true → ∀ (Z0 F Z : Hp) (σ : L2.St) (H : Hp), StR X.K τ Z0 F Z σ H → ∀ Q : VK, (∀ v Z' H', Gr Z H Z' H' → Rep X.K Z' v (f d) → Q v H') → te σ H Q))
    {Z0 F Z : Hp} {σ : L2.St} {H : Hp} (s : StR X.K ρ Z0 F Z σ H) {Q : VK} (q : ∀ v Z' H' A, Gr Z H Z' H' → RepO X.K Z' F H' v (.lst (((xs.filter pb).map f).map .fz)) A → New H Z' A → Q v H') : tLc wi g tt te vs σ H Q := by
  refine h.run Z0 F Z σ H s _ fun J Z1 H1 g1 wk => ?_
  intro L hL
  have s1 := (s.grow g1).wipe vs
  refine ⟨fun j m H2 => m = xs.length - j ∧ j ≤ xs.length ∧ ∃ Z2 acc, Gr Z1 H1 Z2 H2 ∧ H2 L = some (.lst acc) ∧ Z2 L = none ∧ RepL X.K Z2 acc (((xs.take j).filter pb).map f),
    ⟨xs.length, by simp, Nat.zero_le _, Z1, [], Gr.new g1.zh hL, upd_same, g1.zh.free hL, .nil⟩, ?_⟩
  rintro j m H2 ⟨rfl, hj, Z2, acc, g2, hacc, zL, racc⟩
  by_cases hlt : j < xs.length
  · have ed : (xs.map enc)[j]? = some (enc xs[j]) := by simp [hlt]
    obtain ⟨w1, w2⟩ := wk.go j _ Z2 H2 ed g2.zz g2.hh g2.zh
    refine .inr ⟨w1, fun H3 => j + 1 ≤ xs.length ∧ ∃ Z2 acc, Gr Z1 H1 Z2 H3 ∧ H3 L = some (.lst acc) ∧ Z2 L = none ∧ RepL X.K Z2 acc (((xs.take (j + 1)).filter pb).map f), fun H3 q => ⟨xs.length - (j + 1), by omega, rfl, q⟩, fun x H3 hy => ?_⟩
    obtain ⟨Z3, g3, r3⟩ := w2 x H3 hy
    obtain ⟨τ, ws, t1, t2, t3, t4⟩ := hs _ (List.getElem_mem hlt)
    have g13 := g2.trans g3
    have etake : xs.take (j + 1) = xs.take j ++ [xs[j]] := (List.take_append_getElem hlt).symm
    refine t1.run Z0 F Z3 _ H3 x (s1.grow g13) r3 _ fun σ4 s4 w4 => ⟨by rw [w4 vs t2, wipe_wipe], ?_⟩
    refine t3 Z0 F Z3 σ4 H3 s4 _ fun Z5 H5 g5 => ?_
    have hL5 : H5 L = some (.lst acc) := g5.hh _ _ (g3.hh _ _ hacc)
    have zL5 : Z5 L = none := by rw [g5.nw L _ (g3.hh _ _ hacc), g3.nw L _ hacc, zL]
    have r5 := racc.mono (g3.zz.trans g5.zz)
    cases hp : pb xs[j] with
    | true =>
      rw [if_pos rfl]
      refine t4 hp Z0 F Z5 σ4 H5 (s4.grow g5) _ fun y Z6 H6 g6 r6 => ?_
      have hL6 := g6.hh _ _ hL5
      have zL6 : Z6 L = none := by rw [g6.nw L _ hL5, zL5]
      have hlen : acc.length < sizeLine := by
        rw [racc.length, List.length_map]
        exact Nat.lt_of_le_of_lt (Nat.le_trans (List.length_filter_le _ _) (by rw [List.length_take]; exact Nat.min_le_right _ _)) hz
      refine ⟨acc, hL6, hlen, hlt, Z6, acc ++ [y], ?_, upd_same, zL6, ?_⟩
      · have g16 := g13.trans (g5.trans g6)
        exact ⟨g16.zz, g16.hh.mut hL, g16.zh.mut zL6, g16.nw⟩
      · rw [etake, List.filter_append, List.map_append]
        have e1 : [xs[j]].filter pb = [xs[j]] := by simp [hp]
        rw [e1]
        exact (r5.mono g6.zz).append (.cons r6 .nil)
    | false =>
      rw [if_neg Bool.false_ne_true]
      refine ⟨hlt, Z5, acc, g13.trans g5, hL5, zL5, ?_⟩
      rw [etake, List.filter_append, List.map_append]
      have e1 : [xs[j]].filter pb = [] := by simp [hp]
      rw [e1, List.map_nil, List.append_nil]
      exact r5
  · have e : j = xs.length := by omega
    subst e
    have st := wk.stop Z2 H2 g2.zz g2.hh g2.zh
    rw [List.length_map] at st
    refine .inl ⟨st, q _ Z2 H2 [L] (g1.trans g2) (.lst hacc ?_) (new_one (g1.hh.free hL) zL)⟩
    rw [List.take_length] at racc
    exact racc.own
/-- [elt for target in source] -/
theorem me_lc {α : Type} {xs : List α} {enc : α → D} {wi : TI} {g : TG} {scope : Scope} {vs : List Nat} (p : ∀ te : TE, (∀ (s : Shared) (H : Hp) (C : Addr) (cl : List (Str × Addr)) (fp : List Addr), PE (X.blk s H scope (compEnvC scope cl C X.env) fp) elt te) → PE X e (tLc wi g tYes te vs))
    (h : MIc X ρ wi (xs.map enc)) (f : α → D) (hz : xs.length < sizeLine)
    (hs : ∀ d ∈ xs, ∃ τ ws, MTg g X.K (wipeS ρ vs) (enc d) τ ws ∧ (∀ w ∈ ws, w ∈ vs) ∧ ∀ (s : Shared) (H : Hp) (C : Addr) (cl : List (Str × Addr)) (fp : List Addr), ME (X.blk s H scope (compEnvC scope cl C X.env) fp) τ elt (.fz (f d))) :
    ME X ρ e (.lst ((xs.map f).map .fz)) := .mk fun Z0 F Z σ H s Q q => by
  refine PE_w (p (fun σ H Q => ∀ (s : Shared) (H' : Hp) (C : Addr) (cl : List (Str × Addr)) (fp : List Addr), wE (X.blk s H' scope (compEnvC scope cl C X.env) fp) elt σ H Q) fun s H' C cl fp => ⟨fun pins s' σ H Q I k => k s H' C cl fp pins s' I⟩) ?_
  refine lc_run h (fun _ => true) f hz (fun d m => ?_) s fun v Z' H' A g r n => q v Z' H' A g ?_ n
  · obtain ⟨τ, ws, t1, t2, t3⟩ := hs d m
    refine ⟨τ, ws, t1, t2, fun Z0 F Z σ H s Q q => q Z H (Gr.refl s.ex), fun _ Z0 F Z σ H s Q q s' H' C cl fp => (t3 s' H' C cl fp).run Z0 F Z σ H s Q fun v Z' H' A g r n => ?_⟩
    cases r with
    | fz r => exact q v Z' H' g r
  · rw [List.filter_eq_self.mpr fun _ _ => rfl] at r
    exact r
/-- (.., x, ..): a tuple of frozen things and one own slot's thing -/
structure MRs (X : Cx) (ρ : Slots) (es : List Expr) (os : List O) : Prop where
  run : ∀ (Z0 F Z : Hp) (σ : L2.St) (H : Hp), StR X.K ρ Z0 F Z σ H → ∀ Q : List V → Hp → Prop,
  (∀ vs Z' H' A, Gr Z H Z' H' → RepOL X.K Z' F H' vs os A → A.Nodup → (∀ a ∈ A, Z' a = none ∧ F a = none) → Q vs H') → wA X es σ H Q
theorem MF.rs (h : MF X ρ es ds) : MRs X ρ es (ds.map .fz) := .mk fun Z0 F Z σ H s Q q => h.run Z0 F Z σ H s Q fun vs Z' H' g r => q vs Z' H' [] g r.own List.nodup_nil fun _ m => nomatch m
end
end M
namespace M
open PySem L2 PySem.Spec PyProof.Rows
section
variable {X : Cx} {ρ : Slots} {e a b elt : Expr} {es : List Expr} {st : Stmt} {sts : List Stmt} {G : Go} {o o1 o2 : O} {d : D} {ds : List D} {pos p0 p1 : Pos} {i : Nat} {x nm : Str}
theorem ml_var (p : PE X (.Name x pos) (tVar i)) (h : ρ[i]? = some (some o)) (hl : IsLst o ds := by first | exact .vw _ | exact .fz _ | exact .own _ | exact .vwa _ _) : ML X ρ (.Name x pos) ds := MV.l (mv_var p h) hl
theorem mk_var (p : PE X (.Name x pos) (tVar i)) (h : ρ[i]? = some (some o)) (hl : o = .vw ds ∨ o = .fz (.lst ds) ∨ ∃ a, o = .vwa a ds := by first | exact .inl rfl | exact .inr (.inl rfl) | exact .inr (.inr ⟨_, rfl⟩)) : MK X ρ (.Name x pos) ds := by
  rcases hl with rfl | rfl | ⟨a, rfl⟩
  · exact MV.k (mv_var p h)
  · exact ME.k (me_var p h)
  · exact MV.ka (mv_var p h)
theorem le_auto {ρ τ : Slots} (l : Le ρ τ := by repeat (first | exact Le.nil | refine Le.no ?_ | refine Le.eq ?_)) : Le ρ τ := l
/-- .. by a state: S j x holds ahead of turn j -/
theorem m_forS {α : Type} {wi : TI} {g : TG} {body : List Stmt} (p : PS X st (tFor wi g (wS X body))) (h : MI X ρ wi ds) (R : α → Slots) (S : Nat → α → Prop) (h0 : ∃ x, S 0 x ∧ Le ρ (R x))
    (hs : ∀ (j : Nat) (d : D) (x : α), ds[j]? = some d → S j x → ∃ τ' ws, MTg g X.K (R x) d τ' ws ∧ MS X τ' body { nx := fun τ => ∃ y, S (j + 1) y ∧ Le τ (R y), ct := fun τ => ∃ y, S (j + 1) y ∧ Le τ (R y), bk := G.nx, rt := G.rt, rs := G.rs })
    (hd : ∀ τ x, S ds.length x → Le τ (R x) → G.nx τ) : MS1 X ρ st G := by
  refine m_for p h (fun j τ => ∃ x, S j x ∧ Le τ (R x)) h0 (fun j d τ hj l => ?_) fun τ ⟨x, h1, h2⟩ => hd τ x h1 h2
  obtain ⟨x, l1, l2⟩ := l
  obtain ⟨τ', ws, t1, t2⟩ := hs j d x hj l1
  exact ⟨τ', ws, .mk fun Z0 F Z σ H v s r Q q => t1.run Z0 F Z σ H v (s.le l2) r Q q, t2⟩
/-- an own def, as it is called by its name -/
structure Fn1 (P : Program) (w : World) (K : PySem.W.Frag) (mg : Str → Option Value) (base : Heap) (name : Str) (k : Nat) (ps : List Str) (sp : Sp) : Prop where
  ex : ∃ (f : Addr) (fd : FuncData), mg name = some (.ref f) ∧ PySem.W.keepIn K (.ref f) = true ∧ Binds K fd ps [] ∧ FnOk P w K mg base CX0 k f fd ps sp
theorem me_fn {α : Type} {ar : α → List O} {pre : α → Prop} {res : α → O} {k : Nat} {ps : List Str} (c : Fn1 X.prog X.w X.K X.mg X.base nm k ps (SpM X.K ar pre res)) (x : α) (ha : MA X ρ (e :: es) (ar x)) (hp : pre x) (hr : Room k X.A) {o : O} (hres : res x = o := by first | (dsimp only; done) | (dsimp only; rfl) | rfl) (hg : Gl X nm := by rfl)
    (hdb : (nm == ("__debug__" : Str)) = false := by decide) (he : starEach (e :: es) X.env = (false, eval e X.env) :: starEach es X.env := by rfl) (hpl : (backTo pos (starEach es X.env)).any (·.1) = false := by rfl) : ME X ρ (.Call (.Name nm p0) (e :: es) [] pos) o := by
  subst hres
  obtain ⟨f, fd, hm, hk, hb, F⟩ := c.ex
  exact me_call (pe_call F hr hg hm hk hb .nil pass0 pa_w hdb he hpl) x ha hp
end
end M
namespace M
open PySem L2 PySem.Spec PyProof.Rows
inductive Smp : Nat → D → Prop where
  | non {n : Nat} : Smp n .non
  | bl {n : Nat} (b : Bool) : Smp n (.bl b)
  | int {n : Nat} (i : Int) : Smp n (.int i)
  | str {n : Nat} {x : Str} (h : (PyData.str x).canLay0 = true) : Smp n (.str x)
  | tup {n : Nat} {ds : List D} (h : ∀ d ∈ ds, Smp n d) : Smp (n + 1) (.tup ds)
  | lst {n : Nat} {ds : List D} (h : ∀ d ∈ ds, Smp n d) : Smp (n + 1) (.lst ds)
theorem D.plL_all : ∀ {ds : List D}, (∀ d ∈ ds, d.pl = true) → D.plL ds = true
  | [], _ => rfl
  | d :: r, h => by
    show (d.pl && D.plL r) = true
    rw [h d List.mem_cons_self, D.plL_all fun e m => h e (List.mem_cons_of_mem _ m)]
    rfl
theorem canL_all : ∀ {ds : List D}, (∀ d ∈ ds, d.py.canLay0 = true) → PyData.canLayAll0 (D.pyL ds) = true
  | [], _ => rfl
  | d :: r, h => by
    show (d.py.canLay0 && PyData.canLayAll0 (D.pyL r)) = true
    rw [h d List.mem_cons_self, canL_all fun e m => h e (List.mem_cons_of_mem _ m)]
    rfl
theorem depL_all {n : Nat} : ∀ {ds : List D}, (∀ d ∈ ds, d.py.depth ≤ n) → PyData.depthAll (D.pyL ds) ≤ n
  | [], _ => Nat.zero_le _
  | d :: r, h => Nat.max_le.mpr ⟨h d List.mem_cons_self, depL_all fun e m => h e (List.mem_cons_of_mem _ m)⟩
theorem Smp.all {n : Nat} {d : D} (h : Smp n d) : d.pl = true ∧ d.py.canLay0 = true ∧ d.py.depth ≤ n := by
  induction h with
  | non => exact ⟨rfl, rfl, Nat.zero_le _⟩
  | bl b => exact ⟨rfl, rfl, Nat.zero_le _⟩
  | int i => exact ⟨rfl, rfl, Nat.zero_le _⟩
  | str h => exact ⟨rfl, h, Nat.zero_le _⟩
  | tup h ih => exact ⟨D.plL_all fun d m => (ih d m).1, canL_all fun d m => (ih d m).2.1, Nat.succ_le_succ (depL_all fun d m => (ih d m).2.2)⟩
  | lst h ih => exact ⟨D.plL_all fun d m => (ih d m).1, canL_all fun d m => (ih d m).2.1, Nat.succ_le_succ (depL_all fun d m => (ih d m).2.2)⟩
theorem Smp.ok {n : Nat} {d : D} (h : Smp n d) (hn : n ≤ 64 := by decide) : d.ok := by
  obtain ⟨h1, h2, h3⟩ := h.all
  refine ⟨h1, ?_⟩
  unfold SeqAt.shaped
  rw [h2, decide_eq_true (Nat.le_trans h3 hn)]
  rfl
theorem Smp.up {n m : Nat} {d : D} (h : Smp n d) (l : n ≤ m) : Smp m d := by
  induction h generalizing m with
  | non => exact .non
  | bl b => exact .bl b
  | int i => exact .int i
  | str h => exact .str h
  | tup h ih =>
    cases m with
    | zero => exact absurd l (by omega)
    | succ m => exact .tup fun d k => ih d k (by omega)
  | lst h ih =>
    cases m with
    | zero => exact absurd l (by omega)
    | succ m => exact .lst fun d k => ih d k (by omega)
theorem eqvL_refl : ∀ {ds : List D}, (∀ d ∈ ds, d.eqv d = true) → PyData.eqvAll (D.pyL ds) (D.pyL ds) = true
  | [], _ => rfl
  | d :: r, h => by
    show (PyData.eqv d.py d.py && PyData.eqvAll (D.pyL r) (D.pyL r)) = true
    rw [show PyData.eqv d.py d.py = true from h d List.mem_cons_self, eqvL_refl fun e m => h e (List.mem_cons_of_mem _ m)]
    rfl
theorem Smp.eqv {n : Nat} {d : D} (h : Smp n d) : d.eqv d = true := by
  induction h with
  | non => rfl
  | bl b => exact beq_self_eq_true b
  | int i => exact beq_self_eq_true i
  | str h => exact beq_self_eq_true _
  | tup h ih => exact eqvL_refl ih
  | lst h ih => exact eqvL_refl ih
theorem smps_nil {n : Nat} : ∀ d ∈ ([] : List D), Smp n d := fun _ m => nomatch m
theorem smps_cons {n : Nat} {d : D} {ds : List D} (h : Smp n d) (r : ∀ d ∈ ds, Smp n d) : ∀ e ∈ d :: ds, Smp n e := fun e m => (List.mem_cons.mp m).elim (fun q => q ▸ h) (r e)
theorem smps_map {α : Type} {n : Nat} {f : α → D} {xs : List α} (h : ∀ x ∈ xs, Smp n (f x)) : ∀ d ∈ xs.map f, Smp n d := fun d m => by
  obtain ⟨x, hx, rfl⟩ := List.mem_map.mp m
  exact h x hx
section
variable {X : Cx} {ρ : Slots} {e a b elt : Expr} {es : List Expr} {st : Stmt} {sts : List Stmt} {G : Go} {o o1 o2 : O} {d : D} {ds : List D} {pos p0 p1 : Pos} {i : Nat} {x nm : Str}
end
section
variable {K : PySem.W.Frag} {Z0 Z Z' F H H' : Hp} {ρ : Slots} {σ : L2.St}
end
section
variable {X : Cx} {ρ : Slots} {e a b elt : Expr} {es : List Expr} {st : Stmt} {sts : List Stmt} {G : Go} {o o1 o2 : O} {d : D} {ds : List D} {pos p0 p1 : Pos} {i : Nat} {x nm : Str}
theorem ME.is {o' : O} (h : ME X ρ e o) (q : o = o') : ME X ρ e o' := q ▸ h
theorem m_forTS {α β : Type} {xs : List α} {enc : α → D} {wi : TI} {g : TG} {body : List Stmt} (p : PS X st (tFor wi g (wS X body))) (h : MI X ρ wi (xs.map enc)) (R : β → Slots) (S : Nat → β → Prop) (h0 : ∃ y, S 0 y ∧ Le ρ (R y))
    (hs : ∀ (j : Nat) (x : α) (y : β), xs[j]? = some x → S j y → ∃ τ' ws, MTg g X.K (R y) (enc x) τ' ws ∧ MS X τ' body { nx := fun τ => ∃ y, S (j + 1) y ∧ Le τ (R y), ct := fun τ => ∃ y, S (j + 1) y ∧ Le τ (R y), bk := G.nx, rt := G.rt, rs := G.rs })
    (hd : ∀ τ y, S xs.length y → Le τ (R y) → G.nx τ) : MS1 X ρ st G := by
  refine m_forS p h R S h0 (fun j d y hj => ?_) fun τ y h1 l => hd τ y (by rw [List.length_map] at h1; exact h1) l
  rw [List.getElem?_map] at hj
  obtain ⟨x, hx, rfl⟩ := Option.map_eq_some_iff.mp hj
  exact hs j x y hx
end
/-- a law's promise -/
def spLaw (K : PySem.W.Frag) : Sp := SpM K (fun ns : List Int => [.vw (ns.map .int)]) (fun ns => ns.length ≤ 63) (fun _ => .fz (.bl true))
theorem spLaw_of {K : PySem.W.Frag} {H : Hp} {a : Addr} {ns : List Int} {E : XK} (hS : SqL K H a (ns.map V.int)) (hl : ns.length ≤ 63) : spLaw K [.ref a] H (fun v _ => v = .bl true) E := by
  refine ⟨ns, fun _ => none, fun _ _ z => (by cases z), RepOL.cons (A := []) (B := []) (RepO.vw hS RepL.ofInts) RepOL.nil, hl, fun v Z' H' A g r n => ?_⟩
  cases r with
  | fz r =>
    cases r
    rfl
end M
namespace M
open PySem L2 PySem.Spec PyProof.Rows
theorem RepOL.set {K : PySem.W.Frag} {Z F H : Hp} {w : V} {d : D} (h : Rep K Z w d) : ∀ {vs : List V} {ds : List D} {A : List Addr} (j : Nat), RepOL K Z F H vs (ds.map .fz) A → RepOL K Z F H (vs.set j w) ((ds.set j d).map .fz) A
  | _, [], _, _, .nil => .nil
  | _, _ :: _, _, 0, .cons (.fz _) r => .cons (A := []) (.fz h) r
  | _, _ :: _, _, j + 1, .cons (.fz g) r => .cons (A := []) (.fz g) (RepOL.set h j r)
section
variable {X : Cx} {ρ : Slots} {e a b c elt : Expr} {es rest : List Expr} {st : Stmt} {sts : List Stmt} {G : Go} {o o1 o2 : O} {d : D} {ds : List D} {pos p0 p1 p2 p3 p4 p5 p6 : Pos} {i : Nat} {x nm : Str} {m n k : Int} {p q : Str}
/-- [..] * n, a list of its own -/
def repG {α : Type} (xs : List α) (k : Int) : List α := (List.replicate k.toNat xs).flatten
theorem RepL.rep {K : PySem.W.Frag} {Z : Hp} {vs : List V} {ds : List D} (r : RepL K Z vs ds) : ∀ k : Nat, RepL K Z (List.replicate k vs).flatten (List.replicate k ds).flatten
  | 0 => .nil
  | k + 1 => by
    rw [List.replicate_succ, List.replicate_succ, List.flatten_cons, List.flatten_cons]
    exact r.append (r.rep k)
theorem me_rep (ha : MV X ρ a (.lst (ds.map .fz))) (hb : ME X ρ b (.fz (.int k))) (hk : -(2 ^ 63) ≤ k ∧ k < 2 ^ 63) (hl : ds.length * k.toNat ≤ sizeLine) : ME X ρ (.BinOp a .Mult b pos) (.lst ((repG ds k).map .fz)) := .mk fun Z0 F Z σ H s Q q =>
  PE_w (pe_op op_rep pe_w pe_w) (ha.run Z0 F Z σ H s _ fun v Z1 H1 A1 g1 r1 => hb.run Z0 F Z1 σ H1 (s.grow g1) _ fun w Z2 H2 A2 g2 r2 n2 => by
    cases r2 with
    | fz r2 =>
      cases r2
      cases r1 with
      | @lst l vs _ A h0 r1 =>
        have g := g1.trans g2
        obtain ⟨_, r1⟩ := r1.fzs
        refine ⟨l, k, vs, rfl, rfl, g2.hh _ _ h0, hk.1, hk.2, by rw [r1.length]; exact hl, fun p hp => ?_⟩
        exact q _ Z2 _ [p] (g.trans (Gr.new g.zh hp)) (.lst upd_same ((r1.mono g2.zz).rep _).own) (new_one (g.hh.free hp) (g.zh.free hp)))
/-- xs + ys, lists of its own -/
theorem me_catL {es1 : List D} (ha : MV X ρ a (.lst (ds.map .fz))) (hb : MV X ρ b (.lst (es1.map .fz))) (hl : ds.length + es1.length ≤ sizeLine) : ME X ρ (.BinOp a .Add b pos) (.lst ((ds ++ es1).map .fz)) := .mk fun Z0 F Z σ H s Q q =>
  PE_w (pe_op op_cat pe_w pe_w) (ha.run Z0 F Z σ H s _ fun v Z1 H1 A1 g1 r1 => hb.run Z0 F Z1 σ H1 (s.grow g1) _ fun w Z2 H2 A2 g2 r2 => by
    cases r2 with
    | @lst l2 us _ A2 h2 r2 =>
      cases r1 with
      | @lst l vs _ A h0 r1 =>
        have g := g1.trans g2
        obtain ⟨_, r1⟩ := r1.fzs
        obtain ⟨_, r2⟩ := r2.fzs
        refine ⟨l, l2, vs, us, rfl, rfl, g2.hh _ _ h0, h2, by rw [r1.length, r2.length]; exact hl, fun p hp => ?_⟩
        exact q _ Z2 _ [p] (g.trans (Gr.new g.zh hp)) (.lst upd_same ((r1.mono g2.zz).append r2).own) (new_one (g.hh.free hp) (g.zh.free hp)))
theorem me_chain {op op' : CmpOp} {f f' : Int → Int → Bool} (ho : OpR X (compareOp op) (rI0 fun i j => .bl (f i j))) (ho' : OpR X (compareOp op') (rI0 fun i j => .bl (f' i j))) (ha : ME X ρ a (.fz (.int m))) (hb : ME X ρ b (.fz (.int n))) (hc : ME X ρ c (.fz (.int k)))
    (hm : lastMarks [op, op'] [b, c] = false := by with_unfolding_all rfl) : ME X ρ (.Compare a [op, op'] [b, c] pos) (.fz (.bl (f m n && f' n k))) := .mk fun Z0 F Z σ H s Q q =>
  PE_w (pe_chain ho ho' pe_w pe_w pe_w hm) (ha.run Z0 F Z σ H s _ fun v Z1 H1 A1 g1 r1 n1 => hb.run Z0 F Z1 σ H1 (s.grow g1) _ fun w Z2 H2 A2 g2 r2 n2 => by
    cases r1 with
    | fz r1 =>
      cases r1
      cases r2 with
      | fz r2 =>
        cases r2
        refine ⟨m, n, rfl, rfl, f m n, rfl, ?_⟩
        cases hf : f m n with
        | false =>
          rw [if_neg Bool.false_ne_true]
          have q' := q (.bl (f m n && f' n k)) Z2 H2 [] (g1.trans g2) (.fz (.bl _)) .nil
          rw [hf] at q'
          exact q'
        | true =>
          rw [if_pos rfl]
          refine hc.run Z0 F Z2 σ H2 (s.grow (g1.trans g2)) _ fun y Z3 H3 A3 g3 r3 n3 => ?_
          cases r3 with
          | fz r3 =>
            cases r3
            have q' := q (.bl (f m n && f' n k)) Z3 H3 [] ((g1.trans g2).trans g3) (.fz (.bl _)) .nil
            rw [hf] at q'
            exact ⟨n, k, rfl, rfl, q'⟩)
theorem me_strI (hg : Gl X "str") (hm : X.mg "str" = none) (ha : ME X ρ a (.fz (.int m))) (hl : m.natAbs.log2 < 1920) (n1 : NS X a := by exact fun _ => rfl) : ME X ρ (.Call (.Name "str" p0) [a] [] pos) (.fz (.str (toString m))) := .mk fun Z0 F Z σ H s Q q =>
  PE_w (pe_callTy call_str_int hg hm (by decide +kernel) (pa_cons pe_w pa_nil (n1 _)) (he := n1 _)) (ha.run Z0 F Z σ H s _ fun v Z1 H1 A1 g1 r1 n1 => by
    cases r1 with
    | fz r1 =>
      cases r1
      exact ⟨m, rfl, hl, q _ Z1 H1 [] g1 (.fz (.str _)) .nil⟩)
theorem me_intS (hg : Gl X "int") (hm : X.mg "int" = none) (ha : ME X ρ a (.fz (.str p))) (hn : PySem.intText? p = some m) (hl : p.length ≤ 640) (n1 : NS X a := by exact fun _ => rfl) : ME X ρ (.Call (.Name "int" p0) [a] [] pos) (.fz (.int m)) := .mk fun Z0 F Z σ H s Q q =>
  PE_w (pe_callTy call_int_str hg hm (by decide +kernel) (pa_cons pe_w pa_nil (n1 _)) (he := n1 _)) (ha.run Z0 F Z σ H s _ fun v Z1 H1 A1 g1 r1 n1 => by
    cases r1 with
    | fz r1 =>
      cases r1
      exact ⟨p, m, rfl, hn, hl, q _ Z1 H1 [] g1 (.fz (.int _)) .nil⟩)
theorem mt_niS {ch : Nat} (ha : ME X ρ a (.fz (.str ⟨#[ch]⟩))) (hb : ME X ρ b (.fz (.str q))) (hm : behindInMarks .NotIn b = false := by rfl) : MT X ρ (.Compare a [.NotIn] [b] pos) (!decide (ch ∈ q.cps.toList)) := mt_cmp op_notIn_sign ha hb (.str _) (.str _) (fun _ _ k => ⟨ch, q, rfl, rfl, k⟩) hm
theorem me_gI {t : Tok} (hm : X.mg nm = some (.int m t)) (hg : Gl X nm := by rfl) (hd : (nm == ("__debug__" : Str)) = false := by decide) : ME X ρ (.Name nm pos) (.fz (.int m)) := me_c (pe_glob (v := .int m) hg hm ⟨t, rfl⟩ hd) (.int m)
theorem me_gS {t : Tok} (hm : X.mg nm = some (.str p t)) (hg : Gl X nm := by rfl) (hd : (nm == ("__debug__" : Str)) = false := by decide) : ME X ρ (.Name nm pos) (.fz (.str p)) := me_c (pe_glob (v := .str p) hg hm ⟨t, rfl⟩ hd) (.str p)
end
end M
namespace M
open PySem L2 PySem.Spec PyProof.Rows
theorem Le.trans : ∀ {ρ τ υ : Slots}, Le ρ τ → Le τ υ → Le ρ υ
  | _, _, _, .nil, h => h
  | _, _, _, .no l, .no r => .no (l.trans r)
  | _, _, _, .no l, .eq r => .no (l.trans r)
  | _, _, _, .eq l, .no r => .no (l.trans r)
  | _, _, _, .eq l, .eq r => .eq (l.trans r)
/-- what the text tells of a class: its attributes' names are no names of the class -/
structure OC (K : PySem.W.Frag) (C : Addr) (ns : List Str) : Prop where
  cl : Cls K C
  na : ∀ f ∈ ns, NoAttr K C f
def nmAt : List Str → Str → Option Nat
  | [], _ => none
  | n :: r, f => if f = n then some 0 else (nmAt r f).map (· + 1)
/-- a name is put: it stands there, or comes behind -/
def nsPut : List Str → Str → List Str
  | [], f => [f]
  | n :: r, f => if n = f then n :: r else n :: nsPut r f
def xsPut {α : Type} : List Str → Str → List α → α → List α
  | n :: r, f, u :: us, v => if n = f then v :: us else u :: xsPut r f us v
  | _, _, _, v => [v]
theorem put_zip : ∀ {ns : List Str} {f : Str} {vs : List V} {v : V}, vs.length = ns.length → putF f v (ns.zip vs) = (nsPut ns f).zip (xsPut ns f vs v)
  | [], f, [], v, _ => rfl
  | n :: r, f, u :: us, v, h => by
    show putF f v ((n, u) :: r.zip us) = _
    unfold putF nsPut xsPut
    by_cases e : n = f
    · rw [if_pos e, if_pos e, if_pos e]
      rfl
    · rw [if_neg e, if_neg e, if_neg e, put_zip (by simpa using h)]
      rfl
section
variable {K : PySem.W.Frag} {Z Z' F F' H H' : Hp}
theorem RepOL.put {w : V} {o : O} {B : List Addr} (r : RepO K Z F H w o B) (nB : B.Nodup) : ∀ {ns : List Str} {f : Str} {vs : List V} {os : List O} {A : List Addr}, vs.length = ns.length → RepOL K Z F H vs os A → A.Nodup → (∀ a ∈ A, a ∉ B) →
    ∃ A', RepOL K Z F H (xsPut ns f vs w) (xsPut ns f os o) A' ∧ A'.Nodup ∧ ∀ a ∈ A', a ∈ A ∨ a ∈ B
  | [], f, [], [], _, _, .nil, _, _ => ⟨B ++ [], .cons r .nil, by rw [List.append_nil]; exact nB, fun a m => .inr (by rw [List.append_nil] at m; exact m)⟩
  | n :: ns, f, v :: vs, o1 :: os, _, hl, .cons (A := A1) (B := A2) h1 h2, nA, d => by
    obtain ⟨n1, n2, n3⟩ := List.nodup_append.mp nA
    unfold xsPut
    by_cases e : n = f
    · rw [if_pos e, if_pos e]
      refine ⟨B ++ A2, .cons r h2, List.nodup_append.mpr ⟨nB, n2, fun a ha b hb e => ?_⟩, fun a m => ?_⟩
      · subst e
        exact d a (List.mem_append_right _ hb) ha
      · rcases List.mem_append.mp m with m | m
        · exact .inr m
        · exact .inl (List.mem_append_right _ m)
    · rw [if_neg e, if_neg e]
      obtain ⟨A', q1, q2, q3⟩ := RepOL.put r nB (ns := ns) (f := f) (vs := vs) (os := os) (by simpa using hl) h2 n2 fun a m => d a (List.mem_append_right _ m)
      refine ⟨A1 ++ A', .cons h1 q1, List.nodup_append.mpr ⟨n1, q2, fun a ha b hb e => ?_⟩, fun a m => ?_⟩
      · subst e
        rcases q3 a hb with z | z
        · exact n3 a ha a z rfl
        · exact d a (List.mem_append_left _ ha) z
      · rcases List.mem_append.mp m with m | m
        · exact .inl (List.mem_append_left _ m)
        · exact (q3 a m).imp (List.mem_append_right _) id
theorem RepO.unAt {v : V} {a C : Addr} {ns : List Str} {os : List O} {A : List Addr} (r : RepO K Z F H v (.at a C ns os) A) : RepO K Z F H v (.ins C ns os) A := by
  cases r with
  | «at» h q => exact .ins h q
end
section
variable {X : Cx} {ρ : Slots} {e a b c elt : Expr} {es rest : List Expr} {st : Stmt} {sts : List Stmt} {G : Go} {o o1 o2 : O} {d : D} {ds : List D} {os : List O} {pos p0 p1 p2 p3 p4 p5 p6 : Pos} {i : Nat} {x nm f : Str} {m n k : Int} {p q : Str} {C : Addr} {ns : List Str}
theorem MV.unAt {l : Addr} (h : MV X ρ e (.at l C ns os)) : MV X ρ e (.ins C ns os) := .mk fun Z0 F Z σ H s Q q => h.run Z0 F Z σ H s Q fun v Z1 H1 A g r => q v Z1 H1 A g r.unAt
theorem ME.unAt {l : Addr} (h : ME X ρ e (.at l C ns os)) : ME X ρ e (.ins C ns os) := .mk fun Z0 F Z σ H s Q q => h.run Z0 F Z σ H s Q fun v Z1 H1 A g r => q v Z1 H1 A g r.unAt
/-- x.f = e, x a slot with an own instance at a known place; all: every attribute's name that the class has -/
theorem m_setFld {l : Addr} {all : List Str} (pn : PE X (.Name x p1) (tVar i)) (hi : ρ[i]? = some (some (.at l C ns os))) (hl : os.length = ns.length := by rfl) (h1000 : ns.length < 1000 := by decide) (cc : OC X.K C all) (hm : f ∈ all := by decide +kernel) (he : ME X ρ e o)
    (kk : G.nx (ρ.set i (some (.at l C (nsPut ns f) (xsPut ns f os o)))))
    (hs : swapsWith e (some (.Attribute (.Name x p1) f p2)) p3.line X.env = pure false := by rfl) : MS1 X ρ (.Assign [.Attribute (.Name x p1) f p2] e p3) G := .mk fun Z0 F Z σ H D s g => by
  obtain ⟨v, A, e1, r1, nA, dA, k1⟩ := s.upd hi
  cases r1 with
  | @«at» l C dx ns vs os A h0 r1 =>
    have hlv : vs.length = ns.length := by rw [r1.length]; exact hl
    refine PS_w (ps_fld pn pe_w hs) (he.run Z0 F Z σ H s _ fun w Z1 H1 B g1 r2 n2 => ?_)
    refine ⟨_, e1, l, C, dx, _, rfl, g1.hh _ _ h0, cc.cl, cc.na f hm, by rw [List.length_zip, hlv]; omega, ?_⟩
    rw [put_zip hlv]
    obtain ⟨na, nA'⟩ := List.nodup_cons.mp nA
    have zl : Z1 l = none := by
      rw [g1.nw l _ h0]
      exact (dA l List.mem_cons_self).1
    have there : ∀ b ∈ l :: A, ∃ u, H b = some u := (RepO.at (Z := Z) (F := F) (H := H) h0 r1).there
    have nb : ∀ b ∈ B, b ≠ l := fun b m q => by
      have := (n2.2 b m).1
      rw [q, h0] at this
      cases this
    have r1' : RepOL X.K Z1 F (upd H1 l (.ins C dx ((nsPut ns f).zip (xsPut ns f vs w)))) vs os A := r1.mono g1.zz (Ex.refl _) fun b m u hu => by
      have ne : b ≠ l := fun q => na (by rw [← q]; exact m)
      rw [upd_ne ne]
      exact g1.hh b u hu
    have r2' : RepO X.K Z1 F (upd H1 l (.ins C dx ((nsPut ns f).zip (xsPut ns f vs w)))) w o B := r2.frame fun b m => upd_ne (nb b m)
    obtain ⟨A', q1, q2, q3⟩ := RepOL.put r2' n2.1 hlv r1' nA' fun b m mb => by
      obtain ⟨u, hu⟩ := there b (List.mem_cons_of_mem _ m)
      rw [(n2.2 b mb).1] at hu
      cases hu
    refine g.nx _ Z1 σ _ kk ?_
    refine k1 g1.zz g1.nw (g1.zh.mut zl) (fun b nb u hu => ?_) (.at upd_same q1) (List.nodup_cons.mpr ⟨fun m => ?_, q2⟩) fun b m => ?_
    · have ne : b ≠ l := fun q => nb (by rw [q]; exact List.mem_cons_self)
      rw [upd_ne ne]
      exact g1.hh b u hu
    · rcases q3 _ m with z | z
      · exact na z
      · exact nb _ z rfl
    · rcases List.mem_cons.mp m with z | z
      · exact .inl (by rw [z]; exact List.mem_cons_self)
      · rcases q3 _ z with z | z
        · exact .inl (List.mem_cons_of_mem _ z)
        · exact .inr (n2.2 b z)
/-- the promise of an __init__: of a new instance it makes one with the attributes ns -/
def SpI {α : Type} (K : PySem.W.Frag) (C : Addr) (ns : List Str) (ar : α → List O) (pre : α → Prop) (res : α → List O) : Sp := fun vs H Q _ => ∃ (x : α) (Z F : Hp) (l dx : Addr) (vs' : List V), vs = .ref l :: vs' ∧ Ex Z F ∧ Ex F H ∧ F l = none ∧ H l = some (.ins C dx []) ∧ RepOL K Z F F vs' (ar x) [] ∧ pre x ∧
  ∀ Z' H' A, Gr Z F Z' H' → RepO K Z' (fun _ => none) H' (.ref l) (.at l C ns (res x)) A → New F Z' A → Q .non H'
structure Mk1 (P : Program) (w : World) (K : PySem.W.Frag) (mg : Str → Option Value) (base : Heap) (name : Str) (C : Addr) (k : Nat) (ps : List Str) (sp : Sp) : Prop where
  ex : ∃ (f : Addr) (fd : FuncData), mg name = some (.ref C) ∧ Mk K C f ∧ Binds K fd ps [] ∧ FnOk P w K mg base CX0 k f fd ps sp
theorem me_make {α : Type} {ar : α → List O} {pre : α → Prop} {res : α → List O} {k : Nat} {ps : List Str} (c : Mk1 X.prog X.w X.K X.mg X.base nm C k ps (SpI X.K C ns ar pre res)) (x : α) (ha : MA X ρ (e :: es) (ar x)) (hp : pre x) (hr : Room (k + 1) X.A) {os : List O} (hres : res x = os := by first | (dsimp only; done) | (dsimp only; rfl) | rfl) (hg : Gl X nm := by rfl)
    (hdb : (nm == ("__debug__" : Str)) = false := by decide) (he : starEach (e :: es) X.env = (false, eval e X.env) :: starEach es X.env := by rfl) (hpl : (backTo pos (starEach es X.env)).any (·.1) = false := by rfl) : ME X ρ (.Call (.Name nm p0) (e :: es) [] pos) (.ins C ns os) := by
  subst hres
  obtain ⟨f, fd, hm, M, hb, F⟩ := c.ex
  exact .mk fun Z0 F0 Z σ H s Q q => PE_w (pe_make M F hr hg hm hb .nil pass0 pa_w hdb he hpl) (ha.run Z0 F0 Z σ H s _ fun vs Z1 H1 g1 r1 l dx nl ndx ne =>
    ⟨x, Z1, H1, l, dx, vs, by rw [List.append_nil], g1.zh, (Ex.new ndx).trans (Ex.new (by rw [upd_ne ne.symm]; exact nl)), nl, upd_same, r1, hp, fun Z2 H2 A g2 r2 n2 =>
      ⟨rfl, q (.ref l) Z2 H2 A (g1.trans g2) (r2.unAt.mono (Ex.refl _) (fun _ _ z => by cases z) fun _ _ _ z => z) ⟨n2.1, fun a m => ⟨g1.hh.free (n2.2 a m).1, (n2.2 a m).2⟩⟩⟩⟩)
end
end M
namespace M
open PySem L2 PySem.Spec PyProof.Rows
section
variable {X : Cx} {ρ : Slots} {e a b c elt : Expr} {es rest : List Expr} {st : Stmt} {sts : List Stmt} {G : Go} {o o1 o2 : O} {d : D} {ds : List D} {os : List O} {pos p0 p1 p2 p3 p4 p5 p6 : Pos} {i : Nat} {x nm f : Str} {m n k : Int} {p q : Str} {C : Addr} {ns : List Int}
/-- s.partition(t): a tuple of three texts -/
theorem me_partition (ha : ME X ρ a (.fz (.str p))) (hb : ME X ρ b (.fz (.str q))) (hq : (q.length == 0) = false) (hp : p.length ≤ sizeLine) (hs : starEach [b] X.env = [(false, eval b X.env)] := by rfl) (hbase : attributeBase a "partition" X.env (eval a X.env) = eval a X.env := by rfl) (hline : (p1.endLine == pos.line) = true := by rfl) :
    ME X ρ (.Call (.Attribute a "partition" p1) [b] [] pos) (.fz (.tup [.str (Txt.partition p q).1, .str (Txt.partition p q).2.1, .str (Txt.partition p q).2.2])) := .mk fun Z0 F Z σ H s Q qq =>
  PE_w (pe_partition pe_w pe_w hs hbase hline) (ha.run Z0 F Z σ H s _ fun v Z1 H1 A1 g1 r1 n1 => by
    cases r1 with
    | fz r1 =>
      cases r1
      refine ⟨⟨_, rfl⟩, hb.run Z0 F Z1 σ H1 (s.grow g1) _ fun v Z2 H2 A2 g2 r2 n2 => ?_⟩
      cases r2 with
      | fz r2 =>
        cases r2
        refine ⟨p, q, rfl, rfl, hq, hp, fun l hl => ?_⟩
        exact qq _ _ _ [] ((g1.trans g2).trans (Gr.newz g2.zh hl)) (.fz (.tup upd_same (.cons (.str _) (.cons (.str _) (.cons (.str _) .nil))))) .nil)
end
end M
namespace M
open PySem L2 PySem.Spec PyProof.Rows
section
variable {X : Cx} {tg : Expr}
end
section
variable {X : Cx} {ρ : Slots} {es : List Expr} {k j : Int}
end
end M
namespace M
open PySem L2 PySem.Spec PyProof.Rows
section
variable {X : Cx} {ρ : Slots} {a b : Expr} {pos : Pos} {k l : Bool}
end
end M
namespace M
open PySem L2 PySem.Spec PyProof.Rows
section
variable {β : Type} {K : PySem.W.Frag} {Z : Hp} {enc : β → D}
def StandFor (K : PySem.W.Frag) (Z : Hp) (enc : β → D) (u : Value) (b : β) : Prop := ∃ x, RelV x u ∧ Rep K Z x (enc b) ∧ (enc b).pl = true
theorem each_of : ∀ {xs : List V} {us : List Value} {bs : List β}, Vals xs us → RepL K Z xs (bs.map enc) → (∀ b ∈ bs, (enc b).pl = true) → PySem.W.EachIs (StandFor K Z enc) us bs
  | [], _, [], .nil, .nil, _ => .nil
  | _ :: _, _, _ :: _, .cons r1 r2, .cons h1 h2, hp => .cons ⟨_, r1, h1, hp _ List.mem_cons_self⟩ (each_of r2 h2 fun b m => hp b (List.mem_cons_of_mem _ m))
theorem each_back : ∀ {us : List Value} {bs : List β}, PySem.W.EachIs (StandFor K Z enc) us bs → ∃ xs, Vals xs us ∧ RepL K Z xs (bs.map enc)
  | _, _, .nil => ⟨[], .nil, .nil⟩
  | _, _, .cons ⟨x, r, h, _⟩ t => by
    obtain ⟨xs, q1, q2⟩ := each_back t
    exact ⟨x :: xs, .cons r q1, .cons h q2⟩
def rSortD (K : PySem.W.Frag) (enc : β → D) (bs : List β) : List V → Hp → VK → Prop := fun vs H Q => ∃ (Z : Hp) (l : Addr) (xs : List V), vs = [.ref l] ∧ SqL K H l xs ∧ RepL K Z xs (bs.map enc) ∧ Ex Z H ∧
  ∀ ys p, RepL K Z ys ((bs.mergeSort (PySem.W.dataLe false fun b => (enc b).py)).map enc) → H p = none → Q (.ref p) (upd H p (.lst ys))
theorem cr_sortD {X : Cx} {bs : List β} (hu : X.A.units + 64 < cLine) (hp : ∀ b ∈ bs, (enc b).pl = true) (hal : PySem.W.AllAlike (bs.map fun b => (enc b).py)) (hk : PySem.W.Sortable (bs.map fun b => (enc b).py)) (hd : ∀ b ∈ bs, (enc b).py.depth ≤ 60) : CallR X (.builtin "sorted") (rSortD X.K enc bs) := by
  intro pins s σ H vs us Q I r h
  obtain ⟨Z, l, xs, rfl, hs, rl, ez, q⟩ := h
  obtain ⟨its, rv, hl, hz⟩ := I.list hs
  obtain ⟨u, rfl, ru⟩ := vals1 r
  obtain rfl : u = Value.ref l := ru
  have hlen : its.length = bs.length := by rw [← rv.length, rl.length, List.length_map]
  have e := each_of rv rl hp
  have er : PySem.W.EachIs (fun v b => ∃ as, Reads s.heap v ((enc b).py) as) its bs := e.mono fun u b ⟨x, rx, rr, hpl⟩ => Dp.reads I _ x u (rr.dp ez hpl) rx
  refine PySem.W.sorted_data (enc := fun b => (enc b).py) hl.isList e er hal hk (by rw [← hlen, ← rv.length]; exact hz) (fun b m => by have := hd b m; omega) fun out ho hR => ?_
  obtain ⟨ys, v1, v2⟩ := each_back hR
  have hfree : H (s.heap.objs.size + 1) = none := I.hok.fresh (Nat.le_succ _)
  obtain ⟨n, hn⟩ := sortedAll_at s.heap its out.toArray
  refine ⟨.ref (s.heap.objs.size + 1), upd H (s.heap.objs.size + 1) (.lst ys), I.laid (t' := s.toks) (fun b o e => sortedAll_old e) (Nat.le_succ _) ⟨?_, out, n, v1, hn⟩, rfl, q ys _ v2 hfree⟩
  rw [v1.length, ho, ← hlen, ← rv.length]
  exact hz
end
section
variable {X : Cx} {ρ : Slots} {a : Expr} {pos p0 p1 p2 p3 p4 : Pos} {β : Type} {enc : β → D} {bs : List β}
theorem me_sorted (hu : X.A.units + 64 < cLine) (hg : Gl X "sorted") (hm : X.mg "sorted" = none) (ha : ML X ρ a (bs.map enc)) (hp : ∀ b ∈ bs, (enc b).pl = true) (hal : PySem.W.AllAlike (bs.map fun b => (enc b).py)) (hk : PySem.W.Sortable (bs.map fun b => (enc b).py)) (hd : ∀ b ∈ bs, (enc b).py.depth ≤ 60) (n1 : NS X a := by exact fun _ => rfl) :
    ME X ρ (.Call (.Name "sorted" p0) [a] [] pos) (.lst (((bs.mergeSort (PySem.W.dataLe false fun b => (enc b).py)).map enc).map .fz)) := .mk fun Z0 F Z σ H s Q q =>
  PE_w (pe_callB (cr_sortD hu hp hal hk hd) hg hm (by decide +kernel) (pa_cons pe_w pa_nil (n1 _)) (he := n1 _)) (ha.run Z0 F Z σ H s _ fun l vs Z1 H1 g1 l1 r1 =>
    ⟨Z1, l, vs, rfl, l1, r1, g1.zh, fun ys p ry hp => q _ Z1 _ [p] (g1.trans (Gr.new g1.zh hp)) (.lst upd_same ry.own) (new_one (g1.hh.free hp) (g1.zh.free hp))⟩)
end
section
variable {X : Cx} {ρ : Slots} {a b e : Expr} {G : Go} {pos p0 p1 p2 p3 p4 : Pos} {k l : Bool} {i : Nat} {x : Str} {d : D} {ds : List D}
end
end M
namespace M
open PySem L2 PySem.Spec PyProof.Rows
section
variable {X : Cx} {ρ : Slots} {a : Expr} {pos p0 p1 : Pos} {C E : Addr} {ns : List Str} {ds : List D} {os : List O} {nm : Str} {k : Bool} {o : O}
end
section
variable {K : PySem.W.Frag} {Z0 Z Z' F F' H H' : Hp} {ρ : Slots} {σ : L2.St}
theorem StL.push {v : V} {o : O} {B : List Addr} (r : RepO K Z F H v o B) : ∀ {ρ : Slots} {σ : L2.St} {A : List Addr}, StL K Z F H ρ σ A → StL K Z F H (ρ ++ [some o]) (σ ++ [some v]) (A ++ B)
  | _, _, _, .nil => by
    have := StL.so r (.nil (K := K) (Z := Z) (F := F) (H := H))
    rw [List.append_nil] at this
    exact this
  | _, _, _, .no h => .no (h.push r)
  | _, _, _, .so q h => by
    rw [List.append_assoc]
    exact .so q (h.push r)
theorem StR.push {v : V} {o : O} {B : List Addr} (s : StR K ρ Z0 F Z σ H) (g : Gr Z H Z' H') (r : RepO K Z' F H' v o B) (n : New H Z' B) : StR K (ρ ++ [some o]) Z0 F Z' (σ ++ [some v]) H' := by
  have s' := s.grow g
  obtain ⟨A, h1, h2, h3⟩ := s.st
  have m1 : StL K Z' F H' ρ σ A := h1.mono g.zz fun a _ u e => g.hh a u e
  refine ⟨s'.gr, A ++ B, m1.push r, List.nodup_append.mpr ⟨h2, n.1, fun a ha b hb e => ?_⟩, fun a m => ?_⟩
  · subst e
    obtain ⟨u, e⟩ := h1.there a ha
    rw [(n.2 a hb).1] at e
    cases e
  · rcases List.mem_append.mp m with z | z
    · obtain ⟨u, e⟩ := h1.there a z
      exact ⟨(g.nw a u e).trans (h3 a z).1, (h3 a z).2⟩
    · exact ⟨(n.2 a z).2, s.gr.hh.free (n.2 a z).1⟩
theorem StL.last' : ∀ {τ : Slots} {υ : L2.St} {A : List Addr}, StL K Z F H τ υ A → A.Nodup → ∀ {ρ : Slots} {o : O} {σ : L2.St} {v : V}, τ = ρ ++ [some o] → υ = σ ++ [some v] → ∃ B C, StL K Z F H ρ σ B ∧ RepO K Z F H v o C ∧ (B ++ C).Nodup ∧ (∀ a ∈ B ++ C, a ∈ A)
  | _, _, _, .nil, _, ρ, o, σ, v, e1, e2 => by simp at e1
  | _, _, _, .no h, n, ρ, o, σ, v, e1, e2 => by
    cases ρ with
    | nil => simp at e1
    | cons x ρ =>
      cases σ with
      | nil =>
        have l := h.length
        simp at e1 e2
        rw [e1.2, e2.2] at l
        simp at l
      | cons y σ =>
        simp at e1 e2
        obtain ⟨e1a, e1b⟩ := e1
        obtain ⟨e2a, e2b⟩ := e2
        obtain ⟨B, C, q1, q2, q3, q4⟩ := h.last' n e1b e2b
        subst e1a
        exact ⟨B, C, .no q1, q2, q3, q4⟩
  | _, _, _, .so (A := A1) (B := A2) r h, n, ρ, o, σ, v, e1, e2 => by
    obtain ⟨n1, n2, n3⟩ := List.nodup_append.mp n
    cases ρ with
    | nil =>
      cases σ with
      | nil =>
        simp at e1 e2
        obtain ⟨e1a, e1b⟩ := e1
        obtain ⟨e2a, e2b⟩ := e2
        subst e1a e1b e2a e2b
        cases h
        exact ⟨[], A1, .nil, r, by simpa using n, fun a m => by simpa using m⟩
      | cons y σ =>
        have l := h.length
        simp at e1 e2
        rw [e1.2, e2.2] at l
        simp at l
    | cons x ρ =>
      cases σ with
      | nil =>
        have l := h.length
        simp at e1 e2
        rw [e1.2, e2.2] at l
        simp at l
      | cons y σ =>
        simp at e1 e2
        obtain ⟨e1a, e1b⟩ := e1
        obtain ⟨e2a, e2b⟩ := e2
        obtain ⟨B, C, q1, q2, q3, q4⟩ := h.last' n2 e1b e2b
        subst e1a e2a
        refine ⟨A1 ++ B, C, .so r q1, q2, ?_, fun a m => ?_⟩
        · rw [List.append_assoc]
          exact List.nodup_append.mpr ⟨n1, q3, fun a ha b hb => n3 a ha b (q4 b hb)⟩
        · rw [List.append_assoc] at m
          rcases List.mem_append.mp m with m | m
          · exact List.mem_append_left _ m
          · exact List.mem_append_right _ (q4 a m)
theorem StL.last {ρ : Slots} {o : O} {σ : L2.St} {v : V} {A : List Addr} (h : StL K Z F H (ρ ++ [some o]) (σ ++ [some v]) A) (n : A.Nodup) : ∃ B C, StL K Z F H ρ σ B ∧ RepO K Z F H v o C ∧ (B ++ C).Nodup ∧ (∀ a ∈ B ++ C, a ∈ A) := h.last' n rfl rfl
theorem StR.pop {v : V} {o : O} (s : StR K (ρ ++ [some o]) Z0 F Z (σ ++ [some v]) H) : StR K ρ Z0 F Z σ H := by
  obtain ⟨A, h1, h2, h3⟩ := s.st
  obtain ⟨B, C, q1, q2, q3, q4⟩ := h1.last h2
  exact ⟨s.gr, B, q1, (List.nodup_append.mp q3).1, fun a m => h3 a (q4 a (List.mem_append_left _ m))⟩
/-- what is behind comes to a slot -/
theorem StR.take {v : V} {o : O} {i : Nat} (s : StR K (ρ ++ [some o]) Z0 F Z (σ ++ [some v]) H) (hi : i < ρ.length) : StR K (ρ.set i (some o)) Z0 F Z (σ.set i (some v)) H := by
  obtain ⟨A, h1, h2, h3⟩ := s.st
  obtain ⟨B, C, q1, q2, q3, q4⟩ := h1.last h2
  obtain ⟨n1, n2, n3⟩ := List.nodup_append.mp q3
  obtain ⟨A', r1, r2, r3⟩ := StL.put q2 q1 hi n1 n2 fun a ha hb => n3 a hb a ha rfl
  refine ⟨s.gr, A', r1, r2, fun a m => h3 a (q4 a ?_)⟩
  rcases r3 a m with z | z
  · exact List.mem_append_left _ z
  · exact List.mem_append_right _ z
end
structure MX (X : Cx) (ρ : Slots) (e : Expr) (o : O) (ρ' : Slots) : Prop where
  run : ∀ (Z0 F Z : Hp) (σ : L2.St) (H : Hp), StR X.K ρ Z0 F Z σ H → ∀ Q : VK, (∀ v Z' H', StR X.K (ρ' ++ [some o]) Z0 F Z' (σ ++ [some v]) H' → Q v H') → wE X e σ H Q
section
variable {X : Cx} {ρ ρ' : Slots} {e : Expr} {st : Stmt} {G : Go} {o : O} {i : Nat}
theorem ME.x (h : ME X ρ e o) : MX X ρ e o ρ := .mk fun Z0 F Z σ H s Q q => h.run Z0 F Z σ H s Q fun v Z' H' A g r n => q v Z' H' (s.push g r n)
end
end M
namespace M
open PySem L2 PySem.Spec PyProof.Rows
def SpX {α : Type} (K : PySem.W.Frag) (ar : α → List O) (pre : α → Prop) (s0 s1 : Addr → α → O) (res : α → O) : Sp := fun vs H Q _ => ∃ (x : α) (Z F : Hp) (l : Addr) (vs' : List V) (A : List Addr), vs = .ref l :: vs' ∧ Ex Z F ∧ Ex F H ∧ A.Nodup ∧ (∀ a ∈ A, F a = none) ∧ RepO K Z F H (.ref l) (s0 l x) A ∧ RepOL K Z F F vs' (ar x) [] ∧ pre x ∧
  ∀ v Z' H' B, Gr Z F Z' H' → RepOL K Z' (fun _ => none) H' [.ref l, v] [s1 l x, res x] B → B.Nodup → (∀ a ∈ B, F a = none ∧ Z' a = none) → Q v H'
/-- such a def's body keeps its promise -/
theorem fn_mX {α : Type} {P : Program} {w : World} {K : PySem.W.Frag} {mg : Str → Option Value} {base : Heap} {x qual : Str} {st : Stmt} {f : Addr} {fd : FuncData} {N ps : List Str} {k : Nat} {ar : α → List O} {pre : α → Prop} {s0 s1 : Addr → α → O} {res : α → O}
    (F : Fun K x qual st f fd) (S : FnScope N ps (defScope st)) (hl : ∀ x, (ar x).length + 1 = ps.length) (hn1 : ∀ l x, pre x → (s1 l x).nv = true) (hn2 : ∀ x, pre x → (res x).nv = true) (hat : ∀ l x, ∃ C ns os, s1 l x = .at l C ns os)
    (hb : ∀ (cdv : Value) (A : Around) (outer : List Env) (s : Shared) (H : Hp) (E : XK), Room k (A.deeper (envOfC qual (defScope st) s.heap.objs.size f cdv)) → ∀ (l : Addr) x, pre x →
      MS (cxOf CX0 P w K mg base N qual (defScope st) f cdv A outer s H E).nox (some (s0 l x) :: (ar x).map some ++ List.replicate (N.length - ps.length) none) (defBody st) { nx := fun ρ => res x = .fz .non ∧ ρ[0]? = some (some (s1 l x)), rs := fun o ρ => o = res x ∧ ρ[0]? = some (some (s1 l x)) }) :
    FnOk P w K mg base CX0 (k + 1) f fd ps (SpX K ar pre s0 s1 res) := by
  refine F.ok S (fun vs H Q E h => ?_) (fun cdv A outer s H vs Q E hr h => ?_)
  · obtain ⟨x, Z, F, l, vs', A, rfl, _, _, _, _, _, r, _⟩ := h
    rw [List.length_cons, r.length, hl]
  · obtain ⟨x, Z, F0, l, vs', A0, rfl, ez, ef, nA, fA, rs, r, hp, q⟩ := h
    obtain ⟨C, ns, os, hs1⟩ := hat l x
    have st0 : StL K Z F0 H (some (s0 l x) :: (ar x).map some) (some (.ref l) :: vs'.map some) (A0 ++ []) := .so rs (stL_args (r.mono (Ex.refl _) (Ex.refl _) fun _ m => nomatch m))
    refine ⟨_, pss_w, (hb cdv A outer s H E hr l x hp).run Z F0 Z _ H _ ⟨⟨Ex.refl _, ef, ez.trans ef, fun _ _ _ => rfl⟩, A0 ++ [], ?_, by rw [List.append_nil]; exact nA, fun a m => ?_⟩ ⟨fun ρ Z' σ H' e s' => ?_, fun _ _ _ _ z => z.elim, fun _ _ _ _ z => z.elim, fun _ _ _ _ _ z => z.elim, fun o ρ v Z' σ H' e s' => ?_, GX.never fun _ z => z⟩⟩
    · have e : L2.start N (.ref l :: vs') = (some (.ref l) :: vs'.map some) ++ List.replicate (N.length - ps.length) none := by
        unfold L2.start
        rw [List.length_cons, r.length, hl]
        rfl
      rw [e]
      exact stL_more _ st0
    · rw [List.append_nil] at m
      exact ⟨ez.free (fA a m), fA a m⟩
    · obtain ⟨en, e⟩ := e
      obtain ⟨A1, t1, t2, t3⟩ := s'.st
      obtain ⟨v, B, u1, u2, u3, u4, _⟩ := t1.at e t2
      have hn := hn1 l x hp
      rw [hs1] at u2 hn
      cases u2 with
      | @«at» _ _ dx _ vs1 _ B1 h0 rl =>
        refine q .non Z' H' ((l :: B1) ++ ([] ++ [])) s'.gr (.cons ?_ (.cons (A := []) ?_ .nil)) (by simpa using u3) fun a m => ?_
        · rw [hs1]
          exact (RepO.at h0 rl).unF hn
        · rw [en]
          exact .fz .non
        · have m : a ∈ l :: B1 := by simpa using m
          exact ⟨(t3 a (u4 a m)).2, (t3 a (u4 a m)).1⟩
    · obtain ⟨en, e⟩ := e
      subst en
      obtain ⟨A1, t1, t2, t3⟩ := s'.st
      obtain ⟨B, Cc, w1, w2, w3, w4⟩ := t1.last t2
      obtain ⟨n1, n2, n3⟩ := List.nodup_append.mp w3
      obtain ⟨v0, B0, u1, u2, u3, u4, _⟩ := w1.at e n1
      have hn := hn1 l x hp
      rw [hs1] at u2 hn
      cases u2 with
      | @«at» _ _ dx _ vs1 _ B1 h0 rl =>
        refine q v Z' H' ((l :: B1) ++ (Cc ++ [])) s'.gr (.cons ?_ (.cons (w2.unF (hn2 x hp)) .nil)) ?_ fun a m => ?_
        · rw [hs1]
          exact (RepO.at h0 rl).unF hn
        · rw [List.append_nil]
          exact List.nodup_append.mpr ⟨u3, n2, fun a ha b hb => n3 a (u4 a ha) b hb⟩
        · rw [List.append_nil] at m
          have m2 : a ∈ B ++ Cc := by
            rcases List.mem_append.mp m with z | z
            · exact List.mem_append_left _ (u4 a z)
            · exact List.mem_append_right _ z
          exact ⟨(t3 a (w4 a m2)).2, (t3 a (w4 a m2)).1⟩
/-- an __init__ that is such a def makes a new instance -/
theorem SpX.init {α : Type} {P : Program} {w : World} {K : PySem.W.Frag} {mg : Str → Option Value} {base : Heap} {CX : CXT} {k : Nat} {f : Addr} {fd : FuncData} {ps : List Str} {ar : α → List O} {pre : α → Prop} {s0 s1 : Addr → α → O} {β : Type} {arb : β → List O} {preb : β → Prop} {resb : β → List O} {C : Addr} {ns : List Str} (g : β → α)
    (h : FnOk P w K mg base CX k f fd ps (SpX K ar pre s0 s1 fun _ => .fz .non)) (har : ∀ y, ar (g y) = arb y) (hp : ∀ y, preb y → pre (g y)) (h0 : ∀ l y, s0 l (g y) = .at l C [] []) (h1 : ∀ l y, s1 l (g y) = .at l C ns (resb y)) :
    FnOk P w K mg base CX k f fd ps (SpI K C ns arb preb resb) := h.imp fun vs H Q E hh => by
  obtain ⟨y, Z, F, l, dx, vs', rfl, ez, ef, nl, hi, r, hpr, q⟩ := hh
  have fl : ∀ a ∈ [l], F a = none := fun a m => by
    have e : a = l := by simpa using m
    rw [e]
    exact nl
  refine ⟨g y, Z, F, l, vs', [l], rfl, ez, ef, by simp, fl, ?_, by rw [har]; exact r, hp y hpr, fun v Z' H' B gg rr nB dB => ?_⟩
  · rw [h0]
    exact .at (dx := dx) hi .nil
  · cases rr with
    | @cons _ _ _ _ A1 B1 ra rb =>
      cases rb with
      | @cons _ _ _ _ A2 B2 rb rc =>
        cases rc
        cases rb with
        | fz rb =>
          cases rb
          rw [h1] at ra
          rw [List.append_nil, List.append_nil] at nB dB
          exact q Z' H' _ gg ra ⟨nB, dB⟩
section
variable {X : Cx} {ρ : Slots} {e a b : Expr} {es : List Expr} {pos p0 p1 p2 : Pos} {i : Nat} {xx nm : Str} {C : Addr} {ns ns' all : List Str} {os os' : List O} {ds : List D} {o o' : O}
structure Cf1 (P : Program) (w : World) (K : PySem.W.Frag) (mg : Str → Option Value) (base : Heap) (nmC m : Str) (k : Nat) (ps : List Str) (sp : Sp) : Prop where
  ex : ∃ (C : Addr) (mc : Value) (f : Addr) (fd : FuncData), mg nmC = some (.ref C) ∧ ClX.CRead K C mc ∧ ClX.CVal K C mc m (.ref f) (.ref f) ∧ PySem.W.keepIn K (.ref f) = true ∧ Binds K fd ps [] ∧ FnOk P w K mg base CX0 k f fd ps sp
end
end M
namespace M
open PySem L2 PySem.Spec PyProof.Rows
def D.flat : D → Bool
  | .non => true
  | .bl _ => true
  | .int _ => true
  | .str _ => true
  | _ => false
def D.v : D → V
  | .bl b => .bl b
  | .int i => .int i
  | .str x => .str x
  | _ => .non
theorem Rep.flat {K : PySem.W.Frag} {Z : Hp} {v : V} {d : D} (r : Rep K Z v d) (h : d.flat = true) : v = d.v := by
  cases r with
  | non => rfl
  | bl b => rfl
  | int i => rfl
  | str x => rfl
  | _ => cases h
theorem RepL.flat {K : PySem.W.Frag} {Z : Hp} : ∀ {vs : List V} {ds : List D}, RepL K Z vs ds → ds.all D.flat = true → vs = ds.map D.v
  | _, _, .nil, _ => rfl
  | _, _, .cons a r, h => by
    rw [List.all_cons, Bool.and_eq_true] at h
    rw [List.map_cons, a.flat h.1, r.flat h.2]
/-- d stands among ds -/
def D.among (d : D) (ds : List D) : Bool := inV d.v (ds.map D.v)
section
variable {X : Cx} {ρ : Slots} {a b : Expr} {pos : Pos} {d : D} {ds : List D}
end
end M
namespace M
open PySem L2 PySem.Spec PyProof.Rows
section
variable {X : Cx} {ρ : Slots} {a b c d : Expr} {ta tb tc td : TE} {pos : Pos} {m n k l : Int}
end
theorem wk_rngC {K : PySem.W.Frag} {Zs F : Hp} (lo c : Int) (n : Nat) : Wk K Zs F (Itc lo c n) ((List.range n).map fun k : Nat => D.int (lo + (k : Nat) * c)) := by
  refine ⟨fun i d Z H h _ _ zh => ?_, fun Z H _ _ _ => ?_⟩
  · rw [List.getElem?_map] at h
    by_cases hi : i < n
    · rw [List.getElem?_range hi] at h
      cases h
      refine ⟨hi, fun x H' hy => ?_⟩
      obtain ⟨e, ex⟩ := hy
      subst e ex
      exact ⟨Z, Gr.refl zh, .int _⟩
    · rw [List.getElem?_eq_none (by simpa using hi)] at h
      cases h
  · rw [List.length_map, List.length_range]
    exact Nat.le_refl n
theorem mi_range3 {X : Cx} {ρ : Slots} {es : List Expr} {i j c : Int} {n : Nat} (h : MF X ρ es [.int i, .int j, .int c]) (hr : RgC i j c n) : MI X ρ (iRng3 (wA X es)) ((List.range n).map fun k : Nat => D.int (i + (k : Nat) * c)) := .mk fun Z0 F Z σ H s R q => h.run Z0 F Z σ H s _ fun vs Z' H' g r => by
  cases r with
  | cons a r =>
    cases a
    cases r with
    | cons b r =>
      cases b
      cases r with
      | cons d r =>
        cases d
        cases r
        exact ⟨i, j, c, n, rfl, hr, q _ Z' H' g (wk_rngC i c n)⟩
theorem kit_true {K : PySem.W.Frag} {C E : Addr} (h1 : PySem.W.isClsIn K E = true) (h2 : PySem.W.typeIn K (.ref E) = some (.type "type")) (h3 : PySem.W.mroIn K C (.ref E) = some true) : PySem.W.kitOne K (.ref C) (.ref E) = some true := by
  unfold PySem.W.kitOne
  split
  · rfl
  · show PySem.W.kitCls K (.ref C) (.ref E) = some true
    have e : PySem.W.kitCls K (.ref C) (.ref E) = if ((PySem.W.clsIn K E).isSome && PySem.W.typeIn K (.ref E) == some (.type "type")) = true then PySem.W.mroIn K C (.ref E) else none := rfl
    rw [e, if_pos, h3]
    rw [h2]
    show ((PySem.W.clsIn K E).isSome && _) = true
    rw [show (PySem.W.clsIn K E).isSome = true from h1]
    decide
end M
namespace M
open PySem L2 PySem.Spec PyProof.Rows
section
variable {X : Cx} {ρ : Slots} {a b c e : Expr} {es : List Expr} {pos p0 p1 : Pos} {p q : Str} {k : Bool} {ys : List Str}
theorem RepL.strs {K : PySem.W.Frag} {Z : Hp} : ∀ {ys : List Str} {vs : List V}, RepL K Z vs (ys.map .str) → vs = ys.map V.str
  | [], _, .nil => rfl
  | _ :: _, _, .cons (.str _) r => by rw [RepL.strs r]; rfl
/-- s.join(xs), xs a list of texts -/
theorem me_joinL (ha : ME X ρ a (.fz (.str p))) (hb : ML X ρ b (ys.map .str)) (hz : (ys.map (·.length)).sum + ys.length * p.length ≤ 16777216) (hs : starEach [b] X.env = [(false, eval b X.env)] := by rfl) (hbase : attributeBase a "join" X.env (eval a X.env) = eval a X.env := by rfl) (hline : (p1.endLine == pos.line) = true := by rfl) :
    ME X ρ (.Call (.Attribute a "join" p1) [b] [] pos) (.fz (.str (Txt.join p ys))) := .mk fun Z0 F Z σ H s Q qq =>
  PE_w (pe_join pe_w pe_w hs hbase hline) (ha.run Z0 F Z σ H s _ fun v Z1 H1 A1 g1 r1 n1 => by
    cases r1 with
    | fz r1 =>
      cases r1
      refine ⟨⟨_, rfl⟩, hb.run Z0 F Z1 σ H1 (s.grow g1) _ fun l vs Z2 H2 g2 l2 r2 => ?_⟩
      have e := r2.strs
      subst e
      exact ⟨p, l, ys, rfl, rfl, .inl l2, hz, qq _ Z2 H2 [] (g1.trans g2) (.fz (.str _)) .nil⟩)
/-- int(k) of a truth -/
theorem me_intB (hg : Gl X "int") (hm : X.mg "int" = none) (ha : ME X ρ a (.fz (.bl k))) (n1 : NS X a := by exact fun _ => rfl) : ME X ρ (.Call (.Name "int" p0) [a] [] pos) (.fz (.int (if k then 1 else 0))) := .mk fun Z0 F Z σ H s Q q =>
  PE_w (pe_callTy call_int1 hg hm (by decide +kernel) (pa_cons pe_w pa_nil (n1 _)) (he := n1 _)) (ha.run Z0 F Z σ H s _ fun v Z1 H1 A1 g1 r1 n1 => by
    cases r1 with
    | fz r1 =>
      cases r1
      exact .inr ⟨k, rfl, q _ Z1 H1 [] g1 (.fz (.int _)) .nil⟩)
end
end M
namespace M
open PySem L2 PySem.Spec PyProof.Rows
noncomputable def gd {α : Type} (p : Prop) (k : Option α) : Option α := @ite _ p (Classical.propDecidable p) k none
def bd {α β : Type} (o : Option α) (k : α → Option β) : Option β := o.bind k
def lt {α β : Type} (a : α) (k : α → Option β) : Option β := k a
section
variable {α β γ : Type}
theorem gd_some {p : Prop} {k : Option α} {r : α} (h : gd p k = some r) : p ∧ k = some r := by
  unfold gd at h
  by_cases hp : p
  · rw [if_pos hp] at h
    exact ⟨hp, h⟩
  · rw [if_neg hp] at h
    cases h
theorem gd_pos {p : Prop} {k : Option α} (h : p) : gd p k = k := if_pos h
theorem bd_some {o : Option α} {k : α → Option β} {r : β} (h : bd o k = some r) : ∃ a, o = some a ∧ k a = some r := Option.bind_eq_some_iff.mp h
theorem bd_of {o : Option α} {k : α → Option β} {a : α} (h : o = some a) : bd o k = k a := by rw [h]; rfl
theorem lt_some {a : α} {k : α → Option β} {r : β} (h : lt a k = some r) : ∃ x, x = a ∧ k x = some r := ⟨a, rfl, h⟩
theorem cond_t {c : Bool} {a b : α} {r : α} (h : cond c a b = r) (hc : c = true) : a = r := by rw [hc] at h; exact h
theorem cond_f {c : Bool} {a b : α} {r : α} (h : cond c a b = r) (hc : c = false) : b = r := by rw [hc] at h; exact h
theorem and_c {k c : Bool} {b : Option Bool} (h : cond k b (some false) = some c) : (k && c) = c := by
  cases k with
  | true => rfl
  | false => cases h; rfl
theorem or_c {k c : Bool} {b : Option Bool} (h : cond k (some true) b = some c) : (k || c) = c := by
  cases k with
  | true => cases h; rfl
  | false => rfl
end
/-- how a block ends: on, out of the loop, to its next turn, out of the def -/
inductive Ou (V W R : Type) where
  | nx (v : V) | bk (w : W) | ct (w : W) | rt (r : R)
def ouR {V W R : Type} : Ou V W R → (V → Option R) → Option R
  | .nx v, k => k v
  | .rt r, _ => some r
  | _, _ => none
def lp {α V : Type} (f : α → V → Option V) : List α → V → Option V
  | [], v => some v
  | x :: xs, v => bd (f x v) fun v' => lp f xs v'
def lpO {α V R : Type} (f : α → V → Option (Ou V V R)) : List α → V → Option (Ou V V R)
  | [], v => some (.nx v)
  | x :: xs, v => bd (f x v) fun o => match o with
    | .nx v' => lpO f xs v'
    | .ct v' => lpO f xs v'
    | .bk v' => some (.nx v')
    | .rt r => some (.rt r)
def mpO {α β : Type} (f : α → Option β) : List α → Option (List β)
  | [] => some []
  | x :: xs => bd (f x) fun y => bd (mpO f xs) fun ys => some (y :: ys)
theorem mpO_pure {α β : Type} (f : α → β) (xs : List α) : mpO (fun x => some (f x)) xs = some (xs.map f) := by
  induction xs with
  | nil => rfl
  | cons x xs ih => show bd (mpO _ xs) _ = _; rw [ih]; rfl
/-- an invariant by the turn's number -/
theorem lp_inv {α V : Type} {f : α → V → Option V} (I : Nat → V → Prop) {xs : List α} {v : V} (h0 : I 0 v) (h : ∀ (i : Nat) (x : α) (v : V), xs[i]? = some x → I i v → ∃ v', f x v = some v' ∧ I (i + 1) v') : ∃ v', lp f xs v = some v' ∧ I xs.length v' := by
  induction xs generalizing v I with
  | nil => exact ⟨v, rfl, h0⟩
  | cons x xs ih =>
    obtain ⟨v1, e, i1⟩ := h 0 x v rfl h0
    obtain ⟨v2, e2, i2⟩ := ih (fun i => I (i + 1)) i1 fun i y w hy hw => h (i + 1) y w (by simpa using hy) hw
    refine ⟨v2, ?_, i2⟩
    show bd (f x v) _ = _
    rw [e]
    exact e2
/-- a loop that runs to its end -/
theorem lpO_inv {α V R : Type} {f : α → V → Option (Ou V V R)} (I : Nat → V → Prop) {xs : List α} {v : V} (h0 : I 0 v) (h : ∀ (i : Nat) (x : α) (v : V), xs[i]? = some x → I i v → ∃ v', (f x v = some (.nx v') ∨ f x v = some (.ct v')) ∧ I (i + 1) v') : ∃ v', lpO f xs v = some (.nx v') ∧ I xs.length v' := by
  induction xs generalizing v I with
  | nil => exact ⟨v, rfl, h0⟩
  | cons x xs ih =>
    obtain ⟨v1, e, i1⟩ := h 0 x v rfl h0
    obtain ⟨v2, e2, i2⟩ := ih (fun i => I (i + 1)) i1 fun i y w hy hw => h (i + 1) y w (by simpa using hy) hw
    refine ⟨v2, ?_, i2⟩
    show bd (f x v) _ = _
    rcases e with e | e <;> rw [e] <;> exact e2
/-- any end: the outcomes by invariants -/
theorem lpO_post {α V R : Type} {f : α → V → Option (Ou V V R)} (I : Nat → V → Prop) (P : Ou V V R → Prop) {xs : List α} {v : V} (h0 : I 0 v) (h : ∀ (i : Nat) (x : α) (v : V), xs[i]? = some x → I i v → ∃ o, f x v = some o ∧ match o with
    | .nx v' => I (i + 1) v'
    | .ct v' => I (i + 1) v'
    | .bk v' => P (.nx v')
    | .rt r => P (.rt r)) (hd : ∀ v, I xs.length v → P (.nx v)) : ∃ o, lpO f xs v = some o ∧ P o := by
  induction xs generalizing v I with
  | nil => exact ⟨_, rfl, hd v h0⟩
  | cons x xs ih =>
    obtain ⟨o, e, i1⟩ := h 0 x v rfl h0
    have go : ∀ v1, I 1 v1 → ∃ o, lpO f xs v1 = some o ∧ P o := fun v1 i1 => ih (fun i => I (i + 1)) i1 (fun i y w hy hw => h (i + 1) y w (by simpa using hy) hw) hd
    cases o with
    | nx v1 =>
      obtain ⟨o2, e2, i2⟩ := go v1 i1
      exact ⟨o2, by show bd (f x v) _ = _; rw [e]; exact e2, i2⟩
    | ct v1 =>
      obtain ⟨o2, e2, i2⟩ := go v1 i1
      exact ⟨o2, by show bd (f x v) _ = _; rw [e]; exact e2, i2⟩
    | bk v1 => exact ⟨_, by show bd (f x v) _ = _; rw [e]; rfl, i1⟩
    | rt r => exact ⟨_, by show bd (f x v) _ = _; rw [e]; rfl, i1⟩
def goO {V W R : Type} (Rn : V → Slots) (Rw : W → Slots) (er : R → O) (o : Ou V W R) : Go :=
  { nx := fun τ => ∃ v, o = .nx v ∧ Le τ (Rn v), bk := fun τ => ∃ w, o = .bk w ∧ Le τ (Rw w), ct := fun τ => ∃ w, o = .ct w ∧ Le τ (Rw w), rt := fun q => ∃ r, o = .rt r ∧ q = er r }
section
variable {X : Cx} {ρ : Slots} {e a b c elt : Expr} {es : List Expr} {st : Stmt} {sts : List Stmt} {G : Go} {o o1 o2 : O} {d : D} {ds : List D} {pos p0 p1 p2 p3 p4 : Pos} {i : Nat} {x nm : Str} {α β V W R : Type}
/-- for, no way out but the end -/
theorem m_forP {xs : List α} {enc : α → D} {wi : TI} {g : TG} {body : List Stmt} (p : PS X st (tFor wi g (wS X body))) (h : MI X ρ wi (xs.map enc)) {f : α → V → Option V} {v0 v1 : V} (hx : lp f xs v0 = some v1) (Rn : V → Slots) (h0 : Le ρ (Rn v0))
    (hs : ∀ (x : α) (v v' : V), x ∈ xs → f x v = some v' → ∃ τ' ws, MTg g X.K (Rn v) (enc x) τ' ws ∧ MS X τ' body { nx := fun τ => Le τ (Rn v') })
    (hd : ∀ τ, Le τ (Rn v1) → G.nx τ) : MS1 X ρ st G := by
  refine m_forTS (xs := xs) (enc := enc) p h (fun v : V => Rn v) (fun j v => lp f (xs.drop j) v = some v1) ⟨v0, hx, h0⟩ (fun j y v hj hv => ?_) fun τ v hv l => hd τ ?_
  · obtain ⟨hi, ey⟩ := List.getElem?_eq_some_iff.mp hj
    rw [← List.getElem_cons_drop (h := hi), ey] at hv
    obtain ⟨v', e1, e2⟩ := bd_some hv
    obtain ⟨τ', ws, t1, t2⟩ := hs y v v' (List.mem_of_getElem? hj) e1
    exact ⟨τ', ws, t1, ms_imp t2 (fun τ l => ⟨v', e2, l⟩) (fun _ z => z.elim) (fun _ z => z.elim) (fun _ z => z.elim) fun _ _ z => z.elim⟩
  · rw [List.drop_length] at hv
    cases hv
    exact l
/-- for with ways out -/
theorem m_forO {xs : List α} {enc : α → D} {wi : TI} {g : TG} {body : List Stmt} (p : PS X st (tFor wi g (wS X body))) (h : MI X ρ wi (xs.map enc)) {f : α → V → Option (Ou V V R)} {v0 : V} {out : Ou V V R} (hx : lpO f xs v0 = some out) (Rn : V → Slots) (er : R → O) (h0 : Le ρ (Rn v0))
    (hs : ∀ (x : α) (v : V) (o : Ou V V R), x ∈ xs → f x v = some o → ∃ τ' ws, MTg g X.K (Rn v) (enc x) τ' ws ∧ MS X τ' body (goO Rn Rn er o))
    (hd : ∀ v τ, out = .nx v → Le τ (Rn v) → G.nx τ) (hr : ∀ r, out = .rt r → G.rt (er r)) : MS1 X ρ st G := by
  refine m_forTS (xs := xs) (enc := enc) p h (fun v : V => Rn v) (fun j v => lpO f (xs.drop j) v = some out) ⟨v0, hx, h0⟩ (fun j y v hj hv => ?_) fun τ v hv l => ?_
  · obtain ⟨hi, ey⟩ := List.getElem?_eq_some_iff.mp hj
    rw [← List.getElem_cons_drop (h := hi), ey] at hv
    obtain ⟨o, e1, e2⟩ := bd_some hv
    obtain ⟨τ', ws, t1, t2⟩ := hs y v o (List.mem_of_getElem? hj) e1
    refine ⟨τ', ws, t1, ms_imp t2 (fun τ l => ?_) (fun q l => ?_) (fun τ l => ?_) (fun τ l => ?_) fun _ _ z => z.elim⟩
    · obtain ⟨v', rfl, l⟩ := l
      exact ⟨v', e2, l⟩
    · obtain ⟨r, rfl, rfl⟩ := l
      cases e2
      exact hr r rfl
    · obtain ⟨v', rfl, l⟩ := l
      cases e2
      exact hd v' τ rfl l
    · obtain ⟨v', rfl, l⟩ := l
      exact ⟨v', e2, l⟩
  · rw [List.drop_length] at hv
    cases hv
    exact hd v τ rfl l
/-- if whose ways come together, none leaves -/
theorem m_ifP {c : Expr} {a b : List Stmt} {t : Bool} {p : Pos} {out : V} (Rn : V → Slots) (hc : MT X ρ c t) (h1 : t = true → MS X ρ a { nx := fun τ => Le τ (Rn out) }) (h2 : t = false → MS X ρ b { nx := fun τ => Le τ (Rn out) })
    (kn : ∀ τ, Le τ (Rn out) → G.nx τ) : MS1 X ρ (.If c a b p) G := by
  have im : ∀ {s : List Stmt}, MS X ρ s { nx := fun τ => Le τ (Rn out) } → MS X ρ s G := fun h => ms_imp h (fun τ l => kn τ l) (fun q z => z.elim) (fun τ z => z.elim) (fun τ z => z.elim) fun _ _ z => z.elim
  exact m_if hc (fun h => im (h1 h)) fun h => im (h2 h)
theorem atI_map {enc : α → D} {xs : List α} {k : Int} {y : α} (h : L2.atI xs k = some y) : L2.atI (xs.map enc) k = some (enc y) := by
  unfold L2.atI at h ⊢
  rw [List.length_map]
  cases e : ixN xs.length k with
  | none => rw [e] at h; cases h
  | some n =>
    rw [e] at h
    have h : xs[n]? = some y := h
    show (xs.map enc)[n]? = some (enc y)
    rw [List.getElem?_map, h]
    rfl
theorem me_ixLT {xs : List α} {enc : α → D} {k : Int} {y : α} (h : L2.atI xs k = some y) (ha : ML X ρ a (xs.map enc)) (hb : ME X ρ b (.fz (.int k))) (hp : PlainIx b := by exact fun _ _ => rfl) : ME X ρ (.Subscript a b pos) (.fz (enc y)) := me_ixL ha hb (atI_map h) hp
theorem cutG_map {enc : α → β} {xs : List α} {lo hi : Option Int} : cutG (xs.map enc) lo hi = (cutG xs lo hi).map enc := by
  unfold cutG
  rw [List.length_map, List.map_take, List.map_drop]
theorem me_slLT {xs : List α} {enc : α → D} {lo hi : Option Expr} {li hj : Option Int} (ha : ML X ρ a (xs.map enc)) (hl : MO X ρ lo li) (hh : MO X ρ hi hj) : ME X ρ (.Subscript a (.Slice lo hi none p2) pos) (.lst (((cutG xs li hj).map enc).map .fz)) := ME.is (me_slL ha hl hh) (by rw [cutG_map])
theorem me_catLT {xs ys : List α} {enc : α → D} (hl : xs.length + ys.length ≤ sizeLine) (ha : MV X ρ a (.lst ((xs.map enc).map .fz))) (hb : MV X ρ b (.lst ((ys.map enc).map .fz))) : ME X ρ (.BinOp a .Add b pos) (.lst (((xs ++ ys).map enc).map .fz)) := ME.is (me_catL ha hb (by rw [List.length_map, List.length_map]; exact hl)) (congrArg (fun z => O.lst (List.map O.fz z)) List.map_append.symm)
theorem m_appendT {xs : List α} {enc : α → D} {y : α} {p1 p2 p3 p4 : Pos} (hl : xs.length < sizeLine) (p : PE X (.Name x p1) (tVar i)) (hi : ρ[i]? = some (some (.lst ((xs.map enc).map .fz)))) (he : ME X ρ e (.fz (enc y))) (k : G.nx (ρ.set i (some (.lst (((xs ++ [y]).map enc).map .fz)))))
    (q : ∀ t, PE X (.Call (.Attribute (.Name x p1) "append" p2) [e] [] p3) t → PS X (.Expr (.Call (.Attribute (.Name x p1) "append" p2) [e] [] p3) p4) (tDrop t) := by exact fun _ h => ps_expr h)
    (pm : PE X (.Call (.Attribute (.Name x p1) "append" p2) [e] [] p3) (tBM X.K "list" rAppend (tVar i) (tCons (wE X e) tNil)) := by exact pe_bm PySem.F.plainAttrs_list PySem.F.slot_list_append PySem.F.type_list_append mt_append (pv _) (pa_cons pe_w pa_nil)) : MS1 X ρ (.Expr (.Call (.Attribute (.Name x p1) "append" p2) [e] [] p3) p4) G :=
  m_append p hi he (by rw [List.length_map, List.length_map]; exact hl) (by rw [List.map_append, List.map_append] at k; exact k) q pm
theorem mi_rangeT {j : Int} (h : MF X ρ es [.int j]) (h1 : -(2 ^ 62) ≤ j ∧ j < 2 ^ 62) : MI X ρ (iRng1 (wA X es)) ((List.range j.toNat).map fun k : Nat => D.int (k : Nat)) := by
  have q := mi_range1 h h1.1 h1.2
  unfold rng at q
  simp only [Int.zero_add] at q
  exact q
theorem mi_rangeT2 {k j : Int} (h : MF X ρ es [.int k, .int j]) (hb : -(2 ^ 62) ≤ k ∧ k < 2 ^ 62 ∧ -(2 ^ 62) ≤ j ∧ j < 2 ^ 62) : MI X ρ (iRng2 (wA X es)) ((List.range (j - k).toNat).map fun m : Nat => D.int (k + (m : Nat))) := mi_range2 h hb
theorem mi_strT {y : Str} (h : ME X ρ e (.fz (.str y))) : MI X ρ (iStr (wE X e)) (y.cps.toList.map fun c => D.str ⟨#[c]⟩) := mi_str h
theorem mpO_get {f : α → Option β} : ∀ {xs : List α} {ys : List β}, mpO f xs = some ys → (∀ x ∈ xs, ∃ y, f x = some y) ∧ ys = xs.filterMap f
  | [], _, h => by cases h; exact ⟨fun _ m => (nomatch m), rfl⟩
  | x :: xs, _, h => by
    obtain ⟨y, e1, h⟩ := bd_some h
    obtain ⟨ys, e2, h⟩ := bd_some h
    cases h
    obtain ⟨q1, q2⟩ := mpO_get e2
    refine ⟨fun z m => (List.mem_cons.mp m).elim (fun e => by rw [e]; exact ⟨y, e1⟩) (q1 z), ?_⟩
    rw [List.filterMap_cons, e1, q2]
noncomputable def ofO (enc : β → D) (f : α → Option β) (x : α) : D := match f x with
  | some y => enc y
  | none => .non
theorem mpO_map {enc : β → D} {f : α → Option β} : ∀ {xs : List α} {ys : List β}, mpO f xs = some ys → xs.map (ofO enc f) = ys.map enc
  | [], _, h => by cases h; rfl
  | x :: xs, _, h => by
    obtain ⟨y, e1, h⟩ := bd_some h
    obtain ⟨ys, e2, h⟩ := bd_some h
    cases h
    rw [List.map_cons, List.map_cons, mpO_map e2]
    unfold ofO
    rw [e1]
theorem me_lcO {xs : List α} {ys : List β} {enc : α → D} {enc2 : β → D} {f : α → Option β} (hy : mpO f xs = some ys) {wi : TI} {g : TG} {scope : Scope} {vs : List Nat} (p : ∀ te : TE, (∀ (s : Shared) (H : Hp) (C : Addr) (cl : List (Str × Addr)) (fp : List Addr), PE (X.blk s H scope (compEnvC scope cl C X.env) fp) elt te) → PE X e (tLc wi g tYes te vs))
    (h : MIc X ρ wi (xs.map enc)) (hz : xs.length < sizeLine)
    (hs : ∀ d ∈ xs, ∀ y, f d = some y → ∃ τ ws, MTg g X.K (wipeS ρ vs) (enc d) τ ws ∧ (∀ w ∈ ws, w ∈ vs) ∧ ∀ (s : Shared) (H : Hp) (C : Addr) (cl : List (Str × Addr)) (fp : List Addr), ME (X.blk s H scope (compEnvC scope cl C X.env) fp) τ elt (.fz (enc2 y))) :
    ME X ρ e (.lst ((ys.map enc2).map .fz)) := ME.is (me_lc p h (ofO enc2 f) hz fun d m => by
    obtain ⟨y, ey⟩ := (mpO_get hy).1 d m
    obtain ⟨τ, ws, t1, t2, t3⟩ := hs d m y ey
    exact ⟨τ, ws, t1, t2, fun s H C cl fp => ME.is (t3 s H C cl fp) (by unfold ofO; rw [ey])⟩) (by rw [mpO_map hy])
end
/-- the promise of a def by its mirror -/
def SpF {A R : Type} (K : PySem.W.Frag) (ar : A → List O) (f : A → Option R) (er : R → O) : Sp := SpM K (fun x : A × R => ar x.1) (fun x => f x.1 = some x.2) (fun x => er x.2)
end M
namespace M
open PySem L2 PySem.Spec PyProof.Rows
abbrev sg1 (c : Nat) : Str := ⟨#[c]⟩
abbrev strI (m : Int) : Str := toString m
abbrev e_d (d : D) : D := d
def Ok {α : Type} (o : Option α) (P : α → Prop) : Prop := ∃ r, o = some r ∧ P r
section
variable {α β V W R : Type} {P : β → Prop}
theorem ok_gd {p : Prop} {k : Option β} (h : p) (hk : Ok k P) : Ok (gd p k) P := by rw [gd_pos h]; exact hk
theorem ok_bd {o : Option α} {k : α → Option β} {Q : α → Prop} (h : Ok o Q) (hk : ∀ a, Q a → Ok (k a) P) : Ok (bd o k) P := by
  obtain ⟨a, e, q⟩ := h
  rw [bd_of e]
  exact hk a q
theorem ok_lt {a : α} {k : α → Option β} (hk : Ok (k a) P) : Ok (lt a k) P := hk
theorem ok_ltx {a : α} {k : α → Option β} (hk : ∀ x, x = a → Ok (k x) P) : Ok (lt a k) P := hk a rfl
theorem ok_some {b : β} (h : P b) : Ok (some b) P := ⟨b, rfl, h⟩
theorem ok_cond {c : Bool} {a b : Option β} (h1 : c = true → Ok a P) (h2 : c = false → Ok b P) : Ok (cond c a b) P := by
  cases c with
  | true => exact h1 rfl
  | false => exact h2 rfl
theorem ok_t {c : Bool} {a b : Option β} (hc : c = true) (h : Ok a P) : Ok (cond c a b) P := by rw [hc]; exact h
theorem ok_f {c : Bool} {a b : Option β} (hc : c = false) (h : Ok b P) : Ok (cond c a b) P := by rw [hc]; exact h
theorem Ok.imp {Q : β → Prop} {o : Option β} (h : Ok o Q) (f : ∀ r, Q r → P r) : Ok o P := let ⟨r, e, q⟩ := h; ⟨r, e, f r q⟩
theorem Ok.eq {o : Option β} {b : β} (h : Ok o (· = b)) : o = some b := by obtain ⟨r, e, rfl⟩ := h; exact e
theorem Ok.of {o : Option β} {b : β} (h : o = some b) : Ok o (· = b) := ⟨b, h, rfl⟩
theorem ok_atI {xs : List α} {k : Int} {Q : α → Prop} (h0 : 0 ≤ k) (h1 : k < xs.length) (q : ∀ y, xs[k.toNat]? = some y → Q y) : Ok (L2.atI xs k) Q := by
  have hk : k.toNat < xs.length := by omega
  refine ⟨xs[k.toNat], ?_, q _ (List.getElem?_eq_getElem hk)⟩
  obtain ⟨n, rfl⟩ := Int.eq_ofNat_of_zero_le h0
  exact atI_nat (List.getElem?_eq_getElem (by simpa using hk))
theorem ok_atIm {xs : List α} {k : Int} {Q : α → Prop} (h0 : 0 ≤ k) (h1 : k < xs.length) (q : ∀ y ∈ xs, Q y) : Ok (L2.atI xs k) Q := ok_atI h0 h1 fun y e => q y (List.mem_of_getElem? e)
theorem ok_lp {f : α → V → Option V} {xs : List α} {v : V} {Q : V → Prop} (I : Nat → V → Prop) (h0 : I 0 v) (h : ∀ (i : Nat) (x : α) (v : V), xs[i]? = some x → I i v → Ok (f x v) (I (i + 1))) (hd : ∀ v, I xs.length v → Q v) : Ok (lp f xs v) Q := by
  obtain ⟨v', e, i⟩ := lp_inv I h0 h
  exact ⟨v', e, hd v' i⟩
theorem ok_lpO {f : α → V → Option (Ou V V R)} {xs : List α} {v : V} {Q : Ou V V R → Prop} (I : Nat → V → Prop) (h0 : I 0 v) (h : ∀ (i : Nat) (x : α) (v : V), xs[i]? = some x → I i v → Ok (f x v) fun o => match o with
    | .nx v' => I (i + 1) v'
    | .ct v' => I (i + 1) v'
    | .bk v' => Q (.nx v')
    | .rt r => Q (.rt r)) (hd : ∀ v, I xs.length v → Q (.nx v)) : Ok (lpO f xs v) Q := lpO_post I Q h0 h hd
theorem ok_lpN {f : α → V → Option (Ou V V R)} {xs : List α} {v : V} {Q : Ou V V R → Prop} (I : Nat → V → Prop) (h0 : I 0 v) (h : ∀ (i : Nat) (x : α) (v : V), xs[i]? = some x → I i v → Ok (f x v) fun o => ∃ v', (o = .nx v' ∨ o = .ct v') ∧ I (i + 1) v') (hd : ∀ v, I xs.length v → Q (.nx v)) : Ok (lpO f xs v) Q := by
  obtain ⟨v', e, i⟩ := lpO_inv (f := f) I h0 fun i x v hx hv => by
    obtain ⟨o, e, v', e2, q⟩ := h i x v hx hv
    exact ⟨v', e2.imp (fun z => by rw [e, z]) (fun z => by rw [e, z]), q⟩
  exact ⟨_, e, hd v' i⟩
end
section
variable {X : Cx} {ρ : Slots} {e a b c elt : Expr} {es : List Expr} {st : Stmt} {sts : List Stmt} {G : Go} {o o1 o2 : O} {d : D} {ds : List D} {pos p0 p1 p2 p3 p4 : Pos} {i : Nat} {x nm : Str} {α β : Type} {p q : Str} {k l : Bool} {m n : Int}
theorem MT.is (h : MT X ρ e k) (q : k = l) : MT X ρ e l := q ▸ h
theorem MW.is (h : MW X ρ e k) (q : k = l) : MW X ρ e l := q ▸ h
theorem ME.isB (h : ME X ρ e (.fz (.bl k))) (q : k = l) : ME X ρ e (.fz (.bl l)) := q ▸ h
theorem frz_own {enc : α → D} {xs : List α} : (O.lst ((xs.map enc).map .fz)).frz = .lst (xs.map enc) := congrArg D.lst (O.frzL_fz _)
theorem me_lenLT {xs : List α} {enc : α → D} (hg : Gl X "len") (hm : X.mg "len" = none) (ha : ML X ρ a (xs.map enc)) (n1 : NS X a := by exact fun _ => rfl) : ME X ρ (.Call (.Name "len" p0) [a] [] pos) (.fz (.int (xs.length : Int))) := ME.is (me_len hg hm ha n1) (by rw [List.length_map])
theorem repG_map {enc : α → β} {xs : List α} {k : Int} : repG (xs.map enc) k = (repG xs k).map enc := by
  unfold repG
  rw [List.map_flatten, List.map_replicate]
theorem me_repT {xs : List α} {enc : α → D} {kk : Int} (h : (-(2 ^ 63) ≤ kk ∧ kk < 2 ^ 63) ∧ xs.length * kk.toNat ≤ sizeLine) (ha : MV X ρ a (.lst ((xs.map enc).map .fz))) (hb : ME X ρ b (.fz (.int kk))) : ME X ρ (.BinOp a .Mult b pos) (.lst (((repG xs kk).map enc).map .fz)) :=
  ME.is (me_rep ha hb h.1 (by rw [List.length_map]; exact h.2)) (by rw [repG_map])
theorem me_eqDT {d1 d2 : D} (hu : X.A.units + 64 < cLine) (h : d1.ok ∧ d2.ok) (e1 : o1.frz = d1) (e2 : o2.frz = d2) (ha : MV X ρ a o1) (hb : MV X ρ b o2) : ME X ρ (.Compare a [.Eq] [b] pos) (.fz (.bl (D.eqv d1 d2))) := by
  subst e1 e2
  exact me_eqD hu ha hb h.1 h.2
theorem mt_eqDT {d1 d2 : D} (hu : X.A.units + 64 < cLine) (h : d1.ok ∧ d2.ok) (e1 : o1.frz = d1) (e2 : o2.frz = d2) (ha : MV X ρ a o1) (hb : MV X ρ b o2) : MT X ρ (.Compare a [.Eq] [b] pos) (D.eqv d1 d2) := by
  subst e1 e2
  exact mt_eqD hu ha hb h.1 h.2
theorem mt_neDT {d1 d2 : D} (hu : X.A.units + 64 < cLine) (h : d1.ok ∧ d2.ok) (e1 : o1.frz = d1) (e2 : o2.frz = d2) (ha : MV X ρ a o1) (hb : MV X ρ b o2) : MT X ρ (.Compare a [.NotEq] [b] pos) (!D.eqv d1 d2) := by
  subst e1 e2
  exact mt_neD hu ha hb h.1 h.2
section
variable {xi : List Int} {xs : List Str} {xb : List Bool}
end
theorem me_slS {lo hi : Option Expr} {li hj : Option Int} (hz : p.length ≤ sizeLine) (ha : ME X ρ a (.fz (.str p))) (hl : MO X ρ lo li) (hh : MO X ρ hi hj) : ME X ρ (.Subscript a (.Slice lo hi none p2) pos) (.fz (.str (cutS p li hj))) := .mk fun Z0 F Z σ H s Q q => by
  obtain ⟨tl, pl, kl⟩ := hl.run
  obtain ⟨th, ph, kh⟩ := hh.run
  refine PE_w (pe_slice sl_str pe_w pl ph) (ha.run Z0 F Z σ H s _ fun v Z1 H1 A1 g1 r1 n1 => kl Z0 F Z1 σ H1 (s.grow g1) _ fun Z2 H2 g2 => kh Z0 F Z2 σ H2 (s.grow (g1.trans g2)) _ fun Z3 H3 g3 => ?_)
  cases r1 with
  | fz r1 =>
    cases r1
    exact ⟨p, rfl, hz, q _ Z3 H3 [] (g1.trans (g2.trans g3)) (.fz (.str _)) .nil⟩
def revS (z : Str) : Str := ⟨z.cps.toList.reverse.toArray⟩
theorem revS_is (z : Str) : (⟨((Builtin.Str.strSliceIndices none none (-1) z.length).filterMap (z.cps[·]?)).toArray⟩ : Str) = revS z := by
  unfold revS
  rw [picked_rev, filterMap_get, List.map_map]
  · congr 2
    apply List.ext_getElem
    · simp [Str.length]
    · intro i h1 h2
      have hi : i < z.cps.size := by simpa [Str.length] using h1
      simp only [List.getElem_map, List.getElem_range, Function.comp, List.getElem_reverse, Array.getElem_toList]
      have : z.length - 1 - i < z.cps.size := by
        show z.cps.size - 1 - i < z.cps.size
        omega
      rw [Array.getD, dif_pos this]
      congr 1
  · intro i hi
    obtain ⟨k, hk, rfl⟩ := List.mem_map.mp hi
    have hk' : k < z.length := List.mem_range.mp hk
    show z.length - 1 - k < z.length
    omega
end
end M
namespace M
open PySem L2 PySem.Spec PyProof.Rows
def tRevS (te : TE) : TE := fun σ H Q => te σ H fun v H1 => ∃ z, v = .str z ∧ z.length ≤ sizeLine ∧ Q (.str (revS z)) H1
section
variable {X : Cx} {ρ : Slots} {e a b c elt : Expr} {es : List Expr} {st : Stmt} {sts : List Stmt} {G : Go} {o o1 o2 : O} {d : D} {ds : List D} {pos p0 p1 p2 p3 p4 : Pos} {i : Nat} {x nm : Str} {α β γ : Type} {p q : Str} {k l : Bool} {m n : Int} {te : TE}
theorem pe_revS {k : Nat} (he : PE X e te) : PE X (.Subscript e (.Slice none none (some (.UnaryOp .USub (.Constant (.int 1) k p1) p2)) p3) pos) (tRevS te) := by
  refine ⟨fun pins s σ H Q I h => ?_⟩
  refine Subscript_ (thn (he.run pins s σ H _ I h) fun v s1 ⟨x, H1, I1, r1, q1⟩ => ?_)
  obtain ⟨z, ex, hz, q⟩ := q1
  subst ex
  obtain ⟨t, rfl⟩ := r1
  have hst : PO X (some (.UnaryOp .USub (.Constant (.int 1) k p1) p2)) (tPart (tUn (rU fun i => .int (-i)) (tC (.int 1)))) := po_some (pe_un un_neg pe_int)
  refine wpAny_Slice (thn (po_none.run pins s1 σ H1 (fun o H2 => o = none ∧ H2 = H1) I1 ⟨rfl, rfl⟩) fun vl s2 ⟨l, H2, I2, pl, el, e2⟩ => ?_)
  subst el e2
  refine thn (po_none.run pins s2 σ H2 (fun o H3 => o = none ∧ H3 = H2) I2 ⟨rfl, rfl⟩) fun vu s3 ⟨u, H3, I3, pu, eu, e3⟩ => ?_
  subst eu e3
  refine thn (hst.run pins s3 σ H3 (fun o H4 => o = some (-1) ∧ H4 = H3) I3 ⟨1, rfl, -1, rfl, rfl, rfl⟩) fun vs s4 ⟨o, H4, I4, ps, eo, e4⟩ => ?_
  subst eo e4
  have I5 : Inv X pins σ H4 { s4 with heap := s4.heap.push { cls := .type "slice", data := .fields #[vl, vu, vs] } } := I4.kept (t' := s4.toks) fun b ob q => Heap.get?_push_of_some _ q
  show wpAny (model X.prog X.w) X.A (subscriptTail e (.Slice none none (some (.UnaryOp .USub (.Constant (.int 1) k p1) p2)) p3) (.str z t) (.ref s4.heap.objs.size)) (EP X pins σ Q) X.xe { s4 with heap := s4.heap.push { cls := .type "slice", data := .fields #[vl, vu, vs] } }
  refine tail_any (ops := [.str z t, .ref s4.heap.objs.size]) (typeIs_str _ _ _) (F.slot_str_getitem.lookup) ?_ (by with_unfolding_all rfl)
  obtain ⟨l, rfl, hl⟩ := IsPart.raw pl
  obtain ⟨u, rfl, hu⟩ := IsPart.raw pu
  obtain ⟨so, rfl, hso⟩ := IsPart.raw ps
  refine wpAny_getItem_str_slice (l := l) (u := u) (st := so) ⟨_, Heap.get?_push_size _ rfl, rfl, rfl⟩ ?_ ?_
  · rw [hso]; rfl
  · have hm : sliceMade z t l u so = .str (revS z) := by
      unfold sliceMade slicePicked
      rw [hl, hu, hso]
      show (if ((-1 : Int) == 1 && _) = true then Made.val (.str z t) else Made.str ⟨((Builtin.Str.strSliceIndices none none (-1) z.length).filterMap (z.cps[·]?)).toArray⟩) = _
      rw [if_neg (by simp), revS_is]
    rw [hm]
    refine ⟨?_, .str (revS z), H4, I5.tok _, ⟨_, rfl⟩, q⟩
    have : (revS z).length = z.length := by simp [revS, Str.length]
    rw [this]
    exact hz
theorem me_revS {kk : Nat} (hz : p.length ≤ sizeLine) (ha : ME X ρ a (.fz (.str p))) : ME X ρ (.Subscript a (.Slice none none (some (.UnaryOp .USub (.Constant (.int 1) kk p1) p2)) p3) pos) (.fz (.str (revS p))) := .mk fun Z0 F Z σ H s Q q =>
  PE_w (pe_revS pe_w) (ha.run Z0 F Z σ H s _ fun v Z1 H1 A1 g1 r1 n1 => by
    cases r1 with
    | fz r1 =>
      cases r1
      exact ⟨p, rfl, hz, q _ Z1 H1 [] g1 (.fz (.str _)) .nil⟩)
def repS (z : Str) (n : Int) : Str := ⟨(List.replicate n.toNat z.cps.toList).flatten.toArray⟩
theorem foldl_app {γ : Type} : ∀ (n : Nat) (c a : Array γ), (List.replicate n c).foldl (· ++ ·) a = ⟨a.toList ++ (List.replicate n c.toList).flatten⟩
  | 0, c, a => by simp
  | n + 1, c, a => by
    rw [List.replicate_succ, List.foldl_cons, foldl_app n, List.replicate_succ, List.flatten_cons]
    simp
theorem op_mul_str : OpR X (binaryOp .Mult) (fun x y H Q => ∃ z n, x = .str z ∧ y = .int n ∧ ((-(2 ^ 63) ≤ n ∧ n < 2 ^ 63) ∧ z.length * n.toNat ≤ 16777216) ∧ Q (.str (repS z n)) H) := by
  intro pins s σ H x y v u Q I rx ry h
  obtain ⟨z, n, rfl, rfl, ⟨⟨h1, h2⟩, h3⟩, q⟩ := h
  obtain ⟨t, rfl⟩ := rx
  obtain ⟨t', rfl⟩ := ry
  have hle : ¬ n < 1 → z.length ≤ 16777216 := fun hn => by
    have : 1 ≤ n.toNat := by omega
    exact Nat.le_trans (by have := Nat.mul_le_mul_left z.length this; omega) h3
  refine PySem.P.mul_str (by rw [decide_eq_false (by omega), decide_eq_false (by omega)]; rfl) (fun hn h0 hb => ?_) (fun hn h0 => ?_) ?_
  · have h1 : ((z.length : Int)) * n ≤ 16777216 := by
      have e : (n.toNat : Int) = n := by omega
      have := Int.ofNat_le.mpr h3
      rw [Int.natCast_mul, e] at this
      exact this
    have hn1 : 1 ≤ n := by omega
    have hq : (2 ^ 63 - 1) / n ≥ (z.length : Int) := by
      rw [ge_iff_le, Int.le_ediv_iff_mul_le (by omega)]
      omega
    omega
  · show decide (z.length * n.toNat > 16777216) = false
    exact decide_eq_false (by omega)
  · by_cases hn : n < 1
    · rw [if_pos hn]
      have e : repS z n = Str.empty := by
        unfold repS
        rw [show n.toNat = 0 by omega]
        rfl
      rw [e] at q
      exact ⟨by decide, .str _, H, I.tok _, ⟨_, rfl⟩, q⟩
    · rw [if_neg hn]
      by_cases h0 : (n == 1 || z.length == 0) = true
      · rw [if_pos h0]
        have e : repS z n = z := by
          unfold repS
          rw [Bool.or_eq_true, beq_iff_eq, beq_iff_eq] at h0
          rcases h0 with h0 | h0
          · subst h0
            simp
          · have : z.cps.toList = [] := by
              apply List.eq_nil_of_length_eq_zero
              rw [Array.length_toList]
              exact h0
            rw [this]
            have e2 : (List.replicate n.toNat ([] : List Nat)).flatten = [] := by simp
            rw [e2]
            obtain ⟨⟨l⟩⟩ := z
            have this : l = [] := this
            rw [this]
        rw [e] at q
        exact ⟨.str _, H, I, ⟨_, rfl⟩, q⟩
      · rw [if_neg h0]
        have e : (⟨(List.replicate n.toNat z.cps).foldl (· ++ ·) #[]⟩ : Str) = repS z n := by
          rw [foldl_app]
          rfl
        rw [e]
        refine ⟨?_, .str _, H, I.tok _, ⟨_, rfl⟩, q⟩
        have : (repS z n).length = n.toNat * z.length := by simp [repS, Str.length, List.length_flatten]
        rw [this, Nat.mul_comm]
        exact h3
theorem me_repS {kk : Int} (h : (-(2 ^ 63) ≤ kk ∧ kk < 2 ^ 63) ∧ p.length * kk.toNat ≤ 16777216) (ha : ME X ρ a (.fz (.str p))) (hb : ME X ρ b (.fz (.int kk))) : ME X ρ (.BinOp a .Mult b pos) (.fz (.str (repS p kk))) := me_op op_mul_str ha hb (.str p) (.int kk) (.str _) fun _ _ q => ⟨p, kk, rfl, rfl, h, q⟩
noncomputable def srt (enc : β → D) (bs : List β) : List β := bs.mergeSort (PySem.W.dataLe false fun b => (enc b).py)
def SrtOk (enc : β → D) (bs : List β) : Prop := (∀ b ∈ bs, (enc b).pl = true) ∧ PySem.W.AllAlike (bs.map fun b => (enc b).py) ∧ PySem.W.Sortable (bs.map fun b => (enc b).py) ∧ ∀ b ∈ bs, (enc b).py.depth ≤ 60
noncomputable def rgN (i j c : Int) : Option Nat := @ite _ (∃ n, RgC i j c n) (Classical.propDecidable _) (some (Builtin.Range.rangeSize i j c).toNat) none
theorem rgN_ok {i j c : Int} {n : Nat} (h : rgN i j c = some n) : RgC i j c n := by
  unfold rgN at h
  by_cases e : ∃ n, RgC i j c n
  · rw [if_pos e] at h
    obtain ⟨m, h1, h2, h3, h4⟩ := e
    cases h
    rw [h4]
    exact ⟨h1, h2, h3, h4⟩
  · rw [if_neg e] at h
    cases h
theorem rgN_is {i j c : Int} {n : Nat} (h : RgC i j c n) : rgN i j c = some n := by
  unfold rgN
  rw [if_pos ⟨n, h⟩, h.2.2.2]
  rfl
end
end M
namespace M
open PySem L2 PySem.Spec PyProof.Rows
theorem nsPut_new : ∀ {ns : List Str} {f : Str}, nmAt ns f = none → nsPut ns f = ns ++ [f]
  | [], _, _ => rfl
  | n :: r, f, h => by
    unfold nmAt at h
    unfold nsPut
    by_cases e : n = f
    · rw [if_pos e.symm] at h; cases h
    · rw [if_neg fun q => e q.symm] at h
      rw [if_neg e, nsPut_new (Option.map_eq_none_iff.mp h)]
      rfl
theorem xsPut_new {α : Type} : ∀ {ns : List Str} {f : Str} {xs : List α} {y : α}, nmAt ns f = none → xs.length = ns.length → xsPut ns f xs y = xs ++ [y]
  | [], _, [], _, _, _ => rfl
  | n :: r, f, x :: xs, y, h, l => by
    unfold nmAt at h
    unfold xsPut
    by_cases e : n = f
    · rw [if_pos e.symm] at h; cases h
    · rw [if_neg fun q => e q.symm] at h
      rw [if_neg e, xsPut_new (Option.map_eq_none_iff.mp h) (by simpa using l)]
      rfl
section
variable {X : Cx} {ρ : Slots} {e a b c elt : Expr} {es : List Expr} {st : Stmt} {sts : List Stmt} {G : Go} {o o1 o2 : O} {d : D} {ds : List D} {os : List O} {pos p0 p1 p2 p3 p4 : Pos} {i : Nat} {x nm f : Str} {C : Addr} {ns : List Str}
theorem OC.take {K : PySem.W.Frag} {all : List Str} (n : Nat) (h : OC K C all) : OC K C (all.take n) := ⟨h.cl, fun f m => h.na f (List.mem_of_mem_take m)⟩
/-- x.f = e, an attribute that isn't there yet -/
theorem m_setFldN {l : Addr} {all : List Str} (pn : PE X (.Name x p1) (tVar i)) (hi : ρ[i]? = some (some (.at l C ns os))) (cc : OC X.K C all) (he : ME X ρ e o)
    (kk : G.nx (ρ.set i (some (.at l C (ns ++ [f]) (os ++ [o]))))) (hl : os.length = ns.length := by rfl) (h1000 : ns.length < 1000 := by decide) (hm : f ∈ all := by decide +kernel) (hn : nmAt ns f = none := by decide +kernel)
    (hs : swapsWith e (some (.Attribute (.Name x p1) f p2)) p3.line X.env = pure false := by rfl) : MS1 X ρ (.Assign [.Attribute (.Name x p1) f p2] e p3) G :=
  m_setFld pn hi hl h1000 cc hm he (by rw [nsPut_new hn, xsPut_new hn hl]; exact kk) hs
end
end M
namespace M
open PySem L2 PySem.Spec PyProof.Rows
/-- slots that are fit for what follows: gone, of one's own, or a view at a known place that stands as it stood -/
inductive Kp : Slots → Slots → Prop where
  | nil : Kp [] []
  | no {x : Option O} {ρ τ : Slots} : Kp ρ τ → Kp (x :: ρ) (none :: τ)
  | nv {x : Option O} {o : O} {ρ τ : Slots} : o.nv = true → Kp ρ τ → Kp (x :: ρ) (some o :: τ)
  | va {a : Addr} {ds : List D} {ρ τ : Slots} : Kp ρ τ → Kp (some (.vwa a ds) :: ρ) (some (.vwa a ds) :: τ)
  | lk {a : Addr} {o : O} {ρ τ : Slots} : Kp ρ τ → Kp (some (.lk (.loc a o)) :: ρ) (some (.lk (.loc a o)) :: τ)
section
variable {K : PySem.W.Frag} {Z0 Z Z1 F F' H H1 : Hp}
theorem StL.monoF (f : Ex F F') : ∀ {ρ : Slots} {σ : L2.St} {A : List Addr}, StL K Z F H ρ σ A → StL K Z F' H ρ σ A
  | _, _, _, .nil => .nil
  | _, _, _, .no h => .no (h.monoF f)
  | _, _, _, .so r h => .so (r.mono (Ex.refl _) f fun _ _ _ e => e) (h.monoF f)
theorem RepO.lkAt {v : V} {a : Addr} {o : O} {A : List Addr} (r : RepO K Z F H v (.lk (.loc a o)) A) : v = .ref a ∧ A = [] ∧ RepK K Z F (.ref a) o := by
  cases r with
  | lk r =>
    cases r with
    | loc r => exact ⟨rfl, rfl, r⟩
theorem StL.kp (ef : Ex F F') (ez : Ex Z Z1) : ∀ {ρ τ : Slots} {σ0 σ : L2.St} {A0 A : List Addr}, Kp ρ τ → StL K Z F H ρ σ0 A0 → StL K Z1 F' H1 τ σ A → StL K Z1 F H1 τ σ A
  | _, _, _, _, _, _, .nil, .nil, .nil => .nil
  | _, _, _, _, _, _, .no k, .no h0, .no h => .no (StL.kp ef ez k h0 h)
  | _, _, _, _, _, _, .no k, .so _ h0, .no h => .no (StL.kp ef ez k h0 h)
  | _, _, _, _, _, _, .nv n k, .no h0, .so r h => .so (r.unF n) (StL.kp ef ez k h0 h)
  | _, _, _, _, _, _, .nv n k, .so _ h0, .so r h => .so (r.unF n) (StL.kp ef ez k h0 h)
  | _, _, _, _, _, _, .va k, .so r0 h0, .so r h => by
    cases r with
    | vwa r2 r3 =>
      cases r0 with
      | vwa r4 r5 => exact .so (.vwa r4 (r5.mono ez)) (StL.kp ef ez k h0 h)
  | _, _, _, _, _, _, .lk (a := a) (o := o) k, .so r0 h0, .so r h => by
    have e0 := RepO.lkAt r0
    have e1 := RepO.lkAt r
    rw [e1.1, e1.2.1]
    exact .so (.lk (.loc (e0.2.2.mono ez (Ex.refl _)))) (StL.kp ef ez k h0 h)
end
section
variable {X : Cx} {ρ : Slots} {st : Stmt} {sts : List Stmt} {G : Go} {o : O} {d : D} {ds : List D} {i : Nat}
end
end M
namespace M
open PySem L2 PySem.Spec PyProof.Rows
section
variable {X : Cx} {ρ : Slots} {a b : Expr} {pos : Pos} {p : Str} {m : Int} {k : Bool}
end
end M
namespace M
open PySem L2 PySem.Spec PyProof.Rows
def isiD (T : String) (d : D) : Option Bool := d.tyN.bind fun t => kitB t T
def asI : D → Option Int
  | .int i => some i
  | _ => none
def asS : D → Option Str
  | .str x => some x
  | _ => none
theorem asI_is {d : D} {i : Int} (h : asI d = some i) : O.fz d = .fz (.int i) := by
  cases d <;> cases h
  rfl
theorem asS_is {d : D} {i : Str} (h : asS d = some i) : O.fz d = .fz (.str i) := by
  cases d <;> cases h
  rfl
section
variable {X : Cx} {ρ : Slots} {a b c e : Expr} {pos p0 p1 : Pos} {d : D} {k : Bool}
theorem me_isiD {T : String} {TS : Str} (hk : isiD T d = some k) (hg : Gl X "isinstance") (hm : X.mg "isinstance" = none) (hT : PE X (.Name TS p1) (tC (.ty T))) (ha : MV X ρ a (.fz d)) (n1 : NS X a := by exact fun _ => rfl) :
    ME X ρ (.Call (.Name "isinstance" p0) [a, .Name TS p1] [] pos) (.fz (.bl k)) := by
  obtain ⟨t, h1, h2⟩ := Option.bind_eq_some_iff.mp hk
  exact me_isi hg hm hT ha (o := .fz d) h1 h2 n1
end
end M
namespace M
open PySem L2 PySem.Spec PyProof.Rows
structure MkP (K : PySem.W.Frag) (C : Addr) : Prop where
  makes : PySem.W.makesIn K C = true
  init : PySem.W.findIn K (.ref C) "__init__" = some (some (.builtin "object.__init__"))
  kp : PySem.W.keepIn K (.ref C) = true
theorem run_plain {X : Cx} {C : Addr} {pins : List (Addr × Obj)} {σ : L2.St} {H : Hp} {s : Shared} {Q : VK} (M : MkP X.K C) (I : Inv X pins σ H s)
    (h : ∀ x dx, H x = none → H dx = none → dx ≠ x → Q (.ref x) (upd (upd H dx (.own x)) x (.ins C dx []))) : wpAny (model X.prog X.w) X.A (call (.ref C) []) (EP X pins σ Q) X.xe s := by
  have hq := h (s.heap.objs.size + 1) s.heap.objs.size (I.hok.fresh (Nat.le_succ _)) (I.hok.fresh (Nat.le_refl _)) (Nat.ne_of_lt (Nat.lt_succ_self _))
  have I2 := Inv.made (C := C) I
  have Y := PySem.W.makes_of (M := model X.prog X.w) I.kIn M.makes
  refine wpAny_call (make_map0 I.kIn M.makes M.init (fun self => PySem.W.Looks.of_pure (PySem.W.oi_bind self)) ?_)
  obtain ⟨hh, g, d, t, os⟩ := s
  have hx : ((hh.push PySem.W.emptyDict).push (PySem.W.instObj C hh.objs.size)).get? (hh.objs.size + 1) = some (PySem.W.instObj C hh.objs.size) := by heap_get
  have t1 : PySem.W.Looks (model X.prog X.w) ((hh.push PySem.W.emptyDict).push (PySem.W.instObj C hh.objs.size)) (typeOf (.ref (hh.objs.size + 1))) (.ref C) := (PySem.W.Looks.ld hx).andThen .now
  have t2 : PySem.W.Looks (model X.prog X.w) ((hh.push PySem.W.emptyDict).push (PySem.W.instObj C hh.objs.size)) (isInstance (.ref (hh.objs.size + 1)) (.type "object")) true := t1.andThen (Y.top.keeps fun b o e => Heap.get?_push_of_some _ (Heap.get?_push_of_some _ e))
  refine PySem.codeAny_call_builtin PySem.W.oi_plain PySem.W.entry_oi (@PySem.W.check_slot (model X.prog X.w) _ _ _ "object.__init__" "object" "__init__" (.ref (hh.objs.size + 1)) [] [] _ PySem.W.oi_kind PySem.W.oi_split t2 (PySem.W.oi_args (.ref (hh.objs.size + 1))) ?_)
  rw [PySem.W.oi_run]
  exact wpAny_pure (And.intro rfl ⟨V.ref (hh.objs.size + 1), _, I2, rfl, hq⟩)
section
variable {X : Cx} {ρ : Slots} {e a b : Expr} {es : List Expr} {pos p0 p1 : Pos} {nm : Str} {C : Addr} {ns : List Str} {ds : List D} {o : O} {d : D}
theorem pe_plain (mp : MkP X.K C) (hg : Gl X nm) (hm : X.mg nm = some (.ref C)) (hdb : (nm == ("__debug__" : Str)) = false := by decide) : PE X (.Call (.Name nm p0) [] [] pos) (fun σ H Q => ∀ x dx, H x = none → H dx = none → dx ≠ x → Q (.ref x) (upd (upd H dx (.own x)) x (.ins C dx []))) := by
  refine ⟨fun pins s σ H Q I h => ?_⟩
  refine wpAny_Call_Name_kw (ld_glob I hg hm ?_ hdb)
  exact PySem.W.callWith_K0 I.kIn mp.kp (run_plain mp I h)
theorem me_plain (mp : MkP X.K C) (hm : X.mg nm = some (.ref C)) (hg : Gl X nm := by rfl) (hdb : (nm == ("__debug__" : Str)) = false := by decide) : ME X ρ (.Call (.Name nm p0) [] [] pos) (.ins C [] []) := .mk fun Z0 F Z σ H s Q q =>
  PE_w (pe_plain mp hg hm hdb) fun x dx hx hdx ne => by
    have h2 : (upd H dx (.own x)) x = none := by rw [upd_ne ne.symm]; exact hx
    exact q (.ref x) Z _ [x] ((Gr.new s.ex hdx).trans (Gr.new ((s.ex).trans (Ex.new hdx)) h2)) (.ins (dx := dx) upd_same .nil) (new_one hx (s.ex.free hx))
/-- a default is a plain value -/
inductive Dfl : List V → List D → Prop where
  | nil : Dfl [] []
  | cons {v : V} {d : D} {vs : List V} {ds : List D} : Sc d v → Dfl vs ds → Dfl (v :: vs) (d :: ds)
theorem Dfl.own {K : PySem.W.Frag} {Z F H : Hp} : ∀ {vs : List V} {ds : List D}, Dfl vs ds → RepOL K Z F H vs (ds.map .fz) []
  | _, _, .nil => .nil
  | _, _, .cons h r => .cons (A := []) (B := []) (.fz h.rep) r.own
end
end M
namespace M
open PySem L2 PySem.Spec PyProof.Rows
section
variable {K : PySem.W.Frag} {Z0 Z Z' Z1 F F' H H' H1 : Hp} {ρ ρ' : Slots} {σ : L2.St}
theorem RepOL.foc : ∀ {vs : List V} {os : List O} {A : List Addr} {j : Nat} {o : O}, RepOL K Z F H vs os A → os[j]? = some o → A.Nodup →
    ∃ v B, vs[j]? = some v ∧ RepO K Z F H v o B ∧ B.Nodup ∧ (∀ a ∈ B, a ∈ A) ∧ ∀ {Z' H' : Hp} {o' : O} {B' : List Addr}, Ex Z Z' → (∀ a ∈ A, a ∉ B → ∀ u, H a = some u → H' a = some u) → RepO K Z' F H' v o' B' → B'.Nodup → (∀ a ∈ B', a ∈ A → a ∈ B) →
      ∃ A', RepOL K Z' F H' vs (os.set j o') A' ∧ A'.Nodup ∧ ∀ a ∈ A', (a ∈ A ∧ a ∉ B) ∨ a ∈ B'
  | _, _, _, _, _, .nil, e, _ => by simp at e
  | _, _, _, 0, _, .cons (A := A1) (B := A2) q h, e, nA => by
    simp at e
    subst e
    obtain ⟨n1, n2, n3⟩ := List.nodup_append.mp nA
    refine ⟨_, A1, rfl, q, n1, fun a m => List.mem_append_left _ m, fun ez k r n d => ?_⟩
    refine ⟨_, .cons r (RepOL.mono ez (Ex.refl _) h fun a m => k a (List.mem_append_right _ m) fun z => n3 a z a m rfl), List.nodup_append.mpr ⟨n, n2, fun a ha b hb e => ?_⟩, fun a m => ?_⟩
    · subst e
      exact n3 a (d a ha (List.mem_append_right _ hb)) a hb rfl
    · rcases List.mem_append.mp m with m | m
      · exact .inr m
      · exact .inl ⟨List.mem_append_right _ m, fun z => n3 a z a m rfl⟩
  | _, _, _, j + 1, _, .cons (A := A1) (B := A2) q h, e, nA => by
    obtain ⟨n1, n2, n3⟩ := List.nodup_append.mp nA
    obtain ⟨v, B, h1, h2, h3, h4, h5⟩ := RepOL.foc (j := j) h (by simpa using e) n2
    refine ⟨v, B, by simpa using h1, h2, h3, fun a m => List.mem_append_right _ (h4 a m), fun ez k r n d => ?_⟩
    obtain ⟨A', q1, q2, q3⟩ := h5 ez (fun a m nb => k a (List.mem_append_right _ m) nb) r n fun a m z => d a m (List.mem_append_right _ z)
    refine ⟨_, .cons (q.mono ez (Ex.refl _) fun a m => k a (List.mem_append_left _ m) fun z => n3 a m a (h4 a z) rfl) q1, List.nodup_append.mpr ⟨n1, q2, fun a ha b hb e => ?_⟩, fun a m => ?_⟩
    · subst e
      rcases q3 a hb with z | z
      · exact n3 a ha a z.1 rfl
      · exact n3 a ha a (h4 a (d a z (List.mem_append_left _ ha))) rfl
    · rcases List.mem_append.mp m with m | m
      · exact .inl ⟨List.mem_append_left _ m, fun z => n3 a m a (h4 a z) rfl⟩
      · exact (q3 a m).imp (fun z => ⟨List.mem_append_right _ z.1, z.2⟩) id
/-- a state with what it owns -/
structure StA (K : PySem.W.Frag) (ρ : Slots) (Z0 F Z : Hp) (σ : L2.St) (H : Hp) (A : List Addr) : Prop where
  gr : Gr Z0 F Z H
  st : StL K Z F H ρ σ A
  nd : A.Nodup
  ds : ∀ a ∈ A, Z a = none ∧ F a = none
theorem StA.r {A : List Addr} (s : StA K ρ Z0 F Z σ H A) : StR K ρ Z0 F Z σ H := ⟨s.gr, A, s.st, s.nd, s.ds⟩
theorem StR.a (s : StR K ρ Z0 F Z σ H) : ∃ A, StA K ρ Z0 F Z σ H A := let ⟨A, h1, h2, h3⟩ := s.st; ⟨A, s.gr, h1, h2, h3⟩
theorem StA.grow {A : List Addr} (s : StA K ρ Z0 F Z σ H A) (g : Gr Z H Z' H') : StA K ρ Z0 F Z' σ H' A := by
  refine ⟨s.gr.trans g, s.st.mono g.zz fun a _ u e => g.hh a u e, s.nd, fun a m => ⟨?_, (s.ds a m).2⟩⟩
  obtain ⟨u, e⟩ := s.st.there a m
  rw [g.nw a u e]
  exact (s.ds a m).1
/-- what a change at A must leave as it is -/
def Kept (F : Hp) (T A : List Addr) (a : Addr) : Prop := a ∉ A ∧ (a ∈ T ∨ ∃ u, F a = some u)
/-- the part at a place: what is there, and what comes of it where it is changed -/
structure FocA (K : PySem.W.Frag) (F Z : Hp) (Z0 : Hp) (σ : L2.St) (H : Hp) (T : List Addr) (v : V) (o : O) (R : O → Slots) (A : List Addr) : Prop where
  rp : RepO K Z F H v o A
  nd : A.Nodup
  ds : ∀ a ∈ A, a ∈ T ∧ Z a = none ∧ F a = none
  th : ∀ a ∈ T, ∃ u, H a = some u
  fh : Ex F H
  k : ∀ {Z' H' : Hp} {w : V} {o' p : O} {B : List Addr}, Ex Z Z' → (∀ a, Kept F T A a → Z' a = Z a) → Ex Z' H' → (∀ a, Kept F T A a → ∀ u, H a = some u → H' a = some u) → RepOL K Z' F H' [v, w] [o', p] B → B.Nodup → (∀ a ∈ B, (a ∈ A ∨ a ∉ T ∧ F a = none) ∧ Z' a = none) →
    StR K (R o' ++ [some p]) Z0 F Z' (σ ++ [some w]) H'
def Foc (K : PySem.W.Frag) (Z0 F Z : Hp) (σ : L2.St) (H : Hp) (T : List Addr) (v : V) (o : O) (R : O → Slots) : Prop := ∃ A, FocA K F Z Z0 σ H T v o R A
theorem StA.foc {T : List Addr} {i : Nat} {o : O} (s : StA K ρ Z0 F Z σ H T) (hi : ρ[i]? = some (some o)) : ∃ v, σ[i]? = some (some v) ∧ Foc K Z0 F Z σ H T v o (fun o' => ρ.set i (some o')) := by
  obtain ⟨v, B0, q1, q2, q3, q4, q5⟩ := s.st.at hi s.nd
  refine ⟨v, q1, B0, q2, q3, fun a m => ⟨q4 a m, s.ds a (q4 a m)⟩, s.st.there, s.gr.hh, fun {Z' H' w o' p B} ez nz zh k r n d => ?_⟩
  cases r with
  | @cons _ _ _ _ A1 B1 ra r =>
    cases r with
    | @cons _ _ _ _ A2 B2 rb r =>
      cases r
      rw [List.append_nil] at n d
      obtain ⟨n1, n2, n3⟩ := List.nodup_append.mp n
      have apart : ∀ a ∈ A1 ++ A2, a ∈ T → a ∈ B0 := fun a m ma => (d a m).1.elim id fun z => absurd ma z.1
      obtain ⟨A', r1, r2, r3⟩ := q5 (v' := v) ez (fun a m nb u e => k a ⟨nb, .inl m⟩ u e) ra n1 fun a m ma => apart a (List.mem_append_left _ m) ma
      rw [set_same q1] at r1
      have hF : ∀ a u, F a = some u → a ∉ B0 := fun a u e m => by
        rw [(s.ds a (q4 a m)).2] at e
        cases e
      refine ⟨⟨s.gr.zz.trans ez, fun a u e => k a ⟨hF a u e, .inr ⟨u, e⟩⟩ u (s.gr.hh a u e), zh, fun a u e => (nz a ⟨hF a u e, .inr ⟨u, e⟩⟩).trans (s.gr.nw a u e)⟩, A' ++ A2, r1.push rb, List.nodup_append.mpr ⟨r2, n2, fun a ha b hb e => ?_⟩, fun a m => ?_⟩
      · subst e
        rcases r3 a ha with z | z
        · exact z.2 (apart a (List.mem_append_right _ hb) z.1)
        · exact n3 a z a hb rfl
      · have new : a ∈ A1 ++ A2 → Z' a = none ∧ F a = none := fun y => by
          refine ⟨(d a y).2, ?_⟩
          rcases (d a y).1 with z | z
          · exact (s.ds a (q4 a z)).2
          · exact z.2
        rcases List.mem_append.mp m with m | m
        · rcases r3 a m with z | z
          · exact ⟨(nz a ⟨z.2, .inl z.1⟩).trans (s.ds a z.1).1, (s.ds a z.1).2⟩
          · exact new (List.mem_append_left _ z)
        · exact new (List.mem_append_right _ m)
theorem Foc.grow {T : List Addr} {v : V} {o : O} {R : O → Slots} (f : Foc K Z0 F Z σ H T v o R) (g : Gr Z H Z1 H1) : Foc K Z0 F Z1 σ H1 T v o R := by
  obtain ⟨A, f⟩ := f
  refine ⟨A, f.rp.ex g.zz g.hh, f.nd, fun a m => ⟨(f.ds a m).1, ?_, (f.ds a m).2.2⟩, fun a m => ?_, f.fh.trans g.hh, fun {Z' H' w o' p B} ez nz zh k r n d => ?_⟩
  · obtain ⟨u, e⟩ := f.rp.there a m
    exact (g.nw a u e).trans (f.ds a m).2.1
  · obtain ⟨u, e⟩ := f.th a m
    exact ⟨u, g.hh a u e⟩
  · refine f.k (g.zz.trans ez) (fun a ka => ?_) zh (fun a ka u e => k a ka u (g.hh a u e)) r n d
    have : ∃ u, H a = some u := ka.2.elim (f.th a) fun ⟨u, e⟩ => ⟨u, f.fh a u e⟩
    obtain ⟨u, e⟩ := this
    exact (nz a ka).trans (g.nw a u e)
theorem FocA.chg {T A : List Addr} {v : V} {o : O} {R : O → Slots} (f : FocA K F Z Z0 σ H T v o R A) {o' : O} {B : List Addr} (ez : Ex Z Z') (nz : ∀ a, Kept F T A a → Z' a = Z a) (zh : Ex Z' H') (k : ∀ a, Kept F T A a → ∀ u, H a = some u → H' a = some u) (r : RepO K Z' F H' v o' B) (n : B.Nodup) (d : ∀ a ∈ B, (a ∈ A ∨ a ∉ T ∧ F a = none) ∧ Z' a = none) : StR K (R o') Z0 F Z' σ H' := by
  have := f.k (w := .non) (p := .fz .non) ez nz zh k (.cons r (.cons (A := []) (.fz .non) .nil)) (by simpa using n) (fun a m => d a (by simpa using m))
  exact this.pop
/-- one step down -/
theorem FocA.down {X : Type} {T A : List Addr} {v : V} {mk : List O → O} {cell : X → List V → HO} {P : Addr → Prop} {R : O → Slots} {os : List O} {j : Nat} {o : O}
    (hmk : ∀ {Z H : Hp} {v : V} {os : List O} {A : List Addr}, RepO K Z F H v (mk os) A ↔ ∃ a x vs A1, P a ∧ v = .ref a ∧ A = a :: A1 ∧ H a = some (cell x vs) ∧ RepOL K Z F H vs os A1)
    (f : FocA K F Z Z0 σ H T v (mk os) R A) (hj : os[j]? = some o) : ∃ a x vs v', v = .ref a ∧ H a = some (cell x vs) ∧ vs.length = os.length ∧ vs[j]? = some v' ∧ Foc K Z0 F Z σ H T v' o (fun o' => R (mk (os.set j o'))) := by
  obtain ⟨a, x, vs, A1, pa, rfl, rfl, ha, rl⟩ := hmk.mp f.rp
  obtain ⟨na, nA⟩ := List.nodup_cons.mp f.nd
  obtain ⟨v', B, q1, q2, q3, q4, q5⟩ := rl.foc hj nA
  have lenL : ∀ {vs : List V} {os : List O} {A : List Addr}, RepOL K Z F H vs os A → vs.length = os.length := fun r => r.length
  refine ⟨a, x, vs, v', rfl, ha, lenL rl, q1, B, q2, q3, fun b m => f.ds b (List.mem_cons_of_mem _ (q4 b m)), f.th, f.fh, fun {Z' H' w o' p B2} ez nz zh k r n d => ?_⟩
  cases r with
  | @cons _ _ _ _ B3 _ ra r =>
    cases r with
    | @cons _ _ _ _ B4 _ rb r =>
      cases r
      rw [List.append_nil] at n d
      obtain ⟨n1, n2, n3⟩ := List.nodup_append.mp n
      have aB : a ∉ B := fun m => na (q4 a m)
      have kA : ∀ b ∈ A1, b ∉ B → Kept F T B b := fun b m nb => ⟨nb, .inl (f.ds b (List.mem_cons_of_mem _ m)).1⟩
      have kT : ∀ b, Kept F T (a :: A1) b → Kept F T B b := fun b kb => ⟨fun m => kb.1 (List.mem_cons_of_mem _ (q4 b m)), kb.2⟩
      have ka : Kept F T B a := ⟨aB, .inl (f.ds a List.mem_cons_self).1⟩
      have apart : ∀ b ∈ B3 ++ B4, b ∈ a :: A1 → b ∈ B := fun b m mb => (d b m).1.elim id fun z => absurd (f.ds b mb).1 z.1
      obtain ⟨A', t1, t2, t3⟩ := q5 ez (fun b m nb u e => k b (kA b m nb) u e) ra n1 fun b m mb => apart b (List.mem_append_left _ m) (List.mem_cons_of_mem _ mb)
      have rm : RepO K Z' F H' (.ref a) (mk (os.set j o')) (a :: A') := hmk.mpr ⟨a, x, vs, A', pa, rfl, rfl, k a ka _ ha, t1⟩
      have aA' : a ∉ A' := fun m => by
        rcases t3 a m with z | z
        · exact na z.1
        · exact aB (apart a (List.mem_append_left _ z) List.mem_cons_self)
      refine f.k ez (fun b kb => nz b (kT b kb)) zh (fun b kb u e => k b (kT b kb) u e) (.cons rm (.cons rb .nil)) ?_ fun b m => ?_
      · rw [List.append_nil]
        refine List.nodup_append.mpr ⟨List.nodup_cons.mpr ⟨aA', t2⟩, n2, fun b hb c hc e => ?_⟩
        subst e
        rcases List.mem_cons.mp hb with z | z
        · subst z
          exact aB (apart b (List.mem_append_right _ hc) List.mem_cons_self)
        · rcases t3 b z with y | y
          · exact y.2 (apart b (List.mem_append_right _ hc) (List.mem_cons_of_mem _ y.1))
          · exact n3 b y b hc rfl
      · rw [List.append_nil] at m
        have new : b ∈ B3 ++ B4 → (b ∈ a :: A1 ∨ b ∉ T ∧ F b = none) ∧ Z' b = none := fun y => ⟨(d b y).1.imp (fun z => List.mem_cons_of_mem _ (q4 b z)) id, (d b y).2⟩
        rcases List.mem_append.mp m with m | m
        · rcases List.mem_cons.mp m with z | z
          · subst z
            exact ⟨.inl List.mem_cons_self, (nz b ka).trans (f.ds b List.mem_cons_self).2.1⟩
          · rcases t3 b z with y | y
            · exact ⟨.inl (List.mem_cons_of_mem _ y.1), (nz b (kA b y.1 y.2)).trans (f.ds b (List.mem_cons_of_mem _ y.1)).2.1⟩
            · exact new (List.mem_append_left _ y)
        · exact new (List.mem_append_right _ m)
theorem hm_lst : ∀ {Z H : Hp} {v : V} {os : List O} {A : List Addr}, RepO K Z F H v (.lst os) A ↔ ∃ a, ∃ _ : Unit, ∃ vs A1, True ∧ v = .ref a ∧ A = a :: A1 ∧ H a = some (.lst vs) ∧ RepOL K Z F H vs os A1 := by
  intro Z H v os A
  constructor
  · intro r
    cases r with
    | lst h r => exact ⟨_, (), _, _, trivial, rfl, rfl, h, r⟩
  · rintro ⟨a, _, vs, A1, _, rfl, rfl, h, r⟩
    exact .lst h r
theorem hm_ins {C : Addr} {ns : List Str} : ∀ {Z H : Hp} {v : V} {os : List O} {A : List Addr}, RepO K Z F H v (.ins C ns os) A ↔ ∃ a, ∃ dx : Addr, ∃ vs A1, True ∧ v = .ref a ∧ A = a :: A1 ∧ H a = some (.ins C dx (ns.zip vs)) ∧ RepOL K Z F H vs os A1 := by
  intro Z H v os A
  constructor
  · intro r
    cases r with
    | ins h r => exact ⟨_, _, _, _, trivial, rfl, rfl, h, r⟩
  · rintro ⟨a, _, vs, A1, _, rfl, rfl, h, r⟩
    exact .ins h r
end
end M
namespace M
open PySem L2 PySem.Spec PyProof.Rows
section
variable {X : Cx} {ρ ρ' : Slots} {R : O → Slots} {e a b c elt : Expr} {es rest : List Expr} {st : Stmt} {sts : List Stmt} {G : Go} {o o1 o2 : O} {d : D} {ds : List D} {os : List O} {pos p0 p1 p2 p3 p4 p5 p6 : Pos} {i j : Nat} {x nm f : Str} {m n k : Int} {p q : Str} {C : Addr} {ns : List Str}
theorem Foc.unloc {K : PySem.W.Frag} {Z0 F Z H : Hp} {σ : L2.St} {T : List Addr} {v : V} {l : Addr} (f : Foc K Z0 F Z σ H T v (.loc l o) R) : v = .ref l ∧ Foc K Z0 F Z σ H T v o (fun o' => R (.loc l o')) := by
  obtain ⟨A, f⟩ := f
  have ev : v = .ref l := by
    cases f.rp with
    | loc r => rfl
  subst ev
  refine ⟨rfl, A, ?_, f.nd, f.ds, f.th, f.fh, fun ez nz zh k r n d => f.k ez nz zh k ?_ n d⟩
  · cases f.rp with
    | loc r => exact r
  · cases r with
    | cons r1 r2 => exact .cons (.loc r1) r2
theorem MV.unloc {l : Addr} (h : MV X ρ e (.loc l o)) : MV X ρ e o := .mk fun Z0 F Z σ H s Q q => h.run Z0 F Z σ H s Q fun v Z' H' A g r => by
  cases r with
  | loc r => exact q _ Z' H' A g r
/-- a cell is changed in place -/
theorem FocA.mut {K : PySem.W.Frag} {Z0 F Z H : Hp} {σ : L2.St} {T A : List Addr} {v : V} (f : FocA K F Z Z0 σ H T v o R A) (zh : Ex Z H) {a : Addr} (ha : a ∈ A) {c : HO} {o' : O} {B : List Addr} (r : RepO K Z F (upd H a c) v o' B) (n : B.Nodup) (d : ∀ b ∈ B, b ∈ A ∨ (b ∉ T ∧ Z b = none ∧ F b = none)) : StR K (R o') Z0 F Z σ (upd H a c) := by
  refine f.chg (Ex.refl _) (fun _ _ => rfl) (zh.mut (f.ds a ha).2.1) (fun b kb u e => ?_) r n fun b m => ?_
  · rw [upd_ne fun q => kb.1 (by rw [q]; exact ha)]
    exact e
  · rcases d b m with z | z
    · exact ⟨.inl z, (f.ds b z).2.1⟩
    · exact ⟨.inr ⟨z.1, z.2.2⟩, z.2.1⟩
end
end M
namespace M
open PySem L2 PySem.Spec PyProof.Rows
section
variable {X : Cx} {ρ ρ' : Slots} {R : O → Slots} {e a b c elt : Expr} {es rest : List Expr} {st : Stmt} {sts : List Stmt} {G : Go} {o o1 o2 : O} {d : D} {ds : List D} {os : List O} {pos p0 p1 p2 p3 p4 p5 p6 : Pos} {i j : Nat} {x nm f : Str} {m n k : Int} {C : Addr} {ns : List Str}
end
end M
namespace M
open PySem L2 PySem.Spec PyProof.Rows
section
variable {X : Cx} {ρ ρ' : Slots} {R : O → Slots} {e a b c elt : Expr} {es rest : List Expr} {st : Stmt} {sts : List Stmt} {G : Go} {o o1 o2 : O} {d : D} {ds ds1 ds2 : List D} {os : List O} {pos p0 p1 p2 p3 p4 p5 p6 : Pos} {i j : Nat} {nm : Str} {C : Addr} {ns : List Str}
end
end M
namespace M
open PySem L2 PySem.Spec PyProof.Rows
section
variable {V W R : Type}
def wlN (c : V → Option Bool) (b : V → Option (Ou V V R)) : Nat → V → Option (Ou V V R)
  | 0, _ => none
  | n + 1, v => bd (c v) fun k => cond k (bd (b v) fun o => match o with
    | .nx v' => wlN c b n v'
    | .ct v' => wlN c b n v'
    | .bk v' => some (.nx v')
    | .rt r => some (.rt r)) (some (.nx v))
open Classical in
noncomputable def wl (c : V → Option Bool) (b : V → Option (Ou V V R)) (v : V) : Option (Ou V V R) := if h : ∃ n o, wlN c b n v = some o then some h.choose_spec.choose else none
theorem wl_some {c : V → Option Bool} {b : V → Option (Ou V V R)} {v : V} {o : Ou V V R} (h : wl c b v = some o) : ∃ n, wlN c b n v = some o := by
  unfold wl at h
  split at h
  · rename_i q
    have e := q.choose_spec.choose_spec
    rw [Option.some.inj h] at e
    exact ⟨_, e⟩
  · cases h
theorem wlN_more {c : V → Option Bool} {b : V → Option (Ou V V R)} : ∀ {n m : Nat} {v : V} {o : Ou V V R}, wlN c b n v = some o → n ≤ m → wlN c b m v = some o
  | 0, _, _, _, h, _ => by cases h
  | n + 1, 0, _, _, _, l => by omega
  | n + 1, m + 1, v, o, h, l => by
    obtain ⟨k, e1, h⟩ := bd_some h
    show bd (c v) _ = _
    rw [bd_of e1]
    cases k with
    | false => exact h
    | true =>
      obtain ⟨o1, e2, h⟩ := bd_some (show bd (b v) _ = some o from h)
      show bd (b v) _ = _
      rw [bd_of e2]
      cases o1 with
      | nx v' => exact wlN_more h (by omega)
      | ct v' => exact wlN_more h (by omega)
      | bk v' => exact h
      | rt r => exact h
theorem wl_of {c : V → Option Bool} {b : V → Option (Ou V V R)} {n : Nat} {v : V} {o : Ou V V R} (h : wlN c b n v = some o) : wl c b v = some o := by
  have ex : ∃ n o, wlN c b n v = some o := ⟨n, o, h⟩
  unfold wl
  rw [dif_pos ex]
  have e := ex.choose_spec.choose_spec
  have e1 := wlN_more e (Nat.le_max_left _ n)
  have e2 := wlN_more h (Nat.le_max_right ex.choose n)
  rw [e1] at e2
  exact e2
variable {X : Cx} {ρ ρ' : Slots} {e a c elt : Expr} {st : Stmt} {sts : List Stmt} {G : Go} {pos p0 : Pos}
theorem m_whileO {body : List Stmt} (p : PS X st (tWhile (wT X c) (wS X body))) {cm : V → Option Bool} {bm : V → Option (Ou V V R)} {v0 : V} {out : Ou V V R} (hx : wl cm bm v0 = some out) (Rn : V → Slots) (er : R → O) (h0 : Le ρ (Rn v0))
    (hc : ∀ v k, cm v = some k → MT X (Rn v) c k) (hs : ∀ v o, bm v = some o → MS X (Rn v) body (goO Rn Rn er o))
    (hd : ∀ v τ, out = .nx v → Le τ (Rn v) → G.nx τ) (hr : ∀ r, out = .rt r → G.rt (er r)) : MS1 X ρ st G := .mk fun Z0 F Z σ H D s g => by
  obtain ⟨n, hn⟩ := wl_some hx
  refine PS_w p ⟨fun m σ' H' => ∃ v Z', wlN cm bm m v = some out ∧ StR X.K (Rn v) Z0 F Z' σ' H', ⟨n, v0, Z, hn, s.le h0⟩, ?_⟩
  rintro m σ1 H1 ⟨v, Z1, hv, s1⟩
  cases m with
  | zero => cases hv
  | succ m =>
    obtain ⟨k, e1, hv⟩ := bd_some hv
    refine (hc v k e1).run Z0 F Z1 σ1 H1 s1 _ fun Z2 H2 g2 => ?_
    cases k with
    | false =>
      rw [if_neg Bool.false_ne_true]
      cases hv
      exact g.nx _ Z2 σ1 H2 (hd v _ rfl (Le.refl _)) (s1.grow g2)
    | true =>
      rw [if_pos rfl]
      obtain ⟨o, e2, hv⟩ := bd_some (show bd (bm v) _ = some out from hv)
      refine ⟨fun σ' H' => ∃ v' Z', wlN cm bm m v' = some out ∧ StR X.K (Rn v') Z0 F Z' σ' H', fun σ' H' q => ⟨m, Nat.lt_succ_self m, q⟩, ?_⟩
      refine (hs v o e2).run Z0 F Z2 σ1 H2 _ (s1.grow g2) ⟨fun τ Z3 σ3 H3 q s3 => ?_, fun τ Z3 σ3 H3 q s3 => ?_, fun τ Z3 σ3 H3 q s3 => ?_, fun o' w Z3 H3 A q g3 r n => ?_, fun _ _ _ _ _ _ z => z.elim, g.ex.imp fun o' q => by
        obtain ⟨r', rfl, rfl⟩ := q
        cases hv
        exact hr r' rfl⟩
      · obtain ⟨v', rfl, l⟩ := q
        exact ⟨v', Z3, hv, s3.le l⟩
      · obtain ⟨v', rfl, l⟩ := q
        cases hv
        exact g.nx _ Z3 σ3 H3 (hd v' _ rfl l) s3
      · obtain ⟨v', rfl, l⟩ := q
        exact ⟨v', Z3, hv, s3.le l⟩
      · obtain ⟨r', rfl, rfl⟩ := q
        cases hv
        exact g.rt _ w Z3 H3 A (hr r' rfl) g3 r n
end
end M
namespace M
open PySem L2 PySem.Spec PyProof.Rows
section
variable {X : Cx} {ρ ρ' : Slots} {R' : O → Slots} {e a b c elt : Expr} {es : List Expr} {st : Stmt} {sts : List Stmt} {G : Go} {o o1 o2 : O} {d : D} {ds : List D} {os : List O} {pos p0 p1 p2 p3 p4 : Pos} {i n : Nat} {x nm : Str} {α β V W R : Type}
theorem Le.get : ∀ {ρ τ : Slots} {n : Nat} {o : O}, Le ρ τ → τ[n]? = some (some o) → ρ[n]? = some (some o)
  | _, _, _, _, .nil, h => h
  | _, _, 0, _, .no _, h => by simp at h
  | _, _, 0, _, .eq _, h => h
  | _, _, n + 1, _, .no l, h => by
    simp only [List.getElem?_cons_succ] at h ⊢
    exact Le.get l h
  | _, _, n + 1, _, .eq l, h => by
    simp only [List.getElem?_cons_succ] at h ⊢
    exact Le.get l h
end
end M
namespace M
open PySem L2 PySem.Spec PyProof.Rows
/-- what a def tells: a result or an error -/
inductive Xr (E R : Type) where
  | ok (r : R) | er (e : E)
def exO {E R : Type} (te : E → Er) (er : R → O) : Xr E R → O
  | .ok r => er r
  | .er e => .rs (te e)
def ThrE (K : PySem.W.Frag) (E : XK) (e : Er) (Z H : Hp) : Prop := Thrown K (fun c d _ H => E c d H) e Z [] H
theorem thrown_of {K : PySem.W.Frag} {E : XK} {e : Er} {Z H : Hp} {σ : L2.St} (h : ThrE K E e Z H) : Thrown K (fun c d _ H => E c d H) e Z σ H := by
  unfold ThrE Thrown at h
  unfold Thrown
  cases hf : e.fld with
  | none => rw [hf] at h; exact h
  | some p => rw [hf] at h; exact h
def EW (W : WX) : XK := fun c d H => ∀ σ, W c d σ H
theorem thrE_of {K : PySem.W.Frag} {W : WX} {e : Er} {Z H : Hp} (h : ∀ σ, Thrown K W e Z σ H) : ThrE K (EW W) e Z H := by
  unfold Thrown at h
  unfold ThrE Thrown
  cases hf : e.fld with
  | none => intro σ; have := h σ; rw [hf] at this; exact this
  | some p => intro a v na r σ; have := h σ; rw [hf] at this; exact this a v na r
theorem stL_blank {K : PySem.W.Frag} {Z F H : Hp} : ∀ σ : L2.St, StL K Z F H (List.replicate σ.length none) σ []
  | [] => .nil
  | _ :: σ => .no (stL_blank σ)
theorem StR.blank {K : PySem.W.Frag} {Z0 F Z' H' : Hp} (g : Gr Z0 F Z' H') (σ : L2.St) : StR K (List.replicate σ.length none) Z0 F Z' σ H' := ⟨g, [], stL_blank σ, List.nodup_nil, fun _ m => nomatch m⟩
theorem pass_ew {X : Cx} {W : WX} (tk : Takes X W) : Passes (L2.CX X.prog X.w) X (EW W) := passes_call tk fun _ _ σ _ h => h σ
/-- a def that is known to refuse nothing -/
theorem _root_.L2.FnOk.known {P : Program} {w : World} {K : PySem.W.Frag} {mg : Str → Option Value} {base : Heap} {k : Nat} {f : Addr} {fd : FuncData} {ps : List Str} {sp sp' : Sp} (F : FnOk P w K mg base (L2.CX P w) k f fd ps sp)
    (h : ∀ vs H Q E, sp' vs H Q E → sp vs H Q (fun _ _ _ => False)) : FnOk P w K mg base CX0 k f fd ps sp' :=
  ⟨fun vs H Q E q => F.len vs H Q _ (h _ _ _ _ q), fun A outer s H args us vs Q E hr he hb hv hs => codeAny_mono (F.run A outer s H args us vs Q _ hr he hb hv (h _ _ _ _ hs)) fun r s' q => by
    cases r with
    | ok r => cases r <;> exact q
    | error e =>
      obtain ⟨_, _, _, _, _, _, _, _, _, _, _, _, z⟩ := q
      exact z.elim⟩
def SpE {α : Type} (K : PySem.W.Frag) (ar : α → List O) (pre : α → Prop) (res : α → O) : Sp := fun vs H Q E => ∃ (x : α) (Z : Hp), Ex Z H ∧ RepOL K Z H H vs (ar x) [] ∧ pre x ∧
  (∀ v Z' H' A, Gr Z H Z' H' → RepO K Z' (fun _ => none) H' v (res x) A → New H Z' A → Q v H') ∧ ∀ e Z' H', res x = .rs e → Gr Z H Z' H' → ThrE K E e Z' H'
/-- its body keeps its promise -/
theorem fn_mE {α : Type} {P : Program} {w : World} {K : PySem.W.Frag} {mg : Str → Option Value} {base : Heap} {x qual : Str} {st : Stmt} {f : Addr} {fd : FuncData} {N ps : List Str} {k : Nat} {ar : α → List O} {pre : α → Prop} {res : α → O}
    (F : Fun K x qual st f fd) (S : FnScope N ps (defScope st)) (hl : ∀ x, (ar x).length = ps.length) (hn : ∀ x, pre x → (res x).nv = true ∨ ∃ e, res x = .rs e)
    (hb : ∀ (cdv : Value) (A : Around) (outer : List Env) (s : Shared) (H : Hp) (E : XK), Room k (A.deeper (envOfC qual (defScope st) s.heap.objs.size f cdv)) →
      PassesOwn (model P w) (A.deeper (envOfC qual (defScope st) s.heap.objs.size f cdv)) (cxOf (L2.CX P w) P w K mg base N qual (defScope st) f cdv A outer s H E).env (cxOf (L2.CX P w) P w K mg base N qual (defScope st) f cdv A outer s H E).xe → ∀ x, pre x →
      MS (cxOf (L2.CX P w) P w K mg base N qual (defScope st) f cdv A outer s H E) ((ar x).map some ++ List.replicate (N.length - ps.length) none) (defBody st) { nx := fun _ => res x = .fz .non, rt := fun o => o = res x }) :
    FnOk P w K mg base (L2.CX P w) (k + 1) f fd ps (SpE K ar pre res) := by
  refine F.okX S (fun vs H Q E h => ?_) (fun cdv A outer s H vs Q E hr h => ?_)
  · obtain ⟨x, Z, _, r, _⟩ := h
    rw [r.length, hl]
  · obtain ⟨x, Z, ez, r, hp, q, qx⟩ := h
    refine ⟨_, pss_w, (hb cdv A outer s H E hr (passes_of rfl) x hp).run Z H Z _ H _ ⟨Gr.refl ez, [], ?_, List.nodup_nil, fun _ m => nomatch m⟩ ⟨fun ρ Z' σ H' e s' => ?_, fun _ _ _ _ z => z.elim, fun _ _ _ _ z => z.elim, fun o v Z' H' A e g r n => ?_, fun _ _ _ _ _ _ z => z.elim, ⟨_, takes_of rfl rfl rfl rfl, fun e ρ Z' σ H' k s' => thrown_of (qx e Z' H' k.symm s'.gr)⟩⟩⟩
    · have e : L2.start N vs = vs.map some ++ List.replicate (N.length - ps.length) none := by
        unfold L2.start
        rw [r.length, hl]
      rw [e]
      exact stL_more _ (stL_args r)
    · refine q _ Z' H' [] s'.gr ?_ .nil
      rw [e]
      exact .fz .non
    · subst e
      rcases hn x hp with hn | ⟨e, hn⟩
      · exact q _ Z' H' A g (r.unF hn) n
      · rw [hn] at r
        cases r
structure Fn1E (P : Program) (w : World) (K : PySem.W.Frag) (mg : Str → Option Value) (base : Heap) (name : Str) (k : Nat) (ps : List Str) (sp : Sp) : Prop where
  ex : ∃ (f : Addr) (fd : FuncData), mg name = some (.ref f) ∧ PySem.W.keepIn K (.ref f) = true ∧ Binds K fd ps [] ∧ FnOk P w K mg base (L2.CX P w) k f fd ps sp
theorem Fn1E.ok {P : Program} {w : World} {K : PySem.W.Frag} {mg : Str → Option Value} {base : Heap} {name : Str} {k : Nat} {ps : List Str} {α : Type} {ar : α → List O} {pre : α → Prop} {res : α → O} (c : Fn1E P w K mg base name k ps (SpE K ar pre res)) : Fn1 P w K mg base name k ps (SpM K ar (fun x => pre x ∧ ∀ e, res x ≠ .rs e) res) := by
  obtain ⟨f, fd, hm, hk, hb, F⟩ := c.ex
  exact ⟨f, fd, hm, hk, hb, F.known fun vs H Q E ⟨x, Z, ez, r, ⟨hp, hn⟩, q⟩ => ⟨x, Z, ez, r, hp, q, fun e _ _ z => absurd z (hn e)⟩⟩
/-- an expression that raises -/
structure MRz (X : Cx) (ρ : Slots) (e : Expr) (er : Er) : Prop where
  run : ∀ (Z0 F Z : Hp) (σ : L2.St) (H : Hp), StR X.K ρ Z0 F Z σ H → ∀ (W : WX), Takes X W → (∀ σ' Z' H', Gr Z0 F Z' H' → Thrown X.K W er Z' σ' H') → ∀ Q : VK, wE X e σ H Q
section
variable {X : Cx} {ρ : Slots} {e a b elt : Expr} {es : List Expr} {st : Stmt} {sts : List Stmt} {G : Go} {o o1 o2 : O} {d : D} {ds : List D} {pos p0 p1 p2 p3 : Pos} {i : Nat} {x nm f : Str} {er : Er}
/-- a call that raises -/
theorem mz_fn {α : Type} {ar : α → List O} {pre : α → Prop} {res : α → O} {k : Nat} {ps : List Str} (c : Fn1E X.prog X.w X.K X.mg X.base nm k ps (SpE X.K ar pre res)) (x : α) (ha : MA X ρ (e :: es) (ar x)) (hp : pre x) (hr : Room k X.A) (hres : res x = .rs er := by first | (dsimp only; done) | (dsimp only; rfl) | rfl) (hg : Gl X nm := by rfl)
    (hdb : (nm == ("__debug__" : Str)) = false := by decide) (he : starEach (e :: es) X.env = (false, eval e X.env) :: starEach es X.env := by rfl) (hpl : (backTo pos (starEach es X.env)).any (·.1) = false := by rfl) : MRz X ρ (.Call (.Name nm p0) (e :: es) [] pos) er := by
  obtain ⟨f, fd, hm, hk, hb, F⟩ := c.ex
  exact .mk fun Z0 F0 Z σ H s W tk qx Q => PE_w (pe_call F hr hg hm hk hb .nil (pass_ew tk) pa_w hdb he hpl) (ha.run Z0 F0 Z σ H s _ fun vs Z1 H1 g1 r1 =>
    ⟨x, Z1, g1.zh, by rw [List.append_nil]; exact r1, hp, (fun v Z2 H2 A g2 r2 n2 => by
      rw [hres] at r2
      cases r2), (fun e Z2 H2 z g2 => by
      rw [hres] at z
      cases z
      exact thrE_of fun σ' => qx σ' Z2 H2 (s.gr.trans (g1.trans g2)))⟩)
theorem gx_thrown {Z0 F : Hp} {r : O → Prop} (g : GX X Z0 F r) (k : r (.rs er)) : ∃ W : WX, Takes X W ∧ ∀ σ' Z' H', Gr Z0 F Z' H' → Thrown X.K W er Z' σ' H' := by
  obtain ⟨W, tk, kk⟩ := g
  exact ⟨W, tk, fun σ' Z' H' g => kk er _ Z' σ' H' k (StR.blank g σ')⟩
theorem m_rzAsg {g : TG} (p : PS X st (tAsg (wE X e) g)) (h : MRz X ρ e er) (k : G.rt (.rs er)) : MS1 X ρ st G := .mk fun Z0 F Z σ H D s gd => by
  obtain ⟨W, tk, kk⟩ := gx_thrown gd.ex k
  exact PS_w p (h.run Z0 F Z σ H s W tk kk _)
theorem m_rzDrop (p : PS X st (tDrop (wE X e))) (h : MRz X ρ e er) (k : G.rt (.rs er)) : MS1 X ρ st G := .mk fun Z0 F Z σ H D s gd => by
  obtain ⟨W, tk, kk⟩ := gx_thrown gd.ex k
  exact PS_w p (h.run Z0 F Z σ H s W tk kk _)
theorem m_rzRet (p : PS X st (tRet (wE X e))) (h : MRz X ρ e er) (k : G.rt (.rs er)) : MS1 X ρ st G := .mk fun Z0 F Z σ H D s gd => by
  obtain ⟨W, tk, kk⟩ := gx_thrown gd.ex k
  exact PS_w p (h.run Z0 F Z σ H s W tk kk _)
/-- raise C('m') -/
theorem m_raise {C : Addr} (pm : PMk X e (fun _ H Q => Q (.ref C) none H)) (k : G.rt (.rs ⟨C, none⟩)) (hc : X.calm = true := by rfl) : MS1 X ρ (.Raise (some e) none pos) G := .mk fun Z0 F Z σ H D s gd => by
  obtain ⟨W, tk, kk⟩ := gd.ex
  exact PS_w (ps_raise hc tk pm) (kk ⟨C, none⟩ ρ Z σ H k s)
end
/-- a class of errors without an __init__ of its own -/
structure XcC (K : PySem.W.Frag) (mg : Str → Option Value) (nm : Str) (C : Addr) : Prop where
  q : PySem.W.excIn K C [.type "ValueError", .type "Exception", .type "BaseException", .type "object"] "ValueError.__new__" = true
  g : mg nm = some (.ref C)
  k : PySem.W.keepIn K (.ref C) = true
  b : PySem.W.subIn K (.ref C) (.type "BaseException") = some true
  t : PySem.W.typeIn K (.ref C) = some (.type "type")
theorem pm_own {X : Cx} {nm m : Str} {C : Addr} {j : Nat} {p p2 pos : Pos} (c : XcC X.K X.mg nm C) (hg : Gl X nm := by rfl) (hdb : (nm == ("__debug__" : Str)) = false := by decide) : PMk X (.Call (.Name nm p) [.Constant (.str m) j p2] [] pos) (fun _ H Q => Q (.ref C) none H) :=
  pmk_own PySem.F.excBase_ValueError c.q c.g c.k (raises_own c.b c.t) hg hdb
def SpXE {α : Type} (K : PySem.W.Frag) (ar : α → List O) (pre : α → Prop) (s0 s1 : Addr → α → O) (res : α → O) : Sp := fun vs H Q E => ∃ (x : α) (Z F : Hp) (l : Addr) (vs' : List V) (A : List Addr), vs = .ref l :: vs' ∧ Ex Z F ∧ Ex F H ∧ A.Nodup ∧ (∀ a ∈ A, F a = none) ∧ RepO K Z F H (.ref l) (s0 l x) A ∧ RepOL K Z F F vs' (ar x) [] ∧ pre x ∧
  (∀ v Z' H' B, Gr Z F Z' H' → RepOL K Z' (fun _ => none) H' [.ref l, v] [s1 l x, res x] B → B.Nodup → (∀ a ∈ B, F a = none ∧ Z' a = none) → Q v H') ∧ ∀ e Z' H', res x = .rs e → Gr Z F Z' H' → ThrE K E e Z' H'
/-- of a new instance -/
def SpIE {α : Type} (K : PySem.W.Frag) (C : Addr) (ns : List Str) (ar : α → List O) (pre : α → Prop) (res : α → List O) (er : α → Option Er) : Sp := fun vs H Q E => ∃ (x : α) (Z F : Hp) (l dx : Addr) (vs' : List V), vs = .ref l :: vs' ∧ Ex Z F ∧ Ex F H ∧ F l = none ∧ H l = some (.ins C dx []) ∧ RepOL K Z F F vs' (ar x) [] ∧ pre x ∧
  (er x = none → ∀ Z' H' A, Gr Z F Z' H' → RepO K Z' (fun _ => none) H' (.ref l) (.at l C ns (res x)) A → New F Z' A → Q .non H') ∧ ∀ e Z' H', er x = some e → Gr Z F Z' H' → ThrE K E e Z' H'
theorem SpXE.init {α : Type} {P : Program} {w : World} {K : PySem.W.Frag} {mg : Str → Option Value} {base : Heap} {CX : CXT} {k : Nat} {f : Addr} {fd : FuncData} {ps : List Str} {ar : α → List O} {pre : α → Prop} {s0 s1 : Addr → α → O} {res : α → O} {β : Type} {arb : β → List O} {preb : β → Prop} {resb : β → List O} {erb : β → Option Er} {C : Addr} {ns : List Str} (g : β → α)
    (h : FnOk P w K mg base CX k f fd ps (SpXE K ar pre s0 s1 res)) (har : ∀ y, ar (g y) = arb y) (hp : ∀ y, preb y → pre (g y)) (h0 : ∀ l y, s0 l (g y) = .at l C [] []) (h1 : ∀ l y, erb y = none → s1 l (g y) = .at l C ns (resb y)) (h2 : ∀ y, (erb y = none ∧ res (g y) = .fz .non) ∨ ∃ e, erb y = some e ∧ res (g y) = .rs e) :
    FnOk P w K mg base CX k f fd ps (SpIE K C ns arb preb resb erb) := h.imp fun vs H Q E hh => by
  obtain ⟨y, Z, F, l, dx, vs', rfl, ez, ef, nl, hi, r, hpr, q, qx⟩ := hh
  have fl : ∀ a ∈ [l], F a = none := fun a m => by
    have e : a = l := by simpa using m
    rw [e]
    exact nl
  refine ⟨g y, Z, F, l, vs', [l], rfl, ez, ef, by simp, fl, ?_, by rw [har]; exact r, hp y hpr, fun v Z' H' B gg rr nB dB => ?_, fun e Z' H' z gg => ?_⟩
  · rw [h0]
    exact .at (dx := dx) hi .nil
  · rcases h2 y with ⟨en, er⟩ | ⟨e, en, er⟩
    · rw [er, h1 l y en] at rr
      cases rr with
      | @cons _ _ _ _ A1 B1 ra rb =>
        cases rb with
        | @cons _ _ _ _ A2 B2 rb rc =>
          cases rb with
          | fz rb =>
            cases rb
            cases rc
            rw [List.append_nil, List.append_nil] at nB dB
            exact q en Z' H' A1 gg ra ⟨nB, dB⟩
    · rw [er] at rr
      cases rr with
      | cons ra rb =>
        cases rb with
        | cons rb rc => cases rb
  · rcases h2 y with ⟨en, er⟩ | ⟨e', en, er⟩
    · rw [er] at z
      cases z
    · rw [er] at z
      cases z
      exact qx e Z' H' en gg
structure Mk1E (P : Program) (w : World) (K : PySem.W.Frag) (mg : Str → Option Value) (base : Heap) (name : Str) (C : Addr) (k : Nat) (ps : List Str) (sp : Sp) : Prop where
  ex : ∃ (f : Addr) (fd : FuncData), mg name = some (.ref C) ∧ Mk K C f ∧ Binds K fd ps [] ∧ FnOk P w K mg base (L2.CX P w) k f fd ps sp
structure Cf1E (P : Program) (w : World) (K : PySem.W.Frag) (mg : Str → Option Value) (base : Heap) (nmC m : Str) (k : Nat) (ps : List Str) (sp : Sp) : Prop where
  ex : ∃ (C : Addr) (mc : Value) (f : Addr) (fd : FuncData), mg nmC = some (.ref C) ∧ ClX.CRead K C mc ∧ ClX.CVal K C mc m (.ref f) (.ref f) ∧ PySem.W.keepIn K (.ref f) = true ∧ Binds K fd ps [] ∧ FnOk P w K mg base (L2.CX P w) k f fd ps sp
section
variable {P : Program} {w : World} {K : PySem.W.Frag} {mg : Str → Option Value} {base : Heap} {name m : Str} {k : Nat} {ps : List Str} {α : Type} {C : Addr} {ns : List Str} {ar : α → List O} {pre : α → Prop}
theorem Mk1E.ok {res : α → List O} {er : α → Option Er} (c : Mk1E P w K mg base name C k ps (SpIE K C ns ar pre res er)) : Mk1 P w K mg base name C k ps (SpI K C ns ar (fun x => pre x ∧ er x = none) res) := by
  obtain ⟨f, fd, hm, hk, hb, F⟩ := c.ex
  exact ⟨f, fd, hm, hk, hb, F.known fun vs H Q E ⟨x, Z, F, l, dx, vs', e, ez, ef, nl, hi, r, ⟨hp, hn⟩, q⟩ => ⟨x, Z, F, l, dx, vs', e, ez, ef, nl, hi, r, hp, fun _ => q, fun e _ _ z => by rw [hn] at z; cases z⟩⟩
theorem Cf1E.ok {s0 s1 : Addr → α → O} {res : α → O} (c : Cf1E P w K mg base name m k ps (SpXE K ar pre s0 s1 res)) : Cf1 P w K mg base name m k ps (SpX K ar (fun x => pre x ∧ ∀ e, res x ≠ .rs e) s0 s1 res) := by
  obtain ⟨C, mc, f, fd, hm, h1, h2, hk, hb, F⟩ := c.ex
  exact ⟨C, mc, f, fd, hm, h1, h2, hk, hb, F.known fun vs H Q E ⟨x, Z, F, l, vs', A, e, ez, ef, nA, fA, rs, r, ⟨hp, hn⟩, q⟩ => ⟨x, Z, F, l, vs', A, e, ez, ef, nA, fA, rs, r, hp, q, fun e _ _ z => absurd z (hn e)⟩⟩
end
section
variable {X : Cx} {ρ : Slots} {e : Expr} {es : List Expr} {pos p0 p1 p2 : Pos} {i : Nat} {xx nm : Str} {C : Addr} {ns all : List Str} {os : List O} {ds : List D} {er : Er}
end
def SpFE {A E R : Type} (K : PySem.W.Frag) (ar : A → List O) (f : A → Option (Xr E R)) (te : E → Er) (er : R → O) : Sp := SpE K (fun x : A × Xr E R => ar x.1) (fun x => f x.1 = some x.2) (fun x => exO te er x.2)
def bdx {E R S : Type} : Option (Xr E R) → (R → Option (Xr E S)) → Option (Xr E S)
  | some (.ok r), k => k r
  | some (.er e), _ => some (.er e)
  | none, _ => none
theorem bdx_some {E R S : Type} {m : Option (Xr E R)} {k : R → Option (Xr E S)} {y : Xr E S} (h : bdx m k = some y) : (∃ e, m = some (.er e) ∧ (some (.er e) : Option (Xr E S)) = some y) ∨ ∃ v, m = some (.ok v) ∧ k v = some y := by
  cases m with
  | none => cases h
  | some m =>
    cases m with
    | ok x => exact .inr ⟨x, rfl, h⟩
    | er x => exact .inl ⟨x, rfl, h⟩
def bdo {E R S V W : Type} : Option (Xr E R) → (R → Option (Ou V W (Xr E S))) → Option (Ou V W (Xr E S))
  | some (.ok r), k => k r
  | some (.er e), _ => some (.rt (.er e))
  | none, _ => none
theorem bdo_some {E R S V W : Type} {m : Option (Xr E R)} {k : R → Option (Ou V W (Xr E S))} {y : Ou V W (Xr E S)} (h : bdo m k = some y) : (∃ e, m = some (.er e) ∧ (some (.rt (.er e)) : Option (Ou V W (Xr E S))) = some y) ∨ ∃ v, m = some (.ok v) ∧ k v = some y := by
  cases m with
  | none => cases h
  | some m =>
    cases m with
    | ok x => exact .inr ⟨x, rfl, h⟩
    | er x => exact .inl ⟨x, rfl, h⟩
theorem exO_nv {E R : Type} {te : E → Er} {er : R → O} (h : ∀ r, (er r).nv = true) : ∀ y : Xr E R, (exO te er y).nv = true ∨ ∃ e, exO te er y = .rs e
  | .ok r => .inl (h r)
  | .er e => .inr ⟨_, rfl⟩
end M
namespace M
open PySem L2 PySem.Spec PyProof.Rows
def tryR {V E R S : Type} : Ou V Unit (Xr E R) → (V → Option S) → (R → Option S) → (E → Option S) → Option S
  | .nx v, k, _, _ => k v
  | .rt (.ok r), _, kr, _ => kr r
  | .rt (.er e), _, _, kx => kx e
  | _, _, _, _ => none
theorem le_none : ∀ ρ : Slots, Le ρ (List.replicate ρ.length none)
  | [] => .nil
  | _ :: ρ => .no (le_none ρ)
theorem le_blank {x : Option O} : ∀ (ρ : Slots) (i : Nat), Le (ρ.set i x) ((List.replicate ρ.length none).set i x)
  | [], _ => .nil
  | _ :: ρ, 0 => .eq (le_none ρ)
  | _ :: ρ, i + 1 => .no (le_blank ρ i)
section
variable {X : Cx} {ρ : Slots} {G : Go}
end
section
variable {X : Cx} {ρ : Slots} {a C E : Addr} {oe : Obj} {pn : List (Addr × Obj)} {i : Nat} {n nm : Str} {p0 p1 p2 pos : Pos} {b : Bool} {T : String}
end
end M
namespace M
open PySem L2 PySem.Spec PyProof.Rows
section
open PySem.SeqAt
open PySem.AutoSeq1 (wpAny_loadPart')
open PySem.MeetsSeq PySem.MeetsSeq2 PySem.MeetsSeq3
end
section
variable {X : Cx} {pins : List (Addr × Obj)} {σ : L2.St} {H Z : Hp} {s : Shared}
end
section
variable {X : Cx} {ρ : Slots} {a b : Expr} {d : D} {xs : List Str} {pos p1 p2 p3 : Pos} {x : Str}
/-- {}, frozen -/
theorem me_dict0 : ME X ρ (.Dict [] [] pos) (.fz (.dct [] [])) := .mk fun Z0 F Z σ H s Q q => PE_w pe_dnewK fun p hp => by
  refine q (.ref p) _ _ [] (Gr.newz (o := .dK []) s.ex hp) (.fz (.dct (ks := []) (vs := []) upd_same .nil)) .nil
end
theorem kit_false {K : PySem.W.Frag} {C E : Addr} (h0 : PySem.W.mroIn K C (.ref C) = some true) (h1 : PySem.W.isClsIn K E = true) (h2 : PySem.W.typeIn K (.ref E) = some (.type "type")) (h3 : PySem.W.mroIn K C (.ref E) = some false) : PySem.W.kitOne K (.ref C) (.ref E) = some false := by
  unfold PySem.W.kitOne
  split
  · rename_i h
    have h := eq_of_beq h
    cases h
    rw [h0] at h3
    cases h3
  · have e : PySem.W.kitCls K (.ref C) (.ref E) = if ((PySem.W.clsIn K E).isSome && PySem.W.typeIn K (.ref E) == some (.type "type")) = true then PySem.W.mroIn K C (.ref E) else none := rfl
    rw [e, if_pos, h3]
    rw [h2]
    show ((PySem.W.clsIn K E).isSome && _) = true
    rw [show (PySem.W.clsIn K E).isSome = true from h1]
    decide
theorem kit_ty {K : PySem.W.Frag} {C : Addr} {T : String} {b : Bool} (h1 : PySem.W.kitMeta T = true) (h3 : PySem.W.mroIn K C (.type T) = some b) : PySem.W.kitOne K (.ref C) (.type T) = some b := by
  unfold PySem.W.kitOne
  split
  · rename_i h
    have h := eq_of_beq h
    cases h
  · have e : PySem.W.kitCls K (.ref C) (.type T) = if PySem.W.kitMeta T = true then PySem.W.mroIn K C (.type T) else none := rfl
    rw [e, if_pos h1, h3]
end M
namespace M
open PySem L2 PySem.Spec PyProof.Rows
def ixD : D → Int → Option D
  | .lst ds, k => L2.atI ds k
  | .tup ds, k => L2.atI ds k
  | _, _ => none
section
variable {X : Cx} {ρ : Slots} {a b : Expr} {d y : D} {ds : List D} {k : Int} {pos p0 p1 : Pos} {x z : Str}
theorem me_ixD (h : ixD d k = some y) (ha : ME X ρ a (.fz d)) (hb : ME X ρ b (.fz (.int k))) (hp : PlainIx b := by exact fun _ _ => rfl) : ME X ρ (.Subscript a b pos) (.fz y) := by
  cases d with
  | lst ds => exact me_ixL (MV.l (ME.v ha) (.fz _)) hb h hp
  | tup ds => exact me_ixT (MV.u (ME.v ha) (.fz _)) hb h hp
  | _ => cases h
theorem strs_own {K : PySem.W.Frag} {Z F H : Hp} : ∀ ys : List Str, RepOL K Z F H (ys.map V.str) ((ys.map D.str).map .fz) []
  | [] => .nil
  | y :: ys => .cons (A := []) (B := []) (.fz (.str y)) (strs_own ys)
/-- s.split(z) -/
theorem me_split (hz : (z.length == 0) = false ∧ x.length + 2 ≤ sizeLine) (ha : ME X ρ a (.fz (.str x))) (hb : ME X ρ b (.fz (.str z))) (hs : starEach [b] X.env = [(false, eval b X.env)] := by rfl) (hbase : attributeBase a "split" X.env (eval a X.env) = eval a X.env := by rfl) (hline : (p1.endLine == pos.line) = true := by rfl) :
    ME X ρ (.Call (.Attribute a "split" p1) [b] [] pos) (.lst (((Txt.split x z).map D.str).map .fz)) := .mk fun Z0 F Z σ H s Q qq =>
  PE_w (pe_split pe_w pe_w hs hbase hline) (ha.run Z0 F Z σ H s _ fun v Z1 H1 A1 g1 r1 n1 => by
    cases r1 with
    | fz r1 =>
      cases r1
      refine ⟨⟨_, rfl⟩, hb.run Z0 F Z1 σ H1 (s.grow g1) _ fun v Z2 H2 A2 g2 r2 n2 => ?_⟩
      cases r2 with
      | fz r2 =>
        cases r2
        refine ⟨x, z, rfl, rfl, hz.1, hz.2, fun p hp => ?_⟩
        have g3 := g1.trans g2
        exact qq _ Z2 _ [p] (g3.trans (Gr.new g2.zh hp)) (.lst upd_same (strs_own _)) (new_one (g3.hh.free hp) (g2.zh.free hp)))
end
end M
namespace M
open PySem L2 PySem.Spec PyProof.Rows
section
variable {X : Cx} {ρ : Slots} {a b c : Expr} {o : O} {os : List O} {sts : List Stmt} {G : Go} {k : Bool} {pos : Pos} {x : Str} {i j : Nat} {l : Addr}
end
end M
namespace M
open PySem L2 PySem.Spec PyProof.Rows
def stpI (lo k : Int) (n : Nat) : List Nat := sliceRange (sliceBounds (some lo) none (some k) n).1 (sliceBounds (some lo) none (some k) n).2.1 (sliceBounds (some lo) none (some k) n).2.2
def stp {α : Type} (xs : List α) (lo k : Int) : List α := (stpI lo k xs.length).filterMap (xs[·]?)
section
variable {X : Cx}
variable {ρ : Slots} {a : Expr} {α : Type}
end
def rCatS (K : PySem.W.Frag) : R2 := fun x y H Q => ∃ (l b : Addr) (xs zs : List V), x = .ref l ∧ y = .ref b ∧ SqL K H l xs ∧ SqL K H b zs ∧ xs.length + zs.length ≤ sizeLine ∧ ∀ p, H p = none → Q (.ref p) (upd H p (.lst (xs ++ zs)))
section
variable {X : Cx}
theorem op_catS : OpR X (binaryOp .Add) (rCatS X.K) := by
  intro pins s σ H x y v u Q I rx ry h
  obtain ⟨l, b, xs, zs, rfl, rfl, hl, hb, hz, q⟩ := h
  cases rx
  cases ry
  obtain ⟨its, r, ⟨⟨cls, dd, data, sl⟩, n, ho, hc, hdn, hd⟩, h1⟩ := I.list hl
  obtain ⟨its2, r2, ⟨⟨cls2, dd2, data2, sl2⟩, n2, ho2, hc2, hdn2, hd2⟩, h2⟩ := I.list hb
  simp only at hc hd hc2 hd2
  subst hc hd hc2 hd2
  have e1 := r.length
  have e2 := r2.length
  have ea : its.toArray ++ its2.toArray = (its ++ its2).toArray := by simp
  refine concat_meets ⟨_, ho, rfl⟩ ⟨_, ho2, rfl⟩ noFill_list_add seq_list_add PySem.F.slot_list_add PySem.F.entry_list_add (PySem.F.args_list_add_2 _ _) (list_addW l b its.toArray its2.toArray n n2 dd dd2 sl sl2 (by rw [List.size_toArray, List.size_toArray]; omega)) ⟨ho, ho2, ?_⟩
  rw [ea]
  exact ⟨.ref _, _, I.lnew (t' := s.toks) (r.append r2) (by rw [List.length_append]; omega), rfl, q _ I.fresh⟩
variable {ρ : Slots} {a b : Expr} {α : Type} {pos : Pos}
theorem me_catMM {xs ys : List α} {enc : α → D} (hl : xs.length + ys.length ≤ sizeLine) (ha : ML X ρ a (xs.map enc)) (hb : ML X ρ b (ys.map enc)) : ME X ρ (.BinOp a .Add b pos) (.lst (((xs ++ ys).map enc).map .fz)) := .mk fun Z0 F Z σ H s Q q =>
  PE_w (pe_op op_catS pe_w pe_w) (ha.run Z0 F Z σ H s _ fun l vs Z1 H1 g1 l1 r1 => hb.run Z0 F Z1 σ H1 (s.grow g1) _ fun l2 us Z2 H2 g2 l2' r2 => by
    have g := g1.trans g2
    have e1 := r1.length
    have e2 := r2.length
    rw [List.length_map] at e1 e2
    refine ⟨l, l2, vs, us, rfl, rfl, ex_l g2.hh l1, l2', by omega, fun p hp => ?_⟩
    rw [List.map_append] at q
    exact q _ Z2 _ [p] (g.trans (Gr.new g.zh hp)) (.lst upd_same ((r1.mono g2.zz).append r2).own) (new_one (g.hh.free hp) (g.zh.free hp)))
end
end M
namespace M
open PySem L2 PySem.Spec PyProof.Rows
section
variable {X : Cx} {ρ : Slots} {e : Expr} {d d' : D}
theorem MV.as (h : MV X ρ e (.fz d)) (q : d = d') : MV X ρ e (.fz d') := q ▸ h
theorem ME.as (h : ME X ρ e (.fz d)) (q : d = d') : ME X ρ e (.fz d') := q ▸ h
end
def dgI : List (Str × Int) → Str → Int → Int
  | [], _, d => d
  | (k, v) :: r, s, d => if s = k then v else dgI r s d
def dgK (kvs : List (Str × Int)) : List (Key × V) := kvs.map fun p => (.inr p.1, .int p.2)
theorem valV_dgK (s : Str) (d : Int) : ∀ kvs : List (Str × Int), (valV (dgK kvs) (.inr s)).getD (.int d) = .int (dgI kvs s d)
  | [] => rfl
  | (k, v) :: r => by
    show (valV ((Sum.inr k, V.int v) :: dgK r) (.inr s)).getD (.int d) = .int (if s = k then v else dgI r s d)
    by_cases e : s = k
    · rw [valV_pos (p := ((Sum.inr k : Key), V.int v)) (by rw [e]), if_pos e]; rfl
    · rw [valV_neg (p := ((Sum.inr k : Key), V.int v)) (fun z => e (Sum.inr.inj z).symm), if_neg e]
      exact valV_dgK s d r
theorem mergeK_app : ∀ (kvs : List (Str × Int)) (acc : List (Key × V)), (∀ p ∈ kvs, valV acc (.inr p.1) = none) → (kvs.map (·.1)).Nodup → mergeK acc (dgK kvs) = acc ++ dgK kvs
  | [], acc, _, _ => (List.append_nil _).symm
  | (k, v) :: r, acc, h, nd => by
    show mergeK (putK acc (.inr k) (.int v)) (dgK r) = acc ++ ((.inr k, .int v) :: dgK r)
    have hk := h (k, v) List.mem_cons_self
    rw [List.map_cons, List.nodup_cons] at nd
    rw [putK_new _ hk, mergeK_app r _ (fun p m => ?_) nd.2, List.append_assoc]; rfl
    rw [valV_snoc _ _ _ _ hk, if_neg (fun z => ?_)]
    · exact h p (List.mem_cons_of_mem _ m)
    · exact nd.1 (by rw [← Sum.inr.inj z]; exact List.mem_map_of_mem m)
structure MPs (X : Cx) (pos : Pos) (keys : List (Option Expr)) (values : List Expr) (kvs : List (Str × Int)) : Prop where
  ex : ∃ trs, PPs X pos keys values trs ∧ keys.length = kvs.length ∧ values.length = kvs.length ∧ keys.all (·.isSome) = true ∧ ∀ (σ : L2.St) (H : Hp) (Q : List (V × V) → Hp → Prop), Q ((dgK kvs).map fun kv => (kV kv.1, kv.2)) H → tPairs trs σ H Q
theorem mps_nil {X : Cx} {pos : Pos} : MPs X pos [] [] [] := ⟨[], pps_nil, rfl, rfl, rfl, fun _ _ _ q => q⟩
theorem mps_cons {X : Cx} {pos p1 p2 : Pos} {j1 j2 : Nat} {k : Str} {v : Int} {ks : List (Option Expr)} {vs : List Expr} {kvs : List (Str × Int)} (h : MPs X pos ks vs kvs) : MPs X pos (some (.Constant (.str k) j1 p1) :: ks) (.Constant (.int v) j2 p2 :: vs) ((k, v) :: kvs) := by
  obtain ⟨trs, p, l1, l2, a, q⟩ := h.ex
  refine ⟨(tC (.str k), tC (.int v)) :: trs, pps_cons pe_str pe_int p, by rw [List.length_cons, List.length_cons, l1], by rw [List.length_cons, List.length_cons, l2], a, fun σ H Q z => q σ H _ z⟩
section
variable {X : Cx} {ρ : Slots} {e f : Expr} {pos dpos apos cpos : Pos} {s : Str} {d : Int} {keys : List (Option Expr)} {values : List Expr} {kvs : List (Str × Int)}
theorem me_dget (hu : X.A.units + 64 < cLine) (m : MPs X dpos keys values kvs) (he : ME X ρ e (.fz (.str s))) (hf : ME X ρ f (.fz (.int d))) (nd : (kvs.map (·.1)).Nodup := by decide) (h0 : kvs.length ≠ 0 ∧ kvs.length ≤ 15 := by decide)
    (m2 : M2 X (.Dict keys values dpos) "get" apos e f cpos := by exact ⟨rfl, rfl, rfl, rfl⟩) : ME X ρ (.Call (.Attribute (.Dict keys values dpos) "get" apos) [e, f] [] cpos) (.fz (.int (dgI kvs s d))) := by
  obtain ⟨trs, p, l1, l2, a, q⟩ := m.ex
  refine .mk fun Z0 F Z σ H st Q qq => PE_w (pe_dget2 (by omega) (pe_disp p a (l1.trans l2.symm) (fun z => h0.1 (by rw [← l1, z]; rfl)) (by rw [l1]; exact h0.2)) pe_w pe_w m2) fun x hx => q σ _ _ ⟨upd_same, dgK kvs, rfl, by show (List.map _ kvs).length ≤ 15; rw [List.length_map]; exact h0.2, x, rfl, .inl ⟨_, .inl upd_same⟩, ?_⟩
  rw [mergeK_app kvs [] (fun _ _ => rfl) nd, List.nil_append]
  rw [show upd (upd H x (.dK [])) x (.dK (dgK kvs)) = upd H x (.dK (dgK kvs)) from by funext b; by_cases hb : b = x <;> simp [upd, hb]]
  have g0 : Gr Z H Z (upd H x (.dK (dgK kvs))) := Gr.new st.ex hx
  have s1 := st.grow g0
  refine he.run Z0 F Z σ _ s1 _ fun v Z1 H1 A1 g1 r1 n1 => hf.run Z0 F Z1 σ H1 (s1.grow g1) _ fun u Z2 H2 A2 g2 r2 n2 => ?_
  cases r1 with
  | fz r1 => cases r1 with
    | str => cases r2 with
      | fz r2 => cases r2 with
        | int =>
          have hd : H2 x = some (.dK (dgK kvs)) := g2.hh _ _ (g1.hh _ _ upd_same)
          refine ⟨_, DGet.k (k := .inr s) hd, ?_⟩
          rw [valV_dgK]
          exact qq _ Z2 H2 [] (g0.trans (g1.trans g2)) (.fz (.int _)) .nil
end
def asLD : D → Option (List D)
  | .lst ds => some ds
  | _ => none
theorem asLD_is {d : D} {l : List D} (h : asLD d = some l) : O.fz d = .fz (.lst (l.map e_d)) := by
  cases d with
  | lst ds => injection h with h; subst h; exact congrArg (fun z => O.fz (.lst z)) (List.map_id ds).symm
  | non => nomatch h
  | bl _ => nomatch h
  | int _ => nomatch h
  | str _ => nomatch h
  | ty _ => nomatch h
  | opq _ => nomatch h
  | exc _ _ => nomatch h
  | hx _ _ _ => nomatch h
  | tup _ => nomatch h
  | ins _ _ _ => nomatch h
  | dct _ _ => nomatch h
  | dctT _ _ => nomatch h
theorem fn_vac {A R : Type} {P : Program} {w : World} {K : PySem.W.Frag} {mg : Str → Option Value} {base : Heap} {CX : CXT} {k : Nat} {f : Addr} {fd : FuncData} {ps : List Str} {ar : A → List O} {g : A → Option R} {er : R → O} (h : ∀ x, g x = none) : FnOk P w K mg base CX k f fd ps (SpF K ar g er) :=
  ⟨fun vs H Q E z => (by
      obtain ⟨x, _, _, _, hp, _⟩ := z
      have hp : g x.1 = some x.2 := hp
      rw [h] at hp; cases hp), fun A outer s H args us vs Q E hr he hb hv z => (by
      obtain ⟨x, _, _, _, hp, _⟩ := z
      have hp : g x.1 = some x.2 := hp
      rw [h] at hp; cases hp)⟩
theorem fn_vacE {A R E' : Type} {P : Program} {w : World} {K : PySem.W.Frag} {mg : Str → Option Value} {base : Heap} {CX : CXT} {k : Nat} {f : Addr} {fd : FuncData} {ps : List Str} {ar : A → List O} {g : A → Option (Xr E' R)} {te : E' → Er} {er : R → O} (h : ∀ x, g x = none) : FnOk P w K mg base CX k f fd ps (SpFE K ar g te er) :=
  ⟨fun vs H Q E z => (by
      obtain ⟨x, _, _, _, hp, _⟩ := z
      have hp : g x.1 = some x.2 := hp
      rw [h] at hp; cases hp), fun A outer s H args us vs Q E hr he hb hv z => (by
      obtain ⟨x, _, _, _, hp, _⟩ := z
      have hp : g x.1 = some x.2 := hp
      rw [h] at hp; cases hp)⟩
end M
namespace M
open PySem L2 PySem.Spec PyProof.Rows
section
variable {X : Cx} {ρ : Slots} {a b : Expr} {o2 : O} {d : D} {ds : List D} {pos : Pos}
variable {α : Type} {enc : α → D} {xs : List α}
end
end M
namespace M
open PySem L2 PySem.Spec PyProof.Rows
section
variable {X : Cx} {ρ : Slots} {G : Go}
end
def dgT : List (Str × Str) → Str → Option Str
  | [], _ => none
  | (k, v) :: r, s => if s = k then some v else dgT r s
def dgKT (kvs : List (Str × Str)) : List (Key × V) := kvs.map fun p => (.inr p.1, .str p.2)
theorem valV_dgT (s : Str) {v : Str} : ∀ {kvs : List (Str × Str)}, dgT kvs s = some v → valV (dgKT kvs) (.inr s) = some (.str v)
  | [], h => by cases h
  | (k, u) :: r, h => by
    have h : (if s = k then some u else dgT r s) = some v := h
    show valV ((Sum.inr k, V.str u) :: dgKT r) (.inr s) = _
    by_cases e : s = k
    · rw [if_pos e] at h
      injection h with h
      subst h
      exact valV_pos (p := ((Sum.inr k : Key), V.str u)) (by rw [e])
    · rw [if_neg e] at h
      rw [valV_neg (p := ((Sum.inr k : Key), V.str u)) (fun z => e (Sum.inr.inj z).symm)]
      exact valV_dgT s h
theorem mergeK_appT : ∀ (kvs : List (Str × Str)) (acc : List (Key × V)), (∀ p ∈ kvs, valV acc (.inr p.1) = none) → (kvs.map (·.1)).Nodup → mergeK acc (dgKT kvs) = acc ++ dgKT kvs
  | [], acc, _, _ => (List.append_nil _).symm
  | (k, v) :: r, acc, h, nd => by
    show mergeK (putK acc (.inr k) (.str v)) (dgKT r) = acc ++ ((.inr k, .str v) :: dgKT r)
    have hk := h (k, v) List.mem_cons_self
    rw [List.map_cons, List.nodup_cons] at nd
    rw [putK_new _ hk, mergeK_appT r _ (fun p m => ?_) nd.2, List.append_assoc]; rfl
    rw [valV_snoc _ _ _ _ hk, if_neg (fun z => ?_)]
    · exact h p (List.mem_cons_of_mem _ m)
    · exact nd.1 (by rw [← Sum.inr.inj z]; exact List.mem_map_of_mem m)
structure MPt (X : Cx) (pos : Pos) (keys : List (Option Expr)) (values : List Expr) (kvs : List (Str × Str)) : Prop where
  ex : ∃ trs, PPs X pos keys values trs ∧ keys.length = kvs.length ∧ values.length = kvs.length ∧ keys.all (·.isSome) = true ∧ ∀ (σ : L2.St) (H : Hp) (Q : List (V × V) → Hp → Prop), Q ((dgKT kvs).map fun kv => (kV kv.1, kv.2)) H → tPairs trs σ H Q
theorem mpt_nil {X : Cx} {pos : Pos} : MPt X pos [] [] [] := ⟨[], pps_nil, rfl, rfl, rfl, fun _ _ _ q => q⟩
theorem mpt_cons {X : Cx} {pos p1 p2 : Pos} {j1 j2 : Nat} {k v : Str} {ks : List (Option Expr)} {vs : List Expr} {kvs : List (Str × Str)} (h : MPt X pos ks vs kvs) : MPt X pos (some (.Constant (.str k) j1 p1) :: ks) (.Constant (.str v) j2 p2 :: vs) ((k, v) :: kvs) := by
  obtain ⟨trs, p, l1, l2, a, q⟩ := h.ex
  refine ⟨(tC (.str k), tC (.str v)) :: trs, pps_cons pe_str pe_str p, by rw [List.length_cons, List.length_cons, l1], by rw [List.length_cons, List.length_cons, l2], a, fun σ H Q z => q σ H _ z⟩
section
variable {X : Cx} {ρ : Slots} {e : Expr} {pos dpos : Pos} {s v : Str} {keys : List (Option Expr)} {values : List Expr} {kvs : List (Str × Str)}
theorem me_dixT (hu : X.A.units + 64 < cLine) (m : MPt X dpos keys values kvs) (h : dgT kvs s = some v) (he : ME X ρ e (.fz (.str s))) (nd : (kvs.map (·.1)).Nodup := by decide) (h0 : kvs.length ≠ 0 ∧ kvs.length ≤ 15 := by decide)
    (hs : NoSl e := by exact fun _ _ => rfl) : ME X ρ (.Subscript (.Dict keys values dpos) e pos) (.fz (.str v)) := by
  obtain ⟨trs, p, l1, l2, a, q⟩ := m.ex
  refine .mk fun Z0 F Z σ H st Q qq => PE_w (pe_dget (by omega) (pe_disp p a (l1.trans l2.symm) (fun z => h0.1 (by rw [← l1, z]; rfl)) (by rw [l1]; exact h0.2)) pe_w hs) fun x hx => q σ _ _ ⟨upd_same, dgKT kvs, rfl, by show (List.map _ kvs).length ≤ 15; rw [List.length_map]; exact h0.2, ?_⟩
  rw [mergeK_appT kvs [] (fun _ _ => rfl) nd, List.nil_append]
  rw [show upd (upd H x (.dK [])) x (.dK (dgKT kvs)) = upd H x (.dK (dgKT kvs)) from by funext b; by_cases hb : b = x <;> simp [upd, hb]]
  have g0 : Gr Z H Z (upd H x (.dK (dgKT kvs))) := Gr.new st.ex hx
  have s1 := st.grow g0
  refine he.run Z0 F Z σ _ s1 _ fun u Z1 H1 A1 g1 r1 n1 => ?_
  cases r1 with
  | fz r1 => cases r1 with
    | str =>
      have hd : H1 x = some (.dK (dgKT kvs)) := g1.hh _ _ upd_same
      have hg := DGet.k (k := .inr s) hd
      rw [valV_dgT s h] at hg
      exact ⟨_, _, rfl, hg, qq _ Z1 H1 [] (g0.trans g1) (.fz (.str _)) .nil⟩
end
section
variable {X : Cx} {ρ : Slots} {e : Expr} {pos dpos : Pos} {s : Str} {v : Int} {keys : List (Option Expr)} {values : List Expr} {kvs : List (Str × Int)}
end
end M
namespace M
open PySem L2 PySem.Spec PyProof.Rows
section
variable {K : PySem.W.Frag} {Z F H : Hp}
mutual
theorem RepK.rep (e : Ex Z H) (f : Ex F H) : ∀ {v : V} {o : O}, RepK K Z F v o → Rep K H v o.frz
  | _, _, .fz h => h.mono e
  | _, _, .vw h r => .lst (ex_l f h) (r.mono e)
  | _, _, .vwa h r => .lst (ex_l f h) (r.mono e)
  | _, .lk o, .lk h => RepK.rep (o := o) e f h
  | _, _, .lst h r => .lst (SqL.of (f _ _ h)) (RepKL.rep e f r)
  | _, _, .tup h r => .tup (f _ _ h) (RepKL.rep e f r)
  | _, _, .ins h r => .ins (f _ _ h) (RepKL.rep e f r)
  | _, .loc _ o, .loc h => RepK.rep (o := o) e f h
  | _, _, .pt => .opq _
  | _, _, .at h r => .ins (f _ _ h) (RepKL.rep e f r)
  | _, _, .dct h r => .dct (f _ _ h) (RepKL.rep e f r)
  | _, _, .dctT h r => .dctT (f _ _ h) (RepKL.rep e f r)
theorem RepKL.rep (e : Ex Z H) (f : Ex F H) : ∀ {vs : List V} {os : List O}, RepKL K Z F vs os → RepL K H vs (O.frzL os)
  | _, _, .nil => .nil
  | _, _, .cons h r => .cons (RepK.rep e f h) (RepKL.rep e f r)
end
mutual
theorem RepO.rep (e : Ex Z H) (f : Ex F H) : ∀ {v : V} {o : O} {A : List Addr}, RepO K Z F H v o A → Rep K H v o.frz
  | _, _, _, .fz h => h.mono e
  | _, _, _, .vw h r => .lst (ex_l f h) (r.mono e)
  | _, _, _, .vwa h r => .lst (ex_l f h) (r.mono e)
  | _, .lk o, _, .lk h => RepK.rep (o := o) e f h
  | _, _, _, .lst h r => .lst (SqL.of h) (RepOL.rep e f r)
  | _, _, _, .tup h r => .tup h (RepOL.rep e f r)
  | _, _, _, .ins h r => .ins h (RepOL.rep e f r)
  | _, .loc _ o, _, .loc h => RepO.rep (o := o) e f h
  | _, _, _, .pt => .opq _
  | _, _, _, .at h r => .ins h (RepOL.rep e f r)
  | _, _, _, .dct h r => .dct h (RepOL.rep e f r)
  | _, _, _, .dctT h r => .dctT h (RepOL.rep e f r)
theorem RepOL.rep (e : Ex Z H) (f : Ex F H) : ∀ {vs : List V} {os : List O} {A : List Addr}, RepOL K Z F H vs os A → RepL K H vs (O.frzL os)
  | _, _, _, .nil => .nil
  | _, _, _, .cons h r => .cons (RepO.rep e f h) (RepOL.rep e f r)
end
end
/-- an expression that tells a thing, which is d now -/
structure MD (X : Cx) (ρ : Slots) (e : Expr) (d : D) : Prop where
  run : ∀ (Z0 F Z : Hp) (σ : L2.St) (H : Hp), StR X.K ρ Z0 F Z σ H → ∀ Q : VK, (∀ v Z' H', Gr Z H Z' H' → Rep X.K H' v d → Q v H') → wE X e σ H Q
section
variable {κ : Type} [DecidableEq κ] {β γ : Type}
/-- tables alike: entry by entry -/
def Tb (P : β → γ → Prop) : List (κ × β) → List (κ × γ) → Prop
  | [], [] => True
  | p :: r, q :: t => p.1 = q.1 ∧ P p.2 q.2 ∧ Tb P r t
  | _, _ => False
end
theorem RepL.tb {K : PySem.W.Frag} {Z : Hp} {κ : Type} [DecidableEq κ] : ∀ {m : List (κ × D)} {vs : List V}, RepL K Z vs (m.map (·.2)) → Tb (fun d v => Rep K Z v d) m ((m.map (·.1)).zip vs)
  | [], _, .nil => trivial
  | p :: r, _, .cons h t => ⟨rfl, h, RepL.tb t⟩
section
variable {X : Cx} {ρ : Slots} {R : O → Slots} {e e1 e2 f o a : Expr} {es : List Expr} {d y : D} {ds vs : List D} {pos p1 p2 p3 apos cpos : Pos} {C : Addr} {ns : List Str} {nm : Str} {oo : O} {G : Go}
theorem MV.now (h : MV X ρ e oo) : MD X ρ e oo.frz := .mk fun Z0 F Z σ H s Q q => h.run Z0 F Z σ H s Q fun v Z' H' A g r => q v Z' H' g (r.rep g.zh (s.gr.hh.trans g.hh))
end
end M
namespace M
open PySem L2 PySem.Spec PyProof.Rows
section
variable {X : Cx} {pins : List (Addr × Obj)} {σ : L2.St} {H : Hp} {s : Shared} {a b : Addr} {r : Value} {d : V} {k : List Key} {A : Around} {E : Value → Shared → Prop}
end
section
variable {κ : Type} [DecidableEq κ] {β : Type}
end
section
variable {X : Cx} {ρ ρ' : Slots} {R R' : O → Slots} {e a f call : Expr} {d y : D} {ds : List D} {pos p1 p2 p3 apos cpos dpos : Pos} {i : Nat} {st : Stmt} {sts : List Stmt} {G : Go} {oo o' : O} {nm : Str}
structure FP (X : Cx) (ρ : Slots) (b : Addr) (o : O) (R : O → Slots) : Prop where
  run : ∀ (Z0 F Z : Hp) (σ : L2.St) (H : Hp) (T : List Addr), StA X.K ρ Z0 F Z σ H T → Foc X.K Z0 F Z σ H T (.ref b) o R
end
end M
namespace M
open PySem L2 PySem.Spec PyProof.Rows
section
variable {X : Cx} {ρ ρ' : Slots} {R R' : O → Slots} {e a b f call : Expr} {es : List Expr} {d y : D} {ds : List D} {pos p0 p1 p2 p3 apos cpos dpos : Pos} {i j : Nat} {st : Stmt} {sts : List Stmt} {G : Go} {oo o o' : O} {nm : Str} {C : Addr} {ns : List Str} {os : List O} {k : Int}
end
class Nv (o : O) : Prop where
  nv : o.nv = true
instance {d : D} : Nv (.fz d) := ⟨rfl⟩
instance {ds : List D} : Nv (.lst (ds.map .fz)) := ⟨O.nvL_fz ds⟩
instance {a : Addr} {o : O} [h : Nv o] : Nv (.loc a o) := ⟨h.nv⟩
instance {a : Addr} : Nv (.pt a) := ⟨rfl⟩
class NvL (os : List O) : Prop where
  nv : O.nvL os = true
instance : NvL [] := ⟨rfl⟩
instance {o : O} {os : List O} [h : Nv o] [t : NvL os] : NvL (o :: os) := ⟨by show (o.nv && O.nvL os) = true; rw [h.nv, t.nv]; rfl⟩
instance (priority := low) {β : Type} {g : β → O} {xs : List β} [h : ∀ x, Nv (g x)] : NvL (xs.map g) := ⟨by
  induction xs with
  | nil => rfl
  | cons x r ih => show ((g x).nv && O.nvL (r.map g)) = true; rw [(h x).nv, ih]; rfl⟩
instance {os : List O} [h : NvL os] : Nv (.lst os) := ⟨h.nv⟩
instance {os : List O} [h : NvL os] : Nv (.tup os) := ⟨h.nv⟩
instance {C : Addr} {ns : List Str} {os : List O} [h : NvL os] : Nv (.ins C ns os) := ⟨h.nv⟩
instance {ks : List Key} {os : List O} [h : NvL os] : Nv (.dct ks os) := ⟨h.nv⟩
instance {ks : List (List Key)} {os : List O} [h : NvL os] : Nv (.dctT ks os) := ⟨h.nv⟩
instance {a C : Addr} {ns : List Str} {os : List O} [h : NvL os] : Nv (.at a C ns os) := ⟨h.nv⟩
theorem Nv.is (o : O) [h : Nv o] : o.nv = true := h.nv
end M
namespace M
open PySem L2 PySem.Spec PyProof.Rows
section
variable {β : Type}
end
section
variable {X : Cx} {ρ ρ' : Slots} {R R' : O → Slots} {e a b f call o : Expr} {es : List Expr} {d y dk : D} {ds : List D} {pos p0 p1 p2 p3 p4 apos cpos dpos : Pos} {i j : Nat} {st : Stmt} {sts : List Stmt} {G : Go} {oo o' : O} {nm : Str} {C : Addr} {ns : List Str} {os : List O} {β : Type} {g : β → O} {enc : β → D} {k : Key} {ks : List Key} {y0 y1 : β}
end
section
variable {K : PySem.W.Frag} {Z0 F Z Z' H H' : Hp} {σ : L2.St} {T A B : List Addr} {v : V} {o o' : O} {R : O → Slots}
theorem FocA.step (f : FocA K F Z Z0 σ H T v o R A) (ez : Ex Z Z') (nz : ∀ a, Kept F T A a → Z' a = Z a) (zh : Ex Z' H') (k : ∀ a, Kept F T A a → ∀ u, H a = some u → H' a = some u) (th : ∀ a ∈ A, ∃ u, H' a = some u) (fh : Ex F H') (r : RepO K Z' F H' v o' B) (n : B.Nodup) (d : ∀ a ∈ B, (a ∈ A ∨ a ∉ T ∧ F a = none) ∧ Z' a = none) : FocA K F Z' Z0 σ H' (T ++ B) v o' R B := by
  have nB : ∀ a, Kept F T A a → a ∉ B := fun a ka m => by
    rcases (d a m).1 with z | z
    · exact ka.1 z
    · rcases ka.2 with y | ⟨u, y⟩
      · exact z.1 y
      · rw [z.2] at y; cases y
  have kB : ∀ a, Kept F T A a → Kept F (T ++ B) B a := fun a ka => ⟨nB a ka, ka.2.imp (List.mem_append_left _) id⟩
  refine ⟨r, n, fun a m => ⟨List.mem_append_right _ m, (d a m).2, ?_⟩, fun a m => ?_, fh, fun {Z2 H2 w o2 p B2} ez2 nz2 zh2 k2 r2 n2 d2 => ?_⟩
  · rcases (d a m).1 with z | z
    · exact (f.ds a z).2.2
    · exact z.2
  · rcases List.mem_append.mp m with m | m
    · by_cases ma : a ∈ A
      · exact th a ma
      · obtain ⟨u, e⟩ := f.th a m
        exact ⟨u, k a ⟨ma, .inl m⟩ u e⟩
    · exact r.there a m
  · refine f.k (ez.trans ez2) (fun a ka => (nz2 a (kB a ka)).trans (nz a ka)) zh2 (fun a ka u e => k2 a (kB a ka) u (k a ka u e)) r2 n2 fun a m => ⟨?_, (d2 a m).2⟩
    rcases (d2 a m).1 with z | z
    · exact (d a z).1
    · exact .inr ⟨fun y => z.1 (List.mem_append_left _ y), z.2⟩
end
section
variable {κ : Type} [DecidableEq κ] {β : Type}
end
end M
namespace M
open PySem L2 PySem.Spec PyProof.Rows
section
variable {κ : Type} [DecidableEq κ] {β γ : Type}
end
structure FQ (X : Cx) (ρ : Slots) (o : O) (R : O → Slots) : Prop where
  run : ∀ (Z0 F Z : Hp) (σ : L2.St) (H : Hp) (T : List Addr), StA X.K ρ Z0 F Z σ H T → ∃ v, Foc X.K Z0 F Z σ H T v o R
section
variable {X : Cx} {ρ ρ' : Slots} {R R' : O → Slots} {e a f : Expr} {d dk : D} {ds : List D} {pos p0 p1 p2 p3 apos cpos dpos : Pos} {i j : Nat} {st : Stmt} {sts : List Stmt} {G : Go} {oo o o' : O} {nm : Str} {C l b : Addr} {ns : List Str} {os : List O} {β : Type} {g : β → O} {k : Key} {ks : List Key} {y0 : β}
theorem FQ.loc (h : FQ X ρ (.loc l o) R) : FQ X ρ o (fun o' => R (.loc l o')) := .mk fun Z0 F Z σ H T s => by
  obtain ⟨v, f⟩ := h.run Z0 F Z σ H T s
  exact ⟨v, f.unloc.2⟩
theorem FQ.fp (h : FQ X ρ (.loc l o) R) : FP X ρ l o (fun o' => R (.loc l o')) := .mk fun Z0 F Z σ H T s => by
  obtain ⟨v, f⟩ := h.run Z0 F Z σ H T s
  have := f.unloc
  rw [← this.1]
  exact this.2
theorem FQ.fld (h : FQ X ρ (.ins C ns os) R) (hd : os[j]? = some o) : FQ X ρ o (fun o' => R (.ins C ns (os.set j o'))) := .mk fun Z0 F Z σ H T s => by
  obtain ⟨v, A, f⟩ := h.run Z0 F Z σ H T s
  obtain ⟨_, _, _, v', _, _, _, _, f'⟩ := f.down hm_ins hd
  exact ⟨v', f'⟩
theorem FQ.it (h : FQ X ρ (.lst os) R) (hd : os[j]? = some o) : FQ X ρ o (fun o' => R (.lst (os.set j o'))) := .mk fun Z0 F Z σ H T s => by
  obtain ⟨v, A, f⟩ := h.run Z0 F Z σ H T s
  obtain ⟨_, _, _, v', _, _, _, _, f'⟩ := f.down hm_lst hd
  exact ⟨v', f'⟩
theorem FocA.same {K : PySem.W.Frag} {Z0 F Z H : Hp} {σ : L2.St} {T A : List Addr} {v : V} (f : FocA K F Z Z0 σ H T v o R A) (zh : Ex Z H) (hw : RepO K Z F H v o' A) : StR K (R o') Z0 F Z σ H :=
  f.chg (Ex.refl _) (fun _ _ => rfl) zh (fun _ _ _ e => e) hw f.nd fun a m => ⟨.inl m, (f.ds a m).2.1⟩
end
end M
namespace L2
open PySem PySem.Spec PyProof.Rows
section
variable {X : Cx} {pins : List (Addr × Obj)} {σ : St} {H : Hp} {s : Shared} {d : Addr} {o : Obj}
end
end L2
namespace M
open PySem L2 PySem.Spec PyProof.Rows
mutual
def O.nt : O → Bool
  | .lst os => O.ntL os
  | .tup _ => false
  | .ins _ _ os => O.ntL os
  | .at _ _ _ os => O.ntL os
  | .loc _ o => o.nt
  | .dct _ os => O.ntL os
  | .dctT _ os => O.ntL os
  | _ => true
def O.ntL : List O → Bool
  | [] => true
  | o :: r => o.nt && O.ntL r
end
section
variable {K : PySem.W.Frag} {Z F H : Hp}
mutual
theorem RepO.nt : ∀ {v : V} {o : O} {A : List Addr}, RepO K Z F H v o A → o.nt = true → ∀ a ∈ A, ∀ xs, H a ≠ some (.tup xs)
  | _, _, _, .fz _, _, _, m => nomatch m
  | _, _, _, .vw _ _, _, _, m => nomatch m
  | _, _, _, .vwa _ _, _, _, m => nomatch m
  | _, _, _, .lk _, _, _, m => nomatch m
  | _, _, _, .pt, _, _, m => nomatch m
  | _, _, _, .tup _ _, n, _, _ => nomatch n
  | _, .loc _ o, _, .loc h, n, a, m => RepO.nt (o := o) h n a m
  | _, _, _, .lst h r, n, a, m => (List.mem_cons.mp m).elim (fun e xs z => by rw [e, h] at z; cases z) fun m => RepOL.nt r n a m
  | _, _, _, .ins h r, n, a, m => (List.mem_cons.mp m).elim (fun e xs z => by rw [e, h] at z; cases z) fun m => RepOL.nt r n a m
  | _, _, _, .at h r, n, a, m => (List.mem_cons.mp m).elim (fun e xs z => by rw [e, h] at z; cases z) fun m => RepOL.nt r n a m
  | _, _, _, .dct h r, n, a, m => (List.mem_cons.mp m).elim (fun e xs z => by rw [e, h] at z; cases z) fun m => RepOL.nt r n a m
  | _, _, _, .dctT h r, n, a, m => (List.mem_cons.mp m).elim (fun e xs z => by rw [e, h] at z; cases z) fun m => RepOL.nt r n a m
theorem RepOL.nt : ∀ {vs : List V} {os : List O} {A : List Addr}, RepOL K Z F H vs os A → O.ntL os = true → ∀ a ∈ A, ∀ xs, H a ≠ some (.tup xs)
  | _, _, _, .nil, _, _, m => nomatch m
  | _, _, _, .cons h r, n, a, m => (List.mem_append.mp m).elim (fun m => RepO.nt h (Bool.and_eq_true_iff.mp n).1 a m) fun m => RepOL.nt r (Bool.and_eq_true_iff.mp n).2 a m
end
theorem StL.nt : ∀ {ρ : Slots} {σ : L2.St} {A : List Addr}, StL K Z F H ρ σ A → (∀ o, some o ∈ ρ → o.nt = true) → ∀ a ∈ A, ∀ xs, H a ≠ some (.tup xs)
  | _, _, _, .nil, _, _, m => nomatch m
  | _, _, _, .no h, n, a, m => h.nt (fun o z => n o (List.mem_cons_of_mem _ z)) a m
  | _, _, _, .so r h, n, a, m => (List.mem_append.mp m).elim (fun m => r.nt (n _ List.mem_cons_self) a m) fun m => h.nt (fun o z => n o (List.mem_cons_of_mem _ z)) a m
end
class Nt (o : O) : Prop where
  nt : o.nt = true
class NtL (os : List O) : Prop where
  nt : O.ntL os = true
instance {d : D} : Nt (.fz d) := ⟨rfl⟩
instance {o : O} : Nt (.lk o) := ⟨rfl⟩
instance {ds : List D} : Nt (.vw ds) := ⟨rfl⟩
instance {a : Addr} {ds : List D} : Nt (.vwa a ds) := ⟨rfl⟩
instance {a : Addr} : Nt (.pt a) := ⟨rfl⟩
instance {a : Addr} {o : O} [h : Nt o] : Nt (.loc a o) := ⟨h.nt⟩
instance : NtL [] := ⟨rfl⟩
instance {o : O} {os : List O} [h : Nt o] [t : NtL os] : NtL (o :: os) := ⟨by show (o.nt && O.ntL os) = true; rw [h.nt, t.nt]; rfl⟩
instance (priority := low) {β : Type} {g : β → O} {xs : List β} [h : ∀ x, Nt (g x)] : NtL (xs.map g) := ⟨by
  induction xs with
  | nil => rfl
  | cons x r ih => show ((g x).nt && O.ntL (r.map g)) = true; rw [(h x).nt, ih]; rfl⟩
instance {os : List O} [h : NtL os] : Nt (.lst os) := ⟨h.nt⟩
instance {C : Addr} {ns : List Str} {os : List O} [h : NtL os] : Nt (.ins C ns os) := ⟨h.nt⟩
instance {a C : Addr} {ns : List Str} {os : List O} [h : NtL os] : Nt (.at a C ns os) := ⟨h.nt⟩
instance {ks : List Key} {os : List O} [h : NtL os] : Nt (.dct ks os) := ⟨h.nt⟩
instance {ks : List (List Key)} {os : List O} [h : NtL os] : Nt (.dctT ks os) := ⟨h.nt⟩
class NtS (ρ : Slots) : Prop where
  nt : ∀ o, some o ∈ ρ → o.nt = true
instance : NtS [] := ⟨fun _ m => nomatch m⟩
instance {ρ : Slots} [t : NtS ρ] : NtS (none :: ρ) := ⟨fun o m => (List.mem_cons.mp m).elim (fun z => nomatch z) (t.nt o)⟩
instance {o : O} {ρ : Slots} [h : Nt o] [t : NtS ρ] : NtS (some o :: ρ) := ⟨fun o m => (List.mem_cons.mp m).elim (fun z => by cases z; exact h.nt) (t.nt o)⟩
section
variable {K : PySem.W.Frag} {Z0 F Z H : Hp} {ρ τ : Slots} {σ : L2.St} {i : Nat} {l d : Addr} {o : O} {u lu : HO} {qs : List Addr}
def lkF (F H : Hp) (B qs : List Addr) (d : Addr) (lu : HO) : Hp := fun a => if a = d then some lu else if a ∈ B ∨ a ∈ qs then H a else F a
theorem lkF_d {B : List Addr} : lkF F H B qs d lu d = some lu := if_pos rfl
theorem lkF_in {B : List Addr} {a : Addr} (h : a ≠ d) (m : a ∈ B ∨ a ∈ qs) : lkF F H B qs d lu a = H a := by unfold lkF; rw [if_neg h, if_pos m]
theorem lkF_out {B : List Addr} {a : Addr} (h : a ≠ d) (m : ¬ (a ∈ B ∨ a ∈ qs)) : lkF F H B qs d lu a = F a := by unfold lkF; rw [if_neg h, if_neg m]
theorem locked (s : StR K ρ Z0 F Z σ H) (hi : ρ[i]? = some (some (.loc l o))) (nt : ∀ o, some o ∈ ρ → o.nt = true) : σ[i]? = some (some (.ref l)) ∧ ∃ B, RepO K Z F H (.ref l) o B ∧ B.Nodup ∧ (∀ a ∈ B, Z a = none ∧ F a = none) ∧
    ∀ {d : Addr} {u lu : HO} {qs : List Addr}, d ∈ B → H d = some u → (∀ q ∈ qs, ∃ xs, H q = some (.tup xs)) →
      Ex F (lkF F H B qs d lu) ∧ StR K (ρ.set i (some (.pt l))) Z (lkF F H B qs d lu) Z σ (upd H d lu) ∧
      ∀ {τ : Slots} {Zn Hn : Hp} {σn : L2.St}, StR K τ Z (lkF F H B qs d lu) Zn σn Hn → τ[i]? = some (some (.pt l)) → Kp (ρ.set i (some (.pt l))) τ → o.nv = true → StR K (τ.set i (some (.loc l o))) Z0 F Zn σn (upd Hn d u) := by
  obtain ⟨A, h1, h2, h3⟩ := s.st
  obtain ⟨v, B, q1, q2, q3, q4, q5⟩ := h1.at hi h2
  have ev : v = .ref l := by cases q2 with | loc _ => rfl
  subst ev
  have r0 : RepO K Z F H (.ref l) o B := by cases q2 with | loc r => exact r
  refine ⟨q1, B, r0, q3, fun a m => h3 a (q4 a m), fun {d u lu qs} hd hu hq => ?_⟩
  generalize eF : lkF F H B qs d lu = F1
  have zd : Z d = none := (h3 d (q4 d hd)).1
  have fd : F d = none := (h3 d (q4 d hd)).2
  have F1d : F1 d = some lu := by rw [← eF]; exact lkF_d
  have F1i : ∀ a, a ≠ d → (a ∈ B ∨ a ∈ qs) → F1 a = H a := fun a n m => by rw [← eF]; exact lkF_in n m
  have F1o : ∀ a, a ≠ d → ¬ (a ∈ B ∨ a ∈ qs) → F1 a = F a := fun a n m => by rw [← eF]; exact lkF_out n m
  have ef : Ex F F1 := fun a w e => by
    have n : a ≠ d := fun z => by rw [z, fd] at e; cases e
    by_cases m : a ∈ B ∨ a ∈ qs
    · rw [F1i a n m]; exact s.gr.hh a w e
    · rw [F1o a n m]; exact e
  have eh : Ex F1 (upd H d lu) := fun a w e => by
    by_cases n : a = d
    · subst n
      rw [F1d] at e
      rw [upd_same]; exact e
    · rw [upd_ne n]
      by_cases m : a ∈ B ∨ a ∈ qs
      · rw [F1i a n m] at e; exact e
      · rw [F1o a n m] at e; exact s.gr.hh a w e
  have zh : Ex Z (upd H d lu) := fun a w e => by
    rw [upd_ne fun z => by rw [z, zd] at e; cases e]
    exact s.gr.zh a w e
  obtain ⟨A', t1, t2, t3⟩ := q5 (Z' := Z) (H' := upd H d lu) (v' := .ref l) (o' := .pt l) (B' := []) (Ex.refl _) (fun a m nb w e => by
    rw [upd_ne (show a ≠ d from fun z => nb (by rw [z]; exact hd))]; exact e) .pt List.nodup_nil fun _ m => nomatch m
  rw [set_same q1] at t1
  have ntA : ∀ a ∈ A, ∀ xs, H a ≠ some (.tup xs) := h1.nt nt
  have F1A : ∀ a ∈ A, a ∉ B → F1 a = none := fun a m nb => by
    have n : a ≠ d := fun z => nb (by rw [z]; exact hd)
    have nm : ¬ (a ∈ B ∨ a ∈ qs) := fun z => z.elim nb fun z => by
      obtain ⟨xs, e⟩ := hq a z
      exact ntA a m xs e
    rw [F1o a n nm]; exact (h3 a m).2
  refine ⟨ef, ⟨⟨Ex.refl _, eh, zh, fun _ _ _ => rfl⟩, A', t1.monoF ef, t2, fun a m => ?_⟩, fun {τ Zn Hn σn} sn hp hk hv => ?_⟩
  · rcases t3 a m with z | z
    · exact ⟨(h3 a z.1).1, F1A a z.1 z.2⟩
    · exact nomatch z
  · obtain ⟨An, l1, l2, l3⟩ := sn.st
    obtain ⟨w, Bn, u1, u2, u3, u4, u5⟩ := l1.at hp l2
    have ew : w = .ref l := by cases u2; rfl
    subst ew
    have nd : ∀ a ∈ An, a ≠ d := fun a m z => by rw [z] at m; rw [(l3 d m).2] at F1d; cases F1d
    have HnB : ∀ a ∈ B, a ≠ d → Hn a = H a := fun a m n => by
      obtain ⟨w, e⟩ := r0.there a m
      rw [e]
      exact sn.gr.hh a w (by rw [F1i a n (.inl m)]; exact e)
    have rB : RepO K Zn F (upd Hn d u) (.ref l) (.loc l o) B := .loc (r0.mono sn.gr.zz (Ex.refl _) fun a m w e => by
      by_cases n : a = d
      · subst n
        rw [hu] at e
        rw [upd_same]; exact e
      · rw [upd_ne n, HnB a m n]; exact e)
    have ZnB : ∀ a ∈ B, Zn a = none := fun a m => by
      have : ∃ w, F1 a = some w := by
        by_cases n : a = d
        · exact ⟨_, by rw [n]; exact F1d⟩
        · obtain ⟨w, e⟩ := r0.there a m
          exact ⟨w, by rw [F1i a n (.inl m)]; exact e⟩
      obtain ⟨w, e⟩ := this
      rw [sn.gr.nw a w e]
      exact (h3 a (q4 a m)).1
    have l1' : StL K Zn F1 (upd Hn d u) τ σn An := l1.mono (Ex.refl _) fun a m w e => by rw [upd_ne (nd a m)]; exact e
    have l2' : StL K Zn F (upd Hn d u) τ σn An := StL.kp ef sn.gr.zz hk t1 (by
      exact l1')
    obtain ⟨w2, Bn2, y1, y2, y3, y4, y5⟩ := l2'.at hp l2
    have eB2 : Bn2 = [] := by cases y2; rfl
    subst eB2
    have BA : ∀ a ∈ B, a ∉ An := fun a m z => by
      have := (l3 a z).2
      by_cases n : a = d
      · rw [n, F1d] at this; cases this
      · obtain ⟨w, e⟩ := r0.there a m
        rw [F1i a n (.inl m), e] at this; cases this
    obtain ⟨A2, x1, x2, x3⟩ := y5 (Z' := Zn) (H' := upd Hn d u) (v' := .ref l) (o' := .loc l o) (B' := B) (Ex.refl _) (fun _ _ _ _ e => e) rB q3 fun a m z => absurd z (BA a m)
    rw [set_same u1] at x1
    have znd : Zn d = none := ZnB d hd
    refine ⟨⟨s.gr.zz.trans sn.gr.zz, fun a w e => ?_, fun a w e => ?_, fun a w e => (sn.gr.nw a w (ef a w e)).trans (s.gr.nw a w e)⟩, A2, x1, x2, fun a m => ?_⟩
    · rw [upd_ne fun z => by rw [z, fd] at e; cases e]
      exact sn.gr.hh a w (ef a w e)
    · rw [upd_ne fun z => by rw [z, znd] at e; cases e]
      exact sn.gr.zh a w e
    · rcases x3 a m with z | z
      · refine ⟨(l3 a z.1).1, ?_⟩
        have n := nd a z.1
        have := (l3 a z.1).2
        by_cases mm : a ∈ B ∨ a ∈ qs
        · cases e : F a with
          | none => rfl
          | some w =>
            have := ef a w e
            rw [(l3 a z.1).2] at this
            cases this
        · rw [F1o a n mm] at this; exact this
      · exact ⟨ZnB a z, (h3 a (q4 a z)).2⟩
end
end M
namespace M
open PySem L2 PySem.Spec PyProof.Rows
section
variable {X : Cx} {ρ : Slots} {e : Expr} {st : Stmt} {G : Go} {o : O} {pos p0 p1 p2 : Pos} {i i1 i2 j : Nat} {nm x : Str} {C l : Addr} {ns : List Str} {os : List O} {β V : Type} {g : β → O}
end
end M
namespace M
open PySem PySem.Spec PyProof.Rows
/-- each text once, in the order of their first coming -/
def dd1 (σ : List Str) (x : Str) : List Str := if σ.any (· == x) = true then σ else σ ++ [x]
def dd (xs : List Str) : List Str := xs.foldl dd1 []
section
variable {prog : Program} {w : World} {A : Around}
end
end M
namespace M
open PySem L2 PySem.Spec PyProof.Rows
section
variable {X : Cx} {ρ : Slots} {e : Expr} {p p2 q pos : Pos}
end
end M
namespace M
open PySem L2 PySem.Spec PyProof.Rows
section
variable {X : Cx} {ρ ρ' : Slots} {R R' : O → Slots} {e a b c f : Expr} {es : List Expr} {d d1 dk : D} {ds : List D} {pos p0 p1 p2 p3 p4 : Pos} {i j : Nat} {st : Stmt} {sts : List Stmt} {G : Go} {o o' : O} {nm : Str} {C l : Addr} {ns : List Str} {os : List O} {β : Type} {g : β → O} {enc : β → D} {k : Key} {ks : List Key} {y1 : β} {n : Int}
end
end M
namespace M
open PySem L2 PySem.Spec PyProof.Rows
section
variable {X : Cx} {ρ ρ' : Slots} {R R' : O → Slots} {e a b c f : Expr} {es : List Expr} {d d1 dk : D} {ds : List D} {pos p0 p1 p2 p3 p4 : Pos} {i j : Nat} {st : Stmt} {sts : List Stmt} {G : Go} {o o' : O} {nm x : Str} {C l : Addr} {ns : List Str} {os : List O} {β : Type} {g : β → O} {enc : β → D}
end
end M
namespace L2
open PySem PySem.Spec PyProof.Rows
section
variable {X : Cx} {a C fI : Addr} {bmB : List Value} {B newId initId : String} {x : Str} {e : Expr} {es : List Expr} {te ta0 : TE} {ta : TA} {p p1 p2 pos : Pos} {n : Str}
/-- C.__init__(self, ..), C a class of errors of one's own that has ValueError's -/
theorem pe_cinit {C0 : Addr} {mc : Value} {pl : Sem Bool} {xx : Str} (hg : Gl X xx) (hmC : X.mg xx = some (.ref C0)) (r : ClX.CRead X.K C0 mc) (kv : PySem.W.findCls X.K (.ref C0) mc "__init__" = some (.val (.builtin "ValueError.__init__"))) (ha : PA X (e :: es) ta) (hdb : (xx == ("__debug__" : Str)) = false := by decide)
    (he : starEach (e :: es) X.env = (false, eval e X.env) :: starEach es X.env := by rfl) (hpl : (backTo pos (starEach es X.env)).any (·.1) = false := by rfl)
    (ht : eval (.Call (.Attribute (.Name xx p1) "__init__" p2) (e :: es) [] pos) X.env = (do
      let ov ← eval (.Name xx p1) X.env
      standAt p2.atName
      let (f, first) ← holding [ov] (getMethod ov "__init__" pl)
      callWith pos f first (backTo pos (starEach (e :: es) X.env)) (backToKw pos (keywordEach [] X.env))) := by rfl) :
    PE X (.Call (.Attribute (.Name xx p1) "__init__" p2) (e :: es) [] pos) (tVeI X.K ta) := by
  refine ⟨fun pins s σ H Q I h => ?_⟩
  have hN : PE X (.Name xx p1) (tC (.ref C0)) := pe_glob (v := .ref C0) hg hmC rfl hdb
  refine PySem.W.methodCall_KW (pl := pl) (thn (hN.run pins s σ H (fun x H1 => x = .ref C0 ∧ H1 = H) I ⟨rfl, rfl⟩) fun u s1 ⟨x, H1, I1, rx, ex, eH⟩ => ?_) ht
  subst ex eH
  obtain rfl : u = Value.ref C0 := rx
  refine PySem.W.method_cls I1.kIn r.ga (PySem.W.cls_value I1.kIn r.rd kv rfl ?_)
  show wpAny _ _ (callWith pos (Value.builtin "ValueError.__init__") [] (backTo pos (starEach (e :: es) X.env)) []) _ _ _
  refine PyProof.Rows.callWith_method1 (thn (ha.run pos pins _ σ H1 _ (I1.tok _) h) fun us s1 ⟨vs, H2, I2, r1, a, C, ws, ev, hl, T, ea, q⟩ => ?_) he hpl
  subst ev
  cases r1 with
  | @cons _ u0 _ ur ra rw' =>
    obtain rfl : u0 = Value.ref a := ra
    have hlen : ur.length ≤ sizeLine := by
      rw [← Paired.length rw', sizeLine_eq]
      omega
    exact oinit_ok T I2 ea hlen fun s' J => ⟨.non, H2, J, rfl, q⟩
end
end L2
namespace M
open PySem L2 PySem.Spec PyProof.Rows
/-- what an __init__ that keeps one int promises -/
def spI19 (K : PySem.W.Frag) (fld : Str) : Sp := fun vs H Q _ => ∃ (a C : Addr) (i : Int), vs = [.ref a, .int i] ∧ OexC K C ∧ PySem.W.findIn K (.ref C) fld = some none ∧ H a = some (exo a C none) ∧ ∀ dx, H dx = none → dx ≠ a → Q .non (upd (upd H dx (exd dx [(fld, .int i)])) a (exo a C (some dx)))
/-- a class of errors whose __init__ keeps one int -/
structure XiC (P : Program) (w : World) (K : PySem.W.Frag) (mg : Str → Option Value) (base : Heap) (nm : Str) (C : Addr) (fld : Str) (k : Nat) (ps : List Str) : Prop where
  T : OexC K C
  no : PySem.W.findIn K (.ref C) fld = some none
  g : mg nm = some (.ref C)
  ex : ∃ (fI : Addr) (fd : FuncData), PySem.W.findIn K (.ref C) "__init__" = some (some (.ref fI)) ∧ PySem.W.typeIn K (.ref fI) = some (.type "function") ∧ Binds K fd ps [] ∧ FnOk P w K mg base CX0 k fI fd ps (spI19 K fld)
theorem tail_ve : ∀ l : List Value, PySem.W.excTail [.type "ValueError", .type "Exception", .type "BaseException", .type "object"] l = true → PySem.HandSPX.refsVE l = true := fun l => by
  induction l with
  | nil => exact fun h => h
  | cons v r ih =>
    intro h
    cases v <;> first | exact ih h | exact h
theorem oexB_ok {K : PySem.W.Frag} {C : Addr} (q : PySem.W.excInitIn K C [.type "ValueError", .type "Exception", .type "BaseException", .type "object"] "ValueError.__new__" = true) (hd : PySem.W.hasDictIn K C = true) (sa : PySem.W.findIn K (.ref C) "__setattr__" = some (some (.builtin "object.__setattr__"))) (xb : PySem.W.subIn K (.ref C) (.type "BaseException") = some true) (xt : PySem.W.typeIn K (.ref C) = some (.type "type")) (kC : PySem.W.keepIn K (.ref C) = true) : OexC K C := by
  refine ⟨?_, sa, xb, xt, kC⟩
  obtain ⟨cd0, hc0, hd0⟩ := PySem.W.any_some hd
  unfold PySem.W.clsIn at hc0
  unfold PySem.W.excInitIn at q
  split at q
  · rename_i dd cd sl ho
    rw [ho] at hc0
    cases hc0
    split at q
    · rename_i C' bm k0 k1 k2 k3 n k5 hm hs
      simp only [Bool.and_eq_true, beq_iff_eq, Bool.not_eq_true'] at q
      obtain ⟨⟨⟨rfl, rfl⟩, hdel⟩, ht⟩ := q
      obtain ⟨nm, bs, mro, ns, qn, hdc, sn, sub, ab, col, del⟩ := cd0
      dsimp only at hm hdel hd0
      subst hm hdel hd0
      have hsl : sl = #[k0, k1, k2, k3, some (.builtin "ValueError.__new__"), k5] := by
        obtain ⟨l⟩ := sl
        simp only at hs
        rw [hs]
      subst hsl
      exact ⟨nm, qn, ns, bs, bm, sn, sub, ab, col, dd, k0, k1, k2, k3, k5, ho, tail_ve _ ht⟩
    · cases q
  · cases q
section
variable {X : Cx} {ρ : Slots} {C E : Addr} {e : Expr} {o : O} {nm fld n : Str} {f : Option (Str × Int)} {i : Int} {p0 p1 p2 pos : Pos} {b : Bool} {T : String} {k : Nat} {ps : List Str}
theorem ExF.dict {Z H : Hp} {d : Option Addr} (z : Ex Z H) : ∀ {f : Option (Str × Int)}, ExF Z d f → ∀ dd, d = some dd → ∃ fs, H dd = some (exd dd fs)
  | none, h, dd, e => by rw [show d = none from h] at e; cases e
  | some _, ⟨_, h, q⟩, dd, e => by
    rw [h] at e
    cases e
    exact ⟨_, z _ _ q⟩
end
end M
namespace L2
open PySem PySem.Spec PyProof.Rows
section
variable {X : Cx} {a D : Addr} {oe : Obj} {d : Option Addr} {pn : List (Addr × Obj)}
/-- isinstance(e, c), e the error that the suite holds, with its dict -/
def rIsF (K : PySem.W.Frag) (D a : Addr) (d : Option Addr) : List V → Hp → VK → Prop := fun xs H Q => ∃ (c : V) (cv : Value) (b : Bool), xs = [.ref a, c] ∧ (∀ dd, d = some dd → ∃ fs, H dd = some (.xd fs)) ∧ (∀ u, RelV c u → u = cv) ∧ PySem.W.kitOne K (.ref D) cv = some b ∧ Q (.bl b) H
theorem call_isF (C : ExcC X.K D) (hz : Zc (.ref D) d oe) (hf : ∃ vs, oe.data = .fields vs) : CallR (X.suite a ((a, oe) :: pn)) (.builtin "isinstance") (rIsF X.K D a d) := by
  intro pins s σ H xs us Q I r h
  obtain ⟨c, cv, b, rfl, hd, hcv, e, q⟩ := h
  cases r with
  | cons rx rr =>
    cases rr with
    | cons rt rr =>
      cases rr
      cases rx
      have ec := hcv _ rt
      subst ec
      obtain ⟨hget, _⟩ := I.pin (a, oe) (List.mem_append.mpr (.inl List.mem_cons_self))
      obtain ⟨vs, hv⟩ := hf
      have J : ∃ od, PySem.W.InstAt s.heap a oe D od := by
        obtain ⟨oc, oda, odt, osl⟩ := oe
        obtain ⟨h1, h2⟩ := hz
        dsimp only at h1 h2 hv
        subst h1 h2 hv
        cases oda with
        | none => exact ⟨none, hget, rfl, rfl, trivial⟩
        | some dd =>
          obtain ⟨fs, hdd⟩ := hd dd rfl
          have hx : ObjOk X.prog X.w H s.heap dd (.xd fs) := I.hok dd _ hdd
          obtain ⟨mA, ⟨o, _, _, e1, _⟩, _⟩ := hx
          exact ⟨some o, hget, rfl, rfl, e1⟩
      obtain ⟨od, J⟩ := J
      have hcl : (PySem.W.clsIn X.K D).isSome = true := by
        obtain ⟨cd, hc, _⟩ := PySem.W.any_some C.hd
        rw [hc]
        rfl
      exact PySem.W.kia_one (PySem.W.kitx_exc hcl C.hg C.hk C.hs C.ha C.hn C.ht C.hm) I.kIn J e (fun z => nomatch z) fun tk => ⟨.bl b, H, I.kept (t' := tk) fun _ _ z => z, rfl, q⟩
end
end L2
namespace M
open PySem L2 PySem.Spec PyProof.Rows
def fldI (e : Er) : Option (Str × Int) := match e.fld with
  | some (f, .int i) => some (f, i)
  | _ => none
theorem ExH.dict {Z H : Hp} {d : Option Addr} (z : Ex Z H) : ∀ {f : Option (Str × Int)}, ExH Z d f → ∀ dd, d = some dd → ∃ fs, H dd = some (.xd fs)
  | none, h, dd, e => by rw [show d = none from h] at e; cases e
  | some _, ⟨_, h, q⟩, dd, e => by
    rw [h] at e
    cases e
    exact ⟨_, z _ _ q⟩
section
variable {X : Cx} {ρ : Slots} {G : Go}
theorem m_tryF {E R V : Type} {xc n : Str} {C : Addr} {i : Nat} {body suite : List Stmt} {b0 : Stmt} {np pos pos' : Pos} {out : Ou V Unit (Xr E R)} (Rn : V → Slots) (te : E → Er) (er : R → O)
    (hN : X.N.Nodup) (hi : X.N[i]? = some n) (hln : X.env.kindOf n = some .local) (hc : Names X xc (.ref C)) (hne : ∀ r e, er r ≠ .rs e) (hfi : ∀ e f dv, (te e).fld = some (f, dv) → ∃ i : Int, dv = .int i)
    (hb : ∀ (pn : List (Addr × Obj)) (xe : Value → Shared → Prop), PassesOwn (model X.prog X.w) X.A X.env xe → MS (X.tr pn xe) ρ body (goO Rn (fun _ : Unit => []) (exO te er) out))
    (kb : ∀ w, out ≠ .bk w) (kc : ∀ w, out ≠ .ct w) (kr : ∀ r, out = .rt (.ok r) → G.rt (er r))
    (hm : ∀ e, out = .rt (.er e) → PySem.W.exmOne X.K (.ref (te e).C) (.ref C) = some true)
    (hs : ∀ e, out = .rt (.er e) → ∀ (a : Addr) (oe : Obj) (d : Option Addr) (pn : List (Addr × Obj)), Zc (.ref (te e).C) d oe → (∃ vs, oe.data = .fields vs) → MS (X.suite a ((a, oe) :: pn)) ((List.replicate X.N.length none).set i (some (.fz (.hx a d (fldI (te e)))))) (b0 :: suite) { rt := fun o => G.rt o ∧ ∀ e, o ≠ .rs e })
    (kn : ∀ v τ, out = .nx v → Le τ (Rn v) → G.nx τ)
    (e1 : X.stack = X.env :: X.outer := by rfl) (e2 : X.env.frame = some X.env.locals := by rfl) : MS1 X ρ (.Try body [.ExceptHandler (some (.Name xc np)) (some n) (b0 :: suite) pos'] [] [] pos) G := .mk fun Z0 F Z σ H D s g => by
  obtain ⟨Wout, tk, kk⟩ := g.ex
  refine PS_w (ps_try_as (i := i) (tb := fun W => fun D σ H => ∀ pn xe, Takes (X.tr pn xe) W → PassesOwn (model X.prog X.w) X.A X.env xe → wS (X.tr pn xe) body D σ H)
    (ts := fun a cls d => fun D σ H => ∀ (oe : Obj) (pn : List (Addr × Obj)), Zc cls d oe → (∃ vs, oe.data = .fields vs) → wS (X.suite a ((a, oe) :: pn)) (b0 :: suite) D σ H) e1 e2 hN hi hln hc tk
    (fun W pn xe t po => ⟨fun pins s σ H D I h => h pn xe t po pins s I⟩) (fun a oe cls d pn hz hf => ⟨fun pins s σ H D I h => h oe pn hz hf pins s I⟩)) ?_
  intro pn xe t po
  refine (hb pn xe po).run Z0 F Z σ H D s ⟨fun τ Z σ H ⟨v, e, l⟩ s' => g.nx τ Z σ H (kn v τ e l) s', fun _ _ _ _ ⟨w, e, _⟩ => absurd e (kb w), fun _ _ _ _ ⟨w, e, _⟩ => absurd e (kc w), fun o v Z' H' A k g' r n => ?_, fun _ _ _ _ _ _ z => z.elim, ⟨_, t, fun e ρ' Z' σ' H' k s' => ?_⟩⟩
  · obtain ⟨x, e, rfl⟩ := k
    cases x with
    | ok x => exact g.rt _ v Z' H' A (kr x e) g' r n
    | er x => cases r
  · obtain ⟨x, eo, ex⟩ := k
    cases x with
    | ok x => exact absurd ex.symm (hne x e)
    | er x =>
      cases ex
      have step : ∀ (d : Option Addr) (Z2 H2 : Hp), Gr Z' H' Z2 H2 → ExH Z2 d (fldI (te x)) → wAs X.K (.ref C) i (fun a cls d => fun D σ H => ∀ (oe : Obj) (pn : List (Addr × Obj)), Zc cls d oe → (∃ vs, oe.data = .fields vs) → wS (X.suite a ((a, oe) :: pn)) (b0 :: suite) D σ H) Wout D (.ref (te x).C) d σ' H2 := by
        intro d Z2 H2 g2 hx
        refine ⟨true, hm x eo, fun _ a na oe pn' hz hf => ?_, fun z => nomatch z⟩
        intro pins s2 I2
        have s4 := s'.grow g2
        have ln : σ'.length = X.N.length := by
          have := I2.len
          rw [List.length_set] at this
          exact this
        have lr : ρ'.length = X.N.length := by rw [← s'.len, ln]
        have hl : i < ρ'.length := by
          rw [lr]
          exact (List.getElem?_eq_some_iff.mp hi).1
        have s3 := s4.put (v := .ref a) (Gr.refl s4.ex) (RepO.fz (.hx (a := a) hx)) .nil hl
        have le := le_blank (x := some (O.fz (.hx a d (fldI (te x))))) ρ' i
        rw [lr] at le
        exact (hs x eo a oe d pn' hz hf).run Z0 F Z2 _ H2 { nx := fun σ' H' => D.nx (σ'.set i none) H', rt := D.rt, bk := fun σ' H' => D.bk (σ'.set i none) H', ct := fun σ' H' => D.ct (σ'.set i none) H' } (s3.le le) ⟨fun _ _ _ _ z => z.elim, fun _ _ _ _ z => z.elim, fun _ _ _ _ z => z.elim, fun o v Z H A k g' r n => g.rt o v Z H A k.1 g' r n, fun _ _ _ _ _ _ z => z.elim, GX.never fun e z => z.2 e rfl⟩ pins s2 I2
      unfold Thrown
      cases hf : (te x).fld with
      | none => exact step none Z' H' (Gr.refl s'.ex) (by unfold fldI; rw [hf]; rfl)
      | some p =>
        obtain ⟨f, dv⟩ := p
        obtain ⟨i0, rfl⟩ := hfi x f dv hf
        intro dd v hdd rv
        cases rv
        exact step (some dd) _ _ (Gr.newz s'.ex hdd) (by unfold fldI; rw [hf]; exact ⟨dd, rfl, upd_same⟩)
end
section
variable {X : Cx} {ρ : Slots} {a C E : Addr} {oe : Obj} {d : Option Addr} {fo : Option (Str × Int)} {pn : List (Addr × Obj)} {i : Nat} {n nm f : Str} {p0 p1 p2 pos : Pos} {b : Bool} {T : String} {k : Int}
theorem me_isiF (c : ExcC X.K C) (hz : Zc (.ref C) d oe) (hf : ∃ vs, oe.data = .fields vs) (hg : Gl X "isinstance") (hm : X.mg "isinstance" = none) (hE : X.mg nm = some (.ref E)) (p : PE (X.suite a ((a, oe) :: pn)) (.Name n p2) (tVar i)) (hi : ρ[i]? = some (some (.fz (.hx a d fo)))) (hk : PySem.W.kitOne X.K (.ref C) (.ref E) = some b) (hgE : Gl X nm := by rfl) (hd : (nm == ("__debug__" : Str)) = false := by decide) :
    ME (X.suite a ((a, oe) :: pn)) ρ (.Call (.Name "isinstance" p0) [.Name n p2, .Name nm p1] [] pos) (.fz (.bl b)) := .mk fun Z0 F Z σ H s Q q =>
  PE_w (pe_callB (call_isF c hz hf) hg hm (by decide +kernel) (pa_cons pe_w (pa_cons (pe_glob (v := .ref E) hgE hE rfl hd) pa_nil) rfl) (he := rfl)) ((mv_var p hi).run Z0 F Z σ H s _ fun v Z1 H1 A1 g1 r1 => by
    cases r1 with
    | fz r1 =>
    cases r1 with
    | hx h => exact ⟨.ref E, .ref E, b, rfl, h.dict g1.zh, fun u r => r, hk, q _ Z1 H1 [] g1 (.fz (.bl b)) .nil⟩)
theorem me_isiFB (c : ExcC X.K C) (hz : Zc (.ref C) d oe) (hf : ∃ vs, oe.data = .fields vs) (hg : Gl X "isinstance") (hm : X.mg "isinstance" = none) (hT : PE (X.suite a ((a, oe) :: pn)) (.Name nm p1) (tC (.ty T))) (p : PE (X.suite a ((a, oe) :: pn)) (.Name n p2) (tVar i)) (hi : ρ[i]? = some (some (.fz (.hx a d fo)))) (hk : PySem.W.kitOne X.K (.ref C) (.type T) = some b) :
    ME (X.suite a ((a, oe) :: pn)) ρ (.Call (.Name "isinstance" p0) [.Name n p2, .Name nm p1] [] pos) (.fz (.bl b)) := .mk fun Z0 F Z σ H s Q q =>
  PE_w (pe_callB (call_isF c hz hf) hg hm (by decide +kernel) (pa_cons pe_w (pa_cons hT pa_nil) rfl) (he := rfl)) ((mv_var p hi).run Z0 F Z σ H s _ fun v Z1 H1 A1 g1 r1 => by
    cases r1 with
    | fz r1 =>
    cases r1 with
    | hx h => exact ⟨.ty T, .type T, b, rfl, h.dict g1.zh, fun u r => r, hk, q _ Z1 H1 [] g1 (.fz (.bl b)) .nil⟩)
/-- e.f -/
theorem me_fldH (c : XfC X.K C) (no : PySem.W.findIn X.K (.ref C) f = some none) (hz : Zc (.ref C) d oe) (hf : ∃ vs, oe.data = .fields vs) (p : PE (X.suite a ((a, oe) :: pn)) (.Name n p2) (tVar i)) (hi : ρ[i]? = some (some (.fz (.hx a d (some (f, k)))))) : ME (X.suite a ((a, oe) :: pn)) ρ (.Attribute (.Name n p2) f pos) (.fz (.int k)) := .mk fun Z0 F Z σ H s Q q =>
  PE_w (pe_xf c no hz hf pe_w) ((mv_var p hi).run Z0 F Z σ H s _ fun v Z1 H1 A1 g1 r1 => by
    cases r1 with
    | fz r1 =>
    cases r1 with
    | hx h =>
      obtain ⟨dd, rfl, q1⟩ := h
      exact ⟨rfl, rfl, dd, _, .int k, rfl, g1.zh _ _ q1, by simp [List.lookup], q _ Z1 H1 [] g1 (.fz (.int k)) .nil⟩)
end
end M
namespace M
open PySem L2 PySem.Spec PyProof.Rows
section
variable {X : Cx} {ρ : Slots} {G : Go} {C : Addr} {e : Expr} {nm fld : Str} {i : Int} {p0 pos pos' : Pos} {k : Nat} {ps : List Str}
theorem m_raiseI (c : XiC X.prog X.w X.K X.mg X.base nm C fld k ps) (he : ME X ρ e (.fz (.int i))) (hr : Room (k + 1) X.A) (kk0 : G.rt (.rs ⟨C, some (fld, .int i)⟩)) (hc : X.calm = true := by rfl) (hg : Gl X nm := by rfl) (hs : starEach [e] X.env = (false, eval e X.env) :: starEach [] X.env := by rfl) (hdb : (nm == ("__debug__" : Str)) = false := by decide) : MS1 X ρ (.Raise (some (.Call (.Name nm p0) [e] [] pos)) none pos') G := .mk fun Z0 F0 Z σ H D s gd => by
  obtain ⟨W, tk, kk⟩ := gd.ex
  obtain ⟨fI, fd, iC, tI, hb, F⟩ := c.ex
  refine PS_w (ps_raise hc tk (pmk_oex c.T iC tI F hr hb .nil pass0 hg c.g (pa_cons pe_w pa_nil hs) hdb hs)) (he.run Z0 F0 Z σ H s _ fun v Z1 H1 A g r n => ⟨by show 1 ≤ 1000; decide, fun a ha => ?_⟩)
  cases r with
  | fz r =>
  cases r
  refine ⟨a, C, i, rfl, c.T, c.no, upd_same, fun dx hdx hne => ⟨rfl, dx, [(fld, .int i)], upd_same, (by rw [upd_ne hne, upd_same]), ?_, ?_⟩⟩
  · rw [upd_ne hne] at hdx
    exact hdx
  · have hd : H1 dx = none := by
      rw [upd_ne hne] at hdx
      exact hdx
    have eH : upd (L2.del (upd (upd (upd H1 a (exo a C none)) dx (exd dx [(fld, .int i)])) a (exo a C (some dx))) a) dx (.xd [(fld, .int i)]) = upd H1 dx (.xd [(fld, .int i)]) := by
      funext b
      by_cases hbd : b = dx
      · rw [hbd, upd_same, upd_same]
      · rw [upd_ne hbd, upd_ne hbd]
        by_cases hb : b = a
        · rw [hb, L2.del_same, ha]
        · rw [L2.del_ne hb, upd_ne hb, upd_ne hbd, upd_ne hb]
    rw [eH]
    have t := kk ⟨C, some (fld, .int i)⟩ ρ Z1 σ H1 kk0 (s.grow g)
    unfold Thrown at t
    exact t dx (.int i) hd (.int i)
end
end M
namespace M
open PySem L2 PySem.Spec PyProof.Rows
section
variable {X : Cx} {ρ ρ' : Slots} {R' : O → Slots} {a b e : Expr} {bs : List Str} {k : Str} {p1 p2 p3 p4 pos : Pos} {G : Go}
end
/-- the length of a tuple -/
def lenTd : D → Option Int
  | .tup ds => some (ds.length : Int)
  | _ => none
theorem me_lenTd {X : Cx} {ρ : Slots} {a : Expr} {p0 pos : Pos} {d : D} {n : Int} (h : lenTd d = some n) (hg : Gl X "len") (hm : X.mg "len" = none) (ha : ME X ρ a (.fz d)) (n1 : NS X a := by exact fun _ => rfl) : ME X ρ (.Call (.Name "len" p0) [a] [] pos) (.fz (.int n)) := by
  cases d with
  | tup ds =>
    cases h
    exact me_lenT hg hm (MV.u (ME.v ha) (.fz _)) n1
  | _ => cases h
structure MAz (X : Cx) (ρ : Slots) (es : List Expr) (er : Er) : Prop where
  run : ∀ (Z0 F Z : Hp) (σ : L2.St) (H : Hp), StR X.K ρ Z0 F Z σ H → ∀ (W : WX), Takes X W → (∀ σ' Z' H', Gr Z0 F Z' H' → Thrown X.K W er Z' σ' H') → ∀ Q, wA X es σ H Q
section
variable {X : Cx} {ρ : Slots} {e : Expr} {es : List Expr} {er : Er} {d : D} {pos p0 : Pos} {nm : Str} {C : Addr} {ns : List Str}
theorem az_hd (h : MRz X ρ e er) (hs : starEach (e :: es) X.env = (false, eval e X.env) :: starEach es X.env := by rfl) : MAz X ρ (e :: es) er := .mk fun Z0 F Z σ H s W tk qx Q =>
  PA_w (pa_cons pe_w pa_w hs) (h.run Z0 F Z σ H s W tk qx _)
theorem mz_tup {n : Nat} (h : MAz X ρ es er) : MRz X ρ (.Tuple es n pos) er := .mk fun Z0 F Z σ H s W tk qx Q =>
  PE_w (pe_tup pa_w) (h.run Z0 F Z σ H s W tk qx _)
/-- C(.., e, ..), e raising -/
theorem mz_mkA {α : Type} {ar : α → List O} {pre : α → Prop} {res : α → List O} {k : Nat} {ps : List Str} (c : Mk1 X.prog X.w X.K X.mg X.base nm C k ps (SpI X.K C ns ar pre res)) (h : MAz X ρ (e :: es) er) (hr : Room (k + 1) X.A) (hg : Gl X nm := by rfl)
    (hdb : (nm == ("__debug__" : Str)) = false := by decide) (he : starEach (e :: es) X.env = (false, eval e X.env) :: starEach es X.env := by rfl) (hpl : (backTo pos (starEach es X.env)).any (·.1) = false := by rfl) : MRz X ρ (.Call (.Name nm p0) (e :: es) [] pos) er := by
  obtain ⟨f, fd, hm, M, hb, F⟩ := c.ex
  exact .mk fun Z0 F0 Z σ H s W tk qx Q => PE_w (pe_make M F hr hg hm hb .nil pass0 pa_w hdb he hpl) (h.run Z0 F0 Z σ H s W tk qx _)
end
end M
namespace MH
open PySem L2 PySem.Spec PyProof.Rows M
def GX (X : Cx) (Z0 F : Hp) (r : O → Prop) : Prop := ∃ W : WX, L2N.Takes X W ∧ ∀ (e : Er) (ρ : Slots) (Z : Hp) (σ : L2.St) (H : Hp), r (.rs e) → StR X.K ρ Z0 F Z σ H → Thrown X.K W e Z σ H
structure GD (X : Cx) (Z0 F : Hp) (G : Go) (D : Ends) : Prop where
  nx : ∀ ρ Z σ H, G.nx ρ → StR X.K ρ Z0 F Z σ H → D.nx σ H
  bk : ∀ ρ Z σ H, G.bk ρ → StR X.K ρ Z0 F Z σ H → D.bk σ H
  ct : ∀ ρ Z σ H, G.ct ρ → StR X.K ρ Z0 F Z σ H → D.ct σ H
  rt : ∀ o v Z H A, G.rt o → Gr Z0 F Z H → RepO X.K Z F H v o A → New F Z A → D.rt v H
  rs : ∀ o ρ v Z σ H, G.rs o ρ → StR X.K (ρ ++ [some o]) Z0 F Z (σ ++ [some v]) H → D.rt v H
  ex : GX X Z0 F G.rt
structure MS1 (X : Cx) (ρ : Slots) (st : Stmt) (G : Go) : Prop where
  run : ∀ (Z0 F Z : Hp) (σ : L2.St) (H : Hp) (D : Ends), StR X.K ρ Z0 F Z σ H → GD X Z0 F G D → wS1 X st D σ H
structure MS (X : Cx) (ρ : Slots) (sts : List Stmt) (G : Go) : Prop where
  run : ∀ (Z0 F Z : Hp) (σ : L2.St) (H : Hp) (D : Ends), StR X.K ρ Z0 F Z σ H → GD X Z0 F G D → wS X sts D σ H
def th (G : Go) (X : Cx) (sts : List Stmt) : Go := { G with nx := fun ρ => MS X ρ sts G }
section
variable {X : Cx} {ρ : Slots} {e : Expr} {es : List Expr} {st : Stmt} {sts : List Stmt} {G : Go} {o : O} {d : D} {ds : List D} {pos : Pos} {i : Nat}
theorem ms_nil (h : G.nx ρ) : MS X ρ [] G := .mk fun Z0 F Z σ H D s g => PSs_w pss_nil (g.nx ρ Z σ H h s)
theorem ms_cons (h : MS1 X ρ st (th G X sts)) : MS X ρ (st :: sts) G := .mk fun Z0 F Z σ H D s g =>
  PSs_w (pss_cons ps_w pss_w) (h.run Z0 F Z σ H _ s ⟨fun ρ' Z' σ' H' m s' => m.run Z0 F Z' σ' H' D s' g, g.bk, g.ct, g.rt, g.rs, g.ex⟩)
theorem ms_one (h : MS1 X ρ st G) : MS X ρ [st] G := .mk fun Z0 F Z σ H D s g => PSs_w (pss_one ps_w) (h.run Z0 F Z σ H _ s g)
theorem m_set (p : PS X st (tAsg (wE X e) (gName i))) (h : ME X ρ e o) (k : G.nx (ρ.set i (some o))) (hi : i < ρ.length := by exact Nat.le_of_ble_eq_true rfl) : MS1 X ρ st G := .mk fun Z0 F Z σ H D s g =>
  PS_w p (h.run Z0 F Z σ H s _ fun v Z1 H1 A g1 r n => g.nx _ Z1 _ H1 k (s.put g1 r n hi))
theorem m_ret (p : PS X st (tRet (wE X e))) (h : MR X ρ e o) (k : G.rt o) : MS1 X ρ st G := .mk fun Z0 F Z σ H D s g =>
  PS_w p (h.run Z0 F Z σ H s _ fun v Z1 H1 A g1 r n d => g.rt o v Z1 H1 A k (s.gr.trans g1) r ⟨n, fun a m => ⟨(d a m).2, (d a m).1⟩⟩)
theorem m_if {c : Expr} {a b : List Stmt} {t : Bool} (hc : MT X ρ c t) (h1 : t = true → MS X ρ a G) (h2 : t = false → MS X ρ b G) : MS1 X ρ (.If c a b pos) G := .mk fun Z0 F Z σ H D s g =>
  PS_w (ps_if pt_w pss_w pss_w) (hc.run Z0 F Z σ H s _ fun Z1 H1 g1 => by
    cases t with
    | true => exact (h1 rfl).run Z0 F Z1 σ H1 D (s.grow g1) g
    | false => exact (h2 rfl).run Z0 F Z1 σ H1 D (s.grow g1) g)
theorem m_tgt {g : TG} {ρ' : Slots} {ws : List Nat} (p : PS X st (tAsg (wE X e) g)) (h : ME X ρ e (.fz d)) (t : MTg g X.K ρ d ρ' ws) (k : G.nx ρ') : MS1 X ρ st G := .mk fun Z0 F Z σ H D s gd =>
  PS_w p (h.run Z0 F Z σ H s _ fun v Z1 H1 A g1 r n => by
    cases r with
    | fz r => exact t.run Z0 F Z1 σ H1 v (s.grow g1) r _ fun σ2 s2 _ => gd.nx ρ' Z1 σ2 H1 k s2)

theorem m_raise {C : Addr} (pm : L2N.PMk X e (fun _ H Q => Q (.ref C) none H)) (k : G.rt (.rs ⟨C, none⟩)) (hc : X.calm = true := by rfl) : MS1 X ρ (.Raise (some e) none pos) G := .mk fun Z0 F Z σ H D s gd => by
  obtain ⟨W, tk, kk⟩ := gd.ex
  exact PS_w (L2N.ps_raise hc tk pm) (kk ⟨C, none⟩ ρ Z σ H k s)
end
theorem pm_own {X : Cx} {nm m : Str} {C : Addr} {j : Nat} {p p2 pos : Pos} (c : XcC X.K X.mg nm C) (hg : Gl X nm := by rfl) (hdb : (nm == ("__debug__" : Str)) = false := by decide) : L2N.PMk X (.Call (.Name nm p) [.Constant (.str m) j p2] [] pos) (fun _ H Q => Q (.ref C) none H) :=
  L2N.pmk_own PySem.F.excBase_ValueError c.q c.g c.k (raises_own c.b c.t) hg hdb
theorem okXN {P : Program} {w : World} {K : PySem.W.Frag} {mg : Str → Option Value} {base : Heap} {x qual : Str} {st : Stmt} {f : Addr} {fd : FuncData} {N ps : List Str} {k : Nat} {sp : Sp} (F : Fun K x qual st f fd) (S : FnScope N ps (defScope st)) (len : ∀ vs H Q E, sp vs H Q E → vs.length = ps.length)
    (hbody : ∀ (cdv : Value) (A : Around) (outer : List Env) (s : Shared) (H : Hp) (vs : List V) (Q : VK) (E : XK), Room k (A.deeper (envOfC qual (defScope st) s.heap.objs.size f cdv)) → sp vs H Q E →
      ∃ t, PSs (cxOf (L2N.CX P w) P w K mg base N qual (defScope st) f cdv A outer s H E) (defBody st) t ∧ t { nx := fun _ H' => Q .non H', rt := Q } (start N vs) H) : FnOk P w K mg base (L2N.CX P w) (k + 1) f fd ps sp := by
  obtain ⟨oc, od, kV, doc, pm, an, cdv, ct, osl, rfl, lk, hcd⟩ := F.ex
  exact fn_of lk hcd S len fun A outer s H vs Q E hr hsp => hbody cdv A outer s H vs Q E hr hsp
/-- its body keeps its promise -/
theorem fn_mE {α : Type} {P : Program} {w : World} {K : PySem.W.Frag} {mg : Str → Option Value} {base : Heap} {x qual : Str} {st : Stmt} {f : Addr} {fd : FuncData} {N ps : List Str} {k : Nat} {ar : α → List O} {pre : α → Prop} {res : α → O}
    (F : Fun K x qual st f fd) (S : FnScope N ps (defScope st)) (hl : ∀ x, (ar x).length = ps.length) (hn : ∀ x, pre x → (res x).nv = true ∨ ∃ e, res x = .rs e)
    (hb : ∀ (cdv : Value) (A : Around) (outer : List Env) (s : Shared) (H : Hp) (E : XK), Room k (A.deeper (envOfC qual (defScope st) s.heap.objs.size f cdv)) →
      PassesOwn (model P w) (A.deeper (envOfC qual (defScope st) s.heap.objs.size f cdv)) (cxOf (L2N.CX P w) P w K mg base N qual (defScope st) f cdv A outer s H E).env (cxOf (L2N.CX P w) P w K mg base N qual (defScope st) f cdv A outer s H E).xe → ∀ x, pre x →
      MS (cxOf (L2N.CX P w) P w K mg base N qual (defScope st) f cdv A outer s H E) ((ar x).map some ++ List.replicate (N.length - ps.length) none) (defBody st) { nx := fun _ => res x = .fz .non, rt := fun o => o = res x }) :
    FnOk P w K mg base (L2N.CX P w) (k + 1) f fd ps (SpE K ar pre res) := by
  refine okXN F S (fun vs H Q E h => ?_) (fun cdv A outer s H vs Q E hr h => ?_)
  · obtain ⟨x, Z, _, r, _⟩ := h
    rw [r.length, hl]
  · obtain ⟨x, Z, ez, r, hp, q, qx⟩ := h
    refine ⟨_, pss_w, (hb cdv A outer s H E hr (passes_of rfl) x hp).run Z H Z _ H _ ⟨Gr.refl ez, [], ?_, List.nodup_nil, fun _ m => nomatch m⟩ ⟨fun ρ Z' σ H' e s' => ?_, fun _ _ _ _ z => z.elim, fun _ _ _ _ z => z.elim, fun o v Z' H' A e g r n => ?_, fun _ _ _ _ _ _ z => z.elim, ⟨_, L2N.takes_of rfl rfl rfl rfl, fun e ρ Z' σ H' k s' => thrown_of (qx e Z' H' k.symm s'.gr)⟩⟩⟩
    · have e : L2.start N vs = vs.map some ++ List.replicate (N.length - ps.length) none := by
        unfold L2.start
        rw [r.length, hl]
      rw [e]
      exact stL_more _ (stL_args r)
    · refine q _ Z' H' [] s'.gr ?_ .nil
      rw [e]
      exact .fz .non
    · subst e
      rcases hn x hp with hn | ⟨e, hn⟩
      · exact q _ Z' H' A g (r.unF hn) n
      · rw [hn] at r
        cases r

theorem known {P : Program} {w : World} {K : PySem.W.Frag} {mg : Str → Option Value} {base : Heap} {k : Nat} {f : Addr} {fd : FuncData} {ps : List Str} {sp sp' : Sp} (F : FnOk P w K mg base (L2N.CX P w) k f fd ps sp)
    (h : ∀ vs H Q E, sp' vs H Q E → sp vs H Q (fun _ _ _ => False)) : FnOk P w K mg base CX0 k f fd ps sp' :=
  ⟨fun vs H Q E q => F.len vs H Q _ (h _ _ _ _ q), fun A outer s H args us vs Q E hr he hb hv hs => codeAny_mono (F.run A outer s H args us vs Q _ hr he hb hv (h _ _ _ _ hs)) fun r s' q => by
    cases r with
    | ok r => cases r <;> exact q
    | error e =>
      obtain ⟨_, _, _, _, _, _, _, _, _, _, _, _, z⟩ := q
      exact z.elim⟩
structure Fn1E (P : Program) (w : World) (K : PySem.W.Frag) (mg : Str → Option Value) (base : Heap) (name : Str) (k : Nat) (ps : List Str) (sp : Sp) : Prop where
  ex : ∃ (f : Addr) (fd : FuncData), mg name = some (.ref f) ∧ PySem.W.keepIn K (.ref f) = true ∧ Binds K fd ps [] ∧ FnOk P w K mg base (L2N.CX P w) k f fd ps sp
theorem Fn1E.ok {P : Program} {w : World} {K : PySem.W.Frag} {mg : Str → Option Value} {base : Heap} {name : Str} {k : Nat} {ps : List Str} {α : Type} {ar : α → List O} {pre : α → Prop} {res : α → O} (c : Fn1E P w K mg base name k ps (SpE K ar pre res)) : Fn1 P w K mg base name k ps (SpM K ar (fun x => pre x ∧ ∀ e, res x ≠ .rs e) res) := by
  obtain ⟨f, fd, hm, hk, hb, F⟩ := c.ex
  exact ⟨f, fd, hm, hk, hb, known F fun vs H Q E ⟨x, Z, ez, r, ⟨hp, hn⟩, q⟩ => ⟨x, Z, ez, r, hp, q, fun e _ _ z => absurd z (hn e)⟩⟩
end MH
namespace M
open PySem L2 PySem.Spec PyProof.Rows L2H
/-- a class of errors whose __init__ keeps one int, made while an error is handled -/
structure XiH (P : Program) (w : World) (K : PySem.W.Frag) (mg : Str → Option Value) (base : Heap) (nm : Str) (C : Addr) (fld : Str) (k : Nat) (ps : List Str) : Prop where
  T : OexC K C
  no : PySem.W.findIn K (.ref C) fld = some none
  g : mg nm = some (.ref C)
  ex : ∃ (fI : Addr) (fd : FuncData), PySem.W.findIn K (.ref C) "__init__" = some (some (.ref fI)) ∧ PySem.W.typeIn K (.ref fI) = some (.type "function") ∧ Binds K fd ps [] ∧ FnH P w K mg base CX0 k fI fd ps (spI19 K fld)
theorem okH {P : Program} {w : World} {K : PySem.W.Frag} {mg : Str → Option Value} {base : Heap} {x qual : Str} {st : Stmt} {f : Addr} {fd : FuncData} {N ps : List Str} {k : Nat} {sp : Sp} (F : Fun K x qual st f fd) (S : FnScope N ps (defScope st)) (len : ∀ vs H Q E, sp vs H Q E → vs.length = ps.length)
    (hbody : ∀ (cdv : Value) (A : Around) (outer : List Env) (s : Shared) (H : Hp) (vs : List V) (Q : VK) (E : XK) (p : Addr × Obj), Hot1 A p → RoomH k (A.deeper (envOfC qual (defScope st) s.heap.objs.size f cdv)) → sp vs H Q E →
      ∃ t, PSs (cxH CX0 P w K mg base N qual (defScope st) f cdv A outer s H E p) (defBody st) t ∧ t { nx := fun _ H' => Q .non H', rt := Q } (L2.start N vs) H) : FnH P w K mg base CX0 (k + 1) f fd ps sp := by
  obtain ⟨oc, od, kV, doc, pm, an, cdv, ct, osl, rfl, lk, hcd⟩ := F.ex
  exact fn_ofH lk hcd S len fun A outer s H vs Q E p hot hr hsp => hbody cdv A outer s H vs Q E p hot hr hsp
section
variable {X : Cx} {ρ : Slots} {G : Go}
/-- the body raises nothing -/
theorem m_tryN {body : List Stmt} {h0 : ExceptHandler} {hs : List ExceptHandler} {pos : Pos} (hb : MS X.nox ρ body { G with rt := fun o => G.rt o ∧ ∀ e, o ≠ .rs e }) : MS1 X ρ (.Try body (h0 :: hs) [] [] pos) G := .mk fun Z0 F Z σ H D s g =>
  PS_w (ps_try_thru0 (t := wS X.nox body) pss_w) (hb.run Z0 F Z σ H D s ⟨g.nx, g.bk, g.ct, fun o v Z H A k g' r n => g.rt o v Z H A k.1 g' r n, g.rs, GX.never fun e z => z.2 e rfl⟩)
/-- the call raises what the suite turns into another error -/
theorem m_tryS {α : Type} {ar : α → List O} {pre : α → Prop} {res : α → O} {k kI i : Nat} {ps psI : List Str} {fnm v xc nm fld : Str} {e ae : Expr} {es : List Expr} {er : Er} {C D : Addr} {iv : Int} {p0 p1 p2 pos np pos' q0 q1 q2 pos2 : Pos}
    (c : MH.Fn1E X.prog X.w X.K X.mg X.base fnm k ps (SpE X.K ar pre res)) (x : α)
    (ha : ∀ (pn : List (Addr × Obj)) (xe : Value → Shared → Prop), MA (X.tr pn xe) ρ (e :: es) (ar x)) (hp : pre x) (hres : res x = .rs er) (hf : er.fld = none) (hm : PySem.W.exmOne X.K (.ref er.C) (.ref C) = some true) (hc : Names X xc (.ref C))
    (ci : XiH X.prog X.w X.K X.mg X.base nm D fld kI psI) (hae : ∀ (a : Addr) (oe : Obj) (pn : List (Addr × Obj)), ME (suiteX X a ((a, oe) :: pn)) ρ ae (.fz (.int iv))) (hpa : ∀ hd : Option Value, PassesOwnAt (model X.prog X.w) (X.A.mark hd) X.A X.env X.xe)
    (hr : Room k X.A) (hrI : Room (kI + 1) X.A) (kk0 : G.rt (.rs ⟨D, some (fld, .int iv)⟩)) (e1 : X.stack = X.env :: X.outer := by rfl) (e2 : X.env.frame = some X.env.locals := by rfl) (hg : Gl X fnm := by rfl) (hgI : Gl X nm := by rfl)
    (hdb : (fnm == ("__debug__" : Str)) = false := by decide) (hdbI : (nm == ("__debug__" : Str)) = false := by decide) (he : starEach (e :: es) X.env = (false, eval e X.env) :: starEach es X.env := by rfl) (hpl : (backTo pos (starEach es X.env)).any (·.1) = false := by rfl) (hsI : starEach [ae] X.env = (false, eval ae X.env) :: starEach [] X.env := by rfl)
    (hset : ∀ (pn : List (Addr × Obj)) (xe : Value → Shared → Prop) (t : TE), PE (X.tr pn xe) (.Call (.Name fnm p0) (e :: es) [] pos) t → PS (X.tr pn xe) (.Assign [.Name v p1] (.Call (.Name fnm p0) (e :: es) [] pos) p2) (tAsg t (gName i))) :
    MS1 X ρ (.Try [.Assign [.Name v p1] (.Call (.Name fnm p0) (e :: es) [] pos) p2] [.ExceptHandler (some (.Name xc np)) none [.Raise (some (.Call (.Name nm q0) [ae] [] q1)) none q2] pos'] [] [] pos2) G := .mk fun Z0 F Z σ H DD s g => by
  obtain ⟨W, tk, kk⟩ := g.ex
  obtain ⟨f, fd, hfm, hk, hb, FF⟩ := c.ex
  obtain ⟨fI, fdI, iC, tI, hbI, FI⟩ := ci.ex
  refine PS_w (ps_try_onlyX (x := xc) (c := .ref C) (Wout := W) e1 e2 hc hpa tk
    (tb := fun W' => fun D σ H => ∀ (pn : List (Addr × Obj)) (xe : Value → Shared → Prop), L2N.Takes (X.tr pn xe) W' → wS (X.tr pn xe) [.Assign [.Name v p1] (.Call (.Name fnm p0) (e :: es) [] pos) p2] D σ H)
    (ts := fun a cls d => fun D σ H => ∀ (oe : Obj) (pn : List (Addr × Obj)), L2N.Zn cls d oe → (∃ vs, oe.data = .fields vs) → L2.Takes (suiteX X a ((a, oe) :: pn)) W → HotC (suiteX X a ((a, oe) :: pn)) → wS (suiteX X a ((a, oe) :: pn)) [.Raise (some (.Call (.Name nm q0) [ae] [] q1)) none q2] D σ H)
    (fun W' pn xe t1 t2 po => ⟨fun pins s σ H D I h => h pn xe t1 pins s I⟩)
    (fun a oe cls d pn hz hf t hot => ⟨fun pins s σ H D I h => h oe pn hz hf t hot pins s I⟩)) ?_
  intro pn xe t1
  refine PSs_w (pss_one (hset pn xe _ (pe_callS (X := X.tr pn xe) (E := fun σ => fun c d H => wOnly X.K (.ref C) _ W DD c d σ H) FF hr hg hfm hk hb (fun σ => L2N.passAt t1 σ) pa_w hdb he hpl))) ?_
  refine (ha pn xe).run Z0 F Z σ H s _ fun vs Z1 H1 g1 r1 => ⟨x, Z1, g1.zh, r1, hp, (fun v Z2 H2 A g2 r2 n2 => by rw [hres] at r2; cases r2), (fun e' Z2 H2 z g2 => ?_)⟩
  rw [hres] at z
  cases z
  unfold ThrE Thrown
  rw [hf]
  refine ⟨true, hm, fun _ a na oe pn' hz hf' t hot => ?_, fun z => nomatch z⟩
  refine PSs_w (pss_one (ps_raiseH hot t (PMk5.pmk (pmk5_oexH ci.T iC tI FI (roomH_mark hrI _) hot hbI pass0 hgI ci.g (pa_cons pe_w pa_nil hsI) hdbI hsI)))) ?_
  have s2 := (s.grow g1).grow g2
  refine (hae a oe pn').run Z0 F Z2 σ H2 s2 _ fun v Z3 H3 A3 g3 r3 n3 => ⟨by show 1 ≤ 1000; decide, fun b hb => ?_⟩
  cases r3 with
  | fz r3 =>
  cases r3
  refine ⟨b, D, iv, rfl, ci.T, ci.no, upd_same, fun dx hdx hne => ⟨rfl, dx, [(fld, .int iv)], upd_same, (by rw [upd_ne hne, upd_same]), ?_, ?_⟩⟩
  · rw [upd_ne hne] at hdx
    exact hdx
  · have hd : H3 dx = none := by
      rw [upd_ne hne] at hdx
      exact hdx
    have eH : upd (L2.del (upd (upd (upd H3 b (exo b D none)) dx (exd dx [(fld, .int iv)])) b (exo b D (some dx))) b) dx (.xd [(fld, .int iv)]) = upd H3 dx (.xd [(fld, .int iv)]) := by
      funext y
      by_cases hbd : y = dx
      · rw [hbd, upd_same, upd_same]
      · rw [upd_ne hbd, upd_ne hbd]
        by_cases hy : y = b
        · rw [hy, L2.del_same, hb]
        · rw [L2.del_ne hy, upd_ne hy, upd_ne hbd, upd_ne hy]
    rw [eH]
    have t := kk ⟨D, some (fld, .int iv)⟩ ρ Z3 σ H3 kk0 (s2.grow g3)
    unfold Thrown at t
    exact t dx (.int iv) hd (.int iv)
end
/-- tuple(xs) -/
theorem me_tupL2 {X : Cx} {ρ : Slots} {a : Expr} {ds : List D} {p0 pos : Pos} (hg : Gl X "tuple") (hm : X.mg "tuple" = none) (ha : ML X ρ a ds) (n1 : NS X a := by exact fun _ => rfl) : ME X ρ (.Call (.Name "tuple" p0) [a] [] pos) (.tup (ds.map .fz)) := .mk fun Z0 F Z σ H s Q q =>
  PE_w (pe_callTy call_tuple_of hg hm (by decide +kernel) (pa_cons pe_w pa_nil (n1 _)) (he := n1 _)) (ha.run Z0 F Z σ H s _ fun l vs Z1 H1 g1 l1 r1 => ⟨l, vs, rfl, .inl ⟨l1, fun p hp =>
    q _ Z1 _ [p] (g1.trans (Gr.new g1.zh hp)) (.tup upd_same r1.own) (new_one (g1.hh.free hp) (g1.zh.free hp))⟩⟩)
theorem nv_tup97 (ds : List D) : (O.tup (ds.map .fz)).nv = true := O.nvL_fz _
theorem frz_tup97 (ds : List D) : (O.tup (ds.map .fz)).frz = D.tup ds := by
  show D.tup (O.frzL _) = _
  rw [O.frzL_fz]
/-- a call whose refusals of one kind become another one -/
def trS {E R S : Type} (m : Option (Xr E R)) (p : E → Bool) (k : R → Option (Xr E S)) (y : Xr E S) : Option (Xr E S) := match m with
  | some (.ok r) => k r
  | some (.er e) => if p e then some y else none
  | none => none
theorem trS_some {E R S : Type} {m : Option (Xr E R)} {p : E → Bool} {k : R → Option (Xr E S)} {y z : Xr E S} (h : trS m p k y = some z) : (∃ e, m = some (.er e) ∧ p e = true ∧ (some y : Option (Xr E S)) = some z) ∨ ∃ r, m = some (.ok r) ∧ k r = some z := by
  unfold trS at h
  cases m with
  | none => cases h
  | some x =>
    cases x with
    | ok r => exact .inr ⟨r, rfl, h⟩
    | er e =>
      have h : (if p e then some y else none) = some z := h
      by_cases e1 : p e = true
      · rw [if_pos e1] at h
        exact .inl ⟨e, rfl, e1, h⟩
      · rw [if_neg e1] at h
        cases h
end M
namespace K25
open PySem L2 M
def top (i : Nat) : Stmt := PySem.Challenge.pw_coverroll_k25_words_that_cannot_stand.main.body.getD i (.Pass ⟨0, 0, 0, 0⟩)
abbrev s_NoWords___init__ : Stmt := inClass (top 4) 0
abbrev s_is_whole : Stmt := top 9
abbrev s_all_figures : Stmt := top 10
abbrev s_read_cents : Stmt := top 11
abbrev s_CauseIs___init__ : Stmt := inClass (top 15) 0
abbrev s_ThingIs___init__ : Stmt := inClass (top 16) 0
abbrev s_DaysIn___init__ : Stmt := inClass (top 17) 0
abbrev s_Over___init__ : Stmt := inClass (top 18) 0
abbrev s_Not___init__ : Stmt := inClass (top 21) 0
abbrev s_All___init__ : Stmt := inClass (top 22) 0
abbrev s_Some___init__ : Stmt := inClass (top 23) 0
abbrev s_is_name : Stmt := top 27
abbrev s_is_day : Stmt := top 28
abbrev s_read_condition : Stmt := top 34
abbrev s_some_at : Stmt := top 35
abbrev s_all_at : Stmt := top 36
abbrev s_piece_at : Stmt := top 37
abbrev s_atom_at : Stmt := top 38
abbrev s_name_at : Stmt := top 39
abbrev s_cents_at : Stmt := top 40
abbrev s_day_at : Stmt := top 41
abbrev s__law_cell : Stmt := top 43
abbrev s__law_mix : Stmt := top 44
abbrev s__law_whole : Stmt := top 45
abbrev s__law_name : Stmt := top 46
abbrev s__law_other : Stmt := top 47
abbrev s__law_pools : Stmt := top 48
abbrev s__law_leaf : Stmt := top 49
abbrev s__law_inner : Stmt := top 50
abbrev s__law_words : Stmt := top 51
abbrev s__law_bracketed : Stmt := top 53
abbrev s__law_join : Stmt := top 54
abbrev s__law_step : Stmt := top 55
abbrev s__law_tree : Stmt := top 56
abbrev s__law_refused : Stmt := top 57
abbrev s__law_refused_at : Stmt := top 58
abbrev s__law_roles : Stmt := top 59
abbrev s__law_bad_words : Stmt := top 60
abbrev s__law_spoilt : Stmt := top 61
abbrev s__law_more : Stmt := top 62
abbrev s_law : Stmt := top 63
section
variable {P : Program} {w : World} {K : PySem.W.Frag} {mg : Str → Option Value} {base : Heap} {C_CoverError C_NoAmount C_NoWords C_TooDeep C_NoText C_Condition C_CauseIs C_ThingIs C_DaysIn C_Over C_Not C_All C_Some : Addr}
inductive Xc where
  | NoWords (i : Int) | TooDeep | NoAmount
abbrev t_Xc (C_NoWords C_TooDeep C_NoAmount : Addr) : Xc → Er
  | .NoWords i => ⟨C_NoWords, some ("at", .int i)⟩
  | .TooDeep => ⟨C_TooDeep, none⟩
  | .NoAmount => ⟨C_NoAmount, none⟩
inductive Cd where
  | plain (p : Unit)
  | cause (p : Str)
  | thing (p : Str)
  | days (p : (Int × Int))
  | over (p : Int)
  | notOf (p : Cd)
  | allOf (p : (List Cd))
  | someOf (p : (List Cd))
mutual
def u_Cd (C_Condition C_CauseIs C_ThingIs C_DaysIn C_Over C_Not C_All C_Some : Addr) : Cd → D
  | .plain p => .ins C_Condition [] []
  | .cause p => .ins C_CauseIs ["name"] [.str p]
  | .thing p => .ins C_ThingIs ["name"] [.str p]
  | .days p => .ins C_DaysIn ["first", "last"] [.int p.1, .int p.2]
  | .over p => .ins C_Over ["cents"] [.int p]
  | .notOf p => .ins C_Not ["part"] [u_Cd C_Condition C_CauseIs C_ThingIs C_DaysIn C_Over C_Not C_All C_Some p]
  | .allOf p => .ins C_All ["several"] [.lst (u_CdL C_Condition C_CauseIs C_ThingIs C_DaysIn C_Over C_Not C_All C_Some p)]
  | .someOf p => .ins C_Some ["several"] [.lst (u_CdL C_Condition C_CauseIs C_ThingIs C_DaysIn C_Over C_Not C_All C_Some p)]
def u_CdL (C_Condition C_CauseIs C_ThingIs C_DaysIn C_Over C_Not C_All C_Some : Addr) : List Cd → List D
  | [] => []
  | x :: r => u_Cd C_Condition C_CauseIs C_ThingIs C_DaysIn C_Over C_Not C_All C_Some x :: u_CdL C_Condition C_CauseIs C_ThingIs C_DaysIn C_Over C_Not C_All C_Some r
end
theorem u_CdL_map (C_Condition C_CauseIs C_ThingIs C_DaysIn C_Over C_Not C_All C_Some : Addr) : ∀ xs : List Cd, u_CdL C_Condition C_CauseIs C_ThingIs C_DaysIn C_Over C_Not C_All C_Some xs = xs.map (u_Cd C_Condition C_CauseIs C_ThingIs C_DaysIn C_Over C_Not C_All C_Some)
  | [] => rfl
  | x :: r => congrArg (u_Cd C_Condition C_CauseIs C_ThingIs C_DaysIn C_Over C_Not C_All C_Some x :: ·) (u_CdL_map C_Condition C_CauseIs C_ThingIs C_DaysIn C_Over C_Not C_All C_Some r)
abbrev r_Condition (C_Condition : Addr) (p : Unit) : D := .ins C_Condition [] []
theorem u_Cd_plain (C_Condition C_CauseIs C_ThingIs C_DaysIn C_Over C_Not C_All C_Some : Addr) (p : Unit) : u_Cd C_Condition C_CauseIs C_ThingIs C_DaysIn C_Over C_Not C_All C_Some (.plain p) = r_Condition C_Condition p := by
  show (.ins _ _ _ : D) = .ins _ _ _
  first | rfl | (simp only [u_CdL_map])
abbrev r_CauseIs (C_CauseIs : Addr) (p : Str) : D := .ins C_CauseIs ["name"] [.str p]
theorem u_Cd_cause (C_Condition C_CauseIs C_ThingIs C_DaysIn C_Over C_Not C_All C_Some : Addr) (p : Str) : u_Cd C_Condition C_CauseIs C_ThingIs C_DaysIn C_Over C_Not C_All C_Some (.cause p) = r_CauseIs C_CauseIs p := by
  show (.ins _ _ _ : D) = .ins _ _ _
  first | rfl | (simp only [u_CdL_map])
abbrev r_ThingIs (C_ThingIs : Addr) (p : Str) : D := .ins C_ThingIs ["name"] [.str p]
theorem u_Cd_thing (C_Condition C_CauseIs C_ThingIs C_DaysIn C_Over C_Not C_All C_Some : Addr) (p : Str) : u_Cd C_Condition C_CauseIs C_ThingIs C_DaysIn C_Over C_Not C_All C_Some (.thing p) = r_ThingIs C_ThingIs p := by
  show (.ins _ _ _ : D) = .ins _ _ _
  first | rfl | (simp only [u_CdL_map])
abbrev r_DaysIn (C_DaysIn : Addr) (p : (Int × Int)) : D := .ins C_DaysIn ["first", "last"] [.int p.1, .int p.2]
theorem u_Cd_days (C_Condition C_CauseIs C_ThingIs C_DaysIn C_Over C_Not C_All C_Some : Addr) (p : (Int × Int)) : u_Cd C_Condition C_CauseIs C_ThingIs C_DaysIn C_Over C_Not C_All C_Some (.days p) = r_DaysIn C_DaysIn p := by
  show (.ins _ _ _ : D) = .ins _ _ _
  first | rfl | (simp only [u_CdL_map])
abbrev r_Over (C_Over : Addr) (p : Int) : D := .ins C_Over ["cents"] [.int p]
theorem u_Cd_over (C_Condition C_CauseIs C_ThingIs C_DaysIn C_Over C_Not C_All C_Some : Addr) (p : Int) : u_Cd C_Condition C_CauseIs C_ThingIs C_DaysIn C_Over C_Not C_All C_Some (.over p) = r_Over C_Over p := by
  show (.ins _ _ _ : D) = .ins _ _ _
  first | rfl | (simp only [u_CdL_map])
abbrev r_Not (C_Not : Addr) (C_Condition C_CauseIs C_ThingIs C_DaysIn C_Over C_All C_Some : Addr) (p : Cd) : D := .ins C_Not ["part"] [(u_Cd C_Condition C_CauseIs C_ThingIs C_DaysIn C_Over C_Not C_All C_Some) p]
theorem u_Cd_notOf (C_Condition C_CauseIs C_ThingIs C_DaysIn C_Over C_Not C_All C_Some : Addr) (p : Cd) : u_Cd C_Condition C_CauseIs C_ThingIs C_DaysIn C_Over C_Not C_All C_Some (.notOf p) = r_Not C_Not C_Condition C_CauseIs C_ThingIs C_DaysIn C_Over C_All C_Some p := by
  show (.ins _ _ _ : D) = .ins _ _ _
  first | rfl | (simp only [u_CdL_map])
abbrev r_All (C_All : Addr) (C_Condition C_CauseIs C_ThingIs C_DaysIn C_Over C_Not C_Some : Addr) (p : (List Cd)) : D := .ins C_All ["several"] [.lst (p.map (u_Cd C_Condition C_CauseIs C_ThingIs C_DaysIn C_Over C_Not C_All C_Some))]
theorem u_Cd_allOf (C_Condition C_CauseIs C_ThingIs C_DaysIn C_Over C_Not C_All C_Some : Addr) (p : (List Cd)) : u_Cd C_Condition C_CauseIs C_ThingIs C_DaysIn C_Over C_Not C_All C_Some (.allOf p) = r_All C_All C_Condition C_CauseIs C_ThingIs C_DaysIn C_Over C_Not C_Some p := by
  show (.ins _ _ _ : D) = .ins _ _ _
  first | rfl | (simp only [u_CdL_map])
abbrev r_Some (C_Some : Addr) (C_Condition C_CauseIs C_ThingIs C_DaysIn C_Over C_Not C_All : Addr) (p : (List Cd)) : D := .ins C_Some ["several"] [.lst (p.map (u_Cd C_Condition C_CauseIs C_ThingIs C_DaysIn C_Over C_Not C_All C_Some))]
theorem u_Cd_someOf (C_Condition C_CauseIs C_ThingIs C_DaysIn C_Over C_Not C_All C_Some : Addr) (p : (List Cd)) : u_Cd C_Condition C_CauseIs C_ThingIs C_DaysIn C_Over C_Not C_All C_Some (.someOf p) = r_Some C_Some C_Condition C_CauseIs C_ThingIs C_DaysIn C_Over C_Not C_All p := by
  show (.ins _ _ _ : D) = .ins _ _ _
  first | rfl | (simp only [u_CdL_map])
noncomputable def M_is_whole (thing : D) : Option Bool :=
  bd (isiD "int" thing) fun k1 =>
  bd (cond k1 (bd (isiD "bool" thing) fun k2 => some (!k2)) (some false)) fun v3 =>
  some v3
def sp_is_whole (K : PySem.W.Frag) : Sp := SpF K (fun x : D => [.fz x]) (fun x => M_is_whole x) (fun r => .fz (.bl r))
abbrev N_is_whole : List Str := ["thing"]
theorem sc_is_whole : FnScope N_is_whole ["thing"] (defScope s_is_whole) := ⟨rfl, rfl, rfl, by decide +kernel, rfl, by decide +kernel, by decide +kernel⟩
theorem ok_is_whole {f : Addr} {fd : FuncData} (F : Fun K "is_whole" "is_whole" s_is_whole f fd) (z_isinstance : mg "isinstance" = none) (z_int : mg "int" = none) (z_bool : mg "bool" = none) : FnOk P w K mg base CX0 1 f fd ["thing"] (sp_is_whole K) := by
  refine fn_m F sc_is_whole (fun x => rfl) (fun x _ => rfl) fun cdv A outer s H E hr x hx => ?_
  obtain ⟨thing, r⟩ := x
  replace hx : M_is_whole thing = some r := hx
  have nd := sc_is_whole.nd
  unfold M_is_whole at hx
  show MS _ [some (.fz thing)] _ _
  replace hx := bd_some hx
  obtain ⟨k1, hk1, hx⟩ := hx
  replace hx := bd_some hx
  obtain ⟨v3, hv3, hx⟩ := hx
  refine ms_one (m_ret (ps_ret pe_w) (ME.r (ME.isB (me_and (me_isiD (T := "int") hk1 (by rfl) z_isinstance (pe_bltn (v := .ty "int") (by rfl) z_int (by decide +kernel) rfl) (mv_var (pv 0) rfl)) fun q4 => (by have hx := cond_t hv3 q4; replace hx := bd_some hx; obtain ⟨k2, hk2, hx⟩ := hx; cases hx; exact (me_one (me_not (me_isiD (T := "bool") hk2 (by rfl) z_isinstance (pe_bltn (v := .ty "bool") (by rfl) z_bool (by decide +kernel) rfl) (mv_var (pv 0) rfl)))))) (and_c hv3))) ?_)
  cases hx; rfl

noncomputable def M_all_figures (text : Str) : Option Bool :=
  bd (lpO (fun (x2 : Nat) (p1 : Unit) => (cond (!decide (x2 ∈ ("0123456789" : Str).cps.toList)) (some (.rt false)) <|
    some (.nx ()) : Option (Ou (Unit) (Unit) Bool))) text.cps.toList ()) fun o3 => ouR o3 fun p1 =>
  some true
def sp_all_figures (K : PySem.W.Frag) : Sp := SpF K (fun x : Str => [.fz (.str x)]) (fun x => M_all_figures x) (fun r => .fz (.bl r))
abbrev N_all_figures : List Str := ["text", "sign"]
theorem sc_all_figures : FnScope N_all_figures ["text"] (defScope s_all_figures) := ⟨rfl, rfl, rfl, by decide +kernel, rfl, by decide +kernel, by decide +kernel⟩
theorem ok_all_figures {f : Addr} {fd : FuncData} (F : Fun K "all_figures" "all_figures" s_all_figures f fd) (g_FIGURES_cents : mg "FIGURES_cents" = some (.str "0123456789" tkFIGURES_cents)) : FnOk P w K mg base CX0 1 f fd ["text"] (sp_all_figures K) := by
  refine fn_m F sc_all_figures (fun x => rfl) (fun x _ => rfl) fun cdv A outer s H E hr x hx => ?_
  obtain ⟨text, r⟩ := x
  replace hx : M_all_figures text = some r := hx
  have nd := sc_all_figures.nd
  unfold M_all_figures at hx
  show MS _ [some (.fz (.str text)), none] _ _
  replace hx := bd_some hx
  obtain ⟨o3, ho3, hx⟩ := hx
  refine ms_cons (m_forO (xs := text.cps.toList) (enc := (fun c => D.str ⟨#[c]⟩)) (ps_for PassesOwn.never rfl (pi_str pe_w) (pg_name (i := 1) nd rfl (Or.inl rfl)) pss_w) (by exact (mi_strT (me_var (pv 0) rfl))) ho3 (fun p1 => [some (.fz (.str text)), none]) (fun r => .fz (.bl r)) le_auto (fun x2 p1 p1o mx hx => ?_) (fun p1 τ e le => ?_) fun q e => ?_)
  ·
    refine ⟨_, _, mg_name, ?_⟩
    show MS _ [some (.fz (.str text)), some (.fz (.str (sg1 x2)))] _ _
    refine ms_one (m_if (t := (!decide (x2 ∈ ("0123456789" : Str).cps.toList))) (mt_niS (me_var (pv 1) rfl) (me_gS g_FIGURES_cents)) (fun h => ?_) fun h => ms_nil ?_)
    · replace hx := cond_t hx h
      refine ms_one (m_ret (ps_ret pe_w) (ME.r me_bl) ?_)
      cases hx; exact ⟨_, rfl, rfl⟩
    replace hx := cond_f hx h
    cases hx; exact ⟨_, rfl, le_auto⟩
  · subst e
    dsimp only [ouR] at hx
    refine ms_le le ?_
    show MS _ [some (.fz (.str text)), none] _ _
    refine ms_one (m_ret (ps_ret pe_w) (ME.r me_bl) ?_)
    cases hx; rfl
  · subst e; cases hx; rfl

noncomputable def M_read_cents (text : Str) : Option (Xr Xc Int) :=
  cond (!true) (some (.er .NoAmount)) <|
  gd (text.length ≤ sizeLine) <|
  bd (cond (((Txt.partition text ("." : Str)).2.1 == ("" : Str))) (some true) (gd (((Txt.partition text ("." : Str)).2.2).length ≤ sizeLine) <| bd (cond (!((((Txt.partition text ("." : Str)).2.2).length : Int) == 2)) (some true) (bd (M_all_figures ((Txt.partition text ("." : Str)).2.2)) fun v3 => some (!v3))) fun v4 => some v4)) fun v6 =>
  cond v6 (some (.er .NoAmount)) <|
  gd (((Txt.partition text ("." : Str)).1).length ≤ sizeLine) <|
  bd (cond (decide ((((Txt.partition text ("." : Str)).1).length : Int) < 1)) (some true) (gd (((Txt.partition text ("." : Str)).1).length ≤ sizeLine) <| bd (cond (decide (10 < (((Txt.partition text ("." : Str)).1).length : Int))) (some true) (bd (M_all_figures ((Txt.partition text ("." : Str)).1)) fun v10 => some (!v10))) fun v11 => some v11)) fun v13 =>
  cond v13 (some (.er .NoAmount)) <|
  bd (L2.atI ((Txt.partition text ("." : Str)).1).cps.toList (0 : Int)) fun c15 =>
  gd (((Txt.partition text ("." : Str)).1).length ≤ sizeLine) <|
  bd (cond (((sg1 c15) == ("0" : Str))) (gd (((Txt.partition text ("." : Str)).1).length ≤ sizeLine) <| some (decide (1 < (((Txt.partition text ("." : Str)).1).length : Int)))) (some false)) fun v18 =>
  cond v18 (some (.er .NoAmount)) <|
  bd (PySem.intText? ((Txt.partition text ("." : Str)).1)) fun n20 =>
  gd (((Txt.partition text ("." : Str)).1).length ≤ 640) <|
  bd (PySem.intText? ((Txt.partition text ("." : Str)).2.2)) fun n22 =>
  gd (((Txt.partition text ("." : Str)).2.2).length ≤ 640) <|
  some (.ok ((n20 * 100) + n22))
def sp_read_cents (K : PySem.W.Frag) (C_NoWords C_TooDeep C_NoAmount : Addr) : Sp := SpFE K (fun x : Str => [.fz (.str x)]) (fun x => M_read_cents x) (t_Xc C_NoWords C_TooDeep C_NoAmount) (fun r => .fz (.int r))
abbrev N_read_cents : List Str := ["text", "whole", "point", "part"]
theorem sc_read_cents : FnScope N_read_cents ["text"] (defScope s_read_cents) := ⟨rfl, rfl, rfl, by decide +kernel, rfl, by decide +kernel, by decide +kernel⟩
theorem ok_read_cents {f : Addr} {fd : FuncData} (F : Fun K "read_cents" "read_cents" s_read_cents f fd) (z_isinstance : mg "isinstance" = none) (z_str : mg "str" = none) (z_len : mg "len" = none) (z_int : mg "int" = none) (x_NoAmount : XcC K mg "NoAmount" C_NoAmount) (c_all_figures : Fn1 P w K mg base "all_figures" 1 ["text"] (sp_all_figures K)) : FnOk P w K mg base (L2N.CX P w) 2 f fd ["text"] (sp_read_cents K C_NoWords C_TooDeep C_NoAmount) := by
  refine MH.fn_mE F sc_read_cents (fun x => rfl) (fun x _ => exO_nv (fun _ => rfl) x.2) fun cdv A outer s H E hr po x hx => ?_
  obtain ⟨text, r⟩ := x
  replace hx : M_read_cents text = some r := hx
  have nd := sc_read_cents.nd
  unfold M_read_cents at hx
  show MH.MS _ [some (.fz (.str text)), none, none, none] _ _
  refine MH.ms_cons (MH.m_if (t := (!true)) (mt_not (mt_val (me_isi (k := true) (by rfl) z_isinstance (pe_bltn (v := .ty "str") (by rfl) z_str (by decide +kernel) rfl) (mv_var (pv 0) rfl) rfl (by decide +kernel)))) (fun h => ?_) fun h => MH.ms_nil ?_)
  · replace hx := cond_t hx h
    refine MH.ms_one (MH.m_raise (MH.pm_own x_NoAmount) ?_)
    cases hx; rfl
  replace hx := cond_f hx h
  replace hx := gd_some hx
  obtain ⟨g1, hx⟩ := hx
  refine MH.ms_cons (MH.m_tgt (ps_asg pe_w (pg_tup (n := 3) rfl (pgs_cons (pg_name (i := 1) nd rfl (Or.inl rfl)) (pgs_cons (pg_name (i := 2) nd rfl (Or.inl rfl)) (pgs_cons (pg_name (i := 3) nd rfl (Or.inl rfl)) pgs_nil))))) (me_partition (me_var (pv 0) rfl) me_str rfl g1) (mg_tup (mgs_cons mg_name (mgs_cons mg_name (mgs_cons mg_name mgs_nil))) rfl) ?_)
  show MH.MS _ [some (.fz (.str text)), some (.fz (.str ((Txt.partition text ("." : Str)).1))), some (.fz (.str ((Txt.partition text ("." : Str)).2.1))), some (.fz (.str ((Txt.partition text ("." : Str)).2.2)))] _ _
  replace hx := bd_some hx
  obtain ⟨v6, hv6, hx⟩ := hx
  refine MH.ms_cons (MH.m_if (t := v6) (MW.t (MW.is (mw_or (mt_eqS (me_var (pv 2) rfl) me_str) fun q7 => (by have hx := cond_f hv6 q7; replace hx := gd_some hx; obtain ⟨g2, hx⟩ := hx; replace hx := bd_some hx; obtain ⟨v4, hv4, hx⟩ := hx; first | (cases hx; exact (MW.is (mw_or (mt_neI (me_lenS (by rfl) z_len (me_var (pv 3) rfl) g2) me_int) fun q5 => (by have hx := cond_f hv4 q5; replace hx := bd_some hx; obtain ⟨v3, hv3, hx⟩ := hx; cases hx; exact (mw_or1 (mt_not (mt_val (me_fn c_all_figures ((Txt.partition text ("." : Str)).2.2, v3) (ma_fz (me_var (pv 3) rfl) ma_nil) hv3 (hr.mono (by decide)))))))) (or_c hv4))) | (injection hx with hx; subst hx; exact (MW.is (mw_or (mt_neI (me_lenS (by rfl) z_len (me_var (pv 3) rfl) g2) me_int) fun q5 => (by have hx := cond_f hv4 q5; replace hx := bd_some hx; obtain ⟨v3, hv3, hx⟩ := hx; cases hx; exact (mw_or1 (mt_not (mt_val (me_fn c_all_figures ((Txt.partition text ("." : Str)).2.2, v3) (ma_fz (me_var (pv 3) rfl) ma_nil) hv3 (hr.mono (by decide)))))))) (or_c hv4))))) (or_c hv6))) (fun h => ?_) fun h => MH.ms_nil ?_)
  · replace hx := cond_t hx h
    refine MH.ms_one (MH.m_raise (MH.pm_own x_NoAmount) ?_)
    cases hx; rfl
  replace hx := cond_f hx h
  replace hx := gd_some hx
  obtain ⟨g8, hx⟩ := hx
  replace hx := bd_some hx
  obtain ⟨v13, hv13, hx⟩ := hx
  refine MH.ms_cons (MH.m_if (t := v13) (MW.t (MW.is (mw_or (mt_lt (me_lenS (by rfl) z_len (me_var (pv 1) rfl) g8) me_int) fun q14 => (by have hx := cond_f hv13 q14; replace hx := gd_some hx; obtain ⟨g9, hx⟩ := hx; replace hx := bd_some hx; obtain ⟨v11, hv11, hx⟩ := hx; first | (cases hx; exact (MW.is (mw_or (mt_gt (me_lenS (by rfl) z_len (me_var (pv 1) rfl) g9) me_int) fun q12 => (by have hx := cond_f hv11 q12; replace hx := bd_some hx; obtain ⟨v10, hv10, hx⟩ := hx; cases hx; exact (mw_or1 (mt_not (mt_val (me_fn c_all_figures ((Txt.partition text ("." : Str)).1, v10) (ma_fz (me_var (pv 1) rfl) ma_nil) hv10 (hr.mono (by decide)))))))) (or_c hv11))) | (injection hx with hx; subst hx; exact (MW.is (mw_or (mt_gt (me_lenS (by rfl) z_len (me_var (pv 1) rfl) g9) me_int) fun q12 => (by have hx := cond_f hv11 q12; replace hx := bd_some hx; obtain ⟨v10, hv10, hx⟩ := hx; cases hx; exact (mw_or1 (mt_not (mt_val (me_fn c_all_figures ((Txt.partition text ("." : Str)).1, v10) (ma_fz (me_var (pv 1) rfl) ma_nil) hv10 (hr.mono (by decide)))))))) (or_c hv11))))) (or_c hv13))) (fun h => ?_) fun h => MH.ms_nil ?_)
  · replace hx := cond_t hx h
    refine MH.ms_one (MH.m_raise (MH.pm_own x_NoAmount) ?_)
    cases hx; rfl
  replace hx := cond_f hx h
  replace hx := bd_some hx
  obtain ⟨c15, hc15, hx⟩ := hx
  replace hx := gd_some hx
  obtain ⟨g16, hx⟩ := hx
  replace hx := bd_some hx
  obtain ⟨v18, hv18, hx⟩ := hx
  refine MH.ms_cons (MH.m_if (t := v18) (MW.t (MW.is (mw_and (mt_eqS (me_ixS (me_var (pv 1) rfl) me_int g16 hc15) me_str) fun q19 => (by have hx := cond_t hv18 q19; replace hx := gd_some hx; obtain ⟨g17, hx⟩ := hx; cases hx; exact (mw_and1 (mt_gt (me_lenS (by rfl) z_len (me_var (pv 1) rfl) g17) me_int)))) (and_c hv18))) (fun h => ?_) fun h => MH.ms_nil ?_)
  · replace hx := cond_t hx h
    refine MH.ms_one (MH.m_raise (MH.pm_own x_NoAmount) ?_)
    cases hx; rfl
  replace hx := cond_f hx h
  replace hx := bd_some hx
  obtain ⟨n20, hn20, hx⟩ := hx
  replace hx := gd_some hx
  obtain ⟨g21, hx⟩ := hx
  replace hx := bd_some hx
  obtain ⟨n22, hn22, hx⟩ := hx
  replace hx := gd_some hx
  obtain ⟨g23, hx⟩ := hx
  refine MH.ms_one (MH.m_ret (ps_ret pe_w) (ME.r (me_add (me_mul (me_intS (by rfl) z_int (me_var (pv 1) rfl) hn20 g21) me_int (.inr ⟨by decide, by decide⟩)) (me_intS (by rfl) z_int (me_var (pv 3) rfl) hn22 g23))) ?_)
  cases hx; rfl

noncomputable def M_is_name (thing : Str) : Option Bool :=
  cond (!true) (some false) <|
  gd (thing.length ≤ sizeLine) <|
  bd (cond (decide ((thing.length : Int) < 1)) (some true) (gd (thing.length ≤ sizeLine) <| some (decide (8 < (thing.length : Int))))) fun v3 =>
  cond v3 (some false) <|
  bd (lpO (fun (x6 : Nat) (p5 : Unit) => (cond (!decide (x6 ∈ ("abcdefghijklmnopqrstuvwxyz" : Str).cps.toList)) (some (.rt false)) <|
    some (.nx ()) : Option (Ou (Unit) (Unit) Bool))) thing.cps.toList ()) fun o7 => ouR o7 fun p5 =>
  some true
def sp_is_name (K : PySem.W.Frag) : Sp := SpF K (fun x : Str => [.fz (.str x)]) (fun x => M_is_name x) (fun r => .fz (.bl r))
abbrev N_is_name : List Str := ["thing", "sign"]
theorem sc_is_name : FnScope N_is_name ["thing"] (defScope s_is_name) := ⟨rfl, rfl, rfl, by decide +kernel, rfl, by decide +kernel, by decide +kernel⟩
theorem ok_is_name {f : Addr} {fd : FuncData} (F : Fun K "is_name" "is_name" s_is_name f fd) (z_isinstance : mg "isinstance" = none) (z_str : mg "str" = none) (z_len : mg "len" = none) (g_LETTERS : mg "LETTERS" = some (.str "abcdefghijklmnopqrstuvwxyz" tkLETTERS)) : FnOk P w K mg base CX0 1 f fd ["thing"] (sp_is_name K) := by
  refine fn_m F sc_is_name (fun x => rfl) (fun x _ => rfl) fun cdv A outer s H E hr x hx => ?_
  obtain ⟨thing, r⟩ := x
  replace hx : M_is_name thing = some r := hx
  have nd := sc_is_name.nd
  unfold M_is_name at hx
  show MS _ [some (.fz (.str thing)), none] _ _
  refine ms_cons (m_if (t := (!true)) (mt_not (mt_val (me_isi (k := true) (by rfl) z_isinstance (pe_bltn (v := .ty "str") (by rfl) z_str (by decide +kernel) rfl) (mv_var (pv 0) rfl) rfl (by decide +kernel)))) (fun h => ?_) fun h => ms_nil ?_)
  · replace hx := cond_t hx h
    refine ms_one (m_ret (ps_ret pe_w) (ME.r me_bl) ?_)
    cases hx; rfl
  replace hx := cond_f hx h
  replace hx := gd_some hx
  obtain ⟨g1, hx⟩ := hx
  replace hx := bd_some hx
  obtain ⟨v3, hv3, hx⟩ := hx
  refine ms_cons (m_if (t := v3) (MW.t (MW.is (mw_or (mt_lt (me_lenS (by rfl) z_len (me_var (pv 0) rfl) g1) me_int) fun q4 => (by have hx := cond_f hv3 q4; replace hx := gd_some hx; obtain ⟨g2, hx⟩ := hx; cases hx; exact (mw_or1 (mt_gt (me_lenS (by rfl) z_len (me_var (pv 0) rfl) g2) me_int)))) (or_c hv3))) (fun h => ?_) fun h => ms_nil ?_)
  · replace hx := cond_t hx h
    refine ms_one (m_ret (ps_ret pe_w) (ME.r me_bl) ?_)
    cases hx; rfl
  replace hx := cond_f hx h
  replace hx := bd_some hx
  obtain ⟨o7, ho7, hx⟩ := hx
  refine ms_cons (m_forO (xs := thing.cps.toList) (enc := (fun c => D.str ⟨#[c]⟩)) (ps_for PassesOwn.never rfl (pi_str pe_w) (pg_name (i := 1) nd rfl (Or.inl rfl)) pss_w) (by exact (mi_strT (me_var (pv 0) rfl))) ho7 (fun p5 => [some (.fz (.str thing)), none]) (fun r => .fz (.bl r)) le_auto (fun x6 p5 p5o mx hx => ?_) (fun p5 τ e le => ?_) fun q e => ?_)
  ·
    refine ⟨_, _, mg_name, ?_⟩
    show MS _ [some (.fz (.str thing)), some (.fz (.str (sg1 x6)))] _ _
    refine ms_one (m_if (t := (!decide (x6 ∈ ("abcdefghijklmnopqrstuvwxyz" : Str).cps.toList))) (mt_niS (me_var (pv 1) rfl) (me_gS g_LETTERS)) (fun h => ?_) fun h => ms_nil ?_)
    · replace hx := cond_t hx h
      refine ms_one (m_ret (ps_ret pe_w) (ME.r me_bl) ?_)
      cases hx; exact ⟨_, rfl, rfl⟩
    replace hx := cond_f hx h
    cases hx; exact ⟨_, rfl, le_auto⟩
  · subst e
    dsimp only [ouR] at hx
    refine ms_le le ?_
    show MS _ [some (.fz (.str thing)), none] _ _
    refine ms_one (m_ret (ps_ret pe_w) (ME.r me_bl) ?_)
    cases hx; rfl
  · subst e; cases hx; rfl

noncomputable def M_is_day (thing : Int) : Option Bool :=
  bd (M_is_whole (.int thing)) fun v1 =>
  some (v1 && (decide (0 ≤ thing) && decide (thing ≤ 1000000)))
def sp_is_day (K : PySem.W.Frag) : Sp := SpF K (fun x : Int => [.fz (.int x)]) (fun x => M_is_day x) (fun r => .fz (.bl r))
abbrev N_is_day : List Str := ["thing"]
theorem sc_is_day : FnScope N_is_day ["thing"] (defScope s_is_day) := ⟨rfl, rfl, rfl, by decide +kernel, rfl, by decide +kernel, by decide +kernel⟩
theorem ok_is_day {f : Addr} {fd : FuncData} (F : Fun K "is_day" "is_day" s_is_day f fd) (g_LAST_DAY : mg "LAST_DAY" = some (.int 1000000 tkLAST_DAY)) (c_is_whole : Fn1 P w K mg base "is_whole" 1 ["thing"] (sp_is_whole K)) : FnOk P w K mg base CX0 2 f fd ["thing"] (sp_is_day K) := by
  refine fn_m F sc_is_day (fun x => rfl) (fun x _ => rfl) fun cdv A outer s H E hr x hx => ?_
  obtain ⟨thing, r⟩ := x
  replace hx : M_is_day thing = some r := hx
  have nd := sc_is_day.nd
  unfold M_is_day at hx
  show MS _ [some (.fz (.int thing))] _ _
  replace hx := bd_some hx
  obtain ⟨v1, hv1, hx⟩ := hx
  refine ms_one (m_ret (ps_ret pe_w) (ME.r (me_and (me_fn c_is_whole ((.int thing), v1) (ma_fz (me_var (pv 0) rfl) ma_nil) hv1 (hr.mono (by decide))) fun _ => (me_one (me_chain (f := fun i j => decide (i ≤ j)) (f' := fun i j => decide (i ≤ j)) op_le op_le me_int (me_var (pv 0) rfl) (me_gI g_LAST_DAY))))) ?_)
  cases hx; rfl

noncomputable def M_CauseIs___init__ (name : Str) : Option Str :=
  some name
def sp_CauseIs___init__ (K : PySem.W.Frag) (C_CauseIs : Addr) : Sp := SpX K (fun x : ((Str) × Str) => [.fz (.str x.1)]) (fun x => M_CauseIs___init__ x.1 = some x.2) (fun l x => .at l C_CauseIs [] []) (fun l x => .at l C_CauseIs ["name"] [(.fz (.str x.2))]) (fun _ => .fz .non)
def spI_CauseIs___init__ (K : PySem.W.Frag) (C_CauseIs : Addr) : Sp := SpI K C_CauseIs ["name"] (fun x : ((Str) × Str) => [.fz (.str x.1)]) (fun x => M_CauseIs___init__ x.1 = some x.2) (fun x => [(.fz (.str x.2))])
theorem toI_CauseIs___init__ {k : Nat} {f : Addr} {fd : FuncData} {ps : List Str} {C_CauseIs : Addr} (h : FnOk P w K mg base CX0 k f fd ps (sp_CauseIs___init__ K C_CauseIs)) : FnOk P w K mg base CX0 k f fd ps (spI_CauseIs___init__ K C_CauseIs) := SpX.init (fun y => y) h (fun _ => rfl) (fun _ h => h) (fun _ _ => rfl) (fun _ _ => rfl)
abbrev N_CauseIs___init__ : List Str := ["self", "name"]
theorem sc_CauseIs___init__ : FnScope N_CauseIs___init__ ["self", "name"] (defScope s_CauseIs___init__) := ⟨rfl, rfl, rfl, by decide +kernel, rfl, by decide +kernel, by decide +kernel⟩
theorem ok_CauseIs___init__ {f : Addr} {fd : FuncData} (F : Fun K "__init__" "CauseIs.__init__" s_CauseIs___init__ f fd) (o_CauseIs : OC K C_CauseIs ["name"]) : FnOk P w K mg base CX0 1 f fd ["self", "name"] (sp_CauseIs___init__ K C_CauseIs) := by
  refine fn_mX F sc_CauseIs___init__ (fun x => rfl) (fun l x _ => rfl) (fun x _ => rfl) (fun l x => ⟨_, _, _, rfl⟩) fun cdv A outer s H E hr l x hx => ?_
  obtain ⟨name, r⟩ := x
  replace hx : M_CauseIs___init__ name = some r := hx
  have nd := sc_CauseIs___init__.nd
  unfold M_CauseIs___init__ at hx
  show MS _ [some (.at l C_CauseIs [] []), some (.fz (.str name))] _ _
  refine ms_one (m_setFldN (i := 0) (pv _) rfl o_CauseIs (me_var (pv 1) rfl) ?_)
  cases hx; exact ⟨rfl, rfl⟩

noncomputable def M_ThingIs___init__ (name : Str) : Option Str :=
  some name
def sp_ThingIs___init__ (K : PySem.W.Frag) (C_ThingIs : Addr) : Sp := SpX K (fun x : ((Str) × Str) => [.fz (.str x.1)]) (fun x => M_ThingIs___init__ x.1 = some x.2) (fun l x => .at l C_ThingIs [] []) (fun l x => .at l C_ThingIs ["name"] [(.fz (.str x.2))]) (fun _ => .fz .non)
def spI_ThingIs___init__ (K : PySem.W.Frag) (C_ThingIs : Addr) : Sp := SpI K C_ThingIs ["name"] (fun x : ((Str) × Str) => [.fz (.str x.1)]) (fun x => M_ThingIs___init__ x.1 = some x.2) (fun x => [(.fz (.str x.2))])
theorem toI_ThingIs___init__ {k : Nat} {f : Addr} {fd : FuncData} {ps : List Str} {C_ThingIs : Addr} (h : FnOk P w K mg base CX0 k f fd ps (sp_ThingIs___init__ K C_ThingIs)) : FnOk P w K mg base CX0 k f fd ps (spI_ThingIs___init__ K C_ThingIs) := SpX.init (fun y => y) h (fun _ => rfl) (fun _ h => h) (fun _ _ => rfl) (fun _ _ => rfl)
abbrev N_ThingIs___init__ : List Str := ["self", "name"]
theorem sc_ThingIs___init__ : FnScope N_ThingIs___init__ ["self", "name"] (defScope s_ThingIs___init__) := ⟨rfl, rfl, rfl, by decide +kernel, rfl, by decide +kernel, by decide +kernel⟩
theorem ok_ThingIs___init__ {f : Addr} {fd : FuncData} (F : Fun K "__init__" "ThingIs.__init__" s_ThingIs___init__ f fd) (o_ThingIs : OC K C_ThingIs ["name"]) : FnOk P w K mg base CX0 1 f fd ["self", "name"] (sp_ThingIs___init__ K C_ThingIs) := by
  refine fn_mX F sc_ThingIs___init__ (fun x => rfl) (fun l x _ => rfl) (fun x _ => rfl) (fun l x => ⟨_, _, _, rfl⟩) fun cdv A outer s H E hr l x hx => ?_
  obtain ⟨name, r⟩ := x
  replace hx : M_ThingIs___init__ name = some r := hx
  have nd := sc_ThingIs___init__.nd
  unfold M_ThingIs___init__ at hx
  show MS _ [some (.at l C_ThingIs [] []), some (.fz (.str name))] _ _
  refine ms_one (m_setFldN (i := 0) (pv _) rfl o_ThingIs (me_var (pv 1) rfl) ?_)
  cases hx; exact ⟨rfl, rfl⟩

noncomputable def M_DaysIn___init__ (first : Int) (last : Int) : Option (Int × Int) :=
  some (first, last)
def sp_DaysIn___init__ (K : PySem.W.Frag) (C_DaysIn : Addr) : Sp := SpX K (fun x : ((Int × Int) × (Int × Int)) => [.fz (.int x.1.1), .fz (.int x.1.2)]) (fun x => M_DaysIn___init__ x.1.1 x.1.2 = some x.2) (fun l x => .at l C_DaysIn [] []) (fun l x => .at l C_DaysIn ["first", "last"] [(.fz (.int x.2.1)), (.fz (.int x.2.2))]) (fun _ => .fz .non)
def spI_DaysIn___init__ (K : PySem.W.Frag) (C_DaysIn : Addr) : Sp := SpI K C_DaysIn ["first", "last"] (fun x : ((Int × Int) × (Int × Int)) => [.fz (.int x.1.1), .fz (.int x.1.2)]) (fun x => M_DaysIn___init__ x.1.1 x.1.2 = some x.2) (fun x => [(.fz (.int x.2.1)), (.fz (.int x.2.2))])
theorem toI_DaysIn___init__ {k : Nat} {f : Addr} {fd : FuncData} {ps : List Str} {C_DaysIn : Addr} (h : FnOk P w K mg base CX0 k f fd ps (sp_DaysIn___init__ K C_DaysIn)) : FnOk P w K mg base CX0 k f fd ps (spI_DaysIn___init__ K C_DaysIn) := SpX.init (fun y => y) h (fun _ => rfl) (fun _ h => h) (fun _ _ => rfl) (fun _ _ => rfl)
abbrev N_DaysIn___init__ : List Str := ["self", "first", "last"]
theorem sc_DaysIn___init__ : FnScope N_DaysIn___init__ ["self", "first", "last"] (defScope s_DaysIn___init__) := ⟨rfl, rfl, rfl, by decide +kernel, rfl, by decide +kernel, by decide +kernel⟩
theorem ok_DaysIn___init__ {f : Addr} {fd : FuncData} (F : Fun K "__init__" "DaysIn.__init__" s_DaysIn___init__ f fd) (o_DaysIn : OC K C_DaysIn ["first", "last"]) : FnOk P w K mg base CX0 1 f fd ["self", "first", "last"] (sp_DaysIn___init__ K C_DaysIn) := by
  refine fn_mX F sc_DaysIn___init__ (fun x => rfl) (fun l x _ => rfl) (fun x _ => rfl) (fun l x => ⟨_, _, _, rfl⟩) fun cdv A outer s H E hr l x hx => ?_
  obtain ⟨⟨first, last⟩, r⟩ := x
  replace hx : M_DaysIn___init__ first last = some r := hx
  have nd := sc_DaysIn___init__.nd
  unfold M_DaysIn___init__ at hx
  show MS _ [some (.at l C_DaysIn [] []), some (.fz (.int first)), some (.fz (.int last))] _ _
  refine ms_cons (m_setFldN (i := 0) (pv _) rfl o_DaysIn (me_var (pv 1) rfl) ?_)
  show MS _ [some (.at l C_DaysIn ["first"] [(.fz (.int first))]), some (.fz (.int first)), some (.fz (.int last))] _ _
  refine ms_one (m_setFldN (i := 0) (pv _) rfl o_DaysIn (me_var (pv 2) rfl) ?_)
  cases hx; exact ⟨rfl, rfl⟩

noncomputable def M_Over___init__ (cents : Int) : Option Int :=
  some cents
def sp_Over___init__ (K : PySem.W.Frag) (C_Over : Addr) : Sp := SpX K (fun x : ((Int) × Int) => [.fz (.int x.1)]) (fun x => M_Over___init__ x.1 = some x.2) (fun l x => .at l C_Over [] []) (fun l x => .at l C_Over ["cents"] [(.fz (.int x.2))]) (fun _ => .fz .non)
def spI_Over___init__ (K : PySem.W.Frag) (C_Over : Addr) : Sp := SpI K C_Over ["cents"] (fun x : ((Int) × Int) => [.fz (.int x.1)]) (fun x => M_Over___init__ x.1 = some x.2) (fun x => [(.fz (.int x.2))])
theorem toI_Over___init__ {k : Nat} {f : Addr} {fd : FuncData} {ps : List Str} {C_Over : Addr} (h : FnOk P w K mg base CX0 k f fd ps (sp_Over___init__ K C_Over)) : FnOk P w K mg base CX0 k f fd ps (spI_Over___init__ K C_Over) := SpX.init (fun y => y) h (fun _ => rfl) (fun _ h => h) (fun _ _ => rfl) (fun _ _ => rfl)
abbrev N_Over___init__ : List Str := ["self", "cents"]
theorem sc_Over___init__ : FnScope N_Over___init__ ["self", "cents"] (defScope s_Over___init__) := ⟨rfl, rfl, rfl, by decide +kernel, rfl, by decide +kernel, by decide +kernel⟩
theorem ok_Over___init__ {f : Addr} {fd : FuncData} (F : Fun K "__init__" "Over.__init__" s_Over___init__ f fd) (o_Over : OC K C_Over ["cents"]) : FnOk P w K mg base CX0 1 f fd ["self", "cents"] (sp_Over___init__ K C_Over) := by
  refine fn_mX F sc_Over___init__ (fun x => rfl) (fun l x _ => rfl) (fun x _ => rfl) (fun l x => ⟨_, _, _, rfl⟩) fun cdv A outer s H E hr l x hx => ?_
  obtain ⟨cents, r⟩ := x
  replace hx : M_Over___init__ cents = some r := hx
  have nd := sc_Over___init__.nd
  unfold M_Over___init__ at hx
  show MS _ [some (.at l C_Over [] []), some (.fz (.int cents))] _ _
  refine ms_one (m_setFldN (i := 0) (pv _) rfl o_Over (me_var (pv 1) rfl) ?_)
  cases hx; exact ⟨rfl, rfl⟩

noncomputable def M_Not___init__ (part : Cd) : Option Cd :=
  some part
def sp_Not___init__ (K : PySem.W.Frag) (C_Not C_Condition C_CauseIs C_ThingIs C_DaysIn C_Over C_All C_Some : Addr) : Sp := SpX K (fun x : ((Cd) × Cd) => [.fz ((u_Cd C_Condition C_CauseIs C_ThingIs C_DaysIn C_Over C_Not C_All C_Some) x.1)]) (fun x => M_Not___init__ x.1 = some x.2) (fun l x => .at l C_Not [] []) (fun l x => .at l C_Not ["part"] [(.fz ((u_Cd C_Condition C_CauseIs C_ThingIs C_DaysIn C_Over C_Not C_All C_Some) x.2))]) (fun _ => .fz .non)
def spI_Not___init__ (K : PySem.W.Frag) (C_Not C_Condition C_CauseIs C_ThingIs C_DaysIn C_Over C_All C_Some : Addr) : Sp := SpI K C_Not ["part"] (fun x : ((Cd) × Cd) => [.fz ((u_Cd C_Condition C_CauseIs C_ThingIs C_DaysIn C_Over C_Not C_All C_Some) x.1)]) (fun x => M_Not___init__ x.1 = some x.2) (fun x => [(.fz ((u_Cd C_Condition C_CauseIs C_ThingIs C_DaysIn C_Over C_Not C_All C_Some) x.2))])
theorem toI_Not___init__ {k : Nat} {f : Addr} {fd : FuncData} {ps : List Str} {C_Not C_Condition C_CauseIs C_ThingIs C_DaysIn C_Over C_All C_Some : Addr} (h : FnOk P w K mg base CX0 k f fd ps (sp_Not___init__ K C_Not C_Condition C_CauseIs C_ThingIs C_DaysIn C_Over C_All C_Some)) : FnOk P w K mg base CX0 k f fd ps (spI_Not___init__ K C_Not C_Condition C_CauseIs C_ThingIs C_DaysIn C_Over C_All C_Some) := SpX.init (fun y => y) h (fun _ => rfl) (fun _ h => h) (fun _ _ => rfl) (fun _ _ => rfl)
abbrev N_Not___init__ : List Str := ["self", "part"]
theorem sc_Not___init__ : FnScope N_Not___init__ ["self", "part"] (defScope s_Not___init__) := ⟨rfl, rfl, rfl, by decide +kernel, rfl, by decide +kernel, by decide +kernel⟩
theorem ok_Not___init__ {f : Addr} {fd : FuncData} (F : Fun K "__init__" "Not.__init__" s_Not___init__ f fd) (o_Not : OC K C_Not ["part"]) : FnOk P w K mg base CX0 1 f fd ["self", "part"] (sp_Not___init__ K C_Not C_Condition C_CauseIs C_ThingIs C_DaysIn C_Over C_All C_Some) := by
  refine fn_mX F sc_Not___init__ (fun x => rfl) (fun l x _ => rfl) (fun x _ => rfl) (fun l x => ⟨_, _, _, rfl⟩) fun cdv A outer s H E hr l x hx => ?_
  obtain ⟨part, r⟩ := x
  replace hx : M_Not___init__ part = some r := hx
  have nd := sc_Not___init__.nd
  unfold M_Not___init__ at hx
  show MS _ [some (.at l C_Not [] []), some (.fz ((u_Cd C_Condition C_CauseIs C_ThingIs C_DaysIn C_Over C_Not C_All C_Some) part))] _ _
  refine ms_one (m_setFldN (i := 0) (pv _) rfl o_Not (me_var (pv 1) rfl) ?_)
  cases hx; exact ⟨rfl, rfl⟩

noncomputable def M_All___init__ (several : (List Cd)) : Option (List Cd) :=
  some several
def sp_All___init__ (K : PySem.W.Frag) (C_All C_Condition C_CauseIs C_ThingIs C_DaysIn C_Over C_Not C_Some : Addr) : Sp := SpX K (fun x : (((List Cd)) × (List Cd)) => [.vw (x.1.map (u_Cd C_Condition C_CauseIs C_ThingIs C_DaysIn C_Over C_Not C_All C_Some))]) (fun x => M_All___init__ x.1 = some x.2) (fun l x => .at l C_All [] []) (fun l x => .at l C_All ["several"] [(.lst ((x.2.map (u_Cd C_Condition C_CauseIs C_ThingIs C_DaysIn C_Over C_Not C_All C_Some)).map .fz))]) (fun _ => .fz .non)
def spI_All___init__ (K : PySem.W.Frag) (C_All C_Condition C_CauseIs C_ThingIs C_DaysIn C_Over C_Not C_Some : Addr) : Sp := SpI K C_All ["several"] (fun x : (((List Cd)) × (List Cd)) => [.vw (x.1.map (u_Cd C_Condition C_CauseIs C_ThingIs C_DaysIn C_Over C_Not C_All C_Some))]) (fun x => M_All___init__ x.1 = some x.2) (fun x => [(.lst ((x.2.map (u_Cd C_Condition C_CauseIs C_ThingIs C_DaysIn C_Over C_Not C_All C_Some)).map .fz))])
theorem toI_All___init__ {k : Nat} {f : Addr} {fd : FuncData} {ps : List Str} {C_All C_Condition C_CauseIs C_ThingIs C_DaysIn C_Over C_Not C_Some : Addr} (h : FnOk P w K mg base CX0 k f fd ps (sp_All___init__ K C_All C_Condition C_CauseIs C_ThingIs C_DaysIn C_Over C_Not C_Some)) : FnOk P w K mg base CX0 k f fd ps (spI_All___init__ K C_All C_Condition C_CauseIs C_ThingIs C_DaysIn C_Over C_Not C_Some) := SpX.init (fun y => y) h (fun _ => rfl) (fun _ h => h) (fun _ _ => rfl) (fun _ _ => rfl)
abbrev N_All___init__ : List Str := ["self", "several"]
theorem sc_All___init__ : FnScope N_All___init__ ["self", "several"] (defScope s_All___init__) := ⟨rfl, rfl, rfl, by decide +kernel, rfl, by decide +kernel, by decide +kernel⟩
theorem ok_All___init__ {f : Addr} {fd : FuncData} (F : Fun K "__init__" "All.__init__" s_All___init__ f fd) (z_list : mg "list" = none) (o_All : OC K C_All ["several"]) : FnOk P w K mg base CX0 1 f fd ["self", "several"] (sp_All___init__ K C_All C_Condition C_CauseIs C_ThingIs C_DaysIn C_Over C_Not C_Some) := by
  refine fn_mX F sc_All___init__ (fun x => rfl) (fun l x _ => by simp only [O.nv, O.nvL, O.nvL_fz, Bool.and_self]) (fun x _ => rfl) (fun l x => ⟨_, _, _, rfl⟩) fun cdv A outer s H E hr l x hx => ?_
  obtain ⟨several, r⟩ := x
  replace hx : M_All___init__ several = some r := hx
  have nd := sc_All___init__.nd
  unfold M_All___init__ at hx
  show MS _ [some (.at l C_All [] []), some (.vw (several.map (u_Cd C_Condition C_CauseIs C_ThingIs C_DaysIn C_Over C_Not C_All C_Some)))] _ _
  refine ms_one (m_setFldN (i := 0) (pv _) rfl o_All (me_list (ds := several.map (u_Cd C_Condition C_CauseIs C_ThingIs C_DaysIn C_Over C_Not C_All C_Some)) (by rfl) z_list (ml_var (pv 1) rfl)) ?_)
  cases hx; exact ⟨rfl, rfl⟩

noncomputable def M_Some___init__ (several : (List Cd)) : Option (List Cd) :=
  some several
def sp_Some___init__ (K : PySem.W.Frag) (C_Some C_Condition C_CauseIs C_ThingIs C_DaysIn C_Over C_Not C_All : Addr) : Sp := SpX K (fun x : (((List Cd)) × (List Cd)) => [.vw (x.1.map (u_Cd C_Condition C_CauseIs C_ThingIs C_DaysIn C_Over C_Not C_All C_Some))]) (fun x => M_Some___init__ x.1 = some x.2) (fun l x => .at l C_Some [] []) (fun l x => .at l C_Some ["several"] [(.lst ((x.2.map (u_Cd C_Condition C_CauseIs C_ThingIs C_DaysIn C_Over C_Not C_All C_Some)).map .fz))]) (fun _ => .fz .non)
def spI_Some___init__ (K : PySem.W.Frag) (C_Some C_Condition C_CauseIs C_ThingIs C_DaysIn C_Over C_Not C_All : Addr) : Sp := SpI K C_Some ["several"] (fun x : (((List Cd)) × (List Cd)) => [.vw (x.1.map (u_Cd C_Condition C_CauseIs C_ThingIs C_DaysIn C_Over C_Not C_All C_Some))]) (fun x => M_Some___init__ x.1 = some x.2) (fun x => [(.lst ((x.2.map (u_Cd C_Condition C_CauseIs C_ThingIs C_DaysIn C_Over C_Not C_All C_Some)).map .fz))])
theorem toI_Some___init__ {k : Nat} {f : Addr} {fd : FuncData} {ps : List Str} {C_Some C_Condition C_CauseIs C_ThingIs C_DaysIn C_Over C_Not C_All : Addr} (h : FnOk P w K mg base CX0 k f fd ps (sp_Some___init__ K C_Some C_Condition C_CauseIs C_ThingIs C_DaysIn C_Over C_Not C_All)) : FnOk P w K mg base CX0 k f fd ps (spI_Some___init__ K C_Some C_Condition C_CauseIs C_ThingIs C_DaysIn C_Over C_Not C_All) := SpX.init (fun y => y) h (fun _ => rfl) (fun _ h => h) (fun _ _ => rfl) (fun _ _ => rfl)
abbrev N_Some___init__ : List Str := ["self", "several"]
theorem sc_Some___init__ : FnScope N_Some___init__ ["self", "several"] (defScope s_Some___init__) := ⟨rfl, rfl, rfl, by decide +kernel, rfl, by decide +kernel, by decide +kernel⟩
theorem ok_Some___init__ {f : Addr} {fd : FuncData} (F : Fun K "__init__" "Some.__init__" s_Some___init__ f fd) (z_list : mg "list" = none) (o_Some : OC K C_Some ["several"]) : FnOk P w K mg base CX0 1 f fd ["self", "several"] (sp_Some___init__ K C_Some C_Condition C_CauseIs C_ThingIs C_DaysIn C_Over C_Not C_All) := by
  refine fn_mX F sc_Some___init__ (fun x => rfl) (fun l x _ => by simp only [O.nv, O.nvL, O.nvL_fz, Bool.and_self]) (fun x _ => rfl) (fun l x => ⟨_, _, _, rfl⟩) fun cdv A outer s H E hr l x hx => ?_
  obtain ⟨several, r⟩ := x
  replace hx : M_Some___init__ several = some r := hx
  have nd := sc_Some___init__.nd
  unfold M_Some___init__ at hx
  show MS _ [some (.at l C_Some [] []), some (.vw (several.map (u_Cd C_Condition C_CauseIs C_ThingIs C_DaysIn C_Over C_Not C_All C_Some)))] _ _
  refine ms_one (m_setFldN (i := 0) (pv _) rfl o_Some (me_list (ds := several.map (u_Cd C_Condition C_CauseIs C_ThingIs C_DaysIn C_Over C_Not C_All C_Some)) (by rfl) z_list (ml_var (pv 1) rfl)) ?_)
  cases hx; exact ⟨rfl, rfl⟩


abbrev TK_lwords : Type := (D × Int → Option (List Str)) × (D → Option (List Str))
noncomputable def M__law_inner (r : TK_lwords) (tree_here : D) (least : Int) : Option (List Str) :=
  bd (ixD tree_here (0 : Int)) fun v1 =>
  bd (asS v1) fun v2 =>
  cond (decide ((dgI [(("all" : Str), (2 : Int)), (("some" : Str), (1 : Int))] v2 (3 : Int)) < least)) (bd (r.2 tree_here) fun v3 =>
    gd ([("(" : Str)].length + v3.length ≤ sizeLine) <|
    gd ((([("(" : Str)] ++ v3)).length + [(")" : Str)].length ≤ sizeLine) <|
    some (([("(" : Str)] ++ v3) ++ [(")" : Str)])) <|
  bd (r.2 tree_here) fun v6 =>
  some v6
noncomputable def M__law_words (r : TK_lwords) (tree_here : D) : Option (List Str) :=
  bd (ixD tree_here (0 : Int)) fun v1 =>
  gd (D.ok v1 ∧ D.ok (.str ("always" : Str))) <|
  cond ((D.eqv v1 (.str ("always" : Str)))) (some [("always" : Str)]) <|
  gd (D.ok v1 ∧ D.ok (.str ("cause" : Str))) <|
  bd (cond ((D.eqv v1 (.str ("cause" : Str)))) (some true) (gd (D.ok v1 ∧ D.ok (.str ("thing" : Str))) <| some ((D.eqv v1 (.str ("thing" : Str)))))) fun v5 =>
  cond v5 (bd (ixD tree_here (1 : Int)) fun v7 =>
    bd (asS v1) fun v8 =>
    bd (asS v7) fun v9 =>
    some [v8, v9]) <|
  gd (D.ok v1 ∧ D.ok (.str ("days" : Str))) <|
  cond ((D.eqv v1 (.str ("days" : Str)))) (bd (ixD tree_here (1 : Int)) fun v11 =>
    bd (asI v11) fun v12 =>
    gd (v12.natAbs.log2 < 1920) <|
    bd (ixD tree_here (2 : Int)) fun v14 =>
    bd (asI v14) fun v15 =>
    gd (v15.natAbs.log2 < 1920) <|
    some [("days" : Str), (strI v12), (strI v15)]) <|
  gd (D.ok v1 ∧ D.ok (.str ("over" : Str))) <|
  cond ((D.eqv v1 (.str ("over" : Str)))) (bd (ixD tree_here (1 : Int)) fun v18 =>
    bd (asI v18) fun v19 =>
    gd ((v19 / 100).natAbs.log2 < 1920) <|
    gd ((strI (v19 / 100)).length + ("." : Str).length ≤ sizeLine) <|
    bd (ixD tree_here (1 : Int)) fun v22 =>
    bd (asI v22) fun v23 =>
    gd (((v23 / 10) % 10).natAbs.log2 < 1920) <|
    gd (((strI (v19 / 100)) ++ ("." : Str)).length + (strI ((v23 / 10) % 10)).length ≤ sizeLine) <|
    bd (ixD tree_here (1 : Int)) fun v26 =>
    bd (asI v26) fun v27 =>
    gd ((v27 % 10).natAbs.log2 < 1920) <|
    gd ((((strI (v19 / 100)) ++ ("." : Str)) ++ (strI ((v23 / 10) % 10))).length + (strI (v27 % 10)).length ≤ sizeLine) <|
    some [("over" : Str), ((((strI (v19 / 100)) ++ ("." : Str)) ++ (strI ((v23 / 10) % 10))) ++ (strI (v27 % 10)))]) <|
  gd (D.ok v1 ∧ D.ok (.str ("not" : Str))) <|
  cond ((D.eqv v1 (.str ("not" : Str)))) (bd (ixD tree_here (1 : Int)) fun v31 =>
    bd (r.1 (v31, 3)) fun v32 =>
    gd ([("not" : Str)].length + v32.length ≤ sizeLine) <|
    some ([("not" : Str)] ++ v32)) <|
  lt ([] : List Str) fun found =>
  bd (ixD tree_here (1 : Int)) fun v34 =>
  bd (asLD v34) fun l35 =>
  bd (lp (fun (x37 : D) (p36 : (List Str)) => (gd (D.ok (.lst (p36.map D.str)) ∧ D.ok (.lst (([] : List Str).map D.str))) <|
    bd (cond (!(D.eqv (.lst (p36.map D.str)) (.lst (([] : List Str).map D.str)))) (bd (asS v1) fun v41 =>
      bd (dgT [(("all" : Str), ("and" : Str)), (("some" : Str), ("or" : Str))] v41) fun v42 =>
      gd (p36.length + [v42].length ≤ sizeLine) <|
      lt (p36 ++ [v42]) fun found_1 =>
      some found_1) (some p36) : Option ((List Str))) fun p40 =>
    gd (D.ok v1 ∧ D.ok (.str ("all" : Str))) <|
    bd (L2.atI [2, 3] (if ((D.eqv v1 (.str ("all" : Str)))) then 1 else 0)) fun v45 =>
    bd (r.1 (x37, v45)) fun v46 =>
    gd (p40.length + v46.length ≤ sizeLine) <|
    lt (p40 ++ v46) fun found_2 =>
    some found_2 : Option ((List Str)))) l35 found) fun p38 =>
  some p38
noncomputable def Kn_lwords : Nat → TK_lwords
  | 0 => (fun _ => none, fun _ => none)
  | n + 1 => let r := Kn_lwords n; (fun x => M__law_inner r x.1 x.2, fun x => M__law_words r x)
noncomputable def Mf__law_inner (n : Nat) (x0 : D) (x1 : Int) := (Kn_lwords n).1 (x0, x1)
noncomputable def Mf__law_words (n : Nat) (x0 : D) := (Kn_lwords n).2 x0
def sp__law_inner (K : PySem.W.Frag) (n : Nat) : Sp := SpF K (fun x : D × Int => [.fz x.1, .fz (.int x.2)]) (fun x => Mf__law_inner n x.1 x.2) (fun r => .lst ((r.map D.str).map .fz))
def sp__law_words (K : PySem.W.Frag) (n : Nat) : Sp := SpF K (fun x : D => [.fz x]) (fun x => Mf__law_words n x) (fun r => .lst ((r.map D.str).map .fz))
abbrev N__law_inner : List Str := ["_law_tree_here", "_law_least"]
theorem sc__law_inner : FnScope N__law_inner ["_law_tree_here", "_law_least"] (defScope s__law_inner) := ⟨rfl, rfl, rfl, by decide +kernel, rfl, by decide +kernel, by decide +kernel⟩
theorem ok__law_inner {f : Addr} {fd : FuncData} (n : Nat) (F : Fun K "_law_inner" "_law_inner" s__law_inner f fd) (c__law_words : Fn1 P w K mg base "_law_words" (0 + n) ["_law_tree_here"] (sp__law_words K n)) : FnOk P w K mg base CX0 (0 + n + 1) f fd ["_law_tree_here", "_law_least"] (sp__law_inner K (n + 1)) := by
  refine fn_m F sc__law_inner (fun x => rfl) (fun x _ => O.nvL_fz _) fun cdv A outer s H E hr x hx => ?_
  obtain ⟨⟨tree_here, least⟩, r⟩ := x
  replace hx : M__law_inner (Kn_lwords n) tree_here least = some r := hx
  have nd := sc__law_inner.nd
  unfold M__law_inner at hx
  show MS _ [some (.fz tree_here), some (.fz (.int least))] _ _
  replace hx := bd_some hx
  obtain ⟨v1, hv1, hx⟩ := hx
  replace hx := bd_some hx
  obtain ⟨v2, hv2, hx⟩ := hx
  refine ms_cons (m_if (t := (decide ((dgI [(("all" : Str), (2 : Int)), (("some" : Str), (1 : Int))] v2 (3 : Int)) < least))) (mt_lt (me_dget (kvs := [(("all" : Str), (2 : Int)), (("some" : Str), (1 : Int))]) hr.units (mps_cons (mps_cons mps_nil)) (ME.is (o' := .fz (.str v2)) (me_ixD hv1 (me_var (pv 0) rfl) me_int) (asS_is hv2)) me_int) (me_var (pv 1) rfl)) (fun h => ?_) fun h => ms_nil ?_)
  · replace hx := cond_t hx h
    replace hx := bd_some hx
    obtain ⟨v3, hv3, hx⟩ := hx
    replace hx := gd_some hx
    obtain ⟨g4, hx⟩ := hx
    replace hx := gd_some hx
    obtain ⟨g5, hx⟩ := hx
    refine ms_one (m_ret (ps_ret pe_w) (ME.r (me_catLT (xs := ([("(" : Str)] ++ v3)) (ys := [(")" : Str)]) (enc := D.str) g5 (ME.v (me_catLT (xs := [("(" : Str)]) (ys := v3) (enc := D.str) g4 (ME.v (me_lst (ds := [("(" : Str)].map D.str) (mf_cons me_str mf_nil))) (ME.v (me_fn c__law_words (tree_here, v3) (ma_fz (me_var (pv 0) rfl) ma_nil) hv3 (hr.mono (by omega)))))) (ME.v (me_lst (ds := [(")" : Str)].map D.str) (mf_cons me_str mf_nil))))) ?_)
    cases hx; rfl
  replace hx := cond_f hx h
  replace hx := bd_some hx
  obtain ⟨v6, hv6, hx⟩ := hx
  refine ms_one (m_ret (ps_ret pe_w) (ME.r (me_fn c__law_words (tree_here, v6) (ma_fz (me_var (pv 0) rfl) ma_nil) hv6 (hr.mono (by omega)))) ?_)
  cases hx; rfl

abbrev N__law_words : List Str := ["_law_tree_here", "_law_kind", "_law_found", "_law_part"]
theorem sc__law_words : FnScope N__law_words ["_law_tree_here"] (defScope s__law_words) := ⟨rfl, rfl, rfl, by decide +kernel, rfl, by decide +kernel, by decide +kernel⟩
theorem ok__law_words {f : Addr} {fd : FuncData} (n : Nat) (F : Fun K "_law_words" "_law_words" s__law_words f fd) (z_str : mg "str" = none) (z_int : mg "int" = none) (c__law_inner : Fn1 P w K mg base "_law_inner" (0 + n) ["_law_tree_here", "_law_least"] (sp__law_inner K n)) : FnOk P w K mg base CX0 (0 + n + 1) f fd ["_law_tree_here"] (sp__law_words K (n + 1)) := by
  refine fn_m F sc__law_words (fun x => rfl) (fun x _ => O.nvL_fz _) fun cdv A outer s H E hr x hx => ?_
  obtain ⟨tree_here, r⟩ := x
  replace hx : M__law_words (Kn_lwords n) tree_here = some r := hx
  have nd := sc__law_words.nd
  unfold M__law_words at hx
  show MS _ [some (.fz tree_here), none, none, none] _ _
  replace hx := bd_some hx
  obtain ⟨v1, hv1, hx⟩ := hx
  refine ms_cons (m_set (ps_set (i := 1) nd rfl (Or.inl rfl) pe_w) (me_ixD hv1 (me_var (pv 0) rfl) me_int) ?_)
  show MS _ [some (.fz tree_here), some (.fz v1), none, none] _ _
  replace hx := gd_some hx
  obtain ⟨g2, hx⟩ := hx
  refine ms_cons (m_if (t := ((D.eqv v1 (.str ("always" : Str))))) (mt_eqDT (d1 := v1) (d2 := (.str ("always" : Str))) hr.units g2 rfl rfl (ME.v (me_var (pv 1) rfl)) (ME.v me_str)) (fun h => ?_) fun h => ms_nil ?_)
  · replace hx := cond_t hx h
    refine ms_one (m_ret (ps_ret pe_w) (ME.r (me_lst (ds := [("always" : Str)].map D.str) (mf_cons me_str mf_nil))) ?_)
    cases hx; rfl
  replace hx := cond_f hx h
  replace hx := gd_some hx
  obtain ⟨g3, hx⟩ := hx
  replace hx := bd_some hx
  obtain ⟨v5, hv5, hx⟩ := hx
  refine ms_cons (m_if (t := v5) (MW.t (MW.is (mw_or (mt_eqDT (d1 := v1) (d2 := (.str ("cause" : Str))) hr.units g3 rfl rfl (ME.v (me_var (pv 1) rfl)) (ME.v me_str)) fun q6 => (by have hx := cond_f hv5 q6; replace hx := gd_some hx; obtain ⟨g4, hx⟩ := hx; cases hx; exact (mw_or1 (mt_eqDT (d1 := v1) (d2 := (.str ("thing" : Str))) hr.units g4 rfl rfl (ME.v (me_var (pv 1) rfl)) (ME.v me_str))))) (or_c hv5))) (fun h => ?_) fun h => ms_nil ?_)
  · replace hx := cond_t hx h
    replace hx := bd_some hx
    obtain ⟨v7, hv7, hx⟩ := hx
    replace hx := bd_some hx
    obtain ⟨v8, hv8, hx⟩ := hx
    replace hx := bd_some hx
    obtain ⟨v9, hv9, hx⟩ := hx
    refine ms_one (m_ret (ps_ret pe_w) (ME.r (me_lst (ds := [v8, v9].map D.str) (mf_cons (ME.is (o' := .fz (.str v8)) (me_var (pv 1) rfl) (asS_is hv8)) (mf_cons (ME.is (o' := .fz (.str v9)) (me_ixD hv7 (me_var (pv 0) rfl) me_int) (asS_is hv9)) mf_nil)))) ?_)
    cases hx; rfl
  replace hx := cond_f hx h
  replace hx := gd_some hx
  obtain ⟨g10, hx⟩ := hx
  refine ms_cons (m_if (t := ((D.eqv v1 (.str ("days" : Str))))) (mt_eqDT (d1 := v1) (d2 := (.str ("days" : Str))) hr.units g10 rfl rfl (ME.v (me_var (pv 1) rfl)) (ME.v me_str)) (fun h => ?_) fun h => ms_nil ?_)
  · replace hx := cond_t hx h
    replace hx := bd_some hx
    obtain ⟨v11, hv11, hx⟩ := hx
    replace hx := bd_some hx
    obtain ⟨v12, hv12, hx⟩ := hx
    replace hx := gd_some hx
    obtain ⟨g13, hx⟩ := hx
    replace hx := bd_some hx
    obtain ⟨v14, hv14, hx⟩ := hx
    replace hx := bd_some hx
    obtain ⟨v15, hv15, hx⟩ := hx
    replace hx := gd_some hx
    obtain ⟨g16, hx⟩ := hx
    refine ms_one (m_ret (ps_ret pe_w) (ME.r (me_lst (ds := [("days" : Str), (strI v12), (strI v15)].map D.str) (mf_cons me_str (mf_cons (me_strI (by rfl) z_str (ME.is (o' := .fz (.int v12)) (me_ixD hv11 (me_var (pv 0) rfl) me_int) (asI_is hv12)) g13) (mf_cons (me_strI (by rfl) z_str (ME.is (o' := .fz (.int v15)) (me_ixD hv14 (me_var (pv 0) rfl) me_int) (asI_is hv15)) g16) mf_nil))))) ?_)
    cases hx; rfl
  replace hx := cond_f hx h
  replace hx := gd_some hx
  obtain ⟨g17, hx⟩ := hx
  refine ms_cons (m_if (t := ((D.eqv v1 (.str ("over" : Str))))) (mt_eqDT (d1 := v1) (d2 := (.str ("over" : Str))) hr.units g17 rfl rfl (ME.v (me_var (pv 1) rfl)) (ME.v me_str)) (fun h => ?_) fun h => ms_nil ?_)
  · replace hx := cond_t hx h
    replace hx := bd_some hx
    obtain ⟨v18, hv18, hx⟩ := hx
    replace hx := bd_some hx
    obtain ⟨v19, hv19, hx⟩ := hx
    replace hx := gd_some hx
    obtain ⟨g20, hx⟩ := hx
    replace hx := gd_some hx
    obtain ⟨g21, hx⟩ := hx
    replace hx := bd_some hx
    obtain ⟨v22, hv22, hx⟩ := hx
    replace hx := bd_some hx
    obtain ⟨v23, hv23, hx⟩ := hx
    replace hx := gd_some hx
    obtain ⟨g24, hx⟩ := hx
    replace hx := gd_some hx
    obtain ⟨g25, hx⟩ := hx
    replace hx := bd_some hx
    obtain ⟨v26, hv26, hx⟩ := hx
    replace hx := bd_some hx
    obtain ⟨v27, hv27, hx⟩ := hx
    replace hx := gd_some hx
    obtain ⟨g28, hx⟩ := hx
    replace hx := gd_some hx
    obtain ⟨g29, hx⟩ := hx
    refine ms_one (m_ret (ps_ret pe_w) (ME.r (me_lst (ds := [("over" : Str), ((((strI (v19 / 100)) ++ ("." : Str)) ++ (strI ((v23 / 10) % 10))) ++ (strI (v27 % 10)))].map D.str) (mf_cons me_str (mf_cons (me_cat (me_cat (me_cat (me_strI (by rfl) z_str (me_fdiv (ME.is (o' := .fz (.int v19)) (me_ixD hv18 (me_var (pv 0) rfl) me_int) (asI_is hv19)) me_int ⟨by decide, by decide⟩) g20) me_str g21) (me_strI (by rfl) z_str (me_mod (me_fdiv (ME.is (o' := .fz (.int v23)) (me_ixD hv22 (me_var (pv 0) rfl) me_int) (asI_is hv23)) me_int ⟨by decide, by decide⟩) me_int (by decide)) g24) g25) (me_strI (by rfl) z_str (me_mod (ME.is (o' := .fz (.int v27)) (me_ixD hv26 (me_var (pv 0) rfl) me_int) (asI_is hv27)) me_int (by decide)) g28) g29) mf_nil)))) ?_)
    cases hx; rfl
  replace hx := cond_f hx h
  replace hx := gd_some hx
  obtain ⟨g30, hx⟩ := hx
  refine ms_cons (m_if (t := ((D.eqv v1 (.str ("not" : Str))))) (mt_eqDT (d1 := v1) (d2 := (.str ("not" : Str))) hr.units g30 rfl rfl (ME.v (me_var (pv 1) rfl)) (ME.v me_str)) (fun h => ?_) fun h => ms_nil ?_)
  · replace hx := cond_t hx h
    replace hx := bd_some hx
    obtain ⟨v31, hv31, hx⟩ := hx
    replace hx := bd_some hx
    obtain ⟨v32, hv32, hx⟩ := hx
    replace hx := gd_some hx
    obtain ⟨g33, hx⟩ := hx
    refine ms_one (m_ret (ps_ret pe_w) (ME.r (me_catLT (xs := [("not" : Str)]) (ys := v32) (enc := D.str) g33 (ME.v (me_lst (ds := [("not" : Str)].map D.str) (mf_cons me_str mf_nil))) (ME.v (me_fn c__law_inner ((v31, 3), v32) (ma_fz (me_ixD hv31 (me_var (pv 0) rfl) me_int) (ma_fz me_int ma_nil)) hv32 (hr.mono (by omega)))))) ?_)
    cases hx; rfl
  replace hx := cond_f hx h
  replace hx := lt_some hx
  obtain ⟨found, efound, hx⟩ := hx
  refine ms_cons (m_set (ps_set (i := 2) nd rfl (Or.inl rfl) pe_w) (ME.is (o' := (.lst ((found.map D.str).map .fz))) (me_lst (ds := [].map D.str) mf_nil) (by rw [efound] <;> rfl)) ?_)
  show MS _ [some (.fz tree_here), some (.fz v1), some (.lst ((found.map D.str).map .fz)), none] _ _
  replace hx := bd_some hx
  obtain ⟨v34, hv34, hx⟩ := hx
  replace hx := bd_some hx
  obtain ⟨l35, hl35, hx⟩ := hx
  replace hx := bd_some hx
  obtain ⟨p38, hp38, hx⟩ := hx
  refine ms_cons (m_forP (xs := l35) (enc := e_d) (ps_for PassesOwn.never rfl (pi_list pe_w) (pg_name (i := 3) nd rfl (Or.inl rfl)) pss_w) (by exact (mi_list (ds := l35.map e_d) (ME.k (ME.is (o' := .fz (.lst (l35.map e_d))) (me_ixD hv34 (me_var (pv 0) rfl) me_int) (asLD_is hl35))))) hp38 (fun p36 => [some (.fz tree_here), some (.fz v1), some (.lst ((p36.map D.str).map .fz)), none]) le_auto (fun x37 p36 p36o mx hx => ?_) fun τ le => ?_)
  ·
    refine ⟨_, _, mg_name, ?_⟩
    show MS _ [some (.fz tree_here), some (.fz v1), some (.lst ((p36.map D.str).map .fz)), some (.fz x37)] _ _
    replace hx := gd_some hx
    obtain ⟨g39, hx⟩ := hx
    replace hx := bd_some hx
    obtain ⟨p40, hp40, hx⟩ := hx
    refine ms_cons (m_ifP (out := p40) (fun p40 => [some (.fz tree_here), some (.fz v1), some (.lst ((p40.map D.str).map .fz)), some (.fz x37)]) (t := (!(D.eqv (.lst (p36.map D.str)) (.lst (([] : List Str).map D.str))))) (mt_neDT (d1 := .lst (p36.map D.str)) (d2 := .lst (([] : List Str).map D.str)) hr.units g39 frz_own frz_own (mv_var (pv 2) rfl) (ME.v (me_lst (ds := [].map D.str) mf_nil))) (fun h => ?_) (fun h => ?_) fun τ le => ?_)
    · replace hx := cond_t hp40 h
      replace hx := bd_some hx
      obtain ⟨v41, hv41, hx⟩ := hx
      replace hx := bd_some hx
      obtain ⟨v42, hv42, hx⟩ := hx
      replace hx := gd_some hx
      obtain ⟨g43, hx⟩ := hx
      replace hx := lt_some hx
      obtain ⟨found_1, efound_1, hx⟩ := hx
      refine ms_one (m_set (ps_set (i := 2) nd rfl (Or.inl rfl) pe_w) (ME.is (o' := (.lst ((found_1.map D.str).map .fz))) (me_catLT (xs := p36) (ys := [v42]) (enc := D.str) g43 (mv_var (pv 2) rfl) (ME.v (me_lst (ds := [v42].map D.str) (mf_cons (me_dixT (kvs := [(("all" : Str), ("and" : Str)), (("some" : Str), ("or" : Str))]) hr.units (mpt_cons (mpt_cons mpt_nil)) hv42 (ME.is (o' := .fz (.str v41)) (me_var (pv 1) rfl) (asS_is hv41))) mf_nil)))) (by rw [efound_1] <;> rfl)) ?_)
      cases hx; exact le_auto
    · replace hx := cond_f hp40 h
      refine ms_nil ?_
      cases hx; exact le_auto
    refine ms_le le ?_
    show MS _ [some (.fz tree_here), some (.fz v1), some (.lst ((p40.map D.str).map .fz)), some (.fz x37)] _ _
    replace hx := gd_some hx
    obtain ⟨g44, hx⟩ := hx
    replace hx := bd_some hx
    obtain ⟨v45, hv45, hx⟩ := hx
    replace hx := bd_some hx
    obtain ⟨v46, hv46, hx⟩ := hx
    replace hx := gd_some hx
    obtain ⟨g47, hx⟩ := hx
    replace hx := lt_some hx
    obtain ⟨found_2, efound_2, hx⟩ := hx
    refine ms_one (m_set (ps_set (i := 2) nd rfl (Or.inl rfl) pe_w) (ME.is (o' := (.lst ((found_2.map D.str).map .fz))) (me_catLT (xs := p40) (ys := v46) (enc := D.str) g47 (mv_var (pv 2) rfl) (ME.v (me_fn c__law_inner ((x37, v45), v46) (ma_fz (me_var (pv 3) rfl) (ma_fz (me_ixLT (xs := [2, 3]) (enc := D.int) hv45 (ME.l (me_lst (ds := [2, 3].map D.int) (mf_cons me_int (mf_cons me_int mf_nil)))) (me_intB (by rfl) z_int (me_eqDT (d1 := v1) (d2 := (.str ("all" : Str))) hr.units g44 rfl rfl (ME.v (me_var (pv 1) rfl)) (ME.v me_str)))) ma_nil)) hv46 (hr.mono (by omega))))) (by rw [efound_2] <;> rfl)) ?_)
    cases hx; exact le_auto
  refine ms_le le ?_
  show MS _ [some (.fz tree_here), some (.fz v1), some (.lst ((p38.map D.str).map .fz)), none] _ _
  refine ms_one (m_ret (ps_ret pe_w) (mr_var (pv 2) rfl) ?_)
  cases hx; rfl

-- GROUP lwords 64 0 : _law_inner _law_words
noncomputable def M__law_cell (script : (List Int)) (k_0 : Int) : Option Int :=
  cond (decide (k_0 < (script.length : Int))) (bd (L2.atI script k_0) fun v1 =>
    some (v1 % 1000000000000000000)) <|
  gd (CMul k_0 k_0) <|
  some (((((k_0 * k_0) * 48271) + (7919 * (script.length : Int))) + 12345) % 2147483647)
def sp__law_cell (K : PySem.W.Frag) : Sp := SpF K (fun x : (List Int) × Int => [.vw (x.1.map D.int), .fz (.int x.2)]) (fun x => M__law_cell x.1 x.2) (fun r => .fz (.int r))
abbrev N__law_cell : List Str := ["_law_script", "_law_k"]
theorem sc__law_cell : FnScope N__law_cell ["_law_script", "_law_k"] (defScope s__law_cell) := ⟨rfl, rfl, rfl, by decide +kernel, rfl, by decide +kernel, by decide +kernel⟩
theorem ok__law_cell {f : Addr} {fd : FuncData} (F : Fun K "_law_cell" "_law_cell" s__law_cell f fd) (z_len : mg "len" = none) : FnOk P w K mg base CX0 1 f fd ["_law_script", "_law_k"] (sp__law_cell K) := by
  refine fn_m F sc__law_cell (fun x => rfl) (fun x _ => rfl) fun cdv A outer s H E hr x hx => ?_
  obtain ⟨⟨script, k_0⟩, r⟩ := x
  replace hx : M__law_cell script k_0 = some r := hx
  have nd := sc__law_cell.nd
  unfold M__law_cell at hx
  show MS _ [some (.vw (script.map D.int)), some (.fz (.int k_0))] _ _
  refine ms_cons (m_if (t := (decide (k_0 < (script.length : Int)))) (mt_lt (me_var (pv 1) rfl) (me_lenLT (xs := script) (enc := D.int) (by rfl) z_len (ml_var (pv 0) rfl))) (fun h => ?_) fun h => ms_nil ?_)
  · replace hx := cond_t hx h
    replace hx := bd_some hx
    obtain ⟨v1, hv1, hx⟩ := hx
    refine ms_one (m_ret (ps_ret pe_w) (ME.r (me_mod (me_ixLT (xs := script) (enc := D.int) hv1 (ml_var (pv 0) rfl) (me_var (pv 1) rfl)) (ME.is (o' := .fz (.int 1000000000000000000)) (me_pow me_int me_int ⟨by decide, by decide, by decide⟩) rfl) (by decide))) ?_)
    cases hx; rfl
  replace hx := cond_f hx h
  replace hx := gd_some hx
  obtain ⟨g2, hx⟩ := hx
  refine ms_one (m_ret (ps_ret pe_w) (ME.r (me_mod (me_add (me_add (me_mul (me_mul (me_var (pv 1) rfl) (me_var (pv 1) rfl) g2) me_int (.inr ⟨by decide, by decide⟩)) (me_mul me_int (me_lenLT (xs := script) (enc := D.int) (by rfl) z_len (ml_var (pv 0) rfl)) (.inl ⟨by decide, by decide⟩))) me_int) me_int (by decide))) ?_)
  cases hx; rfl

noncomputable def M__law_mix (number : Int) (k_0 : Int) : Option Int :=
  gd (CMul k_0 k_0) <|
  lt ((((number * 48271) + ((k_0 * k_0) * 69621)) + 4099) % 2147483647) fun number_1 =>
  gd (CMul number_1 number_1) <|
  some ((number_1 * number_1) % 2147483629)
def sp__law_mix (K : PySem.W.Frag) : Sp := SpF K (fun x : Int × Int => [.fz (.int x.1), .fz (.int x.2)]) (fun x => M__law_mix x.1 x.2) (fun r => .fz (.int r))
abbrev N__law_mix : List Str := ["_law_number", "_law_k"]
theorem sc__law_mix : FnScope N__law_mix ["_law_number", "_law_k"] (defScope s__law_mix) := ⟨rfl, rfl, rfl, by decide +kernel, rfl, by decide +kernel, by decide +kernel⟩
theorem ok__law_mix {f : Addr} {fd : FuncData} (F : Fun K "_law_mix" "_law_mix" s__law_mix f fd)  : FnOk P w K mg base CX0 1 f fd ["_law_number", "_law_k"] (sp__law_mix K) := by
  refine fn_m F sc__law_mix (fun x => rfl) (fun x _ => rfl) fun cdv A outer s H E hr x hx => ?_
  obtain ⟨⟨number, k_0⟩, r⟩ := x
  replace hx : M__law_mix number k_0 = some r := hx
  have nd := sc__law_mix.nd
  unfold M__law_mix at hx
  show MS _ [some (.fz (.int number)), some (.fz (.int k_0))] _ _
  replace hx := gd_some hx
  obtain ⟨g1, hx⟩ := hx
  replace hx := lt_some hx
  obtain ⟨number_1, enumber_1, hx⟩ := hx
  refine ms_cons (m_set (ps_set (i := 0) nd rfl (Or.inl rfl) pe_w) (ME.is (o' := (.fz (.int number_1))) (me_mod (me_add (me_add (me_mul (me_var (pv 0) rfl) me_int (.inr ⟨by decide, by decide⟩)) (me_mul (me_mul (me_var (pv 1) rfl) (me_var (pv 1) rfl) g1) me_int (.inr ⟨by decide, by decide⟩))) me_int) me_int (by decide)) (by rw [enumber_1] <;> rfl)) ?_)
  show MS _ [some (.fz (.int number_1)), some (.fz (.int k_0))] _ _
  replace hx := gd_some hx
  obtain ⟨g2, hx⟩ := hx
  refine ms_one (m_ret (ps_ret pe_w) (ME.r (me_mod (me_mul (me_var (pv 0) rfl) (me_var (pv 0) rfl) g2) me_int (by decide))) ?_)
  cases hx; rfl

noncomputable def M__law_name (number : Int) : Option Str :=
  lt ("abcdefghijklmnopqrstuvwxyz" : Str) fun letters =>
  lt (1 + (number % 8)) fun size =>
  lt (number / 8) fun number_1 =>
  lt ("" : Str) fun name_here =>
  gd (-(2 ^ 62) ≤ size ∧ size < 2 ^ 62) <|
  bd (lp (fun (x3 : Nat) (p2 : Str × Int) => (bd (L2.atI letters.cps.toList (p2.2 % 26)) fun c5 =>
    gd (letters.length ≤ sizeLine) <|
    gd (p2.1.length + (sg1 c5).length ≤ sizeLine) <|
    lt (p2.1 ++ (sg1 c5)) fun name_here_1 =>
    gd (CMul (7 * (x3 : Int)) (x3 : Int)) <|
    lt ((p2.2 / 26) + ((7 * (x3 : Int)) * (x3 : Int))) fun number_2 =>
    some (name_here_1, number_2) : Option (Str × Int))) (List.range size.toNat) (name_here, number_1)) fun p4 =>
  some p4.1
def sp__law_name (K : PySem.W.Frag) : Sp := SpF K (fun x : Int => [.fz (.int x)]) (fun x => M__law_name x) (fun r => .fz (.str r))
abbrev N__law_name : List Str := ["_law_number", "_law_letters", "_law_size", "_law_name_here", "_law_k"]
theorem sc__law_name : FnScope N__law_name ["_law_number"] (defScope s__law_name) := ⟨rfl, rfl, rfl, by decide +kernel, rfl, by decide +kernel, by decide +kernel⟩
theorem ok__law_name {f : Addr} {fd : FuncData} (F : Fun K "_law_name" "_law_name" s__law_name f fd) (z_range : mg "range" = none) : FnOk P w K mg base CX0 1 f fd ["_law_number"] (sp__law_name K) := by
  refine fn_m F sc__law_name (fun x => rfl) (fun x _ => rfl) fun cdv A outer s H E hr x hx => ?_
  obtain ⟨number, r⟩ := x
  replace hx : M__law_name number = some r := hx
  have nd := sc__law_name.nd
  unfold M__law_name at hx
  show MS _ [some (.fz (.int number)), none, none, none, none] _ _
  replace hx := lt_some hx
  obtain ⟨letters, eletters, hx⟩ := hx
  refine ms_cons (m_set (ps_set (i := 1) nd rfl (Or.inl rfl) pe_w) (ME.is (o' := (.fz (.str letters))) me_str (by rw [eletters] <;> rfl)) ?_)
  show MS _ [some (.fz (.int number)), some (.fz (.str letters)), none, none, none] _ _
  replace hx := lt_some hx
  obtain ⟨size, esize, hx⟩ := hx
  refine ms_cons (m_set (ps_set (i := 2) nd rfl (Or.inl rfl) pe_w) (ME.is (o' := (.fz (.int size))) (me_add me_int (me_mod (me_var (pv 0) rfl) me_int (by decide))) (by rw [esize] <;> rfl)) ?_)
  show MS _ [some (.fz (.int number)), some (.fz (.str letters)), some (.fz (.int size)), none, none] _ _
  replace hx := lt_some hx
  obtain ⟨number_1, enumber_1, hx⟩ := hx
  refine ms_cons (m_set (ps_set (i := 0) nd rfl (Or.inl rfl) pe_w) (ME.is (o' := (.fz (.int number_1))) (me_fdiv (me_var (pv 0) rfl) me_int ⟨by decide, by decide⟩) (by rw [enumber_1] <;> rfl)) ?_)
  show MS _ [some (.fz (.int number_1)), some (.fz (.str letters)), some (.fz (.int size)), none, none] _ _
  replace hx := lt_some hx
  obtain ⟨name_here, ename_here, hx⟩ := hx
  refine ms_cons (m_set (ps_set (i := 3) nd rfl (Or.inl rfl) pe_w) (ME.is (o' := (.fz (.str name_here))) me_str (by rw [ename_here] <;> rfl)) ?_)
  show MS _ [some (.fz (.int number_1)), some (.fz (.str letters)), some (.fz (.int size)), some (.fz (.str name_here)), none] _ _
  replace hx := gd_some hx
  obtain ⟨g1, hx⟩ := hx
  replace hx := bd_some hx
  obtain ⟨p4, hp4, hx⟩ := hx
  refine ms_cons (m_forP (xs := (List.range size.toNat)) (enc := (fun k : Nat => D.int (k : Nat))) (ps_for PassesOwn.never rfl (pi_range1 (by rfl) z_range pa_w) (pg_name (i := 4) nd rfl (Or.inl rfl)) pss_w) (by exact (mi_rangeT (mf_cons (me_var (pv 2) rfl) mf_nil) g1)) hp4 (fun p2 => [some (.fz (.int p2.2)), some (.fz (.str letters)), some (.fz (.int size)), some (.fz (.str p2.1)), none]) le_auto (fun x3 p2 p2o mx hx => ?_) fun τ le => ?_)
  ·
    refine ⟨_, _, mg_name, ?_⟩
    show MS _ [some (.fz (.int p2.2)), some (.fz (.str letters)), some (.fz (.int size)), some (.fz (.str p2.1)), some (.fz (.int (x3 : Int)))] _ _
    replace hx := bd_some hx
    obtain ⟨c5, hc5, hx⟩ := hx
    replace hx := gd_some hx
    obtain ⟨g6, hx⟩ := hx
    replace hx := gd_some hx
    obtain ⟨g7, hx⟩ := hx
    replace hx := lt_some hx
    obtain ⟨name_here_1, ename_here_1, hx⟩ := hx
    refine ms_cons (m_set (ps_set (i := 3) nd rfl (Or.inl rfl) pe_w) (ME.is (o' := (.fz (.str name_here_1))) (me_cat (me_var (pv 3) rfl) (me_ixS (me_var (pv 1) rfl) (me_mod (me_var (pv 0) rfl) me_int (by decide)) g6 hc5) g7) (by rw [ename_here_1] <;> rfl)) ?_)
    show MS _ [some (.fz (.int p2.2)), some (.fz (.str letters)), some (.fz (.int size)), some (.fz (.str name_here_1)), some (.fz (.int (x3 : Int)))] _ _
    replace hx := gd_some hx
    obtain ⟨g8, hx⟩ := hx
    replace hx := lt_some hx
    obtain ⟨number_2, enumber_2, hx⟩ := hx
    refine ms_one (m_set (ps_set (i := 0) nd rfl (Or.inl rfl) pe_w) (ME.is (o' := (.fz (.int number_2))) (me_add (me_fdiv (me_var (pv 0) rfl) me_int ⟨by decide, by decide⟩) (me_mul (me_mul me_int (me_var (pv 4) rfl) (.inl ⟨by decide, by decide⟩)) (me_var (pv 4) rfl) g8)) (by rw [enumber_2] <;> rfl)) ?_)
    cases hx; exact le_auto
  refine ms_le le ?_
  show MS _ [some (.fz (.int p4.2)), some (.fz (.str letters)), some (.fz (.int size)), some (.fz (.str p4.1)), none] _ _
  refine ms_one (m_ret (ps_ret pe_w) (ME.r (me_var (pv 3) rfl)) ?_)
  cases hx; rfl

noncomputable def M__law_other (name_here : Str) (number : Int) : Option Str :=
  lt ("abcdefghijklmnopqrstuvwxyz" : Str) fun letters =>
  gd (name_here.length ≤ sizeLine) <|
  gd (0 < (name_here.length : Int)) <|
  lt ((number / 8) % (name_here.length : Int)) fun at_0 =>
  bd (L2.atI letters.cps.toList ((number / 64) % 26)) fun c3 =>
  gd (letters.length ≤ sizeLine) <|
  lt (sg1 c3) fun sign =>
  lt (number % 8) fun way =>
  cond (((way == 0)) || ((way == 1))) (gd (name_here.length ≤ sizeLine) <|
    gd ((cutS name_here none (some at_0)).length + sign.length ≤ sizeLine) <|
    gd (name_here.length ≤ sizeLine) <|
    gd (((cutS name_here none (some at_0)) ++ sign).length + (cutS name_here (some (at_0 + 1)) none).length ≤ sizeLine) <|
    some (((cutS name_here none (some at_0)) ++ sign) ++ (cutS name_here (some (at_0 + 1)) none))) <|
  bd (cond ((way == 2)) (gd (name_here.length ≤ sizeLine) <| some (decide ((name_here.length : Int) < 8))) (some false)) fun v10 =>
  cond v10 (gd (name_here.length ≤ sizeLine) <|
    gd ((cutS name_here none (some at_0)).length + sign.length ≤ sizeLine) <|
    gd (name_here.length ≤ sizeLine) <|
    gd (((cutS name_here none (some at_0)) ++ sign).length + (cutS name_here (some at_0) none).length ≤ sizeLine) <|
    some (((cutS name_here none (some at_0)) ++ sign) ++ (cutS name_here (some at_0) none))) <|
  bd (cond ((way == 3)) (gd (name_here.length ≤ sizeLine) <| some (decide (1 < (name_here.length : Int)))) (some false)) fun v17 =>
  cond v17 (gd (name_here.length ≤ sizeLine) <|
    gd (name_here.length ≤ sizeLine) <|
    gd ((cutS name_here none (some at_0)).length + (cutS name_here (some (at_0 + 1)) none).length ≤ sizeLine) <|
    some ((cutS name_here none (some at_0)) ++ (cutS name_here (some (at_0 + 1)) none))) <|
  cond ((way == 4)) (gd (name_here.length ≤ sizeLine) <|
    some (revS name_here)) <|
  cond ((way == 5)) (gd (name_here.length ≤ sizeLine) <|
    gd (name_here.length ≤ sizeLine) <|
    gd ((cutS name_here (some (1 : Int)) none).length + (cutS name_here none (some (1 : Int))).length ≤ sizeLine) <|
    some ((cutS name_here (some (1 : Int)) none) ++ (cutS name_here none (some (1 : Int))))) <|
  some name_here
def sp__law_other (K : PySem.W.Frag) : Sp := SpF K (fun x : Str × Int => [.fz (.str x.1), .fz (.int x.2)]) (fun x => M__law_other x.1 x.2) (fun r => .fz (.str r))
abbrev N__law_other : List Str := ["_law_name_here", "_law_number", "_law_letters", "_law_at", "_law_sign", "_law_way"]
theorem sc__law_other : FnScope N__law_other ["_law_name_here", "_law_number"] (defScope s__law_other) := ⟨rfl, rfl, rfl, by decide +kernel, rfl, by decide +kernel, by decide +kernel⟩
theorem ok__law_other {f : Addr} {fd : FuncData} (F : Fun K "_law_other" "_law_other" s__law_other f fd) (z_len : mg "len" = none) : FnOk P w K mg base CX0 1 f fd ["_law_name_here", "_law_number"] (sp__law_other K) := by
  refine fn_m F sc__law_other (fun x => rfl) (fun x _ => rfl) fun cdv A outer s H E hr x hx => ?_
  obtain ⟨⟨name_here, number⟩, r⟩ := x
  replace hx : M__law_other name_here number = some r := hx
  have nd := sc__law_other.nd
  unfold M__law_other at hx
  show MS _ [some (.fz (.str name_here)), some (.fz (.int number)), none, none, none, none] _ _
  replace hx := lt_some hx
  obtain ⟨letters, eletters, hx⟩ := hx
  refine ms_cons (m_set (ps_set (i := 2) nd rfl (Or.inl rfl) pe_w) (ME.is (o' := (.fz (.str letters))) me_str (by rw [eletters] <;> rfl)) ?_)
  show MS _ [some (.fz (.str name_here)), some (.fz (.int number)), some (.fz (.str letters)), none, none, none] _ _
  replace hx := gd_some hx
  obtain ⟨g1, hx⟩ := hx
  replace hx := gd_some hx
  obtain ⟨g2, hx⟩ := hx
  replace hx := lt_some hx
  obtain ⟨at_0, eat_0, hx⟩ := hx
  refine ms_cons (m_set (ps_set (i := 3) nd rfl (Or.inl rfl) pe_w) (ME.is (o' := (.fz (.int at_0))) (me_mod (me_fdiv (me_var (pv 1) rfl) me_int ⟨by decide, by decide⟩) (me_lenS (by rfl) z_len (me_var (pv 0) rfl) g1) g2) (by rw [eat_0] <;> rfl)) ?_)
  show MS _ [some (.fz (.str name_here)), some (.fz (.int number)), some (.fz (.str letters)), some (.fz (.int at_0)), none, none] _ _
  replace hx := bd_some hx
  obtain ⟨c3, hc3, hx⟩ := hx
  replace hx := gd_some hx
  obtain ⟨g4, hx⟩ := hx
  replace hx := lt_some hx
  obtain ⟨sign, esign, hx⟩ := hx
  refine ms_cons (m_set (ps_set (i := 4) nd rfl (Or.inl rfl) pe_w) (ME.is (o' := (.fz (.str sign))) (me_ixS (me_var (pv 2) rfl) (me_mod (me_fdiv (me_var (pv 1) rfl) me_int ⟨by decide, by decide⟩) me_int (by decide)) g4 hc3) (by rw [esign] <;> rfl)) ?_)
  show MS _ [some (.fz (.str name_here)), some (.fz (.int number)), some (.fz (.str letters)), some (.fz (.int at_0)), some (.fz (.str sign)), none] _ _
  replace hx := lt_some hx
  obtain ⟨way, eway, hx⟩ := hx
  refine ms_cons (m_set (ps_set (i := 5) nd rfl (Or.inl rfl) pe_w) (ME.is (o' := (.fz (.int way))) (me_mod (me_var (pv 1) rfl) me_int (by decide)) (by rw [eway] <;> rfl)) ?_)
  show MS _ [some (.fz (.str name_here)), some (.fz (.int number)), some (.fz (.str letters)), some (.fz (.int at_0)), some (.fz (.str sign)), some (.fz (.int way))] _ _
  refine ms_cons (m_if (t := (((way == 0)) || ((way == 1)))) (MW.t (mw_or (mt_eqI (me_var (pv 5) rfl) me_int) fun _ => (mw_or1 (mt_eqI (me_var (pv 5) rfl) me_int)))) (fun h => ?_) fun h => ms_nil ?_)
  · replace hx := cond_t hx h
    replace hx := gd_some hx
    obtain ⟨g5, hx⟩ := hx
    replace hx := gd_some hx
    obtain ⟨g6, hx⟩ := hx
    replace hx := gd_some hx
    obtain ⟨g7, hx⟩ := hx
    replace hx := gd_some hx
    obtain ⟨g8, hx⟩ := hx
    refine ms_one (m_ret (ps_ret pe_w) (ME.r (me_cat (me_cat (me_slS g5 (me_var (pv 0) rfl) .none (.some (me_var (pv 3) rfl))) (me_var (pv 4) rfl) g6) (me_slS g7 (me_var (pv 0) rfl) (.some (me_add (me_var (pv 3) rfl) me_int)) .none) g8)) ?_)
    cases hx; rfl
  replace hx := cond_f hx h
  replace hx := bd_some hx
  obtain ⟨v10, hv10, hx⟩ := hx
  refine ms_cons (m_if (t := v10) (MW.t (MW.is (mw_and (mt_eqI (me_var (pv 5) rfl) me_int) fun q11 => (by have hx := cond_t hv10 q11; replace hx := gd_some hx; obtain ⟨g9, hx⟩ := hx; cases hx; exact (mw_and1 (mt_lt (me_lenS (by rfl) z_len (me_var (pv 0) rfl) g9) me_int)))) (and_c hv10))) (fun h => ?_) fun h => ms_nil ?_)
  · replace hx := cond_t hx h
    replace hx := gd_some hx
    obtain ⟨g12, hx⟩ := hx
    replace hx := gd_some hx
    obtain ⟨g13, hx⟩ := hx
    replace hx := gd_some hx
    obtain ⟨g14, hx⟩ := hx
    replace hx := gd_some hx
    obtain ⟨g15, hx⟩ := hx
    refine ms_one (m_ret (ps_ret pe_w) (ME.r (me_cat (me_cat (me_slS g12 (me_var (pv 0) rfl) .none (.some (me_var (pv 3) rfl))) (me_var (pv 4) rfl) g13) (me_slS g14 (me_var (pv 0) rfl) (.some (me_var (pv 3) rfl)) .none) g15)) ?_)
    cases hx; rfl
  replace hx := cond_f hx h
  replace hx := bd_some hx
  obtain ⟨v17, hv17, hx⟩ := hx
  refine ms_cons (m_if (t := v17) (MW.t (MW.is (mw_and (mt_eqI (me_var (pv 5) rfl) me_int) fun q18 => (by have hx := cond_t hv17 q18; replace hx := gd_some hx; obtain ⟨g16, hx⟩ := hx; cases hx; exact (mw_and1 (mt_gt (me_lenS (by rfl) z_len (me_var (pv 0) rfl) g16) me_int)))) (and_c hv17))) (fun h => ?_) fun h => ms_nil ?_)
  · replace hx := cond_t hx h
    replace hx := gd_some hx
    obtain ⟨g19, hx⟩ := hx
    replace hx := gd_some hx
    obtain ⟨g20, hx⟩ := hx
    replace hx := gd_some hx
    obtain ⟨g21, hx⟩ := hx
    refine ms_one (m_ret (ps_ret pe_w) (ME.r (me_cat (me_slS g19 (me_var (pv 0) rfl) .none (.some (me_var (pv 3) rfl))) (me_slS g20 (me_var (pv 0) rfl) (.some (me_add (me_var (pv 3) rfl) me_int)) .none) g21)) ?_)
    cases hx; rfl
  replace hx := cond_f hx h
  refine ms_cons (m_if (t := ((way == 4))) (mt_eqI (me_var (pv 5) rfl) me_int) (fun h => ?_) fun h => ms_nil ?_)
  · replace hx := cond_t hx h
    replace hx := gd_some hx
    obtain ⟨g22, hx⟩ := hx
    refine ms_one (m_ret (ps_ret pe_w) (ME.r (me_revS g22 (me_var (pv 0) rfl))) ?_)
    cases hx; rfl
  replace hx := cond_f hx h
  refine ms_cons (m_if (t := ((way == 5))) (mt_eqI (me_var (pv 5) rfl) me_int) (fun h => ?_) fun h => ms_nil ?_)
  · replace hx := cond_t hx h
    replace hx := gd_some hx
    obtain ⟨g23, hx⟩ := hx
    replace hx := gd_some hx
    obtain ⟨g24, hx⟩ := hx
    replace hx := gd_some hx
    obtain ⟨g25, hx⟩ := hx
    refine ms_one (m_ret (ps_ret pe_w) (ME.r (me_cat (me_slS g23 (me_var (pv 0) rfl) (.some me_int) .none) (me_slS g24 (me_var (pv 0) rfl) .none (.some me_int)) g25)) ?_)
    cases hx; rfl
  replace hx := cond_f hx h
  refine ms_one (m_ret (ps_ret pe_w) (ME.r (me_var (pv 0) rfl)) ?_)
  cases hx; rfl

noncomputable def M__law_whole (found : D) : Option Bool :=
  bd (isiD "int" found) fun k1 =>
  bd (cond k1 (bd (isiD "bool" found) fun k2 => some (!k2)) (some false)) fun v3 =>
  some v3
def sp__law_whole (K : PySem.W.Frag) : Sp := SpF K (fun x : D => [.fz x]) (fun x => M__law_whole x) (fun r => .fz (.bl r))
abbrev N__law_whole : List Str := ["_law_found"]
theorem sc__law_whole : FnScope N__law_whole ["_law_found"] (defScope s__law_whole) := ⟨rfl, rfl, rfl, by decide +kernel, rfl, by decide +kernel, by decide +kernel⟩
theorem ok__law_whole {f : Addr} {fd : FuncData} (F : Fun K "_law_whole" "_law_whole" s__law_whole f fd) (z_isinstance : mg "isinstance" = none) (z_int : mg "int" = none) (z_bool : mg "bool" = none) : FnOk P w K mg base CX0 1 f fd ["_law_found"] (sp__law_whole K) := by
  refine fn_m F sc__law_whole (fun x => rfl) (fun x _ => rfl) fun cdv A outer s H E hr x hx => ?_
  obtain ⟨found, r⟩ := x
  replace hx : M__law_whole found = some r := hx
  have nd := sc__law_whole.nd
  unfold M__law_whole at hx
  show MS _ [some (.fz found)] _ _
  replace hx := bd_some hx
  obtain ⟨k1, hk1, hx⟩ := hx
  replace hx := bd_some hx
  obtain ⟨v3, hv3, hx⟩ := hx
  refine ms_one (m_ret (ps_ret pe_w) (ME.r (ME.isB (me_and (me_isiD (T := "int") hk1 (by rfl) z_isinstance (pe_bltn (v := .ty "int") (by rfl) z_int (by decide +kernel) rfl) (mv_var (pv 0) rfl)) fun q4 => (by have hx := cond_t hv3 q4; replace hx := bd_some hx; obtain ⟨k2, hk2, hx⟩ := hx; cases hx; exact (me_one (me_not (me_isiD (T := "bool") hk2 (by rfl) z_isinstance (pe_bltn (v := .ty "bool") (by rfl) z_bool (by decide +kernel) rfl) (mv_var (pv 0) rfl)))))) (and_c hv3))) ?_)
  cases hx; rfl

abbrev e_T_L_s_L_i_L_i (p : ((List Str) × (List Int) × (List Int))) : D := .tup [.lst (p.1.map D.str), .lst (p.2.1.map D.int), .lst (p.2.2.map D.int)]
noncomputable def M__law_pools (script : (List Int)) : Option ((List Str) × (List Int) × (List Int)) :=
  bd (M__law_cell script (0 : Int)) fun v1 =>
  bd (M__law_name v1) fun v2 =>
  lt [v2] fun names =>
  bd (lp (fun (x4 : Nat) (p3 : (List Str)) => (bd (L2.atI p3 (x4 : Int)) fun v6 =>
    bd (M__law_cell script (1 : Int)) fun v7 =>
    bd (M__law_mix v7 (x4 : Int)) fun v8 =>
    bd (M__law_other v6 v8) fun v9 =>
    gd (p3.length < sizeLine) <|
    lt (p3 ++ [v9]) fun names_1 =>
    some names_1 : Option ((List Str)))) (List.range (3 : Int).toNat) names) fun p5 =>
  lt [("and" : Str), ("or" : Str), ("not" : Str), ("cause" : Str), ("thing" : Str), ("days" : Str), ("over" : Str), ("always" : Str)] fun odd =>
  bd (M__law_cell script (0 : Int)) fun v11 =>
  bd (L2.atI odd (v11 % 8)) fun v12 =>
  gd (p5.length < sizeLine) <|
  lt (p5 ++ [v12]) fun names_2 =>
  bd (M__law_cell script (2 : Int)) fun v14 =>
  lt (v14 % (1000000 + 1)) fun day =>
  bd (M__law_cell script (1 : Int)) fun v15 =>
  bd (M__law_mix v15 (5 : Int)) fun v16 =>
  gd (SrtOk D.int [day, (min (1000000 : Int) (day + 1)), (364 + (365 * (v16 % 2700))), (v16 % (1000000 + 1))]) <|
  lt ((srt D.int [day, (min (1000000 : Int) (day + 1)), (364 + (365 * (v16 % 2700))), (v16 % (1000000 + 1))]) : (List Int)) fun days =>
  bd (M__law_cell script (3 : Int)) fun v18 =>
  lt (v18 % 1000000000000) fun cents =>
  lt ([cents, (min (1000000000000 - 1) (cents + 1)), (v16 % 100), ((v16 * 463) % 1000000000000)] : (List Int)) fun sums =>
  some (names_2, days, sums)
def sp__law_pools (K : PySem.W.Frag) : Sp := SpF K (fun x : (List Int) => [.vw (x.map D.int)]) (fun x => M__law_pools x) (fun r => .fz (e_T_L_s_L_i_L_i r))
abbrev N__law_pools : List Str := ["_law_script", "_law_names", "_law_k", "_law_odd", "_law_day", "_law_far", "_law_days", "_law_cents", "_law_sums"]
theorem sc__law_pools : FnScope N__law_pools ["_law_script"] (defScope s__law_pools) := ⟨rfl, rfl, rfl, by decide +kernel, rfl, by decide +kernel, by decide +kernel⟩
theorem ok__law_pools {f : Addr} {fd : FuncData} (F : Fun K "_law_pools" "_law_pools" s__law_pools f fd) (z_range : mg "range" = none) (z_sorted : mg "sorted" = none) (z_min : mg "min" = none) (c__law_cell : Fn1 P w K mg base "_law_cell" 1 ["_law_script", "_law_k"] (sp__law_cell K)) (c__law_name : Fn1 P w K mg base "_law_name" 1 ["_law_number"] (sp__law_name K)) (c__law_mix : Fn1 P w K mg base "_law_mix" 1 ["_law_number", "_law_k"] (sp__law_mix K)) (c__law_other : Fn1 P w K mg base "_law_other" 1 ["_law_name_here", "_law_number"] (sp__law_other K)) : FnOk P w K mg base CX0 2 f fd ["_law_script"] (sp__law_pools K) := by
  refine fn_m F sc__law_pools (fun x => rfl) (fun x _ => rfl) fun cdv A outer s H E hr x hx => ?_
  obtain ⟨script, r⟩ := x
  replace hx : M__law_pools script = some r := hx
  have nd := sc__law_pools.nd
  unfold M__law_pools at hx
  show MS _ [some (.vw (script.map D.int)), none, none, none, none, none, none, none, none] _ _
  replace hx := bd_some hx
  obtain ⟨v1, hv1, hx⟩ := hx
  replace hx := bd_some hx
  obtain ⟨v2, hv2, hx⟩ := hx
  replace hx := lt_some hx
  obtain ⟨names, enames, hx⟩ := hx
  refine ms_cons (m_set (ps_set (i := 1) nd rfl (Or.inl rfl) pe_w) (ME.is (o' := (.lst ((names.map D.str).map .fz))) (me_lst (ds := [v2].map D.str) (mf_cons (me_fn c__law_name (v1, v2) (ma_fz (me_fn c__law_cell ((script, 0), v1) (ma_vw (ml_var (pv 0) rfl) (ma_fz me_int ma_nil)) hv1 (hr.mono (by decide))) ma_nil) hv2 (hr.mono (by decide))) mf_nil)) (by rw [enames] <;> rfl)) ?_)
  show MS _ [some (.vw (script.map D.int)), some (.lst ((names.map D.str).map .fz)), none, none, none, none, none, none, none] _ _
  replace hx := bd_some hx
  obtain ⟨p5, hp5, hx⟩ := hx
  refine ms_cons (m_forP (xs := (List.range (3 : Int).toNat)) (enc := (fun k : Nat => D.int (k : Nat))) (ps_for PassesOwn.never rfl (pi_range1 (by rfl) z_range pa_w) (pg_name (i := 2) nd rfl (Or.inl rfl)) pss_w) (by exact (mi_rangeT (mf_cons me_int mf_nil) ⟨by decide, by decide⟩)) hp5 (fun p3 => [some (.vw (script.map D.int)), some (.lst ((p3.map D.str).map .fz)), none, none, none, none, none, none, none]) le_auto (fun x4 p3 p3o mx hx => ?_) fun τ le => ?_)
  ·
    refine ⟨_, _, mg_name, ?_⟩
    show MS _ [some (.vw (script.map D.int)), some (.lst ((p3.map D.str).map .fz)), some (.fz (.int (x4 : Int))), none, none, none, none, none, none] _ _
    replace hx := bd_some hx
    obtain ⟨v6, hv6, hx⟩ := hx
    replace hx := bd_some hx
    obtain ⟨v7, hv7, hx⟩ := hx
    replace hx := bd_some hx
    obtain ⟨v8, hv8, hx⟩ := hx
    replace hx := bd_some hx
    obtain ⟨v9, hv9, hx⟩ := hx
    replace hx := gd_some hx
    obtain ⟨g10, hx⟩ := hx
    replace hx := lt_some hx
    obtain ⟨names_1, enames_1, hx⟩ := hx
    refine ms_one (m_appendT (i := 1) (xs := p3) (enc := D.str) (y := v9) g10 (pv _) rfl (me_fn c__law_other ((v6, v8), v9) (ma_fz (me_ixLT (xs := p3) (enc := D.str) hv6 (ml_var (pv 1) rfl) (me_var (pv 2) rfl)) (ma_fz (me_fn c__law_mix ((v7, (x4 : Int)), v8) (ma_fz (me_fn c__law_cell ((script, 1), v7) (ma_vw (ml_var (pv 0) rfl) (ma_fz me_int ma_nil)) hv7 (hr.mono (by decide))) (ma_fz (me_var (pv 2) rfl) ma_nil)) hv8 (hr.mono (by decide))) ma_nil)) hv9 (hr.mono (by decide))) ?_)
    rw [← enames_1]
    cases hx; exact le_auto
  refine ms_le le ?_
  show MS _ [some (.vw (script.map D.int)), some (.lst ((p5.map D.str).map .fz)), none, none, none, none, none, none, none] _ _
  replace hx := lt_some hx
  obtain ⟨odd, eodd, hx⟩ := hx
  refine ms_cons (m_set (ps_set (i := 3) nd rfl (Or.inl rfl) pe_w) (ME.is (o' := (.lst ((odd.map D.str).map .fz))) (me_lst (ds := [("and" : Str), ("or" : Str), ("not" : Str), ("cause" : Str), ("thing" : Str), ("days" : Str), ("over" : Str), ("always" : Str)].map D.str) (mf_cons me_str (mf_cons me_str (mf_cons me_str (mf_cons me_str (mf_cons me_str (mf_cons me_str (mf_cons me_str (mf_cons me_str mf_nil))))))))) (by rw [eodd] <;> rfl)) ?_)
  show MS _ [some (.vw (script.map D.int)), some (.lst ((p5.map D.str).map .fz)), none, some (.lst ((odd.map D.str).map .fz)), none, none, none, none, none] _ _
  replace hx := bd_some hx
  obtain ⟨v11, hv11, hx⟩ := hx
  replace hx := bd_some hx
  obtain ⟨v12, hv12, hx⟩ := hx
  replace hx := gd_some hx
  obtain ⟨g13, hx⟩ := hx
  replace hx := lt_some hx
  obtain ⟨names_2, enames_2, hx⟩ := hx
  refine ms_cons (m_appendT (i := 1) (xs := p5) (enc := D.str) (y := v12) g13 (pv _) rfl (me_ixLT (xs := odd) (enc := D.str) hv12 (ml_var (pv 3) rfl) (me_mod (me_fn c__law_cell ((script, 0), v11) (ma_vw (ml_var (pv 0) rfl) (ma_fz me_int ma_nil)) hv11 (hr.mono (by decide))) me_int (by decide))) ?_)
  rw [← enames_2]
  show MS _ [some (.vw (script.map D.int)), some (.lst ((names_2.map D.str).map .fz)), none, some (.lst ((odd.map D.str).map .fz)), none, none, none, none, none] _ _
  replace hx := bd_some hx
  obtain ⟨v14, hv14, hx⟩ := hx
  replace hx := lt_some hx
  obtain ⟨day, eday, hx⟩ := hx
  refine ms_cons (m_set (ps_set (i := 4) nd rfl (Or.inl rfl) pe_w) (ME.is (o' := (.fz (.int day))) (me_mod (me_fn c__law_cell ((script, 2), v14) (ma_vw (ml_var (pv 0) rfl) (ma_fz me_int ma_nil)) hv14 (hr.mono (by decide))) (me_add (ME.is (o' := .fz (.int 1000000)) (me_pow me_int me_int ⟨by decide, by decide, by decide⟩) rfl) me_int) (by decide)) (by rw [eday] <;> rfl)) ?_)
  show MS _ [some (.vw (script.map D.int)), some (.lst ((names_2.map D.str).map .fz)), none, some (.lst ((odd.map D.str).map .fz)), some (.fz (.int day)), none, none, none, none] _ _
  replace hx := bd_some hx
  obtain ⟨v15, hv15, hx⟩ := hx
  replace hx := bd_some hx
  obtain ⟨v16, hv16, hx⟩ := hx
  refine ms_cons (m_set (ps_set (i := 5) nd rfl (Or.inl rfl) pe_w) (me_fn c__law_mix ((v15, 5), v16) (ma_fz (me_fn c__law_cell ((script, 1), v15) (ma_vw (ml_var (pv 0) rfl) (ma_fz me_int ma_nil)) hv15 (hr.mono (by decide))) (ma_fz me_int ma_nil)) hv16 (hr.mono (by decide))) ?_)
  show MS _ [some (.vw (script.map D.int)), some (.lst ((names_2.map D.str).map .fz)), none, some (.lst ((odd.map D.str).map .fz)), some (.fz (.int day)), some (.fz (.int v16)), none, none, none] _ _
  replace hx := gd_some hx
  obtain ⟨g17, hx⟩ := hx
  replace hx := lt_some hx
  obtain ⟨days, edays, hx⟩ := hx
  refine ms_cons (m_set (ps_set (i := 6) nd rfl (Or.inl rfl) pe_w) (ME.is (o' := (.lst ((days.map D.int).map .fz))) (me_sorted (bs := [day, (min (1000000 : Int) (day + 1)), (364 + (365 * (v16 % 2700))), (v16 % (1000000 + 1))]) (enc := D.int) hr.units (by rfl) z_sorted (ME.l (me_lst (ds := [day, (min (1000000 : Int) (day + 1)), (364 + (365 * (v16 % 2700))), (v16 % (1000000 + 1))].map D.int) (mf_cons (me_var (pv 4) rfl) (mf_cons (me_min rfl (by rfl) z_min (ME.is (o' := .fz (.int 1000000)) (me_pow me_int me_int ⟨by decide, by decide, by decide⟩) rfl) (me_add (me_var (pv 4) rfl) me_int)) (mf_cons (me_add me_int (me_mul me_int (me_mod (me_var (pv 5) rfl) me_int (by decide)) (.inl ⟨by decide, by decide⟩))) (mf_cons (me_mod (me_var (pv 5) rfl) (me_add (ME.is (o' := .fz (.int 1000000)) (me_pow me_int me_int ⟨by decide, by decide, by decide⟩) rfl) me_int) (by decide)) mf_nil)))))) g17.1 g17.2.1 g17.2.2.1 g17.2.2.2) (by rw [edays] <;> rfl)) ?_)
  show MS _ [some (.vw (script.map D.int)), some (.lst ((names_2.map D.str).map .fz)), none, some (.lst ((odd.map D.str).map .fz)), some (.fz (.int day)), some (.fz (.int v16)), some (.lst ((days.map D.int).map .fz)), none, none] _ _
  replace hx := bd_some hx
  obtain ⟨v18, hv18, hx⟩ := hx
  replace hx := lt_some hx
  obtain ⟨cents, ecents, hx⟩ := hx
  refine ms_cons (m_set (ps_set (i := 7) nd rfl (Or.inl rfl) pe_w) (ME.is (o' := (.fz (.int cents))) (me_mod (me_fn c__law_cell ((script, 3), v18) (ma_vw (ml_var (pv 0) rfl) (ma_fz me_int ma_nil)) hv18 (hr.mono (by decide))) (ME.is (o' := .fz (.int 1000000000000)) (me_pow me_int me_int ⟨by decide, by decide, by decide⟩) rfl) (by decide)) (by rw [ecents] <;> rfl)) ?_)
  show MS _ [some (.vw (script.map D.int)), some (.lst ((names_2.map D.str).map .fz)), none, some (.lst ((odd.map D.str).map .fz)), some (.fz (.int day)), some (.fz (.int v16)), some (.lst ((days.map D.int).map .fz)), some (.fz (.int cents)), none] _ _
  replace hx := lt_some hx
  obtain ⟨sums, esums, hx⟩ := hx
  refine ms_cons (m_set (ps_set (i := 8) nd rfl (Or.inl rfl) pe_w) (ME.is (o' := (.lst ((sums.map D.int).map .fz))) (me_lst (ds := [cents, (min (1000000000000 - 1) (cents + 1)), (v16 % 100), ((v16 * 463) % 1000000000000)].map D.int) (mf_cons (me_var (pv 7) rfl) (mf_cons (me_min rfl (by rfl) z_min (me_sub (ME.is (o' := .fz (.int 1000000000000)) (me_pow me_int me_int ⟨by decide, by decide, by decide⟩) rfl) me_int) (me_add (me_var (pv 7) rfl) me_int)) (mf_cons (me_mod (me_var (pv 5) rfl) me_int (by decide)) (mf_cons (me_mod (me_mul (me_var (pv 5) rfl) me_int (.inr ⟨by decide, by decide⟩)) (ME.is (o' := .fz (.int 1000000000000)) (me_pow me_int me_int ⟨by decide, by decide, by decide⟩) rfl) (by decide)) mf_nil))))) (by rw [esums] <;> rfl)) ?_)
  show MS _ [some (.vw (script.map D.int)), some (.lst ((names_2.map D.str).map .fz)), none, some (.lst ((odd.map D.str).map .fz)), some (.fz (.int day)), some (.fz (.int v16)), some (.lst ((days.map D.int).map .fz)), some (.fz (.int cents)), some (.lst ((sums.map D.int).map .fz))] _ _
  refine ms_frzl (i := 1) rfl ?_
  refine ms_frzl (i := 6) rfl ?_
  refine ms_frzl (i := 8) rfl ?_
  show MS _ [some (.vw (script.map D.int)), some (.fz (.lst (names_2.map D.str))), none, some (.lst ((odd.map D.str).map .fz)), some (.fz (.int day)), some (.fz (.int v16)), some (.fz (.lst (days.map D.int))), some (.fz (.int cents)), some (.fz (.lst (sums.map D.int)))] _ _
  refine ms_one (m_ret (ps_ret pe_w) (ME.r (me_tup (mf_cons (me_var (pv 1) rfl) (mf_cons (me_var (pv 6) rfl) (mf_cons (me_var (pv 8) rfl) mf_nil))))) ?_)
  cases hx; rfl

abbrev e_T_s (p : Str) : D := .tup [.str p]
abbrev e_T_s_s (p : (Str × Str)) : D := .tup [.str p.1, .str p.2]
abbrev e_T_s_i_i (p : (Str × Int × Int)) : D := .tup [.str p.1, .int p.2.1, .int p.2.2]
abbrev e_T_s_i (p : (Str × Int)) : D := .tup [.str p.1, .int p.2]
noncomputable def M__law_leaf (number : Int) (pools_here : ((List Str) × (List Int) × (List Int))) : Option D :=
  lt (number % 7) fun way =>
  lt ((number / 7) % 20) fun at_0 =>
  cond ((way == 0)) (some (e_T_s ("always" : Str))) <|
  cond (decide (way < 3)) (bd (L2.atI [("cause" : Str), ("thing" : Str)] (way - 1)) fun v1 =>
    bd (L2.atI pools_here.1 (at_0 % 5)) fun v2 =>
    some (e_T_s_s (v1, v2))) <|
  cond (decide (way < 5)) (bd (L2.atI pools_here.2.1 (at_0 % 4)) fun v3 =>
    bd (L2.atI pools_here.2.1 ((at_0 / 4) % 4)) fun v4 =>
    some (e_T_s_i_i (("days" : Str), (min v3 v4), (max v3 v4)))) <|
  bd (L2.atI pools_here.2.2 (at_0 % 4)) fun v5 =>
  some (e_T_s_i (("over" : Str), v5))
def sp__law_leaf (K : PySem.W.Frag) : Sp := SpF K (fun x : Int × ((List Str) × (List Int) × (List Int)) => [.fz (.int x.1), .fz (e_T_L_s_L_i_L_i x.2)]) (fun x => M__law_leaf x.1 x.2) (fun r => .fz r)
abbrev N__law_leaf : List Str := ["_law_number", "_law_pools_here", "_law_way", "_law_at", "_law_one", "_law_two"]
theorem sc__law_leaf : FnScope N__law_leaf ["_law_number", "_law_pools_here"] (defScope s__law_leaf) := ⟨rfl, rfl, rfl, by decide +kernel, rfl, by decide +kernel, by decide +kernel⟩
theorem ok__law_leaf {f : Addr} {fd : FuncData} (F : Fun K "_law_leaf" "_law_leaf" s__law_leaf f fd) (z_min : mg "min" = none) (z_max : mg "max" = none) : FnOk P w K mg base CX0 1 f fd ["_law_number", "_law_pools_here"] (sp__law_leaf K) := by
  refine fn_m F sc__law_leaf (fun x => rfl) (fun x _ => rfl) fun cdv A outer s H E hr x hx => ?_
  obtain ⟨⟨number, pools_here⟩, r⟩ := x
  replace hx : M__law_leaf number pools_here = some r := hx
  have nd := sc__law_leaf.nd
  unfold M__law_leaf at hx
  show MS _ [some (.fz (.int number)), some (.fz (e_T_L_s_L_i_L_i pools_here)), none, none, none, none] _ _
  replace hx := lt_some hx
  obtain ⟨way, eway, hx⟩ := hx
  refine ms_cons (m_set (ps_set (i := 2) nd rfl (Or.inl rfl) pe_w) (ME.is (o' := (.fz (.int way))) (me_mod (me_var (pv 0) rfl) me_int (by decide)) (by rw [eway] <;> rfl)) ?_)
  show MS _ [some (.fz (.int number)), some (.fz (e_T_L_s_L_i_L_i pools_here)), some (.fz (.int way)), none, none, none] _ _
  replace hx := lt_some hx
  obtain ⟨at_0, eat_0, hx⟩ := hx
  refine ms_cons (m_set (ps_set (i := 3) nd rfl (Or.inl rfl) pe_w) (ME.is (o' := (.fz (.int at_0))) (me_mod (me_fdiv (me_var (pv 0) rfl) me_int ⟨by decide, by decide⟩) me_int (by decide)) (by rw [eat_0] <;> rfl)) ?_)
  show MS _ [some (.fz (.int number)), some (.fz (e_T_L_s_L_i_L_i pools_here)), some (.fz (.int way)), some (.fz (.int at_0)), none, none] _ _
  refine ms_cons (m_if (t := ((way == 0))) (mt_eqI (me_var (pv 2) rfl) me_int) (fun h => ?_) fun h => ms_nil ?_)
  · replace hx := cond_t hx h
    refine ms_one (m_ret (ps_ret pe_w) (ME.r (me_tup (mf_cons me_str mf_nil))) ?_)
    cases hx; rfl
  replace hx := cond_f hx h
  refine ms_cons (m_if (t := (decide (way < 3))) (mt_lt (me_var (pv 2) rfl) me_int) (fun h => ?_) fun h => ms_nil ?_)
  · replace hx := cond_t hx h
    replace hx := bd_some hx
    obtain ⟨v1, hv1, hx⟩ := hx
    replace hx := bd_some hx
    obtain ⟨v2, hv2, hx⟩ := hx
    refine ms_one (m_ret (ps_ret pe_w) (ME.r (me_tup (mf_cons (me_ixLT (xs := [("cause" : Str), ("thing" : Str)]) (enc := D.str) hv1 (ME.l (me_lst (ds := [("cause" : Str), ("thing" : Str)].map D.str) (mf_cons me_str (mf_cons me_str mf_nil)))) (me_sub (me_var (pv 2) rfl) me_int)) (mf_cons (me_ixLT (xs := pools_here.1) (enc := D.str) hv2 (MV.l (ME.v (me_ixT (MV.u (ME.v (me_var (pv 1) rfl)) (.fz _)) me_int rfl)) (.fz _)) (me_mod (me_var (pv 3) rfl) me_int (by decide))) mf_nil)))) ?_)
    cases hx; rfl
  replace hx := cond_f hx h
  refine ms_cons (m_if (t := (decide (way < 5))) (mt_lt (me_var (pv 2) rfl) me_int) (fun h => ?_) fun h => ms_nil ?_)
  · replace hx := cond_t hx h
    replace hx := bd_some hx
    obtain ⟨v3, hv3, hx⟩ := hx
    refine ms_cons (m_set (ps_set (i := 4) nd rfl (Or.inl rfl) pe_w) (me_ixLT (xs := pools_here.2.1) (enc := D.int) hv3 (MV.l (ME.v (me_ixT (MV.u (ME.v (me_var (pv 1) rfl)) (.fz _)) me_int rfl)) (.fz _)) (me_mod (me_var (pv 3) rfl) me_int (by decide))) ?_)
    show MS _ [some (.fz (.int number)), some (.fz (e_T_L_s_L_i_L_i pools_here)), some (.fz (.int way)), some (.fz (.int at_0)), some (.fz (.int v3)), none] _ _
    replace hx := bd_some hx
    obtain ⟨v4, hv4, hx⟩ := hx
    refine ms_cons (m_set (ps_set (i := 5) nd rfl (Or.inl rfl) pe_w) (me_ixLT (xs := pools_here.2.1) (enc := D.int) hv4 (MV.l (ME.v (me_ixT (MV.u (ME.v (me_var (pv 1) rfl)) (.fz _)) me_int rfl)) (.fz _)) (me_mod (me_fdiv (me_var (pv 3) rfl) me_int ⟨by decide, by decide⟩) me_int (by decide))) ?_)
    show MS _ [some (.fz (.int number)), some (.fz (e_T_L_s_L_i_L_i pools_here)), some (.fz (.int way)), some (.fz (.int at_0)), some (.fz (.int v3)), some (.fz (.int v4))] _ _
    refine ms_one (m_ret (ps_ret pe_w) (ME.r (me_tup (mf_cons me_str (mf_cons (me_min rfl (by rfl) z_min (me_var (pv 4) rfl) (me_var (pv 5) rfl)) (mf_cons (me_max rfl (by rfl) z_max (me_var (pv 4) rfl) (me_var (pv 5) rfl)) mf_nil))))) ?_)
    cases hx; rfl
  replace hx := cond_f hx h
  replace hx := bd_some hx
  obtain ⟨v5, hv5, hx⟩ := hx
  refine ms_one (m_ret (ps_ret pe_w) (ME.r (me_tup (mf_cons me_str (mf_cons (me_ixLT (xs := pools_here.2.2) (enc := D.int) hv5 (MV.l (ME.v (me_ixT (MV.u (ME.v (me_var (pv 1) rfl)) (.fz _)) me_int rfl)) (.fz _)) (me_mod (me_var (pv 3) rfl) me_int (by decide))) mf_nil)))) ?_)
  cases hx; rfl

abbrev e_T_i_i (p : (Int × Int)) : D := .tup [.int p.1, .int p.2]
abbrev e_T_d_i_i (p : (D × Int × Int)) : D := .tup [p.1, .int p.2.1, .int p.2.2]
noncomputable def M__law_bracketed (node : (D × Int × Int)) (least : Int) : Option (Int × Int) :=
  bd (ixD node.1 (0 : Int)) fun v1 =>
  bd (asS v1) fun v2 =>
  cond (decide ((dgI [(("all" : Str), (2 : Int)), (("some" : Str), (1 : Int))] v2 (3 : Int)) < least)) (some ((node.2.1 + 2), (node.2.2 + 1))) <|
  some (node.2.1, node.2.2)
def sp__law_bracketed (K : PySem.W.Frag) : Sp := SpF K (fun x : (D × Int × Int) × Int => [.fz (e_T_d_i_i x.1), .fz (.int x.2)]) (fun x => M__law_bracketed x.1 x.2) (fun r => .fz (e_T_i_i r))
abbrev N__law_bracketed : List Str := ["_law_node", "_law_least"]
theorem sc__law_bracketed : FnScope N__law_bracketed ["_law_node", "_law_least"] (defScope s__law_bracketed) := ⟨rfl, rfl, rfl, by decide +kernel, rfl, by decide +kernel, by decide +kernel⟩
theorem ok__law_bracketed {f : Addr} {fd : FuncData} (F : Fun K "_law_bracketed" "_law_bracketed" s__law_bracketed f fd)  : FnOk P w K mg base CX0 1 f fd ["_law_node", "_law_least"] (sp__law_bracketed K) := by
  refine fn_m F sc__law_bracketed (fun x => rfl) (fun x _ => rfl) fun cdv A outer s H E hr x hx => ?_
  obtain ⟨⟨node, least⟩, r⟩ := x
  replace hx : M__law_bracketed node least = some r := hx
  have nd := sc__law_bracketed.nd
  unfold M__law_bracketed at hx
  show MS _ [some (.fz (e_T_d_i_i node)), some (.fz (.int least))] _ _
  replace hx := bd_some hx
  obtain ⟨v1, hv1, hx⟩ := hx
  replace hx := bd_some hx
  obtain ⟨v2, hv2, hx⟩ := hx
  refine ms_cons (m_if (t := (decide ((dgI [(("all" : Str), (2 : Int)), (("some" : Str), (1 : Int))] v2 (3 : Int)) < least))) (mt_lt (me_dget (kvs := [(("all" : Str), (2 : Int)), (("some" : Str), (1 : Int))]) hr.units (mps_cons (mps_cons mps_nil)) (ME.is (o' := .fz (.str v2)) (me_ixD hv1 (me_ixT (MV.u (ME.v (me_var (pv 0) rfl)) (.fz _)) me_int rfl) me_int) (asS_is hv2)) me_int) (me_var (pv 1) rfl)) (fun h => ?_) fun h => ms_nil ?_)
  · replace hx := cond_t hx h
    refine ms_one (m_ret (ps_ret pe_w) (ME.r (me_tup (mf_cons (me_add (me_ixT (MV.u (ME.v (me_var (pv 0) rfl)) (.fz _)) me_int rfl) me_int) (mf_cons (me_add (me_ixT (MV.u (ME.v (me_var (pv 0) rfl)) (.fz _)) me_int rfl) me_int) mf_nil)))) ?_)
    cases hx; rfl
  replace hx := cond_f hx h
  refine ms_one (m_ret (ps_ret pe_w) (ME.r (me_tup (mf_cons (me_ixT (MV.u (ME.v (me_var (pv 0) rfl)) (.fz _)) me_int rfl) (mf_cons (me_ixT (MV.u (ME.v (me_var (pv 0) rfl)) (.fz _)) me_int rfl) mf_nil)))) ?_)
  cases hx; rfl

abbrev e_T_s_L_d (p : (Str × (List D))) : D := .tup [.str p.1, .lst (p.2.map e_d)]
noncomputable def M__law_join (row : (List (D × Int × Int))) (kind : Str) : Option (D × Int × Int) :=
  lt ((row.length : Int) - 1) fun size =>
  bd (lp (fun (x2 : (D × Int × Int)) (p1 : Int × Int) => (bd (L2.atI [2, 3] (if ((kind == ("all" : Str))) then 1 else 0)) fun v4 =>
    bd (M__law_bracketed x2 v4) fun v5 =>
    lt (p1.1 + v5.1) fun size_1 =>
    lt (max p1.2 v5.2) fun deep =>
    some (size_1, deep) : Option (Int × Int))) row (size, 0)) fun p3 =>
  gd (row.length < sizeLine) <|
  bd (mpO (fun x7 : (D × Int × Int) => some x7.1) row) fun v8 =>
  some ((e_T_s_L_d (kind, v8)), p3.1, p3.2)
def sp__law_join (K : PySem.W.Frag) : Sp := SpF K (fun x : (List (D × Int × Int)) × Str => [.fz (.lst (x.1.map e_T_d_i_i)), .fz (.str x.2)]) (fun x => M__law_join x.1 x.2) (fun r => .fz (e_T_d_i_i r))
abbrev N__law_join : List Str := ["_law_row", "_law_kind", "_law_size", "_law_deep", "_law_node", "_law_more_here"]
theorem sc__law_join : FnScope N__law_join ["_law_row", "_law_kind"] (defScope s__law_join) := ⟨rfl, rfl, rfl, by decide +kernel, rfl, by decide +kernel, by decide +kernel⟩
theorem ok__law_join {f : Addr} {fd : FuncData} (F : Fun K "_law_join" "_law_join" s__law_join f fd) (z_len : mg "len" = none) (z_int : mg "int" = none) (z_max : mg "max" = none) (c__law_bracketed : Fn1 P w K mg base "_law_bracketed" 1 ["_law_node", "_law_least"] (sp__law_bracketed K)) : FnOk P w K mg base CX0 2 f fd ["_law_row", "_law_kind"] (sp__law_join K) := by
  refine fn_m F sc__law_join (fun x => rfl) (fun x _ => rfl) fun cdv A outer s H E hr x hx => ?_
  obtain ⟨⟨row, kind⟩, r⟩ := x
  replace hx : M__law_join row kind = some r := hx
  have nd := sc__law_join.nd
  unfold M__law_join at hx
  show MS _ [some (.fz (.lst (row.map e_T_d_i_i))), some (.fz (.str kind)), none, none, none, none] _ _
  replace hx := lt_some hx
  obtain ⟨size, esize, hx⟩ := hx
  refine ms_cons (m_set (ps_set (i := 2) nd rfl (Or.inl rfl) pe_w) (ME.is (o' := (.fz (.int size))) (me_sub (me_lenLT (xs := row) (enc := e_T_d_i_i) (by rfl) z_len (ml_var (pv 0) rfl)) me_int) (by rw [esize] <;> rfl)) ?_)
  show MS _ [some (.fz (.lst (row.map e_T_d_i_i))), some (.fz (.str kind)), some (.fz (.int size)), none, none, none] _ _
  refine ms_cons (m_set (ps_set (i := 3) nd rfl (Or.inl rfl) pe_w) me_int ?_)
  show MS _ [some (.fz (.lst (row.map e_T_d_i_i))), some (.fz (.str kind)), some (.fz (.int size)), some (.fz (.int (0 : Int))), none, none] _ _
  replace hx := bd_some hx
  obtain ⟨p3, hp3, hx⟩ := hx
  refine ms_cons (m_forP (xs := row) (enc := e_T_d_i_i) (ps_for PassesOwn.never rfl (pi_list pe_w) (pg_name (i := 4) nd rfl (Or.inl rfl)) pss_w) (by exact (mi_list (ds := row.map e_T_d_i_i) (mk_var (pv 0) rfl))) hp3 (fun p1 => [some (.fz (.lst (row.map e_T_d_i_i))), some (.fz (.str kind)), some (.fz (.int p1.1)), some (.fz (.int p1.2)), none, none]) le_auto (fun x2 p1 p1o mx hx => ?_) fun τ le => ?_)
  ·
    refine ⟨_, _, mg_name, ?_⟩
    show MS _ [some (.fz (.lst (row.map e_T_d_i_i))), some (.fz (.str kind)), some (.fz (.int p1.1)), some (.fz (.int p1.2)), some (.fz (e_T_d_i_i x2)), none] _ _
    replace hx := bd_some hx
    obtain ⟨v4, hv4, hx⟩ := hx
    replace hx := bd_some hx
    obtain ⟨v5, hv5, hx⟩ := hx
    refine ms_cons (m_set (ps_set (i := 5) nd rfl (Or.inl rfl) pe_w) (me_fn c__law_bracketed ((x2, v4), v5) (ma_fz (me_var (pv 4) rfl) (ma_fz (me_ixLT (xs := [2, 3]) (enc := D.int) hv4 (ME.l (me_lst (ds := [2, 3].map D.int) (mf_cons me_int (mf_cons me_int mf_nil)))) (me_intB (by rfl) z_int (me_eqS (me_var (pv 1) rfl) me_str))) ma_nil)) hv5 (hr.mono (by decide))) ?_)
    show MS _ [some (.fz (.lst (row.map e_T_d_i_i))), some (.fz (.str kind)), some (.fz (.int p1.1)), some (.fz (.int p1.2)), some (.fz (e_T_d_i_i x2)), some (.fz (e_T_i_i v5))] _ _
    replace hx := lt_some hx
    obtain ⟨size_1, esize_1, hx⟩ := hx
    refine ms_cons (m_set (ps_set (i := 2) nd rfl (Or.inl rfl) pe_w) (ME.is (o' := (.fz (.int size_1))) (me_add (me_var (pv 2) rfl) (me_ixT (MV.u (ME.v (me_var (pv 5) rfl)) (.fz _)) me_int rfl)) (by rw [esize_1] <;> rfl)) ?_)
    show MS _ [some (.fz (.lst (row.map e_T_d_i_i))), some (.fz (.str kind)), some (.fz (.int size_1)), some (.fz (.int p1.2)), some (.fz (e_T_d_i_i x2)), some (.fz (e_T_i_i v5))] _ _
    replace hx := lt_some hx
    obtain ⟨deep, edeep, hx⟩ := hx
    refine ms_one (m_set (ps_set (i := 3) nd rfl (Or.inl rfl) pe_w) (ME.is (o' := (.fz (.int deep))) (me_max rfl (by rfl) z_max (me_var (pv 3) rfl) (me_ixT (MV.u (ME.v (me_var (pv 5) rfl)) (.fz _)) me_int rfl)) (by rw [edeep] <;> rfl)) ?_)
    cases hx; exact le_auto
  refine ms_le le ?_
  show MS _ [some (.fz (.lst (row.map e_T_d_i_i))), some (.fz (.str kind)), some (.fz (.int p3.1)), some (.fz (.int p3.2)), none, none] _ _
  replace hx := gd_some hx
  obtain ⟨g6, hx⟩ := hx
  replace hx := bd_some hx
  obtain ⟨v8, hv8, hx⟩ := hx
  refine ms_one (m_ret (ps_ret pe_w) (ME.r (me_tup (mf_cons (me_tup (mf_cons (me_var (pv 1) rfl) (mf_cons (ME.frzl (by exact (me_lcO (g := (gName 4)) (xs := row) (ys := v8) (enc := e_T_d_i_i) (enc2 := e_d) hv8 (fun te he => pe_lc (own := [("_law_node", 4)]) rfl nd (pi_list pe_w) (blkOk_by (N := N__law_join) (sc := defScope s__law_join) (by decide +kernel)) (fun _ _ _ _ _ => (pg_name (i := 4) nd rfl (Or.inl rfl))) (fun _ _ _ _ _ => pts_nil) he) (mic_list (ml_var (pv 0) rfl)) g6 (fun x7 mx x7y hx => by injection hx with hx; subst x7y; exact ⟨_, _, mg_name, by decide, fun s H C cl fp => (me_ixT (MV.u (ME.v (me_var (pv 4) rfl)) (.fz _)) me_int rfl)⟩)))) mf_nil))) (mf_cons (me_var (pv 2) rfl) (mf_cons (me_var (pv 3) rfl) mf_nil))))) ?_)
  cases hx; rfl

abbrev e_N_T_d_i_i (p : (Option (D × Int × Int))) : D := match p with
  | some v => e_T_d_i_i v
  | none => .non
abbrev e_T_s_d (p : (Str × D)) : D := .tup [.str p.1, p.2]
noncomputable def M__law_step (row : (List (D × Int × Int))) (number : Int) (pools_here : ((List Str) × (List Int) × (List Int))) : Option (List (D × Int × Int)) :=
  lt (number % 8) fun way =>
  lt (min (row.length : Int) (2 + ((number / 8) % 7))) fun size =>
  bd (cond ((way == 4)) (gd (D.ok (.lst (row.map e_T_d_i_i)) ∧ D.ok (.lst (([] : List (D × Int × Int)).map e_T_d_i_i))) <| some (!(D.eqv (.lst (row.map e_T_d_i_i)) (.lst (([] : List (D × Int × Int)).map e_T_d_i_i))))) (some false)) fun v2 =>
  bd (cond v2 (bd (L2.atI row (-(1 : Int))) fun v5 =>
    bd (M__law_bracketed v5 (3 : Int)) fun v6 =>
    bd (L2.atI row (-(1 : Int))) fun v7 =>
    lt (some ((e_T_s_d (("not" : Str), v7.1)), (v6.1 + 1), (v6.2 + 1))) fun made =>
    some (1, made)) (some (size, none)) : Option (Int × (Option (D × Int × Int)))) fun p4 =>
  bd (cond ((decide (4 < way)) && (decide (1 < p4.1))) (bd (L2.atI [("all" : Str), ("some" : Str)] ((number / 64) % 2)) fun v9 =>
    bd (M__law_join (cutG row (some (-p4.1)) none) v9) fun v10 =>
    lt (some v10) fun made_1 =>
    some made_1) (some p4.2) : Option ((Option (D × Int × Int)))) fun p8 =>
  bd (cond (p8.isNone) (some true) (bd p8 fun v11 => bd (cond (decide (60 < v11.2.1)) (some true) (bd p8 fun v12 => some (decide (6 < v12.2.2)))) fun v13 => some v13)) fun v15 =>
  cond v15 (bd (M__law_leaf (number / 8) pools_here) fun v17 =>
    bd (ixD v17 (0 : Int)) fun v18 =>
    bd (asS v18) fun v19 =>
    gd (row.length + [(v17, (dgI [(("always" : Str), (1 : Int)), (("days" : Str), (3 : Int))] v19 (2 : Int)), 0)].length ≤ sizeLine) <|
    some (row ++ [(v17, (dgI [(("always" : Str), (1 : Int)), (("days" : Str), (3 : Int))] v19 (2 : Int)), 0)])) <|
  bd p8 fun v21 =>
  gd ((cutG row none (some ((row.length : Int) - p4.1))).length + [v21].length ≤ sizeLine) <|
  some ((cutG row none (some ((row.length : Int) - p4.1))) ++ [v21])
def sp__law_step (K : PySem.W.Frag) : Sp := SpF K (fun x : (List (D × Int × Int)) × Int × ((List Str) × (List Int) × (List Int)) => [.fz (.lst (x.1.map e_T_d_i_i)), .fz (.int x.2.1), .fz (e_T_L_s_L_i_L_i x.2.2)]) (fun x => M__law_step x.1 x.2.1 x.2.2) (fun r => .lst ((r.map e_T_d_i_i).map .fz))
abbrev N__law_step : List Str := ["_law_row", "_law_number", "_law_pools_here", "_law_way", "_law_size", "_law_made", "_law_more_here", "_law_leaf_here"]
theorem sc__law_step : FnScope N__law_step ["_law_row", "_law_number", "_law_pools_here"] (defScope s__law_step) := ⟨rfl, rfl, rfl, by decide +kernel, rfl, by decide +kernel, by decide +kernel⟩
theorem ok__law_step {f : Addr} {fd : FuncData} (F : Fun K "_law_step" "_law_step" s__law_step f fd) (z_min : mg "min" = none) (z_len : mg "len" = none) (c__law_bracketed : Fn1 P w K mg base "_law_bracketed" 1 ["_law_node", "_law_least"] (sp__law_bracketed K)) (c__law_join : Fn1 P w K mg base "_law_join" 2 ["_law_row", "_law_kind"] (sp__law_join K)) (c__law_leaf : Fn1 P w K mg base "_law_leaf" 1 ["_law_number", "_law_pools_here"] (sp__law_leaf K)) : FnOk P w K mg base CX0 3 f fd ["_law_row", "_law_number", "_law_pools_here"] (sp__law_step K) := by
  refine fn_m F sc__law_step (fun x => rfl) (fun x _ => O.nvL_fz _) fun cdv A outer s H E hr x hx => ?_
  obtain ⟨⟨row, number, pools_here⟩, r⟩ := x
  replace hx : M__law_step row number pools_here = some r := hx
  have nd := sc__law_step.nd
  unfold M__law_step at hx
  show MS _ [some (.fz (.lst (row.map e_T_d_i_i))), some (.fz (.int number)), some (.fz (e_T_L_s_L_i_L_i pools_here)), none, none, none, none, none] _ _
  replace hx := lt_some hx
  obtain ⟨way, eway, hx⟩ := hx
  refine ms_cons (m_set (ps_set (i := 3) nd rfl (Or.inl rfl) pe_w) (ME.is (o' := (.fz (.int way))) (me_mod (me_var (pv 1) rfl) me_int (by decide)) (by rw [eway] <;> rfl)) ?_)
  show MS _ [some (.fz (.lst (row.map e_T_d_i_i))), some (.fz (.int number)), some (.fz (e_T_L_s_L_i_L_i pools_here)), some (.fz (.int way)), none, none, none, none] _ _
  replace hx := lt_some hx
  obtain ⟨size, esize, hx⟩ := hx
  refine ms_cons (m_set (ps_set (i := 4) nd rfl (Or.inl rfl) pe_w) (ME.is (o' := (.fz (.int size))) (me_min rfl (by rfl) z_min (me_lenLT (xs := row) (enc := e_T_d_i_i) (by rfl) z_len (ml_var (pv 0) rfl)) (me_add me_int (me_mod (me_fdiv (me_var (pv 1) rfl) me_int ⟨by decide, by decide⟩) me_int (by decide)))) (by rw [esize] <;> rfl)) ?_)
  show MS _ [some (.fz (.lst (row.map e_T_d_i_i))), some (.fz (.int number)), some (.fz (e_T_L_s_L_i_L_i pools_here)), some (.fz (.int way)), some (.fz (.int size)), none, none, none] _ _
  refine ms_cons (m_set (ps_set (i := 5) nd rfl (Or.inl rfl) pe_w) me_non ?_)
  show MS _ [some (.fz (.lst (row.map e_T_d_i_i))), some (.fz (.int number)), some (.fz (e_T_L_s_L_i_L_i pools_here)), some (.fz (.int way)), some (.fz (.int size)), some (.fz (e_N_T_d_i_i none)), none, none] _ _
  replace hx := bd_some hx
  obtain ⟨v2, hv2, hx⟩ := hx
  replace hx := bd_some hx
  obtain ⟨p4, hp4, hx⟩ := hx
  refine ms_cons (m_ifP (out := p4) (fun p4 => [some (.fz (.lst (row.map e_T_d_i_i))), some (.fz (.int number)), some (.fz (e_T_L_s_L_i_L_i pools_here)), some (.fz (.int way)), some (.fz (.int p4.1)), some (.fz (e_N_T_d_i_i p4.2)), none, none]) (t := v2) (MW.t (MW.is (mw_and (mt_eqI (me_var (pv 3) rfl) me_int) fun q3 => (by have hx := cond_t hv2 q3; replace hx := gd_some hx; obtain ⟨g1, hx⟩ := hx; cases hx; exact (mw_and1 (mt_neDT (d1 := .lst (row.map e_T_d_i_i)) (d2 := .lst (([] : List (D × Int × Int)).map e_T_d_i_i)) hr.units g1 rfl frz_own (mv_var (pv 0) rfl) (ME.v (me_lst (ds := [].map e_T_d_i_i) mf_nil)))))) (and_c hv2))) (fun h => ?_) (fun h => ?_) fun τ le => ?_)
  · replace hx := cond_t hp4 h
    refine ms_cons (m_set (ps_set (i := 4) nd rfl (Or.inl rfl) pe_w) me_int ?_)
    show MS _ [some (.fz (.lst (row.map e_T_d_i_i))), some (.fz (.int number)), some (.fz (e_T_L_s_L_i_L_i pools_here)), some (.fz (.int way)), some (.fz (.int (1 : Int))), some (.fz (e_N_T_d_i_i none)), none, none] _ _
    replace hx := bd_some hx
    obtain ⟨v5, hv5, hx⟩ := hx
    replace hx := bd_some hx
    obtain ⟨v6, hv6, hx⟩ := hx
    refine ms_cons (m_set (ps_set (i := 6) nd rfl (Or.inl rfl) pe_w) (me_fn c__law_bracketed ((v5, 3), v6) (ma_fz (me_ixLT (xs := row) (enc := e_T_d_i_i) hv5 (ml_var (pv 0) rfl) (me_neg me_int)) (ma_fz me_int ma_nil)) hv6 (hr.mono (by decide))) ?_)
    show MS _ [some (.fz (.lst (row.map e_T_d_i_i))), some (.fz (.int number)), some (.fz (e_T_L_s_L_i_L_i pools_here)), some (.fz (.int way)), some (.fz (.int (1 : Int))), some (.fz (e_N_T_d_i_i none)), some (.fz (e_T_i_i v6)), none] _ _
    replace hx := bd_some hx
    obtain ⟨v7, hv7, hx⟩ := hx
    replace hx := lt_some hx
    obtain ⟨made, emade, hx⟩ := hx
    refine ms_one (m_set (ps_set (i := 5) nd rfl (Or.inl rfl) pe_w) (ME.is (o' := (.fz (e_N_T_d_i_i made))) (me_tup (mf_cons (me_tup (mf_cons me_str (mf_cons (me_ixT (MV.u (ME.v (me_ixLT (xs := row) (enc := e_T_d_i_i) hv7 (ml_var (pv 0) rfl) (me_neg me_int))) (.fz _)) me_int rfl) mf_nil))) (mf_cons (me_add (me_ixT (MV.u (ME.v (me_var (pv 6) rfl)) (.fz _)) me_int rfl) me_int) (mf_cons (me_add (me_ixT (MV.u (ME.v (me_var (pv 6) rfl)) (.fz _)) me_int rfl) me_int) mf_nil)))) (by rw [emade] <;> rfl)) ?_)
    cases hx; exact le_auto
  · replace hx := cond_f hp4 h
    refine ms_nil ?_
    cases hx; exact le_auto
  refine ms_le le ?_
  show MS _ [some (.fz (.lst (row.map e_T_d_i_i))), some (.fz (.int number)), some (.fz (e_T_L_s_L_i_L_i pools_here)), some (.fz (.int way)), some (.fz (.int p4.1)), some (.fz (e_N_T_d_i_i p4.2)), none, none] _ _
  replace hx := bd_some hx
  obtain ⟨p8, hp8, hx⟩ := hx
  refine ms_cons (m_ifP (out := p8) (fun p8 => [some (.fz (.lst (row.map e_T_d_i_i))), some (.fz (.int number)), some (.fz (e_T_L_s_L_i_L_i pools_here)), some (.fz (.int way)), some (.fz (.int p4.1)), some (.fz (e_N_T_d_i_i p8)), none, none]) (t := ((decide (4 < way)) && (decide (1 < p4.1)))) (MW.t (mw_and (mt_gt (me_var (pv 3) rfl) me_int) fun _ => (mw_and1 (mt_gt (me_var (pv 4) rfl) me_int)))) (fun h => ?_) (fun h => ?_) fun τ le => ?_)
  · replace hx := cond_t hp8 h
    replace hx := bd_some hx
    obtain ⟨v9, hv9, hx⟩ := hx
    replace hx := bd_some hx
    obtain ⟨v10, hv10, hx⟩ := hx
    replace hx := lt_some hx
    obtain ⟨made_1, emade_1, hx⟩ := hx
    refine ms_one (m_set (ps_set (i := 5) nd rfl (Or.inl rfl) pe_w) (ME.is (o' := (.fz (e_N_T_d_i_i made_1))) (me_fn c__law_join (((cutG row (some (-p4.1)) none), v9), v10) (ma_fz (ME.frzl (me_slLT (xs := row) (enc := e_T_d_i_i) (ml_var (pv 0) rfl) (.some (me_neg (me_var (pv 4) rfl))) .none)) (ma_fz (me_ixLT (xs := [("all" : Str), ("some" : Str)]) (enc := D.str) hv9 (ME.l (me_lst (ds := [("all" : Str), ("some" : Str)].map D.str) (mf_cons me_str (mf_cons me_str mf_nil)))) (me_mod (me_fdiv (me_var (pv 1) rfl) me_int ⟨by decide, by decide⟩) me_int (by decide))) ma_nil)) hv10 (hr.mono (by decide))) (by rw [emade_1] <;> rfl)) ?_)
    cases hx; exact le_auto
  · replace hx := cond_f hp8 h
    refine ms_nil ?_
    cases hx; exact le_auto
  refine ms_le le ?_
  show MS _ [some (.fz (.lst (row.map e_T_d_i_i))), some (.fz (.int number)), some (.fz (e_T_L_s_L_i_L_i pools_here)), some (.fz (.int way)), some (.fz (.int p4.1)), some (.fz (e_N_T_d_i_i p8)), none, none] _ _
  replace hx := bd_some hx
  obtain ⟨v15, hv15, hx⟩ := hx
  refine ms_cons (m_if (t := v15) (MW.t (MW.is (mw_or (MT.is (l := (p8.isNone)) (mt_isN (mv_var (pv 5) rfl)) (by cases p8 <;> rfl)) fun q16 => (by have hx := cond_f hv15 q16; replace hx := bd_some hx; obtain ⟨v11, hv11, hx⟩ := hx; replace hx := bd_some hx; obtain ⟨v13, hv13, hx⟩ := hx; first | (cases hx; exact (MW.is (mw_or (mt_gt (me_ixT (MV.u (ME.v (ME.is (o' := .fz (e_T_d_i_i v11)) (me_var (pv 5) rfl) (by rw [hv11]))) (.fz _)) me_int rfl) me_int) fun q14 => (by have hx := cond_f hv13 q14; replace hx := bd_some hx; obtain ⟨v12, hv12, hx⟩ := hx; cases hx; exact (mw_or1 (mt_gt (me_ixT (MV.u (ME.v (ME.is (o' := .fz (e_T_d_i_i v12)) (me_var (pv 5) rfl) (by rw [hv12]))) (.fz _)) me_int rfl) me_int)))) (or_c hv13))) | (injection hx with hx; subst hx; exact (MW.is (mw_or (mt_gt (me_ixT (MV.u (ME.v (ME.is (o' := .fz (e_T_d_i_i v11)) (me_var (pv 5) rfl) (by rw [hv11]))) (.fz _)) me_int rfl) me_int) fun q14 => (by have hx := cond_f hv13 q14; replace hx := bd_some hx; obtain ⟨v12, hv12, hx⟩ := hx; cases hx; exact (mw_or1 (mt_gt (me_ixT (MV.u (ME.v (ME.is (o' := .fz (e_T_d_i_i v12)) (me_var (pv 5) rfl) (by rw [hv12]))) (.fz _)) me_int rfl) me_int)))) (or_c hv13))))) (or_c hv15))) (fun h => ?_) fun h => ms_nil ?_)
  · replace hx := cond_t hx h
    replace hx := bd_some hx
    obtain ⟨v17, hv17, hx⟩ := hx
    refine ms_cons (m_set (ps_set (i := 7) nd rfl (Or.inl rfl) pe_w) (me_fn c__law_leaf (((number / 8), pools_here), v17) (ma_fz (me_fdiv (me_var (pv 1) rfl) me_int ⟨by decide, by decide⟩) (ma_fz (me_var (pv 2) rfl) ma_nil)) hv17 (hr.mono (by decide))) ?_)
    show MS _ [some (.fz (.lst (row.map e_T_d_i_i))), some (.fz (.int number)), some (.fz (e_T_L_s_L_i_L_i pools_here)), some (.fz (.int way)), some (.fz (.int p4.1)), some (.fz (e_N_T_d_i_i p8)), none, some (.fz v17)] _ _
    replace hx := bd_some hx
    obtain ⟨v18, hv18, hx⟩ := hx
    replace hx := bd_some hx
    obtain ⟨v19, hv19, hx⟩ := hx
    replace hx := gd_some hx
    obtain ⟨g20, hx⟩ := hx
    refine ms_one (m_ret (ps_ret pe_w) (ME.r (me_catMM (xs := row) (ys := [(v17, (dgI [(("always" : Str), (1 : Int)), (("days" : Str), (3 : Int))] v19 (2 : Int)), 0)]) (enc := e_T_d_i_i) g20 (ml_var (pv 0) rfl) (ME.l (me_lst (ds := [(v17, (dgI [(("always" : Str), (1 : Int)), (("days" : Str), (3 : Int))] v19 (2 : Int)), 0)].map e_T_d_i_i) (mf_cons (me_tup (mf_cons (me_var (pv 7) rfl) (mf_cons (me_dget (kvs := [(("always" : Str), (1 : Int)), (("days" : Str), (3 : Int))]) hr.units (mps_cons (mps_cons mps_nil)) (ME.is (o' := .fz (.str v19)) (me_ixD hv18 (me_var (pv 7) rfl) me_int) (asS_is hv19)) me_int) (mf_cons me_int mf_nil)))) mf_nil))))) ?_)
    cases hx; rfl
  replace hx := cond_f hx h
  replace hx := bd_some hx
  obtain ⟨v21, hv21, hx⟩ := hx
  replace hx := gd_some hx
  obtain ⟨g22, hx⟩ := hx
  refine ms_one (m_ret (ps_ret pe_w) (ME.r (me_catLT (xs := (cutG row none (some ((row.length : Int) - p4.1)))) (ys := [v21]) (enc := e_T_d_i_i) g22 (ME.v (me_slLT (xs := row) (enc := e_T_d_i_i) (ml_var (pv 0) rfl) .none (.some (me_sub (me_lenLT (xs := row) (enc := e_T_d_i_i) (by rfl) z_len (ml_var (pv 0) rfl)) (me_var (pv 4) rfl))))) (ME.v (me_lst (ds := [v21].map e_T_d_i_i) (mf_cons (ME.is (o' := .fz (e_T_d_i_i v21)) (me_var (pv 5) rfl) (by rw [hv21])) mf_nil))))) ?_)
  cases hx; rfl

noncomputable def M__law_tree (script : (List Int)) (start : Int) (pools_here : ((List Str) × (List Int) × (List Int))) : Option D :=
  lt ([] : List (D × Int × Int)) fun row =>
  gd (-(2 ^ 62) ≤ start ∧ start < 2 ^ 62 ∧ -(2 ^ 62) ≤ (max (start + 9) (min (script.length : Int) (63 : Int))) ∧ (max (start + 9) (min (script.length : Int) (63 : Int))) < 2 ^ 62) <|
  bd (lp (fun (x3 : Nat) (p2 : (List (D × Int × Int))) => (bd (M__law_cell script (start + (x3 : Int))) fun v5 =>
    bd (M__law_mix v5 (start + (x3 : Int))) fun v6 =>
    bd (M__law_step p2 v6 pools_here) fun v7 =>
    some v7 : Option ((List (D × Int × Int))))) (List.range ((max (start + 9) (min (script.length : Int) (63 : Int))) - start).toNat) row) fun p4 =>
  bd (rgN (min (8 : Int) (p4.length : Int)) (1 : Int) (-(1 : Int))) fun n8 =>
  bd (lpO (fun (x10 : Nat) (p9 : Unit) => (bd (L2.atI [("some" : Str), ("all" : Str)] ((script.length : Int) % 2)) fun v12 =>
    bd (M__law_join (cutG p4 (some (-((min (8 : Int) (p4.length : Int)) + (x10 : Int) * (-(1 : Int))))) none) v12) fun v13 =>
    cond ((decide (v13.2.1 ≤ 60)) && (decide (v13.2.2 ≤ 6))) (some (.rt v13.1)) <|
    some (.nx ()) : Option (Ou (Unit) (Unit) D))) (List.range n8) ()) fun o11 => ouR o11 fun p9 =>
  bd (L2.atI p4 (-(1 : Int))) fun v14 =>
  some v14.1
def sp__law_tree (K : PySem.W.Frag) : Sp := SpF K (fun x : (List Int) × Int × ((List Str) × (List Int) × (List Int)) => [.vw (x.1.map D.int), .fz (.int x.2.1), .fz (e_T_L_s_L_i_L_i x.2.2)]) (fun x => M__law_tree x.1 x.2.1 x.2.2) (fun r => .fz r)
abbrev N__law_tree : List Str := ["_law_script", "_law_start", "_law_pools_here", "_law_row", "_law_k", "_law_size", "_law_made"]
theorem sc__law_tree : FnScope N__law_tree ["_law_script", "_law_start", "_law_pools_here"] (defScope s__law_tree) := ⟨rfl, rfl, rfl, by decide +kernel, rfl, by decide +kernel, by decide +kernel⟩
theorem ok__law_tree {f : Addr} {fd : FuncData} (F : Fun K "_law_tree" "_law_tree" s__law_tree f fd) (z_range : mg "range" = none) (z_max : mg "max" = none) (z_min : mg "min" = none) (z_len : mg "len" = none) (c__law_cell : Fn1 P w K mg base "_law_cell" 1 ["_law_script", "_law_k"] (sp__law_cell K)) (c__law_mix : Fn1 P w K mg base "_law_mix" 1 ["_law_number", "_law_k"] (sp__law_mix K)) (c__law_step : Fn1 P w K mg base "_law_step" 3 ["_law_row", "_law_number", "_law_pools_here"] (sp__law_step K)) (c__law_join : Fn1 P w K mg base "_law_join" 2 ["_law_row", "_law_kind"] (sp__law_join K)) : FnOk P w K mg base CX0 4 f fd ["_law_script", "_law_start", "_law_pools_here"] (sp__law_tree K) := by
  refine fn_m F sc__law_tree (fun x => rfl) (fun x _ => rfl) fun cdv A outer s H E hr x hx => ?_
  obtain ⟨⟨script, start, pools_here⟩, r⟩ := x
  replace hx : M__law_tree script start pools_here = some r := hx
  have nd := sc__law_tree.nd
  unfold M__law_tree at hx
  show MS _ [some (.vw (script.map D.int)), some (.fz (.int start)), some (.fz (e_T_L_s_L_i_L_i pools_here)), none, none, none, none] _ _
  replace hx := lt_some hx
  obtain ⟨row, erow, hx⟩ := hx
  refine ms_cons (m_set (ps_set (i := 3) nd rfl (Or.inl rfl) pe_w) (ME.is (o' := (.lst ((row.map e_T_d_i_i).map .fz))) (me_lst (ds := [].map e_T_d_i_i) mf_nil) (by rw [erow] <;> rfl)) ?_)
  show MS _ [some (.vw (script.map D.int)), some (.fz (.int start)), some (.fz (e_T_L_s_L_i_L_i pools_here)), some (.lst ((row.map e_T_d_i_i).map .fz)), none, none, none] _ _
  replace hx := gd_some hx
  obtain ⟨g1, hx⟩ := hx
  replace hx := bd_some hx
  obtain ⟨p4, hp4, hx⟩ := hx
  refine ms_cons (m_forP (xs := (List.range ((max (start + 9) (min (script.length : Int) (63 : Int))) - start).toNat)) (enc := (fun k : Nat => D.int (start + (k : Nat)))) (ps_for PassesOwn.never rfl (pi_range2 (by rfl) z_range pa_w) (pg_name (i := 4) nd rfl (Or.inl rfl)) pss_w) (by exact (mi_rangeT2 (mf_cons (me_var (pv 1) rfl) (mf_cons (me_max rfl (by rfl) z_max (me_add (me_var (pv 1) rfl) me_int) (me_min rfl (by rfl) z_min (me_lenLT (xs := script) (enc := D.int) (by rfl) z_len (ml_var (pv 0) rfl)) me_int)) mf_nil)) g1)) hp4 (fun p2 => [some (.vw (script.map D.int)), some (.fz (.int start)), some (.fz (e_T_L_s_L_i_L_i pools_here)), some (.lst ((p2.map e_T_d_i_i).map .fz)), none, none, none]) le_auto (fun x3 p2 p2o mx hx => ?_) fun τ le => ?_)
  ·
    refine ⟨_, _, mg_name, ?_⟩
    show MS _ [some (.vw (script.map D.int)), some (.fz (.int start)), some (.fz (e_T_L_s_L_i_L_i pools_here)), some (.lst ((p2.map e_T_d_i_i).map .fz)), some (.fz (.int (start + (x3 : Int)))), none, none] _ _
    refine ms_frzl (i := 3) rfl ?_
    show MS _ [some (.vw (script.map D.int)), some (.fz (.int start)), some (.fz (e_T_L_s_L_i_L_i pools_here)), some (.fz (.lst (p2.map e_T_d_i_i))), some (.fz (.int (start + (x3 : Int)))), none, none] _ _
    replace hx := bd_some hx
    obtain ⟨v5, hv5, hx⟩ := hx
    replace hx := bd_some hx
    obtain ⟨v6, hv6, hx⟩ := hx
    replace hx := bd_some hx
    obtain ⟨v7, hv7, hx⟩ := hx
    refine ms_one (m_set (ps_set (i := 3) nd rfl (Or.inl rfl) pe_w) (me_fn c__law_step ((p2, v6, pools_here), v7) (ma_fz (me_var (pv 3) rfl) (ma_fz (me_fn c__law_mix ((v5, (start + (x3 : Int))), v6) (ma_fz (me_fn c__law_cell ((script, (start + (x3 : Int))), v5) (ma_vw (ml_var (pv 0) rfl) (ma_fz (me_var (pv 4) rfl) ma_nil)) hv5 (hr.mono (by decide))) (ma_fz (me_var (pv 4) rfl) ma_nil)) hv6 (hr.mono (by decide))) (ma_fz (me_var (pv 2) rfl) ma_nil))) hv7 (hr.mono (by decide))) ?_)
    cases hx; exact le_auto
  refine ms_le le ?_
  show MS _ [some (.vw (script.map D.int)), some (.fz (.int start)), some (.fz (e_T_L_s_L_i_L_i pools_here)), some (.lst ((p4.map e_T_d_i_i).map .fz)), none, none, none] _ _
  replace hx := bd_some hx
  obtain ⟨n8, hn8, hx⟩ := hx
  replace hx := bd_some hx
  obtain ⟨o11, ho11, hx⟩ := hx
  refine ms_cons (m_forO (xs := (List.range n8)) (enc := (fun k : Nat => D.int ((min (8 : Int) (p4.length : Int)) + (k : Nat) * (-(1 : Int))))) (ps_for PassesOwn.never rfl (pi_range3 (by rfl) z_range pa_w) (pg_name (i := 5) nd rfl (Or.inl rfl)) pss_w) (by exact (mi_range3 (mf_cons (me_min rfl (by rfl) z_min me_int (me_lenLT (xs := p4) (enc := e_T_d_i_i) (by rfl) z_len (ml_var (pv 3) rfl))) (mf_cons me_int (mf_cons (me_neg me_int) mf_nil))) (rgN_ok hn8))) ho11 (fun p9 => [some (.vw (script.map D.int)), some (.fz (.int start)), some (.fz (e_T_L_s_L_i_L_i pools_here)), some (.lst ((p4.map e_T_d_i_i).map .fz)), none, none, none]) (fun r => .fz r) le_auto (fun x10 p9 p9o mx hx => ?_) (fun p9 τ e le => ?_) fun q e => ?_)
  ·
    refine ⟨_, _, mg_name, ?_⟩
    show MS _ [some (.vw (script.map D.int)), some (.fz (.int start)), some (.fz (e_T_L_s_L_i_L_i pools_here)), some (.lst ((p4.map e_T_d_i_i).map .fz)), none, some (.fz (.int ((min (8 : Int) (p4.length : Int)) + (x10 : Int) * (-(1 : Int))))), none] _ _
    replace hx := bd_some hx
    obtain ⟨v12, hv12, hx⟩ := hx
    replace hx := bd_some hx
    obtain ⟨v13, hv13, hx⟩ := hx
    refine ms_cons (m_set (ps_set (i := 6) nd rfl (Or.inl rfl) pe_w) (me_fn c__law_join (((cutG p4 (some (-((min (8 : Int) (p4.length : Int)) + (x10 : Int) * (-(1 : Int))))) none), v12), v13) (ma_fz (ME.frzl (me_slLT (xs := p4) (enc := e_T_d_i_i) (ml_var (pv 3) rfl) (.some (me_neg (me_var (pv 5) rfl))) .none)) (ma_fz (me_ixLT (xs := [("some" : Str), ("all" : Str)]) (enc := D.str) hv12 (ME.l (me_lst (ds := [("some" : Str), ("all" : Str)].map D.str) (mf_cons me_str (mf_cons me_str mf_nil)))) (me_mod (me_lenLT (xs := script) (enc := D.int) (by rfl) z_len (ml_var (pv 0) rfl)) me_int (by decide))) ma_nil)) hv13 (hr.mono (by decide))) ?_)
    show MS _ [some (.vw (script.map D.int)), some (.fz (.int start)), some (.fz (e_T_L_s_L_i_L_i pools_here)), some (.lst ((p4.map e_T_d_i_i).map .fz)), none, some (.fz (.int ((min (8 : Int) (p4.length : Int)) + (x10 : Int) * (-(1 : Int))))), some (.fz (e_T_d_i_i v13))] _ _
    refine ms_one (m_if (t := ((decide (v13.2.1 ≤ 60)) && (decide (v13.2.2 ≤ 6)))) (MW.t (mw_and (mt_le (me_ixT (MV.u (ME.v (me_var (pv 6) rfl)) (.fz _)) me_int rfl) me_int) fun _ => (mw_and1 (mt_le (me_ixT (MV.u (ME.v (me_var (pv 6) rfl)) (.fz _)) me_int rfl) me_int)))) (fun h => ?_) fun h => ms_nil ?_)
    · replace hx := cond_t hx h
      refine ms_one (m_ret (ps_ret pe_w) (ME.r (me_ixT (MV.u (ME.v (me_var (pv 6) rfl)) (.fz _)) me_int rfl)) ?_)
      cases hx; exact ⟨_, rfl, rfl⟩
    replace hx := cond_f hx h
    cases hx; exact ⟨_, rfl, le_auto⟩
  · subst e
    dsimp only [ouR] at hx
    refine ms_le le ?_
    show MS _ [some (.vw (script.map D.int)), some (.fz (.int start)), some (.fz (e_T_L_s_L_i_L_i pools_here)), some (.lst ((p4.map e_T_d_i_i).map .fz)), none, none, none] _ _
    replace hx := bd_some hx
    obtain ⟨v14, hv14, hx⟩ := hx
    refine ms_one (m_ret (ps_ret pe_w) (ME.r (me_ixT (MV.u (ME.v (me_ixLT (xs := p4) (enc := e_T_d_i_i) hv14 (ml_var (pv 3) rfl) (me_neg me_int))) (.fz _)) me_int rfl)) ?_)
    cases hx; rfl
  · subst e; cases hx; rfl
noncomputable def M_name_at (words : (List Str)) (at_0 : Int) : Option (Xr Xc Str) :=
  bd (cond ((at_0 == (words.length : Int))) (some true) (bd (L2.atI words at_0) fun v1 => bd (M_is_name v1) fun v2 => some (!v2))) fun v3 =>
  cond v3 (some (.er (.NoWords at_0))) <|
  bd (L2.atI words at_0) fun v5 =>
  some (.ok v5)
def sp_name_at (K : PySem.W.Frag) (C_NoWords C_TooDeep C_NoAmount : Addr) : Sp := SpFE K (fun x : (List Str) × Int => [.vw (x.1.map D.str), .fz (.int x.2)]) (fun x => M_name_at x.1 x.2) (t_Xc C_NoWords C_TooDeep C_NoAmount) (fun r => .fz (.str r))
abbrev N_name_at : List Str := ["words", "at"]
theorem sc_name_at : FnScope N_name_at ["words", "at"] (defScope s_name_at) := ⟨rfl, rfl, rfl, by decide +kernel, rfl, by decide +kernel, by decide +kernel⟩
theorem ok_name_at {f : Addr} {fd : FuncData} (F : Fun K "name_at" "name_at" s_name_at f fd) (z_len : mg "len" = none) (c_is_name : Fn1 P w K mg base "is_name" 1 ["thing"] (sp_is_name K)) (j_NoWords : XiC P w K mg base "NoWords" C_NoWords "at" 1 ["self", "at"]) : FnOk P w K mg base (L2.CX P w) 3 f fd ["words", "at"] (sp_name_at K C_NoWords C_TooDeep C_NoAmount) := by
  refine fn_mE F sc_name_at (fun x => rfl) (fun x _ => exO_nv (fun _ => rfl) x.2) fun cdv A outer s H E hr po x hx => ?_
  obtain ⟨⟨words, at_0⟩, r⟩ := x
  replace hx : M_name_at words at_0 = some r := hx
  have nd := sc_name_at.nd
  unfold M_name_at at hx
  show MS _ [some (.vw (words.map D.str)), some (.fz (.int at_0))] _ _
  replace hx := bd_some hx
  obtain ⟨v3, hv3, hx⟩ := hx
  refine ms_cons (m_if (t := v3) (MW.t (MW.is (mw_or (mt_eqI (me_var (pv 1) rfl) (me_lenLT (xs := words) (enc := D.str) (by rfl) z_len (ml_var (pv 0) rfl))) fun q4 => (by have hx := cond_f hv3 q4; replace hx := bd_some hx; obtain ⟨v1, hv1, hx⟩ := hx; replace hx := bd_some hx; obtain ⟨v2, hv2, hx⟩ := hx; cases hx; exact (mw_or1 (mt_not (mt_val (me_fn c_is_name (v1, v2) (ma_fz (me_ixLT (xs := words) (enc := D.str) hv1 (ml_var (pv 0) rfl) (me_var (pv 1) rfl)) ma_nil) hv2 (hr.mono (by decide)))))))) (or_c hv3))) (fun h => ?_) fun h => ms_nil ?_)
  · replace hx := cond_t hx h
    refine ms_one (m_raiseI j_NoWords (me_var (pv 1) rfl) (hr.mono (by decide)) ?_)
    cases hx; rfl
  replace hx := cond_f hx h
  replace hx := bd_some hx
  obtain ⟨v5, hv5, hx⟩ := hx
  refine ms_one (m_ret (ps_ret pe_w) (ME.r (me_ixLT (xs := words) (enc := D.str) hv5 (ml_var (pv 0) rfl) (me_var (pv 1) rfl))) ?_)
  cases hx; rfl

def Xc.is_NoAmount : Xc → Bool
  | .NoWords _ => false
  | .TooDeep => false
  | .NoAmount => true
noncomputable def M_cents_at (words : (List Str)) (at_0 : Int) : Option (Xr Xc Int) :=
  cond ((at_0 == (words.length : Int))) (some (.er (.NoWords at_0))) <|
  bd (L2.atI words at_0) fun v1 =>
  trS (M_read_cents v1) Xc.is_NoAmount (fun v2 =>
  some (.ok v2)) (.er (.NoWords at_0))
def sp_cents_at (K : PySem.W.Frag) (C_NoWords C_TooDeep C_NoAmount : Addr) : Sp := SpFE K (fun x : (List Str) × Int => [.vw (x.1.map D.str), .fz (.int x.2)]) (fun x => M_cents_at x.1 x.2) (t_Xc C_NoWords C_TooDeep C_NoAmount) (fun r => .fz (.int r))
abbrev N_cents_at : List Str := ["words", "at", "cents"]
theorem sc_cents_at : FnScope N_cents_at ["words", "at"] (defScope s_cents_at) := ⟨rfl, rfl, rfl, by decide +kernel, rfl, by decide +kernel, by decide +kernel⟩
theorem ok_cents_at {f : Addr} {fd : FuncData} (F : Fun K "cents_at" "cents_at" s_cents_at f fd) (z_len : mg "len" = none) (j_NoWords : XiC P w K mg base "NoWords" C_NoWords "at" 1 ["self", "at"]) (c_read_cents : MH.Fn1E P w K mg base "read_cents" 2 ["text"] (sp_read_cents K C_NoWords C_TooDeep C_NoAmount)) (jh_NoWords : XiH P w K mg base "NoWords" C_NoWords "at" 1 ["self", "at"]) (e_NoAmount : mg "NoAmount" = some (.ref C_NoAmount)) (v_NoAmount_NoAmount : PySem.W.exmOne K (.ref C_NoAmount) (.ref C_NoAmount) = some true) : FnOk P w K mg base (L2.CX P w) 3 f fd ["words", "at"] (sp_cents_at K C_NoWords C_TooDeep C_NoAmount) := by
  refine fn_mE F sc_cents_at (fun x => rfl) (fun x _ => exO_nv (fun _ => rfl) x.2) fun cdv A outer s H E hr po x hx => ?_
  obtain ⟨⟨words, at_0⟩, r⟩ := x
  replace hx : M_cents_at words at_0 = some r := hx
  have nd := sc_cents_at.nd
  unfold M_cents_at at hx
  show MS _ [some (.vw (words.map D.str)), some (.fz (.int at_0)), none] _ _
  refine ms_cons (m_if (t := ((at_0 == (words.length : Int)))) (mt_eqI (me_var (pv 1) rfl) (me_lenLT (xs := words) (enc := D.str) (by rfl) z_len (ml_var (pv 0) rfl))) (fun h => ?_) fun h => ms_nil ?_)
  · replace hx := cond_t hx h
    refine ms_one (m_raiseI j_NoWords (me_var (pv 1) rfl) (hr.mono (by decide)) ?_)
    cases hx; rfl
  replace hx := cond_f hx h
  replace hx := bd_some hx
  obtain ⟨v1, hv1, hx⟩ := hx
  rcases trS_some hx with ⟨xe3, hv2, cv2, hx⟩ | ⟨v2, hv2, hx⟩
  · refine ms_cons (m_tryS (hset := fun pn xe t h => ps_set (i := 2) nd rfl (Or.inl rfl) h) c_read_cents (v1, .er xe3) (fun pn xe => (ma_fz (me_ixLT (xs := words) (enc := D.str) hv1 (ml_var (pv 0) rfl) (me_var (pv 1) rfl)) ma_nil)) hv2 rfl (by cases xe3 <;> first | rfl | cases cv2) (show PySem.W.exmOne K (.ref ((t_Xc C_NoWords C_TooDeep C_NoAmount) xe3).C) (.ref C_NoAmount) = some true from by cases xe3 with | NoWords _ => cases cv2 | TooDeep => cases cv2 | NoAmount => exact v_NoAmount_NoAmount) ⟨rfl, by decide, .inl e_NoAmount⟩ jh_NoWords (fun a oe pn => (me_var (pv 1) rfl)) (fun hd => L2H.passesAt_of rfl hd) (hr.mono (by decide)) (hr.mono (by decide)) ?_)
    cases hx; rfl
  refine ms_cons (m_tryN ?_)
  refine ms_one (m_set (ps_set (i := 2) nd rfl (Or.inl rfl) pe_w) (me_fn (MH.Fn1E.ok c_read_cents) (v1, .ok v2) (ma_fz (me_ixLT (xs := words) (enc := D.str) hv1 (ml_var (pv 0) rfl) (me_var (pv 1) rfl)) ma_nil) ⟨hv2, (by intro _ z; cases z)⟩ (hr.mono (by decide))) ?_)
  refine ms_one (m_ret (ps_ret pe_w) (ME.r (me_var (pv 2) rfl)) ?_)
  cases hx; rfl

noncomputable def M_day_at (words : (List Str)) (at_0 : Int) : Option (Xr Xc Int) :=
  cond ((at_0 == (words.length : Int))) (some (.er (.NoWords at_0))) <|
  bd (L2.atI words at_0) fun v1 =>
  gd (v1.length ≤ sizeLine) <|
  bd (cond (decide ((v1.length : Int) < 1)) (some true) (gd (v1.length ≤ sizeLine) <| bd (cond (decide (7 < (v1.length : Int))) (some true) (gd (v1.length ≤ sizeLine) <| bd (cond (decide (1 < (v1.length : Int))) (bd (L2.atI v1.cps.toList (0 : Int)) fun c5 => gd (v1.length ≤ sizeLine) <| some (((sg1 c5) == ("0" : Str)))) (some false)) fun v7 => some v7)) fun v9 => some v9)) fun v11 =>
  cond v11 (some (.er (.NoWords at_0))) <|
  bd (lpO (fun (x14 : Nat) (p13 : Unit) => (cond (!decide (x14 ∈ ("0123456789" : Str).cps.toList)) (some (.rt (.er (.NoWords at_0)))) <|
    some (.nx ()) : Option (Ou (Unit) (Unit) (Xr Xc Int)))) v1.cps.toList ()) fun o15 => ouR o15 fun p13 =>
  bd (PySem.intText? v1) fun n16 =>
  gd (v1.length ≤ 640) <|
  bd (M_is_day n16) fun v18 =>
  cond (!v18) (some (.er (.NoWords at_0))) <|
  bd (PySem.intText? v1) fun n19 =>
  gd (v1.length ≤ 640) <|
  some (.ok n19)
def sp_day_at (K : PySem.W.Frag) (C_NoWords C_TooDeep C_NoAmount : Addr) : Sp := SpFE K (fun x : (List Str) × Int => [.vw (x.1.map D.str), .fz (.int x.2)]) (fun x => M_day_at x.1 x.2) (t_Xc C_NoWords C_TooDeep C_NoAmount) (fun r => .fz (.int r))
abbrev N_day_at : List Str := ["words", "at", "word", "sign"]
theorem sc_day_at : FnScope N_day_at ["words", "at"] (defScope s_day_at) := ⟨rfl, rfl, rfl, by decide +kernel, rfl, by decide +kernel, by decide +kernel⟩
theorem ok_day_at {f : Addr} {fd : FuncData} (F : Fun K "day_at" "day_at" s_day_at f fd) (z_len : mg "len" = none) (z_int : mg "int" = none) (g_FIGURES_wording : mg "FIGURES_wording" = some (.str "0123456789" tkFIGURES_wording)) (j_NoWords : XiC P w K mg base "NoWords" C_NoWords "at" 1 ["self", "at"]) (c_is_day : Fn1 P w K mg base "is_day" 2 ["thing"] (sp_is_day K)) : FnOk P w K mg base (L2.CX P w) 3 f fd ["words", "at"] (sp_day_at K C_NoWords C_TooDeep C_NoAmount) := by
  refine fn_mE F sc_day_at (fun x => rfl) (fun x _ => exO_nv (fun _ => rfl) x.2) fun cdv A outer s H E hr po x hx => ?_
  obtain ⟨⟨words, at_0⟩, r⟩ := x
  replace hx : M_day_at words at_0 = some r := hx
  have nd := sc_day_at.nd
  unfold M_day_at at hx
  show MS _ [some (.vw (words.map D.str)), some (.fz (.int at_0)), none, none] _ _
  refine ms_cons (m_if (t := ((at_0 == (words.length : Int)))) (mt_eqI (me_var (pv 1) rfl) (me_lenLT (xs := words) (enc := D.str) (by rfl) z_len (ml_var (pv 0) rfl))) (fun h => ?_) fun h => ms_nil ?_)
  · replace hx := cond_t hx h
    refine ms_one (m_raiseI j_NoWords (me_var (pv 1) rfl) (hr.mono (by decide)) ?_)
    cases hx; rfl
  replace hx := cond_f hx h
  replace hx := bd_some hx
  obtain ⟨v1, hv1, hx⟩ := hx
  refine ms_cons (m_set (ps_set (i := 2) nd rfl (Or.inl rfl) pe_w) (me_ixLT (xs := words) (enc := D.str) hv1 (ml_var (pv 0) rfl) (me_var (pv 1) rfl)) ?_)
  show MS _ [some (.vw (words.map D.str)), some (.fz (.int at_0)), some (.fz (.str v1)), none] _ _
  replace hx := gd_some hx
  obtain ⟨g2, hx⟩ := hx
  replace hx := bd_some hx
  obtain ⟨v11, hv11, hx⟩ := hx
  refine ms_cons (m_if (t := v11) (MW.t (MW.is (mw_or (mt_lt (me_lenS (by rfl) z_len (me_var (pv 2) rfl) g2) me_int) fun q12 => (by have hx := cond_f hv11 q12; replace hx := gd_some hx; obtain ⟨g3, hx⟩ := hx; replace hx := bd_some hx; obtain ⟨v9, hv9, hx⟩ := hx; first | (cases hx; exact (MW.is (mw_or (mt_gt (me_lenS (by rfl) z_len (me_var (pv 2) rfl) g3) me_int) fun q10 => (by have hx := cond_f hv9 q10; replace hx := gd_some hx; obtain ⟨g4, hx⟩ := hx; replace hx := bd_some hx; obtain ⟨v7, hv7, hx⟩ := hx; first | (cases hx; exact (mw_or1 (MW.t (MW.is (mw_and (mt_gt (me_lenS (by rfl) z_len (me_var (pv 2) rfl) g4) me_int) fun q8 => (by have hx := cond_t hv7 q8; replace hx := bd_some hx; obtain ⟨c5, hc5, hx⟩ := hx; replace hx := gd_some hx; obtain ⟨g6, hx⟩ := hx; cases hx; exact (mw_and1 (mt_eqS (me_ixS (me_var (pv 2) rfl) me_int g6 hc5) me_str)))) (and_c hv7))))) | (injection hx with hx; subst hx; exact (mw_or1 (MW.t (MW.is (mw_and (mt_gt (me_lenS (by rfl) z_len (me_var (pv 2) rfl) g4) me_int) fun q8 => (by have hx := cond_t hv7 q8; replace hx := bd_some hx; obtain ⟨c5, hc5, hx⟩ := hx; replace hx := gd_some hx; obtain ⟨g6, hx⟩ := hx; cases hx; exact (mw_and1 (mt_eqS (me_ixS (me_var (pv 2) rfl) me_int g6 hc5) me_str)))) (and_c hv7))))))) (or_c hv9))) | (injection hx with hx; subst hx; exact (MW.is (mw_or (mt_gt (me_lenS (by rfl) z_len (me_var (pv 2) rfl) g3) me_int) fun q10 => (by have hx := cond_f hv9 q10; replace hx := gd_some hx; obtain ⟨g4, hx⟩ := hx; replace hx := bd_some hx; obtain ⟨v7, hv7, hx⟩ := hx; first | (cases hx; exact (mw_or1 (MW.t (MW.is (mw_and (mt_gt (me_lenS (by rfl) z_len (me_var (pv 2) rfl) g4) me_int) fun q8 => (by have hx := cond_t hv7 q8; replace hx := bd_some hx; obtain ⟨c5, hc5, hx⟩ := hx; replace hx := gd_some hx; obtain ⟨g6, hx⟩ := hx; cases hx; exact (mw_and1 (mt_eqS (me_ixS (me_var (pv 2) rfl) me_int g6 hc5) me_str)))) (and_c hv7))))) | (injection hx with hx; subst hx; exact (mw_or1 (MW.t (MW.is (mw_and (mt_gt (me_lenS (by rfl) z_len (me_var (pv 2) rfl) g4) me_int) fun q8 => (by have hx := cond_t hv7 q8; replace hx := bd_some hx; obtain ⟨c5, hc5, hx⟩ := hx; replace hx := gd_some hx; obtain ⟨g6, hx⟩ := hx; cases hx; exact (mw_and1 (mt_eqS (me_ixS (me_var (pv 2) rfl) me_int g6 hc5) me_str)))) (and_c hv7))))))) (or_c hv9))))) (or_c hv11))) (fun h => ?_) fun h => ms_nil ?_)
  · replace hx := cond_t hx h
    refine ms_one (m_raiseI j_NoWords (me_var (pv 1) rfl) (hr.mono (by decide)) ?_)
    cases hx; rfl
  replace hx := cond_f hx h
  replace hx := bd_some hx
  obtain ⟨o15, ho15, hx⟩ := hx
  refine ms_cons (m_forO (xs := v1.cps.toList) (enc := (fun c => D.str ⟨#[c]⟩)) (ps_for po rfl (pi_str pe_w) (pg_name (i := 3) nd rfl (Or.inl rfl)) pss_w) (by exact (mi_strT (me_var (pv 2) rfl))) ho15 (fun p13 => [some (.vw (words.map D.str)), some (.fz (.int at_0)), some (.fz (.str v1)), none]) (fun r => exO (t_Xc C_NoWords C_TooDeep C_NoAmount) (fun r => .fz (.int r)) r) le_auto (fun x14 p13 p13o mx hx => ?_) (fun p13 τ e le => ?_) fun q e => ?_)
  ·
    refine ⟨_, _, mg_name, ?_⟩
    show MS _ [some (.vw (words.map D.str)), some (.fz (.int at_0)), some (.fz (.str v1)), some (.fz (.str (sg1 x14)))] _ _
    refine ms_one (m_if (t := (!decide (x14 ∈ ("0123456789" : Str).cps.toList))) (mt_niS (me_var (pv 3) rfl) (me_gS g_FIGURES_wording)) (fun h => ?_) fun h => ms_nil ?_)
    · replace hx := cond_t hx h
      refine ms_one (m_raiseI j_NoWords (me_var (pv 1) rfl) (hr.mono (by decide)) ?_)
      cases hx; exact ⟨_, rfl, rfl⟩
    replace hx := cond_f hx h
    cases hx; exact ⟨_, rfl, le_auto⟩
  · subst e
    dsimp only [ouR] at hx
    refine ms_le le ?_
    show MS _ [some (.vw (words.map D.str)), some (.fz (.int at_0)), some (.fz (.str v1)), none] _ _
    replace hx := bd_some hx
    obtain ⟨n16, hn16, hx⟩ := hx
    replace hx := gd_some hx
    obtain ⟨g17, hx⟩ := hx
    replace hx := bd_some hx
    obtain ⟨v18, hv18, hx⟩ := hx
    refine ms_cons (m_if (t := (!v18)) (mt_not (mt_val (me_fn c_is_day (n16, v18) (ma_fz (me_intS (by rfl) z_int (me_var (pv 2) rfl) hn16 g17) ma_nil) hv18 (hr.mono (by decide))))) (fun h => ?_) fun h => ms_nil ?_)
    · replace hx := cond_t hx h
      refine ms_one (m_raiseI j_NoWords (me_var (pv 1) rfl) (hr.mono (by decide)) ?_)
      cases hx; rfl
    replace hx := cond_f hx h
    replace hx := bd_some hx
    obtain ⟨n19, hn19, hx⟩ := hx
    replace hx := gd_some hx
    obtain ⟨g20, hx⟩ := hx
    refine ms_one (m_ret (ps_ret pe_w) (ME.r (me_intS (by rfl) z_int (me_var (pv 2) rfl) hn19 g20)) ?_)
    cases hx; rfl
  · subst e; cases hx; rfl

abbrev e_T_U_Cd_i (C_Condition C_CauseIs C_ThingIs C_DaysIn C_Over C_Not C_All C_Some : Addr) (p : (Cd × Int)) : D := .tup [(u_Cd C_Condition C_CauseIs C_ThingIs C_DaysIn C_Over C_Not C_All C_Some) p.1, .int p.2]
noncomputable def M_atom_at (words : (List Str)) (at_0 : Int) : Option (Xr Xc (Cd × Int)) :=
  bd (L2.atI words at_0) fun v1 =>
  cond ((v1 == ("always" : Str))) (some (.ok ((Cd.plain ()), (at_0 + 1)))) <|
  cond ((v1 == ("cause" : Str))) (bdx (M_name_at words (at_0 + 1)) fun v2 =>
    bd (M_CauseIs___init__ v2) fun v4 =>
    some (.ok ((Cd.cause v4), (at_0 + 2)))) <|
  cond ((v1 == ("thing" : Str))) (bdx (M_name_at words (at_0 + 1)) fun v5 =>
    bd (M_ThingIs___init__ v5) fun v7 =>
    some (.ok ((Cd.thing v7), (at_0 + 2)))) <|
  cond ((v1 == ("over" : Str))) (bdx (M_cents_at words (at_0 + 1)) fun v8 =>
    bd (M_Over___init__ v8) fun v10 =>
    some (.ok ((Cd.over v10), (at_0 + 2)))) <|
  cond (!(v1 == ("days" : Str))) (some (.er (.NoWords at_0))) <|
  bdx (M_day_at words (at_0 + 1)) fun v11 =>
  bdx (M_day_at words (at_0 + 2)) fun v13 =>
  cond (decide (v13 < v11)) (some (.er (.NoWords (at_0 + 2)))) <|
  bd (M_DaysIn___init__ v11 v13) fun v15 =>
  some (.ok ((Cd.days v15), (at_0 + 3)))
def sp_atom_at (K : PySem.W.Frag) (C_Condition C_CauseIs C_ThingIs C_DaysIn C_Over C_Not C_All C_Some C_NoWords C_TooDeep C_NoAmount : Addr) : Sp := SpFE K (fun x : (List Str) × Int => [.vw (x.1.map D.str), .fz (.int x.2)]) (fun x => M_atom_at x.1 x.2) (t_Xc C_NoWords C_TooDeep C_NoAmount) (fun r => .fz ((e_T_U_Cd_i C_Condition C_CauseIs C_ThingIs C_DaysIn C_Over C_Not C_All C_Some) r))
abbrev N_atom_at : List Str := ["words", "at", "word", "first", "last"]
theorem sc_atom_at : FnScope N_atom_at ["words", "at"] (defScope s_atom_at) := ⟨rfl, rfl, rfl, by decide +kernel, rfl, by decide +kernel, by decide +kernel⟩
theorem ok_atom_at {f : Addr} {fd : FuncData} (F : Fun K "atom_at" "atom_at" s_atom_at f fd) (p_Condition : MkP K C_Condition) (e_Condition : mg "Condition" = some (.ref C_Condition)) (c_name_at : Fn1E P w K mg base "name_at" 3 ["words", "at"] (sp_name_at K C_NoWords C_TooDeep C_NoAmount)) (i_CauseIs : Mk1 P w K mg base "CauseIs" C_CauseIs 1 ["self", "name"] (spI_CauseIs___init__ K C_CauseIs)) (i_ThingIs : Mk1 P w K mg base "ThingIs" C_ThingIs 1 ["self", "name"] (spI_ThingIs___init__ K C_ThingIs)) (c_cents_at : Fn1E P w K mg base "cents_at" 3 ["words", "at"] (sp_cents_at K C_NoWords C_TooDeep C_NoAmount)) (i_Over : Mk1 P w K mg base "Over" C_Over 1 ["self", "cents"] (spI_Over___init__ K C_Over)) (j_NoWords : XiC P w K mg base "NoWords" C_NoWords "at" 1 ["self", "at"]) (c_day_at : Fn1E P w K mg base "day_at" 3 ["words", "at"] (sp_day_at K C_NoWords C_TooDeep C_NoAmount)) (i_DaysIn : Mk1 P w K mg base "DaysIn" C_DaysIn 1 ["self", "first", "last"] (spI_DaysIn___init__ K C_DaysIn)) : FnOk P w K mg base (L2.CX P w) 4 f fd ["words", "at"] (sp_atom_at K C_Condition C_CauseIs C_ThingIs C_DaysIn C_Over C_Not C_All C_Some C_NoWords C_TooDeep C_NoAmount) := by
  refine fn_mE F sc_atom_at (fun x => rfl) (fun x _ => exO_nv (fun _ => rfl) x.2) fun cdv A outer s H E hr po x hx => ?_
  obtain ⟨⟨words, at_0⟩, r⟩ := x
  replace hx : M_atom_at words at_0 = some r := hx
  have nd := sc_atom_at.nd
  unfold M_atom_at at hx
  show MS _ [some (.vw (words.map D.str)), some (.fz (.int at_0)), none, none, none] _ _
  replace hx := bd_some hx
  obtain ⟨v1, hv1, hx⟩ := hx
  refine ms_cons (m_set (ps_set (i := 2) nd rfl (Or.inl rfl) pe_w) (me_ixLT (xs := words) (enc := D.str) hv1 (ml_var (pv 0) rfl) (me_var (pv 1) rfl)) ?_)
  show MS _ [some (.vw (words.map D.str)), some (.fz (.int at_0)), some (.fz (.str v1)), none, none] _ _
  refine ms_cons (m_if (t := ((v1 == ("always" : Str)))) (mt_eqS (me_var (pv 2) rfl) me_str) (fun h => ?_) fun h => ms_nil ?_)
  · replace hx := cond_t hx h
    refine ms_one (m_ret (ps_ret pe_w) (ME.r (me_tup (mf_cons (ME.as (ME.is (o' := .fz ((r_Condition C_Condition) ())) (ME.frz (me_plain p_Condition e_Condition) rfl) rfl) (u_Cd_plain C_Condition C_CauseIs C_ThingIs C_DaysIn C_Over C_Not C_All C_Some _).symm) (mf_cons (me_add (me_var (pv 1) rfl) me_int) mf_nil)))) ?_)
    cases hx; rfl
  replace hx := cond_f hx h
  refine ms_cons (m_if (t := ((v1 == ("cause" : Str)))) (mt_eqS (me_var (pv 2) rfl) me_str) (fun h => ?_) fun h => ms_nil ?_)
  · replace hx := cond_t hx h
    rcases bdx_some hx with ⟨xe3, hv2, hx⟩ | ⟨v2, hv2, hx⟩
    · refine ms_one (m_rzRet (ps_ret pe_w) (mz_tup (az_hd (mz_mkA i_CauseIs (az_hd (mz_fn c_name_at ((words, (at_0 + 1)), .er xe3) (ma_vw (ml_var (pv 0) rfl) (ma_fz (me_add (me_var (pv 1) rfl) me_int) ma_nil)) hv2 (hr.mono (by decide)))) (hr.mono (by decide))))) ?_)
      cases hx; rfl
    replace hx := bd_some hx
    obtain ⟨v4, hv4, hx⟩ := hx
    refine ms_one (m_ret (ps_ret pe_w) (ME.r (me_tup (mf_cons (ME.as (ME.is (o' := .fz ((r_CauseIs C_CauseIs) v4)) (ME.frz (me_make i_CauseIs (v2, v4) (ma_fz (me_fn (Fn1E.ok c_name_at) ((words, (at_0 + 1)), .ok v2) (ma_vw (ml_var (pv 0) rfl) (ma_fz (me_add (me_var (pv 1) rfl) me_int) ma_nil)) ⟨hv2, (by intro _ z; cases z)⟩ (hr.mono (by decide))) ma_nil) hv4 (hr.mono (by decide))) rfl) rfl) (u_Cd_cause C_Condition C_CauseIs C_ThingIs C_DaysIn C_Over C_Not C_All C_Some _).symm) (mf_cons (me_add (me_var (pv 1) rfl) me_int) mf_nil)))) ?_)
    cases hx; rfl
  replace hx := cond_f hx h
  refine ms_cons (m_if (t := ((v1 == ("thing" : Str)))) (mt_eqS (me_var (pv 2) rfl) me_str) (fun h => ?_) fun h => ms_nil ?_)
  · replace hx := cond_t hx h
    rcases bdx_some hx with ⟨xe6, hv5, hx⟩ | ⟨v5, hv5, hx⟩
    · refine ms_one (m_rzRet (ps_ret pe_w) (mz_tup (az_hd (mz_mkA i_ThingIs (az_hd (mz_fn c_name_at ((words, (at_0 + 1)), .er xe6) (ma_vw (ml_var (pv 0) rfl) (ma_fz (me_add (me_var (pv 1) rfl) me_int) ma_nil)) hv5 (hr.mono (by decide)))) (hr.mono (by decide))))) ?_)
      cases hx; rfl
    replace hx := bd_some hx
    obtain ⟨v7, hv7, hx⟩ := hx
    refine ms_one (m_ret (ps_ret pe_w) (ME.r (me_tup (mf_cons (ME.as (ME.is (o' := .fz ((r_ThingIs C_ThingIs) v7)) (ME.frz (me_make i_ThingIs (v5, v7) (ma_fz (me_fn (Fn1E.ok c_name_at) ((words, (at_0 + 1)), .ok v5) (ma_vw (ml_var (pv 0) rfl) (ma_fz (me_add (me_var (pv 1) rfl) me_int) ma_nil)) ⟨hv5, (by intro _ z; cases z)⟩ (hr.mono (by decide))) ma_nil) hv7 (hr.mono (by decide))) rfl) rfl) (u_Cd_thing C_Condition C_CauseIs C_ThingIs C_DaysIn C_Over C_Not C_All C_Some _).symm) (mf_cons (me_add (me_var (pv 1) rfl) me_int) mf_nil)))) ?_)
    cases hx; rfl
  replace hx := cond_f hx h
  refine ms_cons (m_if (t := ((v1 == ("over" : Str)))) (mt_eqS (me_var (pv 2) rfl) me_str) (fun h => ?_) fun h => ms_nil ?_)
  · replace hx := cond_t hx h
    rcases bdx_some hx with ⟨xe9, hv8, hx⟩ | ⟨v8, hv8, hx⟩
    · refine ms_one (m_rzRet (ps_ret pe_w) (mz_tup (az_hd (mz_mkA i_Over (az_hd (mz_fn c_cents_at ((words, (at_0 + 1)), .er xe9) (ma_vw (ml_var (pv 0) rfl) (ma_fz (me_add (me_var (pv 1) rfl) me_int) ma_nil)) hv8 (hr.mono (by decide)))) (hr.mono (by decide))))) ?_)
      cases hx; rfl
    replace hx := bd_some hx
    obtain ⟨v10, hv10, hx⟩ := hx
    refine ms_one (m_ret (ps_ret pe_w) (ME.r (me_tup (mf_cons (ME.as (ME.is (o' := .fz ((r_Over C_Over) v10)) (ME.frz (me_make i_Over (v8, v10) (ma_fz (me_fn (Fn1E.ok c_cents_at) ((words, (at_0 + 1)), .ok v8) (ma_vw (ml_var (pv 0) rfl) (ma_fz (me_add (me_var (pv 1) rfl) me_int) ma_nil)) ⟨hv8, (by intro _ z; cases z)⟩ (hr.mono (by decide))) ma_nil) hv10 (hr.mono (by decide))) rfl) rfl) (u_Cd_over C_Condition C_CauseIs C_ThingIs C_DaysIn C_Over C_Not C_All C_Some _).symm) (mf_cons (me_add (me_var (pv 1) rfl) me_int) mf_nil)))) ?_)
    cases hx; rfl
  replace hx := cond_f hx h
  refine ms_cons (m_if (t := (!(v1 == ("days" : Str)))) (mt_neS (me_var (pv 2) rfl) me_str) (fun h => ?_) fun h => ms_nil ?_)
  · replace hx := cond_t hx h
    refine ms_one (m_raiseI j_NoWords (me_var (pv 1) rfl) (hr.mono (by decide)) ?_)
    cases hx; rfl
  replace hx := cond_f hx h
  rcases bdx_some hx with ⟨xe12, hv11, hx⟩ | ⟨v11, hv11, hx⟩
  · refine ms_cons (m_rzAsg (ps_set (i := 3) nd rfl (Or.inl rfl) pe_w) (mz_fn c_day_at ((words, (at_0 + 1)), .er xe12) (ma_vw (ml_var (pv 0) rfl) (ma_fz (me_add (me_var (pv 1) rfl) me_int) ma_nil)) hv11 (hr.mono (by decide))) ?_)
    cases hx; rfl
  refine ms_cons (m_set (ps_set (i := 3) nd rfl (Or.inl rfl) pe_w) (me_fn (Fn1E.ok c_day_at) ((words, (at_0 + 1)), .ok v11) (ma_vw (ml_var (pv 0) rfl) (ma_fz (me_add (me_var (pv 1) rfl) me_int) ma_nil)) ⟨hv11, (by intro _ z; cases z)⟩ (hr.mono (by decide))) ?_)
  show MS _ [some (.vw (words.map D.str)), some (.fz (.int at_0)), some (.fz (.str v1)), some (.fz (.int v11)), none] _ _
  rcases bdx_some hx with ⟨xe14, hv13, hx⟩ | ⟨v13, hv13, hx⟩
  · refine ms_cons (m_rzAsg (ps_set (i := 4) nd rfl (Or.inl rfl) pe_w) (mz_fn c_day_at ((words, (at_0 + 2)), .er xe14) (ma_vw (ml_var (pv 0) rfl) (ma_fz (me_add (me_var (pv 1) rfl) me_int) ma_nil)) hv13 (hr.mono (by decide))) ?_)
    cases hx; rfl
  refine ms_cons (m_set (ps_set (i := 4) nd rfl (Or.inl rfl) pe_w) (me_fn (Fn1E.ok c_day_at) ((words, (at_0 + 2)), .ok v13) (ma_vw (ml_var (pv 0) rfl) (ma_fz (me_add (me_var (pv 1) rfl) me_int) ma_nil)) ⟨hv13, (by intro _ z; cases z)⟩ (hr.mono (by decide))) ?_)
  show MS _ [some (.vw (words.map D.str)), some (.fz (.int at_0)), some (.fz (.str v1)), some (.fz (.int v11)), some (.fz (.int v13))] _ _
  refine ms_cons (m_if (t := (decide (v13 < v11))) (mt_lt (me_var (pv 4) rfl) (me_var (pv 3) rfl)) (fun h => ?_) fun h => ms_nil ?_)
  · replace hx := cond_t hx h
    refine ms_one (m_raiseI j_NoWords (me_add (me_var (pv 1) rfl) me_int) (hr.mono (by decide)) ?_)
    cases hx; rfl
  replace hx := cond_f hx h
  replace hx := bd_some hx
  obtain ⟨v15, hv15, hx⟩ := hx
  refine ms_one (m_ret (ps_ret pe_w) (ME.r (me_tup (mf_cons (ME.as (ME.is (o' := .fz ((r_DaysIn C_DaysIn) v15)) (ME.frz (me_make i_DaysIn ((v11, v13), v15) (ma_fz (me_var (pv 3) rfl) (ma_fz (me_var (pv 4) rfl) ma_nil)) hv15 (hr.mono (by decide))) rfl) rfl) (u_Cd_days C_Condition C_CauseIs C_ThingIs C_DaysIn C_Over C_Not C_All C_Some _).symm) (mf_cons (me_add (me_var (pv 1) rfl) me_int) mf_nil)))) ?_)
  cases hx; rfl


abbrev TK_parse : Type := ((List Str) × Int × Int → Option (Xr Xc (Cd × Int))) × ((List Str) × Int × Int → Option (Xr Xc (Cd × Int))) × ((List Str) × Int × Int → Option (Xr Xc (Cd × Int)))
noncomputable def M_some_at (r : TK_parse) (words : (List Str)) (at_0 : Int) (deep : Int) : Option (Xr Xc (Cd × Int)) :=
  bdx (r.2.1 (words, at_0, deep)) fun v1 =>
  lt [v1.1] fun parts =>
  bd (wl (fun (p3 : Cd × Int × (List Cd)) => (bd (cond (decide (p3.2.1 < (words.length : Int))) (bd (L2.atI words p3.2.1) fun v5 => some ((v5 == ("or" : Str)))) (some false)) fun v6 => some v6 : Option Bool)) (fun (p3 : Cd × Int × (List Cd)) => (cond (((p3.2.2.length : Int) == 8)) (some (.rt (.er (.NoWords (p3.2.1 + 1))))) <|
    bdo (r.2.1 (words, (p3.2.1 + 1), deep)) fun v8 =>
    gd (p3.2.2.length < sizeLine) <|
    lt (p3.2.2 ++ [v8.1]) fun parts_1 =>
    some (.nx (v8.1, v8.2, parts_1)) : Option (Ou (Cd × Int × (List Cd)) (Cd × Int × (List Cd)) (Xr Xc (Cd × Int))))) (v1.1, v1.2, parts)) fun o4 => ouR o4 fun p3 =>
  cond (((p3.2.2.length : Int) == 1)) (some (.ok (p3.1, p3.2.1))) <|
  bd (M_Some___init__ p3.2.2) fun v11 =>
  some (.ok ((Cd.someOf v11), p3.2.1))
noncomputable def M_all_at (r : TK_parse) (words : (List Str)) (at_0 : Int) (deep : Int) : Option (Xr Xc (Cd × Int)) :=
  bdx (r.2.2 (words, at_0, deep)) fun v1 =>
  lt [v1.1] fun parts =>
  bd (wl (fun (p3 : Cd × Int × (List Cd)) => (bd (cond (decide (p3.2.1 < (words.length : Int))) (bd (L2.atI words p3.2.1) fun v5 => some ((v5 == ("and" : Str)))) (some false)) fun v6 => some v6 : Option Bool)) (fun (p3 : Cd × Int × (List Cd)) => (cond (((p3.2.2.length : Int) == 8)) (some (.rt (.er (.NoWords (p3.2.1 + 1))))) <|
    bdo (r.2.2 (words, (p3.2.1 + 1), deep)) fun v8 =>
    gd (p3.2.2.length < sizeLine) <|
    lt (p3.2.2 ++ [v8.1]) fun parts_1 =>
    some (.nx (v8.1, v8.2, parts_1)) : Option (Ou (Cd × Int × (List Cd)) (Cd × Int × (List Cd)) (Xr Xc (Cd × Int))))) (v1.1, v1.2, parts)) fun o4 => ouR o4 fun p3 =>
  cond (((p3.2.2.length : Int) == 1)) (some (.ok (p3.1, p3.2.1))) <|
  bd (M_All___init__ p3.2.2) fun v11 =>
  some (.ok ((Cd.allOf v11), p3.2.1))
noncomputable def M_piece_at (r : TK_parse) (words : (List Str)) (at_0 : Int) (deep : Int) : Option (Xr Xc (Cd × Int)) :=
  cond ((at_0 == (words.length : Int))) (some (.er (.NoWords at_0))) <|
  bd (L2.atI words at_0) fun v1 =>
  bd (cond (!(v1 == ("not" : Str))) (bd (L2.atI words at_0) fun v2 => some ((!(v2 == ("(" : Str))))) (some false)) fun v3 =>
  cond v3 (bdx (M_atom_at words at_0) fun v5 =>
    some (.ok v5)) <|
  cond ((deep == 6)) (some (.er .TooDeep)) <|
  bd (L2.atI words at_0) fun v7 =>
  cond ((v7 == ("not" : Str))) (bdx (r.2.2 (words, (at_0 + 1), (deep + 1))) fun v8 =>
    bd (M_Not___init__ v8.1) fun v10 =>
    some (.ok ((Cd.notOf v10), v8.2))) <|
  bdx (r.1 (words, (at_0 + 1), (deep + 1))) fun v11 =>
  bd (cond ((v11.2 == (words.length : Int))) (some true) (bd (L2.atI words v11.2) fun v13 => some ((!(v13 == (")" : Str)))))) fun v14 =>
  cond v14 (some (.er (.NoWords v11.2))) <|
  some (.ok (v11.1, (v11.2 + 1)))
noncomputable def Kn_parse : Nat → TK_parse
  | 0 => (fun _ => none, fun _ => none, fun _ => none)
  | n + 1 => let r := Kn_parse n; (fun x => M_some_at r x.1 x.2.1 x.2.2, fun x => M_all_at r x.1 x.2.1 x.2.2, fun x => M_piece_at r x.1 x.2.1 x.2.2)
noncomputable def Mf_some_at (n : Nat) (x0 : (List Str)) (x1 : Int) (x2 : Int) := (Kn_parse n).1 (x0, x1, x2)
noncomputable def Mf_all_at (n : Nat) (x0 : (List Str)) (x1 : Int) (x2 : Int) := (Kn_parse n).2.1 (x0, x1, x2)
noncomputable def Mf_piece_at (n : Nat) (x0 : (List Str)) (x1 : Int) (x2 : Int) := (Kn_parse n).2.2 (x0, x1, x2)
def sp_some_at (K : PySem.W.Frag) (C_Condition C_CauseIs C_ThingIs C_DaysIn C_Over C_Not C_All C_Some C_NoWords C_TooDeep C_NoAmount : Addr) (n : Nat) : Sp := SpFE K (fun x : (List Str) × Int × Int => [.vw (x.1.map D.str), .fz (.int x.2.1), .fz (.int x.2.2)]) (fun x => Mf_some_at n x.1 x.2.1 x.2.2) (t_Xc C_NoWords C_TooDeep C_NoAmount) (fun r => .fz ((e_T_U_Cd_i C_Condition C_CauseIs C_ThingIs C_DaysIn C_Over C_Not C_All C_Some) r))
def sp_all_at (K : PySem.W.Frag) (C_Condition C_CauseIs C_ThingIs C_DaysIn C_Over C_Not C_All C_Some C_NoWords C_TooDeep C_NoAmount : Addr) (n : Nat) : Sp := SpFE K (fun x : (List Str) × Int × Int => [.vw (x.1.map D.str), .fz (.int x.2.1), .fz (.int x.2.2)]) (fun x => Mf_all_at n x.1 x.2.1 x.2.2) (t_Xc C_NoWords C_TooDeep C_NoAmount) (fun r => .fz ((e_T_U_Cd_i C_Condition C_CauseIs C_ThingIs C_DaysIn C_Over C_Not C_All C_Some) r))
def sp_piece_at (K : PySem.W.Frag) (C_Condition C_CauseIs C_ThingIs C_DaysIn C_Over C_Not C_All C_Some C_NoWords C_TooDeep C_NoAmount : Addr) (n : Nat) : Sp := SpFE K (fun x : (List Str) × Int × Int => [.vw (x.1.map D.str), .fz (.int x.2.1), .fz (.int x.2.2)]) (fun x => Mf_piece_at n x.1 x.2.1 x.2.2) (t_Xc C_NoWords C_TooDeep C_NoAmount) (fun r => .fz ((e_T_U_Cd_i C_Condition C_CauseIs C_ThingIs C_DaysIn C_Over C_Not C_All C_Some) r))
abbrev N_some_at : List Str := ["words", "at", "deep", "part", "parts"]
theorem sc_some_at : FnScope N_some_at ["words", "at", "deep"] (defScope s_some_at) := ⟨rfl, rfl, rfl, by decide +kernel, rfl, by decide +kernel, by decide +kernel⟩
theorem ok_some_at {f : Addr} {fd : FuncData} (n : Nat) (F : Fun K "some_at" "some_at" s_some_at f fd) (z_len : mg "len" = none) (g_MOST_PARTS : mg "MOST_PARTS" = some (.int 8 tkMOST_PARTS)) (c_all_at : Fn1E P w K mg base "all_at" (4 + n) ["words", "at", "deep"] (sp_all_at K C_Condition C_CauseIs C_ThingIs C_DaysIn C_Over C_Not C_All C_Some C_NoWords C_TooDeep C_NoAmount n)) (j_NoWords : XiC P w K mg base "NoWords" C_NoWords "at" 1 ["self", "at"]) (i_Some : Mk1 P w K mg base "Some" C_Some 1 ["self", "several"] (spI_Some___init__ K C_Some C_Condition C_CauseIs C_ThingIs C_DaysIn C_Over C_Not C_All)) : FnOk P w K mg base (L2.CX P w) (4 + n + 1) f fd ["words", "at", "deep"] (sp_some_at K C_Condition C_CauseIs C_ThingIs C_DaysIn C_Over C_Not C_All C_Some C_NoWords C_TooDeep C_NoAmount (n + 1)) := by
  refine fn_mE F sc_some_at (fun x => rfl) (fun x _ => exO_nv (fun _ => rfl) x.2) fun cdv A outer s H E hr po x hx => ?_
  obtain ⟨⟨words, at_0, deep⟩, r⟩ := x
  replace hx : M_some_at (Kn_parse n) words at_0 deep = some r := hx
  have nd := sc_some_at.nd
  unfold M_some_at at hx
  show MS _ [some (.vw (words.map D.str)), some (.fz (.int at_0)), some (.fz (.int deep)), none, none] _ _
  rcases bdx_some hx with ⟨xe2, hv1, hx⟩ | ⟨v1, hv1, hx⟩
  · refine ms_cons (m_rzAsg (ps_asg pe_w (pg_tup (n := 2) rfl (pgs_cons (pg_name (i := 3) nd rfl (Or.inl rfl)) (pgs_cons (pg_name (i := 1) nd rfl (Or.inl rfl)) pgs_nil)))) (mz_fn c_all_at ((words, at_0, deep), .er xe2) (ma_vw (ml_var (pv 0) rfl) (ma_fz (me_var (pv 1) rfl) (ma_fz (me_var (pv 2) rfl) ma_nil))) hv1 (hr.mono (by omega))) ?_)
    cases hx; rfl
  refine ms_cons (m_tgt (ps_asg pe_w (pg_tup (n := 2) rfl (pgs_cons (pg_name (i := 3) nd rfl (Or.inl rfl)) (pgs_cons (pg_name (i := 1) nd rfl (Or.inl rfl)) pgs_nil)))) (me_fn (Fn1E.ok c_all_at) ((words, at_0, deep), .ok v1) (ma_vw (ml_var (pv 0) rfl) (ma_fz (me_var (pv 1) rfl) (ma_fz (me_var (pv 2) rfl) ma_nil))) ⟨hv1, (by intro _ z; cases z)⟩ (hr.mono (by omega))) (mg_tup (mgs_cons mg_name (mgs_cons mg_name mgs_nil)) rfl) ?_)
  show MS _ [some (.vw (words.map D.str)), some (.fz (.int v1.2)), some (.fz (.int deep)), some (.fz ((u_Cd C_Condition C_CauseIs C_ThingIs C_DaysIn C_Over C_Not C_All C_Some) v1.1)), none] _ _
  replace hx := lt_some hx
  obtain ⟨parts, eparts, hx⟩ := hx
  refine ms_cons (m_set (ps_set (i := 4) nd rfl (Or.inl rfl) pe_w) (ME.is (o' := (.lst ((parts.map (u_Cd C_Condition C_CauseIs C_ThingIs C_DaysIn C_Over C_Not C_All C_Some)).map .fz))) (me_lst (ds := [v1.1].map (u_Cd C_Condition C_CauseIs C_ThingIs C_DaysIn C_Over C_Not C_All C_Some)) (mf_cons (me_var (pv 3) rfl) mf_nil)) (by rw [eparts] <;> rfl)) ?_)
  show MS _ [some (.vw (words.map D.str)), some (.fz (.int v1.2)), some (.fz (.int deep)), some (.fz ((u_Cd C_Condition C_CauseIs C_ThingIs C_DaysIn C_Over C_Not C_All C_Some) v1.1)), some (.lst ((parts.map (u_Cd C_Condition C_CauseIs C_ThingIs C_DaysIn C_Over C_Not C_All C_Some)).map .fz))] _ _
  replace hx := bd_some hx
  obtain ⟨o4, ho4, hx⟩ := hx
  refine ms_cons (m_whileO (ps_while po pt_w pss_w) ho4 (fun p3 => [some (.vw (words.map D.str)), some (.fz (.int p3.2.1)), some (.fz (.int deep)), some (.fz ((u_Cd C_Condition C_CauseIs C_ThingIs C_DaysIn C_Over C_Not C_All C_Some) p3.1)), some (.lst ((p3.2.2.map (u_Cd C_Condition C_CauseIs C_ThingIs C_DaysIn C_Over C_Not C_All C_Some)).map .fz))]) (fun r => exO (t_Xc C_NoWords C_TooDeep C_NoAmount) (fun r => .fz ((e_T_U_Cd_i C_Condition C_CauseIs C_ThingIs C_DaysIn C_Over C_Not C_All C_Some) r)) r) le_auto (fun p3 k hx => ?_) (fun p3 p3o hx => ?_) (fun p3 τ e le => ?_) fun q e => ?_)
  · replace hx := bd_some hx; obtain ⟨v6, hv6, hx⟩ := hx; injection hx with hx; subst k; exact (MW.t (MW.is (mw_and (mt_lt (me_var (pv 1) rfl) (me_lenLT (xs := words) (enc := D.str) (by rfl) z_len (ml_var (pv 0) rfl))) fun q7 => (by have hx := cond_t hv6 q7; replace hx := bd_some hx; obtain ⟨v5, hv5, hx⟩ := hx; cases hx; exact (mw_and1 (mt_eqS (me_ixLT (xs := words) (enc := D.str) hv5 (ml_var (pv 0) rfl) (me_var (pv 1) rfl)) me_str)))) (and_c hv6)))
  ·
    show MS _ [some (.vw (words.map D.str)), some (.fz (.int p3.2.1)), some (.fz (.int deep)), some (.fz ((u_Cd C_Condition C_CauseIs C_ThingIs C_DaysIn C_Over C_Not C_All C_Some) p3.1)), some (.lst ((p3.2.2.map (u_Cd C_Condition C_CauseIs C_ThingIs C_DaysIn C_Over C_Not C_All C_Some)).map .fz))] _ _
    refine ms_cons (m_if (t := (((p3.2.2.length : Int) == 8))) (mt_eqI (me_lenLT (xs := p3.2.2) (enc := (u_Cd C_Condition C_CauseIs C_ThingIs C_DaysIn C_Over C_Not C_All C_Some)) (by rfl) z_len (ml_var (pv 4) rfl)) (me_gI g_MOST_PARTS)) (fun h => ?_) fun h => ms_nil ?_)
    · replace hx := cond_t hx h
      refine ms_one (m_raiseI j_NoWords (me_add (me_var (pv 1) rfl) me_int) (hr.mono (by omega)) ?_)
      cases hx; exact ⟨_, rfl, rfl⟩
    replace hx := cond_f hx h
    rcases bdo_some hx with ⟨xe9, hv8, hx⟩ | ⟨v8, hv8, hx⟩
    · refine ms_cons (m_rzAsg (ps_asg pe_w (pg_tup (n := 2) rfl (pgs_cons (pg_name (i := 3) nd rfl (Or.inl rfl)) (pgs_cons (pg_name (i := 1) nd rfl (Or.inl rfl)) pgs_nil)))) (mz_fn c_all_at ((words, (p3.2.1 + 1), deep), .er xe9) (ma_vw (ml_var (pv 0) rfl) (ma_fz (me_add (me_var (pv 1) rfl) me_int) (ma_fz (me_var (pv 2) rfl) ma_nil))) hv8 (hr.mono (by omega))) ?_)
      cases hx; exact ⟨_, rfl, rfl⟩
    refine ms_cons (m_tgt (ps_asg pe_w (pg_tup (n := 2) rfl (pgs_cons (pg_name (i := 3) nd rfl (Or.inl rfl)) (pgs_cons (pg_name (i := 1) nd rfl (Or.inl rfl)) pgs_nil)))) (me_fn (Fn1E.ok c_all_at) ((words, (p3.2.1 + 1), deep), .ok v8) (ma_vw (ml_var (pv 0) rfl) (ma_fz (me_add (me_var (pv 1) rfl) me_int) (ma_fz (me_var (pv 2) rfl) ma_nil))) ⟨hv8, (by intro _ z; cases z)⟩ (hr.mono (by omega))) (mg_tup (mgs_cons mg_name (mgs_cons mg_name mgs_nil)) rfl) ?_)
    show MS _ [some (.vw (words.map D.str)), some (.fz (.int v8.2)), some (.fz (.int deep)), some (.fz ((u_Cd C_Condition C_CauseIs C_ThingIs C_DaysIn C_Over C_Not C_All C_Some) v8.1)), some (.lst ((p3.2.2.map (u_Cd C_Condition C_CauseIs C_ThingIs C_DaysIn C_Over C_Not C_All C_Some)).map .fz))] _ _
    replace hx := gd_some hx
    obtain ⟨g10, hx⟩ := hx
    replace hx := lt_some hx
    obtain ⟨parts_1, eparts_1, hx⟩ := hx
    refine ms_one (m_appendT (i := 4) (xs := p3.2.2) (enc := (u_Cd C_Condition C_CauseIs C_ThingIs C_DaysIn C_Over C_Not C_All C_Some)) (y := v8.1) g10 (pv _) rfl (me_var (pv 3) rfl) ?_)
    rw [← eparts_1]
    cases hx; exact ⟨_, rfl, le_auto⟩
  · subst e
    dsimp only [ouR] at hx
    refine ms_le le ?_
    show MS _ [some (.vw (words.map D.str)), some (.fz (.int p3.2.1)), some (.fz (.int deep)), some (.fz ((u_Cd C_Condition C_CauseIs C_ThingIs C_DaysIn C_Over C_Not C_All C_Some) p3.1)), some (.lst ((p3.2.2.map (u_Cd C_Condition C_CauseIs C_ThingIs C_DaysIn C_Over C_Not C_All C_Some)).map .fz))] _ _
    refine ms_cons (m_if (t := (((p3.2.2.length : Int) == 1))) (mt_eqI (me_lenLT (xs := p3.2.2) (enc := (u_Cd C_Condition C_CauseIs C_ThingIs C_DaysIn C_Over C_Not C_All C_Some)) (by rfl) z_len (ml_var (pv 4) rfl)) me_int) (fun h => ?_) fun h => ms_nil ?_)
    · replace hx := cond_t hx h
      refine ms_one (m_ret (ps_ret pe_w) (ME.r (me_tup (mf_cons (me_var (pv 3) rfl) (mf_cons (me_var (pv 1) rfl) mf_nil)))) ?_)
      cases hx; rfl
    replace hx := cond_f hx h
    replace hx := bd_some hx
    obtain ⟨v11, hv11, hx⟩ := hx
    refine ms_one (m_ret (ps_ret pe_w) (ME.r (me_tup (mf_cons (ME.as (ME.is (o' := .fz ((r_Some C_Some C_Condition C_CauseIs C_ThingIs C_DaysIn C_Over C_Not C_All) v11)) (ME.frz (me_make i_Some (p3.2.2, v11) (ma_vw (ml_var (pv 4) rfl) ma_nil) hv11 (hr.mono (by omega))) (by simp only [O.nv, O.nvL, O.nvL_fz, Bool.and_self])) (by simp only [O.frz, O.frzL, O.frzL_fz])) (u_Cd_someOf C_Condition C_CauseIs C_ThingIs C_DaysIn C_Over C_Not C_All C_Some _).symm) (mf_cons (me_var (pv 1) rfl) mf_nil)))) ?_)
    cases hx; rfl
  · subst e; cases hx; rfl

abbrev N_all_at : List Str := ["words", "at", "deep", "part", "parts"]
theorem sc_all_at : FnScope N_all_at ["words", "at", "deep"] (defScope s_all_at) := ⟨rfl, rfl, rfl, by decide +kernel, rfl, by decide +kernel, by decide +kernel⟩
theorem ok_all_at {f : Addr} {fd : FuncData} (n : Nat) (F : Fun K "all_at" "all_at" s_all_at f fd) (z_len : mg "len" = none) (g_MOST_PARTS : mg "MOST_PARTS" = some (.int 8 tkMOST_PARTS)) (c_piece_at : Fn1E P w K mg base "piece_at" (4 + n) ["words", "at", "deep"] (sp_piece_at K C_Condition C_CauseIs C_ThingIs C_DaysIn C_Over C_Not C_All C_Some C_NoWords C_TooDeep C_NoAmount n)) (j_NoWords : XiC P w K mg base "NoWords" C_NoWords "at" 1 ["self", "at"]) (i_All : Mk1 P w K mg base "All" C_All 1 ["self", "several"] (spI_All___init__ K C_All C_Condition C_CauseIs C_ThingIs C_DaysIn C_Over C_Not C_Some)) : FnOk P w K mg base (L2.CX P w) (4 + n + 1) f fd ["words", "at", "deep"] (sp_all_at K C_Condition C_CauseIs C_ThingIs C_DaysIn C_Over C_Not C_All C_Some C_NoWords C_TooDeep C_NoAmount (n + 1)) := by
  refine fn_mE F sc_all_at (fun x => rfl) (fun x _ => exO_nv (fun _ => rfl) x.2) fun cdv A outer s H E hr po x hx => ?_
  obtain ⟨⟨words, at_0, deep⟩, r⟩ := x
  replace hx : M_all_at (Kn_parse n) words at_0 deep = some r := hx
  have nd := sc_all_at.nd
  unfold M_all_at at hx
  show MS _ [some (.vw (words.map D.str)), some (.fz (.int at_0)), some (.fz (.int deep)), none, none] _ _
  rcases bdx_some hx with ⟨xe2, hv1, hx⟩ | ⟨v1, hv1, hx⟩
  · refine ms_cons (m_rzAsg (ps_asg pe_w (pg_tup (n := 2) rfl (pgs_cons (pg_name (i := 3) nd rfl (Or.inl rfl)) (pgs_cons (pg_name (i := 1) nd rfl (Or.inl rfl)) pgs_nil)))) (mz_fn c_piece_at ((words, at_0, deep), .er xe2) (ma_vw (ml_var (pv 0) rfl) (ma_fz (me_var (pv 1) rfl) (ma_fz (me_var (pv 2) rfl) ma_nil))) hv1 (hr.mono (by omega))) ?_)
    cases hx; rfl
  refine ms_cons (m_tgt (ps_asg pe_w (pg_tup (n := 2) rfl (pgs_cons (pg_name (i := 3) nd rfl (Or.inl rfl)) (pgs_cons (pg_name (i := 1) nd rfl (Or.inl rfl)) pgs_nil)))) (me_fn (Fn1E.ok c_piece_at) ((words, at_0, deep), .ok v1) (ma_vw (ml_var (pv 0) rfl) (ma_fz (me_var (pv 1) rfl) (ma_fz (me_var (pv 2) rfl) ma_nil))) ⟨hv1, (by intro _ z; cases z)⟩ (hr.mono (by omega))) (mg_tup (mgs_cons mg_name (mgs_cons mg_name mgs_nil)) rfl) ?_)
  show MS _ [some (.vw (words.map D.str)), some (.fz (.int v1.2)), some (.fz (.int deep)), some (.fz ((u_Cd C_Condition C_CauseIs C_ThingIs C_DaysIn C_Over C_Not C_All C_Some) v1.1)), none] _ _
  replace hx := lt_some hx
  obtain ⟨parts, eparts, hx⟩ := hx
  refine ms_cons (m_set (ps_set (i := 4) nd rfl (Or.inl rfl) pe_w) (ME.is (o' := (.lst ((parts.map (u_Cd C_Condition C_CauseIs C_ThingIs C_DaysIn C_Over C_Not C_All C_Some)).map .fz))) (me_lst (ds := [v1.1].map (u_Cd C_Condition C_CauseIs C_ThingIs C_DaysIn C_Over C_Not C_All C_Some)) (mf_cons (me_var (pv 3) rfl) mf_nil)) (by rw [eparts] <;> rfl)) ?_)
  show MS _ [some (.vw (words.map D.str)), some (.fz (.int v1.2)), some (.fz (.int deep)), some (.fz ((u_Cd C_Condition C_CauseIs C_ThingIs C_DaysIn C_Over C_Not C_All C_Some) v1.1)), some (.lst ((parts.map (u_Cd C_Condition C_CauseIs C_ThingIs C_DaysIn C_Over C_Not C_All C_Some)).map .fz))] _ _
  replace hx := bd_some hx
  obtain ⟨o4, ho4, hx⟩ := hx
  refine ms_cons (m_whileO (ps_while po pt_w pss_w) ho4 (fun p3 => [some (.vw (words.map D.str)), some (.fz (.int p3.2.1)), some (.fz (.int deep)), some (.fz ((u_Cd C_Condition C_CauseIs C_ThingIs C_DaysIn C_Over C_Not C_All C_Some) p3.1)), some (.lst ((p3.2.2.map (u_Cd C_Condition C_CauseIs C_ThingIs C_DaysIn C_Over C_Not C_All C_Some)).map .fz))]) (fun r => exO (t_Xc C_NoWords C_TooDeep C_NoAmount) (fun r => .fz ((e_T_U_Cd_i C_Condition C_CauseIs C_ThingIs C_DaysIn C_Over C_Not C_All C_Some) r)) r) le_auto (fun p3 k hx => ?_) (fun p3 p3o hx => ?_) (fun p3 τ e le => ?_) fun q e => ?_)
  · replace hx := bd_some hx; obtain ⟨v6, hv6, hx⟩ := hx; injection hx with hx; subst k; exact (MW.t (MW.is (mw_and (mt_lt (me_var (pv 1) rfl) (me_lenLT (xs := words) (enc := D.str) (by rfl) z_len (ml_var (pv 0) rfl))) fun q7 => (by have hx := cond_t hv6 q7; replace hx := bd_some hx; obtain ⟨v5, hv5, hx⟩ := hx; cases hx; exact (mw_and1 (mt_eqS (me_ixLT (xs := words) (enc := D.str) hv5 (ml_var (pv 0) rfl) (me_var (pv 1) rfl)) me_str)))) (and_c hv6)))
  ·
    show MS _ [some (.vw (words.map D.str)), some (.fz (.int p3.2.1)), some (.fz (.int deep)), some (.fz ((u_Cd C_Condition C_CauseIs C_ThingIs C_DaysIn C_Over C_Not C_All C_Some) p3.1)), some (.lst ((p3.2.2.map (u_Cd C_Condition C_CauseIs C_ThingIs C_DaysIn C_Over C_Not C_All C_Some)).map .fz))] _ _
    refine ms_cons (m_if (t := (((p3.2.2.length : Int) == 8))) (mt_eqI (me_lenLT (xs := p3.2.2) (enc := (u_Cd C_Condition C_CauseIs C_ThingIs C_DaysIn C_Over C_Not C_All C_Some)) (by rfl) z_len (ml_var (pv 4) rfl)) (me_gI g_MOST_PARTS)) (fun h => ?_) fun h => ms_nil ?_)
    · replace hx := cond_t hx h
      refine ms_one (m_raiseI j_NoWords (me_add (me_var (pv 1) rfl) me_int) (hr.mono (by omega)) ?_)
      cases hx; exact ⟨_, rfl, rfl⟩
    replace hx := cond_f hx h
    rcases bdo_some hx with ⟨xe9, hv8, hx⟩ | ⟨v8, hv8, hx⟩
    · refine ms_cons (m_rzAsg (ps_asg pe_w (pg_tup (n := 2) rfl (pgs_cons (pg_name (i := 3) nd rfl (Or.inl rfl)) (pgs_cons (pg_name (i := 1) nd rfl (Or.inl rfl)) pgs_nil)))) (mz_fn c_piece_at ((words, (p3.2.1 + 1), deep), .er xe9) (ma_vw (ml_var (pv 0) rfl) (ma_fz (me_add (me_var (pv 1) rfl) me_int) (ma_fz (me_var (pv 2) rfl) ma_nil))) hv8 (hr.mono (by omega))) ?_)
      cases hx; exact ⟨_, rfl, rfl⟩
    refine ms_cons (m_tgt (ps_asg pe_w (pg_tup (n := 2) rfl (pgs_cons (pg_name (i := 3) nd rfl (Or.inl rfl)) (pgs_cons (pg_name (i := 1) nd rfl (Or.inl rfl)) pgs_nil)))) (me_fn (Fn1E.ok c_piece_at) ((words, (p3.2.1 + 1), deep), .ok v8) (ma_vw (ml_var (pv 0) rfl) (ma_fz (me_add (me_var (pv 1) rfl) me_int) (ma_fz (me_var (pv 2) rfl) ma_nil))) ⟨hv8, (by intro _ z; cases z)⟩ (hr.mono (by omega))) (mg_tup (mgs_cons mg_name (mgs_cons mg_name mgs_nil)) rfl) ?_)
    show MS _ [some (.vw (words.map D.str)), some (.fz (.int v8.2)), some (.fz (.int deep)), some (.fz ((u_Cd C_Condition C_CauseIs C_ThingIs C_DaysIn C_Over C_Not C_All C_Some) v8.1)), some (.lst ((p3.2.2.map (u_Cd C_Condition C_CauseIs C_ThingIs C_DaysIn C_Over C_Not C_All C_Some)).map .fz))] _ _
    replace hx := gd_some hx
    obtain ⟨g10, hx⟩ := hx
    replace hx := lt_some hx
    obtain ⟨parts_1, eparts_1, hx⟩ := hx
    refine ms_one (m_appendT (i := 4) (xs := p3.2.2) (enc := (u_Cd C_Condition C_CauseIs C_ThingIs C_DaysIn C_Over C_Not C_All C_Some)) (y := v8.1) g10 (pv _) rfl (me_var (pv 3) rfl) ?_)
    rw [← eparts_1]
    cases hx; exact ⟨_, rfl, le_auto⟩
  · subst e
    dsimp only [ouR] at hx
    refine ms_le le ?_
    show MS _ [some (.vw (words.map D.str)), some (.fz (.int p3.2.1)), some (.fz (.int deep)), some (.fz ((u_Cd C_Condition C_CauseIs C_ThingIs C_DaysIn C_Over C_Not C_All C_Some) p3.1)), some (.lst ((p3.2.2.map (u_Cd C_Condition C_CauseIs C_ThingIs C_DaysIn C_Over C_Not C_All C_Some)).map .fz))] _ _
    refine ms_cons (m_if (t := (((p3.2.2.length : Int) == 1))) (mt_eqI (me_lenLT (xs := p3.2.2) (enc := (u_Cd C_Condition C_CauseIs C_ThingIs C_DaysIn C_Over C_Not C_All C_Some)) (by rfl) z_len (ml_var (pv 4) rfl)) me_int) (fun h => ?_) fun h => ms_nil ?_)
    · replace hx := cond_t hx h
      refine ms_one (m_ret (ps_ret pe_w) (ME.r (me_tup (mf_cons (me_var (pv 3) rfl) (mf_cons (me_var (pv 1) rfl) mf_nil)))) ?_)
      cases hx; rfl
    replace hx := cond_f hx h
    replace hx := bd_some hx
    obtain ⟨v11, hv11, hx⟩ := hx
    refine ms_one (m_ret (ps_ret pe_w) (ME.r (me_tup (mf_cons (ME.as (ME.is (o' := .fz ((r_All C_All C_Condition C_CauseIs C_ThingIs C_DaysIn C_Over C_Not C_Some) v11)) (ME.frz (me_make i_All (p3.2.2, v11) (ma_vw (ml_var (pv 4) rfl) ma_nil) hv11 (hr.mono (by omega))) (by simp only [O.nv, O.nvL, O.nvL_fz, Bool.and_self])) (by simp only [O.frz, O.frzL, O.frzL_fz])) (u_Cd_allOf C_Condition C_CauseIs C_ThingIs C_DaysIn C_Over C_Not C_All C_Some _).symm) (mf_cons (me_var (pv 1) rfl) mf_nil)))) ?_)
    cases hx; rfl
  · subst e; cases hx; rfl

abbrev N_piece_at : List Str := ["words", "at", "deep", "part"]
theorem sc_piece_at : FnScope N_piece_at ["words", "at", "deep"] (defScope s_piece_at) := ⟨rfl, rfl, rfl, by decide +kernel, rfl, by decide +kernel, by decide +kernel⟩
theorem ok_piece_at {f : Addr} {fd : FuncData} (n : Nat) (F : Fun K "piece_at" "piece_at" s_piece_at f fd) (z_len : mg "len" = none) (g_MOST_OPEN : mg "MOST_OPEN" = some (.int 6 tkMOST_OPEN)) (j_NoWords : XiC P w K mg base "NoWords" C_NoWords "at" 1 ["self", "at"]) (c_atom_at : Fn1E P w K mg base "atom_at" 4 ["words", "at"] (sp_atom_at K C_Condition C_CauseIs C_ThingIs C_DaysIn C_Over C_Not C_All C_Some C_NoWords C_TooDeep C_NoAmount)) (x_TooDeep : XcC K mg "TooDeep" C_TooDeep) (c_piece_at : Fn1E P w K mg base "piece_at" (4 + n) ["words", "at", "deep"] (sp_piece_at K C_Condition C_CauseIs C_ThingIs C_DaysIn C_Over C_Not C_All C_Some C_NoWords C_TooDeep C_NoAmount n)) (i_Not : Mk1 P w K mg base "Not" C_Not 1 ["self", "part"] (spI_Not___init__ K C_Not C_Condition C_CauseIs C_ThingIs C_DaysIn C_Over C_All C_Some)) (c_some_at : Fn1E P w K mg base "some_at" (4 + n) ["words", "at", "deep"] (sp_some_at K C_Condition C_CauseIs C_ThingIs C_DaysIn C_Over C_Not C_All C_Some C_NoWords C_TooDeep C_NoAmount n)) : FnOk P w K mg base (L2.CX P w) (4 + n + 1) f fd ["words", "at", "deep"] (sp_piece_at K C_Condition C_CauseIs C_ThingIs C_DaysIn C_Over C_Not C_All C_Some C_NoWords C_TooDeep C_NoAmount (n + 1)) := by
  refine fn_mE F sc_piece_at (fun x => rfl) (fun x _ => exO_nv (fun _ => rfl) x.2) fun cdv A outer s H E hr po x hx => ?_
  obtain ⟨⟨words, at_0, deep⟩, r⟩ := x
  replace hx : M_piece_at (Kn_parse n) words at_0 deep = some r := hx
  have nd := sc_piece_at.nd
  unfold M_piece_at at hx
  show MS _ [some (.vw (words.map D.str)), some (.fz (.int at_0)), some (.fz (.int deep)), none] _ _
  refine ms_cons (m_if (t := ((at_0 == (words.length : Int)))) (mt_eqI (me_var (pv 1) rfl) (me_lenLT (xs := words) (enc := D.str) (by rfl) z_len (ml_var (pv 0) rfl))) (fun h => ?_) fun h => ms_nil ?_)
  · replace hx := cond_t hx h
    refine ms_one (m_raiseI j_NoWords (me_var (pv 1) rfl) (hr.mono (by omega)) ?_)
    cases hx; rfl
  replace hx := cond_f hx h
  replace hx := bd_some hx
  obtain ⟨v1, hv1, hx⟩ := hx
  replace hx := bd_some hx
  obtain ⟨v3, hv3, hx⟩ := hx
  refine ms_cons (m_if (t := v3) (MW.t (MW.is (mw_and (mt_neS (me_ixLT (xs := words) (enc := D.str) hv1 (ml_var (pv 0) rfl) (me_var (pv 1) rfl)) me_str) fun q4 => (by have hx := cond_t hv3 q4; replace hx := bd_some hx; obtain ⟨v2, hv2, hx⟩ := hx; cases hx; exact (mw_and1 (mt_neS (me_ixLT (xs := words) (enc := D.str) hv2 (ml_var (pv 0) rfl) (me_var (pv 1) rfl)) me_str)))) (and_c hv3))) (fun h => ?_) fun h => ms_nil ?_)
  · replace hx := cond_t hx h
    rcases bdx_some hx with ⟨xe6, hv5, hx⟩ | ⟨v5, hv5, hx⟩
    · refine ms_one (m_rzRet (ps_ret pe_w) (mz_fn c_atom_at ((words, at_0), .er xe6) (ma_vw (ml_var (pv 0) rfl) (ma_fz (me_var (pv 1) rfl) ma_nil)) hv5 (hr.mono (by omega))) ?_)
      cases hx; rfl
    refine ms_one (m_ret (ps_ret pe_w) (ME.r (me_fn (Fn1E.ok c_atom_at) ((words, at_0), .ok v5) (ma_vw (ml_var (pv 0) rfl) (ma_fz (me_var (pv 1) rfl) ma_nil)) ⟨hv5, (by intro _ z; cases z)⟩ (hr.mono (by omega)))) ?_)
    cases hx; rfl
  replace hx := cond_f hx h
  refine ms_cons (m_if (t := ((deep == 6))) (mt_eqI (me_var (pv 2) rfl) (me_gI g_MOST_OPEN)) (fun h => ?_) fun h => ms_nil ?_)
  · replace hx := cond_t hx h
    refine ms_one (m_raise (pm_own x_TooDeep) ?_)
    cases hx; rfl
  replace hx := cond_f hx h
  replace hx := bd_some hx
  obtain ⟨v7, hv7, hx⟩ := hx
  refine ms_cons (m_if (t := ((v7 == ("not" : Str)))) (mt_eqS (me_ixLT (xs := words) (enc := D.str) hv7 (ml_var (pv 0) rfl) (me_var (pv 1) rfl)) me_str) (fun h => ?_) fun h => ms_nil ?_)
  · replace hx := cond_t hx h
    rcases bdx_some hx with ⟨xe9, hv8, hx⟩ | ⟨v8, hv8, hx⟩
    · refine ms_cons (m_rzAsg (ps_asg pe_w (pg_tup (n := 2) rfl (pgs_cons (pg_name (i := 3) nd rfl (Or.inl rfl)) (pgs_cons (pg_name (i := 1) nd rfl (Or.inl rfl)) pgs_nil)))) (mz_fn c_piece_at ((words, (at_0 + 1), (deep + 1)), .er xe9) (ma_vw (ml_var (pv 0) rfl) (ma_fz (me_add (me_var (pv 1) rfl) me_int) (ma_fz (me_add (me_var (pv 2) rfl) me_int) ma_nil))) hv8 (hr.mono (by omega))) ?_)
      cases hx; rfl
    refine ms_cons (m_tgt (ps_asg pe_w (pg_tup (n := 2) rfl (pgs_cons (pg_name (i := 3) nd rfl (Or.inl rfl)) (pgs_cons (pg_name (i := 1) nd rfl (Or.inl rfl)) pgs_nil)))) (me_fn (Fn1E.ok c_piece_at) ((words, (at_0 + 1), (deep + 1)), .ok v8) (ma_vw (ml_var (pv 0) rfl) (ma_fz (me_add (me_var (pv 1) rfl) me_int) (ma_fz (me_add (me_var (pv 2) rfl) me_int) ma_nil))) ⟨hv8, (by intro _ z; cases z)⟩ (hr.mono (by omega))) (mg_tup (mgs_cons mg_name (mgs_cons mg_name mgs_nil)) rfl) ?_)
    show MS _ [some (.vw (words.map D.str)), some (.fz (.int v8.2)), some (.fz (.int deep)), some (.fz ((u_Cd C_Condition C_CauseIs C_ThingIs C_DaysIn C_Over C_Not C_All C_Some) v8.1))] _ _
    replace hx := bd_some hx
    obtain ⟨v10, hv10, hx⟩ := hx
    refine ms_one (m_ret (ps_ret pe_w) (ME.r (me_tup (mf_cons (ME.as (ME.is (o' := .fz ((r_Not C_Not C_Condition C_CauseIs C_ThingIs C_DaysIn C_Over C_All C_Some) v10)) (ME.frz (me_make i_Not (v8.1, v10) (ma_fz (me_var (pv 3) rfl) ma_nil) hv10 (hr.mono (by omega))) rfl) rfl) (u_Cd_notOf C_Condition C_CauseIs C_ThingIs C_DaysIn C_Over C_Not C_All C_Some _).symm) (mf_cons (me_var (pv 1) rfl) mf_nil)))) ?_)
    cases hx; rfl
  replace hx := cond_f hx h
  rcases bdx_some hx with ⟨xe12, hv11, hx⟩ | ⟨v11, hv11, hx⟩
  · refine ms_cons (m_rzAsg (ps_asg pe_w (pg_tup (n := 2) rfl (pgs_cons (pg_name (i := 3) nd rfl (Or.inl rfl)) (pgs_cons (pg_name (i := 1) nd rfl (Or.inl rfl)) pgs_nil)))) (mz_fn c_some_at ((words, (at_0 + 1), (deep + 1)), .er xe12) (ma_vw (ml_var (pv 0) rfl) (ma_fz (me_add (me_var (pv 1) rfl) me_int) (ma_fz (me_add (me_var (pv 2) rfl) me_int) ma_nil))) hv11 (hr.mono (by omega))) ?_)
    cases hx; rfl
  refine ms_cons (m_tgt (ps_asg pe_w (pg_tup (n := 2) rfl (pgs_cons (pg_name (i := 3) nd rfl (Or.inl rfl)) (pgs_cons (pg_name (i := 1) nd rfl (Or.inl rfl)) pgs_nil)))) (me_fn (Fn1E.ok c_some_at) ((words, (at_0 + 1), (deep + 1)), .ok v11) (ma_vw (ml_var (pv 0) rfl) (ma_fz (me_add (me_var (pv 1) rfl) me_int) (ma_fz (me_add (me_var (pv 2) rfl) me_int) ma_nil))) ⟨hv11, (by intro _ z; cases z)⟩ (hr.mono (by omega))) (mg_tup (mgs_cons mg_name (mgs_cons mg_name mgs_nil)) rfl) ?_)
  show MS _ [some (.vw (words.map D.str)), some (.fz (.int v11.2)), some (.fz (.int deep)), some (.fz ((u_Cd C_Condition C_CauseIs C_ThingIs C_DaysIn C_Over C_Not C_All C_Some) v11.1))] _ _
  replace hx := bd_some hx
  obtain ⟨v14, hv14, hx⟩ := hx
  refine ms_cons (m_if (t := v14) (MW.t (MW.is (mw_or (mt_eqI (me_var (pv 1) rfl) (me_lenLT (xs := words) (enc := D.str) (by rfl) z_len (ml_var (pv 0) rfl))) fun q15 => (by have hx := cond_f hv14 q15; replace hx := bd_some hx; obtain ⟨v13, hv13, hx⟩ := hx; cases hx; exact (mw_or1 (mt_neS (me_ixLT (xs := words) (enc := D.str) hv13 (ml_var (pv 0) rfl) (me_var (pv 1) rfl)) me_str)))) (or_c hv14))) (fun h => ?_) fun h => ms_nil ?_)
  · replace hx := cond_t hx h
    refine ms_one (m_raiseI j_NoWords (me_var (pv 1) rfl) (hr.mono (by omega)) ?_)
    cases hx; rfl
  replace hx := cond_f hx h
  refine ms_one (m_ret (ps_ret pe_w) (ME.r (me_tup (mf_cons (me_var (pv 3) rfl) (mf_cons (me_add (me_var (pv 1) rfl) me_int) mf_nil)))) ?_)
  cases hx; rfl

-- GROUP parse 64 4 : some_at all_at piece_at
noncomputable def M_read_condition (text : D) : Option (Xr Xc Cd) :=
  bd (isiD "str" text) fun k1 =>
  cond (!k1) (some (.er (.NoWords (0 : Int)))) <|
  bd (asS text) fun v2 =>
  gd (((" " : Str).length == 0) = false ∧ v2.length + 2 ≤ sizeLine) <|
  lt (Txt.split v2 (" " : Str)) fun words =>
  cond (decide (60 < (words.length : Int))) (some (.er (.NoWords (60 : Int)))) <|
  bdx (Mf_some_at 64 words (0 : Int) (0 : Int)) fun v4 =>
  cond (decide (v4.2 < (words.length : Int))) (some (.er (.NoWords v4.2))) <|
  some (.ok v4.1)
def sp_read_condition (K : PySem.W.Frag) (C_Condition C_CauseIs C_ThingIs C_DaysIn C_Over C_Not C_All C_Some C_NoWords C_TooDeep C_NoAmount : Addr) : Sp := SpFE K (fun x : D => [.fz x]) (fun x => M_read_condition x) (t_Xc C_NoWords C_TooDeep C_NoAmount) (fun r => .fz ((u_Cd C_Condition C_CauseIs C_ThingIs C_DaysIn C_Over C_Not C_All C_Some) r))
abbrev N_read_condition : List Str := ["text", "words", "condition", "at"]
theorem sc_read_condition : FnScope N_read_condition ["text"] (defScope s_read_condition) := ⟨rfl, rfl, rfl, by decide +kernel, rfl, by decide +kernel, by decide +kernel⟩
theorem ok_read_condition {f : Addr} {fd : FuncData} (F : Fun K "read_condition" "read_condition" s_read_condition f fd) (z_isinstance : mg "isinstance" = none) (z_str : mg "str" = none) (z_len : mg "len" = none) (g_MOST_WORDS : mg "MOST_WORDS" = some (.int 60 tkMOST_WORDS)) (j_NoWords : XiC P w K mg base "NoWords" C_NoWords "at" 1 ["self", "at"]) (c_some_at : Fn1E P w K mg base "some_at" 68 ["words", "at", "deep"] (sp_some_at K C_Condition C_CauseIs C_ThingIs C_DaysIn C_Over C_Not C_All C_Some C_NoWords C_TooDeep C_NoAmount 64)) : FnOk P w K mg base (L2.CX P w) 69 f fd ["text"] (sp_read_condition K C_Condition C_CauseIs C_ThingIs C_DaysIn C_Over C_Not C_All C_Some C_NoWords C_TooDeep C_NoAmount) := by
  refine fn_mE F sc_read_condition (fun x => rfl) (fun x _ => exO_nv (fun _ => rfl) x.2) fun cdv A outer s H E hr po x hx => ?_
  obtain ⟨text, r⟩ := x
  replace hx : M_read_condition text = some r := hx
  have nd := sc_read_condition.nd
  unfold M_read_condition at hx
  show MS _ [some (.fz text), none, none, none] _ _
  replace hx := bd_some hx
  obtain ⟨k1, hk1, hx⟩ := hx
  refine ms_cons (m_if (t := (!k1)) (mt_not (mt_val (me_isiD (T := "str") hk1 (by rfl) z_isinstance (pe_bltn (v := .ty "str") (by rfl) z_str (by decide +kernel) rfl) (mv_var (pv 0) rfl)))) (fun h => ?_) fun h => ms_nil ?_)
  · replace hx := cond_t hx h
    refine ms_one (m_raiseI j_NoWords me_int (hr.mono (by decide)) ?_)
    cases hx; rfl
  replace hx := cond_f hx h
  replace hx := bd_some hx
  obtain ⟨v2, hv2, hx⟩ := hx
  replace hx := gd_some hx
  obtain ⟨g3, hx⟩ := hx
  replace hx := lt_some hx
  obtain ⟨words, ewords, hx⟩ := hx
  refine ms_cons (m_set (ps_set (i := 1) nd rfl (Or.inl rfl) pe_w) (ME.is (o' := (.lst ((words.map D.str).map .fz))) (me_split g3 (ME.is (o' := .fz (.str v2)) (me_var (pv 0) rfl) (asS_is hv2)) me_str) (by rw [ewords] <;> rfl)) ?_)
  show MS _ [some (.fz text), some (.lst ((words.map D.str).map .fz)), none, none] _ _
  refine ms_cons (m_if (t := (decide (60 < (words.length : Int)))) (mt_gt (me_lenLT (xs := words) (enc := D.str) (by rfl) z_len (ml_var (pv 1) rfl)) (me_gI g_MOST_WORDS)) (fun h => ?_) fun h => ms_nil ?_)
  · replace hx := cond_t hx h
    refine ms_one (m_raiseI j_NoWords (me_gI g_MOST_WORDS) (hr.mono (by decide)) ?_)
    cases hx; rfl
  replace hx := cond_f hx h
  rcases bdx_some hx with ⟨xe5, hv4, hx⟩ | ⟨v4, hv4, hx⟩
  · refine ms_cons (m_rzAsg (ps_asg pe_w (pg_tup (n := 2) rfl (pgs_cons (pg_name (i := 2) nd rfl (Or.inl rfl)) (pgs_cons (pg_name (i := 3) nd rfl (Or.inl rfl)) pgs_nil)))) (mz_fn c_some_at ((words, 0, 0), .er xe5) (ma_vw (ml_var (pv 1) rfl) (ma_fz me_int (ma_fz me_int ma_nil))) hv4 (hr.mono (by decide))) ?_)
    cases hx; rfl
  refine ms_cons (m_tgt (ps_asg pe_w (pg_tup (n := 2) rfl (pgs_cons (pg_name (i := 2) nd rfl (Or.inl rfl)) (pgs_cons (pg_name (i := 3) nd rfl (Or.inl rfl)) pgs_nil)))) (me_fn (Fn1E.ok c_some_at) ((words, 0, 0), .ok v4) (ma_vw (ml_var (pv 1) rfl) (ma_fz me_int (ma_fz me_int ma_nil))) ⟨hv4, (by intro _ z; cases z)⟩ (hr.mono (by decide))) (mg_tup (mgs_cons mg_name (mgs_cons mg_name mgs_nil)) rfl) ?_)
  show MS _ [some (.fz text), some (.lst ((words.map D.str).map .fz)), some (.fz ((u_Cd C_Condition C_CauseIs C_ThingIs C_DaysIn C_Over C_Not C_All C_Some) v4.1)), some (.fz (.int v4.2))] _ _
  refine ms_cons (m_if (t := (decide (v4.2 < (words.length : Int)))) (mt_lt (me_var (pv 3) rfl) (me_lenLT (xs := words) (enc := D.str) (by rfl) z_len (ml_var (pv 1) rfl))) (fun h => ?_) fun h => ms_nil ?_)
  · replace hx := cond_t hx h
    refine ms_one (m_raiseI j_NoWords (me_var (pv 3) rfl) (hr.mono (by decide)) ?_)
    cases hx; rfl
  replace hx := cond_f hx h
  refine ms_one (m_ret (ps_ret pe_w) (ME.r (me_var (pv 2) rfl)) ?_)
  cases hx; rfl

def Xc.is_NoWords : Xc → Bool
  | .NoWords _ => true
  | .TooDeep => false
  | .NoAmount => false
def Xc.is_TooDeep : Xc → Bool
  | .NoWords _ => false
  | .TooDeep => true
  | .NoAmount => false
def Xc.f_at : Xc → Option Int
  | .NoWords i => some i
  | .TooDeep => none
  | .NoAmount => none
noncomputable def M__law_refused (thing : D) : Option D :=
  bd (bdo (M_read_condition thing) fun v3 =>
    some (.nx ()) : Option (Ou (Unit) Unit (Xr Xc D))) fun o2 => tryR o2 (fun p1 =>
  some (e_T_s ("read" : Str))) (fun r => some r) (fun xe => cond (!true) (some (e_T_s ("other" : Str))) <|
    cond ((Xc.is_NoWords xe) && ((!(Xc.is_TooDeep xe)) && (!false))) (bd (Xc.f_at xe) fun n5 =>
      some (e_T_s_i (("words" : Str), n5))) <|
    cond ((Xc.is_TooDeep xe) && ((!(Xc.is_NoWords xe)) && (!(Xc.is_NoAmount xe)))) (some (e_T_s ("deep" : Str))) <|
    some (e_T_s ("other" : Str)))
def sp__law_refused (K : PySem.W.Frag) : Sp := SpF K (fun x : D => [.fz x]) (fun x => M__law_refused x) (fun r => .fz r)
abbrev N__law_refused : List Str := ["_law_thing", "e"]
theorem sc__law_refused : FnScope N__law_refused ["_law_thing"] (defScope s__law_refused) := ⟨rfl, rfl, rfl, by decide +kernel, rfl, by decide +kernel, by decide +kernel⟩
theorem ok__law_refused {f : Addr} {fd : FuncData} (F : Fun K "_law_refused" "_law_refused" s__law_refused f fd) (z_isinstance : mg "isinstance" = none) (z_ValueError : mg "ValueError" = none) (e_CoverError : mg "CoverError" = some (.ref C_CoverError)) (v_NoWords_CoverError : PySem.W.exmOne K (.ref C_NoWords) (.ref C_CoverError) = some true) (v_TooDeep_CoverError : PySem.W.exmOne K (.ref C_TooDeep) (.ref C_CoverError) = some true) (v_NoAmount_CoverError : PySem.W.exmOne K (.ref C_NoAmount) (.ref C_CoverError) = some true) (c_read_condition : Fn1E P w K mg base "read_condition" 69 ["text"] (sp_read_condition K C_Condition C_CauseIs C_ThingIs C_DaysIn C_Over C_Not C_All C_Some C_NoWords C_TooDeep C_NoAmount)) (w_NoWords : ExcC K C_NoWords) (q_NoWords_ValueError : PySem.W.kitOne K (.ref C_NoWords) (.type "ValueError") = some true) (w_TooDeep : ExcC K C_TooDeep) (q_TooDeep_ValueError : PySem.W.kitOne K (.ref C_TooDeep) (.type "ValueError") = some true) (w_NoAmount : ExcC K C_NoAmount) (q_NoAmount_ValueError : PySem.W.kitOne K (.ref C_NoAmount) (.type "ValueError") = some true) (e_NoWords : mg "NoWords" = some (.ref C_NoWords)) (q_NoWords_NoWords : PySem.W.kitOne K (.ref C_NoWords) (.ref C_NoWords) = some true) (q_TooDeep_NoWords : PySem.W.kitOne K (.ref C_TooDeep) (.ref C_NoWords) = some false) (q_NoAmount_NoWords : PySem.W.kitOne K (.ref C_NoAmount) (.ref C_NoWords) = some false) (e_TooDeep : mg "TooDeep" = some (.ref C_TooDeep)) (q_NoWords_TooDeep : PySem.W.kitOne K (.ref C_NoWords) (.ref C_TooDeep) = some false) (q_TooDeep_TooDeep : PySem.W.kitOne K (.ref C_TooDeep) (.ref C_TooDeep) = some true) (q_NoAmount_TooDeep : PySem.W.kitOne K (.ref C_NoAmount) (.ref C_TooDeep) = some false) (e_NoText : mg "NoText" = some (.ref C_NoText)) (q_NoWords_NoText : PySem.W.kitOne K (.ref C_NoWords) (.ref C_NoText) = some false) (q_TooDeep_NoText : PySem.W.kitOne K (.ref C_TooDeep) (.ref C_NoText) = some false) (q_NoAmount_NoText : PySem.W.kitOne K (.ref C_NoAmount) (.ref C_NoText) = some false) (fx_NoWords : XfC K C_NoWords) (q_nf_NoWords : PySem.W.findIn K (.ref C_NoWords) "at" = some none) (e_NoAmount : mg "NoAmount" = some (.ref C_NoAmount)) (q_NoWords_NoAmount : PySem.W.kitOne K (.ref C_NoWords) (.ref C_NoAmount) = some false) (q_TooDeep_NoAmount : PySem.W.kitOne K (.ref C_TooDeep) (.ref C_NoAmount) = some false) (q_NoAmount_NoAmount : PySem.W.kitOne K (.ref C_NoAmount) (.ref C_NoAmount) = some true) : FnOk P w K mg base CX0 70 f fd ["_law_thing"] (sp__law_refused K) := by
  refine fn_m F sc__law_refused (fun x => rfl) (fun x _ => rfl) fun cdv A outer s H E hr x hx => ?_
  obtain ⟨thing, r⟩ := x
  replace hx : M__law_refused thing = some r := hx
  have nd := sc__law_refused.nd
  unfold M__law_refused at hx
  show MS _ [some (.fz thing), none] _ _
  replace hx := bd_some hx
  obtain ⟨o2, ho2, hx⟩ := hx
  refine ms_cons (m_tryF (i := 1) (out := o2) (fun p1 => [some (.fz thing), none]) (t_Xc C_NoWords C_TooDeep C_NoAmount) (fun r => .fz r) nd rfl rfl ⟨rfl, by decide, .inl e_CoverError⟩ (by intro _ _ z; cases z) (fun e f dv h => by cases e <;> first | (cases h; exact ⟨_, rfl⟩) | cases h) (fun pn xe po => ?_) (fun _ e => ?_) (fun _ e => ?_) (fun q e => ?_) (fun e _ => (by cases e with | NoWords _ => exact v_NoWords_CoverError | TooDeep => exact v_TooDeep_CoverError | NoAmount => exact v_NoAmount_CoverError)) (fun xe e a oe d pn hz hf => ?_) (fun p1 τ e le => ?_))
  · replace hx := ho2
    show MS _ [some (.fz thing), none] _ _
    rcases bdo_some hx with ⟨xe4, hv3, hx⟩ | ⟨v3, hv3, hx⟩
    · refine ms_one (m_rzDrop (ps_expr pe_w) (mz_fn c_read_condition (thing, .er xe4) (ma_fz (me_var (pv 0) rfl) ma_nil) hv3 (hr.mono (by decide))) ?_)
      cases hx; exact ⟨_, rfl, rfl⟩
    refine ms_one (m_expr (ps_expr pe_w) (me_fn (Fn1E.ok c_read_condition) (thing, .ok v3) (ma_fz (me_var (pv 0) rfl) ma_nil) ⟨hv3, (by intro _ z; cases z)⟩ (hr.mono (by decide))) ?_)
    cases hx; exact ⟨_, rfl, le_auto⟩
  · subst e; cases hx
  · subst e; cases hx
  · subst e; dsimp only [tryR] at hx; cases hx; rfl
  · subst e
    dsimp only [tryR] at hx
    show MS _ [none, some (.fz (.hx a d (fldI ((t_Xc C_NoWords C_TooDeep C_NoAmount) xe))))] _ _
    refine ms_cons (m_if (t := (!true)) (mt_not (mt_val (show ME _ _ _ (.fz (.bl true)) from by cases xe with | NoWords _ => exact me_isiFB w_NoWords hz hf rfl z_isinstance (pe_bltn (v := .ty "ValueError") (by rfl) z_ValueError (by decide +kernel) rfl) (pv 1) rfl q_NoWords_ValueError | TooDeep => exact me_isiFB w_TooDeep hz hf rfl z_isinstance (pe_bltn (v := .ty "ValueError") (by rfl) z_ValueError (by decide +kernel) rfl) (pv 1) rfl q_TooDeep_ValueError | NoAmount => exact me_isiFB w_NoAmount hz hf rfl z_isinstance (pe_bltn (v := .ty "ValueError") (by rfl) z_ValueError (by decide +kernel) rfl) (pv 1) rfl q_NoAmount_ValueError))) (fun h => ?_) fun h => ms_nil ?_)
    · replace hx := cond_t hx h
      refine ms_one (m_ret (ps_ret pe_w) (ME.r (me_tup (mf_cons me_str mf_nil))) ?_)
      cases hx; exact ⟨rfl, fun _ h => nomatch h⟩
    replace hx := cond_f hx h
    refine ms_cons (m_if (t := ((Xc.is_NoWords xe) && ((!(Xc.is_TooDeep xe)) && (!false)))) (MW.t (mw_and (mt_val (show ME _ _ _ (.fz (.bl (Xc.is_NoWords xe))) from by cases xe with | NoWords _ => exact me_isiF w_NoWords hz hf rfl z_isinstance e_NoWords (pv 1) rfl q_NoWords_NoWords | TooDeep => exact me_isiF w_TooDeep hz hf rfl z_isinstance e_NoWords (pv 1) rfl q_TooDeep_NoWords | NoAmount => exact me_isiF w_NoAmount hz hf rfl z_isinstance e_NoWords (pv 1) rfl q_NoAmount_NoWords)) fun _ => (mw_and (mt_not (mt_val (show ME _ _ _ (.fz (.bl (Xc.is_TooDeep xe))) from by cases xe with | NoWords _ => exact me_isiF w_NoWords hz hf rfl z_isinstance e_TooDeep (pv 1) rfl q_NoWords_TooDeep | TooDeep => exact me_isiF w_TooDeep hz hf rfl z_isinstance e_TooDeep (pv 1) rfl q_TooDeep_TooDeep | NoAmount => exact me_isiF w_NoAmount hz hf rfl z_isinstance e_TooDeep (pv 1) rfl q_NoAmount_TooDeep))) fun _ => (mw_and1 (mt_not (mt_val (show ME _ _ _ (.fz (.bl false)) from by cases xe with | NoWords _ => exact me_isiF w_NoWords hz hf rfl z_isinstance e_NoText (pv 1) rfl q_NoWords_NoText | TooDeep => exact me_isiF w_TooDeep hz hf rfl z_isinstance e_NoText (pv 1) rfl q_TooDeep_NoText | NoAmount => exact me_isiF w_NoAmount hz hf rfl z_isinstance e_NoText (pv 1) rfl q_NoAmount_NoText))))))) (fun h => ?_) fun h => ms_nil ?_)
    · replace hx := cond_t hx h
      replace hx := bd_some hx
      obtain ⟨n5, hn5, hx⟩ := hx
      refine ms_one (m_ret (ps_ret pe_w) (ME.r (me_tup (mf_cons me_str (mf_cons (show ME _ _ _ (.fz (.int n5)) from by cases xe with | NoWords i0 => (cases hn5; exact me_fldH fx_NoWords q_nf_NoWords hz hf (pv 1) rfl) | TooDeep => cases hn5 | NoAmount => cases hn5) mf_nil)))) ?_)
      cases hx; exact ⟨rfl, fun _ h => nomatch h⟩
    replace hx := cond_f hx h
    refine ms_cons (m_if (t := ((Xc.is_TooDeep xe) && ((!(Xc.is_NoWords xe)) && (!(Xc.is_NoAmount xe))))) (MW.t (mw_and (mt_val (show ME _ _ _ (.fz (.bl (Xc.is_TooDeep xe))) from by cases xe with | NoWords _ => exact me_isiF w_NoWords hz hf rfl z_isinstance e_TooDeep (pv 1) rfl q_NoWords_TooDeep | TooDeep => exact me_isiF w_TooDeep hz hf rfl z_isinstance e_TooDeep (pv 1) rfl q_TooDeep_TooDeep | NoAmount => exact me_isiF w_NoAmount hz hf rfl z_isinstance e_TooDeep (pv 1) rfl q_NoAmount_TooDeep)) fun _ => (mw_and (mt_not (mt_val (show ME _ _ _ (.fz (.bl (Xc.is_NoWords xe))) from by cases xe with | NoWords _ => exact me_isiF w_NoWords hz hf rfl z_isinstance e_NoWords (pv 1) rfl q_NoWords_NoWords | TooDeep => exact me_isiF w_TooDeep hz hf rfl z_isinstance e_NoWords (pv 1) rfl q_TooDeep_NoWords | NoAmount => exact me_isiF w_NoAmount hz hf rfl z_isinstance e_NoWords (pv 1) rfl q_NoAmount_NoWords))) fun _ => (mw_and1 (mt_not (mt_val (show ME _ _ _ (.fz (.bl (Xc.is_NoAmount xe))) from by cases xe with | NoWords _ => exact me_isiF w_NoWords hz hf rfl z_isinstance e_NoAmount (pv 1) rfl q_NoWords_NoAmount | TooDeep => exact me_isiF w_TooDeep hz hf rfl z_isinstance e_NoAmount (pv 1) rfl q_TooDeep_NoAmount | NoAmount => exact me_isiF w_NoAmount hz hf rfl z_isinstance e_NoAmount (pv 1) rfl q_NoAmount_NoAmount))))))) (fun h => ?_) fun h => ms_nil ?_)
    · replace hx := cond_t hx h
      refine ms_one (m_ret (ps_ret pe_w) (ME.r (me_tup (mf_cons me_str mf_nil))) ?_)
      cases hx; exact ⟨rfl, fun _ h => nomatch h⟩
    replace hx := cond_f hx h
    refine ms_one (m_ret (ps_ret pe_w) (ME.r (me_tup (mf_cons me_str mf_nil))) ?_)
    cases hx; exact ⟨rfl, fun _ h => nomatch h⟩
  · subst e
    dsimp only [tryR] at hx
    refine ms_le le ?_
    show MS _ [some (.fz thing), none] _ _
    refine ms_one (m_ret (ps_ret pe_w) (ME.r (me_tup (mf_cons me_str mf_nil))) ?_)
    cases hx; rfl

noncomputable def M__law_refused_at (thing : D) (due : Int) : Option Bool :=
  bd (M__law_refused thing) fun v1 =>
  bd (lenTd v1) fun v2 =>
  bd (cond ((v2 == 2)) (bd (ixD v1 (1 : Int)) fun v3 => bd (M__law_whole v3) fun v4 => bd (cond v4 (gd (D.ok v1 ∧ D.ok (e_T_s_i (("words" : Str), due))) <| some ((D.eqv v1 (e_T_s_i (("words" : Str), due))))) (some false)) fun v6 => some v6) (some false)) fun v8 =>
  some v8
def sp__law_refused_at (K : PySem.W.Frag) : Sp := SpF K (fun x : D × Int => [.fz x.1, .fz (.int x.2)]) (fun x => M__law_refused_at x.1 x.2) (fun r => .fz (.bl r))
abbrev N__law_refused_at : List Str := ["_law_thing", "_law_due", "_law_found"]
theorem sc__law_refused_at : FnScope N__law_refused_at ["_law_thing", "_law_due"] (defScope s__law_refused_at) := ⟨rfl, rfl, rfl, by decide +kernel, rfl, by decide +kernel, by decide +kernel⟩
theorem ok__law_refused_at {f : Addr} {fd : FuncData} (F : Fun K "_law_refused_at" "_law_refused_at" s__law_refused_at f fd) (z_len : mg "len" = none) (c__law_refused : Fn1 P w K mg base "_law_refused" 70 ["_law_thing"] (sp__law_refused K)) (c__law_whole : Fn1 P w K mg base "_law_whole" 1 ["_law_found"] (sp__law_whole K)) : FnOk P w K mg base CX0 71 f fd ["_law_thing", "_law_due"] (sp__law_refused_at K) := by
  refine fn_m F sc__law_refused_at (fun x => rfl) (fun x _ => rfl) fun cdv A outer s H E hr x hx => ?_
  obtain ⟨⟨thing, due⟩, r⟩ := x
  replace hx : M__law_refused_at thing due = some r := hx
  have nd := sc__law_refused_at.nd
  unfold M__law_refused_at at hx
  show MS _ [some (.fz thing), some (.fz (.int due)), none] _ _
  replace hx := bd_some hx
  obtain ⟨v1, hv1, hx⟩ := hx
  refine ms_cons (m_set (ps_set (i := 2) nd rfl (Or.inl rfl) pe_w) (me_fn c__law_refused (thing, v1) (ma_fz (me_var (pv 0) rfl) ma_nil) hv1 (hr.mono (by decide))) ?_)
  show MS _ [some (.fz thing), some (.fz (.int due)), some (.fz v1)] _ _
  replace hx := bd_some hx
  obtain ⟨v2, hv2, hx⟩ := hx
  replace hx := bd_some hx
  obtain ⟨v8, hv8, hx⟩ := hx
  refine ms_one (m_ret (ps_ret pe_w) (ME.r (ME.isB (me_and (me_eqI (me_lenTd hv2 (by rfl) z_len (me_var (pv 2) rfl)) me_int) fun q9 => (by have hx := cond_t hv8 q9; replace hx := bd_some hx; obtain ⟨v3, hv3, hx⟩ := hx; replace hx := bd_some hx; obtain ⟨v4, hv4, hx⟩ := hx; replace hx := bd_some hx; obtain ⟨v6, hv6, hx⟩ := hx; first | (cases hx; exact (ME.isB (me_and (me_fn c__law_whole (v3, v4) (ma_fz (me_ixD hv3 (me_var (pv 2) rfl) me_int) ma_nil) hv4 (hr.mono (by decide))) fun q7 => (by have hx := cond_t hv6 q7; replace hx := gd_some hx; obtain ⟨g5, hx⟩ := hx; cases hx; exact (me_one (me_eqDT (d1 := v1) (d2 := (e_T_s_i (("words" : Str), due))) hr.units g5 rfl rfl (ME.v (me_var (pv 2) rfl)) (ME.v (me_tup (mf_cons me_str (mf_cons (me_var (pv 1) rfl) mf_nil)))))))) (and_c hv6))) | (injection hx with hx; subst hx; exact (ME.isB (me_and (me_fn c__law_whole (v3, v4) (ma_fz (me_ixD hv3 (me_var (pv 2) rfl) me_int) ma_nil) hv4 (hr.mono (by decide))) fun q7 => (by have hx := cond_t hv6 q7; replace hx := gd_some hx; obtain ⟨g5, hx⟩ := hx; cases hx; exact (me_one (me_eqDT (d1 := v1) (d2 := (e_T_s_i (("words" : Str), due))) hr.units g5 rfl rfl (ME.v (me_var (pv 2) rfl)) (ME.v (me_tup (mf_cons me_str (mf_cons (me_var (pv 1) rfl) mf_nil)))))))) (and_c hv6))))) (and_c hv8))) ?_)
  cases hx; rfl
abbrev e_T_L_i_L_i (p : ((List Int) × (List Int))) : D := .tup [.lst (p.1.map D.int), .lst (p.2.map D.int)]
noncomputable def M__law_roles (words_here : (List Str)) : Option ((List Int) × (List Int)) :=
  lt ([] : List Int) fun roles_here =>
  lt ([] : List Int) fun opened =>
  bd (lp (fun (x2 : Str) (p1 : (List Int) × (List Int) × Int × Int) => (gd (p1.1.length < sizeLine) <|
    lt (p1.1 ++ [p1.2.2.2]) fun roles_here_1 =>
    gd (p1.2.1.length < sizeLine) <|
    lt (p1.2.1 ++ [p1.2.2.1]) fun opened_1 =>
    cond ((((p1.2.2.2 == 0)) && ((x2 == ("(" : Str))))) (lt (p1.2.2.1 + 1) fun deep =>
      some (roles_here_1, opened_1, deep, p1.2.2.2)) (cond (((p1.2.2.2 == 0)) && (!(x2 == ("not" : Str)))) (lt (dgI [(("always" : Str), (5 : Int)), (("cause" : Str), (1 : Int)), (("thing" : Str), (1 : Int)), (("days" : Str), (2 : Int))] x2 (4 : Int)) fun role =>
        some (roles_here_1, opened_1, p1.2.2.1, role)) (cond ((p1.2.2.2 == 2)) (some (roles_here_1, opened_1, p1.2.2.1, 3)) (cond ((((p1.2.2.2 == 5)) && ((x2 == (")" : Str))))) (lt (p1.2.2.1 - 1) fun deep_1 =>
            some (roles_here_1, opened_1, deep_1, p1.2.2.2)) (cond ((p1.2.2.2 == 5)) (some (roles_here_1, opened_1, p1.2.2.1, 0)) (cond (decide (0 < p1.2.2.2)) (some (roles_here_1, opened_1, p1.2.2.1, 5)) (some (roles_here_1, opened_1, p1.2.2.1, p1.2.2.2))))))) : Option ((List Int) × (List Int) × Int × Int))) words_here (roles_here, opened, 0, 0)) fun p3 =>
  gd (p3.1.length + [p3.2.2.2].length ≤ sizeLine) <|
  gd (p3.2.1.length + [p3.2.2.1].length ≤ sizeLine) <|
  some ((p3.1 ++ [p3.2.2.2]), (p3.2.1 ++ [p3.2.2.1]))
def sp__law_roles (K : PySem.W.Frag) : Sp := SpF K (fun x : (List Str) => [.vw (x.map D.str)]) (fun x => M__law_roles x) (fun r => .fz (e_T_L_i_L_i r))
abbrev N__law_roles : List Str := ["_law_words_here", "_law_roles_here", "_law_opened", "_law_role", "_law_deep", "_law_word"]
theorem sc__law_roles : FnScope N__law_roles ["_law_words_here"] (defScope s__law_roles) := ⟨rfl, rfl, rfl, by decide +kernel, rfl, by decide +kernel, by decide +kernel⟩
theorem ok__law_roles {f : Addr} {fd : FuncData} (F : Fun K "_law_roles" "_law_roles" s__law_roles f fd)  : FnOk P w K mg base CX0 1 f fd ["_law_words_here"] (sp__law_roles K) := by
  refine fn_m F sc__law_roles (fun x => rfl) (fun x _ => rfl) fun cdv A outer s H E hr x hx => ?_
  obtain ⟨words_here, r⟩ := x
  replace hx : M__law_roles words_here = some r := hx
  have nd := sc__law_roles.nd
  unfold M__law_roles at hx
  show MS _ [some (.vw (words_here.map D.str)), none, none, none, none, none] _ _
  replace hx := lt_some hx
  obtain ⟨roles_here, eroles_here, hx⟩ := hx
  refine ms_cons (m_set (ps_set (i := 1) nd rfl (Or.inl rfl) pe_w) (ME.is (o' := (.lst ((roles_here.map D.int).map .fz))) (me_lst (ds := [].map D.int) mf_nil) (by rw [eroles_here] <;> rfl)) ?_)
  show MS _ [some (.vw (words_here.map D.str)), some (.lst ((roles_here.map D.int).map .fz)), none, none, none, none] _ _
  replace hx := lt_some hx
  obtain ⟨opened, eopened, hx⟩ := hx
  refine ms_cons (m_set (ps_set (i := 2) nd rfl (Or.inl rfl) pe_w) (ME.is (o' := (.lst ((opened.map D.int).map .fz))) (me_lst (ds := [].map D.int) mf_nil) (by rw [eopened] <;> rfl)) ?_)
  show MS _ [some (.vw (words_here.map D.str)), some (.lst ((roles_here.map D.int).map .fz)), some (.lst ((opened.map D.int).map .fz)), none, none, none] _ _
  refine ms_cons (m_set (ps_set (i := 3) nd rfl (Or.inl rfl) pe_w) me_int ?_)
  show MS _ [some (.vw (words_here.map D.str)), some (.lst ((roles_here.map D.int).map .fz)), some (.lst ((opened.map D.int).map .fz)), some (.fz (.int (0 : Int))), none, none] _ _
  refine ms_cons (m_set (ps_set (i := 4) nd rfl (Or.inl rfl) pe_w) me_int ?_)
  show MS _ [some (.vw (words_here.map D.str)), some (.lst ((roles_here.map D.int).map .fz)), some (.lst ((opened.map D.int).map .fz)), some (.fz (.int (0 : Int))), some (.fz (.int (0 : Int))), none] _ _
  replace hx := bd_some hx
  obtain ⟨p3, hp3, hx⟩ := hx
  refine ms_cons (m_forP (xs := words_here) (enc := D.str) (ps_for PassesOwn.never rfl (pi_list pe_w) (pg_name (i := 5) nd rfl (Or.inl rfl)) pss_w) (by exact (mi_list (ds := words_here.map D.str) (mk_var (pv 0) rfl))) hp3 (fun p1 => [some (.vw (words_here.map D.str)), some (.lst ((p1.1.map D.int).map .fz)), some (.lst ((p1.2.1.map D.int).map .fz)), some (.fz (.int p1.2.2.2)), some (.fz (.int p1.2.2.1)), none]) le_auto (fun x2 p1 p1o mx hx => ?_) fun τ le => ?_)
  ·
    refine ⟨_, _, mg_name, ?_⟩
    show MS _ [some (.vw (words_here.map D.str)), some (.lst ((p1.1.map D.int).map .fz)), some (.lst ((p1.2.1.map D.int).map .fz)), some (.fz (.int p1.2.2.2)), some (.fz (.int p1.2.2.1)), some (.fz (.str x2))] _ _
    replace hx := gd_some hx
    obtain ⟨g4, hx⟩ := hx
    replace hx := lt_some hx
    obtain ⟨roles_here_1, eroles_here_1, hx⟩ := hx
    refine ms_cons (m_appendT (i := 1) (xs := p1.1) (enc := D.int) (y := p1.2.2.2) g4 (pv _) rfl (me_var (pv 3) rfl) ?_)
    rw [← eroles_here_1]
    show MS _ [some (.vw (words_here.map D.str)), some (.lst ((roles_here_1.map D.int).map .fz)), some (.lst ((p1.2.1.map D.int).map .fz)), some (.fz (.int p1.2.2.2)), some (.fz (.int p1.2.2.1)), some (.fz (.str x2))] _ _
    replace hx := gd_some hx
    obtain ⟨g5, hx⟩ := hx
    replace hx := lt_some hx
    obtain ⟨opened_1, eopened_1, hx⟩ := hx
    refine ms_cons (m_appendT (i := 2) (xs := p1.2.1) (enc := D.int) (y := p1.2.2.1) g5 (pv _) rfl (me_var (pv 4) rfl) ?_)
    rw [← eopened_1]
    show MS _ [some (.vw (words_here.map D.str)), some (.lst ((roles_here_1.map D.int).map .fz)), some (.lst ((opened_1.map D.int).map .fz)), some (.fz (.int p1.2.2.2)), some (.fz (.int p1.2.2.1)), some (.fz (.str x2))] _ _
    refine ms_one (m_if (t := (((p1.2.2.2 == 0)) && ((x2 == ("(" : Str))))) (MW.t (mw_and (mt_eqI (me_var (pv 3) rfl) me_int) fun _ => (mw_and1 (mt_eqS (me_var (pv 5) rfl) me_str)))) (fun h => ?_) fun h => ?_)
    · replace hx := cond_t hx h
      replace hx := lt_some hx
      obtain ⟨deep, edeep, hx⟩ := hx
      refine ms_one (m_set (ps_set (i := 4) nd rfl (Or.inl rfl) pe_w) (ME.is (o' := (.fz (.int deep))) (me_add (me_var (pv 4) rfl) me_int) (by rw [edeep] <;> rfl)) ?_)
      cases hx; exact le_auto
    · replace hx := cond_f hx h
      refine ms_one (m_if (t := (((p1.2.2.2 == 0)) && (!(x2 == ("not" : Str))))) (MW.t (mw_and (mt_eqI (me_var (pv 3) rfl) me_int) fun _ => (mw_and1 (mt_neS (me_var (pv 5) rfl) me_str)))) (fun h => ?_) fun h => ?_)
      · replace hx := cond_t hx h
        replace hx := lt_some hx
        obtain ⟨role, erole, hx⟩ := hx
        refine ms_one (m_set (ps_set (i := 3) nd rfl (Or.inl rfl) pe_w) (ME.is (o' := (.fz (.int role))) (me_dget (kvs := [(("always" : Str), (5 : Int)), (("cause" : Str), (1 : Int)), (("thing" : Str), (1 : Int)), (("days" : Str), (2 : Int))]) hr.units (mps_cons (mps_cons (mps_cons (mps_cons mps_nil)))) (me_var (pv 5) rfl) me_int) (by rw [erole] <;> rfl)) ?_)
        cases hx; exact le_auto
      · replace hx := cond_f hx h
        refine ms_one (m_if (t := ((p1.2.2.2 == 2))) (mt_eqI (me_var (pv 3) rfl) me_int) (fun h => ?_) fun h => ?_)
        · replace hx := cond_t hx h
          refine ms_one (m_set (ps_set (i := 3) nd rfl (Or.inl rfl) pe_w) me_int ?_)
          cases hx; exact le_auto
        · replace hx := cond_f hx h
          refine ms_one (m_if (t := (((p1.2.2.2 == 5)) && ((x2 == (")" : Str))))) (MW.t (mw_and (mt_eqI (me_var (pv 3) rfl) me_int) fun _ => (mw_and1 (mt_eqS (me_var (pv 5) rfl) me_str)))) (fun h => ?_) fun h => ?_)
          · replace hx := cond_t hx h
            replace hx := lt_some hx
            obtain ⟨deep_1, edeep_1, hx⟩ := hx
            refine ms_one (m_set (ps_set (i := 4) nd rfl (Or.inl rfl) pe_w) (ME.is (o' := (.fz (.int deep_1))) (me_sub (me_var (pv 4) rfl) me_int) (by rw [edeep_1] <;> rfl)) ?_)
            cases hx; exact le_auto
          · replace hx := cond_f hx h
            refine ms_one (m_if (t := ((p1.2.2.2 == 5))) (mt_eqI (me_var (pv 3) rfl) me_int) (fun h => ?_) fun h => ?_)
            · replace hx := cond_t hx h
              refine ms_one (m_set (ps_set (i := 3) nd rfl (Or.inl rfl) pe_w) me_int ?_)
              cases hx; exact le_auto
            · replace hx := cond_f hx h
              refine ms_one (m_if (t := (decide (0 < p1.2.2.2))) (mt_gt (me_var (pv 3) rfl) me_int) (fun h => ?_) fun h => ?_)
              · replace hx := cond_t hx h
                refine ms_one (m_set (ps_set (i := 3) nd rfl (Or.inl rfl) pe_w) me_int ?_)
                cases hx; exact le_auto
              · replace hx := cond_f hx h
                refine ms_nil ?_
                cases hx; exact le_auto
  refine ms_le le ?_
  show MS _ [some (.vw (words_here.map D.str)), some (.lst ((p3.1.map D.int).map .fz)), some (.lst ((p3.2.1.map D.int).map .fz)), some (.fz (.int p3.2.2.2)), some (.fz (.int p3.2.2.1)), none] _ _
  replace hx := gd_some hx
  obtain ⟨g6, hx⟩ := hx
  replace hx := gd_some hx
  obtain ⟨g7, hx⟩ := hx
  refine ms_one (m_ret (ps_ret pe_w) (ME.r (me_tup (mf_cons (ME.frzl (me_catLT (xs := p3.1) (ys := [p3.2.2.2]) (enc := D.int) g6 (mv_var (pv 1) rfl) (ME.v (me_lst (ds := [p3.2.2.2].map D.int) (mf_cons (me_var (pv 3) rfl) mf_nil))))) (mf_cons (ME.frzl (me_catLT (xs := p3.2.1) (ys := [p3.2.2.1]) (enc := D.int) g7 (mv_var (pv 2) rfl) (ME.v (me_lst (ds := [p3.2.2.1].map D.int) (mf_cons (me_var (pv 4) rfl) mf_nil))))) mf_nil)))) ?_)
  cases hx; rfl

noncomputable def M__law_bad_words (words_here : (List Str)) (at_0 : Int) (role : Int) (deep : Int) : Option (List Str) :=
  cond ((role == 0)) (some [("and" : Str), ("or" : Str), (")" : Str), ("" : Str), ("roof" : Str), ("Cause" : Str), ("12" : Str), ("ALWAYS" : Str), ("not(" : Str), ("over1" : Str), ("a" : Str), ("always\t" : Str)]) <|
  cond ((role == 1)) (some [("" : Str), ("Roof" : Str), ("12" : Str), ("(" : Str), (")" : Str), ("abcdefghi" : Str), ("a.b" : Str), ("roof-" : Str), ("a1" : Str), ("A" : Str)]) <|
  lt [("" : Str), ("-1" : Str), ("007" : Str), ("00" : Str), ("1000001" : Str), ("10000000" : Str), ("1.0" : Str), ("x" : Str), ("+5" : Str), ("days" : Str), ("1e3" : Str), ("1_0" : Str)] fun days =>
  bd (cond ((role == 3)) (bd (L2.atI words_here (at_0 - 1)) fun v1 => some (!(v1 == ("0" : Str)))) (some false)) fun v2 =>
  cond v2 (bd (L2.atI words_here (at_0 - 1)) fun v4 =>
    bd (PySem.intText? v4) fun n5 =>
    gd (v4.length ≤ 640) <|
    gd ((n5 - 1).natAbs.log2 < 1920) <|
    gd ((-(2 ^ 63) ≤ (6 : Int) ∧ (6 : Int) < 2 ^ 63) ∧ [(strI (n5 - 1))].length * (6 : Int).toNat ≤ sizeLine) <|
    gd (days.length + (repG [(strI (n5 - 1))] (6 : Int)).length ≤ sizeLine) <|
    gd ((days ++ (repG [(strI (n5 - 1))] (6 : Int))).length + [("0" : Str)].length ≤ sizeLine) <|
    some ((days ++ (repG [(strI (n5 - 1))] (6 : Int))) ++ [("0" : Str)])) <|
  cond (((role == 2)) || ((role == 3))) (some days) <|
  cond ((role == 4)) (some [("" : Str), ("5" : Str), ("5.0" : Str), ("05.00" : Str), ("1.000" : Str), (".50" : Str), ("-1.00" : Str), ("12345678901.00" : Str), ("1,00" : Str), ("over" : Str), ("1.0a" : Str)]) <|
  cond ((deep == 0)) (some [(")" : Str), ("not" : Str), ("" : Str), ("always" : Str), ("(" : Str), ("roof" : Str), ("And" : Str), ("12" : Str), (")" : Str), ("and\n" : Str), ("\t" : Str)]) <|
  some [("not" : Str), ("" : Str), ("always" : Str), ("(" : Str), ("cause" : Str), ("roof" : Str), ("Or" : Str), ("1.00" : Str), (")\t" : Str), ("\n" : Str)]
def sp__law_bad_words (K : PySem.W.Frag) : Sp := SpF K (fun x : (List Str) × Int × Int × Int => [.vw (x.1.map D.str), .fz (.int x.2.1), .fz (.int x.2.2.1), .fz (.int x.2.2.2)]) (fun x => M__law_bad_words x.1 x.2.1 x.2.2.1 x.2.2.2) (fun r => .lst ((r.map D.str).map .fz))
abbrev N__law_bad_words : List Str := ["_law_words_here", "_law_at", "_law_role", "_law_deep", "_law_days"]
theorem sc__law_bad_words : FnScope N__law_bad_words ["_law_words_here", "_law_at", "_law_role", "_law_deep"] (defScope s__law_bad_words) := ⟨rfl, rfl, rfl, by decide +kernel, rfl, by decide +kernel, by decide +kernel⟩
theorem ok__law_bad_words {f : Addr} {fd : FuncData} (F : Fun K "_law_bad_words" "_law_bad_words" s__law_bad_words f fd) (z_str : mg "str" = none) (z_int : mg "int" = none) : FnOk P w K mg base CX0 1 f fd ["_law_words_here", "_law_at", "_law_role", "_law_deep"] (sp__law_bad_words K) := by
  refine fn_m F sc__law_bad_words (fun x => rfl) (fun x _ => O.nvL_fz _) fun cdv A outer s H E hr x hx => ?_
  obtain ⟨⟨words_here, at_0, role, deep⟩, r⟩ := x
  replace hx : M__law_bad_words words_here at_0 role deep = some r := hx
  have nd := sc__law_bad_words.nd
  unfold M__law_bad_words at hx
  show MS _ [some (.vw (words_here.map D.str)), some (.fz (.int at_0)), some (.fz (.int role)), some (.fz (.int deep)), none] _ _
  refine ms_cons (m_if (t := ((role == 0))) (mt_eqI (me_var (pv 2) rfl) me_int) (fun h => ?_) fun h => ms_nil ?_)
  · replace hx := cond_t hx h
    refine ms_one (m_ret (ps_ret pe_w) (ME.r (me_lst (ds := [("and" : Str), ("or" : Str), (")" : Str), ("" : Str), ("roof" : Str), ("Cause" : Str), ("12" : Str), ("ALWAYS" : Str), ("not(" : Str), ("over1" : Str), ("a" : Str), ("always\t" : Str)].map D.str) (mf_cons me_str (mf_cons me_str (mf_cons me_str (mf_cons me_str (mf_cons me_str (mf_cons me_str (mf_cons me_str (mf_cons me_str (mf_cons me_str (mf_cons me_str (mf_cons me_str (mf_cons me_str mf_nil)))))))))))))) ?_)
    cases hx; rfl
  replace hx := cond_f hx h
  refine ms_cons (m_if (t := ((role == 1))) (mt_eqI (me_var (pv 2) rfl) me_int) (fun h => ?_) fun h => ms_nil ?_)
  · replace hx := cond_t hx h
    refine ms_one (m_ret (ps_ret pe_w) (ME.r (me_lst (ds := [("" : Str), ("Roof" : Str), ("12" : Str), ("(" : Str), (")" : Str), ("abcdefghi" : Str), ("a.b" : Str), ("roof-" : Str), ("a1" : Str), ("A" : Str)].map D.str) (mf_cons me_str (mf_cons me_str (mf_cons me_str (mf_cons me_str (mf_cons me_str (mf_cons me_str (mf_cons me_str (mf_cons me_str (mf_cons me_str (mf_cons me_str mf_nil)))))))))))) ?_)
    cases hx; rfl
  replace hx := cond_f hx h
  replace hx := lt_some hx
  obtain ⟨days, edays, hx⟩ := hx
  refine ms_cons (m_set (ps_set (i := 4) nd rfl (Or.inl rfl) pe_w) (ME.is (o' := (.lst ((days.map D.str).map .fz))) (me_lst (ds := [("" : Str), ("-1" : Str), ("007" : Str), ("00" : Str), ("1000001" : Str), ("10000000" : Str), ("1.0" : Str), ("x" : Str), ("+5" : Str), ("days" : Str), ("1e3" : Str), ("1_0" : Str)].map D.str) (mf_cons me_str (mf_cons me_str (mf_cons me_str (mf_cons me_str (mf_cons me_str (mf_cons me_str (mf_cons me_str (mf_cons me_str (mf_cons me_str (mf_cons me_str (mf_cons me_str (mf_cons me_str mf_nil))))))))))))) (by rw [edays] <;> rfl)) ?_)
  show MS _ [some (.vw (words_here.map D.str)), some (.fz (.int at_0)), some (.fz (.int role)), some (.fz (.int deep)), some (.lst ((days.map D.str).map .fz))] _ _
  replace hx := bd_some hx
  obtain ⟨v2, hv2, hx⟩ := hx
  refine ms_cons (m_if (t := v2) (MW.t (MW.is (mw_and (mt_eqI (me_var (pv 2) rfl) me_int) fun q3 => (by have hx := cond_t hv2 q3; replace hx := bd_some hx; obtain ⟨v1, hv1, hx⟩ := hx; cases hx; exact (mw_and1 (mt_neS (me_ixLT (xs := words_here) (enc := D.str) hv1 (ml_var (pv 0) rfl) (me_sub (me_var (pv 1) rfl) me_int)) me_str)))) (and_c hv2))) (fun h => ?_) fun h => ms_nil ?_)
  · replace hx := cond_t hx h
    replace hx := bd_some hx
    obtain ⟨v4, hv4, hx⟩ := hx
    replace hx := bd_some hx
    obtain ⟨n5, hn5, hx⟩ := hx
    replace hx := gd_some hx
    obtain ⟨g6, hx⟩ := hx
    replace hx := gd_some hx
    obtain ⟨g7, hx⟩ := hx
    replace hx := gd_some hx
    obtain ⟨g8, hx⟩ := hx
    replace hx := gd_some hx
    obtain ⟨g9, hx⟩ := hx
    replace hx := gd_some hx
    obtain ⟨g10, hx⟩ := hx
    refine ms_one (m_ret (ps_ret pe_w) (ME.r (me_catLT (xs := (days ++ (repG [(strI (n5 - 1))] (6 : Int)))) (ys := [("0" : Str)]) (enc := D.str) g10 (ME.v (me_catLT (xs := days) (ys := (repG [(strI (n5 - 1))] (6 : Int))) (enc := D.str) g9 (mv_var (pv 4) rfl) (ME.v (me_repT (xs := [(strI (n5 - 1))]) (enc := D.str) g8 (ME.v (me_lst (ds := [(strI (n5 - 1))].map D.str) (mf_cons (me_strI (by rfl) z_str (me_sub (me_intS (by rfl) z_int (me_ixLT (xs := words_here) (enc := D.str) hv4 (ml_var (pv 0) rfl) (me_sub (me_var (pv 1) rfl) me_int)) hn5 g6) me_int) g7) mf_nil))) me_int)))) (ME.v (me_lst (ds := [("0" : Str)].map D.str) (mf_cons me_str mf_nil))))) ?_)
    cases hx; rfl
  replace hx := cond_f hx h
  refine ms_cons (m_if (t := (((role == 2)) || ((role == 3)))) (MW.t (mw_or (mt_eqI (me_var (pv 2) rfl) me_int) fun _ => (mw_or1 (mt_eqI (me_var (pv 2) rfl) me_int)))) (fun h => ?_) fun h => ms_nil ?_)
  · replace hx := cond_t hx h
    refine ms_one (m_ret (ps_ret pe_w) (mr_var (pv 4) rfl) ?_)
    cases hx; rfl
  replace hx := cond_f hx h
  refine ms_cons (m_if (t := ((role == 4))) (mt_eqI (me_var (pv 2) rfl) me_int) (fun h => ?_) fun h => ms_nil ?_)
  · replace hx := cond_t hx h
    refine ms_one (m_ret (ps_ret pe_w) (ME.r (me_lst (ds := [("" : Str), ("5" : Str), ("5.0" : Str), ("05.00" : Str), ("1.000" : Str), (".50" : Str), ("-1.00" : Str), ("12345678901.00" : Str), ("1,00" : Str), ("over" : Str), ("1.0a" : Str)].map D.str) (mf_cons me_str (mf_cons me_str (mf_cons me_str (mf_cons me_str (mf_cons me_str (mf_cons me_str (mf_cons me_str (mf_cons me_str (mf_cons me_str (mf_cons me_str (mf_cons me_str mf_nil))))))))))))) ?_)
    cases hx; rfl
  replace hx := cond_f hx h
  refine ms_cons (m_if (t := ((deep == 0))) (mt_eqI (me_var (pv 3) rfl) me_int) (fun h => ?_) fun h => ms_nil ?_)
  · replace hx := cond_t hx h
    refine ms_one (m_ret (ps_ret pe_w) (ME.r (me_lst (ds := [(")" : Str), ("not" : Str), ("" : Str), ("always" : Str), ("(" : Str), ("roof" : Str), ("And" : Str), ("12" : Str), (")" : Str), ("and\n" : Str), ("\t" : Str)].map D.str) (mf_cons me_str (mf_cons me_str (mf_cons me_str (mf_cons me_str (mf_cons me_str (mf_cons me_str (mf_cons me_str (mf_cons me_str (mf_cons me_str (mf_cons me_str (mf_cons me_str mf_nil))))))))))))) ?_)
    cases hx; rfl
  replace hx := cond_f hx h
  refine ms_one (m_ret (ps_ret pe_w) (ME.r (me_lst (ds := [("not" : Str), ("" : Str), ("always" : Str), ("(" : Str), ("cause" : Str), ("roof" : Str), ("Or" : Str), ("1.00" : Str), (")\t" : Str), ("\n" : Str)].map D.str) (mf_cons me_str (mf_cons me_str (mf_cons me_str (mf_cons me_str (mf_cons me_str (mf_cons me_str (mf_cons me_str (mf_cons me_str (mf_cons me_str (mf_cons me_str mf_nil)))))))))))) ?_)
  cases hx; rfl

abbrev e_T_L_s_i (p : ((List Str) × Int)) : D := .tup [.lst (p.1.map D.str), .int p.2]
noncomputable def M__law_spoilt (words_here : (List Str)) (number : Int) : Option ((List Str) × Int) :=
  bd (M__law_roles words_here) fun v1 =>
  gd (0 < (v1.1.length : Int)) <|
  lt (number % (v1.1.length : Int)) fun at_0 =>
  bd (L2.atI v1.1 at_0) fun v3 =>
  bd (L2.atI v1.2 at_0) fun v4 =>
  bd (M__law_bad_words words_here at_0 v3 v4) fun v5 =>
  gd (0 < (v5.length : Int)) <|
  bd (L2.atI v5 ((number / 64) % (v5.length : Int))) fun v7 =>
  lt ((number / 1024) % 3) fun way =>
  bd (cond ((way == 0)) (bd (L2.atI v1.1 at_0) fun v8 => bd (cond (!(v8 == 5)) (some true) (bd (L2.atI v1.2 at_0) fun v9 => some (decide (0 < v9)))) fun v10 => some v10) (some false)) fun v12 =>
  cond v12 (some ((cutG words_here none (some at_0)), at_0)) <|
  cond ((way == 1)) (gd ((cutG words_here none (some at_0)).length + [v7].length ≤ sizeLine) <|
    gd (((cutG words_here none (some at_0)) ++ [v7]).length + (cutG words_here (some at_0) none).length ≤ sizeLine) <|
    some ((((cutG words_here none (some at_0)) ++ [v7]) ++ (cutG words_here (some at_0) none)), at_0)) <|
  gd ((cutG words_here none (some at_0)).length + [v7].length ≤ sizeLine) <|
  gd (((cutG words_here none (some at_0)) ++ [v7]).length + (cutG words_here (some (at_0 + 1)) none).length ≤ sizeLine) <|
  some ((((cutG words_here none (some at_0)) ++ [v7]) ++ (cutG words_here (some (at_0 + 1)) none)), at_0)
def sp__law_spoilt (K : PySem.W.Frag) : Sp := SpF K (fun x : (List Str) × Int => [.vw (x.1.map D.str), .fz (.int x.2)]) (fun x => M__law_spoilt x.1 x.2) (fun r => .fz (e_T_L_s_i r))
abbrev N__law_spoilt : List Str := ["_law_words_here", "_law_number", "_law_roles_here", "_law_opened", "_law_at", "_law_bad", "_law_word", "_law_way"]
theorem sc__law_spoilt : FnScope N__law_spoilt ["_law_words_here", "_law_number"] (defScope s__law_spoilt) := ⟨rfl, rfl, rfl, by decide +kernel, rfl, by decide +kernel, by decide +kernel⟩
theorem ok__law_spoilt {f : Addr} {fd : FuncData} (F : Fun K "_law_spoilt" "_law_spoilt" s__law_spoilt f fd) (z_len : mg "len" = none) (c__law_roles : Fn1 P w K mg base "_law_roles" 1 ["_law_words_here"] (sp__law_roles K)) (c__law_bad_words : Fn1 P w K mg base "_law_bad_words" 1 ["_law_words_here", "_law_at", "_law_role", "_law_deep"] (sp__law_bad_words K)) : FnOk P w K mg base CX0 2 f fd ["_law_words_here", "_law_number"] (sp__law_spoilt K) := by
  refine fn_m F sc__law_spoilt (fun x => rfl) (fun x _ => rfl) fun cdv A outer s H E hr x hx => ?_
  obtain ⟨⟨words_here, number⟩, r⟩ := x
  replace hx : M__law_spoilt words_here number = some r := hx
  have nd := sc__law_spoilt.nd
  unfold M__law_spoilt at hx
  show MS _ [some (.vw (words_here.map D.str)), some (.fz (.int number)), none, none, none, none, none, none] _ _
  replace hx := bd_some hx
  obtain ⟨v1, hv1, hx⟩ := hx
  refine ms_cons (m_tgt (ps_asg pe_w (pg_tup (n := 2) rfl (pgs_cons (pg_name (i := 2) nd rfl (Or.inl rfl)) (pgs_cons (pg_name (i := 3) nd rfl (Or.inl rfl)) pgs_nil)))) (me_fn c__law_roles (words_here, v1) (ma_vw (ml_var (pv 0) rfl) ma_nil) hv1 (hr.mono (by decide))) (mg_tup (mgs_cons mg_name (mgs_cons mg_name mgs_nil)) rfl) ?_)
  show MS _ [some (.vw (words_here.map D.str)), some (.fz (.int number)), some (.fz (.lst (v1.1.map D.int))), some (.fz (.lst (v1.2.map D.int))), none, none, none, none] _ _
  replace hx := gd_some hx
  obtain ⟨g2, hx⟩ := hx
  replace hx := lt_some hx
  obtain ⟨at_0, eat_0, hx⟩ := hx
  refine ms_cons (m_set (ps_set (i := 4) nd rfl (Or.inl rfl) pe_w) (ME.is (o' := (.fz (.int at_0))) (me_mod (me_var (pv 1) rfl) (me_lenLT (xs := v1.1) (enc := D.int) (by rfl) z_len (ml_var (pv 2) rfl)) g2) (by rw [eat_0] <;> rfl)) ?_)
  show MS _ [some (.vw (words_here.map D.str)), some (.fz (.int number)), some (.fz (.lst (v1.1.map D.int))), some (.fz (.lst (v1.2.map D.int))), some (.fz (.int at_0)), none, none, none] _ _
  replace hx := bd_some hx
  obtain ⟨v3, hv3, hx⟩ := hx
  replace hx := bd_some hx
  obtain ⟨v4, hv4, hx⟩ := hx
  replace hx := bd_some hx
  obtain ⟨v5, hv5, hx⟩ := hx
  refine ms_cons (m_set (ps_set (i := 5) nd rfl (Or.inl rfl) pe_w) (me_fn c__law_bad_words ((words_here, at_0, v3, v4), v5) (ma_vw (ml_var (pv 0) rfl) (ma_fz (me_var (pv 4) rfl) (ma_fz (me_ixLT (xs := v1.1) (enc := D.int) hv3 (ml_var (pv 2) rfl) (me_var (pv 4) rfl)) (ma_fz (me_ixLT (xs := v1.2) (enc := D.int) hv4 (ml_var (pv 3) rfl) (me_var (pv 4) rfl)) ma_nil)))) hv5 (hr.mono (by decide))) ?_)
  show MS _ [some (.vw (words_here.map D.str)), some (.fz (.int number)), some (.fz (.lst (v1.1.map D.int))), some (.fz (.lst (v1.2.map D.int))), some (.fz (.int at_0)), some (.lst ((v5.map D.str).map .fz)), none, none] _ _
  replace hx := gd_some hx
  obtain ⟨g6, hx⟩ := hx
  replace hx := bd_some hx
  obtain ⟨v7, hv7, hx⟩ := hx
  refine ms_cons (m_set (ps_set (i := 6) nd rfl (Or.inl rfl) pe_w) (me_ixLT (xs := v5) (enc := D.str) hv7 (ml_var (pv 5) rfl) (me_mod (me_fdiv (me_var (pv 1) rfl) me_int ⟨by decide, by decide⟩) (me_lenLT (xs := v5) (enc := D.str) (by rfl) z_len (ml_var (pv 5) rfl)) g6)) ?_)
  show MS _ [some (.vw (words_here.map D.str)), some (.fz (.int number)), some (.fz (.lst (v1.1.map D.int))), some (.fz (.lst (v1.2.map D.int))), some (.fz (.int at_0)), some (.lst ((v5.map D.str).map .fz)), some (.fz (.str v7)), none] _ _
  replace hx := lt_some hx
  obtain ⟨way, eway, hx⟩ := hx
  refine ms_cons (m_set (ps_set (i := 7) nd rfl (Or.inl rfl) pe_w) (ME.is (o' := (.fz (.int way))) (me_mod (me_fdiv (me_var (pv 1) rfl) me_int ⟨by decide, by decide⟩) me_int (by decide)) (by rw [eway] <;> rfl)) ?_)
  show MS _ [some (.vw (words_here.map D.str)), some (.fz (.int number)), some (.fz (.lst (v1.1.map D.int))), some (.fz (.lst (v1.2.map D.int))), some (.fz (.int at_0)), some (.lst ((v5.map D.str).map .fz)), some (.fz (.str v7)), some (.fz (.int way))] _ _
  replace hx := bd_some hx
  obtain ⟨v12, hv12, hx⟩ := hx
  refine ms_cons (m_if (t := v12) (MW.t (MW.is (mw_and (mt_eqI (me_var (pv 7) rfl) me_int) fun q13 => (by have hx := cond_t hv12 q13; replace hx := bd_some hx; obtain ⟨v8, hv8, hx⟩ := hx; replace hx := bd_some hx; obtain ⟨v10, hv10, hx⟩ := hx; first | (cases hx; exact (mw_and1 (MW.t (MW.is (mw_or (mt_neI (me_ixLT (xs := v1.1) (enc := D.int) hv8 (ml_var (pv 2) rfl) (me_var (pv 4) rfl)) me_int) fun q11 => (by have hx := cond_f hv10 q11; replace hx := bd_some hx; obtain ⟨v9, hv9, hx⟩ := hx; cases hx; exact (mw_or1 (mt_gt (me_ixLT (xs := v1.2) (enc := D.int) hv9 (ml_var (pv 3) rfl) (me_var (pv 4) rfl)) me_int)))) (or_c hv10))))) | (injection hx with hx; subst hx; exact (mw_and1 (MW.t (MW.is (mw_or (mt_neI (me_ixLT (xs := v1.1) (enc := D.int) hv8 (ml_var (pv 2) rfl) (me_var (pv 4) rfl)) me_int) fun q11 => (by have hx := cond_f hv10 q11; replace hx := bd_some hx; obtain ⟨v9, hv9, hx⟩ := hx; cases hx; exact (mw_or1 (mt_gt (me_ixLT (xs := v1.2) (enc := D.int) hv9 (ml_var (pv 3) rfl) (me_var (pv 4) rfl)) me_int)))) (or_c hv10))))))) (and_c hv12))) (fun h => ?_) fun h => ms_nil ?_)
  · replace hx := cond_t hx h
    refine ms_one (m_ret (ps_ret pe_w) (ME.r (me_tup (mf_cons (ME.frzl (me_slLT (xs := words_here) (enc := D.str) (ml_var (pv 0) rfl) .none (.some (me_var (pv 4) rfl)))) (mf_cons (me_var (pv 4) rfl) mf_nil)))) ?_)
    cases hx; rfl
  replace hx := cond_f hx h
  refine ms_cons (m_if (t := ((way == 1))) (mt_eqI (me_var (pv 7) rfl) me_int) (fun h => ?_) fun h => ms_nil ?_)
  · replace hx := cond_t hx h
    replace hx := gd_some hx
    obtain ⟨g14, hx⟩ := hx
    replace hx := gd_some hx
    obtain ⟨g15, hx⟩ := hx
    refine ms_one (m_ret (ps_ret pe_w) (ME.r (me_tup (mf_cons (ME.frzl (me_catLT (xs := ((cutG words_here none (some at_0)) ++ [v7])) (ys := (cutG words_here (some at_0) none)) (enc := D.str) g15 (ME.v (me_catLT (xs := (cutG words_here none (some at_0))) (ys := [v7]) (enc := D.str) g14 (ME.v (me_slLT (xs := words_here) (enc := D.str) (ml_var (pv 0) rfl) .none (.some (me_var (pv 4) rfl)))) (ME.v (me_lst (ds := [v7].map D.str) (mf_cons (me_var (pv 6) rfl) mf_nil))))) (ME.v (me_slLT (xs := words_here) (enc := D.str) (ml_var (pv 0) rfl) (.some (me_var (pv 4) rfl)) .none)))) (mf_cons (me_var (pv 4) rfl) mf_nil)))) ?_)
    cases hx; rfl
  replace hx := cond_f hx h
  replace hx := gd_some hx
  obtain ⟨g16, hx⟩ := hx
  replace hx := gd_some hx
  obtain ⟨g17, hx⟩ := hx
  refine ms_one (m_ret (ps_ret pe_w) (ME.r (me_tup (mf_cons (ME.frzl (me_catLT (xs := ((cutG words_here none (some at_0)) ++ [v7])) (ys := (cutG words_here (some (at_0 + 1)) none)) (enc := D.str) g17 (ME.v (me_catLT (xs := (cutG words_here none (some at_0))) (ys := [v7]) (enc := D.str) g16 (ME.v (me_slLT (xs := words_here) (enc := D.str) (ml_var (pv 0) rfl) .none (.some (me_var (pv 4) rfl)))) (ME.v (me_lst (ds := [v7].map D.str) (mf_cons (me_var (pv 6) rfl) mf_nil))))) (ME.v (me_slLT (xs := words_here) (enc := D.str) (ml_var (pv 0) rfl) (.some (me_add (me_var (pv 4) rfl) me_int)) .none)))) (mf_cons (me_var (pv 4) rfl) mf_nil)))) ?_)
  cases hx; rfl

noncomputable def M__law_more (words_here : (List Str)) (at_0 : Int) (number : Int) : Option (List Str) :=
  cond ((decide ((words_here.length : Int) ≤ (at_0 + 1))) || (((number % 3) == 0))) (some words_here) <|
  gd (0 < (((words_here.length : Int) - at_0) - 1)) <|
  lt ((at_0 + 1) + ((number / 3) % (((words_here.length : Int) - at_0) - 1))) fun spot =>
  lt [("" : Str), ("Roof" : Str), (")" : Str), ("(" : Str), ("and" : Str), ("12" : Str), ("-1" : Str), ("not" : Str), ("cause" : Str), ("or" : Str)] fun some_0 =>
  bd (L2.atI some_0 ((number / 192) % 10)) fun v2 =>
  cond ((((number / 1920) % 4) == 1)) (some (cutG words_here none (some spot))) <|
  gd ((cutG words_here none (some spot)).length + [v2].length ≤ sizeLine) <|
  gd (((cutG words_here none (some spot)) ++ [v2]).length + (cutG words_here (some (spot + 1)) none).length ≤ sizeLine) <|
  some (((cutG words_here none (some spot)) ++ [v2]) ++ (cutG words_here (some (spot + 1)) none))
def sp__law_more (K : PySem.W.Frag) : Sp := SpF K (fun x : (List Str) × Int × Int => [.fz (.lst (x.1.map D.str)), .fz (.int x.2.1), .fz (.int x.2.2)]) (fun x => M__law_more x.1 x.2.1 x.2.2) (fun r => .fz (.lst (r.map D.str)))
abbrev N__law_more : List Str := ["_law_words_here", "_law_at", "_law_number", "_law_spot", "_law_some", "_law_word"]
theorem sc__law_more : FnScope N__law_more ["_law_words_here", "_law_at", "_law_number"] (defScope s__law_more) := ⟨rfl, rfl, rfl, by decide +kernel, rfl, by decide +kernel, by decide +kernel⟩
theorem ok__law_more {f : Addr} {fd : FuncData} (F : Fun K "_law_more" "_law_more" s__law_more f fd) (z_len : mg "len" = none) : FnOk P w K mg base CX0 1 f fd ["_law_words_here", "_law_at", "_law_number"] (sp__law_more K) := by
  refine fn_m F sc__law_more (fun x => rfl) (fun x _ => rfl) fun cdv A outer s H E hr x hx => ?_
  obtain ⟨⟨words_here, at_0, number⟩, r⟩ := x
  replace hx : M__law_more words_here at_0 number = some r := hx
  have nd := sc__law_more.nd
  unfold M__law_more at hx
  show MS _ [some (.fz (.lst (words_here.map D.str))), some (.fz (.int at_0)), some (.fz (.int number)), none, none, none] _ _
  refine ms_cons (m_if (t := ((decide ((words_here.length : Int) ≤ (at_0 + 1))) || (((number % 3) == 0)))) (MW.t (mw_or (mt_ge (me_add (me_var (pv 1) rfl) me_int) (me_lenLT (xs := words_here) (enc := D.str) (by rfl) z_len (ml_var (pv 0) rfl))) fun _ => (mw_or1 (mt_eqI (me_mod (me_var (pv 2) rfl) me_int (by decide)) me_int)))) (fun h => ?_) fun h => ms_nil ?_)
  · replace hx := cond_t hx h
    refine ms_one (m_ret (ps_ret pe_w) (ME.r (me_var (pv 0) rfl)) ?_)
    cases hx; rfl
  replace hx := cond_f hx h
  replace hx := gd_some hx
  obtain ⟨g1, hx⟩ := hx
  replace hx := lt_some hx
  obtain ⟨spot, espot, hx⟩ := hx
  refine ms_cons (m_set (ps_set (i := 3) nd rfl (Or.inl rfl) pe_w) (ME.is (o' := (.fz (.int spot))) (me_add (me_add (me_var (pv 1) rfl) me_int) (me_mod (me_fdiv (me_var (pv 2) rfl) me_int ⟨by decide, by decide⟩) (me_sub (me_sub (me_lenLT (xs := words_here) (enc := D.str) (by rfl) z_len (ml_var (pv 0) rfl)) (me_var (pv 1) rfl)) me_int) g1)) (by rw [espot] <;> rfl)) ?_)
  show MS _ [some (.fz (.lst (words_here.map D.str))), some (.fz (.int at_0)), some (.fz (.int number)), some (.fz (.int spot)), none, none] _ _
  replace hx := lt_some hx
  obtain ⟨some_0, esome_0, hx⟩ := hx
  refine ms_cons (m_set (ps_set (i := 4) nd rfl (Or.inl rfl) pe_w) (ME.is (o' := (.lst ((some_0.map D.str).map .fz))) (me_lst (ds := [("" : Str), ("Roof" : Str), (")" : Str), ("(" : Str), ("and" : Str), ("12" : Str), ("-1" : Str), ("not" : Str), ("cause" : Str), ("or" : Str)].map D.str) (mf_cons me_str (mf_cons me_str (mf_cons me_str (mf_cons me_str (mf_cons me_str (mf_cons me_str (mf_cons me_str (mf_cons me_str (mf_cons me_str (mf_cons me_str mf_nil))))))))))) (by rw [esome_0] <;> rfl)) ?_)
  show MS _ [some (.fz (.lst (words_here.map D.str))), some (.fz (.int at_0)), some (.fz (.int number)), some (.fz (.int spot)), some (.lst ((some_0.map D.str).map .fz)), none] _ _
  replace hx := bd_some hx
  obtain ⟨v2, hv2, hx⟩ := hx
  refine ms_cons (m_set (ps_set (i := 5) nd rfl (Or.inl rfl) pe_w) (me_ixLT (xs := some_0) (enc := D.str) hv2 (ml_var (pv 4) rfl) (me_mod (me_fdiv (me_var (pv 2) rfl) me_int ⟨by decide, by decide⟩) me_int (by decide))) ?_)
  show MS _ [some (.fz (.lst (words_here.map D.str))), some (.fz (.int at_0)), some (.fz (.int number)), some (.fz (.int spot)), some (.lst ((some_0.map D.str).map .fz)), some (.fz (.str v2))] _ _
  refine ms_cons (m_if (t := ((((number / 1920) % 4) == 1))) (mt_eqI (me_mod (me_fdiv (me_var (pv 2) rfl) me_int ⟨by decide, by decide⟩) me_int (by decide)) me_int) (fun h => ?_) fun h => ms_nil ?_)
  · replace hx := cond_t hx h
    refine ms_one (m_ret (ps_ret pe_w) (ME.r (ME.frzl (me_slLT (xs := words_here) (enc := D.str) (ml_var (pv 0) rfl) .none (.some (me_var (pv 3) rfl))))) ?_)
    cases hx; rfl
  replace hx := cond_f hx h
  replace hx := gd_some hx
  obtain ⟨g3, hx⟩ := hx
  replace hx := gd_some hx
  obtain ⟨g4, hx⟩ := hx
  refine ms_one (m_ret (ps_ret pe_w) (ME.r (ME.frzl (me_catLT (xs := ((cutG words_here none (some spot)) ++ [v2])) (ys := (cutG words_here (some (spot + 1)) none)) (enc := D.str) g4 (ME.v (me_catLT (xs := (cutG words_here none (some spot))) (ys := [v2]) (enc := D.str) g3 (ME.v (me_slLT (xs := words_here) (enc := D.str) (ml_var (pv 0) rfl) .none (.some (me_var (pv 3) rfl)))) (ME.v (me_lst (ds := [v2].map D.str) (mf_cons (me_var (pv 5) rfl) mf_nil))))) (ME.v (me_slLT (xs := words_here) (enc := D.str) (ml_var (pv 0) rfl) (.some (me_add (me_var (pv 3) rfl) me_int)) .none))))) ?_)
  cases hx; rfl
noncomputable def M_law (script : (List Int)) : Option Bool :=
  bd (M__law_pools script) fun v1 =>
  bd (M__law_tree script (4 : Int) v1) fun v2 =>
  bd (Mf__law_words 64 v2) fun v3 =>
  gd ((v3.map (·.length)).sum + v3.length * (" " : Str).length ≤ 16777216) <|
  bd (M__law_refused (.str (Txt.join (" " : Str) v3))) fun v5 =>
  gd (D.ok v5 ∧ D.ok (e_T_s ("read" : Str))) <|
  cond (!(D.eqv v5 (e_T_s ("read" : Str)))) (some false) <|
  bd (lpO (fun (x8 : Nat) (p7 : Unit) => (bd (M__law_cell script (3 + (7 * (x8 : Int)))) fun v10 =>
    bd (M__law_mix v10 (x8 : Int)) fun v11 =>
    bd (M__law_spoilt v3 v11) fun v12 =>
    bd (M__law_cell script (4 + (7 * (x8 : Int)))) fun v13 =>
    bd (M__law_mix v13 ((x8 : Int) + 20)) fun v14 =>
    bd (M__law_more v12.1 v12.2 v14) fun v15 =>
    bd (cond (decide (60 < (v15.length : Int))) (some (60 : Int)) (some v12.2) : Option (Int)) fun p16 =>
    gd ((v15.map (·.length)).sum + v15.length * (" " : Str).length ≤ 16777216) <|
    bd (M__law_refused_at (.str (Txt.join (" " : Str) v15)) p16) fun v18 =>
    cond (!v18) (some (.rt false)) <|
    some (.nx ()) : Option (Ou (Unit) (Unit) Bool))) (List.range (8 : Int).toNat) ()) fun o9 => ouR o9 fun p7 =>
  lt ([(.non), (.int (5 : Int)), (.bl true), (.lst (v3.map D.str)), (.tup (v3.map D.str) : D), (.dct [] [] : D), (.int (0 : Int)), (.lst [] : D), (.int (-(1 : Int)))] : (List D)) fun things =>
  bd (M__law_cell script (2 : Int)) fun v19 =>
  bd (L2.atI things (v19 % 9)) fun v20 =>
  bd (M__law_refused_at v20 (0 : Int)) fun v21 =>
  bd (cond (!v21) (some true) (bd (M__law_refused_at (.str ("" : Str)) (0 : Int)) fun v22 => some (!v22))) fun v23 =>
  cond v23 (some false) <|
  bd (M__law_cell script (1 : Int)) fun v25 =>
  lt (v25 % 80) fun blanks =>
  gd ((-(2 ^ 63) ≤ blanks ∧ blanks < 2 ^ 63) ∧ (" " : Str).length * blanks.toNat ≤ 16777216) <|
  bd (M__law_refused_at (.str (repS (" " : Str) blanks)) (60 * (if (decide (59 < blanks)) then 1 else 0))) fun v27 =>
  cond (!v27) (some false) <|
  gd ((v3.map (·.length)).sum + v3.length * (" " : Str).length ≤ 16777216) <|
  bd (M__law_refused (.str (Txt.join (" " : Str) v3))) fun v29 =>
  gd (D.ok v29 ∧ D.ok (e_T_s ("read" : Str))) <|
  some ((D.eqv v29 (e_T_s ("read" : Str))))
abbrev N_NoWords___init__ : List Str := ["self", "at"]
theorem sc_NoWords___init__ : FnScope N_NoWords___init__ ["self", "at"] (defScope s_NoWords___init__) := ⟨rfl, rfl, rfl, by decide +kernel, rfl, by decide +kernel, by decide +kernel⟩
theorem ok_NoWords___init__ {f : Addr} {fd : FuncData} (F : Fun K "__init__" "NoWords.__init__" s_NoWords___init__ f fd) (e_CoverError : mg "CoverError" = some (.ref C_CoverError)) (q_rd_CoverError : PySem.W.readsIn K C_CoverError (.type "type") = true) (q_ga_CoverError : PySem.W.specialIn K (.ref C_CoverError) "__getattribute__" = some (some (.builtin "type.__getattribute__"))) (q_vi_CoverError : PySem.W.findCls K (.ref C_CoverError) (.type "type") "__init__" = some (.val (.builtin "ValueError.__init__"))) (q_xo_NoWords : PySem.W.excInitIn K C_NoWords [.type "ValueError", .type "Exception", .type "BaseException", .type "object"] "ValueError.__new__" = true) (q_hd_NoWords : PySem.W.hasDictIn K C_NoWords = true) (q_sa_NoWords : PySem.W.findIn K (.ref C_NoWords) "__setattr__" = some (some (.builtin "object.__setattr__"))) (q_xb_NoWords : PySem.W.subIn K (.ref C_NoWords) (.type "BaseException") = some true) (q_xt_NoWords : PySem.W.typeIn K (.ref C_NoWords) = some (.type "type")) (q_xk_NoWords : PySem.W.keepIn K (.ref C_NoWords) = true) (q_nf_NoWords : PySem.W.findIn K (.ref C_NoWords) "at" = some none) : FnOk P w K mg base CX0 1 f fd ["self", "at"] (spI19 K "at") := by
  refine F.ok sc_NoWords___init__ (fun vs H Q E h => by obtain ⟨a, C, i, rfl, _⟩ := h; rfl) fun cdv A outer s H vs Q E hr h => ?_
  obtain ⟨a, C, i, rfl, T, hno, ha, q⟩ := h
  refine ⟨_, pss_cons (ps_expr (pe_cinit rfl e_CoverError ⟨q_rd_CoverError, q_ga_CoverError⟩ q_vi_CoverError (pa_cons (pv 0) (pa_cons pe_str pa_nil)))) (pss_one (ps_ost (pv 0) (pv 1))), ?_⟩
  refine ⟨_, rfl, a, C, _, rfl, (by show 1 ≤ 1000; decide), T, ha, ?_⟩
  exact ⟨_, rfl, _, rfl, a, C, rfl, T, hno, .inl ⟨ha, fun dx h1 h2 => q dx h1 h2⟩⟩

theorem okh_NoWords___init__ {f : Addr} {fd : FuncData} (F : Fun K "__init__" "NoWords.__init__" s_NoWords___init__ f fd) (e_CoverError : mg "CoverError" = some (.ref C_CoverError)) (q_rd_CoverError : PySem.W.readsIn K C_CoverError (.type "type") = true) (q_ga_CoverError : PySem.W.specialIn K (.ref C_CoverError) "__getattribute__" = some (some (.builtin "type.__getattribute__"))) (q_vi_CoverError : PySem.W.findCls K (.ref C_CoverError) (.type "type") "__init__" = some (.val (.builtin "ValueError.__init__"))) (q_xo_NoWords : PySem.W.excInitIn K C_NoWords [.type "ValueError", .type "Exception", .type "BaseException", .type "object"] "ValueError.__new__" = true) (q_hd_NoWords : PySem.W.hasDictIn K C_NoWords = true) (q_sa_NoWords : PySem.W.findIn K (.ref C_NoWords) "__setattr__" = some (some (.builtin "object.__setattr__"))) (q_xb_NoWords : PySem.W.subIn K (.ref C_NoWords) (.type "BaseException") = some true) (q_xt_NoWords : PySem.W.typeIn K (.ref C_NoWords) = some (.type "type")) (q_xk_NoWords : PySem.W.keepIn K (.ref C_NoWords) = true) (q_nf_NoWords : PySem.W.findIn K (.ref C_NoWords) "at" = some none) : L2H.FnH P w K mg base CX0 1 f fd ["self", "at"] (spI19 K "at") := by
  refine okH F sc_NoWords___init__ (fun vs H Q E h => by obtain ⟨a, C, i, rfl, _⟩ := h; rfl) fun cdv A outer s H vs Q E p hot hr h => ?_
  obtain ⟨a, C, i, rfl, T, hno, ha, q⟩ := h
  refine ⟨_, pss_cons (ps_expr (pe_cinit rfl e_CoverError ⟨q_rd_CoverError, q_ga_CoverError⟩ q_vi_CoverError (pa_cons (pv 0) (pa_cons pe_str pa_nil)))) (pss_one (ps_ost (pv 0) (pv 1))), ?_⟩
  refine ⟨_, rfl, a, C, _, rfl, (by show 1 ≤ 1000; decide), T, ha, ?_⟩
  exact ⟨_, rfl, _, rfl, a, C, rfl, T, hno, .inl ⟨ha, fun dx h1 h2 => q dx h1 h2⟩⟩
open SX TL
def Sm (x : Str) (n : Nat) : Prop := x.length ≤ n ∧ x.cps.toList.all (· < 128) = true
theorem Sm.mono {x : Str} {n m : Nat} (h : Sm x n) (l : n ≤ m) : Sm x m := ⟨Nat.le_trans h.1 l, h.2⟩
theorem tl_cat (x y : Str) : (x ++ y).cps.toList = x.cps.toList ++ y.cps.toList := TL.tl_append x y
theorem len_cat (x y : Str) : (x ++ y).length = x.length + y.length := by
  rw [TL.len_tl, TL.len_tl x, TL.len_tl y]
  show (x ++ y).cps.toList.length = _
  rw [tl_cat, List.length_append]
theorem sm_S {a : List Nat} {n : Nat} (l : a.length ≤ n) (h : a.all (· < 128) = true) : Sm (S a) n := ⟨by rw [S_len]; exact l, h⟩
theorem sm_cut {x : Str} {n : Nat} (h : Sm x n) (lo hi : Option Int) : Sm (cutS x lo hi) n := by
  have e : (cutS x lo hi).cps.toList = (x.cps.toList.drop (HT.sIx x.length 0 lo)).take (HT.sIx x.length x.length hi - HT.sIx x.length 0 lo) := rfl
  refine ⟨?_, ?_⟩
  · rw [TL.len_tl]
    show (cutS x lo hi).cps.toList.length ≤ n
    rw [e, List.length_take, List.length_drop]
    have := h.1
    rw [TL.len_tl] at this
    have : x.cps.toList.length ≤ n := this
    omega
  · rw [e]
    exact List.all_eq_true.mpr fun c m => List.all_eq_true.mp h.2 c (List.mem_of_mem_drop (List.mem_of_mem_take m))
theorem Sm.lay {x : Str} {n : Nat} (h : Sm x n) : (PyData.str x).canLay0 = true := by
  show x.cps.all (· < 0x110000) = true
  rw [← Array.all_toList]
  exact List.all_eq_true.mpr fun c m => by
    have := List.all_eq_true.mp h.2 c m
    simp at this ⊢
    omega
theorem Sm.smp {x : Str} {n k : Nat} (h : Sm x n) : Smp k (.str x) := .str h.lay
theorem join_is (p : Str) (ys : List Str) : Txt.join p ys = S (TL.joinL p.cps.toList (ys.map fun y => y.cps.toList)) := by
  have q := join_S p.cps.toList (ys.map fun y => y.cps.toList)
  rw [List.map_map] at q
  have e : (S ∘ fun y : Str => y.cps.toList) = id := funext fun y => S_tl y
  rw [e, List.map_id, S_tl] at q
  exact q
theorem joinL_len (p : List Nat) (n : Nat) : ∀ {ys : List (List Nat)}, (∀ y ∈ ys, y.length ≤ n) → (TL.joinL p ys).length ≤ ys.length * (n + p.length)
  | [], _ => Nat.zero_le _
  | [x], h => by
    have := h x List.mem_cons_self
    show x.length ≤ 1 * _
    omega
  | x :: y :: r, h => by
    have q := joinL_len p n (ys := y :: r) fun z m => h z (List.mem_cons_of_mem _ m)
    have hx := h x List.mem_cons_self
    show (x ++ (p ++ TL.joinL p (y :: r))).length ≤ _
    rw [List.length_append, List.length_append, List.length_cons (a := x), Nat.add_mul]
    omega
theorem joinL_all (p : List Nat) (f : Nat → Bool) (hp : p.all f = true) : ∀ {ys : List (List Nat)}, (∀ y ∈ ys, y.all f = true) → (TL.joinL p ys).all f = true
  | [], _ => rfl
  | [x], h => h x List.mem_cons_self
  | x :: y :: r, h => by
    have q := joinL_all p f hp (ys := y :: r) fun z m => h z (List.mem_cons_of_mem _ m)
    show (x ++ (p ++ TL.joinL p (y :: r))).all f = true
    rw [List.all_append, List.all_append, q, hp, h x List.mem_cons_self]
    rfl
theorem sm_join {p : Str} {n m : Nat} (hp : Sm p m) {ys : List Str} (h : ∀ y ∈ ys, Sm y n) : Sm (Txt.join p ys) (ys.length * (n + m)) := by
  rw [join_is]
  have lp := hp.1
  rw [TL.len_tl] at lp
  have lp : p.cps.toList.length ≤ m := lp
  refine sm_S ?_ (joinL_all _ _ hp.2 fun y my => ?_)
  · refine Nat.le_trans (joinL_len _ n fun y my => ?_) ?_
    · obtain ⟨z, hz, rfl⟩ := List.mem_map.mp my
      have := (h z hz).1
      rw [TL.len_tl] at this
      exact this
    · rw [List.length_map]
      exact Nat.mul_le_mul_left _ (by omega)
  · obtain ⟨z, hz, rfl⟩ := List.mem_map.mp my
    exact (h z hz).2
theorem join_len {ys : List Str} {n : Nat} (h : ∀ y ∈ ys, Sm y n) : (ys.map (·.length)).sum ≤ ys.length * n := by
  induction ys with
  | nil => exact Nat.zero_le _
  | cons y r ih =>
    rw [List.map_cons, List.sum_cons, List.length_cons, Nat.add_mul]
    have := (h y List.mem_cons_self).1
    have := ih fun z m => h z (List.mem_cons_of_mem _ m)
    omega
abbrev ABC : Str := "abcdefghijklmnopqrstuvwxyz"
theorem abc_len : ABC.length = 26 ∧ ABC.cps.toList.length = 26 := by decide +kernel
theorem abc_all : ABC.cps.toList.all (fun c => 97 ≤ c && c ≤ 122) = true := by decide +kernel
def Lc (x : Str) (n : Nat) : Prop := x.length ≤ n ∧ x.cps.toList.all (fun c => 97 ≤ c && c ≤ 122) = true
theorem Lc.sm {x : Str} {n : Nat} (h : Lc x n) : Sm x n := ⟨h.1, List.all_eq_true.mpr fun c m => by
  have := List.all_eq_true.mp h.2 c m
  simp at this ⊢
  omega⟩
theorem Lc.mono {x : Str} {n m : Nat} (h : Lc x n) (l : n ≤ m) : Lc x m := ⟨Nat.le_trans h.1 l, h.2⟩
theorem lc_cat {x y : Str} {n m : Nat} (h : Lc x n) (k : Lc y m) : Lc (x ++ y) (n + m) := by
  refine ⟨?_, ?_⟩
  · rw [len_cat]
    have := h.1
    have := k.1
    omega
  · rw [tl_cat, List.all_append, h.2, k.2]
    rfl
theorem lc_abc {c : Nat} (h : c ∈ ABC.cps.toList) : Lc (sg1 c) 1 := ⟨Nat.le_refl 1, by
  have := List.all_eq_true.mp abc_all c h
  show [c].all _ = true
  rw [List.all_cons, this]
  rfl⟩
theorem strI_n (n : Nat) : strI (n : Int) = S (numL n) := num_S n
theorem lg_of {m : Int} (h : m.natAbs < 2 ^ 250) : m.natAbs.log2 < 1920 := Nat.lt_of_lt_of_le (PySem.Flt.log2_lt_of (k := 250) (by decide) h) (by decide)
theorem numL1 {n : Nat} (h : n < 10) : numL n = [48 + n] := numL_lt h
theorem dot_S : ((".") : Str) = S [46] := by decide +kernel
theorem numL_short {n k : Nat} (hk : 0 < k) (h : n < 10 ^ k) : (S (numL n)).length ≤ k := by rw [S_len]; exact numL_len hk h
def amtL (n : Nat) : List Nat := numL (n / 100) ++ ([46] ++ [48 + n / 10 % 10, 48 + n % 10])
def amtS (n : Nat) : Str := S (amtL n)

theorem eqv_nil (ds : List D) : D.eqv (.lst ds) (.lst []) = ds.isEmpty := by
  cases ds <;> rfl
theorem srtok_i (xs : List Int) : SrtOk D.int xs := ⟨fun _ _ => rfl, PySem.W.AllAlike.of fun _ _ => rfl, PySem.W.Sortable.others fun b => ⟨nofun, nofun⟩, fun _ _ => Nat.zero_le 60⟩
theorem srt_i (xs : List Int) : srt D.int xs = xs.mergeSort fun a b => decide (a ≤ b) := by
  unfold srt
  have e := PySem.W.dataLe_int (fun b : Int => b)
  have e2 : (fun b : Int => (D.int b).py) = fun b => PyData.int b := rfl
  rw [e2, e]
theorem srt_mem {xs : List Int} {x : Int} : x ∈ srt D.int xs ↔ x ∈ xs := by
  rw [srt_i]
  exact List.mem_mergeSort
theorem srt_len (xs : List Int) : (srt D.int xs).length = xs.length := by
  rw [srt_i]
  exact List.length_mergeSort xs
open SX TL
mutual
def tr : Cd → D
  | .plain _ => .tup [.str "always"]
  | .cause x => .tup [.str "cause", .str x]
  | .thing x => .tup [.str "thing", .str x]
  | .days p => .tup [.str "days", .int p.1, .int p.2]
  | .over c => .tup [.str "over", .int c]
  | .notOf c => .tup [.str "not", tr c]
  | .allOf cs => .tup [.str "all", .lst (trL cs)]
  | .someOf cs => .tup [.str "some", .lst (trL cs)]
def trL : List Cd → List D
  | [] => []
  | c :: r => tr c :: trL r
end
theorem trL_map : ∀ cs : List Cd, trL cs = cs.map tr
  | [] => rfl
  | c :: r => congrArg (tr c :: ·) (trL_map r)
def kd : Cd → Str
  | .plain _ => "always"
  | .cause _ => "cause"
  | .thing _ => "thing"
  | .days _ => "days"
  | .over _ => "over"
  | .notOf _ => "not"
  | .allOf _ => "all"
  | .someOf _ => "some"
def rk : Cd → Int
  | .allOf _ => 2
  | .someOf _ => 1
  | _ => 3
def isAtom : Cd → Bool
  | .notOf _ => false
  | .allOf _ => false
  | .someOf _ => false
  | _ => true
theorem tr_0 (c : Cd) : ixD (tr c) 0 = some (.str (kd c)) := by cases c <;> rfl
theorem sm_lit {x : Str} (h : (decide (x.length ≤ 8) && x.cps.toList.all (· < 128)) = true) : Sm x 8 := by
  rw [Bool.and_eq_true] at h
  exact ⟨of_decide_eq_true h.1, h.2⟩
theorem kd_sm (c : Cd) : Sm (kd c) 8 := by
  cases c with
  | plain p => exact sm_lit (x := "always") (by decide +kernel)
  | cause p => exact sm_lit (x := "cause") (by decide +kernel)
  | thing p => exact sm_lit (x := "thing") (by decide +kernel)
  | days p => exact sm_lit (x := "days") (by decide +kernel)
  | over p => exact sm_lit (x := "over") (by decide +kernel)
  | notOf p => exact sm_lit (x := "not") (by decide +kernel)
  | allOf p => exact sm_lit (x := "all") (by decide +kernel)
  | someOf p => exact sm_lit (x := "some") (by decide +kernel)
theorem lit_ok {x : Str} (h : (decide (x.length ≤ 8) && x.cps.toList.all (· < 128)) = true) : D.ok (.str x) := ((sm_lit h).smp (k := 0)).ok
/-- of a bounded depth, with small names -/
inductive Mk : Nat → Cd → Prop where
  | plain {n : Nat} (u : Unit) : Mk n (.plain u)
  | cause {n : Nat} {x : Str} (h : Sm x 17) : Mk n (.cause x)
  | thing {n : Nat} {x : Str} (h : Sm x 17) : Mk n (.thing x)
  | days {n : Nat} (p : Int × Int) : Mk n (.days p)
  | over {n : Nat} (c : Int) : Mk n (.over c)
  | notOf {n : Nat} {c : Cd} (h : Mk n c) : Mk (n + 1) (.notOf c)
  | allOf {n : Nat} {cs : List Cd} (l : 1 ≤ cs.length ∧ cs.length ≤ 100) (h : ∀ c ∈ cs, Mk n c) : Mk (n + 1) (.allOf cs)
  | someOf {n : Nat} {cs : List Cd} (l : 1 ≤ cs.length ∧ cs.length ≤ 100) (h : ∀ c ∈ cs, Mk n c) : Mk (n + 1) (.someOf cs)
/-- small names, some parts -/
inductive Gd : Cd → Prop where
  | plain (u : Unit) : Gd (.plain u)
  | cause {x : Str} (h : Lc x 8 ∧ 1 ≤ x.length) : Gd (.cause x)
  | thing {x : Str} (h : Lc x 8 ∧ 1 ≤ x.length) : Gd (.thing x)
  | days (p : Int × Int) (h : 0 ≤ p.1 ∧ p.1 ≤ p.2 ∧ p.2 ≤ 1000000) : Gd (.days p)
  | over (c : Int) (h : 0 ≤ c ∧ c ≤ 999999999999) : Gd (.over c)
  | notOf {c : Cd} (h : Gd c) : Gd (.notOf c)
  | allOf {cs : List Cd} (l : 2 ≤ cs.length ∧ cs.length ≤ 8) (h : ∀ c ∈ cs, Gd c) : Gd (.allOf cs)
  | someOf {cs : List Cd} (l : 2 ≤ cs.length ∧ cs.length ≤ 8) (h : ∀ c ∈ cs, Gd c) : Gd (.someOf cs)
mutual
def wn : Cd → Int
  | .plain _ => 1
  | .cause _ => 2
  | .thing _ => 2
  | .days _ => 3
  | .over _ => 2
  | .notOf c => (if rk c < 3 then wn c + 2 else wn c) + 1
  | .allOf cs => wnL 3 cs ((cs.length : Int) - 1)
  | .someOf cs => wnL 2 cs ((cs.length : Int) - 1)
def wnL (l : Int) : List Cd → Int → Int
  | [], s => s
  | c :: r, s => wnL l r (s + (if rk c < l then wn c + 2 else wn c))
end
mutual
def dn : Cd → Int
  | .plain _ => 0
  | .cause _ => 0
  | .thing _ => 0
  | .days _ => 0
  | .over _ => 0
  | .notOf c => (if rk c < 3 then dn c + 1 else dn c) + 1
  | .allOf cs => dnL 3 cs 0
  | .someOf cs => dnL 2 cs 0
def dnL (l : Int) : List Cd → Int → Int
  | [], d => d
  | c :: r, d => dnL l r (max d (if rk c < l then dn c + 1 else dn c))
end
def wt : Cd → Int
  | .allOf _ => 1
  | .someOf _ => 2
  | _ => 0
theorem Mk.up {n m : Nat} {c : Cd} (h : Mk n c) (l : n ≤ m) : Mk m c := by
  induction h generalizing m with
  | plain u => exact .plain u
  | cause h => exact .cause h
  | thing h => exact .thing h
  | days p => exact .days p
  | over c => exact .over c
  | notOf h ih =>
    cases m with
    | zero => exact absurd l (by omega)
    | succ m => exact .notOf (ih (by omega))
  | allOf k h ih =>
    cases m with
    | zero => exact absurd l (by omega)
    | succ m => exact .allOf k fun c mc => ih c mc (by omega)
  | someOf k h ih =>
    cases m with
    | zero => exact absurd l (by omega)
    | succ m => exact .someOf k fun c mc => ih c mc (by omega)
theorem dnL_ge (l : Int) : ∀ (cs : List Cd) (d : Int), d ≤ dnL l cs d ∧ ∀ c ∈ cs, (if rk c < l then dn c + 1 else dn c) ≤ dnL l cs d
  | [], d => ⟨Int.le_refl _, fun _ m => (nomatch m)⟩
  | c :: r, d => by
    obtain ⟨h1, h2⟩ := dnL_ge l r (max d (if rk c < l then dn c + 1 else dn c))
    show d ≤ dnL l r (max d (if rk c < l then dn c + 1 else dn c)) ∧ _
    refine ⟨by omega, fun c' m => ?_⟩
    show _ ≤ dnL l r (max d (if rk c < l then dn c + 1 else dn c))
    rcases List.mem_cons.mp m with rfl | m
    · exact Int.le_trans (Int.le_max_right _ _) h1
    · exact h2 c' m
theorem Gd.mk {c : Cd} (h : Gd c) : 0 ≤ dn c ∧ Mk (2 * dn c + wt c).toNat c := by
  have b3 : ∀ c : Cd, 0 ≤ dn c → 2 * dn c + wt c ≤ 2 * (if rk c < 3 then dn c + 1 else dn c) := fun c h => by
    cases c <;> simp only [rk, wt] <;> simp <;> omega
  have b2 : ∀ c : Cd, 0 ≤ dn c → 2 * dn c + wt c ≤ 2 * (if rk c < 2 then dn c + 1 else dn c) + 1 := fun c h => by
    cases c <;> simp only [rk, wt] <;> simp <;> omega
  induction h with
  | plain u => exact ⟨Int.le_refl _, .plain u⟩
  | cause h => exact ⟨Int.le_refl _, .cause (h.1.sm.mono (by omega))⟩
  | thing h => exact ⟨Int.le_refl _, .thing (h.1.sm.mono (by omega))⟩
  | days p => exact ⟨Int.le_refl _, .days p⟩
  | over c => exact ⟨Int.le_refl _, .over c⟩
  | @notOf c h ih =>
    have := b3 c ih.1
    have h0 : 0 ≤ (if rk c < 3 then dn c + 1 else dn c) := by have := ih.1; split <;> omega
    refine ⟨by show 0 ≤ (if rk c < 3 then dn c + 1 else dn c) + 1; omega, ?_⟩
    show Mk (2 * ((if rk c < 3 then dn c + 1 else dn c) + 1) + 0).toNat _
    generalize (if rk c < 3 then dn c + 1 else dn c) = q at *
    exact (Mk.notOf (n := (2 * q).toNat) (ih.2.up (by omega))).up (by omega)
  | @allOf cs l h ih =>
    obtain ⟨h1, h2⟩ := dnL_ge 3 cs 0
    refine ⟨h1, ?_⟩
    show Mk (2 * dnL 3 cs 0 + 1).toNat _
    refine (Mk.allOf (n := (2 * dnL 3 cs 0).toNat) (by omega) fun c mc => (ih c mc).2.up ?_).up (by omega)
    have := b3 c (ih c mc).1
    have := h2 c mc
    generalize (if rk c < 3 then dn c + 1 else dn c) = q at *
    omega
  | @someOf cs l h ih =>
    obtain ⟨h1, h2⟩ := dnL_ge 2 cs 0
    refine ⟨h1, ?_⟩
    show Mk (2 * dnL 2 cs 0 + 2).toNat _
    refine (Mk.someOf (n := (2 * dnL 2 cs 0 + 1).toNat) (by omega) fun c mc => (ih c mc).2.up ?_).up (by omega)
    have := b2 c (ih c mc).1
    have := h2 c mc
    generalize (if rk c < 2 then dn c + 1 else dn c) = q at *
    omega
theorem Mk.smp {n : Nat} {c : Cd} (h : Mk n c) : Smp (2 * n + 1) (tr c) := by
  have ks : ∀ {k : Nat} (c : Cd), Smp k (.str (kd c)) := fun c => by
    exact (kd_sm c).smp
  induction h with
  | plain u => exact .tup (smps_cons (ks (.plain u)) smps_nil)
  | @cause n x h => exact .tup (smps_cons (ks (.cause x)) (smps_cons h.smp smps_nil))
  | @thing n x h => exact .tup (smps_cons (ks (.thing x)) (smps_cons h.smp smps_nil))
  | days p => exact .tup (smps_cons (ks (.days p)) (smps_cons (.int _) (smps_cons (.int _) smps_nil)))
  | over c => exact .tup (smps_cons (ks (.over c)) (smps_cons (.int _) smps_nil))
  | @notOf n c h ih => exact .tup (smps_cons (ks (.notOf c)) (smps_cons (ih.up (by omega)) smps_nil))
  | @allOf n cs l h ih =>
    refine .tup (smps_cons (ks (.allOf cs)) (smps_cons ?_ smps_nil))
    show Smp (2 * n + 1 + 1) (.lst (trL cs))
    rw [trL_map]
    exact .lst fun d m => by
      obtain ⟨c, mc, rfl⟩ := List.mem_map.mp m
      exact ih c mc
  | @someOf n cs l h ih =>
    refine .tup (smps_cons (ks (.someOf cs)) (smps_cons ?_ smps_nil))
    show Smp (2 * n + 1 + 1) (.lst (trL cs))
    rw [trL_map]
    exact .lst fun d m => by
      obtain ⟨c, mc, rfl⟩ := List.mem_map.mp m
      exact ih c mc
theorem cell0 {ns : List Int} {k : Int} (h : 0 ≤ k) (h2 : k ≤ 1000) : Ok (M__law_cell ns k) fun c => 0 ≤ c := by
  unfold M__law_cell
  refine ok_cond (fun h1 => ok_bd (ok_atI h (of_decide_eq_true h1) fun y _ => trivial) fun y (_ : True) => ok_some (Int.emod_nonneg _ (by decide))) fun _ => ok_gd (.inl ⟨by omega, by omega⟩) (ok_some (Int.emod_nonneg _ (by decide)))
theorem mix0 (a : Int) {k : Int} (h : 0 ≤ k) (h2 : k ≤ 1000) : Ok (M__law_mix a k) fun c => 0 ≤ c := by
  unfold M__law_mix
  refine ok_gd (.inl ⟨by omega, by omega⟩) (ok_ltx fun x ex => ok_gd (.inl ⟨by omega, by omega⟩) (ok_some (Int.emod_nonneg _ (by decide))))
theorem abc_at {k : Int} : Ok (L2.atI ABC.cps.toList (k % 26)) fun c => c ∈ ABC.cps.toList := ok_atIm (by omega) (by rw [abc_len.2]; omega) fun c m => m
theorem abc_z : ABC.length ≤ sizeLine := by
  rw [abc_len.1]
  decide
theorem name_ok (n : Int) : Ok (M__law_name n) fun x => Lc x 8 ∧ 1 ≤ x.length := by
  unfold M__law_name
  refine ok_lt (ok_ltx fun size es => ok_lt (ok_lt (ok_gd ⟨by omega, by omega⟩ ?_)))
  refine ok_bd (ok_lp (fun k (p : Str × Int) => p.1.length = k ∧ Lc p.1 k) ⟨show ("" : Str).length = 0 from by decide +kernel, show Lc "" 0 from by unfold Lc; decide +kernel⟩ (fun k x p hx hp => ?_) fun p hp => hp) fun p hp => ok_some ?_
  · obtain ⟨hk, ex⟩ := List.getElem?_eq_some_iff.mp hx
    rw [List.length_range] at hk
    rw [List.getElem_range] at ex
    subst ex
    obtain ⟨l1, l2⟩ := hp
    refine ok_bd abc_at fun c hc => ok_gd abc_z (ok_gd ?_ (ok_lt (ok_gd (.inr ⟨by omega, by omega⟩) (ok_lt (ok_some ⟨?_, lc_cat l2 (lc_abc hc)⟩)))))
    · rw [l1]
      show _ + 1 ≤ 16777216
      omega
    · rw [len_cat, l1]
      rfl
  · rw [List.length_range] at hp
    exact ⟨hp.2.mono (by omega), by omega⟩
theorem atI_last' {α : Type} {xs : List α} (h : xs ≠ []) : ∃ y ∈ xs, L2.atI xs (-1) = some y := by
  have l0 : 0 < xs.length := List.length_pos_iff.mpr h
  refine ⟨xs[xs.length - 1], List.getElem_mem _, ?_⟩
  unfold L2.atI
  have e : ixN xs.length (-1) = some (xs.length - 1) := by
    unfold ixN
    rw [if_neg (by decide), if_pos (by omega)]
    exact congrArg some (by omega)
  rw [e]
  exact List.getElem?_eq_getElem (by omega)
theorem cut_len {α : Type} (xs : List α) (lo hi : Option Int) : (cutG xs lo hi).length ≤ xs.length := by
  unfold cutG
  rw [List.length_take, List.length_drop]
  omega
theorem cut_mem {α : Type} {xs : List α} {lo hi : Option Int} {x : α} (m : x ∈ cutG xs lo hi) : x ∈ xs := List.mem_of_mem_drop (List.mem_of_mem_take m)
abbrev POOL := List Str × List Int × List Int
structure PoolOk (p : POOL) : Prop where
  l1 : p.1.length = 5
  sm : ∀ x ∈ p.1, Sm x 17
  lc : ∀ x ∈ p.1, Lc x 8 ∧ 1 ≤ x.length
  l2 : p.2.1.length = 4
  d2 : ∀ d ∈ p.2.1, 0 ≤ d ∧ d ≤ 1000000
  l3 : p.2.2.length = 4
  d3 : ∀ d ∈ p.2.2, 0 ≤ d ∧ d ≤ 999999999999
theorem odd_lc : ∀ x ∈ ([("and" : Str), ("or" : Str), ("not" : Str), ("cause" : Str), ("thing" : Str), ("days" : Str), ("over" : Str), ("always" : Str)] : List Str), Lc x 8 ∧ 1 ≤ x.length := by
  have : ([("and" : Str), ("or" : Str), ("not" : Str), ("cause" : Str), ("thing" : Str), ("days" : Str), ("over" : Str), ("always" : Str)] : List Str).all (fun x => decide (x.length ≤ 8) && (x.cps.toList.all (fun c => 97 ≤ c && c ≤ 122) && decide (1 ≤ x.length))) = true := by decide +kernel
  intro x m
  have h := List.all_eq_true.mp this x m
  rw [Bool.and_eq_true, Bool.and_eq_true] at h
  exact ⟨⟨of_decide_eq_true h.1, h.2.1⟩, of_decide_eq_true h.2.2⟩
/-- lower-case letters, of any length that other tells -/
theorem other_lc {x : Str} (h : Lc x 8) (h1 : 1 ≤ x.length) (n : Int) : Ok (M__law_other x n) fun y => Lc y 8 ∧ 1 ≤ y.length := by
  have l := h.1
  have s := h.sm
  have zx : x.length ≤ sizeLine := by
    show _ ≤ 16777216
    omega
  have cc : ∀ lo hi, (cutS x lo hi).cps.toList = (x.cps.toList.drop (HT.sIx x.length 0 lo)).take (HT.sIx x.length x.length hi - HT.sIx x.length 0 lo) := fun _ _ => rfl
  have xl : x.cps.toList.length = x.length := (TL.len_tl x).symm
  have cln : ∀ lo hi, (cutS x lo hi).length = min (HT.sIx x.length x.length hi - HT.sIx x.length 0 lo) (x.length - HT.sIx x.length 0 lo) := fun lo hi => by
    rw [TL.len_tl (cutS x lo hi)]
    show (cutS x lo hi).cps.toList.length = _
    rw [cc, List.length_take, List.length_drop, xl]
  have cal : ∀ lo hi, (cutS x lo hi).cps.toList.all (fun c => 97 ≤ c && c ≤ 122) = true := fun lo hi => by
    rw [cc]
    exact List.all_eq_true.mpr fun c m => List.all_eq_true.mp h.2 c (List.mem_of_mem_drop (List.mem_of_mem_take m))
  have cl : ∀ lo hi, (cutS x lo hi).length ≤ 8 := fun lo hi => (sm_cut s lo hi).1
  unfold M__law_other
  refine ok_lt (ok_gd zx (ok_gd (by omega) (ok_ltx fun at_0 ea => (ok_bd abc_at fun c hc => ok_gd abc_z (ok_lt (ok_lt ?_))))))
  have a0 := Int.emod_nonneg (n / 8) (show (x.length : Int) ≠ 0 by omega)
  have a1 := Int.emod_lt_of_pos (n / 8) (show (0 : Int) < x.length by omega)
  rw [← ea] at a0 a1
  clear ea
  obtain ⟨k, rfl⟩ := Int.eq_ofNat_of_zero_le a0
  have s_n : ∀ j : Nat, HT.sIx x.length x.length (some (j : Int)) = min j x.length := fun j => by
    unfold HT.sIx; simp; omega
  have s_0 : ∀ j : Nat, HT.sIx x.length 0 (some (j : Int)) = min j x.length := fun j => by
    unfold HT.sIx; simp; omega
  have s_x : HT.sIx x.length x.length none = x.length := rfl
  have s_z : HT.sIx x.length 0 none = 0 := rfl
  have sg := lc_abc hc
  have gl : (sg1 c).length = 1 := rfl
  have p1 : ((k : Int) + 1) = ((k + 1 : Nat) : Int) := by omega
  have all2 : ∀ {a b : Str}, a.cps.toList.all (fun c => 97 ≤ c && c ≤ 122) = true → b.cps.toList.all (fun c => 97 ≤ c && c ≤ 122) = true → (a ++ b).cps.toList.all (fun c => 97 ≤ c && c ≤ 122) = true := fun ha hb => by
    rw [tl_cat, List.all_append, ha, hb]; rfl
  rw [p1]
  have e1 : (cutS x none (some (k : Int))).length = k := by rw [cln, s_n, s_z]; omega
  have e2 : (cutS x (some ((k + 1 : Nat) : Int)) none).length = x.length - (k + 1) := by rw [cln, s_0, s_x]; omega
  have e3 : (cutS x (some (k : Int)) none).length = x.length - k := by rw [cln, s_0, s_x]; omega
  have e4 : (cutS x (some (1 : Int)) none).length = x.length - 1 := by
    have : HT.sIx x.length 0 (some (1 : Int)) = min 1 x.length := s_0 1
    rw [cln, this, s_x]; omega
  have e5 : (cutS x none (some (1 : Int))).length = 1 := by
    have : HT.sIx x.length x.length (some (1 : Int)) = min 1 x.length := s_n 1
    rw [cln, this, s_z]; omega
  refine ok_cond (fun _ => ok_gd zx (ok_gd (by rw [e1, gl]; show _ ≤ 16777216; omega) (ok_gd zx (ok_gd (by rw [len_cat, e1, e2, gl]; show _ ≤ 16777216; omega) (ok_some ⟨⟨by rw [len_cat, len_cat, e1, e2, gl]; omega, all2 (all2 (cal _ _) sg.2) (cal _ _)⟩, by rw [len_cat, len_cat, e1, e2, gl]; omega⟩))))) fun _ => ?_
  refine ok_bd (Q := fun v => v = true → x.length < 8) (ok_cond (fun _ => ok_gd zx (ok_some fun h => by have := of_decide_eq_true h; omega)) fun _ => ok_some fun h => nomatch h) fun v hv => ?_
  refine ok_cond (fun q => ok_gd zx (ok_gd (by rw [e1, gl]; show _ ≤ 16777216; omega) (ok_gd zx (ok_gd (by rw [len_cat, e1, e3, gl]; show _ ≤ 16777216; omega) (ok_some ⟨⟨by have := hv q; rw [len_cat, len_cat, e1, e3, gl]; omega, all2 (all2 (cal _ _) sg.2) (cal _ _)⟩, by rw [len_cat, len_cat, e1, e3, gl]; omega⟩))))) fun _ => ?_
  refine ok_bd (Q := fun v => v = true → 1 < x.length) (ok_cond (fun _ => ok_gd zx (ok_some fun h => by have := of_decide_eq_true h; omega)) fun _ => ok_some fun h => nomatch h) fun v hv => ?_
  refine ok_cond (fun q => ok_gd zx (ok_gd zx (ok_gd (by rw [e1, e2]; show _ ≤ 16777216; omega) (ok_some ⟨⟨by rw [len_cat, e1, e2]; omega, all2 (cal _ _) (cal _ _)⟩, by have := hv q; rw [len_cat, e1, e2]; omega⟩)))) fun _ => ?_
  have rl : (revS x).length = x.length := by
    rw [TL.len_tl (revS x)]
    show (revS x).cps.toList.length = _
    rw [show (revS x).cps.toList = x.cps.toList.reverse from rfl, List.length_reverse, xl]
  refine ok_cond (fun _ => ok_gd zx (ok_some ⟨⟨by rw [rl]; exact l, by rw [show (revS x).cps.toList = x.cps.toList.reverse from rfl, List.all_reverse]; exact h.2⟩, by rw [rl]; exact h1⟩)) fun _ => ?_
  refine ok_cond (fun _ => ok_gd zx (ok_gd zx (ok_gd (by rw [e4, e5]; show _ ≤ 16777216; omega) (ok_some ⟨⟨by rw [len_cat, e4, e5]; omega, all2 (cal _ _) (cal _ _)⟩, by rw [len_cat, e4, e5]; omega⟩)))) fun _ => ok_some ⟨h, h1⟩
theorem pools_ok {ns : List Int} : Ok (M__law_pools ns) PoolOk := by
  unfold M__law_pools
  refine ok_bd (cell0 (by omega) (by omega)) fun v1 _ => ok_bd (name_ok v1) fun v2 ⟨a1, a2⟩ => ok_lt ?_
  refine ok_bd (ok_lp (fun k (p : List Str) => p.length = k + 1 ∧ ∀ x ∈ p, Lc x 8 ∧ 1 ≤ x.length) ⟨rfl, fun x m => by cases List.mem_singleton.mp m; exact ⟨a1, a2⟩⟩ (fun k x p hx hp => ?_) fun p hp => hp) fun p hp => ?_
  · obtain ⟨hk, ex⟩ := List.getElem?_eq_some_iff.mp hx
    rw [List.length_range] at hk
    rw [List.getElem_range] at ex
    subst ex
    have hk : k < 3 := hk
    refine ok_bd (ok_atIm (by omega) (by rw [hp.1]; omega) hp.2) fun v6 h6 => ok_bd (cell0 (by omega) (by omega)) fun v7 _ => ok_bd (mix0 _ (by omega) (by omega)) fun v8 _ => ok_bd (other_lc h6.1 h6.2 v8) fun v9 h9 => ok_gd (by rw [hp.1]; show _ < 16777216; omega) (ok_lt (ok_some ⟨by rw [List.length_append, hp.1]; rfl, fun x m => ?_⟩))
    rcases List.mem_append.mp m with m | m
    · exact hp.2 x m
    · cases List.mem_singleton.mp m
      exact h9
  · have pl : p.length = 4 := hp.1
    refine ok_lt (ok_bd (cell0 (by omega) (by omega)) fun v11 _ => ok_bd (ok_atIm (by omega) (by show _ < (8 : Int); omega) odd_lc) fun v12 h12 => ok_gd (by rw [pl]; decide) (ok_lt ?_))
    refine ok_bd (cell0 (by omega) (by omega)) fun v14 _ => ok_ltx fun day eday => (ok_bd (cell0 (by omega) (by omega)) fun v15 _ => ok_bd (mix0 _ (by omega) (by omega)) fun v16 h16 => ok_gd (srtok_i _) (ok_lt (ok_bd (cell0 (by omega) (by omega)) fun v18 _ => ok_ltx fun cents ec => (ok_lt (ok_some ?_)))))
    have hall : ∀ x ∈ p ++ [v12], Lc x 8 ∧ 1 ≤ x.length := fun x m => by
      rcases List.mem_append.mp m with m | m
      · exact hp.2 x m
      · cases List.mem_singleton.mp m
        exact h12
    refine ⟨by show (p ++ [v12]).length = 5; rw [List.length_append, pl]; rfl, fun x m => (hall x m).1.sm.mono (by omega), hall, by show (srt D.int _).length = 4; rw [srt_len]; rfl, fun d m => ?_, rfl, fun d m => ?_⟩
    · have m := srt_mem.mp (show d ∈ srt D.int _ from m)
      simp only [List.mem_cons, List.not_mem_nil, or_false] at m
      rcases m with rfl | rfl | rfl | rfl <;> omega
    · have m : d ∈ [cents, (min (1000000000000 - 1) (cents + 1)), (v16 % 100), ((v16 * 463) % 1000000000000)] := m
      simp only [List.mem_cons, List.not_mem_nil, or_false] at m
      rcases m with rfl | rfl | rfl | rfl <;> omega
/-- a node of the grown rows: tree, words, brackets and nots -/
def nd (c : Cd) : D × Int × Int := (tr c, wn c, dn c)
def Nd (t : D × Int × Int) : Prop := ∃ c, t = nd c ∧ Gd c
theorem dg_rk (c : Cd) : dgI [(("all" : Str), (2 : Int)), (("some" : Str), (1 : Int))] (kd c) (3 : Int) = rk c := by
  cases c with
  | plain p => exact (by decide +kernel : dgI [(("all" : Str), (2 : Int)), (("some" : Str), (1 : Int))] "always" (3 : Int) = 3)
  | cause p => exact (by decide +kernel : dgI [(("all" : Str), (2 : Int)), (("some" : Str), (1 : Int))] "cause" (3 : Int) = 3)
  | thing p => exact (by decide +kernel : dgI [(("all" : Str), (2 : Int)), (("some" : Str), (1 : Int))] "thing" (3 : Int) = 3)
  | days p => exact (by decide +kernel : dgI [(("all" : Str), (2 : Int)), (("some" : Str), (1 : Int))] "days" (3 : Int) = 3)
  | over p => exact (by decide +kernel : dgI [(("all" : Str), (2 : Int)), (("some" : Str), (1 : Int))] "over" (3 : Int) = 3)
  | notOf p => exact (by decide +kernel : dgI [(("all" : Str), (2 : Int)), (("some" : Str), (1 : Int))] "not" (3 : Int) = 3)
  | allOf p => exact (by decide +kernel : dgI [(("all" : Str), (2 : Int)), (("some" : Str), (1 : Int))] "all" (3 : Int) = 2)
  | someOf p => exact (by decide +kernel : dgI [(("all" : Str), (2 : Int)), (("some" : Str), (1 : Int))] "some" (3 : Int) = 1)
theorem brk_ok (c : Cd) (l : Int) : M__law_bracketed (nd c) l = some (if rk c < l then wn c + 2 else wn c, if rk c < l then dn c + 1 else dn c) := by
  unfold M__law_bracketed
  show bd (ixD (tr c) 0) _ = _
  rw [bd_of (tr_0 c), bd_of (show asS (.str (kd c)) = some (kd c) from rfl), dg_rk]
  by_cases h : rk c < l
  · rw [decide_eq_true h, if_pos h, if_pos h]; rfl
  · rw [decide_eq_false h, if_neg h, if_neg h]; rfl
theorem row_cs : ∀ {row : List (D × Int × Int)}, (∀ t ∈ row, Nd t) → ∃ cs : List Cd, row = cs.map nd ∧ ∀ c ∈ cs, Gd c
  | [], _ => ⟨[], rfl, fun _ m => (nomatch m)⟩
  | t :: r, h => by
    obtain ⟨cs, e, q⟩ := row_cs fun t m => h t (List.mem_cons_of_mem _ m)
    obtain ⟨c, h1, h2⟩ := h t List.mem_cons_self
    refine ⟨c :: cs, by rw [List.map_cons, e, h1], fun c' m => ?_⟩
    rcases List.mem_cons.mp m with rfl | m
    · exact h2
    · exact q c' m
theorem join_lp {e : Option Int} {lv : Int} (he : e = some lv) : ∀ (cs : List Cd) (s d : Int), lp (fun (x2 : (D × Int × Int)) (p1 : Int × Int) => (bd e fun v4 =>
    bd (M__law_bracketed x2 v4) fun v5 =>
    lt (p1.1 + v5.1) fun size_1 =>
    lt (max p1.2 v5.2) fun deep =>
    some (size_1, deep) : Option (Int × Int))) (cs.map nd) (s, d) = some (wnL lv cs s, dnL lv cs d)
  | [], s, d => rfl
  | c :: r, s, d => by
    show bd (bd e _) _ = _
    rw [bd_of he, bd_of (brk_ok c lv)]
    exact join_lp he r _ _
theorem join_ok {row : List (D × Int × Int)} (hr : ∀ t ∈ row, Nd t) (hl : 2 ≤ row.length ∧ row.length ≤ 8) {kind : Str} (hk : kind = "all" ∨ kind = "some") : Ok (M__law_join row kind) Nd := by
  obtain ⟨lv, hlv, hv⟩ : ∃ lv : Int, L2.atI [(2 : Int), 3] (if ((kind == ("all" : Str))) then 1 else 0) = some lv ∧ (kind = "all" ∧ lv = 3 ∨ kind = "some" ∧ lv = 2) := by
    rcases hk with rfl | rfl
    · exact ⟨3, by decide +kernel, .inl ⟨rfl, rfl⟩⟩
    · exact ⟨2, by decide +kernel, .inr ⟨rfl, rfl⟩⟩
  obtain ⟨cs, rfl, hg⟩ := row_cs hr
  rw [List.length_map] at hl
  unfold M__law_join
  refine ok_lt ?_
  rw [bd_of (join_lp hlv cs _ _)]
  refine ok_gd (by rw [List.length_map]; show _ < 16777216; omega) ?_
  rw [bd_of (mpO_pure (fun x : D × Int × Int => x.1) (cs.map nd)), List.length_map]
  have e : ((cs.map nd).map fun x : D × Int × Int => x.1) = trL cs := by rw [List.map_map, trL_map]; rfl
  refine ok_some ?_
  show ∃ c, ((.tup [.str kind, .lst (((cs.map nd).map fun x : D × Int × Int => x.1).map e_d)] : D), _) = nd c ∧ Gd c
  rw [e, show (trL cs).map e_d = trL cs from List.map_id _]
  rcases hv with ⟨rfl, rfl⟩ | ⟨rfl, rfl⟩
  · exact ⟨.allOf cs, rfl, .allOf hl hg⟩
  · exact ⟨.someOf cs, rfl, .someOf hl hg⟩
theorem leaf_ok {n : Int} {p : POOL} (hp : PoolOk p) : Ok (M__law_leaf n p) fun d => ∃ c, d = tr c ∧ Gd c ∧ wn c = dgI [(("always" : Str), (1 : Int)), (("days" : Str), (3 : Int))] (kd c) (2 : Int) ∧ dn c = 0 ∧ isAtom c = true := by
  have w1 : dgI [(("always" : Str), (1 : Int)), (("days" : Str), (3 : Int))] "always" (2 : Int) = 1 := by decide +kernel
  have w2 : dgI [(("always" : Str), (1 : Int)), (("days" : Str), (3 : Int))] "cause" (2 : Int) = 2 := by decide +kernel
  have w3 : dgI [(("always" : Str), (1 : Int)), (("days" : Str), (3 : Int))] "thing" (2 : Int) = 2 := by decide +kernel
  have w4 : dgI [(("always" : Str), (1 : Int)), (("days" : Str), (3 : Int))] "days" (2 : Int) = 3 := by decide +kernel
  have w5 : dgI [(("always" : Str), (1 : Int)), (("days" : Str), (3 : Int))] "over" (2 : Int) = 2 := by decide +kernel
  unfold M__law_leaf
  refine ok_ltx fun way ew => ok_ltx fun a ea => ok_cond (fun _ => ok_some ⟨.plain (), rfl, .plain (), w1.symm, rfl, rfl⟩) fun h0 => ok_cond (fun h => ?_) fun h1 => ok_cond (fun _ => ?_) fun _ => ?_
  · have w0 : way ≠ 0 := fun z => by rw [z] at h0; cases h0
    have w3' := of_decide_eq_true h
    refine ok_bd (ok_atIm (xs := [("cause" : Str), "thing"]) (Q := fun v => v = "cause" ∨ v = "thing") (by omega) (by show _ < (2 : Int); omega) fun y m => by simpa using m) fun v1 hv => ok_bd (ok_atIm (by omega) (by rw [hp.l1]; omega) hp.lc) fun v2 h2 => ok_some ?_
    rcases hv with rfl | rfl
    · exact ⟨.cause v2, rfl, .cause h2, w2.symm, rfl, rfl⟩
    · exact ⟨.thing v2, rfl, .thing h2, w3.symm, rfl, rfl⟩
  · exact ok_bd (ok_atIm (by omega) (by rw [hp.l2]; omega) hp.d2) fun v3 h3 => ok_bd (ok_atIm (by omega) (by rw [hp.l2]; omega) hp.d2) fun v4 h4 => ok_some ⟨.days (min v3 v4, max v3 v4), rfl, .days _ ⟨by show 0 ≤ min v3 v4; omega, by show min v3 v4 ≤ max v3 v4; omega, by show max v3 v4 ≤ _; omega⟩, w4.symm, rfl, rfl⟩
  · exact ok_bd (ok_atIm (by omega) (by rw [hp.l3]; omega) hp.d3) fun v5 h5 => ok_some ⟨.over v5, rfl, .over _ h5, w5.symm, rfl, rfl⟩
def Ndr (t : D × Int × Int) : Prop := ∃ c, t = nd c ∧ Gd c ∧ wn c ≤ 60 ∧ dn c ≤ 6
theorem wt_le (c : Cd) : wt c ≤ 2 := by cases c <;> simp [wt]
theorem Gd.mk14 {c : Cd} (h : Gd c) (l : dn c ≤ 6) : Mk 14 c := by
  have := wt_le c
  have := h.mk.1
  exact h.mk.2.up (by omega)
theorem Ndr.nd {t : D × Int × Int} : Ndr t → Nd t := fun ⟨c, e, g, _⟩ => ⟨c, e, g⟩
theorem row_smp {row : List (D × Int × Int)} (h : ∀ t ∈ row, Ndr t) : Smp 31 (.lst (row.map e_T_d_i_i)) := .lst (smps_map fun t m => by
  obtain ⟨c, e, g, _, k⟩ := h t m
  subst e
  exact .tup (smps_cons (g.mk14 k).smp (smps_cons (.int _) (smps_cons (.int _) smps_nil))))
theorem cut_last {α : Type} (xs : List α) {k : Int} (h0 : 0 < k) (h1 : k ≤ xs.length) : (cutG xs (some (-k)) none).length = k.toNat := by
  unfold cutG
  have e1 : HT.sIx xs.length 0 (some (-k)) = xs.length - k.toNat := by unfold HT.sIx; simp; split <;> omega
  have e2 : HT.sIx xs.length xs.length none = xs.length := rfl
  rw [e1, e2, List.length_take, List.length_drop]
  omega
theorem step_ok {row : List (D × Int × Int)} {n : Int} {p : POOL} (hp : PoolOk p) (hr : ∀ t ∈ row, Ndr t) (hl : row.length ≤ 90) : Ok (M__law_step row n p) fun r => (∀ t ∈ r, Ndr t) ∧ r.length ≤ row.length + 1 ∧ 1 ≤ r.length := by
  unfold M__law_step
  refine ok_lt (ok_ltx fun size es => ?_)
  refine ok_bd (Q := fun v => v = true → row ≠ []) (ok_cond (fun _ => ok_gd ⟨(row_smp hr).ok, (row_smp (row := []) fun _ m => (nomatch m)).ok⟩ (ok_some fun e z => ?_)) fun _ => ok_some (by intro e; cases e)) fun v2 h2 => ?_
  · rw [z] at e
    cases e
  refine ok_bd (Q := fun q => (∀ t, q.2 = some t → Nd t) ∧ 0 ≤ q.1 ∧ q.1 ≤ row.length ∧ q.1 ≤ 8) (ok_cond (fun e => ?_) fun _ => ok_some ⟨(by intro t z; cases z), by show 0 ≤ size; omega, by show size ≤ _; omega, by show size ≤ 8; omega⟩) fun p4 h4 => ?_
  · obtain ⟨t, mt, et⟩ := atI_last' (h2 e)
    obtain ⟨c, rfl, gc, _⟩ := hr t mt
    rw [bd_of et, bd_of (brk_ok c 3), bd_of et]
    refine ok_lt (ok_some ⟨(by intro t' z; cases z; exact ⟨.notOf c, rfl, .notOf gc⟩), by show (0 : Int) ≤ 1; omega, ?_, by show (1 : Int) ≤ 8; omega⟩)
    · show (1 : Int) ≤ _
      have := List.length_pos_iff.mpr (h2 e)
      omega
  refine ok_bd (Q := fun q => ∀ t, q = some t → Nd t) (ok_cond (fun hc => ?_) fun _ => ok_some h4.1) fun p8 h8 => ?_
  · refine ok_bd (ok_atIm (xs := [("all" : Str), "some"]) (Q := fun v => v = "all" ∨ v = "some") (by omega) (by show _ < (2 : Int); omega) fun y m => by simpa using m) fun v9 h9 => ?_
    rw [Bool.and_eq_true] at hc
    have := of_decide_eq_true hc.2
    have := cut_last row (k := p4.1) (by omega) h4.2.2.1
    exact ok_bd (join_ok (fun t m => (hr t (cut_mem m)).nd) (by omega) h9) fun v10 h10 => ok_lt (ok_some fun t z => by cases z; exact h10)
  refine ok_bd (Q := fun v => v = false → ∃ t, p8 = some t ∧ Ndr t) ?_ fun v hv => ok_cond (fun _ => ?_) fun e => ?_
  · cases p8 with
    | none => exact ok_some fun z => nomatch z
    | some t =>
      refine ok_f rfl ?_
      show Ok (bd (cond _ _ _) _) _
      refine ok_bd (Q := fun v => v = false → t.2.1 ≤ 60 ∧ t.2.2 ≤ 6) (ok_cond (fun _ => ok_some fun z => nomatch z) fun y => ok_some fun z => ?_) fun v hv => ok_some fun z => ?_
      · have := of_decide_eq_false z
        have := of_decide_eq_false y
        omega
      · obtain ⟨c, rfl, gc⟩ := h8 t rfl
        exact ⟨_, rfl, c, rfl, gc, hv z⟩
  · refine ok_bd (leaf_ok hp) fun d ⟨c, ed, mk, w0, d0, _⟩ => ?_
    subst ed
    rw [bd_of (tr_0 c), bd_of (show asS (.str (kd c)) = some (kd c) from rfl)]
    refine ok_gd (by show _ + 1 ≤ 16777216; omega) (ok_some ⟨fun t m => ?_, by rw [List.length_append]; exact Nat.le_refl _, by rw [List.length_append]; show 1 ≤ _ + 1; omega⟩)
    rcases List.mem_append.mp m with m | m
    · exact hr t m
    · cases List.mem_singleton.mp m
      refine ⟨c, by unfold nd; rw [w0, d0], mk, ?_, by omega⟩
      rw [w0]
      show (if _ then (1 : Int) else if _ then (3 : Int) else (2 : Int)) ≤ (60 : Int)
      split
      · omega
      · split <;> omega
  · obtain ⟨t, et, ht⟩ := hv e
    rw [bd_of et]
    have := cut_len row none (some ((row.length : Int) - p4.1))
    refine ok_gd (by show _ + 1 ≤ 16777216; omega) (ok_some ⟨fun t' m => ?_, by rw [List.length_append]; show _ + 1 ≤ _; omega, by rw [List.length_append]; show 1 ≤ _ + 1; omega⟩)
    rcases List.mem_append.mp m with m | m
    · exact hr t' (cut_mem m)
    · cases List.mem_singleton.mp m
      exact ht
theorem rg8 : ∀ m : Nat, m < 9 → RgC (m : Int) 1 (-1) (m - 1) := by
  unfold RgC
  decide +kernel
theorem tree_ok {ns : List Int} {start : Int} {p : POOL} (hp : PoolOk p) (h0 : 0 ≤ start) (h1 : start ≤ 10) : Ok (M__law_tree ns start p) fun d => ∃ c, d = tr c ∧ Mk 14 c ∧ Gd c ∧ wn c ≤ 60 ∧ dn c ≤ 6 := by
  unfold M__law_tree
  refine ok_lt (ok_gd ⟨by omega, by omega, by omega, by omega⟩ ?_)
  obtain ⟨m, em, hm, hm9⟩ : ∃ m : Nat, ((max (start + 9) (min (ns.length : Int) (63 : Int))) - start).toNat = m ∧ m ≤ 70 ∧ 9 ≤ m := ⟨_, rfl, by omega, by omega⟩
  rw [em]
  refine ok_bd (ok_lp (Q := fun r => (∀ t ∈ r, Ndr t) ∧ r.length ≤ 70 ∧ 1 ≤ r.length) (fun k r => (∀ t ∈ r, Ndr t) ∧ r.length ≤ k ∧ (0 < k → 1 ≤ r.length)) ⟨fun _ m => (nomatch m), Nat.le_refl _, fun h => absurd h (by omega)⟩ (fun k x r hx hr => ?_) fun r hr => ?_) fun r ⟨hr, r70, r1⟩ => ?_
  · obtain ⟨hk, ex⟩ := List.getElem?_eq_some_iff.mp hx
    rw [List.length_range] at hk
    rw [List.getElem_range] at ex
    subst ex
    refine ok_bd (cell0 (by omega) (by omega)) fun v5 _ => ok_bd (mix0 _ (by omega) (by omega)) fun v6 _ => ok_bd (step_ok hp hr.1 (by omega)) fun v7 h7 => ok_some ⟨h7.1, by omega, fun _ => h7.2.2⟩
  · rw [List.length_range] at hr
    exact ⟨hr.1, by omega, hr.2.2 (by omega)⟩
  · have hne : r ≠ [] := fun z => by rw [z] at r1; exact absurd r1 (by decide)
    obtain ⟨q, eq_, q9⟩ : ∃ q : Nat, min (8 : Int) (r.length : Int) = (q : Int) ∧ q < 9 := ⟨(min (8 : Int) (r.length : Int)).toNat, by omega, by omega⟩
    rw [eq_, bd_of (rgN_is (rg8 q q9))]
    refine ok_bd (ok_lpO (Q := fun o => o = .nx () ∨ ∃ d, o = .rt d ∧ ∃ c, d = tr c ∧ Mk 14 c ∧ Gd c ∧ wn c ≤ 60 ∧ dn c ≤ 6) (fun _ _ => True) trivial (fun i x v hx _ => ?_) fun v _ => .inl rfl) fun o ho => ?_
    · refine ok_bd (ok_atIm (xs := [("some" : Str), "all"]) (Q := fun v => v = "all" ∨ v = "some") (by omega) (by show _ < (2 : Int); omega) fun y m => by simp only [List.mem_cons, List.not_mem_nil, or_false] at m; exact m.symm) fun v12 h12 => ?_
      have xq : x < q - 1 := by
        obtain ⟨hk, ex⟩ := List.getElem?_eq_some_iff.mp hx
        rw [List.length_range] at hk
        rw [List.getElem_range] at ex
        omega
      have := cut_last r (k := (q : Int) + (x : Int) * (-(1 : Int))) (by omega) (by omega)
      refine ok_bd (join_ok (fun t m => (hr t (cut_mem m)).nd) (by omega) h12) fun v13 h13 => ok_cond (fun e => ok_some ?_) fun _ => ok_some trivial
      rw [Bool.and_eq_true] at e
      obtain ⟨c, rfl, gc⟩ := h13
      exact .inr ⟨_, rfl, c, rfl, gc.mk14 (of_decide_eq_true e.2), gc, of_decide_eq_true e.1, of_decide_eq_true e.2⟩
    · rcases ho with rfl | ⟨d, rfl, hd⟩
      · obtain ⟨t, mt, et⟩ := atI_last' hne
        show Ok (bd (L2.atI r (-1)) _) _
        rw [bd_of et]
        obtain ⟨c, rfl, gc, w, d⟩ := hr t mt
        exact ok_some ⟨c, rfl, gc.mk14 d, gc, w, d⟩
      · exact ok_some hd
open SX TL
theorem numL_all : ∀ n : Nat, (numL n).all (· < 128) = true := fun n => by
  induction n using Nat.strongRecOn with
  | _ n ih =>
    by_cases h : n < 10
    · rw [numL_lt h]
      simp
      omega
    · rw [numL_step (by omega), List.all_append, ih (n / 10) (by omega)]
      simp
      omega
theorem amtS_sm {n : Nat} (h : n < 10 ^ 60) : Sm (amtS n) 63 := by
  refine sm_S ?_ ?_
  · unfold amtL
    rw [List.length_append]
    have := numL_len (n := n / 100) (k := 60) (by decide) (by omega)
    show _ + 3 ≤ 63
    omega
  · unfold amtL
    rw [List.all_append, numL_all]
    simp
    omega

def tail (w : Str) : List (List Str) → List Str
  | [] => []
  | x :: r => w :: (x ++ tail w r)
def jn (w : Str) : List (List Str) → List Str
  | [] => []
  | x :: r => x ++ tail w r
mutual
def wds : Cd → List Str
  | .plain _ => ["always"]
  | .cause x => ["cause", x]
  | .thing x => ["thing", x]
  | .days p => ["days", strI p.1, strI p.2]
  | .over c => ["over", amtS c.toNat]
  | .notOf c => ("not" : Str) :: (if rk c < 3 then ("(" : Str) :: (wds c ++ [(")" : Str)]) else wds c)
  | .allOf cs => wdsL 3 "and" cs []
  | .someOf cs => wdsL 2 "or" cs []
def wdsL (l : Int) (w : Str) : List Cd → List Str → List Str
  | [], a => a
  | c :: r, a => wdsL l w r ((if a.isEmpty then a else a ++ [w]) ++ (if rk c < l then ("(" : Str) :: (wds c ++ [(")" : Str)]) else wds c))
end
/-- in brackets where the rank is below l -/
def brw (l : Int) (c : Cd) : List Str := if rk c < l then ("(" : Str) :: (wds c ++ [(")" : Str)]) else wds c
theorem wdsL_cons (l : Int) (w : Str) (c : Cd) (r : List Cd) (a : List Str) : wdsL l w (c :: r) a = wdsL l w r ((if a.isEmpty then a else a ++ [w]) ++ brw l c) := rfl
theorem wdsL_tail (l : Int) (w : Str) : ∀ (cs : List Cd) (a : List Str), a ≠ [] → wdsL l w cs a = a ++ tail w (cs.map (brw l))
  | [], a, _ => (List.append_nil a).symm
  | c :: r, a, h => by
    have e : a.isEmpty = false := by cases a with
      | nil => exact absurd rfl h
      | cons => rfl
    rw [wdsL_cons, e, if_neg (by decide), wdsL_tail l w r _ (by simp)]
    show (a ++ [w]) ++ brw l c ++ tail w (r.map (brw l)) = a ++ (w :: (brw l c ++ tail w (r.map (brw l))))
    simp only [List.append_assoc, List.singleton_append, List.cons_append, List.nil_append]
theorem wdsL_jn (l : Int) (w : Str) {cs : List Cd} (h : ∀ c ∈ cs, brw l c ≠ []) : wdsL l w cs [] = jn w (cs.map (brw l)) := by
  cases cs with
  | nil => rfl
  | cons c r =>
    rw [wdsL_cons]
    show wdsL l w r ([] ++ brw l c) = brw l c ++ tail w (r.map (brw l))
    rw [List.nil_append, wdsL_tail l w r _ (h c List.mem_cons_self)]
theorem brw_ne {l : Int} {c : Cd} (h : wds c ≠ []) : brw l c ≠ [] := by
  unfold brw
  split
  · simp
  · exact h
theorem wds_ne {c : Cd} (h : Gd c) : wds c ≠ [] := by
  induction h with
  | plain u => exact fun z => nomatch z
  | cause h => exact fun z => nomatch z
  | thing h => exact fun z => nomatch z
  | days p => exact fun z => nomatch z
  | over c => exact fun z => nomatch z
  | notOf h => exact fun z => nomatch z
  | @allOf cs l h ih =>
    cases cs with
    | nil => exact absurd l.1 (by decide)
    | cons c r =>
      show wdsL 3 "and" (c :: r) [] ≠ []
      rw [wdsL_jn 3 "and" fun c m => brw_ne (ih c m)]
      exact fun z => brw_ne (ih c List.mem_cons_self) (List.append_eq_nil_iff.mp z).1
  | @someOf cs l h ih =>
    cases cs with
    | nil => exact absurd l.1 (by decide)
    | cons c r =>
      show wdsL 2 "or" (c :: r) [] ≠ []
      rw [wdsL_jn 2 "or" fun c m => brw_ne (ih c m)]
      exact fun z => brw_ne (ih c List.mem_cons_self) (List.append_eq_nil_iff.mp z).1
theorem brw_len {l : Int} {c : Cd} (h : ((wds c).length : Int) = wn c) : ((brw l c).length : Int) = (if rk c < l then wn c + 2 else wn c) := by
  unfold brw
  split
  · rw [List.length_cons, List.length_append]
    show ((((wds c).length + 1) + 1 : Nat) : Int) = _
    omega
  · exact h
theorem tail_len (l : Int) (w : Str) : ∀ (cs : List Cd) (s : Int), (∀ c ∈ cs, ((wds c).length : Int) = wn c) → ((tail w (cs.map (brw l))).length : Int) + s = wnL l cs (s + cs.length)
  | [], s, _ => by show ((0 : Nat) : Int) + s = s + ((0 : Nat) : Int); omega
  | c :: r, s, h => by
    have h1 := brw_len (l := l) (h c List.mem_cons_self)
    have h2 := tail_len l w r (s + 1 + (if rk c < l then wn c + 2 else wn c)) fun c m => h c (List.mem_cons_of_mem _ m)
    show (((w :: (brw l c ++ tail w (r.map (brw l)))).length : Nat) : Int) + s = wnL l r ((s + ((r.length + 1 : Nat) : Int)) + (if rk c < l then wn c + 2 else wn c))
    rw [List.length_cons, List.length_append]
    have e : (s + ((r.length + 1 : Nat) : Int)) + (if rk c < l then wn c + 2 else wn c) = s + 1 + (if rk c < l then wn c + 2 else wn c) + r.length := by omega
    rw [e]
    omega
theorem jn_len (l : Int) (w : Str) {cs : List Cd} (h : ∀ c ∈ cs, ((wds c).length : Int) = wn c) (hn : 1 ≤ cs.length) : ((jn w (cs.map (brw l))).length : Int) = wnL l cs ((cs.length : Int) - 1) := by
  cases cs with
  | nil => exact absurd hn (by decide)
  | cons c r =>
    have h1 := brw_len (l := l) (h c List.mem_cons_self)
    have h2 := tail_len l w r (if rk c < l then wn c + 2 else wn c) fun c m => h c (List.mem_cons_of_mem _ m)
    show (((brw l c ++ tail w (r.map (brw l))).length : Nat) : Int) = wnL l r ((((r.length + 1 : Nat) : Int) - 1) + (if rk c < l then wn c + 2 else wn c))
    rw [List.length_append, show (((r.length + 1 : Nat) : Int) - 1) + (if rk c < l then wn c + 2 else wn c) = (if rk c < l then wn c + 2 else wn c) + r.length by omega]
    omega
theorem wds_all {cs : List Cd} (h : ∀ c ∈ cs, Gd c) : wds (.allOf cs) = jn "and" (cs.map (brw 3)) := wdsL_jn 3 "and" fun c m => brw_ne (wds_ne (h c m))
theorem wds_some {cs : List Cd} (h : ∀ c ∈ cs, Gd c) : wds (.someOf cs) = jn "or" (cs.map (brw 2)) := wdsL_jn 2 "or" fun c m => brw_ne (wds_ne (h c m))
theorem wds_len {c : Cd} (h : Gd c) : ((wds c).length : Int) = wn c := by
  induction h with
  | plain u => rfl
  | cause h => rfl
  | thing h => rfl
  | days p => rfl
  | over c => rfl
  | @notOf c h ih =>
    have := brw_len (l := 3) ih
    show (((("not" : Str) :: brw 3 c).length : Nat) : Int) = (if rk c < 3 then wn c + 2 else wn c) + 1
    rw [List.length_cons]
    omega
  | @allOf cs l h ih => rw [wds_all h]; exact jn_len 3 "and" ih (by omega)
  | @someOf cs l h ih => rw [wds_some h]; exact jn_len 2 "or" ih (by omega)
/-- small, without a blank -/
def Wd (w : Str) : Prop := Sm w 63 ∧ 32 ∉ w.cps.toList
theorem lit_wd {x : Str} (h : (decide (x.length ≤ 63) && (x.cps.toList.all (· < 128) && !(x.cps.toList.contains 32))) = true) : Wd x := by
  rw [Bool.and_eq_true, Bool.and_eq_true] at h
  refine ⟨⟨of_decide_eq_true h.1, h.2.1⟩, fun z => ?_⟩
  have := h.2.2
  rw [List.contains_iff_mem.mpr z] at this
  cases this
theorem lc_wd {x : Str} {n : Nat} (h : Lc x n) (l : n ≤ 63) : Wd x := ⟨h.sm.mono l, fun z => by
  have := List.all_eq_true.mp h.2 32 z
  cases this⟩
theorem num_wd {n : Nat} (h : n < 10 ^ 60) : Wd (strI (n : Int)) := by
  rw [strI_n]
  refine ⟨sm_S (Nat.le_trans (numL_len (k := 60) (by decide) h) (by decide)) (numL_all n), numL_free (by decide)⟩
theorem amt_wd {n : Nat} (h : n < 10 ^ 60) : Wd (amtS n) := by
  refine ⟨amtS_sm h, ?_⟩
  show 32 ∉ amtL n
  unfold amtL
  intro z
  rcases List.mem_append.mp z with z | z
  · exact numL_free (by decide) z
  · simp at z
    omega
theorem brw_wd {l : Int} {c : Cd} (h : ∀ w ∈ wds c, Wd w) : ∀ w ∈ brw l c, Wd w := by
  unfold brw
  split
  · intro w m
    rcases List.mem_cons.mp m with rfl | m
    · exact lit_wd (by decide +kernel)
    · rcases List.mem_append.mp m with m | m
      · exact h w m
      · cases List.mem_singleton.mp m; exact lit_wd (by decide +kernel)
  · exact h
theorem tail_wd {w : Str} (hw : Wd w) : ∀ {xs : List (List Str)}, (∀ x ∈ xs, ∀ y ∈ x, Wd y) → ∀ y ∈ tail w xs, Wd y
  | [], _, _, m => nomatch m
  | x :: r, h, y, m => by
    rcases List.mem_cons.mp m with rfl | m
    · exact hw
    · rcases List.mem_append.mp m with m | m
      · exact h x List.mem_cons_self y m
      · exact tail_wd hw (fun x k => h x (List.mem_cons_of_mem _ k)) y m
theorem jn_wd {w : Str} (hw : Wd w) {xs : List (List Str)} (h : ∀ x ∈ xs, ∀ y ∈ x, Wd y) : ∀ y ∈ jn w xs, Wd y := by
  cases xs with
  | nil => exact fun _ m => nomatch m
  | cons x r =>
    intro y m
    rcases List.mem_append.mp m with m | m
    · exact h x List.mem_cons_self y m
    · exact tail_wd hw (fun x k => h x (List.mem_cons_of_mem _ k)) y m
theorem wds_wd {c : Cd} (h : Gd c) : ∀ w ∈ wds c, Wd w := by
  have one : ∀ {a b : Str}, Wd a → Wd b → ∀ w ∈ [a, b], Wd w := fun ha hb w m => by
    rcases List.mem_cons.mp m with rfl | m
    · exact ha
    · cases List.mem_singleton.mp m; exact hb
  induction h with
  | plain u => exact fun w m => by cases List.mem_singleton.mp m; exact lit_wd (by decide +kernel)
  | cause h => exact one (lit_wd (by decide +kernel)) (lc_wd h.1 (by decide))
  | thing h => exact one (lit_wd (by decide +kernel)) (lc_wd h.1 (by decide))
  | days p h =>
    obtain ⟨a, ea⟩ := Int.eq_ofNat_of_zero_le h.1
    obtain ⟨b, eb⟩ := Int.eq_ofNat_of_zero_le (show 0 ≤ p.2 by omega)
    have ha : Wd (strI p.1) := by rw [ea]; exact num_wd (by omega)
    have hb : Wd (strI p.2) := by rw [eb]; exact num_wd (by omega)
    intro w m
    rcases List.mem_cons.mp m with rfl | m
    · exact lit_wd (by decide +kernel)
    · exact one ha hb w m
  | over c h => exact one (lit_wd (by decide +kernel)) (amt_wd (by omega))
  | @notOf c h ih =>
    intro w m
    rcases List.mem_cons.mp (show w ∈ ("not" : Str) :: brw 3 c from m) with rfl | m
    · exact lit_wd (by decide +kernel)
    · exact brw_wd ih w m
  | @allOf cs l h ih =>
    rw [wds_all h]
    exact jn_wd (lit_wd (by decide +kernel)) fun x m => by obtain ⟨c, mc, rfl⟩ := List.mem_map.mp m; exact brw_wd (ih c mc)
  | @someOf cs l h ih =>
    rw [wds_some h]
    exact jn_wd (lit_wd (by decide +kernel)) fun x m => by obtain ⟨c, mc, rfl⟩ := List.mem_map.mp m; exact brw_wd (ih c mc)
theorem tail_le {w : Str} {x : List Str} : ∀ {xs : List (List Str)}, x ∈ xs → x.length ≤ (tail w xs).length
  | y :: r, m => by
    show _ ≤ (w :: (y ++ tail w r)).length
    rw [List.length_cons, List.length_append]
    rcases List.mem_cons.mp m with rfl | m
    · omega
    · have := tail_le (w := w) m
      omega
theorem jn_le {w : Str} {x : List Str} {xs : List (List Str)} (m : x ∈ xs) : x.length ≤ (jn w xs).length := by
  cases xs with
  | nil => nomatch m
  | cons y r =>
    show _ ≤ (y ++ tail w r).length
    rw [List.length_append]
    rcases List.mem_cons.mp m with rfl | m
    · omega
    · have := tail_le (w := w) m
      omega
theorem brw_ge (l : Int) (c : Cd) : (wds c).length ≤ (brw l c).length := by
  unfold brw
  split
  · rw [List.length_cons, List.length_append]; omega
  · exact Nat.le_refl _
theorem wdsL_ge (l : Int) (w : Str) : ∀ (cs : List Cd) (a : List Str), a.length ≤ (wdsL l w cs a).length
  | [], a => Nat.le_refl _
  | c :: r, a => by
    rw [wdsL_cons]
    refine Nat.le_trans ?_ (wdsL_ge l w r _)
    rw [List.length_append]
    split
    · omega
    · rw [List.length_append]; omega
/-- a loop that puts words together -/
theorem lp_words {α : Type} {f : α → List Str → Option (List Str)} {t : Cd → α} {l : Int} {w : Str} (hw : Wd w) : ∀ (cs : List Cd) (a : List Str), (∀ c ∈ cs, ∀ a : List Str, (∀ y ∈ a, Wd y) → a.length + (brw l c).length ≤ 1000 → f (t c) a = some ((if a.isEmpty then a else a ++ [w]) ++ brw l c)) → (∀ y ∈ a, Wd y) → (∀ c ∈ cs, ∀ y ∈ wds c, Wd y) → (wdsL l w cs a).length ≤ 1000 → lp f (cs.map t) a = some (wdsL l w cs a)
  | [], a, _, _, _, _ => rfl
  | c :: r, a, h, ha, hc, hl => by
    rw [wdsL_cons] at hl ⊢
    have g := wdsL_ge l w r ((if a.isEmpty then a else a ++ [w]) ++ brw l c)
    have hb := brw_wd (l := l) (hc c List.mem_cons_self)
    have g2 : a.length + (brw l c).length ≤ 1000 := by
      refine Nat.le_trans ?_ (Nat.le_trans g hl)
      rw [List.length_append]
      split
      · omega
      · rw [List.length_append]; omega
    show bd (f (t c) a) _ = _
    rw [bd_of (h c List.mem_cons_self a ha g2)]
    refine lp_words hw r _ (fun c m => h c (List.mem_cons_of_mem _ m)) (fun y m => ?_) (fun c m => hc c (List.mem_cons_of_mem _ m)) hl
    rcases List.mem_append.mp m with m | m
    · split at m
      · exact ha y m
      · rcases List.mem_append.mp m with m | m
        · exact ha y m
        · cases List.mem_singleton.mp m; exact hw
    · exact hb y m
theorem wd_lst {a : List Str} (h : ∀ y ∈ a, Wd y) : D.ok (.lst (a.map D.str)) := (show Smp 1 (.lst (a.map D.str)) from .lst (smps_map fun x m => (h x m).1.smp)).ok
theorem nil_ok : D.ok (.lst (([] : List Str).map D.str)) := wd_lst (a := []) fun _ m => nomatch m
theorem sz {n : Nat} (h : n ≤ 1001) : n ≤ sizeLine := Nat.le_trans h (by show 1001 ≤ 16777216; decide)
theorem szl {n : Nat} (h : n ≤ 1001) : n < sizeLine := Nat.lt_of_le_of_lt h (by show 1001 < 16777216; decide)
open SX TL
theorem trS_ok {E R S : Type} {m : Option (Xr E R)} {p : E → Bool} {k : R → Option (Xr E S)} {y : Xr E S} {r : R} (h : m = some (.ok r)) : trS m p k y = k r := by rw [h]; rfl
theorem trS_er {E R S : Type} {m : Option (Xr E R)} {p : E → Bool} {k : R → Option (Xr E S)} {y : Xr E S} {e : E} (h : m = some (.er e)) (q : p e = true) : trS m p k y = some y := by rw [h]; show (if p e then some y else none) = _; rw [if_pos q]
theorem str_is (t : Str) : isiD "str" (.str t) = some true := (by decide +kernel : kitB "str" "str" = some true)
theorem bdx_of {E R S : Type} {m : Option (Xr E R)} {k : R → Option (Xr E S)} {r : R} (h : m = some (.ok r)) : bdx m k = k r := by rw [h]; rfl
theorem bdx_er {E R S : Type} {m : Option (Xr E R)} {k : R → Option (Xr E S)} {e : E} (h : m = some (.er e)) : bdx m k = some (.er e) := by rw [h]; rfl
theorem bdo_of {E R S V W : Type} {m : Option (Xr E R)} {k : R → Option (Ou V W (Xr E S))} {r : R} (h : m = some (.ok r)) : bdo m k = k r := by rw [h]; rfl
theorem bdo_er {E R S V W : Type} {m : Option (Xr E R)} {k : R → Option (Ou V W (Xr E S))} {e : E} (h : m = some (.er e)) : bdo m k = some (.rt (.er e)) := by rw [h]; rfl
theorem figs_L : (("0123456789") : Str).cps.toList = [48, 49, 50, 51, 52, 53, 54, 55, 56, 57] := by decide +kernel
theorem fig_mem {c : Nat} (h : 48 ≤ c ∧ c ≤ 57) : decide (c ∈ (("0123456789") : Str).cps.toList) = true := by
  rw [figs_L]
  simp
  omega
theorem numL_head : ∀ n : Nat, 1 ≤ n → ∀ c, (numL n)[0]? = some c → c ≠ 48 := fun n => by
  induction n using Nat.strongRecOn with
  | _ n ih =>
    intro h1 c hc
    by_cases h : n < 10
    · rw [numL_lt h] at hc
      simp at hc
      omega
    · rw [numL_step (by omega)] at hc
      have hl : 0 < (numL (n / 10)).length := List.length_pos_iff.mpr (numL_ne _)
      rw [List.getElem?_append_left hl] at hc
      exact ih (n / 10) (by omega) (by omega) c hc
theorem figs_ok {l : List Nat} (h : NumText.AllDigits l) : M_all_figures (S l) = some true := by
  unfold M_all_figures
  refine Ok.eq (ok_bd (ok_lpN (Q := fun o => o = .nx ()) (fun _ _ => True) trivial (fun i x v hx _ => ?_) fun v _ => rfl) fun o ho => by subst ho; exact ok_some rfl)
  exact ok_f (by rw [fig_mem (h x (List.mem_of_getElem? (show l[i]? = some x from hx)))]; rfl) (ok_some ⟨(), .inl rfl, trivial⟩)
theorem noZero {n : Nat} {c : Nat} (hc : (numL n)[0]? = some c) (h : (sg1 c == ("0" : Str)) = true) : (numL n).length = 1 := by
  have hc48 : c = 48 := by
    have q := eq_of_beq h
    have z : (("0") : Str) = S [48] := by decide +kernel
    rw [z] at q
    have := S_inj (a := [c]) (b := [48]) q
    simpa using this
  have hn0 : n = 0 := Classical.byContradiction fun hne => numL_head n (by omega) c hc hc48
  rw [hn0, numL_lt (by decide)]
  rfl
theorem read_ok {n : Nat} (h : n < 10 ^ 12) : M_read_cents (amtS n) = some (.ok (n : Int)) := by
  have hw : n / 100 < 10 ^ 10 := by omega
  have wl := numL_short (n := n / 100) (k := 10) (by decide) hw
  have wl2 : (S (numL (n / 100))).length = (numL (n / 100)).length := S_len _
  have w0 : 0 < (numL (n / 100)).length := List.length_pos_iff.mpr (numL_ne _)
  have wd := numL_digits (n / 100)
  have pd : NumText.AllDigits [48 + n / 10 % 10, 48 + n % 10] := fun c hc => by
    simp at hc
    omega
  have al : (amtS n).length ≤ 63 := (amtS_sm (n := n) (by omega)).1
  have pe : Txt.partition (amtS n) (".") = (S (numL (n / 100)), S [46], S [48 + n / 10 % 10, 48 + n % 10]) := by
    rw [dot_S]
    exact partition_some (by simp) (par_head _ (numL_free (by decide)))
  have l2 : (S [48 + n / 10 % 10, 48 + n % 10]).length = 2 := S_len _
  unfold M_read_cents
  rw [pe]
  refine Ok.eq (ok_f rfl (ok_gd (sz (by omega)) ?_))
  refine ok_bd (Q := fun v => v = false) (ok_f (by show (S [46] == ("" : Str)) = false; decide +kernel) (ok_gd (sz (by show (S [48 + n / 10 % 10, 48 + n % 10]).length ≤ _; omega)) (ok_bd (Q := fun v => v = false) (ok_f (by show (!(((S [48 + n / 10 % 10, 48 + n % 10]).length : Int) == 2)) = false; rw [l2]; rfl) ?_) fun v hv => ok_some hv))) fun v hv => ?_
  · show Ok (bd (M_all_figures (S [48 + n / 10 % 10, 48 + n % 10])) _) _
    rw [bd_of (figs_ok pd)]
    exact ok_some rfl
  subst hv
  refine ok_f rfl (ok_gd (sz (by show (S (numL (n / 100))).length ≤ _; omega)) ?_)
  refine ok_bd (Q := fun v => v = false) (ok_f (decide_eq_false (by show ¬ (((S (numL (n / 100))).length : Int) < 1); omega)) (ok_gd (sz (by show (S (numL (n / 100))).length ≤ _; omega)) (ok_bd (Q := fun v => v = false) (ok_f (decide_eq_false (by show ¬ (10 < ((S (numL (n / 100))).length : Int)); omega)) ?_) fun v hv => ok_some hv))) fun v hv => ?_
  · show Ok (bd (M_all_figures (S (numL (n / 100)))) _) _
    rw [bd_of (figs_ok wd)]
    exact ok_some rfl
  subst hv
  refine ok_f rfl ?_
  obtain ⟨c, hc⟩ : ∃ c, (numL (n / 100))[0]? = some c := ⟨_, List.getElem?_eq_getElem w0⟩
  rw [bd_of (show L2.atI (S (numL (n / 100))).cps.toList 0 = some c from atI_nat (j := 0) hc)]
  refine ok_gd (sz (by show (S (numL (n / 100))).length ≤ _; omega)) (ok_bd (Q := fun v => v = false) (ok_cond (fun e => ok_gd (sz (by show (S (numL (n / 100))).length ≤ _; omega)) (ok_some (decide_eq_false ?_))) fun _ => ok_some rfl) fun v hv => ?_)
  · have := noZero hc e
    show ¬ (1 < ((S (numL (n / 100))).length : Int))
    omega
  subst hv
  have i1 : intText? (S (numL (n / 100))) = some ((n / 100 : Nat) : Int) := by
    rw [int_S (by rw [List.all_eq_true]; intro c hc; have := wd c hc; simp; omega) (numL_ne _) (by omega), numL_val]
  have i2 : intText? (S [48 + n / 10 % 10, 48 + n % 10]) = some ((n % 100 : Nat) : Int) := by
    rw [int_S (by rw [List.all_eq_true]; intro c hc; have := pd c hc; simp; omega) (by simp) (by simp)]
    have e : NumText.digitsVal [48 + n / 10 % 10, 48 + n % 10] = n % 100 := by
      show (0 * 10 + (48 + n / 10 % 10 - 48)) * 10 + (48 + n % 10 - 48) = _
      omega
    rw [e]
  refine ok_f rfl ?_
  show Ok (bd (intText? (S (numL (n / 100)))) _) _
  rw [bd_of i1]
  refine ok_gd (by show (S (numL (n / 100))).length ≤ 640; omega) ?_
  show Ok (bd (intText? (S [48 + n / 10 % 10, 48 + n % 10])) _) _
  rw [bd_of i2]
  exact ok_gd (by show (S [48 + n / 10 % 10, 48 + n % 10]).length ≤ 640; omega) (ok_some (congrArg Xr.ok (by omega)))
theorem isday_ok {n : Int} (h : 0 ≤ n ∧ n ≤ 1000000) : M_is_day n = some true := by
  unfold M_is_day
  have hw : M_is_whole (.int n) = some true := by
    unfold M_is_whole
    rw [bd_of (show isiD "int" (.int n) = some true from (by decide +kernel : kitB "int" "int" = some true))]
    refine Ok.eq (ok_bd (Q := fun v => v = true) (ok_t rfl ?_) fun v hv => ok_some hv)
    rw [bd_of (show isiD "bool" (.int n) = some false from (by decide +kernel : kitB "int" "bool" = some false))]
    exact ok_some rfl
  rw [bd_of hw, decide_eq_true h.1, decide_eq_true h.2]
  rfl
theorem isname_ok {x : Str} (h : Lc x 8 ∧ 1 ≤ x.length) : M_is_name x = some true := by
  have l := h.1.1
  unfold M_is_name
  refine Ok.eq (ok_f rfl (ok_gd (sz (by omega)) (ok_bd (Q := fun v => v = false) (ok_f (decide_eq_false (by omega)) (ok_gd (sz (by omega)) (ok_some (decide_eq_false (by omega))))) fun v hv => ok_f hv ?_)))
  refine ok_bd (ok_lpN (Q := fun o => o = .nx ()) (fun _ _ => True) trivial (fun i c v hc _ => ?_) fun v _ => rfl) fun o ho => by subst ho; exact ok_some rfl
  have hm : c ∈ ABC.cps.toList := by
    have z := List.all_eq_true.mp h.1.2 c (List.mem_of_getElem? hc)
    have z : 97 ≤ c ∧ c ≤ 122 := by simpa using z
    have q : ∀ k, k < 26 → 97 + k ∈ ABC.cps.toList := by decide +kernel
    have := q (c - 97) (by omega)
    rwa [show 97 + (c - 97) = c by omega] at this
  exact ok_f (by rw [decide_eq_true hm]; rfl) (ok_some ⟨(), .inl rfl, trivial⟩)
theorem at_mid {α : Type} (pre : List α) (x : α) (post : List α) : L2.atI (pre ++ (x :: post)) (pre.length : Int) = some x := atI_nat (by rw [List.getElem?_append_right (Nat.le_refl _), Nat.sub_self]; rfl)
theorem at_mid1 {α : Type} (pre : List α) (x y : α) (post : List α) : L2.atI (pre ++ (x :: y :: post)) ((pre.length : Int) + 1) = some y := by
  have := at_mid (pre ++ [x]) y post
  rw [List.append_assoc, List.length_append] at this
  exact this
theorem at_mid2 {α : Type} (pre : List α) (x y z : α) (post : List α) : L2.atI (pre ++ (x :: y :: z :: post)) ((pre.length : Int) + 2) = some z := by
  have := at_mid (pre ++ [x, y]) z post
  rw [List.append_assoc, List.length_append] at this
  exact this
theorem not_end {α : Type} (pre post : List α) (k : Int) (h : k < post.length) : (((pre.length : Int) + k) == ((pre ++ post).length : Int)) = false := by
  rw [beq_eq_false_iff_ne, List.length_append]
  omega
theorem name_at_ok {W : List Str} {i : Int} {x : Str} (e : L2.atI W i = some x) (ne : (i == (W.length : Int)) = false) (h : Lc x 8 ∧ 1 ≤ x.length) : M_name_at W i = some (.ok x) := by
  unfold M_name_at
  refine Ok.eq (ok_bd (Q := fun v => v = false) (ok_f ne ?_) fun v hv => ok_f hv ?_)
  · rw [bd_of e, bd_of (isname_ok h)]; exact ok_some rfl
  · rw [bd_of e]; exact ok_some rfl
theorem cents_at_ok {W : List Str} {i : Int} {n : Nat} (e : L2.atI W i = some (amtS n)) (ne : (i == (W.length : Int)) = false) (h : n < 10 ^ 12) : M_cents_at W i = some (.ok (n : Int)) := by
  unfold M_cents_at
  refine Ok.eq (ok_f ne ?_)
  rw [bd_of e, trS_ok (read_ok h)]
  exact ok_some rfl
theorem day_at_ok {W : List Str} {i : Int} {n : Nat} (e : L2.atI W i = some (strI (n : Int))) (ne : (i == (W.length : Int)) = false) (h : n ≤ 1000000) : M_day_at W i = some (.ok (n : Int)) := by
  rw [strI_n] at e
  have ll := numL_len (n := n) (k := 7) (by decide) (by omega)
  have l0 : 0 < (numL n).length := List.length_pos_iff.mpr (numL_ne _)
  have sl : (S (numL n)).length = (numL n).length := S_len _
  have z : (S (numL n)).length ≤ sizeLine := sz (by omega)
  unfold M_day_at
  refine Ok.eq (ok_f ne ?_)
  rw [bd_of e]
  obtain ⟨c, hc⟩ : ∃ c, (numL n)[0]? = some c := ⟨_, List.getElem?_eq_getElem l0⟩
  refine ok_gd z (ok_bd (Q := fun v => v = false) (ok_f (decide_eq_false (by omega)) (ok_gd z (ok_bd (Q := fun v => v = false) (ok_f (decide_eq_false (by omega)) (ok_gd z (ok_bd (Q := fun v => v = false) (ok_cond (fun hl => ?_) fun _ => ok_some rfl) fun v hv => ok_some hv))) fun v hv => ok_some hv))) fun v hv => ok_f hv ?_)
  · rw [bd_of (show L2.atI (S (numL n)).cps.toList 0 = some c from atI_nat (j := 0) hc)]
    refine ok_gd z (ok_some ?_)
    rw [Bool.eq_false_iff]
    intro q
    have := noZero hc q
    have := of_decide_eq_true hl
    omega
  · refine ok_bd (ok_lpN (Q := fun o => o = .nx ()) (fun _ _ => True) trivial (fun i x v hx _ => ?_) fun v _ => rfl) fun o ho => ?_
    · exact ok_f (by rw [fig_mem (numL_digits n x (List.mem_of_getElem? (show (numL n)[i]? = some x from hx)))]; rfl) (ok_some ⟨(), .inl rfl, trivial⟩)
    · subst ho
      have i1 : intText? (S (numL n)) = some (n : Int) := by
        rw [int_S (by rw [List.all_eq_true]; intro c hc; have := numL_digits n c hc; simp; omega) (numL_ne _) (by omega), numL_val]
      show Ok (bd (intText? (S (numL n))) _) _
      rw [bd_of i1]
      refine ok_gd (by omega) ?_
      rw [bd_of (isday_ok (by omega))]
      refine ok_f rfl ?_
      rw [bd_of i1]
      exact ok_gd (by omega) (ok_some rfl)
theorem atom_ok {c : Cd} (g : Gd c) (h : isAtom c = true) (pre post : List Str) : M_atom_at (pre ++ (wds c ++ post)) (pre.length : Int) = some (.ok (c, (pre.length : Int) + ((wds c).length : Int))) := by
  unfold M_atom_at
  cases g with
  | plain u =>
    rw [bd_of (show L2.atI (pre ++ (wds (.plain u) ++ post)) (pre.length : Int) = some "always" from at_mid pre _ post)]
    exact Ok.eq (ok_t (by decide +kernel) (ok_some rfl))
  | @cause x g =>
    rw [bd_of (show L2.atI (pre ++ (wds (.cause x) ++ post)) (pre.length : Int) = some "cause" from at_mid pre _ _)]
    refine Ok.eq (ok_f (by decide +kernel) (ok_t (by decide +kernel) ?_))
    rw [bdx_of (name_at_ok (W := pre ++ (wds (.cause x) ++ post)) (at_mid1 pre _ x post) (not_end pre (wds (.cause x) ++ post) 1 (by show (1 : Int) < ((post.length + 1 + 1 : Nat) : Int); omega)) g)]
    exact ok_some rfl
  | @thing x g =>
    rw [bd_of (show L2.atI (pre ++ (wds (.thing x) ++ post)) (pre.length : Int) = some "thing" from at_mid pre _ _)]
    refine Ok.eq (ok_f (by decide +kernel) (ok_f (by decide +kernel) (ok_t (by decide +kernel) ?_)))
    rw [bdx_of (name_at_ok (W := pre ++ (wds (.thing x) ++ post)) (at_mid1 pre _ x post) (not_end pre (wds (.thing x) ++ post) 1 (by show (1 : Int) < ((post.length + 1 + 1 : Nat) : Int); omega)) g)]
    exact ok_some rfl
  | over v g =>
    obtain ⟨n, rfl⟩ := Int.eq_ofNat_of_zero_le g.1
    rw [bd_of (show L2.atI (pre ++ (wds (.over (n : Int)) ++ post)) (pre.length : Int) = some "over" from at_mid pre _ _)]
    refine Ok.eq (ok_f (by decide +kernel) (ok_f (by decide +kernel) (ok_f (by decide +kernel) (ok_t (by decide +kernel) ?_))))
    rw [bdx_of (cents_at_ok (W := pre ++ (wds (.over (n : Int)) ++ post)) (n := n) (at_mid1 pre _ (amtS n) post) (not_end pre (wds (.over (n : Int)) ++ post) 1 (by show (1 : Int) < ((post.length + 1 + 1 : Nat) : Int); omega)) (by omega))]
    exact ok_some rfl
  | days p g =>
    obtain ⟨a, ea⟩ := Int.eq_ofNat_of_zero_le g.1
    obtain ⟨b, eb⟩ := Int.eq_ofNat_of_zero_le (show 0 ≤ p.2 by omega)
    obtain ⟨p1, p2⟩ := p
    have ea : p1 = (a : Int) := ea
    have eb : p2 = (b : Int) := eb
    subst ea eb
    have g : 0 ≤ (a : Int) ∧ (a : Int) ≤ (b : Int) ∧ (b : Int) ≤ 1000000 := g
    rw [bd_of (show L2.atI (pre ++ (wds (.days ((a : Int), (b : Int))) ++ post)) (pre.length : Int) = some "days" from at_mid pre _ _)]
    refine Ok.eq (ok_f (by decide +kernel) (ok_f (by decide +kernel) (ok_f (by decide +kernel) (ok_f (by decide +kernel) (ok_f (by decide +kernel) ?_)))))
    rw [bdx_of (day_at_ok (W := pre ++ (wds (.days ((a : Int), (b : Int))) ++ post)) (n := a) (at_mid1 pre _ (strI (a : Int)) _) (not_end pre (wds (.days ((a : Int), (b : Int))) ++ post) 1 (by show (1 : Int) < ((post.length + 1 + 1 + 1 : Nat) : Int); omega)) (by omega))]
    rw [bdx_of (day_at_ok (W := pre ++ (wds (.days ((a : Int), (b : Int))) ++ post)) (n := b) (at_mid2 pre _ _ (strI (b : Int)) _) (not_end pre (wds (.days ((a : Int), (b : Int))) ++ post) 2 (by show (2 : Int) < ((post.length + 1 + 1 + 1 : Nat) : Int); omega)) (by omega))]
    exact ok_f (decide_eq_false (by omega)) (ok_some rfl)
  | notOf g => cases h
  | allOf l g => cases h
  | someOf l g => cases h
inductive Tx : Cd → Int → List Str → Int → Prop where
  | atom {c : Cd} (g : Gd c) (h : isAtom c = true) : Tx c 3 (wds c) 0
  | not {c : Cd} {ws : List Str} {d : Int} (h : Tx c 3 ws d) : Tx (.notOf c) 3 (("not" : Str) :: ws) (d + 1)
  | par {c : Cd} {r : Int} {ws : List Str} {d : Int} (h : Tx c r ws d) : Tx c 3 (("(" : Str) :: (ws ++ [(")" : Str)])) (d + 1)
  | all {ps : List (Cd × Int × List Str)} {d : Int} (l : 2 ≤ ps.length ∧ ps.length ≤ 8) (k : ∀ p ∈ ps, p.2.1 = 3) (h : ∀ p ∈ ps, Tx p.1 p.2.1 p.2.2 d) : Tx (.allOf (ps.map (·.1))) 2 (jn "and" (ps.map (·.2.2))) d
  | some {ps : List (Cd × Int × List Str)} {d : Int} (l : 2 ≤ ps.length ∧ ps.length ≤ 8) (k : ∀ p ∈ ps, 2 ≤ p.2.1) (h : ∀ p ∈ ps, Tx p.1 p.2.1 p.2.2 d) : Tx (.someOf (ps.map (·.1))) 1 (jn "or" (ps.map (·.2.2))) d
  | up {c : Cd} {r : Int} {ws : List Str} {d e : Int} (h : Tx c r ws d) (l : d ≤ e) : Tx c r ws e
theorem Tx.d0 {c : Cd} {r : Int} {ws : List Str} {d : Int} (h : Tx c r ws d) : 0 ≤ d ∧ 1 ≤ r ∧ r ≤ 3 := by
  induction h with
  | atom g h => exact ⟨Int.le_refl _, by decide, by decide⟩
  | not h ih => exact ⟨by omega, by decide, by decide⟩
  | par h ih => exact ⟨by omega, by decide, by decide⟩
  | @all ps d l k h ih =>
    cases ps with
    | nil => exact absurd l.1 (by decide)
    | cons p r => exact ⟨(ih p List.mem_cons_self).1, by decide, by decide⟩
  | @some ps d l k h ih =>
    cases ps with
    | nil => exact absurd l.1 (by decide)
    | cons p r => exact ⟨(ih p List.mem_cons_self).1, by decide, by decide⟩
  | up h l ih => exact ⟨by omega, ih.2⟩
def Ct (W : List Str) (w : Str) : Cd × Int × List Cd → Option Bool := fun (p2 : Cd × Int × (List Cd)) => (bd (cond (decide (p2.2.1 < (W.length : Int))) (bd (L2.atI W p2.2.1) fun v4 => some ((v4 == w))) (some false)) fun v5 => some v5 : Option Bool)
noncomputable def Bt (W : List Str) (deep : Int) (g : List Str × Int × Int → Option (Xr Xc (Cd × Int))) : Cd × Int × List Cd → Option (Ou (Cd × Int × (List Cd)) (Cd × Int × (List Cd)) (Xr Xc (Cd × Int))) := fun (p2 : Cd × Int × (List Cd)) => (cond (((p2.2.2.length : Int) == 8)) (some (.rt (.er (.NoWords (p2.2.1 + 1))))) <|
    bdo (g (W, (p2.2.1 + 1), deep)) fun v7 =>
    gd (p2.2.2.length < sizeLine) <|
    lt (p2.2.2 ++ [v7.1]) fun parts_1 =>
    some (.nx (v7.1, v7.2, parts_1)) : Option (Ou (Cd × Int × (List Cd)) (Cd × Int × (List Cd)) (Xr Xc (Cd × Int))))
theorem ct_hit {pre post : List Str} {w : Str} {c : Cd} {ds : List Cd} : Ct (pre ++ (w :: post)) w (c, (pre.length : Int), ds) = some true := by
  unfold Ct
  show bd (cond (decide ((pre.length : Int) < _)) (bd (L2.atI _ (pre.length : Int)) _) _) _ = _
  rw [decide_eq_true (by rw [List.length_append, List.length_cons]; omega), at_mid]
  show some (w == w) = _
  rw [beq_self_eq_true]
theorem ct_miss {pre post : List Str} {w : Str} {c : Cd} {ds : List Cd} (h : post.head? ≠ some w) : Ct (pre ++ post) w (c, (pre.length : Int), ds) = some false := by
  unfold Ct
  show bd (cond (decide ((pre.length : Int) < _)) (bd (L2.atI _ (pre.length : Int)) _) _) _ = _
  cases post with
  | nil => rw [decide_eq_false (by rw [List.append_nil]; omega)]; rfl
  | cons x r =>
    rw [decide_eq_true (by rw [List.length_append, List.length_cons]; omega), at_mid]
    show some (x == w) = _
    rw [beq_eq_false_iff_ne.mpr fun z => h (by rw [z]; rfl)]
theorem parts_loop {w : Str} {g : List Str × Int × Int → Option (Xr Xc (Cd × Int))} {deep : Int} : ∀ (ps : List (Cd × List Str)) (W pre post : List Str) (c0 : Cd) (done : List Cd), W = pre ++ (tail w (ps.map (·.2)) ++ post) → post.head? ≠ some w → done.length + ps.length ≤ 8 →
    (∀ p ∈ ps, ∀ pre' post' : List Str, W = pre' ++ (p.2 ++ post') → (post'.head? = some w ∨ post'.head? = post.head?) → g (W, (pre'.length : Int), deep) = some (.ok (p.1, (pre'.length : Int) + (p.2.length : Int)))) →
    ∃ c1, wl (Ct W w) (Bt W deep g) (c0, (pre.length : Int), done) = some (.nx (c1, (pre.length : Int) + ((tail w (ps.map (·.2))).length : Int), done ++ ps.map (·.1))) := by
  intro ps W pre post c0 done hW hp hl hg
  suffices H : ∀ (ps : List (Cd × List Str)) (pre : List Str) (c0 : Cd) (done : List Cd), W = pre ++ (tail w (ps.map (·.2)) ++ post) → done.length + ps.length ≤ 8 →
      (∀ p ∈ ps, ∀ pre' post' : List Str, W = pre' ++ (p.2 ++ post') → (post'.head? = some w ∨ post'.head? = post.head?) → g (W, (pre'.length : Int), deep) = some (.ok (p.1, (pre'.length : Int) + (p.2.length : Int)))) →
      ∃ c1 n, wlN (Ct W w) (Bt W deep g) n (c0, (pre.length : Int), done) = some (.nx (c1, (pre.length : Int) + ((tail w (ps.map (·.2))).length : Int), done ++ ps.map (·.1))) by
    obtain ⟨c1, n, e⟩ := H ps pre c0 done hW hl hg
    exact ⟨c1, wl_of e⟩
  clear hW hl hg ps pre c0 done
  intro ps
  induction ps with
  | nil =>
    intro pre c0 done hW _ _
    refine ⟨c0, 1, ?_⟩
    have hW : W = pre ++ post := hW
    show bd (Ct W w _) _ = _
    rw [hW, bd_of (ct_miss hp)]
    show some (Ou.nx (c0, (pre.length : Int), done)) = some (Ou.nx (c0, (pre.length : Int) + ((0 : Nat) : Int), done ++ []))
    rw [List.append_nil, show (pre.length : Int) + ((0 : Nat) : Int) = (pre.length : Int) by omega]
  | cons p r ih =>
    intro pre c0 done hW hl hg
    have hW1 : W = pre ++ (w :: (p.2 ++ (tail w (r.map (·.2)) ++ post))) := by
      rw [hW]
      show pre ++ ((w :: (p.2 ++ tail w (r.map (·.2)))) ++ post) = _
      rw [List.cons_append, List.append_assoc]
    have hW2 : W = (pre ++ [w]) ++ (p.2 ++ (tail w (r.map (·.2)) ++ post)) := by rw [hW1, List.append_assoc]; rfl
    have hW3 : W = (pre ++ [w] ++ p.2) ++ (tail w (r.map (·.2)) ++ post) := by rw [hW2]; simp only [List.append_assoc]
    rw [List.length_cons] at hl
    have e := hg p List.mem_cons_self (pre ++ [w]) (tail w (r.map (·.2)) ++ post) hW2 (by
      cases r with
      | nil => exact .inr rfl
      | cons q r => exact .inl rfl)
    obtain ⟨c1, n, en⟩ := ih (pre ++ [w] ++ p.2) p.1 (done ++ [p.1]) hW3 (by rw [List.length_append]; show done.length + 1 + _ ≤ 8; omega) fun q m => hg q (List.mem_cons_of_mem _ m)
    refine ⟨c1, n + 1, ?_⟩
    have hc : Ct W w (c0, (pre.length : Int), done) = some true := by rw [hW1]; exact ct_hit
    have hb : Bt W deep g (c0, (pre.length : Int), done) = some (.nx (p.1, ((pre ++ [w] ++ p.2).length : Int), done ++ [p.1])) := by
      unfold Bt
      show cond ((done.length : Int) == 8) _ _ = _
      rw [beq_eq_false_iff_ne.mpr (show (done.length : Int) ≠ 8 by omega)]
      show bdo (g (W, (pre.length : Int) + 1, deep)) _ = _
      have e' : g (W, (pre.length : Int) + 1, deep) = some (.ok (p.1, ((pre ++ [w] ++ p.2).length : Int))) := by
        rw [List.length_append] at e
        rw [show (pre.length : Int) + 1 = ((pre.length + [w].length : Nat) : Int) from rfl, e, List.length_append, List.length_append]
        congr 3
      rw [bdo_of e']
      show gd (done.length < sizeLine) _ = _
      rw [gd_pos (szl (by omega))]
      rfl
    show bd (Ct W w _) _ = _
    rw [bd_of hc]
    show bd (Bt W deep g _) _ = _
    rw [bd_of hb]
    show wlN _ _ n _ = _
    rw [en]
    congr 2
    show (c1, _, _) = (c1, _, _)
    congr 2
    · show _ = (pre.length : Int) + (((w :: (p.2 ++ tail w (r.map (·.2)))).length : Nat) : Int)
      rw [List.length_cons, List.length_append, List.length_append, List.length_append]
      show ((pre.length + 1 + p.2.length : Nat) : Int) + _ = _
      omega
    · rw [List.append_assoc]; rfl
/-- one part -/
theorem all_single {f : Nat} {W pre post : List Str} {ws : List Str} {c : Cd} {deep : Int} (hW : W = pre ++ (ws ++ post)) (hp : post.head? ≠ some "and") (h : (Kn_parse f).2.2 (W, (pre.length : Int), deep) = some (.ok (c, (pre.length : Int) + (ws.length : Int)))) : (Kn_parse (f + 1)).2.1 (W, (pre.length : Int), deep) = some (.ok (c, (pre.length : Int) + (ws.length : Int))) := by
  show M_all_at (Kn_parse f) W (pre.length : Int) deep = _
  have e0 : wl (Ct W "and") (Bt W deep (Kn_parse f).2.2) (c, (pre.length : Int) + (ws.length : Int), [c]) = some (.nx (c, (pre.length : Int) + (ws.length : Int), [c])) := by
    refine wl_of (n := 1) ?_
    show bd (Ct W "and" _) _ = _
    have hc : Ct W "and" (c, (pre.length : Int) + (ws.length : Int), [c]) = some false := by
      rw [hW, ← List.append_assoc, show (pre.length : Int) + (ws.length : Int) = ((pre ++ ws).length : Int) from by rw [List.length_append]; rfl]
      exact ct_miss hp
    rw [bd_of hc]
    rfl
  unfold M_all_at
  rw [bdx_of h]
  show bd (wl (Ct W "and") (Bt W deep (Kn_parse f).2.2) (c, (pre.length : Int) + (ws.length : Int), [c])) _ = _
  rw [bd_of e0]
  rfl
theorem some_single {f : Nat} {W pre post : List Str} {ws : List Str} {c : Cd} {deep : Int} (hW : W = pre ++ (ws ++ post)) (hp : post.head? ≠ some "or") (h : (Kn_parse f).2.1 (W, (pre.length : Int), deep) = some (.ok (c, (pre.length : Int) + (ws.length : Int)))) : (Kn_parse (f + 1)).1 (W, (pre.length : Int), deep) = some (.ok (c, (pre.length : Int) + (ws.length : Int))) := by
  show M_some_at (Kn_parse f) W (pre.length : Int) deep = _
  have e0 : wl (Ct W "or") (Bt W deep (Kn_parse f).2.1) (c, (pre.length : Int) + (ws.length : Int), [c]) = some (.nx (c, (pre.length : Int) + (ws.length : Int), [c])) := by
    refine wl_of (n := 1) ?_
    show bd (Ct W "or" _) _ = _
    have hc : Ct W "or" (c, (pre.length : Int) + (ws.length : Int), [c]) = some false := by
      rw [hW, ← List.append_assoc, show (pre.length : Int) + (ws.length : Int) = ((pre ++ ws).length : Int) from by rw [List.length_append]; rfl]
      exact ct_miss hp
    rw [bd_of hc]
    rfl
  unfold M_some_at
  rw [bdx_of h]
  show bd (wl (Ct W "or") (Bt W deep (Kn_parse f).2.1) (c, (pre.length : Int) + (ws.length : Int), [c])) _ = _
  rw [bd_of e0]
  rfl
theorem parse {c : Cd} {r : Int} {ws : List Str} {d : Int} (h : Tx c r ws d) : ∀ (pre post : List Str) (deep : Int) (f : Nat), deep + d ≤ 6 →
    (r = 3 → 3 * d.toNat + 1 ≤ f → (Kn_parse f).2.2 (pre ++ (ws ++ post), (pre.length : Int), deep) = some (.ok (c, (pre.length : Int) + (ws.length : Int)))) ∧
    (2 ≤ r → post.head? ≠ some "and" → 3 * d.toNat + 2 ≤ f → (Kn_parse f).2.1 (pre ++ (ws ++ post), (pre.length : Int), deep) = some (.ok (c, (pre.length : Int) + (ws.length : Int)))) ∧
    (1 ≤ r → post.head? ≠ some "and" → post.head? ≠ some "or" → 3 * d.toNat + 3 ≤ f → (Kn_parse f).1 (pre ++ (ws ++ post), (pre.length : Int), deep) = some (.ok (c, (pre.length : Int) + (ws.length : Int)))) := by
  -- from pieces to rows
  have up3 : ∀ {c : Cd} {ws : List Str} {d : Int}, (∀ (pre post : List Str) (deep : Int) (f : Nat), deep + d ≤ 6 → 3 * d.toNat + 1 ≤ f → (Kn_parse f).2.2 (pre ++ (ws ++ post), (pre.length : Int), deep) = some (.ok (c, (pre.length : Int) + (ws.length : Int)))) → ∀ (pre post : List Str) (deep : Int) (f : Nat), deep + d ≤ 6 →
      ((3 : Int) = 3 → 3 * d.toNat + 1 ≤ f → (Kn_parse f).2.2 (pre ++ (ws ++ post), (pre.length : Int), deep) = some (.ok (c, (pre.length : Int) + (ws.length : Int)))) ∧
      ((2 : Int) ≤ 3 → post.head? ≠ some "and" → 3 * d.toNat + 2 ≤ f → (Kn_parse f).2.1 (pre ++ (ws ++ post), (pre.length : Int), deep) = some (.ok (c, (pre.length : Int) + (ws.length : Int)))) ∧
      ((1 : Int) ≤ 3 → post.head? ≠ some "and" → post.head? ≠ some "or" → 3 * d.toNat + 3 ≤ f → (Kn_parse f).1 (pre ++ (ws ++ post), (pre.length : Int), deep) = some (.ok (c, (pre.length : Int) + (ws.length : Int)))) := by
    intro c ws d H pre post deep f hd
    have h2 : ∀ f, post.head? ≠ some "and" → 3 * d.toNat + 2 ≤ f → (Kn_parse f).2.1 (pre ++ (ws ++ post), (pre.length : Int), deep) = some (.ok (c, (pre.length : Int) + (ws.length : Int))) := fun f ha hf => by
      obtain ⟨k, rfl⟩ : ∃ k, f = k + 1 := ⟨f - 1, by omega⟩
      exact all_single rfl ha (H pre post deep k hd (by omega))
    refine ⟨fun _ hf => H pre post deep f hd hf, fun _ ha hf => h2 f ha hf, fun _ ha ho hf => ?_⟩
    obtain ⟨k, rfl⟩ : ∃ k, f = k + 1 := ⟨f - 1, by omega⟩
    exact some_single rfl ho (h2 k ha (by omega))
  have nw : (("not" : Str) == ("not" : Str)) = true := by decide +kernel
  have pn : (("(" : Str) == ("not" : Str)) = false := by decide +kernel
  have pw : (("(" : Str) == ("(" : Str)) = true := by decide +kernel
  have cw : ((")" : Str) == (")" : Str)) = true := by decide +kernel
  induction h with
  | @atom c g h =>
    refine up3 fun pre post deep f hd hf => ?_
    obtain ⟨k, rfl⟩ : ∃ k, f = k + 1 := ⟨f - 1, by omega⟩
    show M_piece_at (Kn_parse k) (pre ++ (wds c ++ post)) (pre.length : Int) deep = _
    obtain ⟨x, r, ex, hx1, hx2⟩ : ∃ x r, wds c = x :: r ∧ (x == ("not" : Str)) = false ∧ (x == ("(" : Str)) = false := by
      cases c with
      | plain u => exact ⟨"always", _, rfl, by decide +kernel, by decide +kernel⟩
      | cause u => exact ⟨"cause", _, rfl, by decide +kernel, by decide +kernel⟩
      | thing u => exact ⟨"thing", _, rfl, by decide +kernel, by decide +kernel⟩
      | days u => exact ⟨"days", _, rfl, by decide +kernel, by decide +kernel⟩
      | over u => exact ⟨"over", _, rfl, by decide +kernel, by decide +kernel⟩
      | notOf u => cases h
      | allOf u => cases h
      | someOf u => cases h
    have ea : L2.atI (pre ++ (wds c ++ post)) (pre.length : Int) = some x := by rw [ex]; exact at_mid pre x _
    unfold M_piece_at
    refine Ok.eq (ok_f ?_ ?_)
    · have := not_end pre (wds c ++ post) 0 (by rw [ex, List.length_append, List.length_cons]; omega)
      rwa [Int.add_zero] at this
    · rw [bd_of ea]
      refine ok_bd (Q := fun v => v = true) (ok_t (by rw [hx1]; rfl) ?_) fun v hv => ok_t hv ?_
      · rw [bd_of ea]; exact ok_some (by rw [hx2]; rfl)
      · rw [bdx_of (atom_ok g h pre post)]; exact ok_some rfl
  | @not c ws d h ih =>
    refine up3 fun pre post deep f hd hf => ?_
    have d0 := h.d0.1
    obtain ⟨k, rfl⟩ : ∃ k, f = k + 1 := ⟨f - 1, by omega⟩
    have e := (ih (pre ++ [("not" : Str)]) post (deep + 1) k (by omega)).1 rfl (by omega)
    rw [List.append_assoc, List.length_append] at e
    have e : (Kn_parse k).2.2 (pre ++ (("not" : Str) :: (ws ++ post)), (pre.length : Int) + 1, deep + 1) = some (.ok (c, (pre.length : Int) + 1 + (ws.length : Int))) := e
    show M_piece_at (Kn_parse k) (pre ++ (("not" : Str) :: (ws ++ post))) (pre.length : Int) deep = _
    have ea : L2.atI (pre ++ (("not" : Str) :: (ws ++ post))) (pre.length : Int) = some "not" := at_mid pre _ _
    unfold M_piece_at
    refine Ok.eq (ok_f ?_ ?_)
    · have := not_end pre (("not" : Str) :: (ws ++ post)) 0 (by rw [List.length_cons]; omega)
      rwa [Int.add_zero] at this
    · rw [bd_of ea]
      refine ok_bd (Q := fun v => v = false) (ok_f (by rw [nw]; rfl) (ok_some rfl)) fun v hv => ok_f hv (ok_f (by rw [beq_eq_false_iff_ne]; omega) ?_)
      rw [bd_of ea]
      refine ok_t nw ?_
      rw [bdx_of e]
      refine ok_some ?_
      show Xr.ok (Cd.notOf c, _) = Xr.ok (Cd.notOf c, _)
      rw [List.length_cons]
      congr 2
      omega
  | @par c r ws d h ih =>
    refine up3 fun pre post deep f hd hf => ?_
    have d0 := h.d0
    obtain ⟨k, rfl⟩ : ∃ k, f = k + 1 := ⟨f - 1, by omega⟩
    have e := (ih (pre ++ [("(" : Str)]) ((")" : Str) :: post) (deep + 1) k (by omega)).2.2 d0.2.1 (fun z => by cases z) (fun z => by cases z) (by omega)
    have eW : pre ++ [("(" : Str)] ++ (ws ++ ((")" : Str) :: post)) = pre ++ ((("(" : Str) :: (ws ++ [(")" : Str)])) ++ post) := by
      simp only [List.append_assoc, List.singleton_append, List.cons_append, List.nil_append]
    rw [eW, List.length_append] at e
    have e : (Kn_parse k).1 (pre ++ ((("(" : Str) :: (ws ++ [(")" : Str)])) ++ post), (pre.length : Int) + 1, deep + 1) = some (.ok (c, (pre.length : Int) + 1 + (ws.length : Int))) := e
    show M_piece_at (Kn_parse k) (pre ++ ((("(" : Str) :: (ws ++ [(")" : Str)])) ++ post)) (pre.length : Int) deep = _
    have ea : L2.atI (pre ++ ((("(" : Str) :: (ws ++ [(")" : Str)])) ++ post)) (pre.length : Int) = some "(" := at_mid pre _ _
    have ez : L2.atI (pre ++ ((("(" : Str) :: (ws ++ [(")" : Str)])) ++ post)) ((pre.length : Int) + 1 + (ws.length : Int)) = some ")" := by
      rw [← eW, ← List.append_assoc]
      have := at_mid (pre ++ [("(" : Str)] ++ ws) (")" : Str) post
      rw [List.length_append, List.length_append] at this
      exact this
    unfold M_piece_at
    refine Ok.eq (ok_f ?_ ?_)
    · have := not_end pre ((("(" : Str) :: (ws ++ [(")" : Str)])) ++ post) 0 (by rw [List.length_append, List.length_cons]; omega)
      rwa [Int.add_zero] at this
    · rw [bd_of ea]
      refine ok_bd (Q := fun v => v = false) (ok_t (by rw [pn]; rfl) ?_) fun v hv => ok_f hv (ok_f (by rw [beq_eq_false_iff_ne]; omega) ?_)
      · rw [bd_of ea]; exact ok_some (by rw [pw]; rfl)
      rw [bd_of ea]
      refine ok_f pn ?_
      rw [bdx_of e]
      refine ok_bd (Q := fun v => v = false) (ok_f ?_ ?_) fun v hv => ok_f hv (ok_some ?_)
      · show (((pre.length : Int) + 1 + (ws.length : Int)) == _) = false
        rw [beq_eq_false_iff_ne, List.length_append, List.length_append, List.length_cons, List.length_append]
        show _ ≠ ((pre.length + (ws.length + 1 + 1 + post.length) : Nat) : Int)
        omega
      · show Ok (bd (L2.atI _ ((pre.length : Int) + 1 + (ws.length : Int))) _) _
        rw [bd_of ez]
        exact ok_some (by rw [cw]; rfl)
      · show Xr.ok (c, _) = Xr.ok (c, _)
        rw [List.length_cons, List.length_append]
        congr 2
        show (pre.length : Int) + 1 + (ws.length : Int) + 1 = (pre.length : Int) + ((ws.length + 1 + 1 : Nat) : Int)
        omega
  | @all ps d l k h ih =>
    intro pre post deep f hd
    have h2 : ∀ f, post.head? ≠ some "and" → 3 * d.toNat + 2 ≤ f → (Kn_parse f).2.1 (pre ++ (jn "and" (ps.map (·.2.2)) ++ post), (pre.length : Int), deep) = some (.ok (.allOf (ps.map (·.1)), (pre.length : Int) + ((jn "and" (ps.map (·.2.2))).length : Int))) := fun f ha hf => by
      obtain ⟨q, rfl⟩ : ∃ q, f = q + 1 := ⟨f - 1, by omega⟩
      cases ps with
      | nil => exact absurd l.1 (by decide)
      | cons p r =>
        have g1 : ∀ p' ∈ p :: r, ∀ pre' post' : List Str, (Kn_parse q).2.2 (pre' ++ (p'.2.2 ++ post'), (pre'.length : Int), deep) = some (.ok (p'.1, (pre'.length : Int) + (p'.2.2.length : Int))) := fun p' m pre' post' => (ih p' m pre' post' deep q hd).1 (k p' m) (by omega)
        generalize eW : pre ++ (jn "and" ((p :: r).map (·.2.2)) ++ post) = W
        have hW1 : W = pre ++ (p.2.2 ++ (tail "and" (r.map (·.2.2)) ++ post)) := by
          rw [← eW]
          show pre ++ ((p.2.2 ++ tail "and" (r.map (·.2.2))) ++ post) = _
          rw [List.append_assoc]
        have ef := g1 p List.mem_cons_self pre (tail "and" (r.map (·.2.2)) ++ post)
        rw [← hW1] at ef
        have em : (r.map fun p => (p.1, p.2.2)).map (·.2) = r.map (·.2.2) := by rw [List.map_map]; rfl
        have em1 : (r.map fun p => (p.1, p.2.2)).map (·.1) = r.map (·.1) := by rw [List.map_map]; rfl
        obtain ⟨c1, el⟩ := parts_loop (w := "and") (g := (Kn_parse q).2.2) (deep := deep) (r.map fun p => (p.1, p.2.2)) W (pre ++ p.2.2) post p.1 [p.1] (by rw [em, hW1]; simp only [List.append_assoc]) ha (by rw [List.length_map]; have := l.2; rw [List.length_cons] at this; show 1 + _ ≤ 8; omega) (fun p' m pre' post' hw _ => by
          obtain ⟨p'', m'', rfl⟩ := List.mem_map.mp m
          rw [hw]
          exact g1 p'' (List.mem_cons_of_mem _ m'') pre' post')
        rw [em, em1, List.length_append] at el
        show M_all_at (Kn_parse q) W (pre.length : Int) deep = _
        unfold M_all_at
        rw [bdx_of ef]
        show bd (wl (Ct W "and") (Bt W deep (Kn_parse q).2.2) (p.1, ((pre.length + p.2.2.length : Nat) : Int), [p.1])) _ = _
        rw [bd_of el]
        have l1 := l.1
        rw [List.length_cons] at l1
        show cond ((([p.1] ++ r.map (·.1)).length : Int) == 1) _ _ = _
        rw [beq_eq_false_iff_ne.mpr (show (([p.1] ++ r.map (·.1)).length : Int) ≠ 1 from by rw [List.length_append, List.length_map]; show ((1 + r.length : Nat) : Int) ≠ 1; omega)]
        show some (Xr.ok ((Cd.allOf ([p.1] ++ r.map (·.1))), _)) = some (Xr.ok (Cd.allOf ((p :: r).map (·.1)), _))
        congr 3
        show ((pre.length + p.2.2.length : Nat) : Int) + _ = (pre.length : Int) + (((p.2.2 ++ tail "and" (r.map (·.2.2))).length : Nat) : Int)
        rw [List.length_append]
        omega
    refine ⟨fun z => absurd z (by decide), fun _ ha hf => h2 f ha hf, fun _ ha ho hf => ?_⟩
    obtain ⟨q, rfl⟩ : ∃ q, f = q + 1 := ⟨f - 1, by omega⟩
    exact some_single rfl ho (h2 q ha (by omega))
  | @some ps d l k h ih =>
    intro pre post deep f hd
    refine ⟨fun z => absurd z (by decide), fun z => absurd z (by decide), fun _ ha ho hf => ?_⟩
    obtain ⟨q, rfl⟩ : ∃ q, f = q + 1 := ⟨f - 1, by omega⟩
    cases ps with
    | nil => exact absurd l.1 (by decide)
    | cons p r =>
      have g1 : ∀ p' ∈ p :: r, ∀ pre' post' : List Str, post'.head? ≠ some "and" → (Kn_parse q).2.1 (pre' ++ (p'.2.2 ++ post'), (pre'.length : Int), deep) = some (.ok (p'.1, (pre'.length : Int) + (p'.2.2.length : Int))) := fun p' m pre' post' z => (ih p' m pre' post' deep q hd).2.1 (k p' m) z (by omega)
      have hoa : ∀ (xs : List (List Str)), (tail "or" xs ++ post).head? ≠ some ("and" : Str) := fun xs => by
        cases xs with
        | nil => exact ha
        | cons x r => exact fun z => by cases z
      generalize eW : pre ++ (jn "or" ((p :: r).map (·.2.2)) ++ post) = W
      have hW1 : W = pre ++ (p.2.2 ++ (tail "or" (r.map (·.2.2)) ++ post)) := by
        rw [← eW]
        show pre ++ ((p.2.2 ++ tail "or" (r.map (·.2.2))) ++ post) = _
        rw [List.append_assoc]
      have ef := g1 p List.mem_cons_self pre (tail "or" (r.map (·.2.2)) ++ post) (hoa _)
      rw [← hW1] at ef
      have em : (r.map fun p => (p.1, p.2.2)).map (·.2) = r.map (·.2.2) := by rw [List.map_map]; rfl
      have em1 : (r.map fun p => (p.1, p.2.2)).map (·.1) = r.map (·.1) := by rw [List.map_map]; rfl
      obtain ⟨c1, el⟩ := parts_loop (w := "or") (g := (Kn_parse q).2.1) (deep := deep) (r.map fun p => (p.1, p.2.2)) W (pre ++ p.2.2) post p.1 [p.1] (by rw [em, hW1]; simp only [List.append_assoc]) ho (by rw [List.length_map]; have := l.2; rw [List.length_cons] at this; show 1 + _ ≤ 8; omega) (fun p' m pre' post' hw hh => by
        obtain ⟨p'', m'', rfl⟩ := List.mem_map.mp m
        rw [hw]
        refine g1 p'' (List.mem_cons_of_mem _ m'') pre' post' ?_
        rcases hh with hh | hh
        · rw [hh]; exact fun z => by cases z
        · rw [hh]; exact ha)
      rw [em, em1, List.length_append] at el
      show M_some_at (Kn_parse q) W (pre.length : Int) deep = _
      unfold M_some_at
      rw [bdx_of ef]
      show bd (wl (Ct W "or") (Bt W deep (Kn_parse q).2.1) (p.1, ((pre.length + p.2.2.length : Nat) : Int), [p.1])) _ = _
      rw [bd_of el]
      have l1 := l.1
      rw [List.length_cons] at l1
      show cond ((([p.1] ++ r.map (·.1)).length : Int) == 1) _ _ = _
      rw [beq_eq_false_iff_ne.mpr (show (([p.1] ++ r.map (·.1)).length : Int) ≠ 1 from by rw [List.length_append, List.length_map]; show ((1 + r.length : Nat) : Int) ≠ 1; omega)]
      show some (Xr.ok ((Cd.someOf ([p.1] ++ r.map (·.1))), _)) = some (Xr.ok (Cd.someOf ((p :: r).map (·.1)), _))
      congr 3
      show ((pre.length + p.2.2.length : Nat) : Int) + _ = (pre.length : Int) + (((p.2.2 ++ tail "or" (r.map (·.2.2))).length : Nat) : Int)
      rw [List.length_append]
      omega
  | @up c r ws d e h l ih =>
    intro pre post deep f hd
    have d0 := h.d0.1
    obtain ⟨h1, h2, h3⟩ := ih pre post deep f (by omega)
    exact ⟨fun a b => h1 a (by omega), fun a b z => h2 a b (by omega), fun a b z w => h3 a b z (by omega)⟩
theorem Tx.ne {c : Cd} {r : Int} {ws : List Str} {d : Int} (h : Tx c r ws d) : ws ≠ [] := by
  induction h with
  | atom g h => exact wds_ne g
  | not h => exact fun z => nomatch z
  | par h => exact fun z => nomatch z
  | @all ps d l k h ih =>
    cases ps with
    | nil => exact absurd l.1 (by decide)
    | cons p r => exact fun z => ih p List.mem_cons_self (List.append_eq_nil_iff.mp z).1
  | @some ps d l k h ih =>
    cases ps with
    | nil => exact absurd l.1 (by decide)
    | cons p r => exact fun z => ih p List.mem_cons_self (List.append_eq_nil_iff.mp z).1
  | up h l ih => exact ih
theorem Tx.wd {c : Cd} {r : Int} {ws : List Str} {d : Int} (h : Tx c r ws d) : ∀ w ∈ ws, Wd w := by
  induction h with
  | atom g h => exact wds_wd g
  | not h ih =>
    intro w m
    rcases List.mem_cons.mp m with rfl | m
    · exact lit_wd (by decide +kernel)
    · exact ih w m
  | par h ih =>
    intro w m
    rcases List.mem_cons.mp m with rfl | m
    · exact lit_wd (by decide +kernel)
    · rcases List.mem_append.mp m with m | m
      · exact ih w m
      · cases List.mem_singleton.mp m; exact lit_wd (by decide +kernel)
  | all l k h ih => exact jn_wd (lit_wd (by decide +kernel)) fun x m => by obtain ⟨p, mp, rfl⟩ := List.mem_map.mp m; exact ih p mp
  | some l k h ih => exact jn_wd (lit_wd (by decide +kernel)) fun x m => by obtain ⟨p, mp, rfl⟩ := List.mem_map.mp m; exact ih p mp
  | up h l ih => exact ih
theorem blank_S : ((" ") : Str) = S [32] := by decide +kernel
theorem join_gd {ws : List Str} (h : ∀ w ∈ ws, Wd w) (hl : ws.length ≤ 900) : (ws.map (·.length)).sum + ws.length * (" " : Str).length ≤ 16777216 := by
  have h1 := join_len (ys := ws) (n := 63) fun y m => (h y m).1
  have h2 : (" " : Str).length = 1 := by decide +kernel
  rw [h2]
  omega
theorem split_join {ws : List Str} (h : ∀ w ∈ ws, Wd w) (ne : ws ≠ []) : Txt.split (Txt.join (" " : Str) ws) (" " : Str) = ws := by
  rw [join_is, blank_S, split_S (by simp) (by decide)]
  show (spl [32] 0 [] (joinL [32] (ws.map fun y => y.cps.toList))).map S = ws
  rw [TL.spl_join (by simpa using ne) fun p m => by obtain ⟨w, mw, rfl⟩ := List.mem_map.mp m; exact (h w mw).2, List.map_map]
  have e : (S ∘ fun y : Str => y.cps.toList) = id := funext fun y => S_tl y
  rw [e, List.map_id]
theorem read_cond_ok {c : Cd} {r : Int} {ws : List Str} {d : Int} (h : Tx c r ws d) (hd : d ≤ 6) (hl : ws.length ≤ 60) : M_read_condition (.str (Txt.join (" " : Str) ws)) = some (.ok c) := by
  have hw := h.wd
  have e := (parse h [] [] 0 64 (by omega)).2.2 h.d0.2.1 (fun z => by cases z) (fun z => by cases z) (by omega)
  rw [List.append_nil] at e
  have e : Mf_some_at 64 ws 0 0 = some (.ok (c, (0 : Int) + (ws.length : Int))) := e
  have sj := sm_join (p := (" " : Str)) (m := 1) ⟨by decide +kernel, by decide +kernel⟩ (n := 63) fun y m => (hw y m).1
  have jl := sj.1
  unfold M_read_condition
  rw [bd_of (str_is _)]
  refine Ok.eq (ok_f rfl ?_)
  rw [bd_of (show asS (.str (Txt.join (" " : Str) ws)) = some _ from rfl)]
  refine (ok_gd ⟨by decide +kernel, by
    show _ ≤ 16777216
    have : ws.length * (63 + 1) ≤ 60 * 64 := Nat.mul_le_mul_right _ hl
    omega⟩ (ok_lt ?_))
  rw [split_join hw h.ne]
  refine ok_f (decide_eq_false (by omega)) ?_
  rw [bdx_of e]
  exact ok_f (decide_eq_false (by show ¬ ((0 : Int) + (ws.length : Int) < _); omega)) (ok_some rfl)
/-- a condition's own words write it -/
theorem tx_of {c : Cd} (g : Gd c) : Tx c (rk c) (wds c) (dn c) := by
  have b : ∀ {c : Cd} (l : Int), Tx c (rk c) (wds c) (dn c) → Tx c (if rk c < l then 3 else rk c) (brw l c) (if rk c < l then dn c + 1 else dn c) := fun {c} l h => by
    unfold brw
    split
    · exact .par h
    · exact h
  induction g with
  | plain u => exact .atom (.plain u) rfl
  | cause h => exact .atom (.cause h) rfl
  | thing h => exact .atom (.thing h) rfl
  | days p h => exact .atom (.days p h) rfl
  | over c h => exact .atom (.over c h) rfl
  | @notOf c g ih =>
    have q := b 3 ih
    have e : (if rk c < 3 then 3 else rk c) = 3 := by cases c <;> rfl
    rw [e] at q
    exact .not q
  | @allOf cs l g ih =>
    have dl := dnL_ge 3 cs 0
    have q : ∀ p ∈ cs.map (fun c => (c, (3 : Int), brw 3 c)), Tx p.1 p.2.1 p.2.2 (dnL 3 cs 0) := fun p m => by
      obtain ⟨c, mc, rfl⟩ := List.mem_map.mp m
      have q := b 3 (ih c mc)
      have e : (if rk c < 3 then 3 else rk c) = 3 := by cases c <;> rfl
      rw [e] at q
      exact q.up (dl.2 c mc)
    have t := Tx.all (ps := cs.map fun c => (c, (3 : Int), brw 3 c)) (by rw [List.length_map]; exact l) (fun p m => by obtain ⟨c, mc, rfl⟩ := List.mem_map.mp m; rfl) q
    rw [List.map_map, List.map_map] at t
    rw [wds_all g]
    have e : cs.map ((fun x : Cd × Int × List Str => x.1) ∘ fun c => (c, (3 : Int), brw 3 c)) = cs := List.map_id cs
    rw [e] at t
    exact t
  | @someOf cs l g ih =>
    have dl := dnL_ge 2 cs 0
    have q : ∀ p ∈ cs.map (fun c => (c, (if rk c < 2 then 3 else rk c), brw 2 c)), Tx p.1 p.2.1 p.2.2 (dnL 2 cs 0) := fun p m => by
      obtain ⟨c, mc, rfl⟩ := List.mem_map.mp m
      exact (b 2 (ih c mc)).up (dl.2 c mc)
    have t := Tx.some (ps := cs.map fun c => (c, (if rk c < 2 then 3 else rk c), brw 2 c)) (by rw [List.length_map]; exact l) (fun p m => by obtain ⟨c, mc, rfl⟩ := List.mem_map.mp m; show (2 : Int) ≤ (if rk c < 2 then 3 else rk c); split <;> omega) q
    rw [List.map_map, List.map_map] at t
    rw [wds_some g]
    have e : cs.map ((fun x : Cd × Int × List Str => x.1) ∘ fun c => (c, (if rk c < 2 then (3 : Int) else rk c), brw 2 c)) = cs := List.map_id cs
    rw [e] at t
    exact t
open SX TL
theorem wl_nx {V R : Type} {c : V → Option Bool} {b : V → Option (Ou V V R)} {v v' : V} {o : Ou V V R} (hc : c v = some true) (hb : b v = some (.nx v')) (h : wl c b v' = some o) : wl c b v = some o := by
  obtain ⟨n, e⟩ := wl_some h
  refine wl_of (n := n + 1) ?_
  show bd (c v) _ = _
  rw [bd_of hc]
  show bd (b v) _ = _
  rw [bd_of hb]
  exact e
theorem wl_rt {V R : Type} {c : V → Option Bool} {b : V → Option (Ou V V R)} {v : V} {r : R} (hc : c v = some true) (hb : b v = some (.rt r)) : wl c b v = some (.rt r) := by
  refine wl_of (n := 1) ?_
  show bd (c v) _ = _
  rw [bd_of hc]
  show bd (b v) _ = _
  rw [bd_of hb]
theorem wl_end {V R : Type} {c : V → Option Bool} {b : V → Option (Ou V V R)} {v : V} (hc : c v = some false) : wl c b v = some (.nx v) := by
  refine wl_of (n := 1) ?_
  show bd (c v) _ = _
  rw [bd_of hc]
  rfl
/-- pieces, each followed by w -/
def hdw (w : Str) : List (List Str) → List Str
  | [] => []
  | x :: r => x ++ (w :: hdw w r)
theorem hdw_tail (w : Str) : ∀ (x : List Str) (xs : List (List Str)) (y : List Str), hdw w (x :: xs) ++ y = x ++ (tail w xs ++ (w :: y))
  | x, [], y => by
    show (x ++ [w]) ++ y = x ++ ([] ++ (w :: y))
    simp
  | x, z :: r, y => by
    show (x ++ (w :: hdw w (z :: r))) ++ y = x ++ ((w :: (z ++ tail w r)) ++ (w :: y))
    have ih := hdw_tail w z r y
    rw [List.append_assoc, List.cons_append, ih]
    simp only [List.cons_append, List.append_assoc]
theorem parts_go {w : Str} {g : List Str × Int × Int → Option (Xr Xc (Cd × Int))} {deep : Int} {W post : List Str} : ∀ (ps : List (Cd × List Str)) (pre : List Str) (c0 : Cd) (done : List Cd), W = pre ++ (tail w (ps.map (·.2)) ++ (w :: post)) → done.length + ps.length ≤ 8 →
    (∀ p ∈ ps, ∀ pre' post' : List Str, W = pre' ++ (p.2 ++ (w :: post')) → g (W, (pre'.length : Int), deep) = some (.ok (p.1, (pre'.length : Int) + (p.2.length : Int)))) →
    ∃ c1, ∀ o, wl (Ct W w) (Bt W deep g) (c1, (pre.length : Int) + ((tail w (ps.map (·.2))).length : Int), done ++ ps.map (·.1)) = some o → wl (Ct W w) (Bt W deep g) (c0, (pre.length : Int), done) = some o := by
  intro ps
  induction ps with
  | nil =>
    intro pre c0 done hW _ _
    refine ⟨c0, fun o h => ?_⟩
    have h : wl (Ct W w) (Bt W deep g) (c0, (pre.length : Int) + ((0 : Nat) : Int), done ++ []) = some o := h
    rwa [List.append_nil, show (pre.length : Int) + ((0 : Nat) : Int) = (pre.length : Int) by omega] at h
  | cons p r ih =>
    intro pre c0 done hW hl hg
    have hW1 : W = pre ++ (w :: (p.2 ++ (tail w (r.map (·.2)) ++ (w :: post)))) := by
      rw [hW]
      show pre ++ ((w :: (p.2 ++ tail w (r.map (·.2)))) ++ _) = _
      rw [List.cons_append, List.append_assoc]
    have hW2 : W = (pre ++ [w]) ++ (p.2 ++ (tail w (r.map (·.2)) ++ (w :: post))) := by rw [hW1, List.append_assoc]; rfl
    have hW3 : W = (pre ++ [w] ++ p.2) ++ (tail w (r.map (·.2)) ++ (w :: post)) := by rw [hW2]; simp only [List.append_assoc]
    rw [List.length_cons] at hl
    have e : g (W, ((pre ++ [w]).length : Int), deep) = some (.ok (p.1, ((pre ++ [w]).length : Int) + (p.2.length : Int))) := by
      cases r with
      | nil => exact hg p List.mem_cons_self (pre ++ [w]) post hW2
      | cons q r => exact hg p List.mem_cons_self (pre ++ [w]) (q.2 ++ tail w (r.map (·.2)) ++ (w :: post)) hW2
    obtain ⟨c1, en⟩ := ih (pre ++ [w] ++ p.2) p.1 (done ++ [p.1]) hW3 (by rw [List.length_append]; show done.length + 1 + _ ≤ 8; omega) fun q m => hg q (List.mem_cons_of_mem _ m)
    refine ⟨c1, fun o ho => ?_⟩
    have hc : Ct W w (c0, (pre.length : Int), done) = some true := by rw [hW1]; exact ct_hit
    have hb : Bt W deep g (c0, (pre.length : Int), done) = some (.nx (p.1, ((pre ++ [w] ++ p.2).length : Int), done ++ [p.1])) := by
      unfold Bt
      show cond ((done.length : Int) == 8) _ _ = _
      rw [beq_eq_false_iff_ne.mpr (show (done.length : Int) ≠ 8 by omega)]
      show bdo (g (W, (pre.length : Int) + 1, deep)) _ = _
      have e' : g (W, (pre.length : Int) + 1, deep) = some (.ok (p.1, ((pre ++ [w] ++ p.2).length : Int))) := by
        rw [List.length_append] at e
        rw [show (pre.length : Int) + 1 = ((pre.length + [w].length : Nat) : Int) from rfl, e, List.length_append, List.length_append]
        congr 3
      rw [bdo_of e']
      show gd (done.length < sizeLine) _ = _
      rw [gd_pos (szl (by omega))]
      rfl
    refine wl_nx hc hb (en o ?_)
    have e1 : ((pre ++ [w] ++ p.2).length : Int) + ((tail w (r.map (·.2))).length : Int) = (pre.length : Int) + ((tail w ((p :: r).map (·.2))).length : Int) := by
      show _ = (pre.length : Int) + (((w :: (p.2 ++ tail w (r.map (·.2)))).length : Nat) : Int)
      rw [List.length_cons, List.length_append, List.length_append, List.length_append]
      show ((pre.length + 1 + p.2.length : Nat) : Int) + _ = _
      omega
    rw [e1, List.append_assoc]
    exact ho
/-- the three ways to read: 3 a piece, 2 pieces joined by and, 1 rows joined by or -/
noncomputable def Lv (f : Nat) : Nat → List Str × Int × Int → Option (Xr Xc (Cd × Int))
  | 3 => (Kn_parse f).2.2
  | 2 => (Kn_parse f).2.1
  | _ => (Kn_parse f).1
/-- what stands ahead of a place: from how many open, how read, how what stands at the place is read, the words, how many open there, is a bracket among them -/
inductive Hx : Int → Nat → Nat → List Str → Int → Bool → Prop where
  | id {o : Int} {r : Nat} : Hx o r r [] o false
  | not {o e : Int} {h : Nat} {ws : List Str} {b : Bool} (l : o < 6) (x : Hx (o + 1) 3 h ws e b) : Hx o 3 h (("not" : Str) :: ws) e b
  | par {o e : Int} {h : Nat} {ws : List Str} {b : Bool} (l : o < 6) (x : Hx (o + 1) 1 h ws e b) : Hx o 3 h (("(" : Str) :: ws) e true
  | all {o e d : Int} {h : Nat} {ws : List Str} {b : Bool} (ps : List (Cd × List Str)) (l : ps.length ≤ 7) (ld : o + d ≤ 6) (t : ∀ p ∈ ps, Tx p.1 3 p.2 d) (x : Hx o 3 h ws e b) : Hx o 2 h (hdw "and" (ps.map (·.2)) ++ ws) e b
  | some {o e d : Int} {h : Nat} {ws : List Str} {b : Bool} (ps : List (Cd × List Str)) (l : ps.length ≤ 7) (ld : o + d ≤ 6) (t : ∀ p ∈ ps, ∃ r, 2 ≤ r ∧ Tx p.1 r p.2 d) (x : Hx o 2 h ws e b) : Hx o 1 h (hdw "or" (ps.map (·.2)) ++ ws) e b
theorem Hx.le {o e : Int} {r h : Nat} {ws : List Str} {b : Bool} (x : Hx o r h ws e b) : o ≤ e := by
  induction x with
  | id => exact Int.le_refl _
  | not l x ih => omega
  | par l x ih => omega
  | all ps l ld t x ih => exact ih
  | some ps l ld t x ih => exact ih
theorem piece_not {k : Nat} {W : List Str} {pre post : List Str} {o : Int} (hW : W = pre ++ (("not" : Str) :: post)) (ho : o < 6) : (Kn_parse (k + 1)).2.2 (W, (pre.length : Int), o) = bdx ((Kn_parse k).2.2 (W, (pre.length : Int) + 1, o + 1)) fun v => bd (M_Not___init__ v.1) fun z => some (.ok (Cd.notOf z, v.2)) := by
  have nw : (("not" : Str) == ("not" : Str)) = true := by decide +kernel
  have ea : L2.atI W (pre.length : Int) = some ("not" : Str) := by rw [hW]; exact at_mid pre _ _
  show M_piece_at (Kn_parse k) W (pre.length : Int) o = _
  unfold M_piece_at
  have hne : ((pre.length : Int) == (W.length : Int)) = false := by
    have := not_end pre (("not" : Str) :: post) 0 (by rw [List.length_cons]; omega)
    rw [hW]
    rwa [Int.add_zero] at this
  rw [hne, bd_of ea]
  show bd (cond (!(("not" : Str) == ("not" : Str))) _ _) _ = _
  rw [nw]
  show cond (o == 6) _ _ = _
  rw [beq_eq_false_iff_ne.mpr (show o ≠ 6 by omega)]
  show bd (L2.atI W (pre.length : Int)) _ = _
  rw [bd_of ea, nw]
  rfl
theorem piece_par {k : Nat} {W : List Str} {pre post : List Str} {o : Int} (hW : W = pre ++ (("(" : Str) :: post)) (ho : o < 6) : (Kn_parse (k + 1)).2.2 (W, (pre.length : Int), o) = bdx ((Kn_parse k).1 (W, (pre.length : Int) + 1, o + 1)) fun v => bd (cond ((v.2 == (W.length : Int))) (some true) (bd (L2.atI W v.2) fun v13 => some ((!(v13 == (")" : Str)))))) fun v14 => cond v14 (some (.er (.NoWords v.2))) <| some (.ok (v.1, (v.2 + 1))) := by
  have nw : (("(" : Str) == ("not" : Str)) = false := by decide +kernel
  have pw : (("(" : Str) == ("(" : Str)) = true := by decide +kernel
  have ea : L2.atI W (pre.length : Int) = some ("(" : Str) := by rw [hW]; exact at_mid pre _ _
  show M_piece_at (Kn_parse k) W (pre.length : Int) o = _
  unfold M_piece_at
  have hne : ((pre.length : Int) == (W.length : Int)) = false := by
    have := not_end pre (("(" : Str) :: post) 0 (by rw [List.length_cons]; omega)
    rw [hW]
    rwa [Int.add_zero] at this
  rw [hne, bd_of ea]
  show bd (cond (!(("(" : Str) == ("not" : Str))) (bd (L2.atI W (pre.length : Int)) _) _) _ = _
  rw [nw]
  show bd (bd (L2.atI W (pre.length : Int)) _) _ = _
  rw [bd_of ea, pw]
  show cond (o == 6) _ _ = _
  rw [beq_eq_false_iff_ne.mpr (show o ≠ 6 by omega)]
  show bd (L2.atI W (pre.length : Int)) _ = _
  rw [bd_of ea, nw]
  rfl
theorem all_is {k : Nat} {W : List Str} {i o : Int} : (Kn_parse (k + 1)).2.1 (W, i, o) = bdx ((Kn_parse k).2.2 (W, i, o)) fun v => bd (wl (Ct W "and") (Bt W o (Kn_parse k).2.2) (v.1, v.2, [v.1])) fun q => ouR q fun p => cond ((p.2.2.length : Int) == 1) (some (.ok (p.1, p.2.1))) (bd (M_All___init__ p.2.2) fun z => some (.ok (Cd.allOf z, p.2.1))) := rfl
theorem some_is {k : Nat} {W : List Str} {i o : Int} : (Kn_parse (k + 1)).1 (W, i, o) = bdx ((Kn_parse k).2.1 (W, i, o)) fun v => bd (wl (Ct W "or") (Bt W o (Kn_parse k).2.1) (v.1, v.2, [v.1])) fun q => ouR q fun p => cond ((p.2.2.length : Int) == 1) (some (.ok (p.1, p.2.1))) (bd (M_Some___init__ p.2.2) fun z => some (.ok (Cd.someOf z, p.2.1))) := rfl
/-- a refusal at a place is a refusal of the whole -/
theorem parts_er {f : Nat} {w : Str} {g : List Str × Int × Int → Option (Xr Xc (Cd × Int))} {deep : Int} {E : Xc} {W pre post : List Str} {p : Cd × List Str} {ps : List (Cd × List Str)} (hW : W = pre ++ (hdw w ((p :: ps).map (·.2)) ++ post)) (l : (p :: ps).length ≤ 8)
    (hg : ∀ q ∈ p :: ps, ∀ pre' post' : List Str, W = pre' ++ (q.2 ++ (w :: post')) → g (W, (pre'.length : Int), deep) = some (.ok (q.1, (pre'.length : Int) + (q.2.length : Int))))
    (hE : ∀ c1 ds, ds.length = (p :: ps).length → Bt W deep g (c1, ((pre.length + (hdw w ((p :: ps).map (·.2))).length : Nat) : Int) - 1, ds) = some (.rt (.er E))) :
    g (W, (pre.length : Int), deep) = some (.ok (p.1, (pre.length : Int) + (p.2.length : Int))) ∧ wl (Ct W w) (Bt W deep g) (p.1, (pre.length : Int) + (p.2.length : Int), [p.1]) = some (.rt (.er E)) := by
  have hW1 : W = pre ++ (p.2 ++ (tail w (ps.map (·.2)) ++ (w :: post))) := by
    rw [hW, List.map_cons, hdw_tail]
  have hp : g (W, (pre.length : Int), deep) = some (.ok (p.1, (pre.length : Int) + (p.2.length : Int))) := by
    cases ps with
    | nil => exact hg p List.mem_cons_self pre post hW1
    | cons q r => exact hg p List.mem_cons_self pre (q.2 ++ tail w (r.map (·.2)) ++ (w :: post)) hW1
  rw [List.length_cons] at l
  obtain ⟨c1, go⟩ := parts_go (w := w) (g := g) (deep := deep) ps (pre ++ p.2) p.1 [p.1] (by rw [hW1, List.append_assoc]) (by show 1 + _ ≤ 8; omega) fun q m => hg q (List.mem_cons_of_mem _ m)
  rw [List.length_append] at go
  have hl : (hdw w ((p :: ps).map (·.2))).length = p.2.length + (tail w (ps.map (·.2))).length + 1 := by
    have := congrArg List.length (hdw_tail w p.2 (ps.map (·.2)) [])
    rw [List.append_nil] at this
    rw [List.map_cons, this, List.length_append, List.length_append, List.length_cons, List.length_nil]
    omega
  refine ⟨hp, go _ (wl_rt ?_ ?_)⟩
  · have e : ((pre.length + p.2.length : Nat) : Int) + ((tail w (ps.map (·.2))).length : Int) = ((pre ++ p.2 ++ tail w (ps.map (·.2))).length : Int) := by
      rw [List.length_append, List.length_append]; rfl
    rw [e, show W = (pre ++ p.2 ++ tail w (ps.map (·.2))) ++ (w :: post) from by rw [hW1]; simp only [List.append_assoc]]
    exact ct_hit
  · have := hE c1 ([p.1] ++ ps.map (·.1)) (by rw [List.length_append, List.length_map]; show 1 + ps.length = ps.length + 1; omega)
    rw [hl] at this
    rw [show ((pre.length + (p.2.length + (tail w (ps.map (·.2))).length + 1) : Nat) : Int) - 1 = ((pre.length + p.2.length : Nat) : Int) + ((tail w (ps.map (·.2))).length : Int) from by omega] at this
    exact this
theorem bt_er {g : List Str × Int × Int → Option (Xr Xc (Cd × Int))} {deep i : Int} {E : Xc} {W : List Str} {c : Cd} {ds : List Cd} (l : ds.length ≤ 7) (h : g (W, i + 1, deep) = some (.er E)) : Bt W deep g (c, i, ds) = some (.rt (.er E)) := by
  unfold Bt
  show cond ((ds.length : Int) == 8) _ _ = _
  rw [beq_eq_false_iff_ne.mpr (show (ds.length : Int) ≠ 8 by omega)]
  show bdo (g (W, i + 1, deep)) _ = _
  rw [bdo_er h]
/-- parts of a row, read -/
theorem read3 {k : Nat} {c : Cd} {q : List Str} {d o : Int} (h : Tx c 3 q d) (ld : o + d ≤ 6) (l0 : 0 ≤ o) (lk : 19 ≤ k) {W pre post : List Str} (hW : W = pre ++ (q ++ post)) : (Kn_parse k).2.2 (W, (pre.length : Int), o) = some (.ok (c, (pre.length : Int) + (q.length : Int))) := by
  have := h.d0.1
  rw [hW]
  exact (parse h pre post o k ld).1 rfl (by omega)
theorem read2 {k : Nat} {c : Cd} {q : List Str} {r d o : Int} (h : Tx c r q d) (lr : 2 ≤ r) (ld : o + d ≤ 6) (l0 : 0 ≤ o) (lk : 20 ≤ k) {W pre post : List Str} (hW : W = pre ++ (q ++ post)) (ha : post.head? ≠ some "and") : (Kn_parse k).2.1 (W, (pre.length : Int), o) = some (.ok (c, (pre.length : Int) + (q.length : Int))) := by
  have := h.d0.1
  rw [hW]
  exact (parse h pre post o k ld).2.1 lr ha (by omega)
theorem or_and {post : List Str} : (("or" : Str) :: post).head? ≠ some ("and" : Str) := fun z => by cases z
theorem up_er {o e : Int} {r h : Nat} {ws : List Str} {b : Bool} (x : Hx o r h ws e b) (hr : 1 ≤ r ∧ r ≤ 3) (h0 : 0 ≤ o) {E : Xc} {m : Nat} (hm : 20 ≤ m) : ∀ (W pre post : List Str) (f : Nat), W = pre ++ (ws ++ post) → (∀ g, m ≤ g → Lv g h (W, ((pre.length + ws.length : Nat) : Int), e) = some (.er E)) → m + (3 * (e - o)).toNat + (3 - r) ≤ f → Lv f r (W, (pre.length : Int), o) = some (.er E) := by
  induction x with
  | id =>
    intro W pre post f hW H hf
    exact H f (by omega)
  | @not o e h ws b l x ih =>
    intro W pre post f hW H hf
    have le := x.le
    obtain ⟨k, rfl⟩ : ∃ k, f = k + 1 := ⟨f - 1, by omega⟩
    show (Kn_parse (k + 1)).2.2 (W, (pre.length : Int), o) = _
    have hW2 : W = (pre ++ [("not" : Str)]) ++ (ws ++ post) := by rw [hW, List.append_assoc]; rfl
    have e1 := ih (by decide) (by omega) W (pre ++ [("not" : Str)]) post k hW2 (fun g hg => by
      have := H g hg
      rw [List.length_cons, show pre.length + (ws.length + 1) = (pre ++ [("not" : Str)]).length + ws.length by rw [List.length_append]; show _ = pre.length + 1 + _; omega] at this
      exact this) (by omega)
    rw [List.length_append] at e1
    rw [piece_not (show W = pre ++ (("not" : Str) :: (ws ++ post)) from hW) l]
    exact bdx_er e1
  | @par o e h ws b l x ih =>
    intro W pre post f hW H hf
    have le := x.le
    obtain ⟨k, rfl⟩ : ∃ k, f = k + 1 := ⟨f - 1, by omega⟩
    show (Kn_parse (k + 1)).2.2 (W, (pre.length : Int), o) = _
    have hW2 : W = (pre ++ [("(" : Str)]) ++ (ws ++ post) := by rw [hW, List.append_assoc]; rfl
    have e1 := ih (by decide) (by omega) W (pre ++ [("(" : Str)]) post k hW2 (fun g hg => by
      have := H g hg
      rw [List.length_cons, show pre.length + (ws.length + 1) = (pre ++ [("(" : Str)]).length + ws.length by rw [List.length_append]; show _ = pre.length + 1 + _; omega] at this
      exact this) (by omega)
    rw [List.length_append] at e1
    rw [piece_par (show W = pre ++ (("(" : Str) :: (ws ++ post)) from hW) l]
    exact bdx_er e1
  | @all o e d h ws b ps l ld t x ih =>
    intro W pre post f hW H hf
    have le := x.le
    obtain ⟨k, rfl⟩ : ∃ k, f = k + 1 := ⟨f - 1, by omega⟩
    show (Kn_parse (k + 1)).2.1 (W, (pre.length : Int), o) = _
    rw [all_is]
    cases ps with
    | nil => exact bdx_er (ih (by decide) h0 W pre post k hW H (by omega))
    | cons p ps =>
      have e1 := ih (by decide) h0 W (pre ++ hdw "and" ((p :: ps).map (·.2))) post k (by rw [hW]; simp only [List.append_assoc]) (fun g hg => by
        have := H g hg
        rw [List.length_append] at this
        rw [List.length_append, Nat.add_assoc]
        exact this) (by omega)
      obtain ⟨a1, a2⟩ := parts_er (f := k) (w := "and") (g := (Kn_parse k).2.2) (deep := o) (E := E) (W := W) (pre := pre) (post := ws ++ post) (p := p) (ps := ps) (by rw [hW, List.append_assoc]) (by omega) (fun q m pre' post' hq => read3 (t q m) ld h0 (by omega) hq) (fun c1 ds hd => bt_er (by omega) (by
        rw [List.length_append] at e1
        rw [Int.sub_add_cancel]
        exact e1))
      rw [bdx_of a1]
      show bd (wl _ _ _) _ = _
      rw [bd_of a2]
      rfl
  | @some o e d h ws b ps l ld t x ih =>
    intro W pre post f hW H hf
    have le := x.le
    obtain ⟨k, rfl⟩ : ∃ k, f = k + 1 := ⟨f - 1, by omega⟩
    show (Kn_parse (k + 1)).1 (W, (pre.length : Int), o) = _
    rw [some_is]
    cases ps with
    | nil => exact bdx_er (ih (by decide) h0 W pre post k hW H (by omega))
    | cons p ps =>
      have e1 := ih (by decide) h0 W (pre ++ hdw "or" ((p :: ps).map (·.2))) post k (by rw [hW]; simp only [List.append_assoc]) (fun g hg => by
        have := H g hg
        rw [List.length_append] at this
        rw [List.length_append, Nat.add_assoc]
        exact this) (by omega)
      obtain ⟨a1, a2⟩ := parts_er (f := k) (w := "or") (g := (Kn_parse k).2.1) (deep := o) (E := E) (W := W) (pre := pre) (post := ws ++ post) (p := p) (ps := ps) (by rw [hW, List.append_assoc]) (by omega) (fun q m pre' post' hq => by
        obtain ⟨r, lr, tr⟩ := t q m
        exact read2 tr lr ld h0 (by omega) hq or_and) (fun c1 ds hd => bt_er (by omega) (by
        rw [List.length_append] at e1
        rw [Int.sub_add_cancel]
        exact e1))
      rw [bdx_of a1]
      show bd (wl _ _ _) _ = _
      rw [bd_of a2]
      rfl
def stuck (post : List Str) : Prop := post.head? ≠ some "and" ∧ post.head? ≠ some "or" ∧ post.head? ≠ some ")"
/-- a word that begins nothing -/
def noStart (x : Str) : Prop := (x == ("not" : Str)) = false ∧ (x == ("(" : Str)) = false ∧ (x == ("always" : Str)) = false ∧ (x == ("cause" : Str)) = false ∧ (x == ("thing" : Str)) = false ∧ (x == ("over" : Str)) = false ∧ (x == ("days" : Str)) = false
theorem leaf_bad {W pre post : List Str} {x : Str} (hW : W = pre ++ (x :: post)) (hx : noStart x) {f : Nat} {o : Int} (hf : 1 ≤ f) : Lv f 3 (W, (pre.length : Int), o) = some (.er (.NoWords (pre.length : Int))) := by
  obtain ⟨k, rfl⟩ : ∃ k, f = k + 1 := ⟨f - 1, by omega⟩
  obtain ⟨h1, h2, h3, h4, h5, h6, h7⟩ := hx
  have ea : L2.atI W (pre.length : Int) = some x := by rw [hW]; exact at_mid pre _ _
  have hne : ((pre.length : Int) == (W.length : Int)) = false := by
    have := not_end pre (x :: post) 0 (by rw [List.length_cons]; omega)
    rw [hW]
    rwa [Int.add_zero] at this
  show M_piece_at (Kn_parse k) W (pre.length : Int) o = _
  unfold M_piece_at
  rw [hne, bd_of ea]
  show bd (cond (!(x == ("not" : Str))) (bd (L2.atI W (pre.length : Int)) _) _) _ = _
  rw [h1]
  show bd (bd (L2.atI W (pre.length : Int)) _) _ = _
  rw [bd_of ea, h2]
  show bdx (M_atom_at W (pre.length : Int)) _ = _
  refine bdx_er ?_
  unfold M_atom_at
  rw [bd_of ea, h3, h4, h5, h6, h7]
  rfl
theorem leaf_end {W : List Str} {f : Nat} {o : Int} (hf : 1 ≤ f) : Lv f 3 (W, (W.length : Int), o) = some (.er (.NoWords (W.length : Int))) := by
  obtain ⟨k, rfl⟩ : ∃ k, f = k + 1 := ⟨f - 1, by omega⟩
  show M_piece_at (Kn_parse k) W (W.length : Int) o = _
  unfold M_piece_at
  rw [beq_self_eq_true]
  rfl
/-- a piece read, and nothing behind it that joins -/
theorem ct_stop {W pre post : List Str} {w : Str} {c : Cd} {ds : List Cd} {i : Int} (hW : W = pre ++ post) (hi : i = (pre.length : Int)) (h : post.head? ≠ some w) : Ct W w (c, i, ds) = some false := by
  subst hW hi
  exact ct_miss h
theorem bt_ok {g : List Str × Int × Int → Option (Xr Xc (Cd × Int))} {deep i j : Int} {W : List Str} {c c' : Cd} {ds : List Cd} (l : ds.length ≤ 7) (h : g (W, i + 1, deep) = some (.ok (c', j))) : Bt W deep g (c, i, ds) = some (.nx (c', j, ds ++ [c'])) := by
  unfold Bt
  show cond ((ds.length : Int) == 8) _ _ = _
  rw [beq_eq_false_iff_ne.mpr (show (ds.length : Int) ≠ 8 by omega)]
  show bdo (g (W, i + 1, deep)) _ = _
  rw [bdo_of h]
  show gd (ds.length < sizeLine) _ = _
  rw [gd_pos (szl (by omega))]
  rfl
theorem parts_ok8 {f : Nat} {w : Str} {g : List Str × Int × Int → Option (Xr Xc (Cd × Int))} {deep j : Int} {W pre post : List Str} {p : Cd × List Str} {ps : List (Cd × List Str)} {c' : Cd} (hW : W = pre ++ (hdw w ((p :: ps).map (·.2)) ++ post)) (l : (p :: ps).length ≤ 7)
    (hg : ∀ q ∈ p :: ps, ∀ pre' post' : List Str, W = pre' ++ (q.2 ++ (w :: post')) → g (W, (pre'.length : Int), deep) = some (.ok (q.1, (pre'.length : Int) + (q.2.length : Int))))
    (hl : g (W, ((pre.length + (hdw w ((p :: ps).map (·.2))).length : Nat) : Int), deep) = some (.ok (c', j))) (hs : ∀ c ds, Ct W w (c, j, ds) = some false) :
    g (W, (pre.length : Int), deep) = some (.ok (p.1, (pre.length : Int) + (p.2.length : Int))) ∧ ∃ ds : List Cd, 2 ≤ ds.length ∧ wl (Ct W w) (Bt W deep g) (p.1, (pre.length : Int) + (p.2.length : Int), [p.1]) = some (.nx (c', j, ds)) := by
  have hW1 : W = pre ++ (p.2 ++ (tail w (ps.map (·.2)) ++ (w :: post))) := by
    rw [hW, List.map_cons, hdw_tail]
  have hp : g (W, (pre.length : Int), deep) = some (.ok (p.1, (pre.length : Int) + (p.2.length : Int))) := by
    cases ps with
    | nil => exact hg p List.mem_cons_self pre post hW1
    | cons q r => exact hg p List.mem_cons_self pre (q.2 ++ tail w (r.map (·.2)) ++ (w :: post)) hW1
  rw [List.length_cons] at l
  obtain ⟨c1, go⟩ := parts_go (w := w) (g := g) (deep := deep) ps (pre ++ p.2) p.1 [p.1] (by rw [hW1, List.append_assoc]) (by show 1 + _ ≤ 8; omega) fun q m => hg q (List.mem_cons_of_mem _ m)
  rw [List.length_append] at go
  have hlen : (hdw w ((p :: ps).map (·.2))).length = p.2.length + (tail w (ps.map (·.2))).length + 1 := by
    have := congrArg List.length (hdw_tail w p.2 (ps.map (·.2)) [])
    rw [List.append_nil] at this
    rw [List.map_cons, this, List.length_append, List.length_append, List.length_cons, List.length_nil]
    omega
  have ld : ([p.1] ++ ps.map (·.1)).length = ps.length + 1 := by rw [List.length_append, List.length_map]; show 1 + _ = _; omega
  refine ⟨hp, [p.1] ++ ps.map (·.1) ++ [c'], by rw [List.length_append, ld]; show 2 ≤ ps.length + 1 + 1; omega, go _ (wl_nx ?_ (bt_ok (by rw [ld]; omega) ?_) (wl_end (hs _ _)))⟩
  · have e : ((pre.length + p.2.length : Nat) : Int) + ((tail w (ps.map (·.2))).length : Int) = ((pre ++ p.2 ++ tail w (ps.map (·.2))).length : Int) := by
      rw [List.length_append, List.length_append]; rfl
    rw [e, show W = (pre ++ p.2 ++ tail w (ps.map (·.2))) ++ (w :: post) from by rw [hW1]; simp only [List.append_assoc]]
    exact ct_hit
  · rw [hlen] at hl
    rw [show ((pre.length + (p.2.length + (tail w (ps.map (·.2))).length + 1) : Nat) : Int) = ((pre.length + p.2.length : Nat) : Int) + ((tail w (ps.map (·.2))).length : Int) + 1 from by omega] at hl
    exact hl
theorem up_stop {o e : Int} {r h : Nat} {ws : List Str} {b : Bool} (x : Hx o r h ws e b) (hh : h = 3) (hr : 1 ≤ r ∧ r ≤ 3) (h0 : 0 ≤ o) {m : Nat} (hm : 20 ≤ m) {c : Cd} {qs post : List Str} (hs : post.head? ≠ some "and" ∧ post.head? ≠ some "or" ∧ (b = true → post.head? ≠ some ")")) : ∀ (W pre : List Str) (f : Nat), W = pre ++ (ws ++ (qs ++ post)) → (∀ g, m ≤ g → Lv g 3 (W, ((pre.length + ws.length : Nat) : Int), e) = some (.ok (c, ((pre.length + ws.length + qs.length : Nat) : Int)))) → m + (3 * (e - o)).toNat + (3 - r) ≤ f →
    (b = false ∧ ∃ c', Lv f r (W, (pre.length : Int), o) = some (.ok (c', ((pre.length + ws.length + qs.length : Nat) : Int)))) ∨ (b = true ∧ Lv f r (W, (pre.length : Int), o) = some (.er (.NoWords ((pre.length + ws.length + qs.length : Nat) : Int)))) := by
  induction x with
  | id =>
    intro W pre f hW H hf
    subst hh
    exact .inl ⟨rfl, c, H f (by omega)⟩
  | @not o e h ws b l x ih =>
    intro W pre f hW H hf
    have le := x.le
    obtain ⟨k, rfl⟩ : ∃ k, f = k + 1 := ⟨f - 1, by omega⟩
    have hW2 : W = (pre ++ [("not" : Str)]) ++ (ws ++ (qs ++ post)) := by rw [hW, List.append_assoc]; rfl
    have el : pre.length + (ws.length + 1) = (pre ++ [("not" : Str)]).length + ws.length := by rw [List.length_append]; show _ = pre.length + 1 + _; omega
    have e1 := ih hh (by decide) (by omega) hs W (pre ++ [("not" : Str)]) k hW2 (fun g hg => by
      have := H g hg
      rw [List.length_cons, el] at this
      exact this) (by omega)
    rw [List.length_cons, el]
    have hp : Lv (k + 1) 3 (W, (pre.length : Int), o) = _ := piece_not (k := k) (show W = pre ++ (("not" : Str) :: (ws ++ (qs ++ post))) from hW) l
    rw [hp]
    rcases e1 with ⟨hb, c', e1⟩ | ⟨hb, e1⟩
    · rw [show (pre.length : Int) + 1 = ((pre ++ [("not" : Str)]).length : Int) from by rw [List.length_append]; rfl, show (Kn_parse k).2.2 (W, ((pre ++ [("not" : Str)]).length : Int), o + 1) = _ from e1]
      exact .inl ⟨hb, _, rfl⟩
    · rw [show (pre.length : Int) + 1 = ((pre ++ [("not" : Str)]).length : Int) from by rw [List.length_append]; rfl, show (Kn_parse k).2.2 (W, ((pre ++ [("not" : Str)]).length : Int), o + 1) = _ from e1]
      exact .inr ⟨hb, rfl⟩
  | @par o e h ws b l x ih =>
    intro W pre f hW H hf
    have le := x.le
    obtain ⟨k, rfl⟩ : ∃ k, f = k + 1 := ⟨f - 1, by omega⟩
    have hW2 : W = (pre ++ [("(" : Str)]) ++ (ws ++ (qs ++ post)) := by rw [hW, List.append_assoc]; rfl
    have el : pre.length + (ws.length + 1) = (pre ++ [("(" : Str)]).length + ws.length := by rw [List.length_append]; show _ = pre.length + 1 + _; omega
    have e1 := ih hh (by decide) (by omega) ⟨hs.1, hs.2.1, fun _ => hs.2.2 rfl⟩ W (pre ++ [("(" : Str)]) k hW2 (fun g hg => by
      have := H g hg
      rw [List.length_cons, el] at this
      exact this) (by omega)
    rw [List.length_cons, el]
    have hp : Lv (k + 1) 3 (W, (pre.length : Int), o) = _ := piece_par (k := k) (show W = pre ++ (("(" : Str) :: (ws ++ (qs ++ post))) from hW) l
    rw [hp]
    refine .inr ⟨rfl, ?_⟩
    rcases e1 with ⟨hb, c', e1⟩ | ⟨hb, e1⟩
    · rw [show (pre.length : Int) + 1 = ((pre ++ [("(" : Str)]).length : Int) from by rw [List.length_append]; rfl, show (Kn_parse k).1 (W, ((pre ++ [("(" : Str)]).length : Int), o + 1) = _ from e1]
      generalize hj : (pre ++ [("(" : Str)]).length + ws.length + qs.length = j
      have hW3 : W = ((pre ++ [("(" : Str)]) ++ ws ++ qs) ++ post := by rw [hW2]; simp only [List.append_assoc]
      have hj2 : ((pre ++ [("(" : Str)]) ++ ws ++ qs).length = j := by rw [List.length_append, List.length_append]; exact hj
      show bd (cond ((j : Int) == (W.length : Int)) _ (bd (L2.atI W (j : Int)) _)) _ = _
      cases post with
      | nil =>
        rw [List.append_nil] at hW3
        rw [hW3, hj2, beq_self_eq_true]
        rfl
      | cons y post =>
        rw [beq_eq_false_iff_ne.mpr (show (j : Int) ≠ (W.length : Int) by rw [hW3, List.length_append, List.length_cons, hj2]; omega)]
        have ea : L2.atI W (j : Int) = some y := by rw [hW3, ← hj2]; exact at_mid _ y post
        show bd (bd (L2.atI W (j : Int)) _) _ = _
        rw [bd_of ea, beq_eq_false_iff_ne.mpr (show y ≠ (")" : Str) from fun z => hs.2.2 rfl (by rw [z]; rfl))]
        rfl
    · rw [show (pre.length : Int) + 1 = ((pre ++ [("(" : Str)]).length : Int) from by rw [List.length_append]; rfl, show (Kn_parse k).1 (W, ((pre ++ [("(" : Str)]).length : Int), o + 1) = _ from e1]
      rfl
  | @all o e d h ws b ps l ld t x ih =>
    intro W pre f hW H hf
    have le := x.le
    obtain ⟨k, rfl⟩ : ∃ k, f = k + 1 := ⟨f - 1, by omega⟩
    have hp : Lv (k + 1) 2 (W, (pre.length : Int), o) = _ := all_is (k := k)
    rw [hp]
    have e1 := ih hh (by decide) h0 hs W (pre ++ hdw "and" (ps.map (·.2))) k (by rw [hW]; simp only [List.append_assoc]) (fun g hg => by
      have := H g hg
      rw [List.length_append] at this
      rw [List.length_append, Nat.add_assoc pre.length]
      exact this) (by omega)
    rw [List.length_append (as := pre), Nat.add_assoc pre.length, ← List.length_append (as := hdw _ _)] at e1
    have hst : ∀ c ds, Ct W "and" (c, ((pre.length + (hdw "and" (ps.map (·.2)) ++ ws).length + qs.length : Nat) : Int), ds) = some false := fun c ds => ct_stop (pre := pre ++ (hdw "and" (ps.map (·.2)) ++ ws) ++ qs) (post := post) (by rw [hW]; simp only [List.append_assoc]) (by simp only [List.length_append]) hs.1
    cases ps with
    | nil =>
      rcases e1 with ⟨hb, c', e1⟩ | ⟨hb, e1⟩
      · refine .inl ⟨hb, c', ?_⟩
        rw [bdx_of (show (Kn_parse k).2.2 (W, (pre.length : Int), o) = some (.ok (c', _)) from e1)]
        show bd (wl _ _ _) _ = _
        rw [bd_of (wl_end (hst _ _))]
        rfl
      · exact .inr ⟨hb, bdx_er e1⟩
    | cons p ps =>
      rcases e1 with ⟨hb, c', e1⟩ | ⟨hb, e1⟩
      · obtain ⟨a1, ds, ld2, a2⟩ := parts_ok8 (f := k) (w := "and") (g := (Kn_parse k).2.2) (deep := o) (W := W) (pre := pre) (post := ws ++ (qs ++ post)) (p := p) (ps := ps) (c' := c') (by rw [hW, List.append_assoc]) (by omega) (fun q m pre' post' hq => read3 (t q m) ld h0 (by omega) hq) e1 hst
        refine .inl ⟨hb, .allOf ds, ?_⟩
        rw [bdx_of a1]
        show bd (wl _ _ _) _ = _
        rw [bd_of a2]
        show cond ((ds.length : Int) == 1) _ _ = _
        rw [beq_eq_false_iff_ne.mpr (show (ds.length : Int) ≠ 1 by omega)]
        rfl
      · refine .inr ⟨hb, ?_⟩
        obtain ⟨a1, a2⟩ := parts_er (f := k) (w := "and") (g := (Kn_parse k).2.2) (deep := o) (E := .NoWords ((pre.length + (hdw "and" ((p :: ps).map (·.2)) ++ ws).length + qs.length : Nat) : Int)) (W := W) (pre := pre) (post := ws ++ (qs ++ post)) (p := p) (ps := ps) (by rw [hW, List.append_assoc]) (by omega) (fun q m pre' post' hq => read3 (t q m) ld h0 (by omega) hq) (fun c1 ds hd => bt_er (by omega) (by
          rw [Int.sub_add_cancel]
          exact e1))
        rw [bdx_of a1]
        show bd (wl _ _ _) _ = _
        rw [bd_of a2]
        rfl
  | @some o e d h ws b ps l ld t x ih =>
    intro W pre f hW H hf
    have le := x.le
    obtain ⟨k, rfl⟩ : ∃ k, f = k + 1 := ⟨f - 1, by omega⟩
    have hp : Lv (k + 1) 1 (W, (pre.length : Int), o) = _ := some_is (k := k)
    rw [hp]
    have e1 := ih hh (by decide) h0 hs W (pre ++ hdw "or" (ps.map (·.2))) k (by rw [hW]; simp only [List.append_assoc]) (fun g hg => by
      have := H g hg
      rw [List.length_append] at this
      rw [List.length_append, Nat.add_assoc pre.length]
      exact this) (by omega)
    rw [List.length_append (as := pre), Nat.add_assoc pre.length, ← List.length_append (as := hdw _ _)] at e1
    have hst : ∀ c ds, Ct W "or" (c, ((pre.length + (hdw "or" (ps.map (·.2)) ++ ws).length + qs.length : Nat) : Int), ds) = some false := fun c ds => ct_stop (pre := pre ++ (hdw "or" (ps.map (·.2)) ++ ws) ++ qs) (post := post) (by rw [hW]; simp only [List.append_assoc]) (by simp only [List.length_append]) hs.2.1
    cases ps with
    | nil =>
      rcases e1 with ⟨hb, c', e1⟩ | ⟨hb, e1⟩
      · refine .inl ⟨hb, c', ?_⟩
        rw [bdx_of (show (Kn_parse k).2.1 (W, (pre.length : Int), o) = some (.ok (c', _)) from e1)]
        show bd (wl _ _ _) _ = _
        rw [bd_of (wl_end (hst _ _))]
        rfl
      · exact .inr ⟨hb, bdx_er e1⟩
    | cons p ps =>
      have hg : ∀ q ∈ p :: ps, ∀ pre' post' : List Str, W = pre' ++ (q.2 ++ (("or" : Str) :: post')) → (Kn_parse k).2.1 (W, (pre'.length : Int), o) = some (.ok (q.1, (pre'.length : Int) + (q.2.length : Int))) := fun q m pre' post' hq => by
        obtain ⟨r, lr, tr⟩ := t q m
        exact read2 tr lr ld h0 (by omega) hq or_and
      rcases e1 with ⟨hb, c', e1⟩ | ⟨hb, e1⟩
      · obtain ⟨a1, ds, ld2, a2⟩ := parts_ok8 (f := k) (w := "or") (g := (Kn_parse k).2.1) (deep := o) (W := W) (pre := pre) (post := ws ++ (qs ++ post)) (p := p) (ps := ps) (c' := c') (by rw [hW, List.append_assoc]) (by omega) hg e1 hst
        refine .inl ⟨hb, .someOf ds, ?_⟩
        rw [bdx_of a1]
        show bd (wl _ _ _) _ = _
        rw [bd_of a2]
        show cond ((ds.length : Int) == 1) _ _ = _
        rw [beq_eq_false_iff_ne.mpr (show (ds.length : Int) ≠ 1 by omega)]
        rfl
      · refine .inr ⟨hb, ?_⟩
        obtain ⟨a1, a2⟩ := parts_er (f := k) (w := "or") (g := (Kn_parse k).2.1) (deep := o) (E := .NoWords ((pre.length + (hdw "or" ((p :: ps).map (·.2)) ++ ws).length + qs.length : Nat) : Int)) (W := W) (pre := pre) (post := ws ++ (qs ++ post)) (p := p) (ps := ps) (by rw [hW, List.append_assoc]) (by omega) hg (fun c1 ds hd => bt_er (by omega) (by
          rw [Int.sub_add_cancel]
          exact e1))
        rw [bdx_of a1]
        show bd (wl _ _ _) _ = _
        rw [bd_of a2]
        rfl
open SX TL
theorem Tx.mk {c : Cd} {r : Int} {ws : List Str} {d : Int} (h : Tx c r ws d) : Mk (3 * d.toNat + (3 - r).toNat) c := by
  induction h with
  | @atom c g h =>
    have := (Gd.mk g).2
    cases c with
    | plain u => exact .plain u
    | cause x => cases this with | cause h => exact .cause h
    | thing x => cases this with | thing h => exact .thing h
    | days p => exact .days p
    | over v => exact .over v
    | notOf u => cases h
    | allOf u => cases h
    | someOf u => cases h
  | @not c ws d h ih =>
    have := h.d0.1
    exact (Mk.notOf ih).up (by omega)
  | @par c r ws d h ih =>
    have := h.d0
    exact ih.up (by omega)
  | @all ps d l k h ih =>
    have d0 : 0 ≤ d := by
      cases ps with
      | nil => exact absurd l.1 (by decide)
      | cons p r => exact (h p List.mem_cons_self).d0.1
    refine (Mk.allOf (n := 3 * d.toNat) (by rw [List.length_map]; omega) fun c m => ?_).up (by omega)
    obtain ⟨p, mp, rfl⟩ := List.mem_map.mp m
    have := ih p mp
    rw [k p mp] at this
    exact this
  | @some ps d l k h ih =>
    have d0 : 0 ≤ d := by
      cases ps with
      | nil => exact absurd l.1 (by decide)
      | cons p r => exact (h p List.mem_cons_self).d0.1
    refine (Mk.someOf (n := 3 * d.toNat + 1) (by rw [List.length_map]; omega) fun c m => ?_).up (by omega)
    obtain ⟨p, mp, rfl⟩ := List.mem_map.mp m
    exact (ih p mp).up (by have := k p mp; omega)
  | up h l ih =>
    have := h.d0.1
    exact ih.up (by omega)
/-- a row: the parts ahead of one of them -/
theorem jn_split (w : Str) : ∀ (A : List (List Str)) (x : List Str) (B : List (List Str)), jn w (A ++ x :: B) = hdw w A ++ (x ++ tail w B)
  | [], x, B => rfl
  | [a], x, B => by
    show a ++ (w :: (x ++ tail w B)) = (a ++ [w]) ++ (x ++ tail w B)
    simp
  | a :: b :: A, x, B => by
    have ih := jn_split w (b :: A) x B
    show a ++ (w :: (jn w ((b :: A) ++ x :: B))) = (a ++ (w :: hdw w (b :: A))) ++ (x ++ tail w B)
    rw [ih]
    simp
/-- a place among the words of a row: in a part, or a joiner -/
theorem jn_place (w : Str) : ∀ (xs : List (List Str)) (p : Nat), p < (jn w xs).length → ∃ (A : List (List Str)) (x : List Str) (B : List (List Str)), xs = A ++ x :: B ∧ ((∃ q, q < x.length ∧ p = (hdw w A).length + q) ∨ (B ≠ [] ∧ p = (hdw w A).length + x.length))
  | [], p, h => absurd h (Nat.not_lt_zero p)
  | [x], p, h => ⟨[], x, [], rfl, .inl ⟨p, by
      have : (jn w [x]).length = x.length := by show (x ++ []).length = _; rw [List.append_nil]
      omega, by show p = 0 + p; omega⟩⟩
  | x :: y :: r, p, h => by
    by_cases h1 : p < x.length
    · exact ⟨[], x, y :: r, rfl, .inl ⟨p, h1, by show p = 0 + p; omega⟩⟩
    by_cases h2 : p = x.length
    · exact ⟨[], x, y :: r, rfl, .inr ⟨(fun z => nomatch z), by show p = 0 + x.length; omega⟩⟩
    have e : (jn w (x :: y :: r)).length = x.length + 1 + (jn w (y :: r)).length := by
      show (x ++ (w :: jn w (y :: r))).length = _
      rw [List.length_append, List.length_cons]
      omega
    obtain ⟨A, z, B, e1, h3⟩ := jn_place w (y :: r) (p - (x.length + 1)) (by omega)
    have eh : (hdw w (x :: A)).length = x.length + 1 + (hdw w A).length := by
      show (x ++ (w :: hdw w A)).length = _
      rw [List.length_append, List.length_cons]
      omega
    refine ⟨x :: A, z, B, by rw [e1]; rfl, ?_⟩
    rcases h3 with ⟨q, hq, e3⟩ | ⟨hB, e3⟩
    · exact .inl ⟨q, hq, by omega⟩
    · exact .inr ⟨hB, by omega⟩
theorem jn_take {w : Str} {A B : List (List Str)} {x : List Str} {q : Nat} (h : q ≤ x.length) : (jn w (A ++ x :: B)).take ((hdw w A).length + q) = hdw w A ++ x.take q := by
  rw [jn_split, List.take_length_add_append, List.take_append_of_le_length h]
/-- contexts follow each other -/
theorem Hx.trans {o e e2 : Int} {r h h2 : Nat} {ws ws2 : List Str} {b b2 : Bool} (x : Hx o r h ws e b) (y : Hx e h h2 ws2 e2 b2) : ∃ b3, Hx o r h2 (ws ++ ws2) e2 b3 := by
  induction x with
  | id => exact ⟨_, y⟩
  | not l x ih => obtain ⟨b3, z⟩ := ih y; exact ⟨_, .not l z⟩
  | par l x ih => obtain ⟨b3, z⟩ := ih y; exact ⟨_, .par l z⟩
  | all ps l ld t x ih =>
    obtain ⟨b3, z⟩ := ih y
    rw [List.append_assoc]
    exact ⟨_, .all ps l ld t z⟩
  | some ps l ld t x ih =>
    obtain ⟨b3, z⟩ := ih y
    rw [List.append_assoc]
    exact ⟨_, .some ps l ld t z⟩
/-- a wider way to read -/
theorem hx_down {o : Int} (ho : o ≤ 6) {r s : Nat} (hr : r = 1 ∨ r = 2 ∨ r = 3) (hs : s = 1 ∨ s = 2 ∨ s = 3) (h : r ≤ s) : Hx o r s [] o false := by
  have a : Hx o 2 3 [] o false := .all (d := 0) [] (by decide) (by omega) (fun _ m => nomatch m) .id
  have b : Hx o 1 2 [] o false := .some (d := 0) [] (by decide) (by omega) (fun _ m => nomatch m) .id
  have c : Hx o 1 3 [] o false := .some (d := 0) [] (by decide) (by omega) (fun _ m => nomatch m) a
  rcases hr with rfl | rfl | rfl
  · rcases hs with rfl | rfl | rfl
    · exact .id
    · exact b
    · exact c
  · rcases hs with rfl | rfl | rfl
    · exact absurd h (by decide)
    · exact .id
    · exact a
  · rcases hs with rfl | rfl | rfl
    · exact absurd h (by decide)
    · exact absurd h (by decide)
    · exact .id
/-- the last piece of what is written -/
theorem last_piece {c : Cd} {r : Int} {ws : List Str} {d : Int} (h : Tx c r ws d) : ∀ {o : Int}, 0 ≤ o → o + d ≤ 6 → ∃ (a : List Str) (q : List Str) (c' : Cd) (b : Bool), ws = a ++ q ∧ Hx o r.toNat 3 a o b ∧ Tx c' 3 q d := by
  induction h with
  | @atom c g h => exact fun {o} h0 l => ⟨[], _, c, _, rfl, .id, .atom g h⟩
  | @not c ws d h ih => exact fun {o} h0 l => ⟨[], _, _, _, rfl, .id, .not h⟩
  | @par c r ws d h ih => exact fun {o} h0 l => ⟨[], _, _, _, rfl, .id, .par h⟩
  | @all ps d l k h ih =>
    intro o h0 ld
    rcases List.eq_nil_or_concat ps with rfl | ⟨A, p, e0⟩
    · exact absurd l.1 (by decide)
    · rw [List.concat_eq_append] at e0
      subst e0
      rw [List.length_append] at l
      have l2 : A.length + 1 ≤ 8 := l.2
      have t := h p (by simpa using mp)
      rw [k p (by simpa using mp)] at t
      refine ⟨hdw "and" (A.map (·.2.2)), p.2.2, p.1, false, ?_, ?_, t⟩
      · have := jn_split "and" (A.map (·.2.2)) p.2.2 []
        rw [show tail "and" [] = ([] : List Str) from rfl, List.append_nil] at this
        rw [List.map_append]
        exact this
      · have := Hx.all (o := o) (e := o) (d := d) (h := 3) (ws := []) (b := false) (A.map fun p => (p.1, p.2.2)) (by rw [List.length_map]; omega) ld (fun q m => by
          obtain ⟨p', mp', rfl⟩ := List.mem_map.mp m
          have t := h p' (by simp [mp'])
          rw [k p' (by simp [mp'])] at t
          exact t) .id
        rw [List.append_nil, List.map_map] at this
        exact this
  | @some ps d l k h ih =>
    intro o h0 ld
    rcases List.eq_nil_or_concat ps with rfl | ⟨A, p, e0⟩
    · exact absurd l.1 (by decide)
    · rw [List.concat_eq_append] at e0
      subst e0
      rw [List.length_append] at l
      have l2 : A.length + 1 ≤ 8 := l.2
      have mp : p ∈ A ++ [p] := by simp
      obtain ⟨a, q, c', b, e1, x, t⟩ := ih p mp h0 ld
      have kp := k p mp
      have d0 := (h p mp).d0
      obtain ⟨b3, x2⟩ := (hx_down (o := o) (r := 2) (s := p.2.1.toNat) (by omega) (.inr (.inl rfl)) (by omega) (by omega)).trans x
      refine ⟨hdw "or" (A.map (·.2.2)) ++ a, q, c', b3, ?_, ?_, t⟩
      · have := jn_split "or" (A.map (·.2.2)) p.2.2 []
        rw [show tail "or" [] = ([] : List Str) from rfl, List.append_nil, e1] at this
        rw [List.map_append, List.append_assoc]
        show jn "or" (A.map (·.2.2) ++ [p.2.2]) = _
        rw [← this, ← e1]
      · have := Hx.some (o := o) (e := o) (d := d) (h := 3) (ws := a) (b := b3) (A.map fun p => (p.1, p.2.2)) (by rw [List.length_map]; omega) ld (fun q m => by
          obtain ⟨p', mp', rfl⟩ := List.mem_map.mp m
          exact ⟨p'.2.1, k p' (by simp [mp']), h p' (by simp [mp'])⟩) x2
        rw [List.map_map] at this
        exact this
  | @up c r ws d e h l ih =>
    intro o h0 ld
    obtain ⟨a, q, c', b, e1, x, t⟩ := ih h0 (by omega)
    exact ⟨a, q, c', b, e1, x, t.up l⟩
/-- what stands ahead of a place: a piece may begin there, or one has ended, or an atom goes on -/
inductive Pos (o : Int) (r : Nat) (pre : List Str) : Prop where
  | a {e : Int} {b : Bool} (x : Hx o r 3 pre e b) (l : e ≤ 6) : Pos o r pre
  | b {e d : Int} {b : Bool} {a q : List Str} {c : Cd} (h : pre = a ++ q) (x : Hx o r 3 a e b) (t : Tx c 3 q d) (l : e + d ≤ 6) : Pos o r pre
  | c {e : Int} {b : Bool} {a : List Str} {c : Cd} {k : Nat} (h : pre = a ++ (wds c).take k) (x : Hx o r 3 a e b) (g : Gd c) (ha : isAtom c = true) (k0 : 0 < k ∧ k < (wds c).length) (l : e ≤ 6) : Pos o r pre
theorem Pos.lift {o e : Int} {r h : Nat} {ws pre : List Str} {b : Bool} (x : Hx o r h ws e b) (p : Pos e h pre) : Pos o r (ws ++ pre) := by
  cases p with
  | a y l => obtain ⟨b3, z⟩ := x.trans y; exact .a z l
  | b hh y t l => obtain ⟨b3, z⟩ := x.trans y; exact .b (by rw [hh, List.append_assoc]) z t l
  | c hh y g ha k0 l => obtain ⟨b3, z⟩ := x.trans y; exact .c (by rw [hh, List.append_assoc]) z g ha k0 l
theorem pos_of {c : Cd} {r : Int} {ws : List Str} {d : Int} (h : Tx c r ws d) : ∀ {o : Int}, 0 ≤ o → o + d ≤ 6 → ∀ p, p < ws.length → Pos o r.toNat (ws.take p) := by
  induction h with
  | @atom c g h =>
    intro o h0 l p hp
    cases p with
    | zero => exact .a .id (by omega)
    | succ p => exact .c (a := []) (k := p + 1) rfl .id g h ⟨Nat.succ_pos p, hp⟩ (by omega)
  | @not c ws d h ih =>
    intro o h0 l p hp
    have d0 := h.d0.1
    cases p with
    | zero => exact .a .id (by omega)
    | succ p =>
      rw [List.length_cons] at hp
      exact Pos.lift (.not (by omega) .id) (ih (o := o + 1) (by omega) (by omega) p (by omega))
  | @par c r ws d h ih =>
    intro o h0 l p hp
    have d0 := h.d0
    cases p with
    | zero => exact .a .id (by omega)
    | succ p =>
      have dn : Hx (o + 1) 1 r.toNat [] (o + 1) false := hx_down (by omega) (.inl rfl) (by omega) (by omega)
      rw [List.length_cons, List.length_append] at hp
      have hp : p + 1 < ws.length + 1 + 1 := hp
      show Pos o 3 (("(" : Str) :: (ws ++ [(")" : Str)]).take p)
      by_cases h1 : p < ws.length
      · rw [List.take_append_of_le_length (by omega)]
        exact Pos.lift (.par (by omega) dn) (ih (o := o + 1) (by omega) (by omega) p h1)
      · rw [show p = ws.length by omega, List.take_append_of_le_length (Nat.le_refl _), List.take_length]
        obtain ⟨a, q, c', b, e1, x, t⟩ := last_piece h (o := o + 1) (by omega) (by omega)
        obtain ⟨b3, z⟩ := dn.trans x
        exact .b (a := ("(" : Str) :: a) (q := q) (by rw [e1]; rfl) (.par (by omega) z) t (by omega)
  | @all ps d l k h ih =>
    intro o h0 ld p hp
    obtain ⟨A', x, B', e1, h2⟩ := jn_place "and" _ p hp
    obtain ⟨A, R, e2, e3, e4⟩ := List.map_eq_append_iff.mp e1
    obtain ⟨y, B, e5, e6, e7⟩ := List.map_eq_cons_iff.mp e4
    subst e2 e3 e5 e6 e7
    have my : y ∈ A ++ y :: B := by simp
    rw [List.length_append, List.length_cons] at l
    have ty := h y my
    have ky := k y my
    rw [ky] at ty
    have hx : Hx o 2 3 (hdw "and" (A.map (·.2.2))) o false := by
      have := Hx.all (o := o) (e := o) (d := d) (h := 3) (ws := []) (b := false) (A.map fun p => (p.1, p.2.2)) (by rw [List.length_map]; omega) ld (fun q m => by
        obtain ⟨p', mp', rfl⟩ := List.mem_map.mp m
        have t := h p' (by simp [mp'])
        rw [k p' (by simp [mp'])] at t
        exact t) .id
      rw [List.append_nil, List.map_map] at this
      exact this
    show Pos o 2 _
    rw [List.map_append, List.map_cons]
    rcases h2 with ⟨q, hq, rfl⟩ | ⟨hB, rfl⟩
    · rw [jn_take (by omega)]
      have z := ih y my (o := o) h0 ld q hq
      rw [ky] at z
      exact Pos.lift hx z
    · rw [jn_take (Nat.le_refl _), List.take_length]
      exact .b rfl hx ty ld
  | @some ps d l k h ih =>
    intro o h0 ld p hp
    obtain ⟨A', x, B', e1, h2⟩ := jn_place "or" _ p hp
    obtain ⟨A, R, e2, e3, e4⟩ := List.map_eq_append_iff.mp e1
    obtain ⟨y, B, e5, e6, e7⟩ := List.map_eq_cons_iff.mp e4
    subst e2 e3 e5 e6 e7
    have my : y ∈ A ++ y :: B := by simp
    rw [List.length_append, List.length_cons] at l
    have ty := h y my
    have ky := k y my
    have d0 := ty.d0
    have hx : Hx o 1 2 (hdw "or" (A.map (·.2.2))) o false := by
      have := Hx.some (o := o) (e := o) (d := d) (h := 2) (ws := []) (b := false) (A.map fun p => (p.1, p.2.2)) (by rw [List.length_map]; omega) ld (fun q m => by
        obtain ⟨p', mp', rfl⟩ := List.mem_map.mp m
        exact ⟨p'.2.1, k p' (by simp [mp']), h p' (by simp [mp'])⟩) .id
      rw [List.append_nil, List.map_map] at this
      exact this
    have dn : Hx o 2 y.2.1.toNat [] o false := hx_down (by omega) (.inr (.inl rfl)) (by omega) (by omega)
    show Pos o 1 _
    rw [List.map_append, List.map_cons]
    rcases h2 with ⟨q, hq, rfl⟩ | ⟨hB, rfl⟩
    · rw [jn_take (by omega)]
      exact Pos.lift hx (Pos.lift dn (ih y my (o := o) h0 ld q hq))
    · rw [jn_take (Nat.le_refl _), List.take_length]
      obtain ⟨a, q, c', b, e1, x, t⟩ := last_piece ty (o := o) h0 ld
      obtain ⟨b3, z⟩ := dn.trans x
      exact Pos.lift hx (.b e1 z t ld)
  | @up c r ws d e h l ih =>
    intro o h0 ld p hp
    exact ih h0 (by omega) p hp
theorem words_gd {ws : List Str} (h : ∀ w ∈ ws, Wd w) (l : ws.length ≤ 900) : (Txt.join (" " : Str) ws).length + 2 ≤ sizeLine := by
  have sj := sm_join (p := (" " : Str)) (m := 1) ⟨by decide +kernel, by decide +kernel⟩ (n := 63) fun y m => (h y m).1
  have jl := sj.1
  show _ ≤ 16777216
  have : ws.length * (63 + 1) ≤ 900 * 64 := Nat.mul_le_mul_right _ l
  omega
theorem refuse_long {ws : List Str} (h : ∀ w ∈ ws, Wd w) (l : 60 < ws.length ∧ ws.length ≤ 900) : M_read_condition (.str (Txt.join (" " : Str) ws)) = some (.er (.NoWords 60)) := by
  unfold M_read_condition
  rw [bd_of (str_is _)]
  refine Ok.eq (ok_f rfl ?_)
  rw [bd_of (show asS (.str (Txt.join (" " : Str) ws)) = some _ from rfl)]
  refine (ok_gd ⟨by decide +kernel, words_gd h l.2⟩ (ok_lt ?_))
  rw [split_join h (fun z => by rw [z] at l; exact absurd l.1 (by decide))]
  exact ok_t (decide_eq_true (by omega)) (ok_some rfl)
theorem refuse_er {ws : List Str} (h : ∀ w ∈ ws, Wd w) (ne : ws ≠ []) (l : ws.length ≤ 60) {E : Xc} (e : Lv 64 1 (ws, 0, 0) = some (.er E)) : M_read_condition (.str (Txt.join (" " : Str) ws)) = some (.er E) := by
  unfold M_read_condition
  rw [bd_of (str_is _)]
  refine Ok.eq (ok_f rfl ?_)
  rw [bd_of (show asS (.str (Txt.join (" " : Str) ws)) = some _ from rfl)]
  refine (ok_gd ⟨by decide +kernel, words_gd h (by omega)⟩ (ok_lt ?_))
  rw [split_join h ne]
  refine ok_f (decide_eq_false (by omega)) ?_
  rw [bdx_er (show Mf_some_at 64 ws 0 0 = _ from e)]
  exact ok_some rfl
theorem refuse_stop {ws : List Str} (h : ∀ w ∈ ws, Wd w) (ne : ws ≠ []) (l : ws.length ≤ 60) {p : Nat} {c : Cd} (hp : p < ws.length) (e : Lv 64 1 (ws, 0, 0) = some (.ok (c, (p : Int)))) : M_read_condition (.str (Txt.join (" " : Str) ws)) = some (.er (.NoWords (p : Int))) := by
  unfold M_read_condition
  rw [bd_of (str_is _)]
  refine Ok.eq (ok_f rfl ?_)
  rw [bd_of (show asS (.str (Txt.join (" " : Str) ws)) = some _ from rfl)]
  refine (ok_gd ⟨by decide +kernel, words_gd h (by omega)⟩ (ok_lt ?_))
  rw [split_join h ne]
  refine ok_f (decide_eq_false (by omega)) ?_
  rw [bdx_of (show Mf_some_at 64 ws 0 0 = _ from e)]
  exact ok_t (decide_eq_true (by show (p : Int) < _; omega)) (ok_some rfl)
/-- a bad word where a piece may begin, or behind a piece -/
theorem refuse_at {pre post : List Str} {x : Str} (hp : (∃ e b, Hx 0 1 3 pre e b ∧ e ≤ 6 ∧ noStart x) ∨ (∃ a q c e d b, pre = a ++ q ∧ Hx 0 1 3 a e b ∧ Tx c 3 q d ∧ e + d ≤ 6 ∧ stuck (x :: post))) (h : ∀ w ∈ pre ++ (x :: post), Wd w) (l : (pre ++ (x :: post)).length ≤ 60) : M_read_condition (.str (Txt.join (" " : Str) (pre ++ (x :: post)))) = some (.er (.NoWords (pre.length : Int))) := by
  have ne : pre ++ (x :: post) ≠ [] := by simp
  rcases hp with ⟨e, b, hx, le, hn⟩ | ⟨a, q, c, e, d, b, rfl, hx, t, le, hs⟩
  · have h0 := hx.le
    refine refuse_er h ne l ?_
    exact up_er hx ⟨Nat.le_refl _, by decide⟩ (Int.le_refl _) (m := 20) (Nat.le_refl _) (pre ++ (x :: post)) [] (x :: post) 64 rfl (fun g hg => by
      rw [List.length_nil, Nat.zero_add]
      exact leaf_bad rfl hn (by omega)) (by omega)
  · have h0 := hx.le
    have d0 := t.d0.1
    have z := up_stop hx rfl ⟨Nat.le_refl _, by decide⟩ (Int.le_refl _) (m := 20) (Nat.le_refl _) (c := c) (qs := q) ⟨hs.1, hs.2.1, fun _ => hs.2.2⟩ (a ++ q ++ (x :: post)) [] 64 (by simp only [List.append_assoc, List.nil_append]) (fun g hg => by
      have := read3 (k := g) t le h0 (by omega) (W := a ++ q ++ (x :: post)) (pre := a) (post := x :: post) (by rw [List.append_assoc])
      rw [List.length_nil, Nat.zero_add]
      exact this) (by omega)
    rw [List.length_nil, Nat.zero_add, ← List.length_append] at z
    rcases z with ⟨_, c', z⟩ | ⟨_, z⟩
    · exact refuse_stop h ne l (by simp only [List.length_append, List.length_cons]; omega) z
    · exact refuse_er h ne l z
open SX TL
theorem lp_all {R : Type} (F : List Nat) (r : R) : ∀ cs : List Nat, lpO (fun (x6 : Nat) (_ : Unit) => (cond (!decide (x6 ∈ F)) (some (.rt r)) <| some (.nx ()) : Option (Ou (Unit) (Unit) R))) cs () = some (if cs.all (fun c => decide (c ∈ F)) then .nx () else .rt r)
  | [] => rfl
  | c :: cs => by
    show bd (cond (!decide (c ∈ F)) _ _) _ = _
    rw [List.all_cons]
    by_cases h : c ∈ F
    · rw [decide_eq_true h, Bool.true_and]
      exact lp_all F r cs
    · rw [decide_eq_false h, Bool.false_and]
      rfl
abbrev FIG : List Nat := ("0123456789" : Str).cps.toList
abbrev ABCL : List Nat := ("abcdefghijklmnopqrstuvwxyz" : Str).cps.toList
def figB (x : Str) : Bool := x.cps.toList.all fun c => decide (c ∈ FIG)
theorem figs_is (x : Str) : M_all_figures x = some (figB x) := by
  unfold M_all_figures
  rw [lp_all, bd_of rfl]
  unfold figB
  cases (x.cps.toList.all fun c => decide (c ∈ FIG)) <;> rfl
def nameB (x : Str) : Bool := decide (1 ≤ x.length) && (decide (x.length ≤ 8) && x.cps.toList.all fun c => decide (c ∈ ABCL))
theorem isname_is {x : Str} (hl : x.length ≤ 63) : M_is_name x = some (nameB x) := by
  unfold M_is_name nameB
  refine Ok.eq (ok_f rfl (ok_gd (sz (by omega)) ?_))
  by_cases h1 : 1 ≤ x.length
  · by_cases h8 : x.length ≤ 8
    · rw [decide_eq_true h1, decide_eq_true h8, Bool.true_and, Bool.true_and]
      refine ok_bd (Q := fun b => b = false) (ok_f (decide_eq_false (by omega)) (ok_gd (sz (by omega)) (ok_some (decide_eq_false (by omega))))) fun b hb => ok_f hb ?_
      rw [lp_all, bd_of rfl]
      cases (x.cps.toList.all fun c => decide (c ∈ ABCL))
      · exact ok_some rfl
      · exact ok_some rfl
    · rw [decide_eq_false h8, Bool.false_and, Bool.and_false]
      exact ok_bd (Q := fun b => b = true) (ok_f (decide_eq_false (by omega)) (ok_gd (sz (by omega)) (ok_some (decide_eq_true (by omega))))) fun b hb => ok_t hb (ok_some rfl)
  · rw [decide_eq_false h1, Bool.false_and]
    exact ok_bd (Q := fun b => b = true) (ok_t (decide_eq_true (by omega)) (ok_some rfl)) fun b hb => ok_t hb (ok_some rfl)
theorem name_bad {W : List Str} {i : Int} {x : Str} (e : L2.atI W i = some x) (ne : (i == (W.length : Int)) = false) (hl : x.length ≤ 63) (h : nameB x = false) : M_name_at W i = some (.er (.NoWords i)) := by
  unfold M_name_at
  refine Ok.eq (ok_bd (Q := fun v => v = true) (ok_f ne ?_) fun v hv => ok_t hv (ok_some rfl))
  rw [bd_of e, bd_of (isname_is hl), h]
  exact ok_some rfl
theorem name_end {W : List Str} {i : Int} (h : i = (W.length : Int)) : M_name_at W i = some (.er (.NoWords i)) := by
  unfold M_name_at
  exact Ok.eq (ok_bd (Q := fun v => v = true) (ok_t (by rw [h, beq_self_eq_true]) (ok_some rfl)) fun v hv => ok_t hv (ok_some rfl))
/-- no day -/
def dayB (x : Str) : Bool := decide (x.length < 1) || (decide (7 < x.length) || ((decide (1 < x.length) && decide (x.cps.toList[0]? = some 48)) || (!(figB x) || (match intText? x with | some n => decide (1000000 < n) | none => false))))
theorem sg0 {c : Nat} : (sg1 c == ("0" : Str)) = decide (c = 48) := by
  by_cases h : c = 48
  · subst h
    rw [decide_eq_true rfl]
    decide +kernel
  · rw [decide_eq_false h, beq_eq_false_iff_ne]
    intro q
    have z : (("0") : Str) = S [48] := by decide +kernel
    rw [z] at q
    have := S_inj (a := [c]) (b := [48]) q
    exact h (by simpa using this)
theorem day_bad {W : List Str} {i : Int} {x : Str} (e : L2.atI W i = some x) (ne : (i == (W.length : Int)) = false) (hl : x.length ≤ 63) (h : dayB x = true) : M_day_at W i = some (.er (.NoWords i)) := by
  unfold M_day_at
  refine Ok.eq (ok_f ne ?_)
  rw [bd_of e]
  have z : x.length ≤ sizeLine := sz (by omega)
  refine ok_gd z ?_
  unfold dayB at h
  by_cases h1 : x.length < 1
  · exact ok_bd (Q := fun b => b = true) (ok_t (decide_eq_true (by omega)) (ok_some rfl)) fun b hb => ok_t hb (ok_some rfl)
  by_cases h7 : 7 < x.length
  · exact ok_bd (Q := fun b => b = true) (ok_f (decide_eq_false (by omega)) (ok_gd z (ok_bd (Q := fun b => b = true) (ok_t (decide_eq_true (by omega)) (ok_some rfl)) fun b hb => ok_some hb))) fun b hb => ok_t hb (ok_some rfl)
  rw [decide_eq_false h1, decide_eq_false h7, Bool.false_or, Bool.false_or] at h
  have xl : x.cps.toList.length = x.length := (TL.len_tl x).symm
  have x0 : 0 < x.cps.toList.length := by omega
  by_cases h0 : 1 < x.length ∧ x.cps.toList[0]? = some 48
  · refine ok_bd (Q := fun b => b = true) (ok_f (decide_eq_false (by omega)) (ok_gd z (ok_bd (Q := fun b => b = true) (ok_f (decide_eq_false (by omega)) (ok_gd z (ok_bd (Q := fun b => b = true) (ok_t (decide_eq_true (by omega)) ?_) fun b hb => ok_some hb))) fun b hb => ok_some hb))) fun b hb => ok_t hb (ok_some rfl)
    rw [bd_of (show L2.atI x.cps.toList 0 = some 48 from atI_nat (j := 0) h0.2)]
    exact ok_gd z (ok_some (by rw [sg0]; rfl))
  · have h : (!(figB x) || (match intText? x with | some n => decide (1000000 < n) | none => false)) = true := by
      rcases Bool.or_eq_true_iff.mp h with h | h
      · have h := Bool.and_eq_true_iff.mp h
        exact absurd ⟨of_decide_eq_true h.1, of_decide_eq_true h.2⟩ h0
      · exact h
    refine ok_bd (Q := fun b => b = false) (ok_f (decide_eq_false (by omega)) (ok_gd z (ok_bd (Q := fun b => b = false) (ok_f (decide_eq_false (by omega)) (ok_gd z (ok_bd (Q := fun b => b = false) (ok_cond (fun h2 => ?_) fun _ => ok_some rfl) fun b hb => ok_some hb))) fun b hb => ok_some hb))) fun b hb => ok_f hb ?_
    · have h2 := of_decide_eq_true h2
      rw [bd_of (show L2.atI x.cps.toList 0 = some x.cps.toList[0] from atI_nat (j := 0) (List.getElem?_eq_getElem x0))]
      refine ok_gd z (ok_some ?_)
      rw [sg0, decide_eq_false_iff_not]
      exact fun q => h0 ⟨by omega, by rw [List.getElem?_eq_getElem x0, q]⟩
    · rw [lp_all, bd_of rfl]
      by_cases hf : figB x = true
      · rw [hf] at h
        have hf : (x.cps.toList.all fun c => decide (c ∈ ("0123456789" : Str).cps.toList)) = true := hf
        rw [hf]
        cases hi : intText? x with
        | none => rw [hi] at h; cases h
        | some n =>
          rw [hi] at h
          have h : 1000000 < n := of_decide_eq_true h
          show Ok (bd (some n) _) _
          refine ok_gd (by show x.length ≤ 640; omega) ?_
          have hd : M_is_day n = some false := by
            unfold M_is_day
            have hw : M_is_whole (.int n) = some true := by
              unfold M_is_whole
              rw [bd_of (show isiD "int" (.int n) = some true from (by decide +kernel : kitB "int" "int" = some true))]
              refine Ok.eq (ok_bd (Q := fun v => v = true) (ok_t rfl ?_) fun v hv => ok_some hv)
              rw [bd_of (show isiD "bool" (.int n) = some false from (by decide +kernel : kitB "int" "bool" = some false))]
              exact ok_some rfl
            rw [bd_of hw, decide_eq_false (show ¬ n ≤ 1000000 by omega), Bool.and_false, Bool.and_false]
          rw [bd_of hd]
          exact ok_t rfl (ok_some rfl)
      · have hf : (x.cps.toList.all fun c => decide (c ∈ ("0123456789" : Str).cps.toList)) = false := by
          have : figB x = false := by cases q : figB x; rfl; exact absurd q hf
          exact this
        rw [hf]
        exact ok_some rfl
theorem day_end {W : List Str} {i : Int} (h : i = (W.length : Int)) : M_day_at W i = some (.er (.NoWords i)) := by
  unfold M_day_at
  exact Ok.eq (ok_t (by rw [h, beq_self_eq_true]) (ok_some rfl))
/-- no amount -/
def amtB (x : Str) : Bool := (decide ((Txt.partition x (".")).1.length ≤ 100) && decide ((Txt.partition x (".")).2.2.length ≤ 100)) && (((Txt.partition x (".")).2.1 == ("" : Str)) || (!(((Txt.partition x (".")).2.2.length : Int) == 2) || (!(figB (Txt.partition x (".")).2.2) ||
  (decide (((Txt.partition x (".")).1.length : Int) < 1) || (decide (10 < ((Txt.partition x (".")).1.length : Int)) || (!(figB (Txt.partition x (".")).1) || (decide ((Txt.partition x (".")).1.cps.toList[0]? = some 48) && decide (1 < ((Txt.partition x (".")).1.length : Int)))))))))
theorem cents_no {x : Str} (hl : x.length ≤ 63) (h : amtB x = true) : M_read_cents x = some (.er .NoAmount) := by
  unfold amtB at h
  unfold M_read_cents
  generalize (Txt.partition x (".")) = p at h ⊢
  obtain ⟨h0, h⟩ := Bool.and_eq_true_iff.mp h
  obtain ⟨l1, l2⟩ := Bool.and_eq_true_iff.mp h0
  have l1 := of_decide_eq_true l1
  have l2 := of_decide_eq_true l2
  refine Ok.eq (ok_f rfl (ok_gd (sz (by omega)) ?_))
  rw [figs_is, figs_is]
  cases c1 : (p.2.1 == ("" : Str)) with
  | true => exact ok_bd (Q := fun b => b = true) (ok_some rfl) fun b hb => ok_t hb (ok_some rfl)
  | false =>
  rw [c1, Bool.false_or] at h
  cases c2 : (!((p.2.2.length : Int) == 2)) with
  | true => exact ok_bd (Q := fun b => b = true) (ok_f rfl (ok_gd (sz (by omega)) (ok_bd (Q := fun b => b = true) (ok_some rfl) fun b hb => ok_some hb))) fun b hb => ok_t hb (ok_some rfl)
  | false =>
  rw [c2, Bool.false_or] at h
  cases c3 : (!(figB p.2.2)) with
  | true => exact ok_bd (Q := fun b => b = true) (ok_f rfl (ok_gd (sz (by omega)) (ok_bd (Q := fun b => b = true) (ok_f rfl (ok_some c3)) fun b hb => ok_some hb))) fun b hb => ok_t hb (ok_some rfl)
  | false =>
  rw [c3, Bool.false_or] at h
  refine ok_bd (Q := fun b => b = false) (ok_f rfl (ok_gd (sz (by omega)) (ok_bd (Q := fun b => b = false) (ok_f rfl (ok_some c3)) fun b hb => ok_some hb))) fun b hb => ok_f hb (ok_gd (sz (by omega)) ?_)
  cases c4 : decide ((p.1.length : Int) < 1) with
  | true => exact ok_bd (Q := fun b => b = true) (ok_t rfl (ok_some rfl)) fun b hb => ok_t hb (ok_some rfl)
  | false =>
  rw [c4, Bool.false_or] at h
  cases c5 : decide (10 < (p.1.length : Int)) with
  | true => exact ok_bd (Q := fun b => b = true) (ok_f rfl (ok_gd (sz (by omega)) (ok_bd (Q := fun b => b = true) (ok_t rfl (ok_some rfl)) fun b hb => ok_some hb))) fun b hb => ok_t hb (ok_some rfl)
  | false =>
  rw [c5, Bool.false_or] at h
  cases c6 : (!(figB p.1)) with
  | true => exact ok_bd (Q := fun b => b = true) (ok_f rfl (ok_gd (sz (by omega)) (ok_bd (Q := fun b => b = true) (ok_f rfl (ok_some c6)) fun b hb => ok_some hb))) fun b hb => ok_t hb (ok_some rfl)
  | false =>
  rw [c6, Bool.false_or] at h
  refine ok_bd (Q := fun b => b = false) (ok_f rfl (ok_gd (sz (by omega)) (ok_bd (Q := fun b => b = false) (ok_f rfl (ok_some c6)) fun b hb => ok_some hb))) fun b hb => ok_f hb ?_
  obtain ⟨h1, h2⟩ := Bool.and_eq_true_iff.mp h
  rw [bd_of (show L2.atI p.1.cps.toList 0 = some 48 from atI_nat (j := 0) (of_decide_eq_true h1))]
  refine ok_gd (sz (by omega)) (ok_bd (Q := fun b => b = true) (ok_t (by rw [sg0]; rfl) (ok_gd (sz (by omega)) (ok_some h2))) fun b hb => ok_t hb (ok_some rfl))
theorem cents_bad {W : List Str} {i : Int} {x : Str} (e : L2.atI W i = some x) (ne : (i == (W.length : Int)) = false) (hl : x.length ≤ 63) (h : amtB x = true) : M_cents_at W i = some (.er (.NoWords i)) := by
  unfold M_cents_at
  refine Ok.eq (ok_f ne ?_)
  rw [bd_of e, trS_er (cents_no hl h) rfl]
  exact ok_some rfl
theorem cents_end {W : List Str} {i : Int} (h : i = (W.length : Int)) : M_cents_at W i = some (.er (.NoWords i)) := by
  unfold M_cents_at
  exact Ok.eq (ok_t (by rw [h, beq_self_eq_true]) (ok_some rfl))
theorem amt_tests : (["", "5", "5.0", "05.00", "1.000", ".50", "-1.00", "12345678901.00", "1,00", "over", "1.0a"] : List Str).all amtB = true := by decide +kernel
theorem day_tests : (["", "-1", "007", "00", "1000001", "10000000", "1.0", "x", "+5", "days", "1e3", "1_0"] : List Str).all dayB = true := by decide +kernel
theorem name_tests : (["", "Roof", "12", "(", ")", "abcdefghi", "a.b", "roof-", "a1", "A"] : List Str).all (fun x => !nameB x) = true := by decide +kernel
open SX TL
abbrev KW5 : List (Str × Int) := [(("always" : Str), (5 : Int)), (("cause" : Str), (1 : Int)), (("thing" : Str), (1 : Int)), (("days" : Str), (2 : Int))]
/-- a word read: role and brackets open -/
def stp (s : Int × Int) (w : Str) : Int × Int :=
  if s.1 = 0 ∧ w = "(" then (s.1, s.2 + 1) else if s.1 = 0 ∧ w ≠ "not" then (dgI KW5 w 4, s.2) else if s.1 = 2 then (3, s.2) else if s.1 = 5 ∧ w = ")" then (s.1, s.2 - 1) else if s.1 = 5 then (0, s.2) else if 0 < s.1 then (5, s.2) else s
def sta (ws : List Str) : Int × Int := ws.foldl stp (0, 0)
theorem dec_and {a b : Prop} [Decidable a] [Decidable b] : (decide a && decide b) = decide (a ∧ b) := by
  by_cases ha : a <;> by_cases hb : b <;> simp [ha, hb]
theorem roles_ok {ws : List Str} (hl : ws.length ≤ 100) : Ok (M__law_roles ws) fun p => p.1.length = ws.length + 1 ∧ p.2.length = ws.length + 1 ∧ ∀ k, k ≤ ws.length → p.1[k]? = some (sta (ws.take k)).1 ∧ p.2[k]? = some (sta (ws.take k)).2 := by
  unfold M__law_roles
  refine ok_lt (ok_lt (ok_bd (ok_lp (fun i (p : (List Int) × (List Int) × Int × Int) => p.1.length = i ∧ p.2.1.length = i ∧ (p.2.2.2, p.2.2.1) = sta (ws.take i) ∧ ∀ k, k < i → p.1[k]? = some (sta (ws.take k)).1 ∧ p.2.1[k]? = some (sta (ws.take k)).2) ⟨rfl, rfl, rfl, fun k hk => absurd hk (Nat.not_lt_zero k)⟩ (fun i x p hx hp => ?_) fun p hp => hp) fun p hp => ?_))
  · obtain ⟨hi, ex⟩ := List.getElem?_eq_some_iff.mp hx
    obtain ⟨l1, l2, st, ih⟩ := hp
    have es : sta (ws.take (i + 1)) = stp (p.2.2.2, p.2.2.1) x := by
      unfold sta
      rw [List.take_succ, hx, List.foldl_append, st]
      rfl
    refine ok_gd (szl (by omega)) (ok_lt (ok_gd (szl (by omega)) (ok_lt ?_)))
    have fin : ∀ r d : Int, (r, d) = stp (p.2.2.2, p.2.2.1) x → Ok (some ((p.1 ++ [p.2.2.2], p.2.1 ++ [p.2.2.1], d, r) : (List Int) × (List Int) × Int × Int)) (fun p => p.1.length = i + 1 ∧ p.2.1.length = i + 1 ∧ (p.2.2.2, p.2.2.1) = sta (ws.take (i + 1)) ∧ ∀ k, k < i + 1 → p.1[k]? = some (sta (ws.take k)).1 ∧ p.2.1[k]? = some (sta (ws.take k)).2) := fun r d e => ok_some ⟨by rw [List.length_append, l1]; rfl, by rw [List.length_append, l2]; rfl, by rw [es]; exact e, fun k hk => by
      by_cases hk2 : k < i
      · rw [List.getElem?_append_left (by omega), List.getElem?_append_left (by omega)]
        exact ih k hk2
      · have : k = i := by omega
        subst this
        rw [List.getElem?_append_right (by omega), List.getElem?_append_right (by omega), l1, l2, Nat.sub_self, ← st]
        exact ⟨rfl, rfl⟩⟩
    generalize p.2.2.2 = r0 at *
    generalize p.2.2.1 = d0 at *
    have b1 : ((r0 == 0) && (x == ("(" : Str))) = decide (r0 = 0 ∧ x = "(") := by
      rw [← dec_and]; congr 1
    have b2 : ((r0 == 0) && (!(x == ("not" : Str)))) = decide (r0 = 0 ∧ x ≠ "not") := by
      rw [← dec_and]; congr 1
      by_cases q : x = "not"
      · rw [q]; decide +kernel
      · rw [beq_eq_false_iff_ne.mpr q, decide_eq_true q]; rfl
    have b4 : ((r0 == 5) && (x == (")" : Str))) = decide (r0 = 5 ∧ x = ")") := by
      rw [← dec_and]; congr 1
    rw [b1, b2, b4]
    unfold stp at fin
    refine ok_cond (fun h => ok_lt (fin _ _ ?_)) fun h1 => ok_cond (fun h => ok_lt (fin _ _ ?_)) fun h2 => ok_cond (fun h => fin _ _ ?_) fun h3 => ok_cond (fun h => ok_lt (fin _ _ ?_)) fun h4 => ok_cond (fun h => fin _ _ ?_) fun h5 => ok_cond (fun h => fin _ _ ?_) fun h6 => fin _ _ ?_
    · rw [if_pos (of_decide_eq_true h)]
    · rw [if_neg (of_decide_eq_false h1), if_pos (of_decide_eq_true h)]
    · rw [if_neg (of_decide_eq_false h1), if_neg (of_decide_eq_false h2), if_pos (eq_of_beq h)]
    · rw [if_neg (of_decide_eq_false h1), if_neg (of_decide_eq_false h2), if_neg (beq_eq_false_iff_ne.mp h3), if_pos (of_decide_eq_true h)]
    · rw [if_neg (of_decide_eq_false h1), if_neg (of_decide_eq_false h2), if_neg (beq_eq_false_iff_ne.mp h3), if_neg (of_decide_eq_false h4), if_pos (eq_of_beq h)]
    · rw [if_neg (of_decide_eq_false h1), if_neg (of_decide_eq_false h2), if_neg (beq_eq_false_iff_ne.mp h3), if_neg (of_decide_eq_false h4), if_neg (beq_eq_false_iff_ne.mp h5), if_pos (of_decide_eq_true h)]
    · rw [if_neg (of_decide_eq_false h1), if_neg (of_decide_eq_false h2), if_neg (beq_eq_false_iff_ne.mp h3), if_neg (of_decide_eq_false h4), if_neg (beq_eq_false_iff_ne.mp h5), if_neg (of_decide_eq_false h6)]
  · obtain ⟨l1, l2, st, ih⟩ := hp
    refine ok_gd (sz (by rw [l1]; show _ + 1 ≤ _; omega)) (ok_gd (sz (by rw [l2]; show _ + 1 ≤ _; omega)) (ok_some ⟨by rw [List.length_append, l1]; rfl, by rw [List.length_append, l2]; rfl, fun k hk => ?_⟩))
    by_cases hk2 : k < ws.length
    · rw [List.getElem?_append_left (by omega), List.getElem?_append_left (by omega)]
      exact ih k hk2
    · have : k = ws.length := by omega
      subst this
      rw [List.getElem?_append_right (by omega), List.getElem?_append_right (by omega), l1, l2, Nat.sub_self, ← st]
      exact ⟨rfl, rfl⟩
theorem stp_not (d : Int) : stp (0, d) "not" = (0, d) := by
  unfold stp
  dsimp only
  rw [if_neg (fun z => absurd z.2 (by decide +kernel)), if_neg (fun z => z.2 rfl), if_neg (by decide), if_neg (fun z => absurd z.1 (by decide)), if_neg (by decide), if_neg (by decide)]
theorem stp_par (d : Int) : stp (0, d) "(" = (0, d + 1) := by
  unfold stp
  dsimp only
  rw [if_pos ⟨rfl, rfl⟩]
theorem stp_kw {w : Str} (d : Int) (h1 : w ≠ "(") (h2 : w ≠ "not") : stp (0, d) w = (dgI KW5 w 4, d) := by
  unfold stp
  dsimp only
  rw [if_neg (fun z => h1 z.2), if_pos ⟨rfl, h2⟩]
theorem stp_2 (w : Str) (d : Int) : stp (2, d) w = (3, d) := by
  unfold stp
  dsimp only
  rw [if_neg (fun z => absurd z.1 (by decide)), if_neg (fun z => absurd z.1 (by decide)), if_pos rfl]
theorem stp_5 {w : Str} (d : Int) (h : w ≠ ")") : stp (5, d) w = (0, d) := by
  unfold stp
  dsimp only
  rw [if_neg (fun z => absurd z.1 (by decide)), if_neg (fun z => absurd z.1 (by decide)), if_neg (by decide), if_neg (fun z => h z.2), if_pos rfl]
theorem stp_cl (d : Int) : stp (5, d) ")" = (5, d - 1) := by
  unfold stp
  dsimp only
  rw [if_neg (fun z => absurd z.1 (by decide)), if_neg (fun z => absurd z.1 (by decide)), if_neg (by decide), if_pos ⟨rfl, rfl⟩]
theorem stp_o {r : Int} (w : Str) (d : Int) (h : r = 1 ∨ r = 3 ∨ r = 4) : stp (r, d) w = (5, d) := by
  unfold stp
  dsimp only
  rcases h with rfl | rfl | rfl
  · rw [if_neg (fun z => absurd z.1 (by decide)), if_neg (fun z => absurd z.1 (by decide)), if_neg (by decide), if_neg (fun z => absurd z.1 (by decide)), if_neg (by decide), if_pos (by decide)]
  · rw [if_neg (fun z => absurd z.1 (by decide)), if_neg (fun z => absurd z.1 (by decide)), if_neg (by decide), if_neg (fun z => absurd z.1 (by decide)), if_neg (by decide), if_pos (by decide)]
  · rw [if_neg (fun z => absurd z.1 (by decide)), if_neg (fun z => absurd z.1 (by decide)), if_neg (by decide), if_neg (fun z => absurd z.1 (by decide)), if_neg (by decide), if_pos (by decide)]
theorem kw_always (d : Int) : stp (0, d) "always" = (5, d) := by rw [stp_kw d (by decide +kernel) (by decide +kernel)]; rfl
theorem kw_cause (d : Int) : stp (0, d) "cause" = (1, d) := by
  rw [stp_kw d (by decide +kernel) (by decide +kernel), show dgI KW5 "cause" 4 = 1 by decide +kernel]
theorem kw_thing (d : Int) : stp (0, d) "thing" = (1, d) := by
  rw [stp_kw d (by decide +kernel) (by decide +kernel), show dgI KW5 "thing" 4 = 1 by decide +kernel]
theorem kw_days (d : Int) : stp (0, d) "days" = (2, d) := by
  rw [stp_kw d (by decide +kernel) (by decide +kernel), show dgI KW5 "days" 4 = 2 by decide +kernel]
theorem kw_over (d : Int) : stp (0, d) "over" = (4, d) := by
  rw [stp_kw d (by decide +kernel) (by decide +kernel), show dgI KW5 "over" 4 = 4 by decide +kernel]
theorem fold_atom {c : Cd} (h : isAtom c = true) (d : Int) : (wds c).foldl stp (0, d) = (5, d) := by
  cases c with
  | plain u => exact kw_always d
  | cause x => show stp (stp (0, d) "cause") x = _; rw [kw_cause, stp_o x d (.inl rfl)]
  | thing x => show stp (stp (0, d) "thing") x = _; rw [kw_thing, stp_o x d (.inl rfl)]
  | days p => show stp (stp (stp (0, d) "days") (strI p.1)) (strI p.2) = _; rw [kw_days, stp_2, stp_o _ d (.inr (.inl rfl))]
  | over v => show stp (stp (0, d) "over") (amtS v.toNat) = _; rw [kw_over, stp_o _ d (.inr (.inr rfl))]
  | notOf c => cases h
  | allOf c => cases h
  | someOf c => cases h
theorem and_cl : ("and" : Str) ≠ ")" := by decide +kernel
theorem or_cl : ("or" : Str) ≠ ")" := by decide +kernel
theorem fold_tail {w : Str} (hw : w ≠ ")") (d : Int) : ∀ {xs : List (List Str)}, (∀ x ∈ xs, x.foldl stp (0, d) = (5, d)) → (tail w xs).foldl stp (5, d) = (5, d)
  | [], _ => rfl
  | x :: r, h => by
    show (x ++ tail w r).foldl stp (stp (5, d) w) = _
    rw [stp_5 d hw, List.foldl_append, h x List.mem_cons_self]
    exact fold_tail hw d fun y m => h y (List.mem_cons_of_mem _ m)
theorem fold_hdw {w : Str} (hw : w ≠ ")") (d : Int) : ∀ {xs : List (List Str)}, (∀ x ∈ xs, x.foldl stp (0, d) = (5, d)) → (hdw w xs).foldl stp (0, d) = (0, d)
  | [], _ => rfl
  | x :: r, h => by
    show (x ++ (w :: hdw w r)).foldl stp (0, d) = _
    rw [List.foldl_append, h x List.mem_cons_self]
    show (hdw w r).foldl stp (stp (5, d) w) = _
    rw [stp_5 d hw]
    exact fold_hdw hw d fun y m => h y (List.mem_cons_of_mem _ m)
theorem fold_tx {c : Cd} {r : Int} {ws : List Str} {dd : Int} (h : Tx c r ws dd) : ∀ d : Int, ws.foldl stp (0, d) = (5, d) := by
  induction h with
  | atom g h => exact fold_atom h
  | @not c ws dd h ih => intro d; show ws.foldl stp (stp (0, d) "not") = _; rw [stp_not]; exact ih d
  | @par c r ws dd h ih =>
    intro d
    show (ws ++ [(")" : Str)]).foldl stp (stp (0, d) "(") = _
    rw [stp_par, List.foldl_append, ih]
    show stp (5, d + 1) ")" = _
    rw [stp_cl, show d + 1 - 1 = d by omega]
  | @all ps dd l k h ih =>
    intro d
    cases ps with
    | nil => exact absurd l.1 (by decide)
    | cons p r =>
      show (p.2.2 ++ tail "and" (r.map (·.2.2))).foldl stp (0, d) = _
      rw [List.foldl_append, ih p List.mem_cons_self]
      exact fold_tail and_cl d fun x m => by obtain ⟨q, mq, rfl⟩ := List.mem_map.mp m; exact ih q (List.mem_cons_of_mem _ mq) d
  | @some ps dd l k h ih =>
    intro d
    cases ps with
    | nil => exact absurd l.1 (by decide)
    | cons p r =>
      show (p.2.2 ++ tail "or" (r.map (·.2.2))).foldl stp (0, d) = _
      rw [List.foldl_append, ih p List.mem_cons_self]
      exact fold_tail or_cl d fun x m => by obtain ⟨q, mq, rfl⟩ := List.mem_map.mp m; exact ih q (List.mem_cons_of_mem _ mq) d
  | up h l ih => exact ih
theorem fold_hx {o e : Int} {r h : Nat} {ws : List Str} {b : Bool} (x : Hx o r h ws e b) : ∃ n : Int, 0 ≤ n ∧ (b = true ↔ 0 < n) ∧ ∀ d : Int, ws.foldl stp (0, d) = (0, d + n) := by
  induction x with
  | id => exact ⟨0, Int.le_refl _, by simp, fun d => by show (0, d) = _; rw [Int.add_zero]⟩
  | @not o e h ws b l x ih =>
    obtain ⟨n, n0, hb, f⟩ := ih
    exact ⟨n, n0, hb, fun d => by show ws.foldl stp (stp (0, d) "not") = _; rw [stp_not]; exact f d⟩
  | @par o e h ws b l x ih =>
    obtain ⟨n, n0, hb, f⟩ := ih
    exact ⟨n + 1, by omega, ⟨fun _ => by omega, fun _ => rfl⟩, fun d => by
      show ws.foldl stp (stp (0, d) "(") = _
      rw [stp_par, f, show d + 1 + n = d + (n + 1) by omega]⟩
  | @all o e d h ws b ps l ld t x ih =>
    obtain ⟨n, n0, hb, f⟩ := ih
    exact ⟨n, n0, hb, fun d => by
      rw [List.foldl_append, fold_hdw and_cl d fun x m => by obtain ⟨q, mq, rfl⟩ := List.mem_map.mp m; exact fold_tx (t q mq) d]
      exact f d⟩
  | @some o e d h ws b ps l ld t x ih =>
    obtain ⟨n, n0, hb, f⟩ := ih
    exact ⟨n, n0, hb, fun d => by
      rw [List.foldl_append, fold_hdw or_cl d fun x m => by obtain ⟨q, mq, rfl⟩ := List.mem_map.mp m; obtain ⟨r, _, tr⟩ := t q mq; exact fold_tx tr d]
      exact f d⟩
/-- a word that can't stand at a place -/
def BadW (prev : Option Str) (role deep : Int) (x : Str) : Prop :=
  (role = 0 → noStart x) ∧ (role = 1 → nameB x = false) ∧ (role = 2 → dayB x = true) ∧
  (role = 3 → dayB x = true ∨ ∀ f : Nat, prev = some (strI (f : Int)) → ∃ m : Nat, m < f ∧ x = strI (m : Int)) ∧ (role = 4 → amtB x = true) ∧ (role = 5 → x ≠ "and" ∧ x ≠ "or" ∧ (0 < deep → x ≠ ")"))
theorem end_eq {α : Type} (pre : List α) (ws : List α) {k : Int} (h : k = (ws.length : Int)) : (pre.length : Int) + k = ((pre ++ ws).length : Int) := by
  rw [List.length_append, h]; rfl
/-- the atom refuses at the place where it is broken off -/
theorem atom_bad {c : Cd} (g : Gd c) (h : isAtom c = true) {k : Nat} (k0 : 0 < k ∧ k < (wds c).length) (a rest : List Str) (hr : rest = [] ∨ ∃ x post, rest = x :: post ∧ x.length ≤ 63 ∧ BadW ((wds c).take k).getLast? (((wds c).take k).foldl stp (0, 0)).1 0 x) :
    M_atom_at (a ++ ((wds c).take k ++ rest)) (a.length : Int) = some (.er (.NoWords ((a.length + k : Nat) : Int))) := by
  cases g with
  | plain u => exact absurd k0 (by show ¬ (0 < k ∧ k < 1); omega)
  | @cause nm g =>
    have k1 : k = 1 := by have : k < 2 := k0.2; omega
    subst k1
    show M_atom_at (a ++ (("cause" : Str) :: rest)) _ = _
    unfold M_atom_at
    rw [bd_of (show L2.atI (a ++ (("cause" : Str) :: rest)) (a.length : Int) = some "cause" from at_mid a _ _)]
    refine Ok.eq (ok_f (by decide +kernel) (ok_t (by decide +kernel) ?_))
    have e : M_name_at (a ++ (("cause" : Str) :: rest)) ((a.length : Int) + 1) = some (.er (.NoWords ((a.length : Int) + 1))) := by
      rcases hr with rfl | ⟨x, post, rfl, lx, hx⟩
      · exact name_end (end_eq a _ rfl)
      · exact name_bad (at_mid1 a _ x post) (not_end a (("cause" : Str) :: x :: post) 1 (by simp only [List.length_cons]; omega)) lx (hx.2.1 (by
          show (stp (0, 0) "cause").1 = 1
          rw [kw_cause]))
    rw [bdx_er e]
    exact ok_some rfl
  | @thing nm g =>
    have k1 : k = 1 := by have : k < 2 := k0.2; omega
    subst k1
    show M_atom_at (a ++ (("thing" : Str) :: rest)) _ = _
    unfold M_atom_at
    rw [bd_of (show L2.atI (a ++ (("thing" : Str) :: rest)) (a.length : Int) = some "thing" from at_mid a _ _)]
    refine Ok.eq (ok_f (by decide +kernel) (ok_f (by decide +kernel) (ok_t (by decide +kernel) ?_)))
    have e : M_name_at (a ++ (("thing" : Str) :: rest)) ((a.length : Int) + 1) = some (.er (.NoWords ((a.length : Int) + 1))) := by
      rcases hr with rfl | ⟨x, post, rfl, lx, hx⟩
      · exact name_end (end_eq a _ rfl)
      · exact name_bad (at_mid1 a _ x post) (not_end a (("thing" : Str) :: x :: post) 1 (by simp only [List.length_cons]; omega)) lx (hx.2.1 (by
          show (stp (0, 0) "thing").1 = 1
          rw [kw_thing]))
    rw [bdx_er e]
    exact ok_some rfl
  | over v g =>
    have k1 : k = 1 := by have : k < 2 := k0.2; omega
    subst k1
    show M_atom_at (a ++ (("over" : Str) :: rest)) _ = _
    unfold M_atom_at
    rw [bd_of (show L2.atI (a ++ (("over" : Str) :: rest)) (a.length : Int) = some "over" from at_mid a _ _)]
    refine Ok.eq (ok_f (by decide +kernel) (ok_f (by decide +kernel) (ok_f (by decide +kernel) (ok_t (by decide +kernel) ?_))))
    have e : M_cents_at (a ++ (("over" : Str) :: rest)) ((a.length : Int) + 1) = some (.er (.NoWords ((a.length : Int) + 1))) := by
      rcases hr with rfl | ⟨x, post, rfl, lx, hx⟩
      · exact cents_end (end_eq a _ rfl)
      · exact cents_bad (at_mid1 a _ x post) (not_end a (("over" : Str) :: x :: post) 1 (by simp only [List.length_cons]; omega)) lx (hx.2.2.2.2.1 (by
          show (stp (0, 0) "over").1 = 4
          rw [kw_over]))
    rw [bdx_er e]
    exact ok_some rfl
  | days p g =>
    obtain ⟨f, ea⟩ := Int.eq_ofNat_of_zero_le g.1
    obtain ⟨p1, p2⟩ := p
    have ea : p1 = (f : Int) := ea
    subst ea
    have g : 0 ≤ (f : Int) ∧ (f : Int) ≤ p2 ∧ p2 ≤ 1000000 := g
    have hk : k = 1 ∨ k = 2 := by have : k < 3 := k0.2; omega
    rcases hk with rfl | rfl
    · show M_atom_at (a ++ (("days" : Str) :: rest)) _ = _
      unfold M_atom_at
      rw [bd_of (show L2.atI (a ++ (("days" : Str) :: rest)) (a.length : Int) = some "days" from at_mid a _ _)]
      refine Ok.eq (ok_f (by decide +kernel) (ok_f (by decide +kernel) (ok_f (by decide +kernel) (ok_f (by decide +kernel) (ok_f (by decide +kernel) ?_)))))
      have e : M_day_at (a ++ (("days" : Str) :: rest)) ((a.length : Int) + 1) = some (.er (.NoWords ((a.length : Int) + 1))) := by
        rcases hr with rfl | ⟨x, post, rfl, lx, hx⟩
        · exact day_end (end_eq a _ rfl)
        · exact day_bad (at_mid1 a _ x post) (not_end a (("days" : Str) :: x :: post) 1 (by simp only [List.length_cons]; omega)) lx (hx.2.2.1 (by
            show (stp (0, 0) "days").1 = 2
            rw [kw_days]))
      rw [bdx_er e]
      exact ok_some rfl
    · show M_atom_at (a ++ (("days" : Str) :: strI (f : Int) :: rest)) _ = _
      unfold M_atom_at
      rw [bd_of (show L2.atI (a ++ (("days" : Str) :: strI (f : Int) :: rest)) (a.length : Int) = some "days" from at_mid a _ _)]
      refine Ok.eq (ok_f (by decide +kernel) (ok_f (by decide +kernel) (ok_f (by decide +kernel) (ok_f (by decide +kernel) (ok_f (by decide +kernel) ?_)))))
      rw [bdx_of (day_at_ok (W := a ++ (("days" : Str) :: strI (f : Int) :: rest)) (n := f) (at_mid1 a _ (strI (f : Int)) _) (not_end a (("days" : Str) :: strI (f : Int) :: rest) 1 (by simp only [List.length_cons]; omega)) (by omega))]
      rcases hr with rfl | ⟨x, post, rfl, lx, hx⟩
      · rw [bdx_er (show M_day_at (a ++ [("days" : Str), strI (f : Int)]) ((a.length : Int) + 2) = some (.er (.NoWords ((a.length : Int) + 2))) from day_end (end_eq a _ rfl))]
        exact ok_some rfl
      · have ne := not_end a (("days" : Str) :: strI (f : Int) :: x :: post) 2 (by simp only [List.length_cons]; omega)
        have role : (stp (stp (0, 0) "days") (strI (f : Int))).1 = 3 := by rw [kw_days, stp_2]
        rcases hx.2.2.2.1 role with hb | hb
        · rw [bdx_er (day_bad (at_mid2 a _ _ x post) ne lx hb)]
          exact ok_some rfl
        · obtain ⟨m, hm, rfl⟩ := hb f rfl
          rw [bdx_of (day_at_ok (n := m) (at_mid2 a _ _ (strI (m : Int)) post) ne (by omega))]
          exact ok_t (decide_eq_true (by omega)) (ok_some rfl)
  | notOf g => cases h
  | allOf l g => cases h
  | someOf l g => cases h
/-- .. and so does the piece -/
theorem leaf_atom {W : List Str} {a : List Str} {rest : List Str} {c : Cd} (h : isAtom c = true) {k : Nat} (k0 : 0 < k) (hW : W = a ++ ((wds c).take k ++ rest)) {E : Xc} (e : M_atom_at W (a.length : Int) = some (.er E)) {f : Nat} {o : Int} (hf : 1 ≤ f) : Lv f 3 (W, (a.length : Int), o) = some (.er E) := by
  obtain ⟨q, rfl⟩ : ∃ q, f = q + 1 := ⟨f - 1, by omega⟩
  obtain ⟨k, rfl⟩ : ∃ q, k = q + 1 := ⟨k - 1, by omega⟩
  obtain ⟨x, r, ex, hx1, hx2⟩ : ∃ x r, wds c = x :: r ∧ (x == ("not" : Str)) = false ∧ (x == ("(" : Str)) = false := by
    cases c with
    | plain u => exact ⟨"always", _, rfl, by decide +kernel, by decide +kernel⟩
    | cause u => exact ⟨"cause", _, rfl, by decide +kernel, by decide +kernel⟩
    | thing u => exact ⟨"thing", _, rfl, by decide +kernel, by decide +kernel⟩
    | days u => exact ⟨"days", _, rfl, by decide +kernel, by decide +kernel⟩
    | over u => exact ⟨"over", _, rfl, by decide +kernel, by decide +kernel⟩
    | notOf u => cases h
    | allOf u => cases h
    | someOf u => cases h
  have hW2 : W = a ++ (x :: (r.take k ++ rest)) := by rw [hW, ex]; rfl
  have ea : L2.atI W (a.length : Int) = some x := by rw [hW2]; exact at_mid a x _
  have hne : ((a.length : Int) == (W.length : Int)) = false := by
    have := not_end a (x :: (r.take k ++ rest)) 0 (by rw [List.length_cons]; omega)
    rw [hW2]
    rwa [Int.add_zero] at this
  show M_piece_at (Kn_parse q) W (a.length : Int) o = _
  unfold M_piece_at
  rw [hne, bd_of ea]
  show bd (cond (!(x == ("not" : Str))) (bd (L2.atI W (a.length : Int)) _) _) _ = _
  rw [hx1]
  show bd (bd (L2.atI W (a.length : Int)) _) _ = _
  rw [bd_of ea, hx2]
  show bdx (M_atom_at W (a.length : Int)) _ = _
  exact bdx_er e
open SX TL
theorem stp_role (r d d' : Int) (w : Str) : (stp (r, d) w).1 = (stp (r, d') w).1 := by
  unfold stp
  dsimp only
  split
  · rfl
  · split
    · rfl
    · split
      · rfl
      · split
        · rfl
        · split
          · rfl
          · split <;> rfl
theorem fold_role : ∀ (ws : List Str) (r d d' : Int), (ws.foldl stp (r, d)).1 = (ws.foldl stp (r, d')).1
  | [], _, _, _ => rfl
  | w :: ws, r, d, d' => by
    have e := stp_role r d d' w
    show (ws.foldl stp (stp (r, d) w)).1 = (ws.foldl stp (stp (r, d') w)).1
    have e1 : stp (r, d) w = ((stp (r, d) w).1, (stp (r, d) w).2) := rfl
    have e2 : stp (r, d') w = ((stp (r, d) w).1, (stp (r, d') w).2) := by rw [e]
    rw [e1, e2]
    exact fold_role ws _ _ _
/-- the empty text -/
theorem empty_er : M_read_condition (.str ("" : Str)) = some (.er (.NoWords 0)) := by
  have := refuse_at (pre := []) (x := ("" : Str)) (post := []) (.inl ⟨0, false, hx_down (by decide) (.inl rfl) (.inr (.inr rfl)) (by decide), by decide, by unfold noStart; decide +kernel⟩) (fun w m => by rw [List.mem_singleton.mp m]; exact lit_wd (by decide +kernel)) (by decide)
  exact this
theorem pos_any {c : Cd} (g : Gd c) (h6 : dn c ≤ 6) {p : Nat} (hp : p ≤ (wds c).length) : Pos 0 1 ((wds c).take p) := by
  have t := tx_of g
  have d0 := t.d0
  have dn1 : Hx 0 1 (rk c).toNat [] 0 false := hx_down (by decide) (.inl rfl) (by omega) (by omega)
  by_cases h : p < (wds c).length
  · have := Pos.lift dn1 (pos_of t (o := 0) (Int.le_refl _) (by omega) p h)
    rwa [List.nil_append] at this
  · obtain ⟨a, q, c', b, e1, x, t2⟩ := last_piece t (o := 0) (Int.le_refl _) (by omega)
    obtain ⟨b3, z⟩ := dn1.trans x
    rw [List.take_of_length_le (by omega)]
    rw [List.nil_append] at z
    exact .b e1 z t2 (by omega)
/-- what is known of a place -/
theorem state_of {c : Cd} (g : Gd c) (h6 : dn c ≤ 6) {p : Nat} (hp : p ≤ (wds c).length) : (0 ≤ (sta ((wds c).take p)).1 ∧ (sta ((wds c).take p)).1 ≤ 5) ∧ 0 ≤ (sta ((wds c).take p)).2 ∧ ((sta ((wds c).take p)).1 = 3 → ∃ f : Nat, f ≤ 1000000 ∧ ((wds c).take p).getLast? = some (strI (f : Int))) := by
  have po := pos_any g h6 hp
  generalize (wds c).take p = pre at po
  cases po with
  | a x l =>
    obtain ⟨n, n0, _, f⟩ := fold_hx x
    have e : sta pre = (0, 0 + n) := f 0
    rw [e]
    dsimp only
    exact ⟨by decide, by show 0 ≤ 0 + n; omega, fun z => absurd z (by decide)⟩
  | @b e d b a q c' hh x t l =>
    obtain ⟨n, n0, _, f⟩ := fold_hx x
    have e : sta pre = (5, 0 + n) := by
      unfold sta
      rw [hh, List.foldl_append, f 0, fold_tx t]
    rw [e]
    dsimp only
    exact ⟨by decide, by show 0 ≤ 0 + n; omega, fun z => absurd z (by decide)⟩
  | @c e b a c' k hh x g' ha k0 l =>
    obtain ⟨n, n0, _, f⟩ := fold_hx x
    have e : sta pre = ((wds c').take k).foldl stp (0, 0 + n) := by
      unfold sta
      rw [hh, List.foldl_append, f 0]
    rw [e, hh]
    cases g' with
    | plain u => exact absurd k0 (by show ¬ (0 < k ∧ k < 1); omega)
    | @cause nm g' =>
      have k1 : k = 1 := by have : k < 2 := k0.2; omega
      subst k1
      show (0 ≤ (stp (0, 0 + n) "cause").1 ∧ (stp (0, 0 + n) "cause").1 ≤ 5) ∧ 0 ≤ (stp (0, 0 + n) "cause").2 ∧ ((stp (0, 0 + n) "cause").1 = 3 → _)
      rw [kw_cause]
      dsimp only
      exact ⟨by decide, by show 0 ≤ 0 + n; omega, fun z => absurd z (by decide)⟩
    | @thing nm g' =>
      have k1 : k = 1 := by have : k < 2 := k0.2; omega
      subst k1
      show (0 ≤ (stp (0, 0 + n) "thing").1 ∧ (stp (0, 0 + n) "thing").1 ≤ 5) ∧ 0 ≤ (stp (0, 0 + n) "thing").2 ∧ ((stp (0, 0 + n) "thing").1 = 3 → _)
      rw [kw_thing]
      dsimp only
      exact ⟨by decide, by show 0 ≤ 0 + n; omega, fun z => absurd z (by decide)⟩
    | over v g' =>
      have k1 : k = 1 := by have : k < 2 := k0.2; omega
      subst k1
      show (0 ≤ (stp (0, 0 + n) "over").1 ∧ (stp (0, 0 + n) "over").1 ≤ 5) ∧ 0 ≤ (stp (0, 0 + n) "over").2 ∧ ((stp (0, 0 + n) "over").1 = 3 → _)
      rw [kw_over]
      dsimp only
      exact ⟨by decide, by show 0 ≤ 0 + n; omega, fun z => absurd z (by decide)⟩
    | days p g' =>
      obtain ⟨f1, ea⟩ := Int.eq_ofNat_of_zero_le g'.1
      obtain ⟨p1, p2⟩ := p
      have ea : p1 = (f1 : Int) := ea
      subst ea
      have g' : 0 ≤ (f1 : Int) ∧ (f1 : Int) ≤ p2 ∧ p2 ≤ 1000000 := g'
      have hk : k = 1 ∨ k = 2 := by have : k < 3 := k0.2; omega
      rcases hk with rfl | rfl
      · show (0 ≤ (stp (0, 0 + n) "days").1 ∧ (stp (0, 0 + n) "days").1 ≤ 5) ∧ 0 ≤ (stp (0, 0 + n) "days").2 ∧ ((stp (0, 0 + n) "days").1 = 3 → _)
        rw [kw_days]
        dsimp only
        exact ⟨by decide, by show 0 ≤ 0 + n; omega, fun z => absurd z (by decide)⟩
      · show (0 ≤ (stp (stp (0, 0 + n) "days") (strI (f1 : Int))).1 ∧ (stp (stp (0, 0 + n) "days") (strI (f1 : Int))).1 ≤ 5) ∧ 0 ≤ (stp (stp (0, 0 + n) "days") (strI (f1 : Int))).2 ∧ ((stp (stp (0, 0 + n) "days") (strI (f1 : Int))).1 = 3 → _)
        rw [kw_days, stp_2]
        dsimp only
        refine ⟨by decide, by show 0 ≤ 0 + n; omega, fun _ => ⟨f1, by omega, ?_⟩⟩
        show (a ++ [("days" : Str), strI (f1 : Int)]).getLast? = _
        rw [List.getLast?_append]
        rfl
    | notOf g' => cases ha
    | allOf l g' => cases ha
    | someOf l g' => cases ha
/-- what stands at a place and behind it -/
def RestD (pre rest : List Str) : Prop := (rest = [] ∧ ((sta pre).1 ≠ 5 ∨ 0 < (sta pre).2)) ∨ ∃ x post, rest = x :: post ∧ BadW pre.getLast? (sta pre).1 (sta pre).2 x
theorem spoil_at {c : Cd} (g : Gd c) (h6 : dn c ≤ 6) {p : Nat} (hp : p ≤ (wds c).length) {rest : List Str} (hr : RestD ((wds c).take p) rest) (hw : ∀ w ∈ (wds c).take p ++ rest, Wd w) (l : ((wds c).take p ++ rest).length ≤ 60) : M_read_condition (.str (Txt.join (" " : Str) ((wds c).take p ++ rest))) = some (.er (.NoWords (p : Int))) := by
  have po := pos_any g h6 hp
  have lp : ((wds c).take p).length = p := by rw [List.length_take]; omega
  generalize (wds c).take p = pre at po lp hr hw l
  subst lp
  have h1 : 1 ≤ 1 ∧ 1 ≤ 3 := ⟨Nat.le_refl _, by decide⟩
  cases po with
  | @a e b x le =>
    obtain ⟨n, n0, hb, f⟩ := fold_hx x
    have es : sta pre = (0, 0 + n) := f 0
    have xl := x.le
    rcases hr with ⟨rfl, _⟩ | ⟨y, post, rfl, bw⟩
    · rw [List.append_nil] at hw l ⊢
      by_cases ne : pre = []
      · subst ne
        exact empty_er
      · refine refuse_er hw ne l (up_er x h1 (Int.le_refl _) (m := 20) (Nat.le_refl _) pre [] [] 64 (by rw [List.append_nil]; rfl) (fun q hq => ?_) (by omega))
        rw [List.length_nil, Nat.zero_add]
        exact leaf_end (by omega)
    · exact refuse_at (.inl ⟨e, b, x, le, bw.1 (by rw [es])⟩) hw l
  | @b e d b a q c' hh x t le =>
    subst hh
    obtain ⟨n, n0, hb, f⟩ := fold_hx x
    have es : sta (a ++ q) = (5, 0 + n) := by
      unfold sta
      rw [List.foldl_append, f 0, fold_tx t]
    have xl := x.le
    have d0 := t.d0.1
    have hs : rest.head? ≠ some ("and" : Str) ∧ rest.head? ≠ some ("or" : Str) ∧ (b = true → rest.head? ≠ some (")" : Str)) := by
      rcases hr with ⟨rfl, _⟩ | ⟨y, post, rfl, bw⟩
      · exact ⟨(fun z => by cases z), (fun z => by cases z), fun _ z => by cases z⟩
      · obtain ⟨b1, b2, b3⟩ := bw.2.2.2.2.2 (by rw [es])
        exact ⟨fun z => b1 (Option.some.inj z), fun z => b2 (Option.some.inj z), fun hbt z => b3 (by rw [es]; have := hb.mp hbt; show 0 < 0 + n; omega) (Option.some.inj z)⟩
    have ne : a ++ q ++ rest ≠ [] := fun z => t.ne (List.append_eq_nil_iff.mp (List.append_eq_nil_iff.mp z).1).2
    have z := up_stop x rfl h1 (Int.le_refl _) (m := 20) (Nat.le_refl _) (c := c') (qs := q) hs (a ++ q ++ rest) [] 64 (by simp only [List.append_assoc, List.nil_append]) (fun k hk => by
      have := read3 (k := k) t le (by omega) (by omega) (W := a ++ q ++ rest) (pre := a) (post := rest) (by rw [List.append_assoc])
      rw [List.length_nil, Nat.zero_add]
      exact this) (by omega)
    rw [List.length_nil, Nat.zero_add, ← List.length_append] at z
    rcases z with ⟨bf, c2, z⟩ | ⟨_, z⟩
    · rcases hr with ⟨rfl, hd⟩ | ⟨y, post, rfl, bw⟩
      · rw [es] at hd
        rcases hd with hd | hd
        · exact absurd rfl hd
        · have hd : 0 < 0 + n := hd
          have := hb.mpr (by omega)
          rw [bf] at this
          cases this
      · exact refuse_stop hw ne l (by simp only [List.length_append, List.length_cons]; omega) z
    · exact refuse_er hw ne l z
  | @c e b a c' k hh x g' ha k0 le =>
    subst hh
    obtain ⟨n, n0, hb, f⟩ := fold_hx x
    have es : sta (a ++ (wds c').take k) = ((wds c').take k).foldl stp (0, 0 + n) := by
      unfold sta
      rw [List.foldl_append, f 0]
    have er : (sta (a ++ (wds c').take k)).1 = (((wds c').take k).foldl stp (0, 0)).1 := by rw [es]; exact fold_role _ _ _ _
    have xl := x.le
    have tk : (wds c').take k ≠ [] := fun z => by
      have := congrArg List.length z
      rw [List.length_take] at this
      have : min k (wds c').length = 0 := this
      omega
    have gl : (a ++ (wds c').take k).getLast? = ((wds c').take k).getLast? := by
      rw [List.getLast?_append]
      cases q : ((wds c').take k).getLast? with
      | none => exact absurd (List.getLast?_eq_none_iff.mp q) tk
      | some y => rfl
    have ne : a ++ (wds c').take k ++ rest ≠ [] := fun z => tk (List.append_eq_nil_iff.mp (List.append_eq_nil_iff.mp z).1).2
    have ab := atom_bad g' ha k0 a rest (by
      rcases hr with ⟨rfl, _⟩ | ⟨y, post, rfl, bw⟩
      · exact .inl rfl
      · refine .inr ⟨y, post, rfl, (hw y (by simp)).1.1, ?_⟩
        rw [gl, er] at bw
        exact ⟨bw.1, bw.2.1, bw.2.2.1, bw.2.2.2.1, bw.2.2.2.2.1, fun z => ⟨(bw.2.2.2.2.2 z).1, (bw.2.2.2.2.2 z).2.1, fun y => absurd y (by decide)⟩⟩)
    have lk : ((wds c').take k).length = k := by rw [List.length_take]; omega
    refine refuse_er hw ne l (up_er x h1 (Int.le_refl _) (m := 20) (Nat.le_refl _) (a ++ (wds c').take k ++ rest) [] ((wds c').take k ++ rest) 64 (by rw [List.append_assoc]; rfl) (fun q hq => ?_) (by omega))
    rw [List.length_nil, Nat.zero_add, List.length_append, lk]
    have eW : a ++ (wds c').take k ++ rest = a ++ ((wds c').take k ++ rest) := List.append_assoc _ _ _
    rw [eW]
    exact leaf_atom ha k0.1 rfl ab (by omega)
theorem strI_inj {f f' : Nat} (h : f ≤ 1000000) (e : strI (f : Int) = strI (f' : Int)) (h' : f' ≤ 1000000) : f' = f := by
  have i1 : ∀ n : Nat, n ≤ 1000000 → intText? (strI (n : Int)) = some (n : Int) := fun n hn => by
    rw [strI_n]
    have ll := numL_len (n := n) (k := 7) (by decide) (by omega)
    rw [int_S (by rw [List.all_eq_true]; intro c hc; have := numL_digits n c hc; simp; omega) (numL_ne _) (by omega), numL_val]
  have := i1 f h
  rw [e, i1 f' h'] at this
  have := Option.some.inj this
  omega
theorem no_starts : (["and", "or", ")", "", "roof", "Cause", "12", "ALWAYS", "not(", "over1", "a", "always\t"] : List Str).all (fun x => !(x == ("not" : Str)) && (!(x == ("(" : Str)) && (!(x == ("always" : Str)) && (!(x == ("cause" : Str)) && (!(x == ("thing" : Str)) && (!(x == ("over" : Str)) && !(x == ("days" : Str)))))))) = true := by decide +kernel
def wdB (x : Str) : Bool := decide (x.length ≤ 63) && (x.cps.toList.all (· < 128) && !(x.cps.toList.contains 32))
theorem bad_list {xs : List Str} {Q : Str → Prop} (hw : xs.all wdB = true) (hq : ∀ x ∈ xs, Q x) (hl : (decide (1 ≤ xs.length) && decide (xs.length ≤ 30)) = true) : (1 ≤ xs.length ∧ xs.length ≤ 30) ∧ ∀ x ∈ xs, Wd x ∧ Q x := by
  have hl := Bool.and_eq_true_iff.mp hl
  exact ⟨⟨of_decide_eq_true hl.1, of_decide_eq_true hl.2⟩, fun x m => ⟨lit_wd (List.all_eq_true.mp hw x m), hq x m⟩⟩
theorem all_of {xs : List Str} {P : Str → Bool} (h : xs.all P = true) {x : Str} (m : x ∈ xs) : P x = true := List.all_eq_true.mp h x m
theorem bad_words_ok {W : List Str} {p : Nat} {role deep : Int} (hr : 0 ≤ role ∧ role ≤ 5) (hd : 0 ≤ deep) (hp : p ≤ W.length) (h3 : role = 3 → ∃ f : Nat, f ≤ 1000000 ∧ (W.take p).getLast? = some (strI (f : Int))) : Ok (M__law_bad_words W (p : Int) role deep) fun xs => (1 ≤ xs.length ∧ xs.length ≤ 30) ∧ ∀ x ∈ xs, Wd x ∧ BadW (W.take p).getLast? role deep x := by
  unfold M__law_bad_words
  refine ok_cond (fun h => ok_some ?_) fun h0 => ok_cond (fun h => ok_some ?_) fun h1 => ok_ltx fun days ed => ?_
  · have e := eq_of_beq h
    subst e
    refine bad_list (by decide +kernel) (fun x m => ⟨fun _ => ?_, fun z => absurd z (by decide), fun z => absurd z (by decide), fun z => absurd z (by decide), fun z => absurd z (by decide), fun z => absurd z (by decide)⟩) (by decide)
    have := all_of no_starts m
    simp only [Bool.and_eq_true, Bool.not_eq_true'] at this
    exact this
  · have e := eq_of_beq h
    subst e
    refine bad_list (by decide +kernel) (fun x m => ⟨fun z => absurd z (by decide), fun _ => ?_, fun z => absurd z (by decide), fun z => absurd z (by decide), fun z => absurd z (by decide), fun z => absurd z (by decide)⟩) (by decide)
    have := all_of name_tests m
    rwa [Bool.not_eq_true'] at this
  have dayW : days.all wdB = true := by rw [ed]; decide +kernel
  have dayQ : ∀ x ∈ days, dayB x = true := fun x m => by rw [ed] at m; exact all_of day_tests m
  have dayl : days.length = 12 := by rw [ed]; rfl
  clear ed
  have r0 : role ≠ 0 := beq_eq_false_iff_ne.mp h0
  have r1 : role ≠ 1 := beq_eq_false_iff_ne.mp h1
  refine ok_bd (Q := fun b => b = true → role = 3 ∧ ∃ f : Nat, f ≤ 1000000 ∧ 1 ≤ f ∧ (W.take p).getLast? = some (strI (f : Int)) ∧ L2.atI W ((p : Int) - 1) = some (strI (f : Int))) (ok_cond (fun h => ?_) fun _ => ok_some fun z => by cases z) fun v2 hv2 => ok_cond (fun h => ?_) fun _ => ok_cond (fun h => ok_some ?_) fun h23 => ok_cond (fun h => ok_some ?_) fun h4 => ok_cond (fun h => ok_some ?_) fun hd0 => ok_some ?_
  · have e := eq_of_beq h
    obtain ⟨f, hf, gl⟩ := h3 e
    have p0 : 0 < p := Nat.pos_of_ne_zero fun z => by
      rw [z] at gl
      cases gl
    have ea : L2.atI W ((p : Int) - 1) = some (strI (f : Int)) := by
      rw [List.getLast?_eq_getElem?, List.length_take, List.getElem?_take_of_lt (by omega)] at gl
      rw [show (p : Int) - 1 = ((p - 1 : Nat) : Int) by omega]
      refine atI_nat ?_
      rw [← gl]
      congr 1
      omega
    rw [bd_of ea]
    refine ok_some fun z => ⟨e, f, hf, ?_, gl, ea⟩
    refine Nat.pos_of_ne_zero fun y => ?_
    rw [y] at z
    exact absurd z (by decide +kernel)
  · obtain ⟨e, f, hf, f1, gl, ea⟩ := hv2 h
    have ll := numL_len (n := f) (k := 7) (by decide) (by omega)
    have it : intText? (strI (f : Int)) = some (f : Int) := by
      rw [strI_n, int_S (by rw [List.all_eq_true]; intro c hc; have := numL_digits f c hc; simp; omega) (numL_ne _) (by omega), numL_val]
    have sl : (strI (f : Int)).length ≤ 640 := by rw [strI_n, S_len]; omega
    rw [bd_of ea, bd_of it]
    have rl : (repG [strI ((f : Int) - 1)] 6).length = 6 := rfl
    refine ok_gd sl (ok_gd (lg_of (by
      have : ((f : Int) - 1).natAbs ≤ 1000000 := by omega
      exact Nat.lt_of_le_of_lt this (by decide))) (ok_gd ⟨⟨by decide, by decide⟩, by show 1 * 6 ≤ 16777216; decide⟩ (ok_gd (sz (by rw [rl]; omega)) (ok_gd (sz (by rw [List.length_append, rl]; show days.length + 6 + 1 ≤ _; omega)) (ok_some ⟨?_, fun x m => ?_⟩)))))
    · rw [List.length_append, List.length_append, rl]
      show 1 ≤ days.length + 6 + 1 ∧ days.length + 6 + 1 ≤ 30
      omega
    · have key : Wd x ∧ (dayB x = true ∨ ∃ m : Nat, m < f ∧ x = strI (m : Int)) := by
        rcases List.mem_append.mp m with m | m
        · rcases List.mem_append.mp m with m | m
          · exact ⟨lit_wd (all_of dayW m), .inl (dayQ x m)⟩
          · have ex : x = strI ((f : Int) - 1) := by
              have m : x ∈ (List.replicate 6 [strI ((f : Int) - 1)]).flatten := m
              obtain ⟨l, ml, mx⟩ := List.mem_flatten.mp m
              rw [(List.mem_replicate.mp ml).2] at mx
              exact List.mem_singleton.mp mx
            rw [ex, show (f : Int) - 1 = ((f - 1 : Nat) : Int) by omega]
            exact ⟨num_wd (by have : f - 1 ≤ 1000000 := by omega
                              exact Nat.lt_of_le_of_lt this (by decide)), .inr ⟨f - 1, by omega, rfl⟩⟩
        · rw [List.mem_singleton.mp m]
          exact ⟨lit_wd (by decide +kernel), .inr ⟨0, by omega, by decide +kernel⟩⟩
      refine ⟨key.1, fun z => absurd z r0, fun z => absurd z r1, fun z => absurd (z.symm.trans e) (by decide), fun _ => ?_, fun z => absurd (z.symm.trans e) (by decide), fun z => absurd (z.symm.trans e) (by decide)⟩
      rcases key.2 with k | ⟨m, hm, ex⟩
      · exact .inl k
      · refine .inr fun f' ef => ?_
        have ff : f' = f ∨ 1000000 < f' := by
          by_cases q : f' ≤ 1000000
          · rw [gl] at ef
            exact .inl (strI_inj hf (Option.some.inj ef) q)
          · exact .inr (by omega)
        rcases ff with ff | ff
        · exact ⟨m, by omega, ex⟩
        · exact ⟨m, by omega, ex⟩
  · have e : role = 2 ∨ role = 3 := by
      rcases Bool.or_eq_true_iff.mp h with h | h
      · exact .inl (eq_of_beq h)
      · exact .inr (eq_of_beq h)
    refine bad_list dayW (fun x m => ⟨fun z => absurd z r0, fun z => absurd z r1, fun _ => dayQ x m, fun _ => .inl (dayQ x m), fun z => ?_, fun z => ?_⟩) (by rw [dayl]; rfl)
    · omega
    · omega
  · have e := eq_of_beq h
    subst e
    refine bad_list (by decide +kernel) (fun x m => ⟨fun z => absurd z (by decide), fun z => absurd z (by decide), fun z => absurd z (by decide), fun z => absurd z (by decide), fun _ => all_of amt_tests m, fun z => absurd z (by decide)⟩) (by decide)
  · have e5 : role = 5 := by
      have h23 := Bool.or_eq_false_iff.mp h23
      have := beq_eq_false_iff_ne.mp h23.1
      have := beq_eq_false_iff_ne.mp h23.2
      have := beq_eq_false_iff_ne.mp h4
      omega
    have e := eq_of_beq h
    subst e e5
    have t : ([")", "not", "", "always", "(", "roof", "And", "12", ")", "and\n", "\t"] : List Str).all (fun x => !(x == ("and" : Str)) && !(x == ("or" : Str))) = true := by decide +kernel
    refine bad_list (by decide +kernel) (fun x m => ⟨fun z => absurd z (by decide), fun z => absurd z (by decide), fun z => absurd z (by decide), fun z => absurd z (by decide), fun z => absurd z (by decide), fun _ => ?_⟩) (by decide)
    have := all_of t m
    simp only [Bool.and_eq_true, Bool.not_eq_true', beq_eq_false_iff_ne] at this
    exact ⟨this.1, this.2, fun z => absurd z (by decide)⟩
  · have e5 : role = 5 := by
      have h23 := Bool.or_eq_false_iff.mp h23
      have := beq_eq_false_iff_ne.mp h23.1
      have := beq_eq_false_iff_ne.mp h23.2
      have := beq_eq_false_iff_ne.mp h4
      omega
    subst e5
    have t : (["not", "", "always", "(", "cause", "roof", "Or", "1.00", ")\t", "\n"] : List Str).all (fun x => !(x == ("and" : Str)) && (!(x == ("or" : Str)) && !(x == (")" : Str)))) = true := by decide +kernel
    refine bad_list (by decide +kernel) (fun x m => ⟨fun z => absurd z (by decide), fun z => absurd z (by decide), fun z => absurd z (by decide), fun z => absurd z (by decide), fun z => absurd z (by decide), fun _ => ?_⟩) (by decide)
    have := all_of t m
    simp only [Bool.and_eq_true, Bool.not_eq_true', beq_eq_false_iff_ne] at this
    exact ⟨this.1, this.2.1, fun _ => this.2.2⟩
open SX TL
theorem refused_words {t : D} {i : Int} (h : M_read_condition t = some (.er (.NoWords i))) : M__law_refused t = some (e_T_s_i (("words" : Str), i)) := by
  unfold M__law_refused
  rw [bdo_er h]
  rfl
theorem smp_words (i : Int) : Smp 1 (e_T_s_i (("words" : Str), i)) := .tup fun d m => by
  rcases List.mem_cons.mp m with rfl | m
  · exact (sm_lit (x := "words") (by decide +kernel)).smp
  · rw [List.mem_singleton.mp m]
    exact .int i
theorem refused_at {t : D} {i : Int} (h : M_read_condition t = some (.er (.NoWords i))) : M__law_refused_at t i = some true := by
  unfold M__law_refused_at
  rw [bd_of (refused_words h)]
  have hw : M__law_whole (.int i) = some true := by
    unfold M__law_whole
    rw [bd_of (show isiD "int" (.int i) = some true from (by decide +kernel : kitB "int" "int" = some true))]
    refine Ok.eq (ok_bd (Q := fun v => v = true) (ok_t rfl ?_) fun v hv => ok_some hv)
    rw [bd_of (show isiD "bool" (.int i) = some false from (by decide +kernel : kitB "int" "bool" = some false))]
    exact ok_some rfl
  rw [bd_of (show lenTd (e_T_s_i (("words" : Str), i)) = some 2 from rfl)]
  refine Ok.eq (ok_bd (Q := fun v => v = true) (ok_t rfl ?_) fun v hv => ok_some hv)
  rw [bd_of (show ixD (e_T_s_i (("words" : Str), i)) 1 = some (.int i) from rfl), bd_of hw]
  refine ok_bd (Q := fun v => v = true) (ok_t rfl (ok_gd ⟨(smp_words i).ok, (smp_words i).ok⟩ (ok_some (smp_words i).eqv))) fun v hv => ok_some hv
theorem inner_ok {h : Nat} {c : Cd} (l : Int) (e : (Kn_lwords h).2 (tr c) = some (wds c)) (hl : (brw l c).length ≤ 1000) : M__law_inner (Kn_lwords h) (tr c) l = some (brw l c) := by
  unfold M__law_inner
  rw [bd_of (tr_0 c), bd_of (show asS (.str (kd c)) = some (kd c) from rfl), dg_rk]
  unfold brw at hl ⊢
  by_cases q : rk c < l
  · rw [if_pos q] at hl ⊢
    rw [List.length_cons, List.length_append] at hl
    rw [decide_eq_true q]
    show bd ((Kn_lwords h).2 (tr c)) _ = _
    rw [bd_of e]
    have hl : (wds c).length + 1 + 1 ≤ 1000 := hl
    rw [gd_pos (sz (by show 1 + _ ≤ 1001; omega)), gd_pos (sz (by rw [List.length_append]; show 1 + _ + 1 ≤ 1001; omega))]
    rfl
  · rw [if_neg q, decide_eq_false q]
    show bd ((Kn_lwords h).2 (tr c)) _ = _
    rw [bd_of e]
theorem lrow_all {h : Nat} {cs : List Cd} (e : ∀ c ∈ cs, (Kn_lwords h).2 (tr c) = some (wds c)) (hc : ∀ c ∈ cs, ∀ y ∈ wds c, Wd y) (hl : (wdsL 3 "and" cs []).length ≤ 1000) : lp (fun (x37 : D) (p36 : (List Str)) => (gd (D.ok (.lst (p36.map D.str)) ∧ D.ok (.lst (([] : List Str).map D.str))) <|
    bd (cond (!(D.eqv (.lst (p36.map D.str)) (.lst (([] : List Str).map D.str)))) (bd (asS (.str ("all" : Str))) fun v41 =>
      bd (dgT [(("all" : Str), ("and" : Str)), (("some" : Str), ("or" : Str))] v41) fun v42 =>
      gd (p36.length + [v42].length ≤ sizeLine) <|
      lt (p36 ++ [v42]) fun found_1 =>
      some found_1) (some p36) : Option ((List Str))) fun p40 =>
    gd (D.ok (.str ("all" : Str)) ∧ D.ok (.str ("all" : Str))) <|
    bd (L2.atI [2, 3] (if ((D.eqv (.str ("all" : Str)) (.str ("all" : Str)))) then 1 else 0)) fun v45 =>
    bd ((Kn_lwords (h + 1)).1 (x37, v45)) fun v46 =>
    gd (p40.length + v46.length ≤ sizeLine) <|
    lt (p40 ++ v46) fun found_2 =>
    some found_2 : Option ((List Str)))) (trL cs) [] = some (wdsL 3 "and" cs []) := by
  rw [trL_map]
  refine lp_words (t := tr) (l := 3) (w := "and") (lit_wd (by decide +kernel)) cs [] (fun c m a ha hal => ?_) (fun _ m => nomatch m) hc hl
  have en : D.eqv (.lst (a.map D.str)) (.lst (([] : List Str).map D.str)) = a.isEmpty := by
    rw [show ([] : List Str).map D.str = [] from rfl, eqv_nil]; cases a <;> rfl
  have ep : (Kn_lwords (h + 1)).1 (tr c, 3) = some (brw 3 c) := inner_ok (c := c) 3 (e c m) (by omega)
  have e45 : L2.atI [(2 : Int), 3] (if ((D.eqv (.str ("all" : Str)) (.str ("all" : Str)))) then 1 else 0) = some 3 := by decide +kernel
  have e42 : dgT [(("all" : Str), ("and" : Str)), (("some" : Str), ("or" : Str))] "all" = some "and" := by decide +kernel
  show gd _ _ = _
  rw [gd_pos ⟨wd_lst ha, nil_ok⟩, en]
  cases hi : a.isEmpty with
  | true =>
    show gd _ _ = _
    rw [gd_pos ⟨lit_ok (by decide +kernel), lit_ok (by decide +kernel)⟩, bd_of e45, bd_of ep, gd_pos (sz (by omega))]
    rfl
  | false =>
    show bd (bd (asS (.str "all")) _) _ = _
    rw [bd_of (show asS (.str ("all" : Str)) = some "all" from rfl), bd_of e42, gd_pos (sz (by show _ + 1 ≤ 1001; omega))]
    show gd _ _ = _
    rw [gd_pos ⟨lit_ok (by decide +kernel), lit_ok (by decide +kernel)⟩, bd_of e45, bd_of ep, gd_pos (sz (by rw [List.length_append]; show _ + 1 + _ ≤ 1001; omega))]
    rfl
theorem lrow_some {h : Nat} {cs : List Cd} (e : ∀ c ∈ cs, (Kn_lwords h).2 (tr c) = some (wds c)) (hc : ∀ c ∈ cs, ∀ y ∈ wds c, Wd y) (hl : (wdsL 2 "or" cs []).length ≤ 1000) : lp (fun (x37 : D) (p36 : (List Str)) => (gd (D.ok (.lst (p36.map D.str)) ∧ D.ok (.lst (([] : List Str).map D.str))) <|
    bd (cond (!(D.eqv (.lst (p36.map D.str)) (.lst (([] : List Str).map D.str)))) (bd (asS (.str ("some" : Str))) fun v41 =>
      bd (dgT [(("all" : Str), ("and" : Str)), (("some" : Str), ("or" : Str))] v41) fun v42 =>
      gd (p36.length + [v42].length ≤ sizeLine) <|
      lt (p36 ++ [v42]) fun found_1 =>
      some found_1) (some p36) : Option ((List Str))) fun p40 =>
    gd (D.ok (.str ("some" : Str)) ∧ D.ok (.str ("all" : Str))) <|
    bd (L2.atI [2, 3] (if ((D.eqv (.str ("some" : Str)) (.str ("all" : Str)))) then 1 else 0)) fun v45 =>
    bd ((Kn_lwords (h + 1)).1 (x37, v45)) fun v46 =>
    gd (p40.length + v46.length ≤ sizeLine) <|
    lt (p40 ++ v46) fun found_2 =>
    some found_2 : Option ((List Str)))) (trL cs) [] = some (wdsL 2 "or" cs []) := by
  rw [trL_map]
  refine lp_words (t := tr) (l := 2) (w := "or") (lit_wd (by decide +kernel)) cs [] (fun c m a ha hal => ?_) (fun _ m => nomatch m) hc hl
  have en : D.eqv (.lst (a.map D.str)) (.lst (([] : List Str).map D.str)) = a.isEmpty := by
    rw [show ([] : List Str).map D.str = [] from rfl, eqv_nil]; cases a <;> rfl
  have ep : (Kn_lwords (h + 1)).1 (tr c, 2) = some (brw 2 c) := inner_ok (c := c) 2 (e c m) (by omega)
  have e45 : L2.atI [(2 : Int), 3] (if ((D.eqv (.str ("some" : Str)) (.str ("all" : Str)))) then 1 else 0) = some 2 := by decide +kernel
  have e42 : dgT [(("all" : Str), ("and" : Str)), (("some" : Str), ("or" : Str))] "some" = some "or" := by decide +kernel
  show gd _ _ = _
  rw [gd_pos ⟨wd_lst ha, nil_ok⟩, en]
  cases hi : a.isEmpty with
  | true =>
    show gd _ _ = _
    rw [gd_pos ⟨lit_ok (by decide +kernel), lit_ok (by decide +kernel)⟩, bd_of e45, bd_of ep, gd_pos (sz (by omega))]
    rfl
  | false =>
    show bd (bd (asS (.str "some")) _) _ = _
    rw [bd_of (show asS (.str ("some" : Str)) = some "some" from rfl), bd_of e42, gd_pos (sz (by show _ + 1 ≤ 1001; omega))]
    show gd _ _ = _
    rw [gd_pos ⟨lit_ok (by decide +kernel), lit_ok (by decide +kernel)⟩, bd_of e45, bd_of ep, gd_pos (sz (by rw [List.length_append]; show _ + 1 + _ ≤ 1001; omega))]
    rfl
theorem lwords_ok {n : Nat} {c : Cd} (h : Mk n c) (g : Gd c) (hl : (wds c).length ≤ 900) : ∀ f, 2 * n + 1 ≤ f → (Kn_lwords f).2 (tr c) = some (wds c) := by
  induction h with
  | plain u =>
    intro f hf
    cases g with
    | plain _ =>
    obtain ⟨k, rfl⟩ : ∃ k, f = k + 1 := ⟨f - 1, by omega⟩
    show M__law_words (Kn_lwords k) (tr (.plain u)) = _
    unfold M__law_words; rw [bd_of (show ixD (tr (.plain u)) 0 = some (.str "always") from rfl)]
    refine Ok.eq ?_
    refine ok_gd ⟨lit_ok (by decide +kernel), lit_ok (by decide +kernel)⟩ (ok_t (by decide +kernel) ?_)
    exact ok_some rfl
  | @cause n x h =>
    intro f hf
    cases g with
    | cause _ =>
    obtain ⟨k, rfl⟩ : ∃ k, f = k + 1 := ⟨f - 1, by omega⟩
    show M__law_words (Kn_lwords k) (tr (.cause x)) = _
    unfold M__law_words; rw [bd_of (show ixD (tr (.cause x)) 0 = some (.str "cause") from rfl)]
    refine Ok.eq ?_
    refine ok_gd ⟨lit_ok (by decide +kernel), lit_ok (by decide +kernel)⟩ (ok_f (by decide +kernel) ?_)
    refine ok_gd ⟨lit_ok (by decide +kernel), lit_ok (by decide +kernel)⟩ (ok_bd (Q := fun v => v = true) (ok_t (by decide +kernel) (ok_some rfl)) fun v hv => ok_t hv ?_)
    exact ok_some rfl
  | @thing n x h =>
    intro f hf
    cases g with
    | thing _ =>
    obtain ⟨k, rfl⟩ : ∃ k, f = k + 1 := ⟨f - 1, by omega⟩
    show M__law_words (Kn_lwords k) (tr (.thing x)) = _
    unfold M__law_words; rw [bd_of (show ixD (tr (.thing x)) 0 = some (.str "thing") from rfl)]
    refine Ok.eq ?_
    refine ok_gd ⟨lit_ok (by decide +kernel), lit_ok (by decide +kernel)⟩ (ok_f (by decide +kernel) ?_)
    refine ok_gd ⟨lit_ok (by decide +kernel), lit_ok (by decide +kernel)⟩ (ok_bd (Q := fun v => v = true) (ok_f (by decide +kernel) (ok_gd ⟨lit_ok (by decide +kernel), lit_ok (by decide +kernel)⟩ (ok_some (by decide +kernel)))) fun v hv => ok_t hv ?_)
    exact ok_some rfl
  | @days n p =>
    intro f hf
    cases g with
    | days _ h =>
    obtain ⟨k, rfl⟩ : ∃ k, f = k + 1 := ⟨f - 1, by omega⟩
    show M__law_words (Kn_lwords k) (tr (.days p)) = _
    unfold M__law_words; rw [bd_of (show ixD (tr (.days p)) 0 = some (.str "days") from rfl)]
    refine Ok.eq ?_
    refine ok_gd ⟨lit_ok (by decide +kernel), lit_ok (by decide +kernel)⟩ (ok_f (by decide +kernel) ?_)
    refine ok_gd ⟨lit_ok (by decide +kernel), lit_ok (by decide +kernel)⟩ (ok_bd (Q := fun v => v = false) (ok_f (by decide +kernel) (ok_gd ⟨lit_ok (by decide +kernel), lit_ok (by decide +kernel)⟩ (ok_some (by decide +kernel)))) fun v hv => ok_f hv ?_)
    repeat (refine ok_gd ⟨lit_ok (by decide +kernel), lit_ok (by decide +kernel)⟩ ?_; first | refine ok_t (by decide +kernel) ?_ | refine ok_f (by decide +kernel) ?_)
    rw [bd_of (show ixD (tr (.days p)) 1 = some (.int p.1) from rfl), bd_of (show asI (.int p.1) = some p.1 from rfl)]
    refine ok_gd (lg_of (by omega)) ?_
    rw [bd_of (show ixD (tr (.days p)) 2 = some (.int p.2) from rfl), bd_of (show asI (.int p.2) = some p.2 from rfl)]
    exact ok_gd (lg_of (by omega)) (ok_some rfl)
  | @over n c =>
    intro f hf
    cases g with
    | over _ h =>
    obtain ⟨k, rfl⟩ : ∃ k, f = k + 1 := ⟨f - 1, by omega⟩
    show M__law_words (Kn_lwords k) (tr (.over c)) = _
    unfold M__law_words; rw [bd_of (show ixD (tr (.over c)) 0 = some (.str "over") from rfl)]
    refine Ok.eq ?_
    refine ok_gd ⟨lit_ok (by decide +kernel), lit_ok (by decide +kernel)⟩ (ok_f (by decide +kernel) ?_)
    refine ok_gd ⟨lit_ok (by decide +kernel), lit_ok (by decide +kernel)⟩ (ok_bd (Q := fun v => v = false) (ok_f (by decide +kernel) (ok_gd ⟨lit_ok (by decide +kernel), lit_ok (by decide +kernel)⟩ (ok_some (by decide +kernel)))) fun v hv => ok_f hv ?_)
    repeat (refine ok_gd ⟨lit_ok (by decide +kernel), lit_ok (by decide +kernel)⟩ ?_; first | refine ok_t (by decide +kernel) ?_ | refine ok_f (by decide +kernel) ?_)
    obtain ⟨n, rfl⟩ := Int.eq_ofNat_of_zero_le h.1
    have d1 : (n : Int) / 100 = ((n / 100 : Nat) : Int) := by omega
    have d2 : (n : Int) / 10 % 10 = ((n / 10 % 10 : Nat) : Int) := by omega
    have d3 : (n : Int) % 10 = ((n % 10 : Nat) : Int) := by omega
    have nl := numL_len (n := n / 100) (k := 60) (by decide) (by omega)
    have i1 : ixD (tr (.over (n : Int))) 1 = some (.int (n : Int)) := rfl
    have i2 : asI (.int (n : Int)) = some (n : Int) := rfl
    rw [bd_of i1, bd_of i2, d1]
    refine ok_gd (lg_of (by rw [Int.natAbs_natCast]; omega)) ?_
    rw [strI_n, dot_S]
    refine ok_gd (sz (by rw [S_len, S_len]; show _ + 1 ≤ 1001; omega)) ?_
    rw [bd_of i1, bd_of i2, d2]
    refine ok_gd (lg_of (by rw [Int.natAbs_natCast]; omega)) ?_
    rw [strI_n, numL1 (n := n / 10 % 10) (by omega), S_cat]
    refine ok_gd (sz (by rw [S_len, S_len, List.length_append]; show _ + 1 + 1 ≤ 1001; omega)) ?_
    rw [bd_of i1, bd_of i2, d3]
    refine ok_gd (lg_of (by rw [Int.natAbs_natCast]; omega)) ?_
    rw [strI_n, numL1 (n := n % 10) (by omega), S_cat]
    refine ok_gd (sz (by rw [S_len, S_len, List.length_append, List.length_append]; show _ + 1 + 1 + 1 ≤ 1001; omega)) (ok_some ?_)
    show [("over" : Str), _] = [("over" : Str), amtS n]
    unfold amtS amtL
    rw [S_cat]
    congr 2
    simp only [List.append_assoc, List.cons_append, List.nil_append]
  | @notOf n c h ih =>
    intro f hf
    cases g with
    | notOf g =>
    obtain ⟨k, rfl⟩ : ∃ k, f = k + 1 := ⟨f - 1, by omega⟩
    show M__law_words (Kn_lwords k) (tr (.notOf c)) = _
    unfold M__law_words; rw [bd_of (show ixD (tr (.notOf c)) 0 = some (.str "not") from rfl)]
    refine Ok.eq ?_
    refine ok_gd ⟨lit_ok (by decide +kernel), lit_ok (by decide +kernel)⟩ (ok_f (by decide +kernel) ?_)
    refine ok_gd ⟨lit_ok (by decide +kernel), lit_ok (by decide +kernel)⟩ (ok_bd (Q := fun v => v = false) (ok_f (by decide +kernel) (ok_gd ⟨lit_ok (by decide +kernel), lit_ok (by decide +kernel)⟩ (ok_some (by decide +kernel)))) fun v hv => ok_f hv ?_)
    repeat (refine ok_gd ⟨lit_ok (by decide +kernel), lit_ok (by decide +kernel)⟩ ?_; first | refine ok_t (by decide +kernel) ?_ | refine ok_f (by decide +kernel) ?_)
    obtain ⟨q, rfl⟩ : ∃ q, k = q + 1 := ⟨k - 1, by omega⟩
    have hl : (("not" : Str) :: brw 3 c).length ≤ 900 := hl
    rw [List.length_cons] at hl
    have hb := brw_ge 3 c
    have e := inner_ok 3 (ih g (by omega) q (by omega)) (by omega)
    rw [bd_of (show ixD (tr (.notOf c)) 1 = some (tr c) from rfl), bd_of (show (Kn_lwords (q + 1)).1 (tr c, 3) = some (brw 3 c) from e)]
    exact ok_gd (sz (by show 1 + _ ≤ 1001; omega)) (ok_some rfl)
  | @allOf n cs z h ih =>
    intro f hf
    cases g with
    | allOf l g =>
    obtain ⟨k, rfl⟩ : ∃ k, f = k + 1 := ⟨f - 1, by omega⟩
    show M__law_words (Kn_lwords k) (tr (.allOf cs)) = _
    unfold M__law_words; rw [bd_of (show ixD (tr (.allOf cs)) 0 = some (.str "all") from rfl)]
    refine Ok.eq ?_
    refine ok_gd ⟨lit_ok (by decide +kernel), lit_ok (by decide +kernel)⟩ (ok_f (by decide +kernel) ?_)
    refine ok_gd ⟨lit_ok (by decide +kernel), lit_ok (by decide +kernel)⟩ (ok_bd (Q := fun v => v = false) (ok_f (by decide +kernel) (ok_gd ⟨lit_ok (by decide +kernel), lit_ok (by decide +kernel)⟩ (ok_some (by decide +kernel)))) fun v hv => ok_f hv ?_)
    repeat (refine ok_gd ⟨lit_ok (by decide +kernel), lit_ok (by decide +kernel)⟩ ?_; first | refine ok_t (by decide +kernel) ?_ | refine ok_f (by decide +kernel) ?_)
    obtain ⟨q, rfl⟩ : ∃ q, k = q + 1 := ⟨k - 1, by omega⟩
    have hw := wds_all g
    refine ok_lt ?_
    rw [bd_of (show ixD (tr (.allOf cs)) 1 = some (.lst (trL cs)) from rfl), bd_of (show asLD (.lst (trL cs)) = some (trL cs) from rfl)]
    rw [bd_of (lrow_all (h := q) (cs := cs) (fun c m => ih c m (g c m) (by
      have h1 := brw_ge 3 c
      have h2 := jn_le (w := "and") (List.mem_map_of_mem (f := brw 3) m)
      rw [← hw] at h2
      omega) q (by omega)) (fun c m => wds_wd (g c m)) (Nat.le_trans hl (by decide)))]
    exact ok_some rfl
  | @someOf n cs z h ih =>
    intro f hf
    cases g with
    | someOf l g =>
    obtain ⟨k, rfl⟩ : ∃ k, f = k + 1 := ⟨f - 1, by omega⟩
    show M__law_words (Kn_lwords k) (tr (.someOf cs)) = _
    unfold M__law_words; rw [bd_of (show ixD (tr (.someOf cs)) 0 = some (.str "some") from rfl)]
    refine Ok.eq ?_
    refine ok_gd ⟨lit_ok (by decide +kernel), lit_ok (by decide +kernel)⟩ (ok_f (by decide +kernel) ?_)
    refine ok_gd ⟨lit_ok (by decide +kernel), lit_ok (by decide +kernel)⟩ (ok_bd (Q := fun v => v = false) (ok_f (by decide +kernel) (ok_gd ⟨lit_ok (by decide +kernel), lit_ok (by decide +kernel)⟩ (ok_some (by decide +kernel)))) fun v hv => ok_f hv ?_)
    repeat (refine ok_gd ⟨lit_ok (by decide +kernel), lit_ok (by decide +kernel)⟩ ?_; first | refine ok_t (by decide +kernel) ?_ | refine ok_f (by decide +kernel) ?_)
    obtain ⟨q, rfl⟩ : ∃ q, k = q + 1 := ⟨k - 1, by omega⟩
    have hw := wds_some g
    refine ok_lt ?_
    rw [bd_of (show ixD (tr (.someOf cs)) 1 = some (.lst (trL cs)) from rfl), bd_of (show asLD (.lst (trL cs)) = some (trL cs) from rfl)]
    rw [bd_of (lrow_some (h := q) (cs := cs) (fun c m => ih c m (g c m) (by
      have h1 := brw_ge 2 c
      have h2 := jn_le (w := "or") (List.mem_map_of_mem (f := brw 2) m)
      rw [← hw] at h2
      omega) q (by omega)) (fun c m => wds_wd (g c m)) (Nat.le_trans hl (by decide)))]
    exact ok_some rfl

theorem cut_to {α : Type} (xs : List α) (k : Nat) : cutG xs none (some (k : Int)) = xs.take k := by
  unfold cutG
  show (xs.drop 0).take (HT.sIx xs.length xs.length (some (k : Int)) - 0) = _
  rw [List.drop_zero, Nat.sub_zero, HT.sIx_nat, List.take_eq_take_iff]
  omega
theorem cut_from {α : Type} (xs : List α) (k : Nat) : cutG xs (some (k : Int)) none = xs.drop k := by
  unfold cutG
  rw [HT.sIx_nat, HT.sIx_none]
  rw [List.take_of_length_le (by rw [List.length_drop]; omega)]
  by_cases h : k ≤ xs.length
  · rw [Nat.min_eq_left h]
  · rw [Nat.min_eq_right (by omega), List.drop_length, List.drop_eq_nil_of_le (by omega)]
theorem spoilt_ok {c : Cd} (g : Gd c) (h6 : dn c ≤ 6) (hl : (wds c).length ≤ 60) (n : Int) : Ok (M__law_spoilt (wds c) n) fun q => ∃ (p : Nat) (rest : List Str), q.2 = (p : Int) ∧ p ≤ (wds c).length ∧ q.1 = (wds c).take p ++ rest ∧ RestD ((wds c).take p) rest ∧ (∀ w ∈ rest, Wd w) ∧ rest.length ≤ 61 := by
  have ww := wds_wd g
  generalize eW : wds c = W at ww hl
  unfold M__law_spoilt
  refine ok_bd (roles_ok (by omega)) fun v1 ⟨l1, l2, hs⟩ => ok_gd (by omega) (ok_ltx fun at_ ea => ?_)
  have a0 : 0 ≤ at_ ∧ at_ < (v1.1.length : Int) := by
    have := Int.emod_nonneg n (show (v1.1.length : Int) ≠ 0 by omega)
    have := Int.emod_lt_of_pos n (show 0 < (v1.1.length : Int) by omega)
    omega
  clear ea
  obtain ⟨p, rfl⟩ := Int.eq_ofNat_of_zero_le a0.1
  have hp : p ≤ W.length := by omega
  obtain ⟨s1, s2⟩ := hs p hp
  have so := state_of g h6 (p := p) (by rw [eW]; exact hp)
  rw [eW] at so
  obtain ⟨⟨r0, r5⟩, d0, h3⟩ := so
  rw [bd_of (show L2.atI v1.1 (p : Int) = _ from atI_nat s1), bd_of (show L2.atI v1.2 (p : Int) = _ from atI_nat s2)]
  refine ok_bd (bad_words_ok ⟨r0, r5⟩ d0 hp h3) fun v5 ⟨⟨b1, b2⟩, hb⟩ => ok_gd (by omega) ?_
  have b0 : 0 ≤ (n / 64) % (v5.length : Int) ∧ (n / 64) % (v5.length : Int) < (v5.length : Int) := ⟨Int.emod_nonneg _ (by omega), Int.emod_lt_of_pos _ (by omega)⟩
  refine ok_bd (ok_atIm (Q := fun x => Wd x ∧ BadW (W.take p).getLast? (sta (W.take p)).1 (sta (W.take p)).2 x) b0.1 b0.2 hb) fun x ⟨wx, bx⟩ => ok_lt ?_
  rw [cut_to, cut_from, show (p : Int) + 1 = ((p + 1 : Nat) : Int) by omega, cut_from]
  have lt_ : (W.take p).length ≤ 60 := by rw [List.length_take]; omega
  have ld : (W.drop p).length ≤ 60 := by rw [List.length_drop]; omega
  have ld1 : (W.drop (p + 1)).length ≤ 60 := by rw [List.length_drop]; omega
  refine ok_bd (Q := fun b => b = true → ((sta (W.take p)).1 ≠ 5 ∨ 0 < (sta (W.take p)).2)) (ok_cond (fun _ => ?_) fun _ => ok_some fun z => by cases z) fun v12 h12 => ok_cond (fun h => ok_some ?_) fun _ => ok_cond (fun _ => ?_) fun _ => ?_
  · rw [bd_of (show L2.atI v1.1 (p : Int) = _ from atI_nat s1)]
    refine ok_bd (Q := fun b => b = true → ((sta (W.take p)).1 ≠ 5 ∨ 0 < (sta (W.take p)).2)) (ok_cond (fun h => ok_some fun _ => .inl ?_) fun _ => ?_) fun b hb => ok_some hb
    · exact beq_eq_false_iff_ne.mp (by simpa using h)
    · rw [bd_of (show L2.atI v1.2 (p : Int) = _ from atI_nat s2)]
      exact ok_some fun z => .inr (of_decide_eq_true z)
  · exact ⟨p, [], rfl, hp, (List.append_nil _).symm, .inl ⟨rfl, h12 h⟩, (fun _ m => nomatch m), Nat.zero_le _⟩
  · refine ok_gd (sz (by show _ + 1 ≤ _; omega)) (ok_gd (sz (by rw [List.length_append]; show _ + 1 + _ ≤ _; omega)) (ok_some ⟨p, x :: W.drop p, rfl, hp, by rw [List.append_assoc]; rfl, .inr ⟨x, _, rfl, bx⟩, fun w m => ?_, by rw [List.length_cons]; omega⟩))
    rcases List.mem_cons.mp m with rfl | m
    · exact wx
    · exact ww w (List.mem_of_mem_drop m)
  · refine ok_gd (sz (by show _ + 1 ≤ _; omega)) (ok_gd (sz (by rw [List.length_append]; show _ + 1 + _ ≤ _; omega)) (ok_some ⟨p, x :: W.drop (p + 1), rfl, hp, by rw [List.append_assoc]; rfl, .inr ⟨x, _, rfl, bx⟩, fun w m => ?_, by rw [List.length_cons]; omega⟩))
    rcases List.mem_cons.mp m with rfl | m
    · exact wx
    · exact ww w (List.mem_of_mem_drop m)
theorem more_ok {a rest : List Str} (la : a.length ≤ 60) (wa : ∀ w ∈ a, Wd w) (hr : RestD a rest) (wr : ∀ w ∈ rest, Wd w) (lr : rest.length ≤ 61) (n : Int) : Ok (M__law_more (a ++ rest) (a.length : Int) n) fun L => ∃ rest', L = a ++ rest' ∧ RestD a rest' ∧ (∀ w ∈ rest', Wd w) ∧ rest'.length ≤ 61 := by
  unfold M__law_more
  have same : ∃ rest', a ++ rest = a ++ rest' ∧ RestD a rest' ∧ (∀ w ∈ rest', Wd w) ∧ rest'.length ≤ 61 := ⟨rest, rfl, hr, wr, lr⟩
  refine ok_cond (fun _ => ok_some same) fun h => ?_
  have hlen := of_decide_eq_false (Bool.or_eq_false_iff.mp h).1
  have ll : (a ++ rest).length = a.length + rest.length := List.length_append
  rw [ll] at hlen ⊢
  rcases hr with ⟨rfl, _⟩ | ⟨x, post, rfl, bx⟩
  · rw [List.length_nil] at hlen
    omega
  rw [List.length_cons] at hlen ll lr ⊢
  refine ok_gd (by omega) (ok_ltx fun spot es => ok_lt ?_)
  have s0 : (a.length : Int) + 1 ≤ spot ∧ spot < ((a.length + (post.length + 1) : Nat) : Int) := by
    have := Int.emod_nonneg (n / 3) (show (((a.length + (post.length + 1) : Nat) : Int) - (a.length : Int) - 1) ≠ 0 by omega)
    have := Int.emod_lt_of_pos (n / 3) (show 0 < (((a.length + (post.length + 1) : Nat) : Int) - (a.length : Int) - 1) by omega)
    omega
  clear es
  obtain ⟨q, eq⟩ := Int.eq_ofNat_of_zero_le (show 0 ≤ spot by omega)
  obtain ⟨j, ej⟩ : ∃ j, q = a.length + (j + 1) := ⟨q - a.length - 1, by omega⟩
  subst eq ej
  have tk : (a ++ x :: post).take (a.length + (j + 1)) = a ++ (x :: post.take j) := by rw [List.take_length_add_append]; rfl
  rw [cut_to, tk, show ((a.length + (j + 1) : Nat) : Int) + 1 = ((a.length + (j + 1) + 1 : Nat) : Int) by omega, cut_from]
  have lt_ : (post.take j).length ≤ j := by rw [List.length_take]; omega
  have lp : (post.take j).length ≤ post.length := by rw [List.length_take]; omega
  have ldr : ((a ++ x :: post).drop (a.length + (j + 1) + 1)).length = a.length + (post.length + 1) - (a.length + (j + 1) + 1) := by rw [List.length_drop, ll]
  have wx : ∀ w ∈ x :: post.take j, Wd w := fun w m => by
    rcases List.mem_cons.mp m with rfl | m
    · exact wr w List.mem_cons_self
    · exact wr w (List.mem_cons_of_mem _ (List.mem_of_mem_take m))
  refine ok_bd (ok_atIm (Q := Wd) (by omega) (by show _ < (10 : Int); omega) fun y m => lit_wd (all_of (xs := ["", "Roof", ")", "(", "and", "12", "-1", "not", "cause", "or"]) (P := wdB) (by decide +kernel) m)) fun y wy => ok_cond (fun _ => ok_some ⟨x :: post.take j, rfl, .inr ⟨x, _, rfl, bx⟩, wx, by rw [List.length_cons]; omega⟩) fun _ => ?_
  refine ok_gd (sz (by rw [List.length_append, List.length_cons]; show _ + 1 ≤ _; omega)) (ok_gd (sz (by rw [List.length_append, List.length_append, List.length_cons, ldr]; show _ + 1 + _ ≤ _; omega)) (ok_some ⟨x :: (post.take j ++ (y :: (a ++ x :: post).drop (a.length + (j + 1) + 1))), ?_, .inr ⟨x, _, rfl, bx⟩, fun w m => ?_, ?_⟩))
  · simp only [List.append_assoc, List.cons_append, List.nil_append]
  · rcases List.mem_cons.mp m with rfl | m
    · exact wr w List.mem_cons_self
    · rcases List.mem_append.mp m with m | m
      · exact wx w (List.mem_cons_of_mem _ m)
      · rcases List.mem_cons.mp m with rfl | m
        · exact wy
        · rcases List.mem_append.mp (List.mem_of_mem_drop m) with m | m
          · exact wa w m
          · exact wr w m
  · rw [List.length_cons, List.length_append, List.length_cons, ldr]
    omega
theorem nostr_er {d : D} (h : isiD "str" d = some false) : M_read_condition d = some (.er (.NoWords 0)) := by
  unfold M_read_condition
  rw [bd_of h]
  exact Ok.eq (ok_t rfl (ok_some rfl))
theorem read_is {t : D} {c : Cd} (h : M_read_condition t = some (.ok c)) : M__law_refused t = some (e_T_s ("read" : Str)) := by
  unfold M__law_refused
  rw [show bdo (M_read_condition t) (fun v3 => (some (.nx ()) : Option (Ou Unit Unit (Xr Xc D)))) = some (.nx ()) from by rw [h]; rfl]
  rfl
theorem smp_read : Smp 1 (e_T_s ("read" : Str)) := .tup fun d m => by
  rw [List.mem_singleton.mp m]
  exact (sm_lit (x := "read") (by decide +kernel)).smp
theorem joinL_blank : ∀ n : Nat, TL.joinL [32] (List.replicate (n + 1) []) = List.replicate n 32
  | 0 => rfl
  | n + 1 => by
    have ih := joinL_blank n
    show [] ++ ([32] ++ TL.joinL [32] (List.replicate (n + 1) [])) = _
    rw [ih, List.replicate_succ]
    rfl
theorem blank_is (n : Nat) : repS (" " : Str) (n : Int) = Txt.join (" " : Str) (List.replicate (n + 1) ("" : Str)) := by
  rw [join_is, List.map_replicate]
  have e : (" " : Str).cps.toList = [32] := by decide +kernel
  have e0 : ("" : Str).cps.toList = [] := by decide +kernel
  rw [e, e0, joinL_blank]
  show (⟨(List.replicate (n : Int).toNat (" " : Str).cps.toList).flatten.toArray⟩ : Str) = S _
  rw [e, show (n : Int).toNat = n by omega]
  have : ∀ m : Nat, (List.replicate m [32]).flatten = List.replicate m 32 := fun m => by
    induction m with
    | zero => rfl
    | succ m ih => rw [List.replicate_succ, List.flatten_cons, ih, List.replicate_succ]; rfl
  rw [this]
theorem blanks_er {n : Nat} (h : n < 80) : M_read_condition (.str (repS (" " : Str) (n : Int))) = some (.er (.NoWords (60 * (if (decide (59 < (n : Int))) = true then 1 else 0)))) := by
  rw [blank_is]
  have ww : ∀ w ∈ List.replicate (n + 1) ("" : Str), Wd w := fun w m => by rw [(List.mem_replicate.mp m).2]; exact lit_wd (by decide +kernel)
  by_cases h6 : 59 < n
  · rw [if_pos (decide_eq_true (by omega))]
    exact refuse_long ww ⟨by rw [List.length_replicate]; omega, by rw [List.length_replicate]; omega⟩
  · rw [if_neg (by rw [decide_eq_true_eq]; omega)]
    have := refuse_at (pre := []) (x := ("" : Str)) (post := List.replicate n ("" : Str)) (.inl ⟨0, false, hx_down (by decide) (.inl rfl) (.inr (.inr rfl)) (by decide), by decide, by unfold noStart; decide +kernel⟩) ww (by show (List.replicate n ("" : Str)).length + 1 ≤ 60; rw [List.length_replicate]; omega)
    exact this
theorem law_true (ns : List Int) (_h : ns.length ≤ 63) : M_law ns = some true := by
  unfold M_law
  refine Ok.eq (ok_bd pools_ok fun v1 hv1 => ok_bd (tree_ok hv1 (by decide) (by decide)) fun v2 ⟨c, ec, mk, g, w60, d6⟩ => ?_)
  subst ec
  have wl := wds_len g
  have l60 : (wds c).length ≤ 60 := by omega
  have ww := wds_wd g
  rw [bd_of (show Mf__law_words 64 (tr c) = some (wds c) from lwords_ok mk g (by omega) 64 (by decide))]
  have rd := read_cond_ok (tx_of g) d6 l60
  have rr : M__law_refused (.str (Txt.join (" " : Str) (wds c))) = some (e_T_s ("read" : Str)) := read_is rd
  refine ok_gd (join_gd ww (by omega)) ?_
  rw [bd_of rr]
  refine ok_gd ⟨smp_read.ok, smp_read.ok⟩ (ok_f (by rw [smp_read.eqv]; rfl) ?_)
  refine ok_bd (ok_lpN (Q := fun o => o = .nx ()) (fun _ _ => True) trivial (fun i x v hx _ => ?_) fun v _ => rfl) fun o ho => ?_
  · obtain ⟨hj, ej⟩ := List.getElem?_eq_some_iff.mp hx
    rw [List.length_range] at hj
    rw [List.getElem_range] at ej
    subst ej
    have hj : i < 8 := hj
    refine ok_bd (cell0 (by omega) (by omega)) fun v10 _ => ok_bd (mix0 _ (by omega) (by omega)) fun v11 _ => ok_bd (spoilt_ok g d6 l60 v11) fun v12 ⟨p, rest, e2, hp, e1, hr, wr, lr⟩ => ok_bd (cell0 (by omega) (by omega)) fun v13 _ => ok_bd (mix0 _ (by omega) (by omega)) fun v14 _ => ?_
    have la : ((wds c).take p).length = p := by rw [List.length_take]; omega
    have wa : ∀ w ∈ (wds c).take p, Wd w := fun w m => ww w (List.mem_of_mem_take m)
    rw [e1, e2]
    refine ok_bd (Q := fun L => ∃ rest', L = (wds c).take p ++ rest' ∧ RestD ((wds c).take p) rest' ∧ (∀ w ∈ rest', Wd w) ∧ rest'.length ≤ 61) (by
      have := more_ok (a := (wds c).take p) (by omega) wa hr wr lr v14
      rw [la] at this
      exact this) fun v15 ⟨rest', e15, hr', wr', lr'⟩ => ?_
    have w15 : ∀ w ∈ v15, Wd w := fun w m => by
      rw [e15] at m
      rcases List.mem_append.mp m with m | m
      · exact wa w m
      · exact wr' w m
    have l15 : v15.length ≤ 121 := by rw [e15, List.length_append]; omega
    refine ok_bd (Q := fun k => M__law_refused_at (.str (Txt.join (" " : Str) v15)) k = some true) (ok_cond (fun h => ok_some (refused_at (refuse_long w15 ⟨by have := of_decide_eq_true h; omega, by omega⟩))) fun h => ok_some ?_) fun k hk => ok_gd (join_gd w15 (by omega)) ?_
    · have h := of_decide_eq_false h
      have l6 : v15.length ≤ 60 := by omega
      rw [e15] at w15 l6 ⊢
      exact refused_at (spoil_at g d6 hp hr' w15 l6)
    · rw [bd_of hk]
      exact ok_f rfl (ok_some ⟨_, .inl rfl, trivial⟩)
  · subst ho
    refine ok_lt (ok_bd (cell0 (by decide) (by decide)) fun v19 _ => ?_)
    refine ok_bd (ok_atIm (Q := fun d => isiD "str" d = some false) (by omega) (by show _ < (9 : Int); omega) fun d m => ?_) fun v20 h20 => ?_
    · simp only [List.mem_cons, List.not_mem_nil, or_false] at m
      rcases m with rfl | rfl | rfl | rfl | rfl | rfl | rfl | rfl | rfl
      · show kitB "NoneType" "str" = some false; decide +kernel
      · show kitB "int" "str" = some false; decide +kernel
      · show kitB "bool" "str" = some false; decide +kernel
      · show kitB "list" "str" = some false; decide +kernel
      · show kitB "tuple" "str" = some false; decide +kernel
      · show kitB "dict" "str" = some false; decide +kernel
      · show kitB "int" "str" = some false; decide +kernel
      · show kitB "list" "str" = some false; decide +kernel
      · show kitB "int" "str" = some false; decide +kernel
    rw [bd_of (refused_at (nostr_er h20))]
    refine ok_bd (Q := fun b => b = false) (ok_f rfl ?_) fun b hb => ok_f hb ?_
    · rw [bd_of (refused_at empty_er)]
      exact ok_some rfl
    refine ok_bd (cell0 (by decide) (by decide)) fun v25 _ => ok_ltx fun blanks eb => ?_
    have b0 : 0 ≤ blanks ∧ blanks < 80 := by omega
    clear eb
    obtain ⟨n, rfl⟩ := Int.eq_ofNat_of_zero_le b0.1
    refine ok_gd ⟨⟨by omega, by omega⟩, by
      have : (" " : Str).length = 1 := by decide +kernel
      rw [this]
      show 1 * (n : Int).toNat ≤ 16777216
      omega⟩ ?_
    rw [bd_of (refused_at (blanks_er (n := n) (by omega)))]
    refine ok_f rfl (ok_gd (join_gd ww (by omega)) ?_)
    rw [bd_of rr]
    exact ok_gd ⟨smp_read.ok, smp_read.ok⟩ (ok_some smp_read.eqv)
abbrev N_law : List Str := ["_law_script", "_law_pools_here", "_law_words_here", "_law_k", "_law_spoilt_here", "_law_at", "_law_things", "_law_blanks"]
theorem sc_law : FnScope N_law ["_law_script"] (defScope s_law) := ⟨rfl, rfl, rfl, by decide +kernel, rfl, by decide +kernel, by decide +kernel⟩
theorem ok_law {f : Addr} {fd : FuncData} (F : Fun K "law" "law" s_law f fd) (z_range : mg "range" = none) (z_len : mg "len" = none) (z_tuple : mg "tuple" = none) (z_int : mg "int" = none) (c__law_pools : Fn1 P w K mg base "_law_pools" 2 ["_law_script"] (sp__law_pools K)) (c__law_tree : Fn1 P w K mg base "_law_tree" 4 ["_law_script", "_law_start", "_law_pools_here"] (sp__law_tree K)) (c__law_words : Fn1 P w K mg base "_law_words" 64 ["_law_tree_here"] (sp__law_words K 64)) (c__law_refused : Fn1 P w K mg base "_law_refused" 70 ["_law_thing"] (sp__law_refused K)) (c__law_cell : Fn1 P w K mg base "_law_cell" 1 ["_law_script", "_law_k"] (sp__law_cell K)) (c__law_mix : Fn1 P w K mg base "_law_mix" 1 ["_law_number", "_law_k"] (sp__law_mix K)) (c__law_spoilt : Fn1 P w K mg base "_law_spoilt" 2 ["_law_words_here", "_law_number"] (sp__law_spoilt K)) (c__law_more : Fn1 P w K mg base "_law_more" 1 ["_law_words_here", "_law_at", "_law_number"] (sp__law_more K)) (c__law_refused_at : Fn1 P w K mg base "_law_refused_at" 71 ["_law_thing", "_law_due"] (sp__law_refused_at K)) : FnOk P w K mg base CX0 72 f fd ["_law_script"] (spLaw K) := by
  refine fn_m F sc_law (fun x => rfl) (fun x _ => rfl) fun cdv A outer s H E hr script hx => ?_
  have hx : M_law script = some true := law_true script hx
  have nd := sc_law.nd
  unfold M_law at hx
  show MS _ [some (.vw (script.map D.int)), none, none, none, none, none, none, none] _ _
  replace hx := bd_some hx
  obtain ⟨v1, hv1, hx⟩ := hx
  refine ms_cons (m_set (ps_set (i := 1) nd rfl (Or.inl rfl) pe_w) (me_fn c__law_pools (script, v1) (ma_vw (ml_var (pv 0) rfl) ma_nil) hv1 (hr.mono (by decide))) ?_)
  show MS _ [some (.vw (script.map D.int)), some (.fz (e_T_L_s_L_i_L_i v1)), none, none, none, none, none, none] _ _
  replace hx := bd_some hx
  obtain ⟨v2, hv2, hx⟩ := hx
  replace hx := bd_some hx
  obtain ⟨v3, hv3, hx⟩ := hx
  refine ms_cons (m_set (ps_set (i := 2) nd rfl (Or.inl rfl) pe_w) (me_fn c__law_words (v2, v3) (ma_fz (me_fn c__law_tree ((script, 4, v1), v2) (ma_vw (ml_var (pv 0) rfl) (ma_fz me_int (ma_fz (me_var (pv 1) rfl) ma_nil))) hv2 (hr.mono (by decide))) ma_nil) hv3 (hr.mono (by decide))) ?_)
  show MS _ [some (.vw (script.map D.int)), some (.fz (e_T_L_s_L_i_L_i v1)), some (.lst ((v3.map D.str).map .fz)), none, none, none, none, none] _ _
  replace hx := gd_some hx
  obtain ⟨g4, hx⟩ := hx
  replace hx := bd_some hx
  obtain ⟨v5, hv5, hx⟩ := hx
  replace hx := gd_some hx
  obtain ⟨g6, hx⟩ := hx
  refine ms_cons (m_if (t := (!(D.eqv v5 (e_T_s ("read" : Str))))) (mt_neDT (d1 := v5) (d2 := (e_T_s ("read" : Str))) hr.units g6 rfl rfl (ME.v (me_fn c__law_refused ((.str (Txt.join (" " : Str) v3)), v5) (ma_fz (me_joinL (ys := v3) me_str (ml_var (pv 2) rfl) g4) ma_nil) hv5 (hr.mono (by decide)))) (ME.v (me_tup (mf_cons me_str mf_nil)))) (fun h => ?_) fun h => ms_nil ?_)
  · replace hx := cond_t hx h
    refine ms_one (m_ret (ps_ret pe_w) (ME.r me_bl) ?_)
    first | (cases hx; done) | (cases hx; rfl) | (injection hx with hx; show O.fz (.bl _) = O.fz (.bl true); rw [hx])
  replace hx := cond_f hx h
  replace hx := bd_some hx
  obtain ⟨o9, ho9, hx⟩ := hx
  refine ms_cons (m_forO (xs := (List.range (8 : Int).toNat)) (enc := (fun k : Nat => D.int (k : Nat))) (ps_for PassesOwn.never rfl (pi_range1 (by rfl) z_range pa_w) (pg_name (i := 3) nd rfl (Or.inl rfl)) pss_w) (by exact (mi_rangeT (mf_cons me_int mf_nil) ⟨by decide, by decide⟩)) ho9 (fun p7 => [some (.vw (script.map D.int)), some (.fz (e_T_L_s_L_i_L_i v1)), some (.lst ((v3.map D.str).map .fz)), none, none, none, none, none]) (fun r => .fz (.bl r)) le_auto (fun x8 p7 p7o mx hx => ?_) (fun p7 τ e le => ?_) fun q e => ?_)
  ·
    refine ⟨_, _, mg_name, ?_⟩
    show MS _ [some (.vw (script.map D.int)), some (.fz (e_T_L_s_L_i_L_i v1)), some (.lst ((v3.map D.str).map .fz)), some (.fz (.int (x8 : Int))), none, none, none, none] _ _
    replace hx := bd_some hx
    obtain ⟨v10, hv10, hx⟩ := hx
    replace hx := bd_some hx
    obtain ⟨v11, hv11, hx⟩ := hx
    replace hx := bd_some hx
    obtain ⟨v12, hv12, hx⟩ := hx
    refine ms_cons (m_tgt (ps_asg pe_w (pg_tup (n := 2) rfl (pgs_cons (pg_name (i := 4) nd rfl (Or.inl rfl)) (pgs_cons (pg_name (i := 5) nd rfl (Or.inl rfl)) pgs_nil)))) (me_fn c__law_spoilt ((v3, v11), v12) (ma_vw (ml_var (pv 2) rfl) (ma_fz (me_fn c__law_mix ((v10, (x8 : Int)), v11) (ma_fz (me_fn c__law_cell ((script, (3 + (7 * (x8 : Int)))), v10) (ma_vw (ml_var (pv 0) rfl) (ma_fz (me_add me_int (me_mul me_int (me_var (pv 3) rfl) (.inl ⟨by decide, by decide⟩))) ma_nil)) hv10 (hr.mono (by decide))) (ma_fz (me_var (pv 3) rfl) ma_nil)) hv11 (hr.mono (by decide))) ma_nil)) hv12 (hr.mono (by decide))) (mg_tup (mgs_cons mg_name (mgs_cons mg_name mgs_nil)) rfl) ?_)
    show MS _ [some (.vw (script.map D.int)), some (.fz (e_T_L_s_L_i_L_i v1)), some (.lst ((v3.map D.str).map .fz)), some (.fz (.int (x8 : Int))), some (.fz (.lst (v12.1.map D.str))), some (.fz (.int v12.2)), none, none] _ _
    replace hx := bd_some hx
    obtain ⟨v13, hv13, hx⟩ := hx
    replace hx := bd_some hx
    obtain ⟨v14, hv14, hx⟩ := hx
    replace hx := bd_some hx
    obtain ⟨v15, hv15, hx⟩ := hx
    refine ms_cons (m_set (ps_set (i := 4) nd rfl (Or.inl rfl) pe_w) (me_fn c__law_more ((v12.1, v12.2, v14), v15) (ma_fz (me_var (pv 4) rfl) (ma_fz (me_var (pv 5) rfl) (ma_fz (me_fn c__law_mix ((v13, ((x8 : Int) + 20)), v14) (ma_fz (me_fn c__law_cell ((script, (4 + (7 * (x8 : Int)))), v13) (ma_vw (ml_var (pv 0) rfl) (ma_fz (me_add me_int (me_mul me_int (me_var (pv 3) rfl) (.inl ⟨by decide, by decide⟩))) ma_nil)) hv13 (hr.mono (by decide))) (ma_fz (me_add (me_var (pv 3) rfl) me_int) ma_nil)) hv14 (hr.mono (by decide))) ma_nil))) hv15 (hr.mono (by decide))) ?_)
    show MS _ [some (.vw (script.map D.int)), some (.fz (e_T_L_s_L_i_L_i v1)), some (.lst ((v3.map D.str).map .fz)), some (.fz (.int (x8 : Int))), some (.fz (.lst (v15.map D.str))), some (.fz (.int v12.2)), none, none] _ _
    replace hx := bd_some hx
    obtain ⟨p16, hp16, hx⟩ := hx
    refine ms_cons (m_ifP (out := p16) (fun p16 => [some (.vw (script.map D.int)), some (.fz (e_T_L_s_L_i_L_i v1)), some (.lst ((v3.map D.str).map .fz)), some (.fz (.int (x8 : Int))), some (.fz (.lst (v15.map D.str))), some (.fz (.int p16)), none, none]) (t := (decide (60 < (v15.length : Int)))) (mt_gt (me_lenLT (xs := v15) (enc := D.str) (by rfl) z_len (ml_var (pv 4) rfl)) me_int) (fun h => ?_) (fun h => ?_) fun τ le => ?_)
    · replace hx := cond_t hp16 h
      refine ms_one (m_set (ps_set (i := 5) nd rfl (Or.inl rfl) pe_w) me_int ?_)
      cases hx; exact le_auto
    · replace hx := cond_f hp16 h
      refine ms_nil ?_
      cases hx; exact le_auto
    refine ms_le le ?_
    show MS _ [some (.vw (script.map D.int)), some (.fz (e_T_L_s_L_i_L_i v1)), some (.lst ((v3.map D.str).map .fz)), some (.fz (.int (x8 : Int))), some (.fz (.lst (v15.map D.str))), some (.fz (.int p16)), none, none] _ _
    replace hx := gd_some hx
    obtain ⟨g17, hx⟩ := hx
    replace hx := bd_some hx
    obtain ⟨v18, hv18, hx⟩ := hx
    refine ms_one (m_if (t := (!v18)) (mt_not (mt_val (me_fn c__law_refused_at (((.str (Txt.join (" " : Str) v15)), p16), v18) (ma_fz (me_joinL (ys := v15) me_str (ml_var (pv 4) rfl) g17) (ma_fz (me_var (pv 5) rfl) ma_nil)) hv18 (hr.mono (by decide))))) (fun h => ?_) fun h => ms_nil ?_)
    · replace hx := cond_t hx h
      refine ms_one (m_ret (ps_ret pe_w) (ME.r me_bl) ?_)
      cases hx; exact ⟨_, rfl, rfl⟩
    replace hx := cond_f hx h
    cases hx; exact ⟨_, rfl, le_auto⟩
  · subst e
    dsimp only [ouR] at hx
    refine ms_le le ?_
    show MS _ [some (.vw (script.map D.int)), some (.fz (e_T_L_s_L_i_L_i v1)), some (.lst ((v3.map D.str).map .fz)), none, none, none, none, none] _ _
    refine ms_frzl (i := 2) rfl ?_
    show MS _ [some (.vw (script.map D.int)), some (.fz (e_T_L_s_L_i_L_i v1)), some (.fz (.lst (v3.map D.str))), none, none, none, none, none] _ _
    replace hx := lt_some hx
    obtain ⟨things, ethings, hx⟩ := hx
    refine ms_cons (m_set (ps_set (i := 6) nd rfl (Or.inl rfl) pe_w) (ME.is (o' := (.lst ((things.map e_d).map .fz))) (me_lst (ds := [(.non), (.int (5 : Int)), (.bl true), (.lst (v3.map D.str)), (.tup (v3.map D.str) : D), (.dct [] [] : D), (.int (0 : Int)), (.lst [] : D), (.int (-(1 : Int)))].map e_d) (mf_cons me_non (mf_cons me_int (mf_cons me_bl (mf_cons (me_var (pv 2) rfl) (mf_cons (ME.is (o' := .fz (.tup (v3.map D.str))) (ME.frz (me_tupL2 (ds := v3.map D.str) (by rfl) z_tuple (ml_var (pv 2) rfl)) (nv_tup97 _)) (congrArg O.fz (frz_tup97 _))) (mf_cons me_dict0 (mf_cons me_int (mf_cons (ME.frzl (me_lst mf_nil)) (mf_cons (me_neg me_int) mf_nil)))))))))) (by rw [ethings] <;> rfl)) ?_)
    show MS _ [some (.vw (script.map D.int)), some (.fz (e_T_L_s_L_i_L_i v1)), some (.fz (.lst (v3.map D.str))), none, none, none, some (.lst ((things.map e_d).map .fz)), none] _ _
    replace hx := bd_some hx
    obtain ⟨v19, hv19, hx⟩ := hx
    replace hx := bd_some hx
    obtain ⟨v20, hv20, hx⟩ := hx
    replace hx := bd_some hx
    obtain ⟨v21, hv21, hx⟩ := hx
    replace hx := bd_some hx
    obtain ⟨v23, hv23, hx⟩ := hx
    refine ms_cons (m_if (t := v23) (MW.t (MW.is (mw_or (mt_not (mt_val (me_fn c__law_refused_at ((v20, 0), v21) (ma_fz (me_ixLT (xs := things) (enc := e_d) hv20 (ml_var (pv 6) rfl) (me_mod (me_fn c__law_cell ((script, 2), v19) (ma_vw (ml_var (pv 0) rfl) (ma_fz me_int ma_nil)) hv19 (hr.mono (by decide))) me_int (by decide))) (ma_fz me_int ma_nil)) hv21 (hr.mono (by decide))))) fun q24 => (by have hx := cond_f hv23 q24; replace hx := bd_some hx; obtain ⟨v22, hv22, hx⟩ := hx; cases hx; exact (mw_or1 (mt_not (mt_val (me_fn c__law_refused_at (((.str ("" : Str)), 0), v22) (ma_fz me_str (ma_fz me_int ma_nil)) hv22 (hr.mono (by decide)))))))) (or_c hv23))) (fun h => ?_) fun h => ms_nil ?_)
    · replace hx := cond_t hx h
      refine ms_one (m_ret (ps_ret pe_w) (ME.r me_bl) ?_)
      first | (cases hx; done) | (cases hx; rfl) | (injection hx with hx; show O.fz (.bl _) = O.fz (.bl true); rw [hx])
    replace hx := cond_f hx h
    replace hx := bd_some hx
    obtain ⟨v25, hv25, hx⟩ := hx
    replace hx := lt_some hx
    obtain ⟨blanks, eblanks, hx⟩ := hx
    refine ms_cons (m_set (ps_set (i := 7) nd rfl (Or.inl rfl) pe_w) (ME.is (o' := (.fz (.int blanks))) (me_mod (me_fn c__law_cell ((script, 1), v25) (ma_vw (ml_var (pv 0) rfl) (ma_fz me_int ma_nil)) hv25 (hr.mono (by decide))) me_int (by decide)) (by rw [eblanks] <;> rfl)) ?_)
    show MS _ [some (.vw (script.map D.int)), some (.fz (e_T_L_s_L_i_L_i v1)), some (.fz (.lst (v3.map D.str))), none, none, none, some (.lst ((things.map e_d).map .fz)), some (.fz (.int blanks))] _ _
    replace hx := gd_some hx
    obtain ⟨g26, hx⟩ := hx
    replace hx := bd_some hx
    obtain ⟨v27, hv27, hx⟩ := hx
    refine ms_cons (m_if (t := (!v27)) (mt_not (mt_val (me_fn c__law_refused_at (((.str (repS (" " : Str) blanks)), (60 * (if (decide (59 < blanks)) then 1 else 0))), v27) (ma_fz (me_repS g26 me_str (me_var (pv 7) rfl)) (ma_fz (me_mul me_int (me_intB (by rfl) z_int (me_gt (me_var (pv 7) rfl) me_int)) (.inl ⟨by decide, by decide⟩)) ma_nil)) hv27 (hr.mono (by decide))))) (fun h => ?_) fun h => ms_nil ?_)
    · replace hx := cond_t hx h
      refine ms_one (m_ret (ps_ret pe_w) (ME.r me_bl) ?_)
      first | (cases hx; done) | (cases hx; rfl) | (injection hx with hx; show O.fz (.bl _) = O.fz (.bl true); rw [hx])
    replace hx := cond_f hx h
    replace hx := gd_some hx
    obtain ⟨g28, hx⟩ := hx
    replace hx := bd_some hx
    obtain ⟨v29, hv29, hx⟩ := hx
    replace hx := gd_some hx
    obtain ⟨g30, hx⟩ := hx
    refine ms_one (m_ret (ps_ret pe_w) (ME.r (me_eqDT (d1 := v29) (d2 := (e_T_s ("read" : Str))) hr.units g30 rfl rfl (ME.v (me_fn c__law_refused ((.str (Txt.join (" " : Str) v3)), v29) (ma_fz (me_joinL (ys := v3) me_str (ml_var (pv 2) rfl) g28) ma_nil) hv29 (hr.mono (by decide)))) (ME.v (me_tup (mf_cons me_str mf_nil))))) ?_)
    first | (cases hx; done) | (cases hx; rfl) | (injection hx with hx; show O.fz (.bl _) = O.fz (.bl true); rw [hx])
  · subst e; cases hx; rfl
end
theorem all_mk {l : PySem.W.OpenLaw} {w : World} {K : PySem.W.Frag} {h : Heap} {mg : Str → Option Value} {fa : Addr} (X : K.In h) (G : h.Ns mainGlobals mg) (hfa : mg "law" = some (.ref fa))
    {C_Some : Addr} (a_Some : PySem.W.nsIn K mainGlobals "Some" = some (some (.ref C_Some))) (pg_Some : PySem.W.plainGet K C_Some Str.empty = true) (hd_Some : PySem.W.hasDictIn K C_Some = true) (po_Some : PySem.W.plainOver K C_Some = true) (sa_Some : PySem.W.findIn K (.ref C_Some) "__setattr__" = some (some (.builtin "object.__setattr__"))) (mk_Some : PySem.W.makesIn K C_Some = true) (kc_Some : PySem.W.keepIn K (.ref C_Some) = true)
    (na_Some_several : PySem.W.findIn K (.ref C_Some) "several" = some none)
    {C_All : Addr} (a_All : PySem.W.nsIn K mainGlobals "All" = some (some (.ref C_All))) (pg_All : PySem.W.plainGet K C_All Str.empty = true) (hd_All : PySem.W.hasDictIn K C_All = true) (po_All : PySem.W.plainOver K C_All = true) (sa_All : PySem.W.findIn K (.ref C_All) "__setattr__" = some (some (.builtin "object.__setattr__"))) (mk_All : PySem.W.makesIn K C_All = true) (kc_All : PySem.W.keepIn K (.ref C_All) = true)
    (na_All_several : PySem.W.findIn K (.ref C_All) "several" = some none)
    {C_CauseIs : Addr} (a_CauseIs : PySem.W.nsIn K mainGlobals "CauseIs" = some (some (.ref C_CauseIs))) (pg_CauseIs : PySem.W.plainGet K C_CauseIs Str.empty = true) (hd_CauseIs : PySem.W.hasDictIn K C_CauseIs = true) (po_CauseIs : PySem.W.plainOver K C_CauseIs = true) (sa_CauseIs : PySem.W.findIn K (.ref C_CauseIs) "__setattr__" = some (some (.builtin "object.__setattr__"))) (mk_CauseIs : PySem.W.makesIn K C_CauseIs = true) (kc_CauseIs : PySem.W.keepIn K (.ref C_CauseIs) = true)
    (na_CauseIs_name : PySem.W.findIn K (.ref C_CauseIs) "name" = some none)
    {C_ThingIs : Addr} (a_ThingIs : PySem.W.nsIn K mainGlobals "ThingIs" = some (some (.ref C_ThingIs))) (pg_ThingIs : PySem.W.plainGet K C_ThingIs Str.empty = true) (hd_ThingIs : PySem.W.hasDictIn K C_ThingIs = true) (po_ThingIs : PySem.W.plainOver K C_ThingIs = true) (sa_ThingIs : PySem.W.findIn K (.ref C_ThingIs) "__setattr__" = some (some (.builtin "object.__setattr__"))) (mk_ThingIs : PySem.W.makesIn K C_ThingIs = true) (kc_ThingIs : PySem.W.keepIn K (.ref C_ThingIs) = true)
    (na_ThingIs_name : PySem.W.findIn K (.ref C_ThingIs) "name" = some none)
    {C_Over : Addr} (a_Over : PySem.W.nsIn K mainGlobals "Over" = some (some (.ref C_Over))) (pg_Over : PySem.W.plainGet K C_Over Str.empty = true) (hd_Over : PySem.W.hasDictIn K C_Over = true) (po_Over : PySem.W.plainOver K C_Over = true) (sa_Over : PySem.W.findIn K (.ref C_Over) "__setattr__" = some (some (.builtin "object.__setattr__"))) (mk_Over : PySem.W.makesIn K C_Over = true) (kc_Over : PySem.W.keepIn K (.ref C_Over) = true)
    (na_Over_cents : PySem.W.findIn K (.ref C_Over) "cents" = some none)
    {C_DaysIn : Addr} (a_DaysIn : PySem.W.nsIn K mainGlobals "DaysIn" = some (some (.ref C_DaysIn))) (pg_DaysIn : PySem.W.plainGet K C_DaysIn Str.empty = true) (hd_DaysIn : PySem.W.hasDictIn K C_DaysIn = true) (po_DaysIn : PySem.W.plainOver K C_DaysIn = true) (sa_DaysIn : PySem.W.findIn K (.ref C_DaysIn) "__setattr__" = some (some (.builtin "object.__setattr__"))) (mk_DaysIn : PySem.W.makesIn K C_DaysIn = true) (kc_DaysIn : PySem.W.keepIn K (.ref C_DaysIn) = true)
    (na_DaysIn_first : PySem.W.findIn K (.ref C_DaysIn) "first" = some none)
    (na_DaysIn_last : PySem.W.findIn K (.ref C_DaysIn) "last" = some none)
    {C_Condition : Addr} (a_Condition : PySem.W.nsIn K mainGlobals "Condition" = some (some (.ref C_Condition))) (pg_Condition : PySem.W.plainGet K C_Condition Str.empty = true) (hd_Condition : PySem.W.hasDictIn K C_Condition = true) (po_Condition : PySem.W.plainOver K C_Condition = true) (sa_Condition : PySem.W.findIn K (.ref C_Condition) "__setattr__" = some (some (.builtin "object.__setattr__"))) (mk_Condition : PySem.W.makesIn K C_Condition = true) (kc_Condition : PySem.W.keepIn K (.ref C_Condition) = true)
    {C_Not : Addr} (a_Not : PySem.W.nsIn K mainGlobals "Not" = some (some (.ref C_Not))) (pg_Not : PySem.W.plainGet K C_Not Str.empty = true) (hd_Not : PySem.W.hasDictIn K C_Not = true) (po_Not : PySem.W.plainOver K C_Not = true) (sa_Not : PySem.W.findIn K (.ref C_Not) "__setattr__" = some (some (.builtin "object.__setattr__"))) (mk_Not : PySem.W.makesIn K C_Not = true) (kc_Not : PySem.W.keepIn K (.ref C_Not) = true)
    (na_Not_part : PySem.W.findIn K (.ref C_Not) "part" = some none)
    {C_CoverError : Addr} (a_CoverError : PySem.W.nsIn K mainGlobals "CoverError" = some (some (.ref C_CoverError)))
    {C_NoAmount : Addr} (a_NoAmount : PySem.W.nsIn K mainGlobals "NoAmount" = some (some (.ref C_NoAmount)))
    {C_NoWords : Addr} (a_NoWords : PySem.W.nsIn K mainGlobals "NoWords" = some (some (.ref C_NoWords)))
    {C_TooDeep : Addr} (a_TooDeep : PySem.W.nsIn K mainGlobals "TooDeep" = some (some (.ref C_TooDeep)))
    {C_NoText : Addr} (a_NoText : PySem.W.nsIn K mainGlobals "NoText" = some (some (.ref C_NoText)))
    (xq_NoAmount : PySem.W.excIn K C_NoAmount [.type "ValueError", .type "Exception", .type "BaseException", .type "object"] "ValueError.__new__" = true)
    (xk_NoAmount : PySem.W.keepIn K (.ref C_NoAmount) = true)
    (xb_NoAmount : PySem.W.subIn K (.ref C_NoAmount) (.type "BaseException") = some true)
    (xt_NoAmount : PySem.W.typeIn K (.ref C_NoAmount) = some (.type "type"))
    (xq_TooDeep : PySem.W.excIn K C_TooDeep [.type "ValueError", .type "Exception", .type "BaseException", .type "object"] "ValueError.__new__" = true)
    (xk_TooDeep : PySem.W.keepIn K (.ref C_TooDeep) = true)
    (xb_TooDeep : PySem.W.subIn K (.ref C_TooDeep) (.type "BaseException") = some true)
    (xt_TooDeep : PySem.W.typeIn K (.ref C_TooDeep) = some (.type "type"))
    (xg_NoWords : PySem.W.findIn K (.ref C_NoWords) "__getattribute__" = some (some (.builtin "BaseException.__getattribute__")))
    (xh_NoWords : PySem.W.findIn K (.ref C_NoWords) "__getattr__" = some none)
    (xb_NoWords : PySem.W.subIn K (.ref C_NoWords) (.type "BaseException") = some true)
    (xd_NoWords : PySem.W.hasDictIn K C_NoWords = true)
    (xa_NoWords : PySem.W.findIn K (.ref C_NoWords) "__class__" = some (some (.builtin "object.__class__")))
    (xm_NoWords : PySem.W.mroIn K C_NoWords (.type "object") = some true)
    (xg_TooDeep : PySem.W.findIn K (.ref C_TooDeep) "__getattribute__" = some (some (.builtin "BaseException.__getattribute__")))
    (xh_TooDeep : PySem.W.findIn K (.ref C_TooDeep) "__getattr__" = some none)
    (xd_TooDeep : PySem.W.hasDictIn K C_TooDeep = true)
    (xa_TooDeep : PySem.W.findIn K (.ref C_TooDeep) "__class__" = some (some (.builtin "object.__class__")))
    (xm_TooDeep : PySem.W.mroIn K C_TooDeep (.type "object") = some true)
    (xg_NoAmount : PySem.W.findIn K (.ref C_NoAmount) "__getattribute__" = some (some (.builtin "BaseException.__getattribute__")))
    (xh_NoAmount : PySem.W.findIn K (.ref C_NoAmount) "__getattr__" = some none)
    (xd_NoAmount : PySem.W.hasDictIn K C_NoAmount = true)
    (xa_NoAmount : PySem.W.findIn K (.ref C_NoAmount) "__class__" = some (some (.builtin "object.__class__")))
    (xm_NoAmount : PySem.W.mroIn K C_NoAmount (.type "object") = some true)
    (xn0 : PySem.W.specialIn K (.builtin "object.__class__") "__get__" = some (some (.builtin "getset_descriptor.__get__"))) (xt0 : PySem.W.takesIn K (.builtin "object.__class__") = some true)
    (xs_NoAmount_NoAmount : PySem.W.subIn K (.ref C_NoAmount) (.ref C_NoAmount) = some true)
    (xb_CoverError : PySem.W.subIn K (.ref C_CoverError) (.type "BaseException") = some true)
    (xd_CoverError : PySem.W.hasDictIn K C_CoverError = true)
    (xt_CoverError : PySem.W.typeIn K (.ref C_CoverError) = some (.type "type"))
    (xs_NoWords_CoverError : PySem.W.subIn K (.ref C_NoWords) (.ref C_CoverError) = some true)
    (xs_TooDeep_CoverError : PySem.W.subIn K (.ref C_TooDeep) (.ref C_CoverError) = some true)
    (xs_NoAmount_CoverError : PySem.W.subIn K (.ref C_NoAmount) (.ref C_CoverError) = some true)
    (ob_Condition : PySem.W.findIn K (.ref C_Condition) "__init__" = some (some (.builtin "object.__init__")))
    {f0 : Addr} {od0 an0 : Option Addr} {sl0 : Array (Option Value)} {oc0 kV0 dc0 pm0 cd0 ct0 : Value}
    (a0 : PySem.W.nsIn K mainGlobals "_law_cell" = some (some (.ref f0))) (l0 : K.lookup f0 = some ⟨oc0, od0, .func (PySem.W.fnOf "_law_cell" "_law_cell" (defArgs s__law_cell) (defBody s__law_cell) (defScope s__law_cell) .none kV0 dc0 pm0 an0 cd0 ct0), sl0⟩) (c0 : PySem.W.codeIn K cd0 "_law_cell" = true) (k0 : PySem.W.keepIn K (.ref f0) = true)
    {f1 : Addr} {od1 an1 : Option Addr} {sl1 : Array (Option Value)} {oc1 kV1 dc1 pm1 cd1 ct1 : Value}
    (a1 : PySem.W.nsIn K mainGlobals "_law_name" = some (some (.ref f1))) (l1 : K.lookup f1 = some ⟨oc1, od1, .func (PySem.W.fnOf "_law_name" "_law_name" (defArgs s__law_name) (defBody s__law_name) (defScope s__law_name) .none kV1 dc1 pm1 an1 cd1 ct1), sl1⟩) (c1 : PySem.W.codeIn K cd1 "_law_name" = true) (k1 : PySem.W.keepIn K (.ref f1) = true)
    {f2 : Addr} {od2 an2 : Option Addr} {sl2 : Array (Option Value)} {oc2 kV2 dc2 pm2 cd2 ct2 : Value}
    (a2 : PySem.W.nsIn K mainGlobals "_law_mix" = some (some (.ref f2))) (l2 : K.lookup f2 = some ⟨oc2, od2, .func (PySem.W.fnOf "_law_mix" "_law_mix" (defArgs s__law_mix) (defBody s__law_mix) (defScope s__law_mix) .none kV2 dc2 pm2 an2 cd2 ct2), sl2⟩) (c2 : PySem.W.codeIn K cd2 "_law_mix" = true) (k2 : PySem.W.keepIn K (.ref f2) = true)
    {f3 : Addr} {od3 an3 : Option Addr} {sl3 : Array (Option Value)} {oc3 kV3 dc3 pm3 cd3 ct3 : Value}
    (a3 : PySem.W.nsIn K mainGlobals "_law_other" = some (some (.ref f3))) (l3 : K.lookup f3 = some ⟨oc3, od3, .func (PySem.W.fnOf "_law_other" "_law_other" (defArgs s__law_other) (defBody s__law_other) (defScope s__law_other) .none kV3 dc3 pm3 an3 cd3 ct3), sl3⟩) (c3 : PySem.W.codeIn K cd3 "_law_other" = true) (k3 : PySem.W.keepIn K (.ref f3) = true)
    {f4 : Addr} {od4 an4 : Option Addr} {sl4 : Array (Option Value)} {oc4 kV4 dc4 pm4 cd4 ct4 : Value}
    (a4 : PySem.W.nsIn K mainGlobals "_law_pools" = some (some (.ref f4))) (l4 : K.lookup f4 = some ⟨oc4, od4, .func (PySem.W.fnOf "_law_pools" "_law_pools" (defArgs s__law_pools) (defBody s__law_pools) (defScope s__law_pools) .none kV4 dc4 pm4 an4 cd4 ct4), sl4⟩) (c4 : PySem.W.codeIn K cd4 "_law_pools" = true) (k4 : PySem.W.keepIn K (.ref f4) = true)
    {f5 : Addr} {od5 an5 : Option Addr} {sl5 : Array (Option Value)} {oc5 kV5 dc5 pm5 cd5 ct5 : Value}
    (a5 : PySem.W.nsIn K mainGlobals "_law_bracketed" = some (some (.ref f5))) (l5 : K.lookup f5 = some ⟨oc5, od5, .func (PySem.W.fnOf "_law_bracketed" "_law_bracketed" (defArgs s__law_bracketed) (defBody s__law_bracketed) (defScope s__law_bracketed) .none kV5 dc5 pm5 an5 cd5 ct5), sl5⟩) (c5 : PySem.W.codeIn K cd5 "_law_bracketed" = true) (k5 : PySem.W.keepIn K (.ref f5) = true)
    {f6 : Addr} {od6 an6 : Option Addr} {sl6 : Array (Option Value)} {oc6 kV6 dc6 pm6 cd6 ct6 : Value}
    (a6 : PySem.W.nsIn K mainGlobals "_law_join" = some (some (.ref f6))) (l6 : K.lookup f6 = some ⟨oc6, od6, .func (PySem.W.fnOf "_law_join" "_law_join" (defArgs s__law_join) (defBody s__law_join) (defScope s__law_join) .none kV6 dc6 pm6 an6 cd6 ct6), sl6⟩) (c6 : PySem.W.codeIn K cd6 "_law_join" = true) (k6 : PySem.W.keepIn K (.ref f6) = true)
    {f7 : Addr} {od7 an7 : Option Addr} {sl7 : Array (Option Value)} {oc7 kV7 dc7 pm7 cd7 ct7 : Value}
    (a7 : PySem.W.nsIn K mainGlobals "_law_leaf" = some (some (.ref f7))) (l7 : K.lookup f7 = some ⟨oc7, od7, .func (PySem.W.fnOf "_law_leaf" "_law_leaf" (defArgs s__law_leaf) (defBody s__law_leaf) (defScope s__law_leaf) .none kV7 dc7 pm7 an7 cd7 ct7), sl7⟩) (c7 : PySem.W.codeIn K cd7 "_law_leaf" = true) (k7 : PySem.W.keepIn K (.ref f7) = true)
    {f8 : Addr} {od8 an8 : Option Addr} {sl8 : Array (Option Value)} {oc8 kV8 dc8 pm8 cd8 ct8 : Value}
    (a8 : PySem.W.nsIn K mainGlobals "_law_step" = some (some (.ref f8))) (l8 : K.lookup f8 = some ⟨oc8, od8, .func (PySem.W.fnOf "_law_step" "_law_step" (defArgs s__law_step) (defBody s__law_step) (defScope s__law_step) .none kV8 dc8 pm8 an8 cd8 ct8), sl8⟩) (c8 : PySem.W.codeIn K cd8 "_law_step" = true) (k8 : PySem.W.keepIn K (.ref f8) = true)
    {f9 : Addr} {od9 an9 : Option Addr} {sl9 : Array (Option Value)} {oc9 kV9 dc9 pm9 cd9 ct9 : Value}
    (a9 : PySem.W.nsIn K mainGlobals "_law_tree" = some (some (.ref f9))) (l9 : K.lookup f9 = some ⟨oc9, od9, .func (PySem.W.fnOf "_law_tree" "_law_tree" (defArgs s__law_tree) (defBody s__law_tree) (defScope s__law_tree) .none kV9 dc9 pm9 an9 cd9 ct9), sl9⟩) (c9 : PySem.W.codeIn K cd9 "_law_tree" = true) (k9 : PySem.W.keepIn K (.ref f9) = true)
    {f10 : Addr} {od10 an10 : Option Addr} {sl10 : Array (Option Value)} {oc10 kV10 dc10 pm10 cd10 ct10 : Value}
    (a10 : PySem.W.nsIn K mainGlobals "_law_inner" = some (some (.ref f10))) (l10 : K.lookup f10 = some ⟨oc10, od10, .func (PySem.W.fnOf "_law_inner" "_law_inner" (defArgs s__law_inner) (defBody s__law_inner) (defScope s__law_inner) .none kV10 dc10 pm10 an10 cd10 ct10), sl10⟩) (c10 : PySem.W.codeIn K cd10 "_law_inner" = true) (k10 : PySem.W.keepIn K (.ref f10) = true)
    {f11 : Addr} {od11 an11 : Option Addr} {sl11 : Array (Option Value)} {oc11 kV11 dc11 pm11 cd11 ct11 : Value}
    (a11 : PySem.W.nsIn K mainGlobals "_law_words" = some (some (.ref f11))) (l11 : K.lookup f11 = some ⟨oc11, od11, .func (PySem.W.fnOf "_law_words" "_law_words" (defArgs s__law_words) (defBody s__law_words) (defScope s__law_words) .none kV11 dc11 pm11 an11 cd11 ct11), sl11⟩) (c11 : PySem.W.codeIn K cd11 "_law_words" = true) (k11 : PySem.W.keepIn K (.ref f11) = true)
    {f12 : Addr} {od12 an12 : Option Addr} {sl12 : Array (Option Value)} {oc12 kV12 dc12 pm12 cd12 ct12 : Value}
    (a12 : PySem.W.findIn K (.ref C_NoWords) "__init__" = some (some (.ref f12))) (l12 : K.lookup f12 = some ⟨oc12, od12, .func (PySem.W.fnOf "__init__" "NoWords.__init__" (defArgs s_NoWords___init__) (defBody s_NoWords___init__) (defScope s_NoWords___init__) .none kV12 dc12 pm12 an12 cd12 ct12), sl12⟩) (c12 : PySem.W.codeIn K cd12 "NoWords.__init__" = true) (k12 : PySem.W.keepIn K (.ref f12) = true) (i12 : PySem.W.isFn K (.ref f12) = true) (tf12 : PySem.W.typeIn K (.ref f12) = some (.type "function"))
    {f13 : Addr} {od13 an13 : Option Addr} {sl13 : Array (Option Value)} {oc13 kV13 dc13 pm13 cd13 ct13 : Value}
    (a13 : PySem.W.findIn K (.ref C_Some) "__init__" = some (some (.ref f13))) (l13 : K.lookup f13 = some ⟨oc13, od13, .func (PySem.W.fnOf "__init__" "Some.__init__" (defArgs s_Some___init__) (defBody s_Some___init__) (defScope s_Some___init__) .none kV13 dc13 pm13 an13 cd13 ct13), sl13⟩) (c13 : PySem.W.codeIn K cd13 "Some.__init__" = true) (k13 : PySem.W.keepIn K (.ref f13) = true) (i13 : PySem.W.isFn K (.ref f13) = true)
    {f14 : Addr} {od14 an14 : Option Addr} {sl14 : Array (Option Value)} {oc14 kV14 dc14 pm14 cd14 ct14 : Value}
    (a14 : PySem.W.findIn K (.ref C_All) "__init__" = some (some (.ref f14))) (l14 : K.lookup f14 = some ⟨oc14, od14, .func (PySem.W.fnOf "__init__" "All.__init__" (defArgs s_All___init__) (defBody s_All___init__) (defScope s_All___init__) .none kV14 dc14 pm14 an14 cd14 ct14), sl14⟩) (c14 : PySem.W.codeIn K cd14 "All.__init__" = true) (k14 : PySem.W.keepIn K (.ref f14) = true) (i14 : PySem.W.isFn K (.ref f14) = true)
    {f15 : Addr} {od15 an15 : Option Addr} {sl15 : Array (Option Value)} {oc15 kV15 dc15 pm15 cd15 ct15 : Value}
    (a15 : PySem.W.nsIn K mainGlobals "is_name" = some (some (.ref f15))) (l15 : K.lookup f15 = some ⟨oc15, od15, .func (PySem.W.fnOf "is_name" "is_name" (defArgs s_is_name) (defBody s_is_name) (defScope s_is_name) .none kV15 dc15 pm15 an15 cd15 ct15), sl15⟩) (c15 : PySem.W.codeIn K cd15 "is_name" = true) (k15 : PySem.W.keepIn K (.ref f15) = true)
    {f16 : Addr} {od16 an16 : Option Addr} {sl16 : Array (Option Value)} {oc16 kV16 dc16 pm16 cd16 ct16 : Value}
    (a16 : PySem.W.nsIn K mainGlobals "name_at" = some (some (.ref f16))) (l16 : K.lookup f16 = some ⟨oc16, od16, .func (PySem.W.fnOf "name_at" "name_at" (defArgs s_name_at) (defBody s_name_at) (defScope s_name_at) .none kV16 dc16 pm16 an16 cd16 ct16), sl16⟩) (c16 : PySem.W.codeIn K cd16 "name_at" = true) (k16 : PySem.W.keepIn K (.ref f16) = true)
    {f17 : Addr} {od17 an17 : Option Addr} {sl17 : Array (Option Value)} {oc17 kV17 dc17 pm17 cd17 ct17 : Value}
    (a17 : PySem.W.findIn K (.ref C_CauseIs) "__init__" = some (some (.ref f17))) (l17 : K.lookup f17 = some ⟨oc17, od17, .func (PySem.W.fnOf "__init__" "CauseIs.__init__" (defArgs s_CauseIs___init__) (defBody s_CauseIs___init__) (defScope s_CauseIs___init__) .none kV17 dc17 pm17 an17 cd17 ct17), sl17⟩) (c17 : PySem.W.codeIn K cd17 "CauseIs.__init__" = true) (k17 : PySem.W.keepIn K (.ref f17) = true) (i17 : PySem.W.isFn K (.ref f17) = true)
    {f18 : Addr} {od18 an18 : Option Addr} {sl18 : Array (Option Value)} {oc18 kV18 dc18 pm18 cd18 ct18 : Value}
    (a18 : PySem.W.findIn K (.ref C_ThingIs) "__init__" = some (some (.ref f18))) (l18 : K.lookup f18 = some ⟨oc18, od18, .func (PySem.W.fnOf "__init__" "ThingIs.__init__" (defArgs s_ThingIs___init__) (defBody s_ThingIs___init__) (defScope s_ThingIs___init__) .none kV18 dc18 pm18 an18 cd18 ct18), sl18⟩) (c18 : PySem.W.codeIn K cd18 "ThingIs.__init__" = true) (k18 : PySem.W.keepIn K (.ref f18) = true) (i18 : PySem.W.isFn K (.ref f18) = true)
    {f19 : Addr} {od19 an19 : Option Addr} {sl19 : Array (Option Value)} {oc19 kV19 dc19 pm19 cd19 ct19 : Value}
    (a19 : PySem.W.nsIn K mainGlobals "all_figures" = some (some (.ref f19))) (l19 : K.lookup f19 = some ⟨oc19, od19, .func (PySem.W.fnOf "all_figures" "all_figures" (defArgs s_all_figures) (defBody s_all_figures) (defScope s_all_figures) .none kV19 dc19 pm19 an19 cd19 ct19), sl19⟩) (c19 : PySem.W.codeIn K cd19 "all_figures" = true) (k19 : PySem.W.keepIn K (.ref f19) = true)
    {f20 : Addr} {od20 an20 : Option Addr} {sl20 : Array (Option Value)} {oc20 kV20 dc20 pm20 cd20 ct20 : Value}
    (a20 : PySem.W.nsIn K mainGlobals "read_cents" = some (some (.ref f20))) (l20 : K.lookup f20 = some ⟨oc20, od20, .func (PySem.W.fnOf "read_cents" "read_cents" (defArgs s_read_cents) (defBody s_read_cents) (defScope s_read_cents) .none kV20 dc20 pm20 an20 cd20 ct20), sl20⟩) (c20 : PySem.W.codeIn K cd20 "read_cents" = true) (k20 : PySem.W.keepIn K (.ref f20) = true)
    {f21 : Addr} {od21 an21 : Option Addr} {sl21 : Array (Option Value)} {oc21 kV21 dc21 pm21 cd21 ct21 : Value}
    (a21 : PySem.W.nsIn K mainGlobals "cents_at" = some (some (.ref f21))) (l21 : K.lookup f21 = some ⟨oc21, od21, .func (PySem.W.fnOf "cents_at" "cents_at" (defArgs s_cents_at) (defBody s_cents_at) (defScope s_cents_at) .none kV21 dc21 pm21 an21 cd21 ct21), sl21⟩) (c21 : PySem.W.codeIn K cd21 "cents_at" = true) (k21 : PySem.W.keepIn K (.ref f21) = true)
    {f22 : Addr} {od22 an22 : Option Addr} {sl22 : Array (Option Value)} {oc22 kV22 dc22 pm22 cd22 ct22 : Value}
    (a22 : PySem.W.findIn K (.ref C_Over) "__init__" = some (some (.ref f22))) (l22 : K.lookup f22 = some ⟨oc22, od22, .func (PySem.W.fnOf "__init__" "Over.__init__" (defArgs s_Over___init__) (defBody s_Over___init__) (defScope s_Over___init__) .none kV22 dc22 pm22 an22 cd22 ct22), sl22⟩) (c22 : PySem.W.codeIn K cd22 "Over.__init__" = true) (k22 : PySem.W.keepIn K (.ref f22) = true) (i22 : PySem.W.isFn K (.ref f22) = true)
    {f23 : Addr} {od23 an23 : Option Addr} {sl23 : Array (Option Value)} {oc23 kV23 dc23 pm23 cd23 ct23 : Value}
    (a23 : PySem.W.nsIn K mainGlobals "is_whole" = some (some (.ref f23))) (l23 : K.lookup f23 = some ⟨oc23, od23, .func (PySem.W.fnOf "is_whole" "is_whole" (defArgs s_is_whole) (defBody s_is_whole) (defScope s_is_whole) .none kV23 dc23 pm23 an23 cd23 ct23), sl23⟩) (c23 : PySem.W.codeIn K cd23 "is_whole" = true) (k23 : PySem.W.keepIn K (.ref f23) = true)
    {f24 : Addr} {od24 an24 : Option Addr} {sl24 : Array (Option Value)} {oc24 kV24 dc24 pm24 cd24 ct24 : Value}
    (a24 : PySem.W.nsIn K mainGlobals "is_day" = some (some (.ref f24))) (l24 : K.lookup f24 = some ⟨oc24, od24, .func (PySem.W.fnOf "is_day" "is_day" (defArgs s_is_day) (defBody s_is_day) (defScope s_is_day) .none kV24 dc24 pm24 an24 cd24 ct24), sl24⟩) (c24 : PySem.W.codeIn K cd24 "is_day" = true) (k24 : PySem.W.keepIn K (.ref f24) = true)
    {f25 : Addr} {od25 an25 : Option Addr} {sl25 : Array (Option Value)} {oc25 kV25 dc25 pm25 cd25 ct25 : Value}
    (a25 : PySem.W.nsIn K mainGlobals "day_at" = some (some (.ref f25))) (l25 : K.lookup f25 = some ⟨oc25, od25, .func (PySem.W.fnOf "day_at" "day_at" (defArgs s_day_at) (defBody s_day_at) (defScope s_day_at) .none kV25 dc25 pm25 an25 cd25 ct25), sl25⟩) (c25 : PySem.W.codeIn K cd25 "day_at" = true) (k25 : PySem.W.keepIn K (.ref f25) = true)
    {f26 : Addr} {od26 an26 : Option Addr} {sl26 : Array (Option Value)} {oc26 kV26 dc26 pm26 cd26 ct26 : Value}
    (a26 : PySem.W.findIn K (.ref C_DaysIn) "__init__" = some (some (.ref f26))) (l26 : K.lookup f26 = some ⟨oc26, od26, .func (PySem.W.fnOf "__init__" "DaysIn.__init__" (defArgs s_DaysIn___init__) (defBody s_DaysIn___init__) (defScope s_DaysIn___init__) .none kV26 dc26 pm26 an26 cd26 ct26), sl26⟩) (c26 : PySem.W.codeIn K cd26 "DaysIn.__init__" = true) (k26 : PySem.W.keepIn K (.ref f26) = true) (i26 : PySem.W.isFn K (.ref f26) = true)
    {f27 : Addr} {od27 an27 : Option Addr} {sl27 : Array (Option Value)} {oc27 kV27 dc27 pm27 cd27 ct27 : Value}
    (a27 : PySem.W.nsIn K mainGlobals "atom_at" = some (some (.ref f27))) (l27 : K.lookup f27 = some ⟨oc27, od27, .func (PySem.W.fnOf "atom_at" "atom_at" (defArgs s_atom_at) (defBody s_atom_at) (defScope s_atom_at) .none kV27 dc27 pm27 an27 cd27 ct27), sl27⟩) (c27 : PySem.W.codeIn K cd27 "atom_at" = true) (k27 : PySem.W.keepIn K (.ref f27) = true)
    {f28 : Addr} {od28 an28 : Option Addr} {sl28 : Array (Option Value)} {oc28 kV28 dc28 pm28 cd28 ct28 : Value}
    (a28 : PySem.W.findIn K (.ref C_Not) "__init__" = some (some (.ref f28))) (l28 : K.lookup f28 = some ⟨oc28, od28, .func (PySem.W.fnOf "__init__" "Not.__init__" (defArgs s_Not___init__) (defBody s_Not___init__) (defScope s_Not___init__) .none kV28 dc28 pm28 an28 cd28 ct28), sl28⟩) (c28 : PySem.W.codeIn K cd28 "Not.__init__" = true) (k28 : PySem.W.keepIn K (.ref f28) = true) (i28 : PySem.W.isFn K (.ref f28) = true)
    {f29 : Addr} {od29 an29 : Option Addr} {sl29 : Array (Option Value)} {oc29 kV29 dc29 pm29 cd29 ct29 : Value}
    (a29 : PySem.W.nsIn K mainGlobals "some_at" = some (some (.ref f29))) (l29 : K.lookup f29 = some ⟨oc29, od29, .func (PySem.W.fnOf "some_at" "some_at" (defArgs s_some_at) (defBody s_some_at) (defScope s_some_at) .none kV29 dc29 pm29 an29 cd29 ct29), sl29⟩) (c29 : PySem.W.codeIn K cd29 "some_at" = true) (k29 : PySem.W.keepIn K (.ref f29) = true)
    {f30 : Addr} {od30 an30 : Option Addr} {sl30 : Array (Option Value)} {oc30 kV30 dc30 pm30 cd30 ct30 : Value}
    (a30 : PySem.W.nsIn K mainGlobals "all_at" = some (some (.ref f30))) (l30 : K.lookup f30 = some ⟨oc30, od30, .func (PySem.W.fnOf "all_at" "all_at" (defArgs s_all_at) (defBody s_all_at) (defScope s_all_at) .none kV30 dc30 pm30 an30 cd30 ct30), sl30⟩) (c30 : PySem.W.codeIn K cd30 "all_at" = true) (k30 : PySem.W.keepIn K (.ref f30) = true)
    {f31 : Addr} {od31 an31 : Option Addr} {sl31 : Array (Option Value)} {oc31 kV31 dc31 pm31 cd31 ct31 : Value}
    (a31 : PySem.W.nsIn K mainGlobals "piece_at" = some (some (.ref f31))) (l31 : K.lookup f31 = some ⟨oc31, od31, .func (PySem.W.fnOf "piece_at" "piece_at" (defArgs s_piece_at) (defBody s_piece_at) (defScope s_piece_at) .none kV31 dc31 pm31 an31 cd31 ct31), sl31⟩) (c31 : PySem.W.codeIn K cd31 "piece_at" = true) (k31 : PySem.W.keepIn K (.ref f31) = true)
    {f32 : Addr} {od32 an32 : Option Addr} {sl32 : Array (Option Value)} {oc32 kV32 dc32 pm32 cd32 ct32 : Value}
    (a32 : PySem.W.nsIn K mainGlobals "read_condition" = some (some (.ref f32))) (l32 : K.lookup f32 = some ⟨oc32, od32, .func (PySem.W.fnOf "read_condition" "read_condition" (defArgs s_read_condition) (defBody s_read_condition) (defScope s_read_condition) .none kV32 dc32 pm32 an32 cd32 ct32), sl32⟩) (c32 : PySem.W.codeIn K cd32 "read_condition" = true) (k32 : PySem.W.keepIn K (.ref f32) = true)
    {f33 : Addr} {od33 an33 : Option Addr} {sl33 : Array (Option Value)} {oc33 kV33 dc33 pm33 cd33 ct33 : Value}
    (a33 : PySem.W.nsIn K mainGlobals "_law_refused" = some (some (.ref f33))) (l33 : K.lookup f33 = some ⟨oc33, od33, .func (PySem.W.fnOf "_law_refused" "_law_refused" (defArgs s__law_refused) (defBody s__law_refused) (defScope s__law_refused) .none kV33 dc33 pm33 an33 cd33 ct33), sl33⟩) (c33 : PySem.W.codeIn K cd33 "_law_refused" = true) (k33 : PySem.W.keepIn K (.ref f33) = true)
    {f34 : Addr} {od34 an34 : Option Addr} {sl34 : Array (Option Value)} {oc34 kV34 dc34 pm34 cd34 ct34 : Value}
    (a34 : PySem.W.nsIn K mainGlobals "_law_roles" = some (some (.ref f34))) (l34 : K.lookup f34 = some ⟨oc34, od34, .func (PySem.W.fnOf "_law_roles" "_law_roles" (defArgs s__law_roles) (defBody s__law_roles) (defScope s__law_roles) .none kV34 dc34 pm34 an34 cd34 ct34), sl34⟩) (c34 : PySem.W.codeIn K cd34 "_law_roles" = true) (k34 : PySem.W.keepIn K (.ref f34) = true)
    {f35 : Addr} {od35 an35 : Option Addr} {sl35 : Array (Option Value)} {oc35 kV35 dc35 pm35 cd35 ct35 : Value}
    (a35 : PySem.W.nsIn K mainGlobals "_law_bad_words" = some (some (.ref f35))) (l35 : K.lookup f35 = some ⟨oc35, od35, .func (PySem.W.fnOf "_law_bad_words" "_law_bad_words" (defArgs s__law_bad_words) (defBody s__law_bad_words) (defScope s__law_bad_words) .none kV35 dc35 pm35 an35 cd35 ct35), sl35⟩) (c35 : PySem.W.codeIn K cd35 "_law_bad_words" = true) (k35 : PySem.W.keepIn K (.ref f35) = true)
    {f36 : Addr} {od36 an36 : Option Addr} {sl36 : Array (Option Value)} {oc36 kV36 dc36 pm36 cd36 ct36 : Value}
    (a36 : PySem.W.nsIn K mainGlobals "_law_spoilt" = some (some (.ref f36))) (l36 : K.lookup f36 = some ⟨oc36, od36, .func (PySem.W.fnOf "_law_spoilt" "_law_spoilt" (defArgs s__law_spoilt) (defBody s__law_spoilt) (defScope s__law_spoilt) .none kV36 dc36 pm36 an36 cd36 ct36), sl36⟩) (c36 : PySem.W.codeIn K cd36 "_law_spoilt" = true) (k36 : PySem.W.keepIn K (.ref f36) = true)
    {f37 : Addr} {od37 an37 : Option Addr} {sl37 : Array (Option Value)} {oc37 kV37 dc37 pm37 cd37 ct37 : Value}
    (a37 : PySem.W.nsIn K mainGlobals "_law_more" = some (some (.ref f37))) (l37 : K.lookup f37 = some ⟨oc37, od37, .func (PySem.W.fnOf "_law_more" "_law_more" (defArgs s__law_more) (defBody s__law_more) (defScope s__law_more) .none kV37 dc37 pm37 an37 cd37 ct37), sl37⟩) (c37 : PySem.W.codeIn K cd37 "_law_more" = true) (k37 : PySem.W.keepIn K (.ref f37) = true)
    {f38 : Addr} {od38 an38 : Option Addr} {sl38 : Array (Option Value)} {oc38 kV38 dc38 pm38 cd38 ct38 : Value}
    (a38 : PySem.W.nsIn K mainGlobals "_law_whole" = some (some (.ref f38))) (l38 : K.lookup f38 = some ⟨oc38, od38, .func (PySem.W.fnOf "_law_whole" "_law_whole" (defArgs s__law_whole) (defBody s__law_whole) (defScope s__law_whole) .none kV38 dc38 pm38 an38 cd38 ct38), sl38⟩) (c38 : PySem.W.codeIn K cd38 "_law_whole" = true) (k38 : PySem.W.keepIn K (.ref f38) = true)
    {f39 : Addr} {od39 an39 : Option Addr} {sl39 : Array (Option Value)} {oc39 kV39 dc39 pm39 cd39 ct39 : Value}
    (a39 : PySem.W.nsIn K mainGlobals "_law_refused_at" = some (some (.ref f39))) (l39 : K.lookup f39 = some ⟨oc39, od39, .func (PySem.W.fnOf "_law_refused_at" "_law_refused_at" (defArgs s__law_refused_at) (defBody s__law_refused_at) (defScope s__law_refused_at) .none kV39 dc39 pm39 an39 cd39 ct39), sl39⟩) (c39 : PySem.W.codeIn K cd39 "_law_refused_at" = true) (k39 : PySem.W.keepIn K (.ref f39) = true)
    {f40 : Addr} {od40 an40 : Option Addr} {sl40 : Array (Option Value)} {oc40 kV40 dc40 pm40 cd40 ct40 : Value}
    (a40 : PySem.W.nsIn K mainGlobals "law" = some (some (.ref f40))) (l40 : K.lookup f40 = some ⟨oc40, od40, .func (PySem.W.fnOf "law" "law" (defArgs s_law) (defBody s_law) (defScope s_law) .none kV40 dc40 pm40 an40 cd40 ct40), sl40⟩) (c40 : PySem.W.codeIn K cd40 "law" = true) (k40 : PySem.W.keepIn K (.ref f40) = true)
    (q_rd_CoverError : PySem.W.readsIn K C_CoverError (.type "type") = true)
    (q_ga_CoverError : PySem.W.specialIn K (.ref C_CoverError) "__getattribute__" = some (some (.builtin "type.__getattribute__")))
    (q_vi_CoverError : PySem.W.findCls K (.ref C_CoverError) (.type "type") "__init__" = some (.val (.builtin "ValueError.__init__")))
    (q_xo_NoWords : PySem.W.excInitIn K C_NoWords [.type "ValueError", .type "Exception", .type "BaseException", .type "object"] "ValueError.__new__" = true)
    (q_hd_NoWords : PySem.W.hasDictIn K C_NoWords = true)
    (q_sa_NoWords : PySem.W.findIn K (.ref C_NoWords) "__setattr__" = some (some (.builtin "object.__setattr__")))
    (q_xb_NoWords : PySem.W.subIn K (.ref C_NoWords) (.type "BaseException") = some true)
    (q_xt_NoWords : PySem.W.typeIn K (.ref C_NoWords) = some (.type "type"))
    (q_xk_NoWords : PySem.W.keepIn K (.ref C_NoWords) = true)
    (q_nf_NoWords : PySem.W.findIn K (.ref C_NoWords) "at" = some none)
    (mr_NoWords_ValueError : PySem.W.mroIn K C_NoWords (.type "ValueError") = some true)
    (mr_TooDeep_ValueError : PySem.W.mroIn K C_TooDeep (.type "ValueError") = some true)
    (mr_NoAmount_ValueError : PySem.W.mroIn K C_NoAmount (.type "ValueError") = some true)
    (mr_NoWords_NoWords : PySem.W.mroIn K C_NoWords (.ref C_NoWords) = some true)
    (mr_TooDeep_NoWords : PySem.W.mroIn K C_TooDeep (.ref C_NoWords) = some false)
    (ms_TooDeep : PySem.W.mroIn K C_TooDeep (.ref C_TooDeep) = some true)
    (mr_NoAmount_NoWords : PySem.W.mroIn K C_NoAmount (.ref C_NoWords) = some false)
    (ms_NoAmount : PySem.W.mroIn K C_NoAmount (.ref C_NoAmount) = some true)
    (mr_NoWords_TooDeep : PySem.W.mroIn K C_NoWords (.ref C_TooDeep) = some false)
    (ms_NoWords : PySem.W.mroIn K C_NoWords (.ref C_NoWords) = some true)
    (mr_TooDeep_TooDeep : PySem.W.mroIn K C_TooDeep (.ref C_TooDeep) = some true)
    (mr_NoAmount_TooDeep : PySem.W.mroIn K C_NoAmount (.ref C_TooDeep) = some false)
    (mr_NoWords_NoText : PySem.W.mroIn K C_NoWords (.ref C_NoText) = some false)
    (mr_TooDeep_NoText : PySem.W.mroIn K C_TooDeep (.ref C_NoText) = some false)
    (mr_NoAmount_NoText : PySem.W.mroIn K C_NoAmount (.ref C_NoText) = some false)
    (mr_NoWords_NoAmount : PySem.W.mroIn K C_NoWords (.ref C_NoAmount) = some false)
    (mr_TooDeep_NoAmount : PySem.W.mroIn K C_TooDeep (.ref C_NoAmount) = some false)
    (mr_NoAmount_NoAmount : PySem.W.mroIn K C_NoAmount (.ref C_NoAmount) = some true)
    (ic_NoAmount : PySem.W.isClsIn K C_NoAmount = true) (ti_NoAmount : PySem.W.typeIn K (.ref C_NoAmount) = some (.type "type"))
    (ic_NoText : PySem.W.isClsIn K C_NoText = true) (ti_NoText : PySem.W.typeIn K (.ref C_NoText) = some (.type "type"))
    (ic_NoWords : PySem.W.isClsIn K C_NoWords = true) (ti_NoWords : PySem.W.typeIn K (.ref C_NoWords) = some (.type "type"))
    (ic_TooDeep : PySem.W.isClsIn K C_TooDeep = true) (ti_TooDeep : PySem.W.typeIn K (.ref C_TooDeep) = some (.type "type"))
    (z_len : PySem.W.nsIn K mainGlobals "len" = some none)
    (z_range : PySem.W.nsIn K mainGlobals "range" = some none)
    (z_sorted : PySem.W.nsIn K mainGlobals "sorted" = some none)
    (z_min : PySem.W.nsIn K mainGlobals "min" = some none)
    (z_int : PySem.W.nsIn K mainGlobals "int" = some none)
    (z_max : PySem.W.nsIn K mainGlobals "max" = some none)
    (z_str : PySem.W.nsIn K mainGlobals "str" = some none)
    (z_list : PySem.W.nsIn K mainGlobals "list" = some none)
    (z_isinstance : PySem.W.nsIn K mainGlobals "isinstance" = some none)
    (z_bool : PySem.W.nsIn K mainGlobals "bool" = some none)
    (z_ValueError : PySem.W.nsIn K mainGlobals "ValueError" = some none)
    (z_tuple : PySem.W.nsIn K mainGlobals "tuple" = some none)
    {tg_LETTERS : Tok} (g_LETTERS : PySem.W.nsIn K mainGlobals "LETTERS" = some (some (.str "abcdefghijklmnopqrstuvwxyz" tg_LETTERS)))
    {tg_FIGURES_cents : Tok} (g_FIGURES_cents : PySem.W.nsIn K mainGlobals "FIGURES_cents" = some (some (.str "0123456789" tg_FIGURES_cents)))
    {tg_LAST_DAY : Tok} (g_LAST_DAY : PySem.W.nsIn K mainGlobals "LAST_DAY" = some (some (.int 1000000 tg_LAST_DAY)))
    {tg_FIGURES_wording : Tok} (g_FIGURES_wording : PySem.W.nsIn K mainGlobals "FIGURES_wording" = some (some (.str "0123456789" tg_FIGURES_wording)))
    {tg_MOST_PARTS : Tok} (g_MOST_PARTS : PySem.W.nsIn K mainGlobals "MOST_PARTS" = some (some (.int 8 tg_MOST_PARTS)))
    {tg_MOST_OPEN : Tok} (g_MOST_OPEN : PySem.W.nsIn K mainGlobals "MOST_OPEN" = some (some (.int 6 tg_MOST_OPEN)))
    {tg_MOST_WORDS : Tok} (g_MOST_WORDS : PySem.W.nsIn K mainGlobals "MOST_WORDS" = some (some (.int 60 tg_MOST_WORDS)))
    : ∃ fd : FuncData, (∀ (s : Shared) (v : Value), BindsTo s fd ⟨[v], []⟩ [("_law_script", v)]) ∧ ∀ base : Heap, K.In base → base.Ns mainGlobals mg → FnOk l.prog w K mg base CX0 72 fa fd ["_law_script"] (spLaw K) := by
  have e := hfa.symm.trans (PySem.W.mg_of X G a40)
  cases e
  have q_NoWords_NoWords := kit_true ic_NoWords ti_NoWords mr_NoWords_NoWords
  have q_TooDeep_TooDeep := kit_true ic_TooDeep ti_TooDeep mr_TooDeep_TooDeep
  have q_NoAmount_NoAmount := kit_true ic_NoAmount ti_NoAmount mr_NoAmount_NoAmount
  have q_TooDeep_NoWords := kit_false ms_TooDeep ic_NoWords ti_NoWords mr_TooDeep_NoWords
  have q_NoAmount_NoWords := kit_false ms_NoAmount ic_NoWords ti_NoWords mr_NoAmount_NoWords
  have q_NoWords_TooDeep := kit_false ms_NoWords ic_TooDeep ti_TooDeep mr_NoWords_TooDeep
  have q_NoAmount_TooDeep := kit_false ms_NoAmount ic_TooDeep ti_TooDeep mr_NoAmount_TooDeep
  have q_NoWords_NoText := kit_false ms_NoWords ic_NoText ti_NoText mr_NoWords_NoText
  have q_TooDeep_NoText := kit_false ms_TooDeep ic_NoText ti_NoText mr_TooDeep_NoText
  have q_NoAmount_NoText := kit_false ms_NoAmount ic_NoText ti_NoText mr_NoAmount_NoText
  have q_NoWords_NoAmount := kit_false ms_NoWords ic_NoAmount ti_NoAmount mr_NoWords_NoAmount
  have q_TooDeep_NoAmount := kit_false ms_TooDeep ic_NoAmount ti_NoAmount mr_TooDeep_NoAmount
  have q_NoWords_ValueError : PySem.W.kitOne K (.ref C_NoWords) (.type "ValueError") = some true := kit_ty (by decide +kernel) mr_NoWords_ValueError
  have q_TooDeep_ValueError : PySem.W.kitOne K (.ref C_TooDeep) (.type "ValueError") = some true := kit_ty (by decide +kernel) mr_TooDeep_ValueError
  have q_NoAmount_ValueError : PySem.W.kitOne K (.ref C_NoAmount) (.type "ValueError") = some true := kit_ty (by decide +kernel) mr_NoAmount_ValueError
  have z_len := PySem.W.mg_none_of X G z_len
  have z_range := PySem.W.mg_none_of X G z_range
  have z_sorted := PySem.W.mg_none_of X G z_sorted
  have z_min := PySem.W.mg_none_of X G z_min
  have z_int := PySem.W.mg_none_of X G z_int
  have z_max := PySem.W.mg_none_of X G z_max
  have z_str := PySem.W.mg_none_of X G z_str
  have z_list := PySem.W.mg_none_of X G z_list
  have z_isinstance := PySem.W.mg_none_of X G z_isinstance
  have z_bool := PySem.W.mg_none_of X G z_bool
  have z_ValueError := PySem.W.mg_none_of X G z_ValueError
  have z_tuple := PySem.W.mg_none_of X G z_tuple
  have g_LETTERS := PySem.W.mg_of X G g_LETTERS
  have g_FIGURES_cents := PySem.W.mg_of X G g_FIGURES_cents
  have g_LAST_DAY := PySem.W.mg_of X G g_LAST_DAY
  have g_FIGURES_wording := PySem.W.mg_of X G g_FIGURES_wording
  have g_MOST_PARTS := PySem.W.mg_of X G g_MOST_PARTS
  have g_MOST_OPEN := PySem.W.mg_of X G g_MOST_OPEN
  have g_MOST_WORDS := PySem.W.mg_of X G g_MOST_WORDS
  have F0 := fun_mk (st := s__law_cell) l0 c0 k0
  have b0 := F0.binds (ps := ["_law_script", "_law_k"]) fun _ _ _ _ _ _ us hl => match us, hl with | [_, _], _ => rfl
  have F1 := fun_mk (st := s__law_name) l1 c1 k1
  have b1 := F1.binds (ps := ["_law_number"]) fun _ _ _ _ _ _ us hl => match us, hl with | [_], _ => rfl
  have F2 := fun_mk (st := s__law_mix) l2 c2 k2
  have b2 := F2.binds (ps := ["_law_number", "_law_k"]) fun _ _ _ _ _ _ us hl => match us, hl with | [_, _], _ => rfl
  have F3 := fun_mk (st := s__law_other) l3 c3 k3
  have b3 := F3.binds (ps := ["_law_name_here", "_law_number"]) fun _ _ _ _ _ _ us hl => match us, hl with | [_, _], _ => rfl
  have F4 := fun_mk (st := s__law_pools) l4 c4 k4
  have b4 := F4.binds (ps := ["_law_script"]) fun _ _ _ _ _ _ us hl => match us, hl with | [_], _ => rfl
  have F5 := fun_mk (st := s__law_bracketed) l5 c5 k5
  have b5 := F5.binds (ps := ["_law_node", "_law_least"]) fun _ _ _ _ _ _ us hl => match us, hl with | [_, _], _ => rfl
  have F6 := fun_mk (st := s__law_join) l6 c6 k6
  have b6 := F6.binds (ps := ["_law_row", "_law_kind"]) fun _ _ _ _ _ _ us hl => match us, hl with | [_, _], _ => rfl
  have F7 := fun_mk (st := s__law_leaf) l7 c7 k7
  have b7 := F7.binds (ps := ["_law_number", "_law_pools_here"]) fun _ _ _ _ _ _ us hl => match us, hl with | [_, _], _ => rfl
  have F8 := fun_mk (st := s__law_step) l8 c8 k8
  have b8 := F8.binds (ps := ["_law_row", "_law_number", "_law_pools_here"]) fun _ _ _ _ _ _ us hl => match us, hl with | [_, _, _], _ => rfl
  have F9 := fun_mk (st := s__law_tree) l9 c9 k9
  have b9 := F9.binds (ps := ["_law_script", "_law_start", "_law_pools_here"]) fun _ _ _ _ _ _ us hl => match us, hl with | [_, _, _], _ => rfl
  have F10 := fun_mk (st := s__law_inner) l10 c10 k10
  have b10 := F10.binds (ps := ["_law_tree_here", "_law_least"]) fun _ _ _ _ _ _ us hl => match us, hl with | [_, _], _ => rfl
  have F11 := fun_mk (st := s__law_words) l11 c11 k11
  have b11 := F11.binds (ps := ["_law_tree_here"]) fun _ _ _ _ _ _ us hl => match us, hl with | [_], _ => rfl
  have F12 := fun_mk (st := s_NoWords___init__) l12 c12 k12
  have b12 := F12.binds (ps := ["self", "at"]) fun _ _ _ _ _ _ us hl => match us, hl with | [_, _], _ => rfl
  have F13 := fun_mk (st := s_Some___init__) l13 c13 k13
  have b13 := F13.binds (ps := ["self", "several"]) fun _ _ _ _ _ _ us hl => match us, hl with | [_, _], _ => rfl
  have F14 := fun_mk (st := s_All___init__) l14 c14 k14
  have b14 := F14.binds (ps := ["self", "several"]) fun _ _ _ _ _ _ us hl => match us, hl with | [_, _], _ => rfl
  have F15 := fun_mk (st := s_is_name) l15 c15 k15
  have b15 := F15.binds (ps := ["thing"]) fun _ _ _ _ _ _ us hl => match us, hl with | [_], _ => rfl
  have F16 := fun_mk (st := s_name_at) l16 c16 k16
  have b16 := F16.binds (ps := ["words", "at"]) fun _ _ _ _ _ _ us hl => match us, hl with | [_, _], _ => rfl
  have F17 := fun_mk (st := s_CauseIs___init__) l17 c17 k17
  have b17 := F17.binds (ps := ["self", "name"]) fun _ _ _ _ _ _ us hl => match us, hl with | [_, _], _ => rfl
  have F18 := fun_mk (st := s_ThingIs___init__) l18 c18 k18
  have b18 := F18.binds (ps := ["self", "name"]) fun _ _ _ _ _ _ us hl => match us, hl with | [_, _], _ => rfl
  have F19 := fun_mk (st := s_all_figures) l19 c19 k19
  have b19 := F19.binds (ps := ["text"]) fun _ _ _ _ _ _ us hl => match us, hl with | [_], _ => rfl
  have F20 := fun_mk (st := s_read_cents) l20 c20 k20
  have b20 := F20.binds (ps := ["text"]) fun _ _ _ _ _ _ us hl => match us, hl with | [_], _ => rfl
  have F21 := fun_mk (st := s_cents_at) l21 c21 k21
  have b21 := F21.binds (ps := ["words", "at"]) fun _ _ _ _ _ _ us hl => match us, hl with | [_, _], _ => rfl
  have F22 := fun_mk (st := s_Over___init__) l22 c22 k22
  have b22 := F22.binds (ps := ["self", "cents"]) fun _ _ _ _ _ _ us hl => match us, hl with | [_, _], _ => rfl
  have F23 := fun_mk (st := s_is_whole) l23 c23 k23
  have b23 := F23.binds (ps := ["thing"]) fun _ _ _ _ _ _ us hl => match us, hl with | [_], _ => rfl
  have F24 := fun_mk (st := s_is_day) l24 c24 k24
  have b24 := F24.binds (ps := ["thing"]) fun _ _ _ _ _ _ us hl => match us, hl with | [_], _ => rfl
  have F25 := fun_mk (st := s_day_at) l25 c25 k25
  have b25 := F25.binds (ps := ["words", "at"]) fun _ _ _ _ _ _ us hl => match us, hl with | [_, _], _ => rfl
  have F26 := fun_mk (st := s_DaysIn___init__) l26 c26 k26
  have b26 := F26.binds (ps := ["self", "first", "last"]) fun _ _ _ _ _ _ us hl => match us, hl with | [_, _, _], _ => rfl
  have F27 := fun_mk (st := s_atom_at) l27 c27 k27
  have b27 := F27.binds (ps := ["words", "at"]) fun _ _ _ _ _ _ us hl => match us, hl with | [_, _], _ => rfl
  have F28 := fun_mk (st := s_Not___init__) l28 c28 k28
  have b28 := F28.binds (ps := ["self", "part"]) fun _ _ _ _ _ _ us hl => match us, hl with | [_, _], _ => rfl
  have F29 := fun_mk (st := s_some_at) l29 c29 k29
  have b29 := F29.binds (ps := ["words", "at", "deep"]) fun _ _ _ _ _ _ us hl => match us, hl with | [_, _, _], _ => rfl
  have F30 := fun_mk (st := s_all_at) l30 c30 k30
  have b30 := F30.binds (ps := ["words", "at", "deep"]) fun _ _ _ _ _ _ us hl => match us, hl with | [_, _, _], _ => rfl
  have F31 := fun_mk (st := s_piece_at) l31 c31 k31
  have b31 := F31.binds (ps := ["words", "at", "deep"]) fun _ _ _ _ _ _ us hl => match us, hl with | [_, _, _], _ => rfl
  have F32 := fun_mk (st := s_read_condition) l32 c32 k32
  have b32 := F32.binds (ps := ["text"]) fun _ _ _ _ _ _ us hl => match us, hl with | [_], _ => rfl
  have F33 := fun_mk (st := s__law_refused) l33 c33 k33
  have b33 := F33.binds (ps := ["_law_thing"]) fun _ _ _ _ _ _ us hl => match us, hl with | [_], _ => rfl
  have F34 := fun_mk (st := s__law_roles) l34 c34 k34
  have b34 := F34.binds (ps := ["_law_words_here"]) fun _ _ _ _ _ _ us hl => match us, hl with | [_], _ => rfl
  have F35 := fun_mk (st := s__law_bad_words) l35 c35 k35
  have b35 := F35.binds (ps := ["_law_words_here", "_law_at", "_law_role", "_law_deep"]) fun _ _ _ _ _ _ us hl => match us, hl with | [_, _, _, _], _ => rfl
  have F36 := fun_mk (st := s__law_spoilt) l36 c36 k36
  have b36 := F36.binds (ps := ["_law_words_here", "_law_number"]) fun _ _ _ _ _ _ us hl => match us, hl with | [_, _], _ => rfl
  have F37 := fun_mk (st := s__law_more) l37 c37 k37
  have b37 := F37.binds (ps := ["_law_words_here", "_law_at", "_law_number"]) fun _ _ _ _ _ _ us hl => match us, hl with | [_, _, _], _ => rfl
  have F38 := fun_mk (st := s__law_whole) l38 c38 k38
  have b38 := F38.binds (ps := ["_law_found"]) fun _ _ _ _ _ _ us hl => match us, hl with | [_], _ => rfl
  have F39 := fun_mk (st := s__law_refused_at) l39 c39 k39
  have b39 := F39.binds (ps := ["_law_thing", "_law_due"]) fun _ _ _ _ _ _ us hl => match us, hl with | [_, _], _ => rfl
  have F40 := fun_mk (st := s_law) l40 c40 k40
  refine ⟨PySem.W.fnOf "law" "law" (defArgs s_law) (defBody s_law) (defScope s_law) .none kV40 dc40 pm40 an40 cd40 ct40, fun s v => .of_eq rfl, fun base _ _ => ?_⟩
  have n__law_cell : Fn1 l.prog w K mg base "_law_cell" 1 ["_law_script", "_law_k"] (sp__law_cell K) := ⟨_, _, PySem.W.mg_of X G a0, k0, b0, ok__law_cell F0 z_len⟩
  have n__law_name : Fn1 l.prog w K mg base "_law_name" 1 ["_law_number"] (sp__law_name K) := ⟨_, _, PySem.W.mg_of X G a1, k1, b1, ok__law_name F1 z_range⟩
  have n__law_mix : Fn1 l.prog w K mg base "_law_mix" 1 ["_law_number", "_law_k"] (sp__law_mix K) := ⟨_, _, PySem.W.mg_of X G a2, k2, b2, ok__law_mix F2 ⟩
  have n__law_other : Fn1 l.prog w K mg base "_law_other" 1 ["_law_name_here", "_law_number"] (sp__law_other K) := ⟨_, _, PySem.W.mg_of X G a3, k3, b3, ok__law_other F3 z_len⟩
  have n__law_pools : Fn1 l.prog w K mg base "_law_pools" 2 ["_law_script"] (sp__law_pools K) := ⟨_, _, PySem.W.mg_of X G a4, k4, b4, ok__law_pools F4 z_range z_sorted z_min n__law_cell n__law_name n__law_mix n__law_other⟩
  have n__law_bracketed : Fn1 l.prog w K mg base "_law_bracketed" 1 ["_law_node", "_law_least"] (sp__law_bracketed K) := ⟨_, _, PySem.W.mg_of X G a5, k5, b5, ok__law_bracketed F5 ⟩
  have n__law_join : Fn1 l.prog w K mg base "_law_join" 2 ["_law_row", "_law_kind"] (sp__law_join K) := ⟨_, _, PySem.W.mg_of X G a6, k6, b6, ok__law_join F6 z_len z_int z_max n__law_bracketed⟩
  have n__law_leaf : Fn1 l.prog w K mg base "_law_leaf" 1 ["_law_number", "_law_pools_here"] (sp__law_leaf K) := ⟨_, _, PySem.W.mg_of X G a7, k7, b7, ok__law_leaf F7 z_min z_max⟩
  have n__law_step : Fn1 l.prog w K mg base "_law_step" 3 ["_law_row", "_law_number", "_law_pools_here"] (sp__law_step K) := ⟨_, _, PySem.W.mg_of X G a8, k8, b8, ok__law_step F8 z_min z_len n__law_bracketed n__law_join n__law_leaf⟩
  have n__law_tree : Fn1 l.prog w K mg base "_law_tree" 4 ["_law_script", "_law_start", "_law_pools_here"] (sp__law_tree K) := ⟨_, _, PySem.W.mg_of X G a9, k9, b9, ok__law_tree F9 z_range z_max z_min z_len n__law_cell n__law_mix n__law_step n__law_join⟩
  have O_lwords : ∀ n : Nat, FnOk l.prog w K mg base CX0 (0 + n) f10 (PySem.W.fnOf "_law_inner" "_law_inner" (defArgs s__law_inner) (defBody s__law_inner) (defScope s__law_inner) .none kV10 dc10 pm10 an10 cd10 ct10) ["_law_tree_here", "_law_least"] (sp__law_inner K n) ∧ FnOk l.prog w K mg base CX0 (0 + n) f11 (PySem.W.fnOf "_law_words" "_law_words" (defArgs s__law_words) (defBody s__law_words) (defScope s__law_words) .none kV11 dc11 pm11 an11 cd11 ct11) ["_law_tree_here"] (sp__law_words K n) ∧ True := by
    intro n
    induction n with
    | zero => exact ⟨fn_vac (fun _ => rfl), fn_vac (fun _ => rfl), trivial⟩
    | succ n ih =>
      obtain ⟨ih__law_inner, ih__law_words, _⟩ := ih
      have n__law_words : Fn1 l.prog w K mg base "_law_words" (0 + n) ["_law_tree_here"] (sp__law_words K n) := ⟨_, _, PySem.W.mg_of X G a11, k11, b11, ih__law_words⟩
      have n__law_inner : Fn1 l.prog w K mg base "_law_inner" (0 + n) ["_law_tree_here", "_law_least"] (sp__law_inner K n) := ⟨_, _, PySem.W.mg_of X G a10, k10, b10, ih__law_inner⟩
      exact ⟨ok__law_inner (P := l.prog) (w := w) (mg := mg) (base := base)  n F10 n__law_words, ok__law_words (P := l.prog) (w := w) (mg := mg) (base := base)  n F11 z_str z_int n__law_inner, trivial⟩
  obtain ⟨o__law_inner, o__law_words, _⟩ := O_lwords 64
  have n__law_inner : Fn1 l.prog w K mg base "_law_inner" 64 ["_law_tree_here", "_law_least"] (sp__law_inner K 64) := ⟨_, _, PySem.W.mg_of X G a10, k10, b10, o__law_inner⟩
  have n__law_words : Fn1 l.prog w K mg base "_law_words" 64 ["_law_tree_here"] (sp__law_words K 64) := ⟨_, _, PySem.W.mg_of X G a11, k11, b11, o__law_words⟩
  have o_NoWords___init__ := ok_NoWords___init__ (P := l.prog) (w := w) (mg := mg) (base := base)  F12 (PySem.W.mg_of X G a_CoverError) q_rd_CoverError q_ga_CoverError q_vi_CoverError q_xo_NoWords q_hd_NoWords q_sa_NoWords q_xb_NoWords q_xt_NoWords q_xk_NoWords q_nf_NoWords
  have nj_NoWords : XiC l.prog w K mg base "NoWords" C_NoWords "at" 1 ["self", "at"] := ⟨oexB_ok q_xo_NoWords q_hd_NoWords q_sa_NoWords q_xb_NoWords q_xt_NoWords q_xk_NoWords, q_nf_NoWords, PySem.W.mg_of X G a_NoWords, _, _, a12, tf12, b12, o_NoWords___init__⟩
  have njh_NoWords : XiH l.prog w K mg base "NoWords" C_NoWords "at" 1 ["self", "at"] := ⟨oexB_ok q_xo_NoWords q_hd_NoWords q_sa_NoWords q_xb_NoWords q_xt_NoWords q_xk_NoWords, q_nf_NoWords, PySem.W.mg_of X G a_NoWords, _, _, a12, tf12, b12, okh_NoWords___init__ (P := l.prog) (w := w) (mg := mg) (base := base) F12 (PySem.W.mg_of X G a_CoverError) q_rd_CoverError q_ga_CoverError q_vi_CoverError q_xo_NoWords q_hd_NoWords q_sa_NoWords q_xb_NoWords q_xt_NoWords q_xk_NoWords q_nf_NoWords⟩
  have o_Some___init__ := ok_Some___init__ (P := l.prog) (w := w) (mg := mg) (base := base) (C_Some := C_Some) (C_Condition := C_Condition) (C_CauseIs := C_CauseIs) (C_ThingIs := C_ThingIs) (C_DaysIn := C_DaysIn) (C_Over := C_Over) (C_Not := C_Not) (C_All := C_All) F13 z_list ⟨⟨pg_Some, hd_Some, po_Some, sa_Some⟩, fun _ => fun m => (List.mem_cons.mp m).elim (fun e => by rw [e]; exact na_Some_several) (fun m => (nomatch m))⟩
  have ni_Some : Mk1 l.prog w K mg base "Some" C_Some 1 ["self", "several"] (spI_Some___init__ K C_Some C_Condition C_CauseIs C_ThingIs C_DaysIn C_Over C_Not C_All) := ⟨_, _, PySem.W.mg_of X G a_Some, ⟨mk_Some, a13, i13, kc_Some⟩, b13, toI_Some___init__ o_Some___init__⟩
  have o_All___init__ := ok_All___init__ (P := l.prog) (w := w) (mg := mg) (base := base) (C_All := C_All) (C_Condition := C_Condition) (C_CauseIs := C_CauseIs) (C_ThingIs := C_ThingIs) (C_DaysIn := C_DaysIn) (C_Over := C_Over) (C_Not := C_Not) (C_Some := C_Some) F14 z_list ⟨⟨pg_All, hd_All, po_All, sa_All⟩, fun _ => fun m => (List.mem_cons.mp m).elim (fun e => by rw [e]; exact na_All_several) (fun m => (nomatch m))⟩
  have ni_All : Mk1 l.prog w K mg base "All" C_All 1 ["self", "several"] (spI_All___init__ K C_All C_Condition C_CauseIs C_ThingIs C_DaysIn C_Over C_Not C_Some) := ⟨_, _, PySem.W.mg_of X G a_All, ⟨mk_All, a14, i14, kc_All⟩, b14, toI_All___init__ o_All___init__⟩
  have n_is_name : Fn1 l.prog w K mg base "is_name" 1 ["thing"] (sp_is_name K) := ⟨_, _, PySem.W.mg_of X G a15, k15, b15, ok_is_name F15 z_isinstance z_str z_len g_LETTERS⟩
  have n_name_at : Fn1E l.prog w K mg base "name_at" 3 ["words", "at"] (sp_name_at K C_NoWords C_TooDeep C_NoAmount) := ⟨_, _, PySem.W.mg_of X G a16, k16, b16, ok_name_at F16 z_len n_is_name nj_NoWords⟩
  have o_CauseIs___init__ := ok_CauseIs___init__ (P := l.prog) (w := w) (mg := mg) (base := base) (C_CauseIs := C_CauseIs) F17 ⟨⟨pg_CauseIs, hd_CauseIs, po_CauseIs, sa_CauseIs⟩, fun _ => fun m => (List.mem_cons.mp m).elim (fun e => by rw [e]; exact na_CauseIs_name) (fun m => (nomatch m))⟩
  have ni_CauseIs : Mk1 l.prog w K mg base "CauseIs" C_CauseIs 1 ["self", "name"] (spI_CauseIs___init__ K C_CauseIs) := ⟨_, _, PySem.W.mg_of X G a_CauseIs, ⟨mk_CauseIs, a17, i17, kc_CauseIs⟩, b17, toI_CauseIs___init__ o_CauseIs___init__⟩
  have o_ThingIs___init__ := ok_ThingIs___init__ (P := l.prog) (w := w) (mg := mg) (base := base) (C_ThingIs := C_ThingIs) F18 ⟨⟨pg_ThingIs, hd_ThingIs, po_ThingIs, sa_ThingIs⟩, fun _ => fun m => (List.mem_cons.mp m).elim (fun e => by rw [e]; exact na_ThingIs_name) (fun m => (nomatch m))⟩
  have ni_ThingIs : Mk1 l.prog w K mg base "ThingIs" C_ThingIs 1 ["self", "name"] (spI_ThingIs___init__ K C_ThingIs) := ⟨_, _, PySem.W.mg_of X G a_ThingIs, ⟨mk_ThingIs, a18, i18, kc_ThingIs⟩, b18, toI_ThingIs___init__ o_ThingIs___init__⟩
  have n_all_figures : Fn1 l.prog w K mg base "all_figures" 1 ["text"] (sp_all_figures K) := ⟨_, _, PySem.W.mg_of X G a19, k19, b19, ok_all_figures F19 g_FIGURES_cents⟩
  have n_read_cents : MH.Fn1E l.prog w K mg base "read_cents" 2 ["text"] (sp_read_cents K C_NoWords C_TooDeep C_NoAmount) := ⟨_, _, PySem.W.mg_of X G a20, k20, b20, ok_read_cents F20 z_isinstance z_str z_len z_int ⟨xq_NoAmount, PySem.W.mg_of X G a_NoAmount, xk_NoAmount, xb_NoAmount, xt_NoAmount⟩ n_all_figures⟩
  have n_cents_at : Fn1E l.prog w K mg base "cents_at" 3 ["words", "at"] (sp_cents_at K C_NoWords C_TooDeep C_NoAmount) := ⟨_, _, PySem.W.mg_of X G a21, k21, b21, ok_cents_at F21 z_len nj_NoWords n_read_cents njh_NoWords (PySem.W.mg_of X G a_NoAmount) (PySem.W.exm_ref xb_NoAmount xd_NoAmount xt_NoAmount xs_NoAmount_NoAmount)⟩
  have o_Over___init__ := ok_Over___init__ (P := l.prog) (w := w) (mg := mg) (base := base) (C_Over := C_Over) F22 ⟨⟨pg_Over, hd_Over, po_Over, sa_Over⟩, fun _ => fun m => (List.mem_cons.mp m).elim (fun e => by rw [e]; exact na_Over_cents) (fun m => (nomatch m))⟩
  have ni_Over : Mk1 l.prog w K mg base "Over" C_Over 1 ["self", "cents"] (spI_Over___init__ K C_Over) := ⟨_, _, PySem.W.mg_of X G a_Over, ⟨mk_Over, a22, i22, kc_Over⟩, b22, toI_Over___init__ o_Over___init__⟩
  have n_is_whole : Fn1 l.prog w K mg base "is_whole" 1 ["thing"] (sp_is_whole K) := ⟨_, _, PySem.W.mg_of X G a23, k23, b23, ok_is_whole F23 z_isinstance z_int z_bool⟩
  have n_is_day : Fn1 l.prog w K mg base "is_day" 2 ["thing"] (sp_is_day K) := ⟨_, _, PySem.W.mg_of X G a24, k24, b24, ok_is_day F24 g_LAST_DAY n_is_whole⟩
  have n_day_at : Fn1E l.prog w K mg base "day_at" 3 ["words", "at"] (sp_day_at K C_NoWords C_TooDeep C_NoAmount) := ⟨_, _, PySem.W.mg_of X G a25, k25, b25, ok_day_at F25 z_len z_int g_FIGURES_wording nj_NoWords n_is_day⟩
  have o_DaysIn___init__ := ok_DaysIn___init__ (P := l.prog) (w := w) (mg := mg) (base := base) (C_DaysIn := C_DaysIn) F26 ⟨⟨pg_DaysIn, hd_DaysIn, po_DaysIn, sa_DaysIn⟩, fun _ => fun m => (List.mem_cons.mp m).elim (fun e => by rw [e]; exact na_DaysIn_first) (fun m => (List.mem_cons.mp m).elim (fun e => by rw [e]; exact na_DaysIn_last) (fun m => (nomatch m)))⟩
  have ni_DaysIn : Mk1 l.prog w K mg base "DaysIn" C_DaysIn 1 ["self", "first", "last"] (spI_DaysIn___init__ K C_DaysIn) := ⟨_, _, PySem.W.mg_of X G a_DaysIn, ⟨mk_DaysIn, a26, i26, kc_DaysIn⟩, b26, toI_DaysIn___init__ o_DaysIn___init__⟩
  have n_atom_at : Fn1E l.prog w K mg base "atom_at" 4 ["words", "at"] (sp_atom_at K C_Condition C_CauseIs C_ThingIs C_DaysIn C_Over C_Not C_All C_Some C_NoWords C_TooDeep C_NoAmount) := ⟨_, _, PySem.W.mg_of X G a27, k27, b27, ok_atom_at F27 ⟨mk_Condition, ob_Condition, kc_Condition⟩ (PySem.W.mg_of X G a_Condition) n_name_at ni_CauseIs ni_ThingIs n_cents_at ni_Over nj_NoWords n_day_at ni_DaysIn⟩
  have o_Not___init__ := ok_Not___init__ (P := l.prog) (w := w) (mg := mg) (base := base) (C_Not := C_Not) (C_Condition := C_Condition) (C_CauseIs := C_CauseIs) (C_ThingIs := C_ThingIs) (C_DaysIn := C_DaysIn) (C_Over := C_Over) (C_All := C_All) (C_Some := C_Some) F28 ⟨⟨pg_Not, hd_Not, po_Not, sa_Not⟩, fun _ => fun m => (List.mem_cons.mp m).elim (fun e => by rw [e]; exact na_Not_part) (fun m => (nomatch m))⟩
  have ni_Not : Mk1 l.prog w K mg base "Not" C_Not 1 ["self", "part"] (spI_Not___init__ K C_Not C_Condition C_CauseIs C_ThingIs C_DaysIn C_Over C_All C_Some) := ⟨_, _, PySem.W.mg_of X G a_Not, ⟨mk_Not, a28, i28, kc_Not⟩, b28, toI_Not___init__ o_Not___init__⟩
  have O_parse : ∀ n : Nat, FnOk l.prog w K mg base (L2.CX l.prog w) (4 + n) f29 (PySem.W.fnOf "some_at" "some_at" (defArgs s_some_at) (defBody s_some_at) (defScope s_some_at) .none kV29 dc29 pm29 an29 cd29 ct29) ["words", "at", "deep"] (sp_some_at K C_Condition C_CauseIs C_ThingIs C_DaysIn C_Over C_Not C_All C_Some C_NoWords C_TooDeep C_NoAmount n) ∧ FnOk l.prog w K mg base (L2.CX l.prog w) (4 + n) f30 (PySem.W.fnOf "all_at" "all_at" (defArgs s_all_at) (defBody s_all_at) (defScope s_all_at) .none kV30 dc30 pm30 an30 cd30 ct30) ["words", "at", "deep"] (sp_all_at K C_Condition C_CauseIs C_ThingIs C_DaysIn C_Over C_Not C_All C_Some C_NoWords C_TooDeep C_NoAmount n) ∧ FnOk l.prog w K mg base (L2.CX l.prog w) (4 + n) f31 (PySem.W.fnOf "piece_at" "piece_at" (defArgs s_piece_at) (defBody s_piece_at) (defScope s_piece_at) .none kV31 dc31 pm31 an31 cd31 ct31) ["words", "at", "deep"] (sp_piece_at K C_Condition C_CauseIs C_ThingIs C_DaysIn C_Over C_Not C_All C_Some C_NoWords C_TooDeep C_NoAmount n) ∧ True := by
    intro n
    induction n with
    | zero => exact ⟨fn_vacE (fun _ => rfl), fn_vacE (fun _ => rfl), fn_vacE (fun _ => rfl), trivial⟩
    | succ n ih =>
      obtain ⟨ih_some_at, ih_all_at, ih_piece_at, _⟩ := ih
      have n_all_at : Fn1E l.prog w K mg base "all_at" (4 + n) ["words", "at", "deep"] (sp_all_at K C_Condition C_CauseIs C_ThingIs C_DaysIn C_Over C_Not C_All C_Some C_NoWords C_TooDeep C_NoAmount n) := ⟨_, _, PySem.W.mg_of X G a30, k30, b30, ih_all_at⟩
      have n_piece_at : Fn1E l.prog w K mg base "piece_at" (4 + n) ["words", "at", "deep"] (sp_piece_at K C_Condition C_CauseIs C_ThingIs C_DaysIn C_Over C_Not C_All C_Some C_NoWords C_TooDeep C_NoAmount n) := ⟨_, _, PySem.W.mg_of X G a31, k31, b31, ih_piece_at⟩
      have n_some_at : Fn1E l.prog w K mg base "some_at" (4 + n) ["words", "at", "deep"] (sp_some_at K C_Condition C_CauseIs C_ThingIs C_DaysIn C_Over C_Not C_All C_Some C_NoWords C_TooDeep C_NoAmount n) := ⟨_, _, PySem.W.mg_of X G a29, k29, b29, ih_some_at⟩
      exact ⟨ok_some_at (P := l.prog) (w := w) (mg := mg) (base := base) (C_Condition := C_Condition) (C_CauseIs := C_CauseIs) (C_ThingIs := C_ThingIs) (C_DaysIn := C_DaysIn) (C_Over := C_Over) (C_Not := C_Not) (C_All := C_All) (C_Some := C_Some) (C_NoWords := C_NoWords) (C_TooDeep := C_TooDeep) (C_NoAmount := C_NoAmount) n F29 z_len g_MOST_PARTS n_all_at nj_NoWords ni_Some, ok_all_at (P := l.prog) (w := w) (mg := mg) (base := base) (C_Condition := C_Condition) (C_CauseIs := C_CauseIs) (C_ThingIs := C_ThingIs) (C_DaysIn := C_DaysIn) (C_Over := C_Over) (C_Not := C_Not) (C_All := C_All) (C_Some := C_Some) (C_NoWords := C_NoWords) (C_TooDeep := C_TooDeep) (C_NoAmount := C_NoAmount) n F30 z_len g_MOST_PARTS n_piece_at nj_NoWords ni_All, ok_piece_at (P := l.prog) (w := w) (mg := mg) (base := base) (C_Condition := C_Condition) (C_CauseIs := C_CauseIs) (C_ThingIs := C_ThingIs) (C_DaysIn := C_DaysIn) (C_Over := C_Over) (C_Not := C_Not) (C_All := C_All) (C_Some := C_Some) (C_NoWords := C_NoWords) (C_TooDeep := C_TooDeep) (C_NoAmount := C_NoAmount) n F31 z_len g_MOST_OPEN nj_NoWords n_atom_at ⟨xq_TooDeep, PySem.W.mg_of X G a_TooDeep, xk_TooDeep, xb_TooDeep, xt_TooDeep⟩ n_piece_at ni_Not n_some_at, trivial⟩
  obtain ⟨o_some_at, o_all_at, o_piece_at, _⟩ := O_parse 64
  have n_some_at : Fn1E l.prog w K mg base "some_at" 68 ["words", "at", "deep"] (sp_some_at K C_Condition C_CauseIs C_ThingIs C_DaysIn C_Over C_Not C_All C_Some C_NoWords C_TooDeep C_NoAmount 64) := ⟨_, _, PySem.W.mg_of X G a29, k29, b29, o_some_at⟩
  have n_all_at : Fn1E l.prog w K mg base "all_at" 68 ["words", "at", "deep"] (sp_all_at K C_Condition C_CauseIs C_ThingIs C_DaysIn C_Over C_Not C_All C_Some C_NoWords C_TooDeep C_NoAmount 64) := ⟨_, _, PySem.W.mg_of X G a30, k30, b30, o_all_at⟩
  have n_piece_at : Fn1E l.prog w K mg base "piece_at" 68 ["words", "at", "deep"] (sp_piece_at K C_Condition C_CauseIs C_ThingIs C_DaysIn C_Over C_Not C_All C_Some C_NoWords C_TooDeep C_NoAmount 64) := ⟨_, _, PySem.W.mg_of X G a31, k31, b31, o_piece_at⟩
  have n_read_condition : Fn1E l.prog w K mg base "read_condition" 69 ["text"] (sp_read_condition K C_Condition C_CauseIs C_ThingIs C_DaysIn C_Over C_Not C_All C_Some C_NoWords C_TooDeep C_NoAmount) := ⟨_, _, PySem.W.mg_of X G a32, k32, b32, ok_read_condition F32 z_isinstance z_str z_len g_MOST_WORDS nj_NoWords n_some_at⟩
  have n__law_refused : Fn1 l.prog w K mg base "_law_refused" 70 ["_law_thing"] (sp__law_refused K) := ⟨_, _, PySem.W.mg_of X G a33, k33, b33, ok__law_refused F33 z_isinstance z_ValueError (PySem.W.mg_of X G a_CoverError) (PySem.W.exm_ref xb_CoverError xd_CoverError xt_CoverError xs_NoWords_CoverError) (PySem.W.exm_ref xb_CoverError xd_CoverError xt_CoverError xs_TooDeep_CoverError) (PySem.W.exm_ref xb_CoverError xd_CoverError xt_CoverError xs_NoAmount_CoverError) n_read_condition ⟨xg_NoWords, xh_NoWords, xb_NoWords, xd_NoWords, xa_NoWords, xn0, xt0, xm_NoWords⟩ q_NoWords_ValueError ⟨xg_TooDeep, xh_TooDeep, xb_TooDeep, xd_TooDeep, xa_TooDeep, xn0, xt0, xm_TooDeep⟩ q_TooDeep_ValueError ⟨xg_NoAmount, xh_NoAmount, xb_NoAmount, xd_NoAmount, xa_NoAmount, xn0, xt0, xm_NoAmount⟩ q_NoAmount_ValueError (PySem.W.mg_of X G a_NoWords) q_NoWords_NoWords q_TooDeep_NoWords q_NoAmount_NoWords (PySem.W.mg_of X G a_TooDeep) q_NoWords_TooDeep q_TooDeep_TooDeep q_NoAmount_TooDeep (PySem.W.mg_of X G a_NoText) q_NoWords_NoText q_TooDeep_NoText q_NoAmount_NoText ⟨xg_NoWords, xh_NoWords, xb_NoWords, xd_NoWords⟩ q_nf_NoWords (PySem.W.mg_of X G a_NoAmount) q_NoWords_NoAmount q_TooDeep_NoAmount q_NoAmount_NoAmount⟩
  have n__law_roles : Fn1 l.prog w K mg base "_law_roles" 1 ["_law_words_here"] (sp__law_roles K) := ⟨_, _, PySem.W.mg_of X G a34, k34, b34, ok__law_roles F34 ⟩
  have n__law_bad_words : Fn1 l.prog w K mg base "_law_bad_words" 1 ["_law_words_here", "_law_at", "_law_role", "_law_deep"] (sp__law_bad_words K) := ⟨_, _, PySem.W.mg_of X G a35, k35, b35, ok__law_bad_words F35 z_str z_int⟩
  have n__law_spoilt : Fn1 l.prog w K mg base "_law_spoilt" 2 ["_law_words_here", "_law_number"] (sp__law_spoilt K) := ⟨_, _, PySem.W.mg_of X G a36, k36, b36, ok__law_spoilt F36 z_len n__law_roles n__law_bad_words⟩
  have n__law_more : Fn1 l.prog w K mg base "_law_more" 1 ["_law_words_here", "_law_at", "_law_number"] (sp__law_more K) := ⟨_, _, PySem.W.mg_of X G a37, k37, b37, ok__law_more F37 z_len⟩
  have n__law_whole : Fn1 l.prog w K mg base "_law_whole" 1 ["_law_found"] (sp__law_whole K) := ⟨_, _, PySem.W.mg_of X G a38, k38, b38, ok__law_whole F38 z_isinstance z_int z_bool⟩
  have n__law_refused_at : Fn1 l.prog w K mg base "_law_refused_at" 71 ["_law_thing", "_law_due"] (sp__law_refused_at K) := ⟨_, _, PySem.W.mg_of X G a39, k39, b39, ok__law_refused_at F39 z_len n__law_refused n__law_whole⟩
  exact ok_law F40 z_range z_len z_tuple z_int n__law_pools n__law_tree n__law_words n__law_refused n__law_cell n__law_mix n__law_spoilt n__law_more n__law_refused_at
theorem walk {l : PySem.W.OpenLaw} {q : Program} {loose : List Str} {XP : (Str → Option Value) → Heap → Prop} {YP : World → Heap → Prop} {d : DefRec} {K : Params → PySem.W.Frag} (hn : l.most = some 63) (hdf : d.params.defaults = [])
    (hY : ∀ (w : World) (h : Heap), YP w h → (K w.params).In h)
    (F : ∀ (w : World) (mg : Str → Option Value) (fa : Addr) (h : Heap), (K w.params).In h → h.Ns mainGlobals mg → mg d.name = some (.ref fa) →
      ∃ fd : FuncData, (∀ (s : Shared) (u : Value), BindsTo s fd ⟨[u], []⟩ [("_law_script", u)]) ∧ ∀ base : Heap, (K w.params).In base → base.Ns mainGlobals mg → FnOk l.prog w (K w.params) mg base CX0 72 fa fd ["_law_script"] (spLaw (K w.params))) :
    PySem.W.WalkO q loose XP YP l.row.toRowW d [] (fun f vs => PySem.call f vs) :=
  L2.walk_of (n := 63) (k := 72) (x := "_law_script") (CX := fun _ => CX0) (sp := fun w => spLaw (K w.params)) hn (by decide) hdf ⟨rfl, by decide, by decide⟩ hY F (fun _ H a ns hl _ hS => spLaw_of hS hl) fun _ _ _ _ _ z => z
end K25

open PySem PySem.W PyProof.Rows in
set_option maxRecDepth 100000 in
set_option maxHeartbeats 0 in
theorem PySem.Challenge.cw_coverroll_k25_words_that_cannot_stand_holds : PySem.Challenge.rw_coverroll_k25_words_that_cannot_stand.Holds := by
  w_on; o_law; k_head; (case hw => w_witness2)
  k_fill
  refine K25.walk (l := PySem.Challenge.rw_coverroll_k25_words_that_cannot_stand) rfl rfl (fun w h Y => PySem.W.kIn_of Y) ?F
  case F =>
    intro w mg fa h KX G hmg
    refine' K25.all_mk KX G hmg ?a_Some ?pg_Some ?hd_Some ?po_Some ?sa_Some ?mk_Some ?kc_Some ?na_Some_several ?a_All ?pg_All ?hd_All ?po_All ?sa_All ?mk_All ?kc_All ?na_All_several ?a_CauseIs ?pg_CauseIs ?hd_CauseIs ?po_CauseIs ?sa_CauseIs ?mk_CauseIs ?kc_CauseIs ?na_CauseIs_name ?a_ThingIs ?pg_ThingIs ?hd_ThingIs ?po_ThingIs ?sa_ThingIs ?mk_ThingIs ?kc_ThingIs ?na_ThingIs_name ?a_Over ?pg_Over ?hd_Over ?po_Over ?sa_Over ?mk_Over ?kc_Over ?na_Over_cents ?a_DaysIn ?pg_DaysIn ?hd_DaysIn ?po_DaysIn ?sa_DaysIn ?mk_DaysIn ?kc_DaysIn ?na_DaysIn_first ?na_DaysIn_last ?a_Condition ?pg_Condition ?hd_Condition ?po_Condition ?sa_Condition ?mk_Condition ?kc_Condition ?a_Not ?pg_Not ?hd_Not ?po_Not ?sa_Not ?mk_Not ?kc_Not ?na_Not_part ?a_CoverError ?a_NoAmount ?a_NoWords ?a_TooDeep ?a_NoText ?xq_NoAmount ?xk_NoAmount ?xb_NoAmount ?xt_NoAmount ?xq_TooDeep ?xk_TooDeep ?xb_TooDeep ?xt_TooDeep ?xg_NoWords ?xh_NoWords ?xb_NoWords ?xd_NoWords ?xa_NoWords ?xm_NoWords ?xg_TooDeep ?xh_TooDeep ?xd_TooDeep ?xa_TooDeep ?xm_TooDeep ?xg_NoAmount ?xh_NoAmount ?xd_NoAmount ?xa_NoAmount ?xm_NoAmount ?xn0 ?xt0 ?xs_NoAmount_NoAmount ?xb_CoverError ?xd_CoverError ?xt_CoverError ?xs_NoWords_CoverError ?xs_TooDeep_CoverError ?xs_NoAmount_CoverError ?ob_Condition ?a0 ?l0 ?c0 ?k0 ?a1 ?l1 ?c1 ?k1 ?a2 ?l2 ?c2 ?k2 ?a3 ?l3 ?c3 ?k3 ?a4 ?l4 ?c4 ?k4 ?a5 ?l5 ?c5 ?k5 ?a6 ?l6 ?c6 ?k6 ?a7 ?l7 ?c7 ?k7 ?a8 ?l8 ?c8 ?k8 ?a9 ?l9 ?c9 ?k9 ?a10 ?l10 ?c10 ?k10 ?a11 ?l11 ?c11 ?k11 ?a12 ?l12 ?c12 ?k12 ?i12 ?tf12 ?a13 ?l13 ?c13 ?k13 ?i13 ?a14 ?l14 ?c14 ?k14 ?i14 ?a15 ?l15 ?c15 ?k15 ?a16 ?l16 ?c16 ?k16 ?a17 ?l17 ?c17 ?k17 ?i17 ?a18 ?l18 ?c18 ?k18 ?i18 ?a19 ?l19 ?c19 ?k19 ?a20 ?l20 ?c20 ?k20 ?a21 ?l21 ?c21 ?k21 ?a22 ?l22 ?c22 ?k22 ?i22 ?a23 ?l23 ?c23 ?k23 ?a24 ?l24 ?c24 ?k24 ?a25 ?l25 ?c25 ?k25 ?a26 ?l26 ?c26 ?k26 ?i26 ?a27 ?l27 ?c27 ?k27 ?a28 ?l28 ?c28 ?k28 ?i28 ?a29 ?l29 ?c29 ?k29 ?a30 ?l30 ?c30 ?k30 ?a31 ?l31 ?c31 ?k31 ?a32 ?l32 ?c32 ?k32 ?a33 ?l33 ?c33 ?k33 ?a34 ?l34 ?c34 ?k34 ?a35 ?l35 ?c35 ?k35 ?a36 ?l36 ?c36 ?k36 ?a37 ?l37 ?c37 ?k37 ?a38 ?l38 ?c38 ?k38 ?a39 ?l39 ?c39 ?k39 ?a40 ?l40 ?c40 ?k40 ?q_rd_CoverError ?q_ga_CoverError ?q_vi_CoverError ?q_xo_NoWords ?q_hd_NoWords ?q_sa_NoWords ?q_xb_NoWords ?q_xt_NoWords ?q_xk_NoWords ?q_nf_NoWords ?mr_NoWords_ValueError ?mr_TooDeep_ValueError ?mr_NoAmount_ValueError ?mr_NoWords_NoWords ?mr_TooDeep_NoWords ?ms_TooDeep ?mr_NoAmount_NoWords ?ms_NoAmount ?mr_NoWords_TooDeep ?ms_NoWords ?mr_TooDeep_TooDeep ?mr_NoAmount_TooDeep ?mr_NoWords_NoText ?mr_TooDeep_NoText ?mr_NoAmount_NoText ?mr_NoWords_NoAmount ?mr_TooDeep_NoAmount ?mr_NoAmount_NoAmount ?ic_NoAmount ?ti_NoAmount ?ic_NoText ?ti_NoText ?ic_NoWords ?ti_NoWords ?ic_TooDeep ?ti_TooDeep ?z_len ?z_range ?z_sorted ?z_min ?z_int ?z_max ?z_str ?z_list ?z_isinstance ?z_bool ?z_ValueError ?z_tuple ?g_LETTERS ?g_FIGURES_cents ?g_LAST_DAY ?g_FIGURES_wording ?g_MOST_PARTS ?g_MOST_OPEN ?g_MOST_WORDS
    (case a_Some => k_is)
    (case pg_Some => k_is)
    (case hd_Some => k_is)
    (case po_Some => k_is)
    (case sa_Some => k_is)
    (case mk_Some => k_is)
    (case kc_Some => k_is)
    (case na_Some_several => k_is)
    (case a_All => k_is)
    (case pg_All => k_is)
    (case hd_All => k_is)
    (case po_All => k_is)
    (case sa_All => k_is)
    (case mk_All => k_is)
    (case kc_All => k_is)
    (case na_All_several => k_is)
    (case a_CauseIs => k_is)
    (case pg_CauseIs => k_is)
    (case hd_CauseIs => k_is)
    (case po_CauseIs => k_is)
    (case sa_CauseIs => k_is)
    (case mk_CauseIs => k_is)
    (case kc_CauseIs => k_is)
    (case na_CauseIs_name => k_is)
    (case a_ThingIs => k_is)
    (case pg_ThingIs => k_is)
    (case hd_ThingIs => k_is)
    (case po_ThingIs => k_is)
    (case sa_ThingIs => k_is)
    (case mk_ThingIs => k_is)
    (case kc_ThingIs => k_is)
    (case na_ThingIs_name => k_is)
    (case a_Over => k_is)
    (case pg_Over => k_is)
    (case hd_Over => k_is)
    (case po_Over => k_is)
    (case sa_Over => k_is)
    (case mk_Over => k_is)
    (case kc_Over => k_is)
    (case na_Over_cents => k_is)
    (case a_DaysIn => k_is)
    (case pg_DaysIn => k_is)
    (case hd_DaysIn => k_is)
    (case po_DaysIn => k_is)
    (case sa_DaysIn => k_is)
    (case mk_DaysIn => k_is)
    (case kc_DaysIn => k_is)
    (case na_DaysIn_first => k_is)
    (case na_DaysIn_last => k_is)
    (case a_Condition => k_is)
    (case pg_Condition => k_is)
    (case hd_Condition => k_is)
    (case po_Condition => k_is)
    (case sa_Condition => k_is)
    (case mk_Condition => k_is)
    (case kc_Condition => k_is)
    (case a_Not => k_is)
    (case pg_Not => k_is)
    (case hd_Not => k_is)
    (case po_Not => k_is)
    (case sa_Not => k_is)
    (case mk_Not => k_is)
    (case kc_Not => k_is)
    (case na_Not_part => k_is)
    (case a_CoverError => k_is)
    (case a_NoAmount => k_is)
    (case a_NoWords => k_is)
    (case a_TooDeep => k_is)
    (case a_NoText => k_is)
    (case xq_NoAmount => k_exc)
    (case xk_NoAmount => k_is)
    (case xb_NoAmount => k_is)
    (case xt_NoAmount => k_is)
    (case xq_TooDeep => k_exc)
    (case xk_TooDeep => k_is)
    (case xb_TooDeep => k_is)
    (case xt_TooDeep => k_is)
    (case xg_NoWords => k_is)
    (case xh_NoWords => k_is)
    (case xb_NoWords => k_is)
    (case xd_NoWords => k_is)
    (case xa_NoWords => k_is)
    (case xm_NoWords => k_is)
    (case xg_TooDeep => k_is)
    (case xh_TooDeep => k_is)
    (case xd_TooDeep => k_is)
    (case xa_TooDeep => k_is)
    (case xm_TooDeep => k_is)
    (case xg_NoAmount => k_is)
    (case xh_NoAmount => k_is)
    (case xd_NoAmount => k_is)
    (case xa_NoAmount => k_is)
    (case xm_NoAmount => k_is)
    (case xn0 => k_is)
    (case xt0 => k_is)
    (case xs_NoAmount_NoAmount => k_is)
    (case xb_CoverError => k_is)
    (case xd_CoverError => k_is)
    (case xt_CoverError => k_is)
    (case xs_NoWords_CoverError => k_is)
    (case xs_TooDeep_CoverError => k_is)
    (case xs_NoAmount_CoverError => k_is)
    (case ob_Condition => k_is)
    (case a0 => k_is)
    (case l0 => k_is)
    (case c0 => k_is)
    (case k0 => k_is)
    (case a1 => k_is)
    (case l1 => k_is)
    (case c1 => k_is)
    (case k1 => k_is)
    (case a2 => k_is)
    (case l2 => k_is)
    (case c2 => k_is)
    (case k2 => k_is)
    (case a3 => k_is)
    (case l3 => k_is)
    (case c3 => k_is)
    (case k3 => k_is)
    (case a4 => k_is)
    (case l4 => k_is)
    (case c4 => k_is)
    (case k4 => k_is)
    (case a5 => k_is)
    (case l5 => k_is)
    (case c5 => k_is)
    (case k5 => k_is)
    (case a6 => k_is)
    (case l6 => k_is)
    (case c6 => k_is)
    (case k6 => k_is)
    (case a7 => k_is)
    (case l7 => k_is)
    (case c7 => k_is)
    (case k7 => k_is)
    (case a8 => k_is)
    (case l8 => k_is)
    (case c8 => k_is)
    (case k8 => k_is)
    (case a9 => k_is)
    (case l9 => k_is)
    (case c9 => k_is)
    (case k9 => k_is)
    (case a10 => k_is)
    (case l10 => k_is)
    (case c10 => k_is)
    (case k10 => k_is)
    (case a11 => k_is)
    (case l11 => k_is)
    (case c11 => k_is)
    (case k11 => k_is)
    (case a12 => k_is)
    (case l12 => k_is)
    (case c12 => k_is)
    (case k12 => k_is)
    (case i12 => k_is)
    (case tf12 => k_is)
    (case a13 => k_is)
    (case l13 => k_is)
    (case c13 => k_is)
    (case k13 => k_is)
    (case i13 => k_is)
    (case a14 => k_is)
    (case l14 => k_is)
    (case c14 => k_is)
    (case k14 => k_is)
    (case i14 => k_is)
    (case a15 => k_is)
    (case l15 => k_is)
    (case c15 => k_is)
    (case k15 => k_is)
    (case a16 => k_is)
    (case l16 => k_is)
    (case c16 => k_is)
    (case k16 => k_is)
    (case a17 => k_is)
    (case l17 => k_is)
    (case c17 => k_is)
    (case k17 => k_is)
    (case i17 => k_is)
    (case a18 => k_is)
    (case l18 => k_is)
    (case c18 => k_is)
    (case k18 => k_is)
    (case i18 => k_is)
    (case a19 => k_is)
    (case l19 => k_is)
    (case c19 => k_is)
    (case k19 => k_is)
    (case a20 => k_is)
    (case l20 => k_is)
    (case c20 => k_is)
    (case k20 => k_is)
    (case a21 => k_is)
    (case l21 => k_is)
    (case c21 => k_is)
    (case k21 => k_is)
    (case a22 => k_is)
    (case l22 => k_is)
    (case c22 => k_is)
    (case k22 => k_is)
    (case i22 => k_is)
    (case a23 => k_is)
    (case l23 => k_is)
    (case c23 => k_is)
    (case k23 => k_is)
    (case a24 => k_is)
    (case l24 => k_is)
    (case c24 => k_is)
    (case k24 => k_is)
    (case a25 => k_is)
    (case l25 => k_is)
    (case c25 => k_is)
    (case k25 => k_is)
    (case a26 => k_is)
    (case l26 => k_is)
    (case c26 => k_is)
    (case k26 => k_is)
    (case i26 => k_is)
    (case a27 => k_is)
    (case l27 => k_is)
    (case c27 => k_is)
    (case k27 => k_is)
    (case a28 => k_is)
    (case l28 => k_is)
    (case c28 => k_is)
    (case k28 => k_is)
    (case i28 => k_is)
    (case a29 => k_is)
    (case l29 => k_is)
    (case c29 => k_is)
    (case k29 => k_is)
    (case a30 => k_is)
    (case l30 => k_is)
    (case c30 => k_is)
    (case k30 => k_is)
    (case a31 => k_is)
    (case l31 => k_is)
    (case c31 => k_is)
    (case k31 => k_is)
    (case a32 => k_is)
    (case l32 => k_is)
    (case c32 => k_is)
    (case k32 => k_is)
    (case a33 => k_is)
    (case l33 => k_is)
    (case c33 => k_is)
    (case k33 => k_is)
    (case a34 => k_is)
    (case l34 => k_is)
    (case c34 => k_is)
    (case k34 => k_is)
    (case a35 => k_is)
    (case l35 => k_is)
    (case c35 => k_is)
    (case k35 => k_is)
    (case a36 => k_is)
    (case l36 => k_is)
    (case c36 => k_is)
    (case k36 => k_is)
    (case a37 => k_is)
    (case l37 => k_is)
    (case c37 => k_is)
    (case k37 => k_is)
    (case a38 => k_is)
    (case l38 => k_is)
    (case c38 => k_is)
    (case k38 => k_is)
    (case a39 => k_is)
    (case l39 => k_is)
    (case c39 => k_is)
    (case k39 => k_is)
    (case a40 => k_is)
    (case l40 => k_is)
    (case c40 => k_is)
    (case k40 => k_is)
    (case q_rd_CoverError => k_is)
    (case q_ga_CoverError => k_is)
    (case q_vi_CoverError => k_is)
    (case q_xo_NoWords => kx_is)
    (case q_hd_NoWords => k_is)
    (case q_sa_NoWords => k_is)
    (case q_xb_NoWords => k_is)
    (case q_xt_NoWords => k_is)
    (case q_xk_NoWords => k_is)
    (case q_nf_NoWords => k_is)
    (case mr_NoWords_ValueError => k_is)
    (case mr_TooDeep_ValueError => k_is)
    (case mr_NoAmount_ValueError => k_is)
    (case mr_NoWords_NoWords => k_is)
    (case mr_TooDeep_NoWords => k_is)
    (case ms_TooDeep => k_is)
    (case mr_NoAmount_NoWords => k_is)
    (case ms_NoAmount => k_is)
    (case mr_NoWords_TooDeep => k_is)
    (case ms_NoWords => k_is)
    (case mr_TooDeep_TooDeep => k_is)
    (case mr_NoAmount_TooDeep => k_is)
    (case mr_NoWords_NoText => k_is)
    (case mr_TooDeep_NoText => k_is)
    (case mr_NoAmount_NoText => k_is)
    (case mr_NoWords_NoAmount => k_is)
    (case mr_TooDeep_NoAmount => k_is)
    (case mr_NoAmount_NoAmount => k_is)
    (case ic_NoAmount => k_is)
    (case ti_NoAmount => k_is)
    (case ic_NoText => k_is)
    (case ti_NoText => k_is)
    (case ic_NoWords => k_is)
    (case ti_NoWords => k_is)
    (case ic_TooDeep => k_is)
    (case ti_TooDeep => k_is)
    (case z_len => k_is)
    (case z_range => k_is)
    (case z_sorted => k_is)
    (case z_min => k_is)
    (case z_int => k_is)
    (case z_max => k_is)
    (case z_str => k_is)
    (case z_list => k_is)
    (case z_isinstance => k_is)
    (case z_bool => k_is)
    (case z_ValueError => k_is)
    (case z_tuple => k_is)
    (case g_LETTERS => k_is)
    (case g_FIGURES_cents => k_is)
    (case g_LAST_DAY => k_is)
    (case g_FIGURES_wording => k_is)
    (case g_MOST_PARTS => k_is)
    (case g_MOST_OPEN => k_is)
    (case g_MOST_WORDS => k_is)
