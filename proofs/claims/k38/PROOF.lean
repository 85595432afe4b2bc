import PyProof.Rows.All
import Wide.All
import OpenK.AllK
import Wide.FinOn
import HandS.ForMost
import HandS.IsInst
import HandS.Exc
import HandS.Style
import HandS.Wide
import HandS.StrMore
import HandS.SetFor
import PyProof.LongRange
import HandS.Codes
import KE.SortData
import HandS.ClsMeth
import PyProof.Rows.StrRev
import PyProof.StrOps2
import HandS.Defaults
import HandS.More
import HandS.ExcOwn
import HandS.WordsExc
import HandS.TryOnly
import HandS.ExcIs
import HandS.Deep
import HandS.Text
import PyProof.EqKinds
import PyProof.P3In
import HandS.Dict
import PyProof.DictMoreH
import HandS.SetKeys
import KE.KDictWalk
import HandS.Iter
import HandS.Strs
import PyProof.Rows.SetFrom
import HandS.Head0
import HandS.Head1
import HandS.Head2
import HandS.HeadEnd
import HandS.HeadHook1
import HandS.HeadHook2
import HandS.List
import HandS.DeepEq
import PySem.Challenge.RW_coverroll_k38_no_covers
set_option Elab.async false
set_option linter.all false
set_option maxRecDepth 100000
set_option maxHeartbeats 4000000
namespace M
open PySem L2

/-- data that no one changes any more -/
inductive D where
  | non | bl (b : Bool) | int (i : Int) | str (x : Str) | ty (n : String) | opq (a : Addr)
  | tup (ds : List D) | lst (ds : List D) | ins (C : Addr) (ns : List Str) (ds : List D)
  | dct (ks : List Key) (ds : List D) | dctT (ks : List (List Key)) (ds : List D)
/-- an error: its class, its attribute -/
structure Er where
  C : Addr
  fld : Option (Str × D) := none
/-- things of the def's own, that may be changed; rs: nothing comes back, an error is raised; vw: a list that stays as it is while the def runs -/
inductive O where
  | fz (d : D) | vw (ds : List D) | lst (os : List O) | tup (os : List O) | ins (C : Addr) (ns : List Str) (os : List O)
  | dct (ks : List Key) (os : List O) | dctT (ks : List (List Key)) (os : List O)
  | at (a : Addr) (C : Addr) (ns : List Str) (os : List O)
  | vwa (a : Addr) (ds : List D)
  | loc (a : Addr) (o : O)
  | pt (a : Addr)
  | rs (e : Er)
  | lk (o : O)

def Ex (H H' : Hp) : Prop := ∀ a o, H a = some o → H' a = some o
theorem Ex.refl (H : Hp) : Ex H H := fun _ _ h => h
theorem Ex.trans {H H1 H2 : Hp} (a : Ex H H1) (b : Ex H1 H2) : Ex H H2 := fun x o h => b x o (a x o h)
theorem Ex.new {H : Hp} {p : Addr} {o : HO} (h : H p = none) : Ex H (upd H p o) := fun a u e => by
  rw [upd_ne (ne_of_none e h)]
  exact e
theorem Ex.free {H H' : Hp} {p : Addr} (e : Ex H H') (h : H' p = none) : H p = none := by
  cases h1 : H p with
  | none => rfl
  | some o =>
    rw [e p o h1] at h
    cases h
theorem Ex.mut {H H' : Hp} {p : Addr} {o : HO} (e : Ex H H') (h : H p = none) : Ex H (upd H' p o) := fun a u ha => by
  rw [upd_ne (ne_of_none ha h)]
  exact e a u ha
theorem ex_rd {H H' : Hp} {a : Addr} {u : HO} (e : Ex H H') (h : Rd H a u) : Rd H' a u := by
  rcases h with h | ⟨o, h⟩
  · exact .inl (e a _ h)
  · exact .inr ⟨o, e a _ h⟩
theorem ex_l {K : PySem.W.Frag} {H H' : Hp} {a : Addr} {xs : List V} (e : Ex H H') (h : SqL K H a xs) : SqL K H' a xs := by
  rcases h with h | h
  · exact .inl (ex_rd e h)
  · exact .inr h
theorem ex_t {K : PySem.W.Frag} {H H' : Hp} {a : Addr} {xs : List V} (e : Ex H H') (h : SqT K H a xs) : SqT K H' a xs := by
  rcases h with h | h
  · exact .inl (ex_rd e h)
  · exact .inr h

mutual
inductive Rep (K : PySem.W.Frag) (Z : Hp) : V → D → Prop where
  | non : Rep K Z .non .non
  | bl (b : Bool) : Rep K Z (.bl b) (.bl b)
  | int (i : Int) : Rep K Z (.int i) (.int i)
  | str (x : Str) : Rep K Z (.str x) (.str x)
  | ty (n : String) : Rep K Z (.ty n) (.ty n)
  | opq (a : Addr) : Rep K Z (.ref a) (.opq a)
  | tup {a : Addr} {vs : List V} {ds : List D} : Z a = some (.tup vs) → RepL K Z vs ds → Rep K Z (.ref a) (.tup ds)
  | lst {a : Addr} {vs : List V} {ds : List D} : SqL K Z a vs → RepL K Z vs ds → Rep K Z (.ref a) (.lst ds)
  | ins {a C dx : Addr} {ns : List Str} {vs : List V} {ds : List D} : Z a = some (.ins C dx (ns.zip vs)) → RepL K Z vs ds → Rep K Z (.ref a) (.ins C ns ds)
  | dct {a : Addr} {ks : List Key} {vs : List V} {ds : List D} : Z a = some (.dK (ks.zip vs)) → RepL K Z vs ds → Rep K Z (.ref a) (.dct ks ds)
  | dctT {a : Addr} {ks : List (List Key)} {vs : List V} {ds : List D} : Z a = some (.dT (ks.zip vs)) → RepL K Z vs ds → Rep K Z (.ref a) (.dctT ks ds)
inductive RepL (K : PySem.W.Frag) (Z : Hp) : List V → List D → Prop where
  | nil : RepL K Z [] []
  | cons {v : V} {vs : List V} {d : D} {ds : List D} : Rep K Z v d → RepL K Z vs ds → RepL K Z (v :: vs) (d :: ds)
end
mutual
/-- a thing that is looked at: its cells lie in F -/
inductive RepK (K : PySem.W.Frag) (Z F : Hp) : V → O → Prop where
  | fz {v : V} {d : D} : Rep K Z v d → RepK K Z F v (.fz d)
  | vw {a : Addr} {vs : List V} {ds : List D} : SqL K F a vs → RepL K Z vs ds → RepK K Z F (.ref a) (.vw ds)
  | vwa {a : Addr} {vs : List V} {ds : List D} : SqL K F a vs → RepL K Z vs ds → RepK K Z F (.ref a) (.vwa a ds)
  | lst {a : Addr} {vs : List V} {os : List O} : F a = some (.lst vs) → RepKL K Z F vs os → RepK K Z F (.ref a) (.lst os)
  | tup {a : Addr} {vs : List V} {os : List O} : F a = some (.tup vs) → RepKL K Z F vs os → RepK K Z F (.ref a) (.tup os)
  | ins {a C dx : Addr} {ns : List Str} {vs : List V} {os : List O} : F a = some (.ins C dx (ns.zip vs)) → RepKL K Z F vs os → RepK K Z F (.ref a) (.ins C ns os)
  | at {a C dx : Addr} {ns : List Str} {vs : List V} {os : List O} : F a = some (.ins C dx (ns.zip vs)) → RepKL K Z F vs os → RepK K Z F (.ref a) (.at a C ns os)
  | dct {a : Addr} {ks : List Key} {vs : List V} {os : List O} : F a = some (.dK (ks.zip vs)) → RepKL K Z F vs os → RepK K Z F (.ref a) (.dct ks os)
  | dctT {a : Addr} {ks : List (List Key)} {vs : List V} {os : List O} : F a = some (.dT (ks.zip vs)) → RepKL K Z F vs os → RepK K Z F (.ref a) (.dctT ks os)
  | loc {a : Addr} {o : O} : RepK K Z F (.ref a) o → RepK K Z F (.ref a) (.loc a o)
  | pt {a : Addr} : RepK K Z F (.ref a) (.pt a)
  | lk {v : V} {o : O} : RepK K Z F v o → RepK K Z F v (.lk o)
inductive RepKL (K : PySem.W.Frag) (Z F : Hp) : List V → List O → Prop where
  | nil : RepKL K Z F [] []
  | cons {v : V} {vs : List V} {o : O} {os : List O} : RepK K Z F v o → RepKL K Z F vs os → RepKL K Z F (v :: vs) (o :: os)
end
mutual
inductive RepO (K : PySem.W.Frag) (Z F H : Hp) : V → O → List Addr → Prop where
  | fz {v : V} {d : D} : Rep K Z v d → RepO K Z F H v (.fz d) []
  | vw {a : Addr} {vs : List V} {ds : List D} : SqL K F a vs → RepL K Z vs ds → RepO K Z F H (.ref a) (.vw ds) []
  | vwa {a : Addr} {vs : List V} {ds : List D} : SqL K F a vs → RepL K Z vs ds → RepO K Z F H (.ref a) (.vwa a ds) []
  | lst {a : Addr} {vs : List V} {os : List O} {A : List Addr} : H a = some (.lst vs) → RepOL K Z F H vs os A → RepO K Z F H (.ref a) (.lst os) (a :: A)
  | tup {a : Addr} {vs : List V} {os : List O} {A : List Addr} : H a = some (.tup vs) → RepOL K Z F H vs os A → RepO K Z F H (.ref a) (.tup os) (a :: A)
  | ins {a C dx : Addr} {ns : List Str} {vs : List V} {os : List O} {A : List Addr} : H a = some (.ins C dx (ns.zip vs)) → RepOL K Z F H vs os A → RepO K Z F H (.ref a) (.ins C ns os) (a :: A)
  | at {a C dx : Addr} {ns : List Str} {vs : List V} {os : List O} {A : List Addr} : H a = some (.ins C dx (ns.zip vs)) → RepOL K Z F H vs os A → RepO K Z F H (.ref a) (.at a C ns os) (a :: A)
  | dct {a : Addr} {ks : List Key} {vs : List V} {os : List O} {A : List Addr} : H a = some (.dK (ks.zip vs)) → RepOL K Z F H vs os A → RepO K Z F H (.ref a) (.dct ks os) (a :: A)
  | dctT {a : Addr} {ks : List (List Key)} {vs : List V} {os : List O} {A : List Addr} : H a = some (.dT (ks.zip vs)) → RepOL K Z F H vs os A → RepO K Z F H (.ref a) (.dctT ks os) (a :: A)
  | loc {a : Addr} {o : O} {A : List Addr} : RepO K Z F H (.ref a) o A → RepO K Z F H (.ref a) (.loc a o) A
  | pt {a : Addr} : RepO K Z F H (.ref a) (.pt a) []
  | lk {v : V} {o : O} : RepK K Z F v o → RepO K Z F H v (.lk o) []
inductive RepOL (K : PySem.W.Frag) (Z F H : Hp) : List V → List O → List Addr → Prop where
  | nil : RepOL K Z F H [] [] []
  | cons {v : V} {vs : List V} {o : O} {os : List O} {A B : List Addr} : RepO K Z F H v o A → RepOL K Z F H vs os B → RepOL K Z F H (v :: vs) (o :: os) (A ++ B)
end

section
variable {K : PySem.W.Frag} {Z Z' F F' H H' : Hp}
mutual
theorem Rep.mono (e : Ex Z Z') : ∀ {v : V} {d : D}, Rep K Z v d → Rep K Z' v d
  | _, _, .non => .non
  | _, _, .bl b => .bl b
  | _, _, .int i => .int i
  | _, _, .str x => .str x
  | _, _, .ty n => .ty n
  | _, _, .opq a => .opq a
  | _, _, .tup h r => .tup (e _ _ h) (RepL.mono e r)
  | _, _, .lst h r => .lst (ex_l e h) (RepL.mono e r)
  | _, _, .ins h r => .ins (e _ _ h) (RepL.mono e r)
  | _, _, .dct h r => .dct (e _ _ h) (RepL.mono e r)
  | _, _, .dctT h r => .dctT (e _ _ h) (RepL.mono e r)
theorem RepL.mono (e : Ex Z Z') : ∀ {vs : List V} {ds : List D}, RepL K Z vs ds → RepL K Z' vs ds
  | _, _, .nil => .nil
  | _, _, .cons h r => .cons (Rep.mono e h) (RepL.mono e r)
end
mutual
theorem RepK.mono (e : Ex Z Z') (f : Ex F F') : ∀ {v : V} {o : O}, RepK K Z F v o → RepK K Z' F' v o
  | _, _, .fz h => .fz (h.mono e)
  | _, _, .vw h r => .vw (ex_l f h) (r.mono e)
  | _, _, .vwa h r => .vwa (ex_l f h) (r.mono e)
  | _, _, .lst h r => .lst (f _ _ h) (RepKL.mono e f r)
  | _, _, .tup h r => .tup (f _ _ h) (RepKL.mono e f r)
  | _, _, .ins h r => .ins (f _ _ h) (RepKL.mono e f r)
  | _, _, .at h r => .at (f _ _ h) (RepKL.mono e f r)
  | _, _, .dct h r => .dct (f _ _ h) (RepKL.mono e f r)
  | _, _, .dctT h r => .dctT (f _ _ h) (RepKL.mono e f r)
  | _, .loc _ o, .loc h => .loc (RepK.mono (o := o) e f h)
  | _, _, .pt => .pt
  | _, .lk o, .lk h => .lk (RepK.mono (o := o) e f h)
theorem RepKL.mono (e : Ex Z Z') (f : Ex F F') : ∀ {vs : List V} {os : List O}, RepKL K Z F vs os → RepKL K Z' F' vs os
  | _, _, .nil => .nil
  | _, _, .cons h r => .cons (RepK.mono e f h) (RepKL.mono e f r)
end
mutual
theorem RepO.mono (e : Ex Z Z') (f : Ex F F') : ∀ {v : V} {o : O} {A : List Addr}, RepO K Z F H v o A → (∀ a ∈ A, ∀ u, H a = some u → H' a = some u) → RepO K Z' F' H' v o A
  | _, _, _, .fz h, _ => .fz (h.mono e)
  | _, _, _, .vw h r, _ => .vw (ex_l f h) (r.mono e)
  | _, _, _, .vwa h r, _ => .vwa (ex_l f h) (r.mono e)
  | _, _, _, .lk h, _ => .lk (h.mono e f)
  | _, _, _, .lst h r, k => .lst (k _ List.mem_cons_self _ h) (RepOL.mono e f r fun a m => k a (List.mem_cons_of_mem _ m))
  | _, _, _, .tup h r, k => .tup (k _ List.mem_cons_self _ h) (RepOL.mono e f r fun a m => k a (List.mem_cons_of_mem _ m))
  | _, _, _, .ins h r, k => .ins (k _ List.mem_cons_self _ h) (RepOL.mono e f r fun a m => k a (List.mem_cons_of_mem _ m))
  | _, _, _, .loc h, k => .loc (RepO.mono e f h k)
  | _, _, _, .pt, _ => .pt
  | _, _, _, .at h r, k => .at (k _ List.mem_cons_self _ h) (RepOL.mono e f r fun a m => k a (List.mem_cons_of_mem _ m))
  | _, _, _, .dct h r, k => .dct (k _ List.mem_cons_self _ h) (RepOL.mono e f r fun a m => k a (List.mem_cons_of_mem _ m))
  | _, _, _, .dctT h r, k => .dctT (k _ List.mem_cons_self _ h) (RepOL.mono e f r fun a m => k a (List.mem_cons_of_mem _ m))
theorem RepOL.mono (e : Ex Z Z') (f : Ex F F') : ∀ {vs : List V} {os : List O} {A : List Addr}, RepOL K Z F H vs os A → (∀ a ∈ A, ∀ u, H a = some u → H' a = some u) → RepOL K Z' F' H' vs os A
  | _, _, _, .nil, _ => .nil
  | _, _, _, .cons h r, k => .cons (RepO.mono e f h fun a m => k a (List.mem_append_left _ m)) (RepOL.mono e f r fun a m => k a (List.mem_append_right _ m))
end
mutual
theorem RepO.there : ∀ {v : V} {o : O} {A : List Addr}, RepO K Z F H v o A → ∀ a ∈ A, ∃ u, H a = some u
  | _, _, _, .fz _, _, m => nomatch m
  | _, _, _, .vw _ _, _, m => nomatch m
  | _, _, _, .vwa _ _, _, m => nomatch m
  | _, _, _, .lk _, _, m => nomatch m
  | _, _, _, .lst h r, a, m => (List.mem_cons.mp m).elim (fun e => ⟨_, e ▸ h⟩) fun m => RepOL.there r a m
  | _, _, _, .tup h r, a, m => (List.mem_cons.mp m).elim (fun e => ⟨_, e ▸ h⟩) fun m => RepOL.there r a m
  | _, _, _, .ins h r, a, m => (List.mem_cons.mp m).elim (fun e => ⟨_, e ▸ h⟩) fun m => RepOL.there r a m
  | _, _, _, .loc h, a, m => RepO.there h a m
  | _, _, _, .pt, _, m => nomatch m
  | _, _, _, .at h r, a, m => (List.mem_cons.mp m).elim (fun e => ⟨_, e ▸ h⟩) fun m => RepOL.there r a m
  | _, _, _, .dct h r, a, m => (List.mem_cons.mp m).elim (fun e => ⟨_, e ▸ h⟩) fun m => RepOL.there r a m
  | _, _, _, .dctT h r, a, m => (List.mem_cons.mp m).elim (fun e => ⟨_, e ▸ h⟩) fun m => RepOL.there r a m
theorem RepOL.there : ∀ {vs : List V} {os : List O} {A : List Addr}, RepOL K Z F H vs os A → ∀ a ∈ A, ∃ u, H a = some u
  | _, _, _, .nil, _, m => nomatch m
  | _, _, _, .cons h r, a, m => (List.mem_append.mp m).elim (fun m => RepO.there h a m) fun m => RepOL.there r a m
end
theorem RepO.ex {v : V} {o : O} {A : List Addr} (e : Ex Z Z') (g : Ex H H') (r : RepO K Z F H v o A) : RepO K Z' F H' v o A := r.mono e (Ex.refl _) fun a _ u h => g a u h
theorem RepO.frame {v : V} {o : O} {A : List Addr} (r : RepO K Z F H v o A) (k : ∀ a ∈ A, H' a = H a) : RepO K Z F H' v o A := r.mono (Ex.refl _) (Ex.refl _) fun a m u h => (k a m).trans h
theorem RepKL.length : ∀ {vs : List V} {os : List O}, RepKL K Z F vs os → vs.length = os.length
  | _, _, .nil => rfl
  | _, _, .cons _ r => congrArg (· + 1) r.length
theorem RepKL.get : ∀ {vs : List V} {os : List O} {i : Nat} {o : O}, RepKL K Z F vs os → os[i]? = some o → ∃ v, vs[i]? = some v ∧ RepK K Z F v o
  | _, _, _, _, .nil, e => by simp at e
  | _, _, 0, _, .cons h _, e => by
    simp at e
    subst e
    exact ⟨_, rfl, h⟩
  | _, _, i + 1, o, .cons _ r, e => by
    obtain ⟨v, h1, h2⟩ := RepKL.get (i := i) (o := o) r (by simpa using e)
    exact ⟨v, by simpa using h1, h2⟩
theorem RepKL.fzs : ∀ {ds : List D} {vs : List V}, RepKL K Z F vs (ds.map .fz) → RepL K Z vs ds
  | [], _, .nil => .nil
  | _ :: _, _, .cons (.fz h) r => .cons h r.fzs
theorem RepL.length : ∀ {vs : List V} {ds : List D}, RepL K Z vs ds → vs.length = ds.length
  | _, _, .nil => rfl
  | _, _, .cons _ r => congrArg (· + 1) r.length
theorem RepL.get : ∀ {vs : List V} {ds : List D} {i : Nat} {d : D}, RepL K Z vs ds → ds[i]? = some d → ∃ v, vs[i]? = some v ∧ Rep K Z v d
  | _, _, _, _, .nil, e => by simp at e
  | _, _, 0, _, .cons h _, e => by
    simp at e
    subst e
    exact ⟨_, rfl, h⟩
  | _, _, i + 1, d, .cons _ r, e => by
    obtain ⟨v, h1, h2⟩ := RepL.get (i := i) (d := d) r (by simpa using e)
    exact ⟨v, by simpa using h1, h2⟩
theorem RepL.append : ∀ {vs ws : List V} {ds es : List D}, RepL K Z vs ds → RepL K Z ws es → RepL K Z (vs ++ ws) (ds ++ es)
  | _, _, _, _, .nil, s => s
  | _, _, _, _, .cons h r, s => .cons h (r.append s)
theorem RepL.set {v : V} {d : D} (h : Rep K Z v d) : ∀ {vs : List V} {ds : List D} (i : Nat), RepL K Z vs ds → RepL K Z (vs.set i v) (ds.set i d)
  | _, _, _, .nil => .nil
  | _, _, 0, .cons _ r => .cons h r
  | _, _, i + 1, .cons g r => .cons g (RepL.set h i r)
theorem RepL.take : ∀ {vs : List V} {ds : List D} (n : Nat), RepL K Z vs ds → RepL K Z (vs.take n) (ds.take n)
  | _, _, 0, _ => .nil
  | _, _, _ + 1, .nil => .nil
  | _, _, n + 1, .cons h r => .cons h (RepL.take n r)
theorem RepL.drop : ∀ {vs : List V} {ds : List D} (n : Nat), RepL K Z vs ds → RepL K Z (vs.drop n) (ds.drop n)
  | _, _, 0, r => r
  | _, _, _ + 1, .nil => .nil
  | _, _, n + 1, .cons _ r => RepL.drop n r
/-- a list of frozen things -/
theorem RepOL.fzs : ∀ {ds : List D} {vs : List V} {A : List Addr}, RepOL K Z F H vs (ds.map .fz) A → A = [] ∧ RepL K Z vs ds
  | [], _, _, .nil => ⟨rfl, .nil⟩
  | _ :: _, _, _, .cons (.fz h) r => by
    obtain ⟨e, q⟩ := RepOL.fzs r
    exact ⟨by rw [e]; rfl, .cons h q⟩
theorem RepL.own : ∀ {vs : List V} {ds : List D}, RepL K Z vs ds → RepOL K Z F H vs (ds.map .fz) []
  | _, _, .nil => .nil
  | _, _, .cons h r => .cons (A := []) (B := []) (.fz h) r.own
theorem RepL.ints : ∀ {ns : List Int} {vs : List V}, RepL K Z vs (ns.map .int) → vs = ns.map V.int
  | [], _, .nil => rfl
  | _ :: _, _, .cons (.int _) r => by rw [r.ints]; rfl
theorem RepL.ofInts : ∀ {ns : List Int}, RepL K Z (ns.map V.int) (ns.map .int)
  | [] => .nil
  | n :: r => .cons (.int n) (RepL.ofInts (ns := r))
end

mutual
def O.frz : O → D
  | .fz d => d
  | .vw ds => .lst ds
  | .vwa _ ds => .lst ds
  | .lk o => o.frz
  | .lst os => .lst (O.frzL os)
  | .tup os => .tup (O.frzL os)
  | .ins C ns os => .ins C ns (O.frzL os)
  | .at _ C ns os => .ins C ns (O.frzL os)
  | .loc _ o => o.frz
  | .pt a => .opq a
  | .rs _ => .non
  | .dct ks os => .dct ks (O.frzL os)
  | .dctT ks os => .dctT ks (O.frzL os)
def O.frzL : List O → List D
  | [] => []
  | o :: r => o.frz :: O.frzL r
end
mutual
def O.nv : O → Bool
  | .fz _ => true
  | .vw _ => false
  | .vwa _ _ => false
  | .lk _ => false
  | .lst os => O.nvL os
  | .tup os => O.nvL os
  | .ins _ _ os => O.nvL os
  | .at _ _ _ os => O.nvL os
  | .loc _ o => o.nv
  | .pt _ => true
  | .rs _ => false
  | .dct _ os => O.nvL os
  | .dctT _ os => O.nvL os
def O.nvL : List O → Bool
  | [] => true
  | o :: r => o.nv && O.nvL r
end
theorem O.frzL_fz : ∀ ds : List D, O.frzL (ds.map .fz) = ds
  | [] => rfl
  | d :: r => by
    show O.frz (.fz d) :: O.frzL (r.map .fz) = d :: r
    rw [O.frzL_fz r]
    rfl
theorem O.nvL_fz : ∀ ds : List D, O.nvL (ds.map .fz) = true
  | [] => rfl
  | d :: r => by
    show (O.nv (.fz d) && O.nvL (r.map .fz)) = true
    rw [O.nvL_fz r]
    rfl
section
variable {K : PySem.W.Frag} {Z Z' F H : Hp}
mutual
theorem RepO.frz (e : Ex Z Z') : ∀ {v : V} {o : O} {A : List Addr}, RepO K Z F H v o A → (∀ a ∈ A, Z' a = H a) → o.nv = true → Rep K Z' v o.frz
  | _, _, _, .fz h, _, _ => h.mono e
  | _, _, _, .vw _ _, _, n => nomatch n
  | _, _, _, .vwa _ _, _, n => nomatch n
  | _, _, _, .lk _, _, n => nomatch n
  | _, _, _, .lst h r, k, n => .lst (SqL.of ((k _ List.mem_cons_self).trans h)) (RepOL.frz e r (fun a m => k a (List.mem_cons_of_mem _ m)) n)
  | _, _, _, .tup h r, k, n => .tup ((k _ List.mem_cons_self).trans h) (RepOL.frz e r (fun a m => k a (List.mem_cons_of_mem _ m)) n)
  | _, _, _, .ins h r, k, n => .ins ((k _ List.mem_cons_self).trans h) (RepOL.frz e r (fun a m => k a (List.mem_cons_of_mem _ m)) n)
  | _, .loc _ o, _, .loc h, k, n => by
    have h : RepO K Z F H _ o _ := h
    exact (show Rep K Z' _ o.frz from RepO.frz (o := o) e h k n)
  | _, _, _, .pt, _, _ => .opq _
  | _, _, _, .at h r, k, n => .ins ((k _ List.mem_cons_self).trans h) (RepOL.frz e r (fun a m => k a (List.mem_cons_of_mem _ m)) n)
  | _, _, _, .dct h r, k, n => .dct ((k _ List.mem_cons_self).trans h) (RepOL.frz e r (fun a m => k a (List.mem_cons_of_mem _ m)) n)
  | _, _, _, .dctT h r, k, n => .dctT ((k _ List.mem_cons_self).trans h) (RepOL.frz e r (fun a m => k a (List.mem_cons_of_mem _ m)) n)
theorem RepOL.frz (e : Ex Z Z') : ∀ {vs : List V} {os : List O} {A : List Addr}, RepOL K Z F H vs os A → (∀ a ∈ A, Z' a = H a) → O.nvL os = true → RepL K Z' vs (O.frzL os)
  | _, _, _, .nil, _, _ => .nil
  | _, _, _, .cons h r, k, n => .cons (RepO.frz e h (fun a m => k a (List.mem_append_left _ m)) (Bool.and_eq_true_iff.mp n).1) (RepOL.frz e r (fun a m => k a (List.mem_append_right _ m)) (Bool.and_eq_true_iff.mp n).2)
end
end
/-- Z and the cells at A -/
def frzAt (Z H : Hp) (A : List Addr) : Hp := fun a => if a ∈ A then H a else Z a
theorem frzAt_in {Z H : Hp} {A : List Addr} {a : Addr} (h : a ∈ A) : frzAt Z H A a = H a := if_pos h
theorem frzAt_out {Z H : Hp} {A : List Addr} {a : Addr} (h : a ∉ A) : frzAt Z H A a = Z a := if_neg h
theorem ex_frzAt {Z H : Hp} {A : List Addr} (e : Ex Z H) : Ex Z (frzAt Z H A) := fun a u h => by
  by_cases m : a ∈ A
  · rw [frzAt_in m]
    exact e a u h
  · rw [frzAt_out m]
    exact h
theorem frzAt_ex {Z H : Hp} {A : List Addr} (e : Ex Z H) : Ex (frzAt Z H A) H := fun a u h => by
  by_cases m : a ∈ A
  · rw [frzAt_in m] at h
    exact h
  · rw [frzAt_out m] at h
    exact e a u h

/-- the heap grows: frozen part Z, all H -/
structure Gr (Z H Z' H' : Hp) : Prop where
  zz : Ex Z Z'
  hh : Ex H H'
  zh : Ex Z' H'
  nw : ∀ a o, H a = some o → Z' a = Z a
theorem Gr.trans {Z H Z1 H1 Z2 H2 : Hp} (a : Gr Z H Z1 H1) (b : Gr Z1 H1 Z2 H2) : Gr Z H Z2 H2 :=
  ⟨a.zz.trans b.zz, a.hh.trans b.hh, b.zh, fun x o h => (b.nw x o (a.hh x o h)).trans (a.nw x o h)⟩
theorem Gr.refl {Z H : Hp} (h : Ex Z H) : Gr Z H Z H := ⟨Ex.refl _, Ex.refl _, h, fun _ _ _ => rfl⟩
/-- a new object that is not frozen -/
theorem Gr.new {Z H : Hp} {p : Addr} {o : HO} (h : Ex Z H) (hp : H p = none) : Gr Z H Z (upd H p o) := ⟨Ex.refl _, Ex.new hp, h.trans (Ex.new hp), fun _ _ _ => rfl⟩
/-- .. frozen at once -/
theorem Gr.newz {Z H : Hp} {p : Addr} {o : HO} (h : Ex Z H) (hp : H p = none) : Gr Z H (upd Z p o) (upd H p o) :=
  ⟨Ex.new (h.free hp), Ex.new hp, fun a u e => by
    by_cases ha : a = p
    · subst ha
      rw [upd_same] at e ⊢
      exact e
    · rw [upd_ne ha] at e ⊢
      exact h a u e, fun a u e => upd_ne (ne_of_none e hp)⟩

abbrev Slots := List (Option O)
inductive StL (K : PySem.W.Frag) (Z F H : Hp) : Slots → L2.St → List Addr → Prop where
  | nil : StL K Z F H [] [] []
  | no {s : Option V} {ρ : Slots} {σ : L2.St} {A : List Addr} : StL K Z F H ρ σ A → StL K Z F H (none :: ρ) (s :: σ) A
  | so {v : V} {o : O} {ρ : Slots} {σ : L2.St} {A B : List Addr} : RepO K Z F H v o A → StL K Z F H ρ σ B → StL K Z F H (some o :: ρ) (some v :: σ) (A ++ B)
structure StR (K : PySem.W.Frag) (ρ : Slots) (Z0 F Z : Hp) (σ : L2.St) (H : Hp) : Prop where
  gr : Gr Z0 F Z H
  st : ∃ A, StL K Z F H ρ σ A ∧ A.Nodup ∧ ∀ a ∈ A, Z a = none ∧ F a = none
section
variable {K : PySem.W.Frag} {Z0 Z Z' F H H' : Hp} {ρ : Slots} {σ : L2.St}
theorem StL.mono (e : Ex Z Z') : ∀ {ρ : Slots} {σ : L2.St} {A : List Addr}, StL K Z F H ρ σ A → (∀ a ∈ A, ∀ u, H a = some u → H' a = some u) → StL K Z' F H' ρ σ A
  | _, _, _, .nil, _ => .nil
  | _, _, _, .no h, k => .no (h.mono e k)
  | _, _, _, .so r h, k => .so (r.mono e (Ex.refl _) fun a m => k a (List.mem_append_left _ m)) (h.mono e fun a m => k a (List.mem_append_right _ m))
theorem StL.there : ∀ {ρ : Slots} {σ : L2.St} {A : List Addr}, StL K Z F H ρ σ A → ∀ a ∈ A, ∃ u, H a = some u
  | _, _, _, .nil, _, m => nomatch m
  | _, _, _, .no h, a, m => h.there a m
  | _, _, _, .so r h, a, m => (List.mem_append.mp m).elim (fun m => r.there a m) fun m => h.there a m
theorem StL.length : ∀ {ρ : Slots} {σ : L2.St} {A : List Addr}, StL K Z F H ρ σ A → σ.length = ρ.length
  | _, _, _, .nil => rfl
  | _, _, _, .no h => congrArg (· + 1) h.length
  | _, _, _, .so _ h => congrArg (· + 1) h.length
theorem StL.get : ∀ {ρ : Slots} {σ : L2.St} {A : List Addr} {i : Nat} {o : O}, StL K Z F H ρ σ A → ρ[i]? = some (some o) → ∃ v B, σ[i]? = some (some v) ∧ RepO K Z F H v o B ∧ ∀ a ∈ B, a ∈ A
  | _, _, _, _, _, .nil, e => by simp at e
  | _, _, _, 0, _, .no h, e => by simp at e
  | _, _, _, i + 1, _, .no h, e => by
    obtain ⟨v, B, h1, h2, h3⟩ := h.get (i := i) (by simpa using e)
    exact ⟨v, B, by simpa using h1, h2, h3⟩
  | _, _, _, 0, _, .so r h, e => by
    simp at e
    subst e
    exact ⟨_, _, rfl, r, fun a m => List.mem_append_left _ m⟩
  | _, _, _, i + 1, _, .so r h, e => by
    obtain ⟨v, B, h1, h2, h3⟩ := h.get (i := i) (by simpa using e)
    exact ⟨v, B, by simpa using h1, h2, fun a m => List.mem_append_right _ (h3 a m)⟩
/-- a slot is stored anew -/
theorem StL.put {v : V} {o : O} {B : List Addr} (r : RepO K Z F H v o B) : ∀ {ρ : Slots} {σ : L2.St} {A : List Addr} {i : Nat}, StL K Z F H ρ σ A → i < ρ.length → A.Nodup → B.Nodup → (∀ a ∈ B, a ∉ A) →
    ∃ A', StL K Z F H (ρ.set i (some o)) (σ.set i (some v)) A' ∧ A'.Nodup ∧ ∀ a ∈ A', a ∈ A ∨ a ∈ B
  | _, _, _, _, .nil, hi, _, _, _ => by simp at hi
  | _, _, _, 0, .no h, _, nA, nB, d => ⟨_, .so r h, by
      refine List.nodup_append.mpr ⟨nB, nA, fun a ha b hb e => ?_⟩
      subst e
      exact d a ha hb, fun a m => (List.mem_append.mp m).symm⟩
  | _, _, _, i + 1, .no h, hi, nA, nB, d => by
    obtain ⟨A', h1, h2, h3⟩ := StL.put r (i := i) h (by simpa using hi) nA nB d
    exact ⟨A', .no h1, h2, h3⟩
  | _, _, _, 0, .so (A := A1) (B := A2) _ h, _, nA, nB, d => ⟨_, .so r h, by
      refine List.nodup_append.mpr ⟨nB, (List.nodup_append.mp nA).2.1, fun a ha b hb e => ?_⟩
      subst e
      exact d a ha (List.mem_append_right _ hb), fun a m => (List.mem_append.mp m).elim .inr fun m => .inl (List.mem_append_right _ m)⟩
  | _, _, _, i + 1, .so (A := A1) (B := A2) q h, hi, nA, nB, d => by
    obtain ⟨n1, n2, n3⟩ := List.nodup_append.mp nA
    obtain ⟨A', h1, h2, h3⟩ := StL.put r (i := i) h (by simpa using hi) n2 nB fun a ha hb => d a ha (List.mem_append_right _ hb)
    refine ⟨_, .so q h1, List.nodup_append.mpr ⟨n1, h2, fun a ha b hb e => ?_⟩, fun a m => ?_⟩
    · subst e
      rcases h3 a hb with z | z
      · exact n3 a ha a z rfl
      · exact d a z (List.mem_append_left _ ha)
    · rcases List.mem_append.mp m with m | m
      · exact .inl (List.mem_append_left _ m)
      · exact (h3 a m).imp (List.mem_append_right _) id
/-- a slot's own thing is changed in place -/
theorem StL.at : ∀ {ρ : Slots} {σ : L2.St} {A : List Addr} {i : Nat} {o : O}, StL K Z F H ρ σ A → ρ[i]? = some (some o) → A.Nodup →
    ∃ v B, σ[i]? = some (some v) ∧ RepO K Z F H v o B ∧ B.Nodup ∧ (∀ a ∈ B, a ∈ A) ∧ ∀ {Z' H' : Hp} {v' : V} {o' : O} {B' : List Addr}, Ex Z Z' → (∀ a ∈ A, a ∉ B → ∀ u, H a = some u → H' a = some u) → RepO K Z' F H' v' o' B' → B'.Nodup → (∀ a ∈ B', a ∈ A → a ∈ B) →
      ∃ A', StL K Z' F H' (ρ.set i (some o')) (σ.set i (some v')) A' ∧ A'.Nodup ∧ ∀ a ∈ A', (a ∈ A ∧ a ∉ B) ∨ a ∈ B'
  | _, _, _, _, _, .nil, e, _ => by simp at e
  | _, _, _, 0, _, .no h, e, _ => by simp at e
  | _, _, _, i + 1, _, .no h, e, nA => by
    obtain ⟨v, B, h1, h2, h3, h4, h5⟩ := StL.at (i := i) h (by simpa using e) nA
    refine ⟨v, B, by simpa using h1, h2, h3, h4, fun ez k r n d => ?_⟩
    obtain ⟨A', q1, q2, q3⟩ := h5 ez k r n d
    exact ⟨A', .no q1, q2, q3⟩
  | _, _, _, 0, _, .so (A := A1) (B := A2) q h, e, nA => by
    simp at e
    subst e
    obtain ⟨n1, n2, n3⟩ := List.nodup_append.mp nA
    refine ⟨_, A1, rfl, q, n1, fun a m => List.mem_append_left _ m, fun ez k r n d => ?_⟩
    refine ⟨_, .so r (h.mono ez fun a m => k a (List.mem_append_right _ m) fun z => n3 a z a m rfl), List.nodup_append.mpr ⟨n, n2, fun a ha b hb e => ?_⟩, fun a m => ?_⟩
    · subst e
      exact n3 a (d a ha (List.mem_append_right _ hb)) a hb rfl
    · rcases List.mem_append.mp m with m | m
      · exact .inr m
      · exact .inl ⟨List.mem_append_right _ m, fun z => n3 a z a m rfl⟩
  | _, _, _, i + 1, _, .so (A := A1) (B := A2) q h, e, nA => by
    obtain ⟨n1, n2, n3⟩ := List.nodup_append.mp nA
    obtain ⟨v, B, h1, h2, h3, h4, h5⟩ := StL.at (i := i) h (by simpa using e) n2
    refine ⟨v, B, by simpa using h1, h2, h3, fun a m => List.mem_append_right _ (h4 a m), fun ez k r n d => ?_⟩
    obtain ⟨A', q1, q2, q3⟩ := h5 ez (fun a m nb => k a (List.mem_append_right _ m) nb) r n fun a m z => d a m (List.mem_append_right _ z)
    refine ⟨_, .so (q.mono ez (Ex.refl _) fun a m => k a (List.mem_append_left _ m) fun z => n3 a m a (h4 a z) rfl) q1, List.nodup_append.mpr ⟨n1, q2, fun a ha b hb e => ?_⟩, fun a m => ?_⟩
    · subst e
      rcases q3 a hb with z | z
      · exact n3 a ha a z.1 rfl
      · exact n3 a ha a (h4 a (d a z (List.mem_append_left _ ha))) rfl
    · rcases List.mem_append.mp m with m | m
      · exact .inl ⟨List.mem_append_left _ m, fun z => n3 a m a (h4 a z) rfl⟩
      · exact (q3 a m).imp (fun z => ⟨List.mem_append_right _ z.1, z.2⟩) id

theorem StR.ex (s : StR K ρ Z0 F Z σ H) : Ex Z H := s.gr.zh
theorem StR.grow (s : StR K ρ Z0 F Z σ H) (g : Gr Z H Z' H') : StR K ρ Z0 F Z' σ H' := by
  obtain ⟨A, h1, h2, h3⟩ := s.st
  refine ⟨s.gr.trans g, A, h1.mono g.zz fun a _ u e => g.hh a u e, h2, fun a m => ⟨?_, (h3 a m).2⟩⟩
  obtain ⟨u, e⟩ := h1.there a m
  rw [g.nw a u e]
  exact (h3 a m).1
theorem StR.len (s : StR K ρ Z0 F Z σ H) : σ.length = ρ.length := let ⟨_, h, _⟩ := s.st; h.length
/-- what is new: not there ahead, not frozen -/
def New (H Z' : Hp) (A : List Addr) : Prop := A.Nodup ∧ ∀ a ∈ A, H a = none ∧ Z' a = none
theorem New.nil {H Z' : Hp} : New H Z' [] := ⟨List.nodup_nil, fun _ m => nomatch m⟩
theorem StR.put {v : V} {o : O} {B : List Addr} {i : Nat} (s : StR K ρ Z0 F Z σ H) (g : Gr Z H Z' H') (r : RepO K Z' F H' v o B) (n : New H Z' B) (hi : i < ρ.length) : StR K (ρ.set i (some o)) Z0 F Z' (σ.set i (some v)) H' := by
  have s' := s.grow g
  obtain ⟨A, h1, h2, h3⟩ := s.st
  have m1 : StL K Z' F H' ρ σ A := h1.mono g.zz fun a _ u e => g.hh a u e
  obtain ⟨A', q1, q2, q3⟩ := StL.put r m1 hi h2 n.1 fun a ha hb => by
    obtain ⟨u, e⟩ := h1.there a hb
    rw [(n.2 a ha).1] at e
    cases e
  refine ⟨s'.gr, A', q1, q2, fun a m => ?_⟩
  rcases q3 a m with z | z
  · obtain ⟨u, e⟩ := h1.there a z
    exact ⟨(g.nw a u e).trans (h3 a z).1, (h3 a z).2⟩
  · exact ⟨(n.2 a z).2, s.gr.hh.free (n.2 a z).1⟩
/-- a slot's own thing is frozen -/
theorem StR.freeze {i : Nat} {o : O} (s : StR K ρ Z0 F Z σ H) (hi : ρ[i]? = some (some o)) (hn : o.nv = true) : ∃ Z', Gr Z0 F Z' H ∧ Ex Z Z' ∧ StR K (ρ.set i (some (.fz o.frz))) Z0 F Z' σ H := by
  obtain ⟨A, h1, h2, h3⟩ := s.st
  obtain ⟨v, B, q1, q2, q3, q4, q5⟩ := h1.at hi h2
  have hr : Rep K (frzAt Z H B) v o.frz := q2.frz (ex_frzAt s.ex) (fun a m => frzAt_in m) hn
  have g : Gr Z0 F (frzAt Z H B) H := ⟨s.gr.zz.trans (ex_frzAt s.ex), s.gr.hh, frzAt_ex s.ex, fun a u e => by
    have nb : a ∉ B := fun m => by
      rw [(h3 a (q4 a m)).2] at e
      cases e
    rw [frzAt_out nb]
    exact s.gr.nw a u e⟩
  obtain ⟨A', r1, r2, r3⟩ := q5 (Z' := frzAt Z H B) (H' := H) (v' := v) (o' := .fz o.frz) (B' := []) (ex_frzAt s.ex) (fun _ _ _ _ e => e) (.fz hr) List.nodup_nil fun _ m => nomatch m
  have eσ : σ.set i (some v) = σ := by
    apply List.ext_getElem?
    intro j
    by_cases hj : i = j
    · subst hj
      rw [List.getElem?_set_self (List.getElem?_eq_some_iff.mp q1).1, q1]
    · rw [List.getElem?_set_ne hj]
  rw [eσ] at r1
  refine ⟨frzAt Z H B, g, ex_frzAt s.ex, g, A', r1, r2, fun a m => ?_⟩
  rcases r3 a m with z | z
  · rw [frzAt_out z.2]
    exact h3 a z.1
  · exact nomatch z
theorem set_same {σ : L2.St} {i : Nat} {v : V} (q : σ[i]? = some (some v)) : σ.set i (some v) = σ := by
  apply List.ext_getElem?
  intro j
  by_cases hj : i = j
  · subst hj
    rw [List.getElem?_set_self (List.getElem?_eq_some_iff.mp q).1, q]
  · rw [List.getElem?_set_ne hj]
/-- a slot's own thing changes -/
theorem StR.upd {i : Nat} {o : O} (s : StR K ρ Z0 F Z σ H) (hi : ρ[i]? = some (some o)) : ∃ v A, σ[i]? = some (some v) ∧ RepO K Z F H v o A ∧ A.Nodup ∧ (∀ a ∈ A, Z a = none ∧ F a = none) ∧
    ∀ {Z' H' : Hp} {o' : O} {A' : List Addr}, Ex Z Z' → (∀ a u, H a = some u → Z' a = Z a) → Ex Z' H' → (∀ a, a ∉ A → ∀ u, H a = some u → H' a = some u) → RepO K Z' F H' v o' A' → A'.Nodup → (∀ a ∈ A', a ∈ A ∨ (H a = none ∧ Z' a = none)) →
      StR K (ρ.set i (some o')) Z0 F Z' σ H' := by
  obtain ⟨A, h1, h2, h3⟩ := s.st
  obtain ⟨v, B, q1, q2, q3, q4, q5⟩ := h1.at hi h2
  refine ⟨v, B, q1, q2, q3, fun a m => h3 a (q4 a m), fun {Z' H' o' A'} ez nz zh k r n d => ?_⟩
  obtain ⟨A2, r1, r2, r3⟩ := q5 (v' := v) ez (fun a _ nb u e => k a nb u e) r n fun a m ma => by
    rcases d a m with z | z
    · exact z
    · obtain ⟨u, e⟩ := h1.there a ma
      rw [z.1] at e
      cases e
  rw [set_same q1] at r1
  have hF : ∀ a u, F a = some u → a ∉ B := fun a u e m => by
    rw [(h3 a (q4 a m)).2] at e
    cases e
  refine ⟨⟨s.gr.zz.trans ez, fun a u e => k a (hF a u e) u (s.gr.hh a u e), zh, fun a u e => (nz a u (s.gr.hh a u e)).trans (s.gr.nw a u e)⟩, A2, r1, r2, fun a m => ?_⟩
  have old : ∀ a ∈ A, Z' a = none ∧ F a = none := fun a m => by
    obtain ⟨u, e⟩ := h1.there a m
    exact ⟨(nz a u e).trans (h3 a m).1, (h3 a m).2⟩
  rcases r3 a m with z | z
  · exact old a z.1
  · rcases d a z with y | y
    · exact old a (q4 a y)
    · exact ⟨y.2, s.gr.hh.free y.1⟩
/-- slots are forgotten -/
inductive Le : Slots → Slots → Prop where
  | nil : Le [] []
  | no {x : Option O} {ρ τ : Slots} : Le ρ τ → Le (x :: ρ) (none :: τ)
  | eq {x : Option O} {ρ τ : Slots} : Le ρ τ → Le (x :: ρ) (x :: τ)
theorem Le.refl : ∀ ρ : Slots, Le ρ ρ
  | [] => .nil
  | _ :: r => .eq (Le.refl r)
theorem StL.le : ∀ {ρ τ : Slots} {σ : L2.St} {A : List Addr}, Le ρ τ → StL K Z F H ρ σ A → A.Nodup → ∃ A', StL K Z F H τ σ A' ∧ A'.Nodup ∧ ∀ a ∈ A', a ∈ A
  | _, _, _, _, .nil, .nil, n => ⟨_, .nil, n, fun _ m => m⟩
  | _, _, _, _, .no l, .no h, n => by
    obtain ⟨A', q1, q2, q3⟩ := StL.le l h n
    exact ⟨A', .no q1, q2, q3⟩
  | _, _, _, _, .no l, .so _ h, n => by
    obtain ⟨A', q1, q2, q3⟩ := StL.le l h (List.nodup_append.mp n).2.1
    exact ⟨A', .no q1, q2, fun a m => List.mem_append_right _ (q3 a m)⟩
  | _, _, _, _, .eq l, .no h, n => by
    obtain ⟨A', q1, q2, q3⟩ := StL.le l h n
    exact ⟨A', .no q1, q2, q3⟩
  | _, _, _, _, .eq l, .so r h, n => by
    obtain ⟨n1, n2, n3⟩ := List.nodup_append.mp n
    obtain ⟨A', q1, q2, q3⟩ := StL.le l h n2
    refine ⟨_, .so r q1, List.nodup_append.mpr ⟨n1, q2, fun a ha b hb => n3 a ha b (q3 b hb)⟩, fun a m => ?_⟩
    rcases List.mem_append.mp m with m | m
    · exact List.mem_append_left _ m
    · exact List.mem_append_right _ (q3 a m)
theorem StR.le {τ : Slots} (s : StR K ρ Z0 F Z σ H) (l : Le ρ τ) : StR K τ Z0 F Z σ H := by
  obtain ⟨A, h1, h2, h3⟩ := s.st
  obtain ⟨A', q1, q2, q3⟩ := h1.le l h2
  exact ⟨s.gr, A', q1, q2, fun a m => h3 a (q3 a m)⟩
end
end M
namespace M
open PySem L2

def wE (X : Cx) (e : Expr) : TE := fun σ H Q => ∀ (pins : List (Addr × Obj)) (s : Shared), Inv X pins σ H s → wpAny (model X.prog X.w) X.A (eval e X.env) (EP X pins σ Q) X.xe s
def wT (X : Cx) (e : Expr) : TT := fun σ H Q => ∀ (pins : List (Addr × Obj)) (s : Shared), Inv X pins σ H s → wpAny (model X.prog X.w) X.A (isTrue e X.env (eval e X.env)) (TP X pins σ Q) X.xe s
def wA (X : Cx) (es : List Expr) : TA := fun σ H Q => ∀ (pos : Pos) (pins : List (Addr × Obj)) (s : Shared), Inv X pins σ H s → wpAny (model X.prog X.w) X.A (spliced (backTo pos (starEach es X.env))) (AP X pins σ Q) X.xe s
def wS1 (X : Cx) (st : Stmt) : TS := fun D σ H => ∀ (pins : List (Addr × Obj)) (s : Shared), Inv X pins σ H s → wpAny (model X.prog X.w) X.A (exec st X.env) (SP X pins D) X.xe s
def wS (X : Cx) (st : List Stmt) : TS := fun D σ H => ∀ (pins : List (Addr × Obj)) (s : Shared), Inv X pins σ H s → wpAny (model X.prog X.w) X.A (execs st X.env) (SP X pins D) X.xe s
section
variable {X : Cx} {e : Expr} {es : List Expr} {st : Stmt} {sts : List Stmt}
theorem pe_w : PE X e (wE X e) := ⟨fun pins s _ _ _ I h => h pins s I⟩
theorem pt_w : PT X e (wT X e) := ⟨fun pins s _ _ _ I h => h pins s I⟩
theorem pa_w : PA X es (wA X es) := ⟨fun pos pins s _ _ _ I h => h pos pins s I⟩
theorem ps_w : PS X st (wS1 X st) := ⟨fun pins s _ _ _ I h => h pins s I⟩
theorem pss_w : PSs X sts (wS X sts) := ⟨fun pins s _ _ _ I h => h pins s I⟩
theorem PE_w {t : TE} (p : PE X e t) {σ : L2.St} {H : Hp} {Q : VK} (h : t σ H Q) : wE X e σ H Q := fun pins s I => p.run pins s σ H Q I h
theorem PT_w {t : TT} (p : PT X e t) {σ : L2.St} {H : Hp} {Q : Bool → Hp → Prop} (h : t σ H Q) : wT X e σ H Q := fun pins s I => p.run pins s σ H Q I h
theorem PA_w {t : TA} (p : PA X es t) {σ : L2.St} {H : Hp} {Q : List V → Hp → Prop} (h : t σ H Q) : wA X es σ H Q := fun pos pins s I => p.run pos pins s σ H Q I h
theorem PS_w {t : TS} (p : PS X st t) {σ : L2.St} {H : Hp} {D : Ends} (h : t D σ H) : wS1 X st D σ H := fun pins s I => p.run pins s σ H D I h
theorem PSs_w {t : TS} (p : PSs X sts t) {σ : L2.St} {H : Hp} {D : Ends} (h : t D σ H) : wS X sts D σ H := fun pins s I => p.run pins s σ H D I h
end

/-- a new thing (or a frozen one) -/
structure ME (X : Cx) (ρ : Slots) (e : Expr) (o : O) : Prop where
  run : ∀ (Z0 F Z : Hp) (σ : L2.St) (H : Hp), StR X.K ρ Z0 F Z σ H → ∀ Q : VK,
  (∀ v Z' H' A, Gr Z H Z' H' → RepO X.K Z' F H' v o A → New H Z' A → Q v H') → wE X e σ H Q
/-- a thing that is looked at -/
structure MV (X : Cx) (ρ : Slots) (e : Expr) (o : O) : Prop where
  run : ∀ (Z0 F Z : Hp) (σ : L2.St) (H : Hp), StR X.K ρ Z0 F Z σ H → ∀ Q : VK,
  (∀ v Z' H' A, Gr Z H Z' H' → RepO X.K Z' F H' v o A → Q v H') → wE X e σ H Q
/-- a list that is looked at -/
structure ML (X : Cx) (ρ : Slots) (e : Expr) (ds : List D) : Prop where
  run : ∀ (Z0 F Z : Hp) (σ : L2.St) (H : Hp), StR X.K ρ Z0 F Z σ H → ∀ Q : VK,
  (∀ a vs Z' H', Gr Z H Z' H' → SqL X.K H' a vs → RepL X.K Z' vs ds → Q (.ref a) H') → wE X e σ H Q
/-- a tuple that is looked at -/
structure MU (X : Cx) (ρ : Slots) (e : Expr) (ds : List D) : Prop where
  run : ∀ (Z0 F Z : Hp) (σ : L2.St) (H : Hp), StR X.K ρ Z0 F Z σ H → ∀ Q : VK,
  (∀ a vs Z' H', Gr Z H Z' H' → SqT X.K H' a vs → RepL X.K Z' vs ds → Q (.ref a) H') → wE X e σ H Q
structure MT (X : Cx) (ρ : Slots) (e : Expr) (b : Bool) : Prop where
  run : ∀ (Z0 F Z : Hp) (σ : L2.St) (H : Hp), StR X.K ρ Z0 F Z σ H → ∀ Q : Bool → Hp → Prop,
  (∀ Z' H', Gr Z H Z' H' → Q b H') → wT X e σ H Q
/-- arguments: frozen things, lists that are looked at -/
structure MA (X : Cx) (ρ : Slots) (es : List Expr) (os : List O) : Prop where
  run : ∀ (Z0 F Z : Hp) (σ : L2.St) (H : Hp), StR X.K ρ Z0 F Z σ H → ∀ Q : List V → Hp → Prop,
  (∀ vs Z' H', Gr Z H Z' H' → RepOL X.K Z' H' H' vs os [] → Q vs H') → wA X es σ H Q
/-- what is handed back: own slots may go with it -/
structure MR (X : Cx) (ρ : Slots) (e : Expr) (o : O) : Prop where
  run : ∀ (Z0 F Z : Hp) (σ : L2.St) (H : Hp), StR X.K ρ Z0 F Z σ H → ∀ Q : VK,
  (∀ v Z' H' A, Gr Z H Z' H' → RepO X.K Z' F H' v o A → A.Nodup → (∀ a ∈ A, Z' a = none ∧ F a = none) → Q v H') → wE X e σ H Q

structure Go where
  nx : Slots → Prop := fun _ => False
  rt : O → Prop := fun _ => False
  bk : Slots → Prop := fun _ => False
  ct : Slots → Prop := fun _ => False
  rs : O → Slots → Prop := fun _ _ => False
/-- the error e is taken -/
def Thrown (K : PySem.W.Frag) (W : WX) (e : Er) (Z : Hp) (σ : L2.St) (H : Hp) : Prop := match e.fld with
  | none => W (.ref e.C) none σ H
  | some (f, d) => ∀ (a : Addr) (v : V), H a = none → Rep K Z v d → W (.ref e.C) (some a) σ (upd H a (.xd [(f, v)]))
/-- the errors r are taken -/
def GX (X : Cx) (Z0 F : Hp) (r : O → Prop) : Prop := ∃ W : WX, Takes X W ∧ ∀ (e : Er) (ρ : Slots) (Z : Hp) (σ : L2.St) (H : Hp), r (.rs e) → StR X.K ρ Z0 F Z σ H → Thrown X.K W e Z σ H
theorem GX.never {X : Cx} {Z0 F : Hp} {r : O → Prop} (n : ∀ e, ¬ r (.rs e)) : GX X Z0 F r := ⟨fun _ _ _ _ => False, fun _ _ ⟨_, _, _, _, _, _, _, _, _, _, _, _, _, _, _, _, w⟩ => w.elim, fun e _ _ _ _ k _ => (n e k).elim⟩
theorem GX.imp {X : Cx} {Z0 F : Hp} {r r' : O → Prop} (g : GX X Z0 F r) (h : ∀ o, r' o → r o) : GX X Z0 F r' := by
  obtain ⟨W, t, k⟩ := g
  exact ⟨W, t, fun e ρ Z σ H q s => k e ρ Z σ H (h _ q) s⟩
structure GD (X : Cx) (Z0 F : Hp) (G : Go) (D : Ends) : Prop where
  nx : ∀ ρ Z σ H, G.nx ρ → StR X.K ρ Z0 F Z σ H → D.nx σ H
  bk : ∀ ρ Z σ H, G.bk ρ → StR X.K ρ Z0 F Z σ H → D.bk σ H
  ct : ∀ ρ Z σ H, G.ct ρ → StR X.K ρ Z0 F Z σ H → D.ct σ H
  rt : ∀ o v Z H A, G.rt o → Gr Z0 F Z H → RepO X.K Z F H v o A → New F Z A → D.rt v H
  rs : ∀ o ρ v Z σ H, G.rs o ρ → StR X.K (ρ ++ [some o]) Z0 F Z (σ ++ [some v]) H → D.rt v H
  ex : GX X Z0 F G.rt
structure MS1 (X : Cx) (ρ : Slots) (st : Stmt) (G : Go) : Prop where
  run : ∀ (Z0 F Z : Hp) (σ : L2.St) (H : Hp) (D : Ends), StR X.K ρ Z0 F Z σ H → GD X Z0 F G D → wS1 X st D σ H
structure MS (X : Cx) (ρ : Slots) (sts : List Stmt) (G : Go) : Prop where
  run : ∀ (Z0 F Z : Hp) (σ : L2.St) (H : Hp) (D : Ends), StR X.K ρ Z0 F Z σ H → GD X Z0 F G D → wS X sts D σ H
/-- then the rest -/
def Go.th (G : Go) (X : Cx) (sts : List Stmt) : Go := { G with nx := fun ρ => MS X ρ sts G }

section
variable {X : Cx} {ρ : Slots} {e : Expr} {es : List Expr} {st : Stmt} {sts : List Stmt} {G : Go} {o : O} {d : D} {ds : List D} {pos : Pos}
theorem ms_nil (h : G.nx ρ) : MS X ρ [] G := .mk fun Z0 F Z σ H D s g => PSs_w pss_nil (g.nx ρ Z σ H h s)
theorem ms_cons (h : MS1 X ρ st (G.th X sts)) : MS X ρ (st :: sts) G := .mk fun Z0 F Z σ H D s g =>
  PSs_w (pss_cons ps_w pss_w) (h.run Z0 F Z σ H _ s ⟨fun ρ' Z' σ' H' m s' => m.run Z0 F Z' σ' H' D s' g, g.bk, g.ct, g.rt, g.rs, g.ex⟩)
theorem ms_one (h : MS1 X ρ st G) : MS X ρ [st] G := .mk fun Z0 F Z σ H D s g => PSs_w (pss_one ps_w) (h.run Z0 F Z σ H _ s g)

theorem ME.v (h : ME X ρ e o) : MV X ρ e o := .mk fun Z0 F Z σ H s Q q => h.run Z0 F Z σ H s Q fun v Z' H' A g r _ => q v Z' H' A g r
theorem MV.em (h : MV X ρ e (.fz d)) : ME X ρ e (.fz d) := .mk fun Z0 F Z σ H s Q q => h.run Z0 F Z σ H s Q fun v Z' H' A g r => by
  cases r with
  | fz r => exact q v Z' H' [] g (.fz r) .nil
theorem ME.r (h : ME X ρ e o) : MR X ρ e o := .mk fun Z0 F Z σ H s Q q => h.run Z0 F Z σ H s Q fun v Z' H' A g r n => q v Z' H' A g r n.1 fun a m => ⟨(n.2 a m).2, s.gr.hh.free (n.2 a m).1⟩
/-- the lists that can be looked at -/
inductive IsLst : O → List D → Prop where
  | fz (ds : List D) : IsLst (.fz (.lst ds)) ds
  | vw (ds : List D) : IsLst (.vw ds) ds
  | vwa (a : Addr) (ds : List D) : IsLst (.vwa a ds) ds
  | own (ds : List D) : IsLst (.lst (ds.map .fz)) ds
inductive IsTp : O → List D → Prop where
  | fz (ds : List D) : IsTp (.fz (.tup ds)) ds
  | own (ds : List D) : IsTp (.tup (ds.map .fz)) ds
theorem MV.l (h : MV X ρ e o) (i : IsLst o ds) : ML X ρ e ds := .mk fun Z0 F Z σ H s Q q => h.run Z0 F Z σ H s Q fun v Z' H' A g r => by
  cases i with
  | fz ds =>
    cases r with
    | fz r =>
      cases r with
      | lst a b => exact q _ _ Z' H' g (ex_l g.zh a) b
  | vw ds =>
    cases r with
    | vw a b => exact q _ _ Z' H' g (ex_l (s.gr.hh.trans g.hh) a) b
  | vwa a ds =>
    cases r with
    | vwa a b => exact q _ _ Z' H' g (ex_l (s.gr.hh.trans g.hh) a) b
  | own ds =>
    cases r with
    | lst a b => exact q _ _ Z' H' g (.of a) (RepOL.fzs b).2
theorem MV.u (h : MV X ρ e o) (i : IsTp o ds) : MU X ρ e ds := .mk fun Z0 F Z σ H s Q q => h.run Z0 F Z σ H s Q fun v Z' H' A g r => by
  cases i with
  | fz ds =>
    cases r with
    | fz r =>
      cases r with
      | tup a b => exact q _ _ Z' H' g (.of (g.zh _ _ a)) b
  | own ds =>
    cases r with
    | tup a b => exact q _ _ Z' H' g (.of a) (RepOL.fzs b).2





/-- a new thing is frozen at once -/
theorem ME.frz (h : ME X ρ e o) (n : o.nv = true) : ME X ρ e (.fz o.frz) := .mk fun Z0 F Z σ H s Q q => h.run Z0 F Z σ H s Q fun v Z' H' A g r w => by
  refine q v (frzAt Z' H' A) H' [] ⟨g.zz.trans (ex_frzAt g.zh), g.hh, frzAt_ex g.zh, fun a u e => ?_⟩ (.fz (r.frz (ex_frzAt g.zh) (fun a m => frzAt_in m) n)) .nil
  have na : a ∉ A := fun m => by
    rw [(w.2 a m).1] at e
    cases e
  rw [frzAt_out na]
  exact g.nw a u e
theorem ME.frzl (h : ME X ρ e (.lst (ds.map .fz))) : ME X ρ e (.fz (.lst ds)) := by
  have q := h.frz (O.nvL_fz ds)
  rw [show (O.lst (ds.map .fz)).frz = .lst ds from congrArg D.lst (O.frzL_fz ds)] at q
  exact q
theorem ME.l (h : ME X ρ e (.lst (ds.map .fz))) : ML X ρ e ds := MV.l h.v (.own ds)

theorem mv_var {i : Nat} {x : Str} (p : PE X (.Name x pos) (tVar i)) (h : ρ[i]? = some (some o)) : MV X ρ (.Name x pos) o := .mk fun Z0 F Z σ H s Q q => by
  obtain ⟨A, h1, h2, h3⟩ := s.st
  obtain ⟨v, B, e, r, _⟩ := h1.get h
  exact PE_w p ⟨v, e, q v Z H B (Gr.refl s.ex) r⟩
theorem me_var {i : Nat} {x : Str} (p : PE X (.Name x pos) (tVar i)) (h : ρ[i]? = some (some (.fz d))) : ME X ρ (.Name x pos) (.fz d) := MV.em (mv_var p h)
theorem mr_var {i : Nat} {x : Str} (p : PE X (.Name x pos) (tVar i)) (h : ρ[i]? = some (some o)) : MR X ρ (.Name x pos) o := .mk fun Z0 F Z σ H s Q q => by
  obtain ⟨A, h1, h2, h3⟩ := s.st
  obtain ⟨v, B, e, r, n, m, _⟩ := h1.at h h2
  exact PE_w p ⟨v, e, q v Z H B (Gr.refl s.ex) r n fun a z => h3 a (m a z)⟩
/-- a value that is what it is -/
inductive Sc : D → V → Prop where
  | non : Sc .non .non
  | bl (b : Bool) : Sc (.bl b) (.bl b)
  | int (i : Int) : Sc (.int i) (.int i)
  | str (x : Str) : Sc (.str x) (.str x)
  | ty (n : String) : Sc (.ty n) (.ty n)
  | opq (a : Addr) : Sc (.opq a) (.ref a)
theorem Sc.rep {K : PySem.W.Frag} {Z : Hp} {v : V} (h : Sc d v) : Rep K Z v d := by
  cases h <;> constructor
theorem Sc.eq {K : PySem.W.Frag} {Z : Hp} {v w : V} (h : Sc d v) (r : Rep K Z w d) : w = v := by
  cases h <;> cases r <;> rfl
theorem me_c {v : V} (p : PE X e (tC v)) (h : Sc d v) : ME X ρ e (.fz d) := .mk fun Z0 F Z σ H s Q q => PE_w p (q v Z H [] (Gr.refl s.ex) (.fz h.rep) .nil)
theorem me_int {i : Int} {j : Nat} : ME X ρ (.Constant (.int i) j pos) (.fz (.int i)) := me_c pe_int (.int i)
theorem me_bl {b : Bool} {j : Nat} : ME X ρ (.Constant (.bool b) j pos) (.fz (.bl b)) := me_c pe_bl (.bl b)
theorem me_non {j : Nat} : ME X ρ (.Constant .none j pos) (.fz .non) := me_c pe_non .non
theorem me_str {x : Str} {j : Nat} : ME X ρ (.Constant (.str x) j pos) (.fz (.str x)) := me_c pe_str (.str x)

variable {a b : Expr} {d1 d2 d3 : D} {x y z : V}
theorem me_r2 {r : R2} {t : TE} (p : PE X e (tOp r (wE X a) (wE X b))) (ha : ME X ρ a (.fz d1)) (hb : ME X ρ b (.fz d2)) (s1 : Sc d1 x) (s2 : Sc d2 y) (s3 : Sc d3 z) (h : ∀ H (Q : VK), Q z H → r x y H Q) : ME X ρ e (.fz d3) := .mk fun Z0 F Z σ H s Q q => by
  refine PE_w p (ha.run Z0 F Z σ H s _ fun v Z1 H1 A1 g1 r1 n1 => ?_)
  refine hb.run Z0 F Z1 σ H1 (s.grow g1) _ fun w Z2 H2 A2 g2 r2 n2 => ?_
  cases r1 with
  | fz r1 =>
    cases r2 with
    | fz r2 =>
      rw [s1.eq r1, s2.eq r2]
      exact h H2 Q (q z Z2 H2 [] (g1.trans g2) (.fz s3.rep) .nil)
theorem me_op {op : Operator} {r : R2} (ho : OpR X (binaryOp op) r) (ha : ME X ρ a (.fz d1)) (hb : ME X ρ b (.fz d2)) (s1 : Sc d1 x) (s2 : Sc d2 y) (s3 : Sc d3 z) (h : ∀ H (Q : VK), Q z H → r x y H Q) : ME X ρ (.BinOp a op b pos) (.fz d3) :=
  me_r2 (t := tOp r (wE X a) (wE X b)) (pe_op ho pe_w pe_w) ha hb s1 s2 s3 h
variable {i j : Int}
theorem me_add (ha : ME X ρ a (.fz (.int i))) (hb : ME X ρ b (.fz (.int j))) : ME X ρ (.BinOp a .Add b pos) (.fz (.int (i + j))) := me_op op_add ha hb (.int i) (.int j) (.int _) fun _ _ q => ⟨i, j, rfl, rfl, q⟩
theorem me_sub (ha : ME X ρ a (.fz (.int i))) (hb : ME X ρ b (.fz (.int j))) : ME X ρ (.BinOp a .Sub b pos) (.fz (.int (i - j))) := me_op op_sub ha hb (.int i) (.int j) (.int _) fun _ _ q => ⟨i, j, rfl, rfl, q⟩
theorem me_mul (ha : ME X ρ a (.fz (.int i))) (hb : ME X ρ b (.fz (.int j))) (c : CMul i j := by first | exact Or.inr (by decide) | exact Or.inl (by decide)) : ME X ρ (.BinOp a .Mult b pos) (.fz (.int (i * j))) := me_op op_mul ha hb (.int i) (.int j) (.int _) fun _ _ q => ⟨i, j, rfl, rfl, c, q⟩
theorem me_fdiv (ha : ME X ρ a (.fz (.int i))) (hb : ME X ρ b (.fz (.int j))) (c : CDiv i j := by exact ⟨by decide, by decide⟩) : ME X ρ (.BinOp a .FloorDiv b pos) (.fz (.int (i / j))) := me_op op_fdiv ha hb (.int i) (.int j) (.int _) fun _ _ q => ⟨i, j, rfl, rfl, c, q⟩
theorem me_mod (ha : ME X ρ a (.fz (.int i))) (hb : ME X ρ b (.fz (.int j))) (c : 0 < j := by decide) : ME X ρ (.BinOp a .Mod b pos) (.fz (.int (i % j))) := me_op op_mod ha hb (.int i) (.int j) (.int _) fun _ _ q => ⟨i, j, rfl, rfl, c, q⟩
theorem me_pow (ha : ME X ρ a (.fz (.int i))) (hb : ME X ρ b (.fz (.int j))) (c : CPow i j := by exact ⟨by decide, by decide, by decide⟩) : ME X ρ (.BinOp a .Pow b pos) (.fz (.int (i ^ j.toNat))) := me_op op_pow ha hb (.int i) (.int j) (.int _) fun _ _ q => ⟨i, j, rfl, rfl, c, q⟩
variable {p q : Str}
theorem me_cat (ha : ME X ρ a (.fz (.str p))) (hb : ME X ρ b (.fz (.str q))) (c : p.length + q.length ≤ sizeLine) : ME X ρ (.BinOp a .Add b pos) (.fz (.str (p ++ q))) := me_op op_add_str ha hb (.str p) (.str q) (.str _) fun _ _ k => ⟨p, q, rfl, rfl, c, k⟩
theorem me_neg (ha : ME X ρ a (.fz (.int i))) : ME X ρ (.UnaryOp .USub a pos) (.fz (.int (-i))) := .mk fun Z0 F Z σ H s Q q => by
  refine PE_w (pe_un un_neg pe_w) (ha.run Z0 F Z σ H s _ fun v Z1 H1 A1 g1 r1 n1 => ?_)
  cases r1 with
  | fz r1 =>
    cases r1
    exact ⟨i, rfl, q _ Z1 H1 [] g1 (.fz (.int _)) .nil⟩

theorem me_cmp {op : CmpOp} {r : R2} {k : Bool} (ho : OpR X (compareOp op) r) (ha : ME X ρ a (.fz d1)) (hb : ME X ρ b (.fz d2)) (s1 : Sc d1 x) (s2 : Sc d2 y) (h : ∀ H (Q : VK), Q (.bl k) H → r x y H Q) (hm : behindInMarks op b = false) : ME X ρ (.Compare a [op] [b] pos) (.fz (.bl k)) :=
  me_r2 (t := tOp r (wE X a) (wE X b)) (pe_cmpR ho pe_w pe_w hm) ha hb s1 s2 (.bl k) h
theorem mt_cmp {op : CmpOp} {r : R2} {k : Bool} (ho : OpR X (compareOp op) r) (ha : ME X ρ a (.fz d1)) (hb : ME X ρ b (.fz d2)) (s1 : Sc d1 x) (s2 : Sc d2 y) (h : ∀ H (Q : VK), Q (.bl k) H → r x y H Q) (hm : behindInMarks op b = false) : MT X ρ (.Compare a [op] [b] pos) k := .mk fun Z0 F Z σ H s Q q => by
  refine PT_w (pt_cmpR ho pe_w pe_w hm) (ha.run Z0 F Z σ H s _ fun v Z1 H1 A1 g1 r1 n1 => ?_)
  refine hb.run Z0 F Z1 σ H1 (s.grow g1) _ fun w Z2 H2 A2 g2 r2 n2 => ?_
  cases r1 with
  | fz r1 =>
    cases r2 with
    | fz r2 =>
      rw [s1.eq r1, s2.eq r2]
      exact h H2 _ ⟨k, rfl, q Z2 H2 (g1.trans g2)⟩
theorem mt_lt (ha : ME X ρ a (.fz (.int i))) (hb : ME X ρ b (.fz (.int j))) : MT X ρ (.Compare a [.Lt] [b] pos) (decide (i < j)) := mt_cmp op_lt ha hb (.int i) (.int j) (fun _ _ k => ⟨i, j, rfl, rfl, k⟩) (nomark _)
theorem me_gt (ha : ME X ρ a (.fz (.int i))) (hb : ME X ρ b (.fz (.int j))) : ME X ρ (.Compare a [.Gt] [b] pos) (.fz (.bl (decide (j < i)))) := me_cmp op_gt ha hb (.int i) (.int j) (fun _ _ k => ⟨i, j, rfl, rfl, k⟩) (nomark _)
theorem mt_gt (ha : ME X ρ a (.fz (.int i))) (hb : ME X ρ b (.fz (.int j))) : MT X ρ (.Compare a [.Gt] [b] pos) (decide (j < i)) := mt_cmp op_gt ha hb (.int i) (.int j) (fun _ _ k => ⟨i, j, rfl, rfl, k⟩) (nomark _)
theorem me_eqI (ha : ME X ρ a (.fz (.int i))) (hb : ME X ρ b (.fz (.int j))) : ME X ρ (.Compare a [.Eq] [b] pos) (.fz (.bl (i == j))) := me_cmp op_eq ha hb (.int i) (.int j) (fun _ _ k => ⟨rfl, by rw [dec_int]; exact k⟩) (nomark _)
theorem me_eqS (ha : ME X ρ a (.fz (.str p))) (hb : ME X ρ b (.fz (.str q))) : ME X ρ (.Compare a [.Eq] [b] pos) (.fz (.bl (p == q))) := me_cmp op_eq ha hb (.str p) (.str q) (fun _ _ k => ⟨rfl, by rw [dec_str]; exact k⟩) (nomark _)
theorem mt_eqI (ha : ME X ρ a (.fz (.int i))) (hb : ME X ρ b (.fz (.int j))) : MT X ρ (.Compare a [.Eq] [b] pos) (i == j) := mt_cmp op_eq ha hb (.int i) (.int j) (fun _ _ k => ⟨rfl, by rw [dec_int]; exact k⟩) (nomark _)
theorem mt_neI (ha : ME X ρ a (.fz (.int i))) (hb : ME X ρ b (.fz (.int j))) : MT X ρ (.Compare a [.NotEq] [b] pos) (!(i == j)) := mt_cmp op_ne ha hb (.int i) (.int j) (fun _ _ k => ⟨rfl, by rw [dec_int]; exact k⟩) (nomark _)
theorem mt_eqS (ha : ME X ρ a (.fz (.str p))) (hb : ME X ρ b (.fz (.str q))) : MT X ρ (.Compare a [.Eq] [b] pos) (p == q) := mt_cmp op_eq ha hb (.str p) (.str q) (fun _ _ k => ⟨rfl, by rw [dec_str]; exact k⟩) (nomark _)
theorem mt_neS (ha : ME X ρ a (.fz (.str p))) (hb : ME X ρ b (.fz (.str q))) : MT X ρ (.Compare a [.NotEq] [b] pos) (!(p == q)) := mt_cmp op_ne ha hb (.str p) (.str q) (fun _ _ k => ⟨rfl, by rw [dec_str]; exact k⟩) (nomark _)

def D.isNon : D → Bool
  | .non => true
  | _ => false
def O.isNon : O → Bool
  | .fz d => d.isNon
  | .lk o => o.isNon
  | _ => false
theorem Rep.isNon {K : PySem.W.Frag} {Z : Hp} {v : V} (r : Rep K Z v d) : decide (v = .non) = d.isNon := by
  cases r <;> rfl
theorem RepK.isNon {K : PySem.W.Frag} {Z F : Hp} : ∀ {v : V} {o : O}, RepK K Z F v o → decide (v = .non) = o.isNon
  | _, _, .fz r => r.isNon
  | _, .lk o, .lk r => RepK.isNon (o := o) r
  | _, _, .vw _ _ => rfl
  | _, _, .vwa _ _ => rfl
  | _, _, .lst _ _ => rfl
  | _, _, .tup _ _ => rfl
  | _, _, .ins _ _ => rfl
  | _, _, .at _ _ => rfl
  | _, _, .dct _ _ => rfl
  | _, _, .dctT _ _ => rfl
  | _, _, .loc _ => rfl
  | _, _, .pt => rfl
theorem RepO.isNon {K : PySem.W.Frag} {Z F H : Hp} {v : V} {A : List Addr} (r : RepO K Z F H v o A) : decide (v = .non) = o.isNon := by
  cases r with
  | fz r => exact r.isNon
  | lk r => exact r.isNon
  | _ => rfl
theorem mt_isN {k2 : Nat} {p2 : Pos} (ha : MV X ρ a o) : MT X ρ (.Compare a [.Is] [.Constant .none k2 p2] pos) o.isNon := .mk fun Z0 F Z σ H s Q q => by
  refine PT_w (pt_cmpR op_isN pe_w pe_non (nomark _)) (ha.run Z0 F Z σ H s _ fun v Z1 H1 A1 g1 r1 => ?_)
  exact ⟨rfl, o.isNon, by rw [r1.isNon], q Z1 H1 g1⟩
theorem mt_notN {k2 : Nat} {p2 : Pos} (ha : MV X ρ a o) : MT X ρ (.Compare a [.IsNot] [.Constant .none k2 p2] pos) (!o.isNon) := .mk fun Z0 F Z σ H s Q q => by
  refine PT_w (pt_cmpR op_notN pe_w pe_non (nomark _)) (ha.run Z0 F Z σ H s _ fun v Z1 H1 A1 g1 r1 => ?_)
  exact ⟨rfl, !o.isNon, by rw [r1.isNon], q Z1 H1 g1⟩
/-- a value that is a bool, as a test -/
theorem mt_val {k : Bool} (ha : ME X ρ e (.fz (.bl k))) (he : ∀ whole, isTrue e X.env whole = (do let v ← whole; standAt e.pos; holding [v] (truthy v)) := by intro _; rfl) : MT X ρ e k := .mk fun Z0 F Z σ H s Q q => by
  refine PT_w (pt_val pe_w he) (ha.run Z0 F Z σ H s _ fun v Z1 H1 A1 g1 r1 n1 => ?_)
  cases r1 with
  | fz r1 =>
    cases r1
    exact ⟨k, rfl, q Z1 H1 g1⟩

def wW (X : Cx) (e : Expr) : TT := fun σ H Q => ∀ (whole : Sem Value) (pins : List (Addr × Obj)) (s : Shared), Inv X pins σ H s → wpAny (model X.prog X.w) X.A (isTrue e X.env whole) (TP X pins σ Q) X.xe s
theorem pw_w : PW X e (wW X e) := ⟨fun whole pins s _ _ _ I h => h whole pins s I⟩
theorem PW_w {t : TT} (p : PW X e t) {σ : L2.St} {H : Hp} {Q : Bool → Hp → Prop} (h : t σ H Q) : wW X e σ H Q := fun whole pins s I => p.run whole pins s σ H Q I h
structure MW (X : Cx) (ρ : Slots) (e : Expr) (b : Bool) : Prop where
  run : ∀ (Z0 F Z : Hp) (σ : L2.St) (H : Hp), StR X.K ρ Z0 F Z σ H → ∀ Q : Bool → Hp → Prop,
  (∀ Z' H', Gr Z H Z' H' → Q b H') → wW X e σ H Q
variable {k l : Bool} {rest : List Expr}
theorem MW.t (h : MW X ρ e k) : MT X ρ e k := .mk fun Z0 F Z σ H s Q q => PT_w (PW.pt pw_w) (h.run Z0 F Z σ H s Q q)
theorem mw_or1 (h : MT X ρ a k) : MW X ρ (.BoolOp .Or [a] pos) k := .mk fun Z0 F Z σ H s Q q => PW_w (pw_or1 pt_w) (h.run Z0 F Z σ H s Q q)
theorem mw_or (h : MT X ρ a k) (h2 : k = false → MW X ρ (.BoolOp .Or (b :: rest) pos) l) : MW X ρ (.BoolOp .Or (a :: b :: rest) pos) (k || l) := .mk fun Z0 F Z σ H s Q q =>
  PW_w (pw_or pt_w pw_w) (h.run Z0 F Z σ H s _ fun Z1 H1 g1 => by
    cases k with
    | true => exact q Z1 H1 g1
    | false => exact (h2 rfl).run Z0 F Z1 σ H1 (s.grow g1) Q fun Z2 H2 g2 => q Z2 H2 (g1.trans g2))
theorem mt_not (h : MT X ρ a k) : MT X ρ (.UnaryOp .Not a pos) (!k) := .mk fun Z0 F Z σ H s Q q => PT_w (pt_not pt_w) (h.run Z0 F Z σ H s _ fun Z1 H1 g1 => q Z1 H1 g1)
theorem me_one {op : BoolOp} (h : ME X ρ a o) : ME X ρ (.BoolOp op [a] pos) o := .mk fun Z0 F Z σ H s Q q => PE_w (pe_one pe_w) (h.run Z0 F Z σ H s Q q)
theorem me_and (h : ME X ρ a (.fz (.bl k))) (h2 : k = true → ME X ρ (.BoolOp .And (b :: rest) pos) (.fz (.bl l))) : ME X ρ (.BoolOp .And (a :: b :: rest) pos) (.fz (.bl (k && l))) := .mk fun Z0 F Z σ H s Q q =>
  PE_w (pe_and pe_w pe_w) (h.run Z0 F Z σ H s _ fun v Z1 H1 A1 g1 r1 n1 => by
    cases r1 with
    | fz r1 =>
      cases r1
      refine ⟨k, rfl, ?_⟩
      cases k with
      | true =>
        refine (h2 rfl).run Z0 F Z1 σ H1 (s.grow g1) Q fun w Z2 H2 A2 g2 r2 n2 => ?_
        cases r2 with
        | fz r2 => exact q w Z2 H2 [] (g1.trans g2) (.fz r2) .nil
      | false => exact q _ Z1 H1 [] g1 (.fz (.bl false)) .nil)
theorem me_not (h : ME X ρ a (.fz (.bl k))) : ME X ρ (.UnaryOp .Not a pos) (.fz (.bl (!k))) := .mk fun Z0 F Z σ H s Q q =>
  PE_w (pe_not pe_w) (h.run Z0 F Z σ H s _ fun v Z1 H1 A1 g1 r1 n1 => by
    cases r1 with
    | fz r1 =>
      cases r1
      exact ⟨k, rfl, q _ Z1 H1 [] g1 (.fz (.bl _)) .nil⟩)
/-- not starred -/
abbrev NS (X : Cx) (e : Expr) : Prop := ∀ es, starEach (e :: es) X.env = (false, eval e X.env) :: starEach es X.env
/-- frozen things -/
structure MF (X : Cx) (ρ : Slots) (es : List Expr) (ds : List D) : Prop where
  run : ∀ (Z0 F Z : Hp) (σ : L2.St) (H : Hp), StR X.K ρ Z0 F Z σ H → ∀ Q : List V → Hp → Prop,
  (∀ vs Z' H', Gr Z H Z' H' → RepL X.K Z' vs ds → Q vs H') → wA X es σ H Q
theorem mf_nil : MF X ρ [] [] := .mk fun Z0 F Z σ H s Q q => PA_w pa_nil (q [] Z H (Gr.refl s.ex) .nil)
theorem mf_cons (h : ME X ρ e (.fz d)) (h2 : MF X ρ es ds) (hs : starEach (e :: es) X.env = (false, eval e X.env) :: starEach es X.env := by rfl) : MF X ρ (e :: es) (d :: ds) := .mk fun Z0 F Z σ H s Q q =>
  PA_w (pa_cons pe_w pa_w hs) (h.run Z0 F Z σ H s _ fun v Z1 H1 A1 g1 r1 n1 => by
    cases r1 with
    | fz r1 => exact h2.run Z0 F Z1 σ H1 (s.grow g1) _ fun vs Z2 H2 g2 r2 => q _ Z2 H2 (g1.trans g2) (.cons (r1.mono g2.zz) r2))
theorem ma_nil : MA X ρ [] [] := .mk fun Z0 F Z σ H s Q q => PA_w pa_nil (q [] Z H (Gr.refl s.ex) .nil)
theorem ma_fz {os : List O} (h : ME X ρ e (.fz d)) (h2 : MA X ρ es os) (hs : starEach (e :: es) X.env = (false, eval e X.env) :: starEach es X.env := by rfl) : MA X ρ (e :: es) (.fz d :: os) := .mk fun Z0 F Z σ H s Q q =>
  PA_w (pa_cons pe_w pa_w hs) (h.run Z0 F Z σ H s _ fun v Z1 H1 A1 g1 r1 n1 => by
    cases r1 with
    | fz r1 => exact h2.run Z0 F Z1 σ H1 (s.grow g1) _ fun vs Z2 H2 g2 r2 => q _ Z2 H2 (g1.trans g2) (.cons (A := []) (B := []) (.fz (r1.mono g2.zz)) r2))
theorem ma_vw {os : List O} (h : ML X ρ e ds) (h2 : MA X ρ es os) (hs : starEach (e :: es) X.env = (false, eval e X.env) :: starEach es X.env := by rfl) : MA X ρ (e :: es) (.vw ds :: os) := .mk fun Z0 F Z σ H s Q q =>
  PA_w (pa_cons pe_w pa_w hs) (h.run Z0 F Z σ H s _ fun a vs Z1 H1 g1 l1 r1 =>
    h2.run Z0 F Z1 σ H1 (s.grow g1) _ fun ws Z2 H2 g2 r2 => q _ Z2 H2 (g1.trans g2) (.cons (A := []) (B := []) (.vw (ex_l g2.hh l1) (r1.mono g2.zz)) r2))
theorem new_one {H Z : Hp} {p : Addr} (h : H p = none) (h2 : Z p = none) : New H Z [p] := ⟨List.nodup_cons.mpr ⟨(fun m => nomatch m), List.nodup_nil⟩, fun a m => by
  cases List.mem_singleton.mp m
  exact ⟨h, h2⟩⟩
theorem me_tup {n : Nat} (h : MF X ρ es ds) (hl : ds.length ≤ 1000 := by first | decide | (simp; done)) : ME X ρ (.Tuple es n pos) (.fz (.tup ds)) := .mk fun Z0 F Z σ H s Q q =>
  PE_w (pe_tup pa_w) (h.run Z0 F Z σ H s _ fun vs Z1 H1 g1 r1 => ⟨(by rw [r1.length]; exact Nat.le_of_lt (small1000 hl)), fun p hp => by
    exact q _ (upd Z1 p (.tup vs)) _ [] (g1.trans (Gr.newz g1.zh hp)) (.fz (.tup upd_same (r1.mono (Ex.new (g1.zh.free hp))))) .nil⟩)
theorem me_lst (h : MF X ρ es ds) (hl : ds.length ≤ 1000 := by first | decide | (simp; done)) : ME X ρ (.List es pos) (.lst (ds.map .fz)) := .mk fun Z0 F Z σ H s Q q =>
  PE_w (pe_lst pa_w) (h.run Z0 F Z σ H s _ fun vs Z1 H1 g1 r1 => ⟨(by rw [r1.length]; exact Nat.le_of_lt (small1000 hl)), fun p hp => by
    refine q _ Z1 _ [p] (g1.trans (Gr.new g1.zh hp)) (.lst upd_same r1.own) (new_one (g1.hh.free hp) (g1.zh.free hp))⟩)

theorem RepL.atI {K : PySem.W.Frag} {Z : Hp} {vs : List V} {ds : List D} {i : Int} {d : D} (r : RepL K Z vs ds) (h : L2.atI ds i = some d) : ∃ v, L2.atI vs i = some v ∧ Rep K Z v d := by
  unfold L2.atI at h ⊢
  rw [r.length]
  cases e : ixN ds.length i with
  | none =>
    rw [e] at h
    cases h
  | some n =>
    rw [e] at h
    exact r.get h
theorem me_ixL (ha : ML X ρ a ds) (hb : ME X ρ b (.fz (.int i))) (h : L2.atI ds i = some d) (hp : PlainIx b := by exact fun _ _ => rfl) : ME X ρ (.Subscript a b pos) (.fz d) := .mk fun Z0 F Z σ H s Q q =>
  PE_w (pe_ix ix_list pe_w pe_w hp) (ha.run Z0 F Z σ H s _ fun l vs Z1 H1 g1 l1 r1 => hb.run Z0 F Z1 σ H1 (s.grow g1) _ fun w Z2 H2 A2 g2 r2 n2 => by
    cases r2 with
    | fz r2 =>
      cases r2
      obtain ⟨v, e, rv⟩ := (r1.mono g2.zz).atI h
      exact ⟨l, vs, i, v, rfl, rfl, ex_l g2.hh l1, e, q v Z2 H2 [] (g1.trans g2) (.fz rv) .nil⟩)
theorem me_ixT (ha : MU X ρ a ds) (hb : ME X ρ b (.fz (.int i))) (h : L2.atI ds i = some d) (hp : PlainIx b := by exact fun _ _ => rfl) : ME X ρ (.Subscript a b pos) (.fz d) := .mk fun Z0 F Z σ H s Q q =>
  PE_w (pe_ix ix_tup pe_w pe_w hp) (ha.run Z0 F Z σ H s _ fun l vs Z1 H1 g1 l1 r1 => hb.run Z0 F Z1 σ H1 (s.grow g1) _ fun w Z2 H2 A2 g2 r2 n2 => by
    cases r2 with
    | fz r2 =>
      cases r2
      obtain ⟨v, e, rv⟩ := (r1.mono g2.zz).atI h
      exact ⟨l, vs, i, v, rfl, rfl, ex_t g2.hh l1, e, q v Z2 H2 [] (g1.trans g2) (.fz rv) .nil⟩)
theorem me_ixS {c : Nat} (ha : ME X ρ a (.fz (.str p))) (hb : ME X ρ b (.fz (.int i))) (hl : p.length ≤ sizeLine) (h : L2.atI p.cps.toList i = some c) (hp : PlainIx b := by exact fun _ _ => rfl) : ME X ρ (.Subscript a b pos) (.fz (.str ⟨#[c]⟩)) :=
  me_r2 (t := tOp rIxS (wE X a) (wE X b)) (pe_ix ix_str pe_w pe_w hp) ha hb (.str p) (.int i) (.str _) fun _ _ k => ⟨p, i, c, rfl, rfl, hl, h, k⟩
theorem RepOL.get {K : PySem.W.Frag} {Z F H : Hp} : ∀ {vs : List V} {os : List O} {A : List Addr} {i : Nat} {o : O}, RepOL K Z F H vs os A → os[i]? = some o → ∃ v B, vs[i]? = some v ∧ RepO K Z F H v o B
  | _, _, _, _, _, .nil, e => by simp at e
  | _, _, _, 0, _, .cons h _, e => by
    simp at e
    subst e
    exact ⟨_, _, rfl, h⟩
  | _, _, _, i + 1, _, .cons _ r, e => by
    obtain ⟨v, B, h1, h2⟩ := RepOL.get (i := i) r (by simpa using e)
    exact ⟨v, B, by simpa using h1, h2⟩
theorem RepOL.length {K : PySem.W.Frag} {Z F H : Hp} : ∀ {vs : List V} {os : List O} {A : List Addr}, RepOL K Z F H vs os A → vs.length = os.length
  | _, _, _, .nil => rfl
  | _, _, _, .cons _ r => congrArg (· + 1) r.length
theorem RepOL.atI {K : PySem.W.Frag} {Z F H : Hp} {vs : List V} {os : List O} {A : List Addr} {i : Int} {o : O} (r : RepOL K Z F H vs os A) (h : L2.atI os i = some o) : ∃ v B, L2.atI vs i = some v ∧ RepO K Z F H v o B := by
  unfold L2.atI at h ⊢
  rw [r.length]
  cases e : ixN os.length i with
  | none =>
    rw [e] at h
    cases h
  | some n =>
    rw [e] at h
    exact r.get h
theorem mv_ixL {os : List O} (ha : MV X ρ a (.lst os)) (hb : ME X ρ b (.fz (.int i))) (h : L2.atI os i = some o) (hp : PlainIx b := by exact fun _ _ => rfl) : MV X ρ (.Subscript a b pos) o := .mk fun Z0 F Z σ H s Q q =>
  PE_w (pe_ix ix_list pe_w pe_w hp) (ha.run Z0 F Z σ H s _ fun v Z1 H1 A1 g1 r1 => hb.run Z0 F Z1 σ H1 (s.grow g1) _ fun w Z2 H2 A2 g2 r2 n2 => by
    cases r2 with
    | fz r2 =>
      cases r2
      have r3 := r1.ex g2.zz g2.hh
      cases r3 with
      | lst l1 r4 =>
        obtain ⟨v, B, e, rv⟩ := r4.atI h
        exact ⟨_, _, i, v, rfl, rfl, .of l1, e, q v Z2 H2 B (g1.trans g2) rv⟩)
variable {nm T id : Str} {p0 p1 p2 : Pos}
theorem me_len (hg : Gl X "len") (hm : X.mg "len" = none) (ha : ML X ρ a ds) (n1 : NS X a := by exact fun _ => rfl) : ME X ρ (.Call (.Name "len" p0) [a] [] pos) (.fz (.int (ds.length : Int))) := .mk fun Z0 F Z σ H s Q q =>
  PE_w (pe_callB call_len_seq hg hm boot_len (pa_cons pe_w pa_nil (n1 _)) (he := n1 _)) (ha.run Z0 F Z σ H s _ fun l vs Z1 H1 g1 l1 r1 => ⟨l, vs, rfl, .inl l1, by rw [r1.length]; exact q _ Z1 H1 [] g1 (.fz (.int _)) .nil⟩)
theorem me_lenS (hg : Gl X "len") (hm : X.mg "len" = none) (ha : ME X ρ a (.fz (.str p))) (hl : p.length ≤ sizeLine) (n1 : NS X a := by exact fun _ => rfl) : ME X ρ (.Call (.Name "len" p0) [a] [] pos) (.fz (.int (p.length : Int))) := .mk fun Z0 F Z σ H s Q q =>
  PE_w (pe_callB call_len_str hg hm boot_len (pa_cons pe_w pa_nil (n1 _)) (he := n1 _)) (ha.run Z0 F Z σ H s _ fun v Z1 H1 A g1 r1 n1 => by
    cases r1 with
    | fz r1 =>
      cases r1
      exact ⟨p, rfl, hl, q _ Z1 H1 [] g1 (.fz (.int _)) .nil⟩)
theorem me_list (hg : Gl X "list") (hm : X.mg "list" = none) (ha : ML X ρ a ds) (n1 : NS X a := by exact fun _ => rfl) : ME X ρ (.Call (.Name "list" p0) [a] [] pos) (.lst (ds.map .fz)) := .mk fun Z0 F Z σ H s Q q =>
  PE_w (pe_callTy call_list_of hg hm (by decide +kernel) (pa_cons pe_w pa_nil (n1 _)) (he := n1 _)) (ha.run Z0 F Z σ H s _ fun l vs Z1 H1 g1 l1 r1 => ⟨l, vs, rfl, .inl l1, fun p hp =>
    q _ Z1 _ [p] (g1.trans (Gr.new g1.zh hp)) (.lst upd_same r1.own) (new_one (g1.hh.free hp) (g1.zh.free hp))⟩)
theorem me_sum {ns : List Int} (hc : X.calm = true) (hg : Gl X "sum") (hm : X.mg "sum" = none) (ha : ML X ρ a (ns.map .int)) (n1 : NS X a := by exact fun _ => rfl) : ME X ρ (.Call (.Name "sum" p0) [a] [] pos) (.fz (.int ns.sum)) := .mk fun Z0 F Z σ H s Q q =>
  PE_w (pe_callB (cr_sum hc) hg hm (by decide +kernel) (pa_cons pe_w pa_nil (n1 _)) (he := n1 _)) (ha.run Z0 F Z σ H s _ fun l vs Z1 H1 g1 l1 r1 => by
    have e := r1.ints
    subst e
    exact ⟨l, ns, rfl, l1, q _ Z1 H1 [] g1 (.fz (.int _)) .nil⟩)
theorem me_min (hc : X.calm = true) (hg : Gl X "min") (hm : X.mg "min" = none) (ha : ME X ρ a (.fz (.int i))) (hb : ME X ρ b (.fz (.int j))) (n1 : NS X a := by exact fun _ => rfl) (n2 : NS X b := by exact fun _ => rfl) : ME X ρ (.Call (.Name "min" p0) [a, b] [] pos) (.fz (.int (min i j))) := .mk fun Z0 F Z σ H s Q q =>
  PE_w (pe_callB (call_min2 hc) hg hm (by decide +kernel) (pa_cons pe_w (pa_cons pe_w pa_nil (n2 _)) (n1 _)) (he := n1 _) (hpl := by rw [n2 []]; rfl)) (ha.run Z0 F Z σ H s _ fun v Z1 H1 A1 g1 r1 n1 => hb.run Z0 F Z1 σ H1 (s.grow g1) _ fun w Z2 H2 A2 g2 r2 n2 => by
    cases r1 with
    | fz r1 =>
      cases r2 with
      | fz r2 =>
        cases r1
        cases r2
        refine ⟨i, j, rfl, ?_⟩
        have e : (if j < i then j else i) = min i j := by omega
        rw [e]
        exact q _ Z2 H2 [] (g1.trans g2) (.fz (.int _)) .nil)
inductive MO (X : Cx) (ρ : Slots) : Option Expr → Option Int → Prop where
  | none : MO X ρ none none
  | some {e : Expr} {i : Int} (h : ME X ρ e (.fz (.int i))) : MO X ρ (some e) (some i)
theorem MO.run {eo : Option Expr} {io : Option Int} (h : MO X ρ eo io) : ∃ t, PO X eo t ∧ ∀ (Z0 F Z : Hp) (σ : L2.St) (H : Hp), StR X.K ρ Z0 F Z σ H → ∀ Q : Option Int → Hp → Prop, (∀ Z' H', Gr Z H Z' H' → Q io H') → t σ H Q := by
  cases h with
  | none => exact ⟨_, po_none, fun Z0 F Z σ H s Q q => q Z H (Gr.refl s.ex)⟩
  | @some e i h => exact ⟨_, po_some pe_w, fun Z0 F Z σ H s Q q => h.run Z0 F Z σ H s _ fun v Z1 H1 A1 g1 r1 n1 => by
      cases r1 with
      | fz r1 =>
        cases r1
        exact ⟨i, rfl, q Z1 H1 g1⟩⟩
def cutG {α : Type} (xs : List α) (lo hi : Option Int) : List α := (xs.drop (HT.sIx xs.length 0 lo)).take (HT.sIx xs.length xs.length hi - HT.sIx xs.length 0 lo)
theorem RepL.cut {K : PySem.W.Frag} {Z : Hp} {vs : List V} {ds : List D} (r : RepL K Z vs ds) (lo hi : Option Int) : RepL K Z (cutV vs lo hi) (cutG ds lo hi) := by
  unfold cutV cutG
  rw [r.length]
  exact (r.drop _).take _
theorem me_slL {lo hi : Option Expr} {li hj : Option Int} (ha : ML X ρ a ds) (hl : MO X ρ lo li) (hh : MO X ρ hi hj) : ME X ρ (.Subscript a (.Slice lo hi none p2) pos) (.lst ((cutG ds li hj).map .fz)) := .mk fun Z0 F Z σ H s Q q => by
  obtain ⟨tl, pl, kl⟩ := hl.run
  obtain ⟨th, ph, kh⟩ := hh.run
  refine PE_w (pe_slice sl_list pe_w pl ph) (ha.run Z0 F Z σ H s _ fun l vs Z1 H1 g1 l1 r1 => kl Z0 F Z1 σ H1 (s.grow g1) _ fun Z2 H2 g2 => kh Z0 F Z2 σ H2 (s.grow (g1.trans g2)) _ fun Z3 H3 g3 => ?_)
  refine ⟨l, vs, rfl, ex_l (g2.hh.trans g3.hh) l1, fun p hp => ?_⟩
  have g := g1.trans (g2.trans g3)
  exact q _ Z3 _ [p] (g.trans (Gr.new g.zh hp)) (.lst upd_same ((r1.mono (g2.zz.trans g3.zz)).cut li hj).own) (new_one (g.hh.free hp) (g.zh.free hp))

def D.tyN : D → Option String
  | .non => some "NoneType"
  | .bl _ => some "bool"
  | .int _ => some "int"
  | .str _ => some "str"
  | .tup _ => some "tuple"
  | .lst _ => some "list"
  | .dct _ _ => some "dict"
  | .dctT _ _ => some "dict"
  | _ => none
def O.tyN : O → Option String
  | .fz d => d.tyN
  | .vw _ => some "list"
  | .vwa _ _ => some "list"
  | .lk o => o.tyN
  | .lst _ => some "list"
  | .tup _ => some "tuple"
  | .dct _ _ => some "dict"
  | .dctT _ _ => some "dict"
  | .ins _ _ _ => none
  | .at _ _ _ _ => none
  | .loc _ o => o.tyN
  | .pt _ => none
  | .rs _ => none
theorem sql_ty {K : PySem.W.Frag} {H : Hp} {l : Addr} {vs : List V} (h : SqL K H l vs) : TyX K H (.ref l) (.type "list") := by
  rcases h with (h | ⟨o, h⟩) | ⟨o, its, n, h, c, _⟩
  · exact .base (.lst h)
  · exact .base (.frz h)
  · exact .kList h c
theorem sqt_ty {K : PySem.W.Frag} {H : Hp} {l : Addr} {vs : List V} (h : SqT K H l vs) : TyX K H (.ref l) (.type "tuple") := by
  rcases h with (h | ⟨o, h⟩) | ⟨o, its, n, h, c, _⟩
  · exact .base (.tup h)
  · exact .fTuple h
  · exact .kTuple h c
theorem Rep.ty' {K : PySem.W.Frag} {Z H : Hp} {v : V} {d : D} {t : String} (e : Ex Z H) (r : Rep K Z v d) (h : d.tyN = some t) : TyX K H v (.type t) := by
  cases r with
  | non => cases h; exact .base .non
  | bl b => cases h; exact .base (.bl b)
  | int i => cases h; exact .base (.int i)
  | str x => cases h; exact .base (.str x)
  | ty n => cases h
  | opq a => cases h
  | tup a b => cases h; exact sqt_ty (.of (e _ _ a))
  | lst a b => cases h; exact sql_ty (ex_l e a)
  | ins a b => cases h
  | dct a b => cases h; exact .base (.dK (e _ _ a))
  | dctT a b => cases h; exact .base (.dT (e _ _ a))
theorem RepK.ty' {K : PySem.W.Frag} {Z F H : Hp} {t : String} (e : Ex Z H) (f : Ex F H) : ∀ {v : V} {o : O}, RepK K Z F v o → o.tyN = some t → TyX K H v (.type t)
  | _, _, .fz r, h => r.ty' e h
  | _, _, .vw a b, h => by cases h; exact sql_ty (ex_l f a)
  | _, _, .vwa a b, h => by cases h; exact sql_ty (ex_l f a)
  | _, .lk o, .lk r, h => RepK.ty' (o := o) e f r h
  | _, _, .lst a b, h => by cases h; exact .base (.lst (f _ _ a))
  | _, _, .tup a b, h => by cases h; exact .base (.tup (f _ _ a))
  | _, _, .ins a b, h => by cases h
  | _, _, .at a b, h => by cases h
  | _, _, .dct a b, h => by cases h; exact .base (.dK (f _ _ a))
  | _, _, .dctT a b, h => by cases h; exact .base (.dT (f _ _ a))
  | _, .loc _ o, .loc r, h => RepK.ty' (o := o) e f r h
  | _, _, .pt, h => by cases h
theorem RepO.ty' {K : PySem.W.Frag} {Z F H : Hp} {t : String} (e : Ex Z H) (f : Ex F H) : ∀ {v : V} {o : O} {A : List Addr}, RepO K Z F H v o A → o.tyN = some t → TyX K H v (.type t)
  | _, _, _, .fz r, h => r.ty' e h
  | _, _, _, .vw a b, h => by cases h; exact sql_ty (ex_l f a)
  | _, _, _, .vwa a b, h => by cases h; exact sql_ty (ex_l f a)
  | _, .lk o, _, .lk r, h => RepK.ty' (o := o) e f r h
  | _, _, _, .lst a b, h => by cases h; exact .base (.lst a)
  | _, _, _, .tup a b, h => by cases h; exact .base (.tup a)
  | _, _, _, .ins a b, h => by cases h
  | _, _, _, .at a b, h => by cases h
  | _, _, _, .dct a b, h => by cases h; exact .base (.dK a)
  | _, _, _, .dctT a b, h => by cases h; exact .base (.dT a)
  | _, _, _, .loc r, h => RepO.ty' e f r h
  | _, _, _, .pt, h => by cases h
theorem me_isi {T t : String} {TS : Str} {k : Bool} (hg : Gl X "isinstance") (hm : X.mg "isinstance" = none) (hT : PE X (.Name TS p1) (tC (.ty T))) (ha : MV X ρ a o) (ht : o.tyN = some t) (hk : kitB t T = some k) (n1 : NS X a := by exact fun _ => rfl) :
    ME X ρ (.Call (.Name "isinstance" p0) [a, .Name TS p1] [] pos) (.fz (.bl k)) := .mk fun Z0 F Z σ H s Q q =>
  PE_w (pe_callB call_isi hg hm (by decide +kernel) (pa_cons pe_w (pa_cons hT pa_nil) (n1 _)) (he := n1 _)) (ha.run Z0 F Z σ H s _ fun v Z1 H1 A1 g1 r1 =>
    ⟨v, .ty T, .type t, .type T, k, rfl, .ty T, r1.ty' g1.zh (s.gr.hh.trans g1.hh) ht, kit_ty hk, q _ Z1 H1 [] g1 (.fz (.bl k)) .nil⟩)
end
end M
namespace M
open PySem L2

theorem RepOL.snoc {K : PySem.W.Frag} {Z F H : Hp} {w : V} {o : O} {B : List Addr} (h : RepO K Z F H w o B) : ∀ {vs : List V} {os : List O} {A : List Addr}, RepOL K Z F H vs os A → RepOL K Z F H (vs ++ [w]) (os ++ [o]) (A ++ B)
  | _, _, _, .nil => by
    have q := RepOL.cons h (RepOL.nil (K := K) (Z := Z) (F := F) (H := H))
    rw [List.append_nil] at q
    exact q
  | _, _, _, .cons g r => by
    rw [List.append_assoc]
    exact .cons g (r.snoc h)
section
variable {X : Cx} {ρ : Slots} {e : Expr} {es : List Expr} {st : Stmt} {sts : List Stmt} {G : Go} {o : O} {d : D} {ds : List D} {pos : Pos} {i : Nat}

theorem m_set (p : PS X st (tAsg (wE X e) (gName i))) (h : ME X ρ e o) (k : G.nx (ρ.set i (some o))) (hi : i < ρ.length := by exact Nat.le_of_ble_eq_true rfl) : MS1 X ρ st G := .mk fun Z0 F Z σ H D s g =>
  PS_w p (h.run Z0 F Z σ H s _ fun v Z1 H1 A g1 r n => g.nx _ Z1 _ H1 k (s.put g1 r n hi))
theorem m_expr (p : PS X st (tDrop (wE X e))) (h : ME X ρ e o) (k : G.nx ρ) : MS1 X ρ st G := .mk fun Z0 F Z σ H D s g =>
  PS_w p (h.run Z0 F Z σ H s _ fun v Z1 H1 A g1 r n => g.nx _ Z1 _ H1 k (s.grow g1))
theorem m_ret (p : PS X st (tRet (wE X e))) (h : MR X ρ e o) (k : G.rt o) : MS1 X ρ st G := .mk fun Z0 F Z σ H D s g =>
  PS_w p (h.run Z0 F Z σ H s _ fun v Z1 H1 A g1 r n d => g.rt o v Z1 H1 A k (s.gr.trans g1) r ⟨n, fun a m => ⟨(d a m).2, (d a m).1⟩⟩)
theorem m_if {c : Expr} {a b : List Stmt} {t : Bool} (hc : MT X ρ c t) (h1 : t = true → MS X ρ a G) (h2 : t = false → MS X ρ b G) : MS1 X ρ (.If c a b pos) G := .mk fun Z0 F Z σ H D s g =>
  PS_w (ps_if pt_w pss_w pss_w) (hc.run Z0 F Z σ H s _ fun Z1 H1 g1 => by
    cases t with
    | true => exact (h1 rfl).run Z0 F Z1 σ H1 D (s.grow g1) g
    | false => exact (h2 rfl).run Z0 F Z1 σ H1 D (s.grow g1) g)
/-- a slot's thing is frozen from here on -/
theorem ms_frz (hi : ρ[i]? = some (some o)) (hn : o.nv = true) (h : MS X (ρ.set i (some (.fz o.frz))) sts G) : MS X ρ sts G := .mk fun Z0 F Z σ H D s g => by
  obtain ⟨Z', _, _, s'⟩ := s.freeze hi hn
  exact h.run Z0 F Z' σ H D s' g
theorem ms_frzl (hi : ρ[i]? = some (some (.lst (ds.map .fz)))) (h : MS X (ρ.set i (some (.fz (.lst ds)))) sts G) : MS X ρ sts G := by
  refine ms_frz hi (O.nvL_fz ds) ?_
  rw [show (O.lst (ds.map .fz)).frz = .lst ds from congrArg D.lst (O.frzL_fz ds)]
  exact h
theorem ms_le {τ : Slots} (l : Le ρ τ) (h : MS X τ sts G) : MS X ρ sts G := .mk fun Z0 F Z σ H D s g => h.run Z0 F Z σ H D (s.le l) g
theorem Go.le {τ : Slots} (h : MS X τ sts G) : ∀ ρ, Le ρ τ → MS X ρ sts G := fun _ l => ms_le l h
/-- another end -/
theorem ms_imp {G' : Go} (h : MS X ρ sts G) (n : ∀ ρ, G.nx ρ → G'.nx ρ) (r : ∀ o, G.rt o → G'.rt o) (b : ∀ ρ, G.bk ρ → G'.bk ρ) (c : ∀ ρ, G.ct ρ → G'.ct ρ) (rs : ∀ o ρ, G.rs o ρ → G'.rs o ρ := by exact fun _ _ h => h) : MS X ρ sts G' := .mk fun Z0 F Z σ H D s g =>
  h.run Z0 F Z σ H D s ⟨fun ρ Z σ H k => g.nx ρ Z σ H (n ρ k), fun ρ Z σ H k => g.bk ρ Z σ H (b ρ k), fun ρ Z σ H k => g.ct ρ Z σ H (c ρ k), fun o v Z H A k => g.rt o v Z H A (r o k), fun o ρ v Z σ H k => g.rs o ρ v Z σ H (rs o ρ k), g.ex.imp r⟩
/-- x.append(e), x a slot with an own list -/
theorem m_append {x : Str} {p1 p2 p3 p4 : Pos} {os : List O} {o : O} (p : PE X (.Name x p1) (tVar i)) (hi : ρ[i]? = some (some (.lst os))) (he : ME X ρ e o) (hl : os.length < sizeLine) (k : G.nx (ρ.set i (some (.lst (os ++ [o])))))
    (q : ∀ t, PE X (.Call (.Attribute (.Name x p1) "append" p2) [e] [] p3) t → PS X (.Expr (.Call (.Attribute (.Name x p1) "append" p2) [e] [] p3) p4) (tDrop t) := by exact fun _ h => ps_expr h)
    (pm : PE X (.Call (.Attribute (.Name x p1) "append" p2) [e] [] p3) (tBM X.K "list" rAppend (tVar i) (tCons (wE X e) tNil)) := by exact pe_bm PySem.F.plainAttrs_list PySem.F.slot_list_append PySem.F.type_list_append mt_append (pv _) (pa_cons pe_w pa_nil)) : MS1 X ρ (.Expr (.Call (.Attribute (.Name x p1) "append" p2) [e] [] p3) p4) G := .mk fun Z0 F Z σ H D s g => by
  obtain ⟨v, A, e1, r1, nA, dA, k1⟩ := s.upd hi
  cases r1 with
  | @lst a vs _ A h0 r1 =>
    refine PS_w (q _ pm) ⟨_, e1, .inl ⟨rfl, _, SqL.of h0⟩, ?_⟩
    refine he.run Z0 F Z σ H s _ fun w Z1 H1 B g1 r2 n2 => ?_
    refine ⟨a, vs, w, rfl, rfl, g1.hh _ _ h0, by rw [r1.length]; exact hl, ?_⟩
    have za : Z1 a = none := by
      rw [g1.nw a _ h0]
      exact (dA a List.mem_cons_self).1
    obtain ⟨na, nA'⟩ := List.nodup_cons.mp nA
    have nB : ∀ b ∈ B, b ≠ a ∧ b ∉ A := fun b m => by
      refine ⟨fun q => ?_, fun q => ?_⟩
      · have z := (n2.2 b m).1
        rw [q, h0] at z
        cases z
      · obtain ⟨u, hu⟩ := r1.there b q
        rw [(n2.2 b m).1] at hu
        cases hu
    have r1' : RepOL X.K Z1 F (upd H1 a (.lst (vs ++ [w]))) vs os A := r1.mono g1.zz (Ex.refl _) fun b m u hu => by
      have ne : b ≠ a := fun q => na (by rw [← q]; exact m)
      rw [upd_ne ne]
      exact g1.hh b u hu
    have r2' : RepO X.K Z1 F (upd H1 a (.lst (vs ++ [w]))) w o B := r2.mono (Ex.refl _) (Ex.refl _) fun b m u hu => by
      rw [upd_ne (nB b m).1]
      exact hu
    refine g.nx _ Z1 σ _ k (k1 g1.zz g1.nw (g1.zh.mut za) (fun b nb u hu => ?_) (.lst upd_same (r1'.snoc r2')) ?_ fun b m => ?_)
    · have ne : b ≠ a := fun q => nb (by rw [q]; exact List.mem_cons_self)
      rw [upd_ne ne]
      exact g1.hh b u hu
    · refine List.nodup_cons.mpr ⟨fun m => ?_, List.nodup_append.mpr ⟨nA', n2.1, fun b hb c hc q => (nB c hc).2 (by rw [← q]; exact hb)⟩⟩
      rcases List.mem_append.mp m with m | m
      · exact na m
      · exact (nB a m).1 rfl
    · rcases List.mem_cons.mp m with m | m
      · exact .inl (by rw [m]; exact List.mem_cons_self)
      · rcases List.mem_append.mp m with m | m
        · exact .inl (List.mem_cons_of_mem _ m)
        · exact .inr (n2.2 b m)
end
end M
namespace M
open PySem L2 PySem.Spec PyProof.Rows

section
variable {K : PySem.W.Frag} {Z0 Z Z' F H H' : Hp} {ρ : Slots} {σ : L2.St} {G : Go} {D : Ends}
/-- from a later beginning -/
theorem StR.rebase {H1 : Hp} (s : StR K ρ Z0 F Z σ H) : StR K ρ Z F Z σ H := ⟨⟨Ex.refl _, s.gr.hh, s.gr.zh, fun _ _ _ => rfl⟩, s.st⟩
theorem Gr.base {Z1 H1 : Hp} (g0 : Gr Z0 F Z1 H1) (g : Gr Z1 F Z H) : Gr Z0 F Z H := ⟨g0.zz.trans g.zz, g.hh, g.zh, fun a u e => (g.nw a u e).trans (g0.nw a u e)⟩
theorem StR.unbase {Z1 H1 : Hp} (g0 : Gr Z0 F Z1 H1) (s : StR K ρ Z1 F Z σ H) : StR K ρ Z0 F Z σ H := ⟨g0.base s.gr, s.st⟩
theorem GX.rebase {X : Cx} {Z1 H1 : Hp} {r : O → Prop} (g0 : Gr Z0 F Z1 H1) (g : GX X Z0 F r) : GX X Z1 F r := by
  obtain ⟨W, t, k⟩ := g
  exact ⟨W, t, fun e ρ Z σ H q s => k e ρ Z σ H q (s.unbase g0)⟩
theorem GD.rebase {X : Cx} {Z1 H1 : Hp} (g0 : Gr Z0 F Z1 H1) (g : GD X Z0 F G D) : GD X Z1 F G D :=
  ⟨fun ρ Z σ H k s => g.nx ρ Z σ H k (s.unbase g0), fun ρ Z σ H k s => g.bk ρ Z σ H k (s.unbase g0), fun ρ Z σ H k s => g.ct ρ Z σ H k (s.unbase g0), fun o v Z H A k r => g.rt o v Z H A k (g0.base r), fun o ρ v Z σ H k s => g.rs o ρ v Z σ H k (s.unbase g0), g.ex.rebase g0⟩
end

/-- a list that stands still -/
structure MK (X : Cx) (ρ : Slots) (e : Expr) (ds : List D) : Prop where
  run : ∀ (Z0 F Z : Hp) (σ : L2.St) (H : Hp), StR X.K ρ Z0 F Z σ H → ∀ Q : VK,
  (∀ a vs Z' H', Gr Z H Z' H' → (SqL X.K Z' a vs ∨ SqL X.K F a vs) → RepL X.K Z' vs ds → Q (.ref a) H') → wE X e σ H Q
/-- what is walked: n items, from the heap Zs (frozen) and F on -/
structure Wk (K : PySem.W.Frag) (Zs F : Hp) (J : It) (ds : List D) : Prop where
  go : ∀ (i : Nat) (d : D) (Z H : Hp), ds[i]? = some d → Ex Zs Z → Ex F H → Ex Z H → J.go i H ∧ ∀ x H', J.yld i H x H' → ∃ Z', Gr Z H Z' H' ∧ Rep K Z' x d
  stop : ∀ (Z H : Hp), Ex Zs Z → Ex F H → Ex Z H → J.stop ds.length H
structure MI (X : Cx) (ρ : Slots) (wi : TI) (ds : List D) : Prop where
  run : ∀ (Z0 F Z : Hp) (σ : L2.St) (H : Hp), StR X.K ρ Z0 F Z σ H → ∀ R : It → Hp → Prop,
  (∀ J Z' H', Gr Z H Z' H' → Wk X.K Z' F J ds → R J H') → wi σ H R
/-- a target: d is stored; the slots at ws change alone -/
structure MTg (g : TG) (K : PySem.W.Frag) (ρ : Slots) (d : D) (ρ' : Slots) (ws : List Nat) : Prop where
  run : ∀ (Z0 F Z : Hp) (σ : L2.St) (H : Hp) (v : V), StR K ρ Z0 F Z σ H → Rep K Z v d → ∀ Q : L2.St → Hp → Prop,
  (∀ σ', StR K ρ' Z0 F Z σ' H → (∀ vs : List Nat, (∀ w ∈ ws, w ∈ vs) → wipe σ' vs = wipe σ vs) → Q σ' H) → g v σ H Q
structure MTgs (g : TGs) (K : PySem.W.Frag) (ρ : Slots) (ds : List D) (ρ' : Slots) (ws : List Nat) : Prop where
  run : ∀ (Z0 F Z : Hp) (σ : L2.St) (H : Hp) (vs : List V), StR K ρ Z0 F Z σ H → RepL K Z vs ds → ∀ Q : L2.St → Hp → Prop,
  (∀ σ', StR K ρ' Z0 F Z σ' H → (∀ vs : List Nat, (∀ w ∈ ws, w ∈ vs) → wipe σ' vs = wipe σ vs) → Q σ' H) → g vs σ H Q
theorem wipe_get (σ : L2.St) : ∀ (vs : List Nat) (j : Nat), (wipe σ vs)[j]? = if j ∈ vs then (if j < σ.length then some none else none) else σ[j]?
  | [], j => by simp [wipe]
  | v :: vs, j => by
    unfold wipe
    rw [List.getElem?_set, wipe_length, wipe_get σ vs j]
    by_cases h : v = j
    · subst h
      by_cases hl : v < σ.length
      · simp [hl]
      · simp [hl]
    · have h2 : ¬ j = v := fun q => h q.symm
      simp [h, h2]
theorem wipe_set {σ : L2.St} {vs : List Nat} {i : Nat} {x : Option V} (h : i ∈ vs) : wipe (σ.set i x) vs = wipe σ vs := by
  apply List.ext_getElem?
  intro j
  rw [wipe_get, wipe_get, List.length_set]
  by_cases hj : j ∈ vs
  · rw [if_pos hj, if_pos hj]
  · rw [if_neg hj, if_neg hj]
    exact List.getElem?_set_ne (fun q => hj (by rw [← q]; exact h))
theorem wipe_wipe {σ : L2.St} {vs : List Nat} : wipe (wipe σ vs) vs = wipe σ vs := by
  apply List.ext_getElem?
  intro j
  rw [wipe_get, wipe_length, wipe_get]
  by_cases hj : j ∈ vs
  · rw [if_pos hj, if_pos hj]
  · rw [if_neg hj, if_neg hj]
section
variable {K : PySem.W.Frag} {ρ ρ' ρ2 : Slots} {d : D} {ds : List D} {i : Nat} {ws ws2 : List Nat}
theorem mg_name (hi : i < ρ.length := by exact Nat.le_of_ble_eq_true rfl) : MTg (gName i) K ρ d (ρ.set i (some (.fz d))) [i] := .mk fun Z0 F Z σ H v s r Q q =>
  q _ (s.put (Gr.refl s.ex) (.fz r) .nil hi) fun vs h => wipe_set (h i List.mem_cons_self)
theorem mgs_nil : MTgs gNil K ρ [] ρ [] := .mk fun Z0 F Z σ H vs s r Q q => by
  cases r
  exact ⟨rfl, q σ s fun _ _ => rfl⟩
theorem mgs_cons {t : TG} {u : TGs} (h1 : MTg t K ρ d ρ' ws) (h2 : MTgs u K ρ' ds ρ2 ws2) : MTgs (gCons t u) K ρ (d :: ds) ρ2 (ws ++ ws2) := .mk fun Z0 F Z σ H vs s r Q q => by
  cases r with
  | cons a b =>
    exact ⟨_, _, rfl, h1.run Z0 F Z σ H _ s a _ fun σ1 s1 w1 => h2.run Z0 F Z σ1 H _ s1 b _ fun σ2 s2 w2 => q σ2 s2 fun vs h =>
      (w2 vs fun w m => h w (List.mem_append_right _ m)).trans (w1 vs fun w m => h w (List.mem_append_left _ m))⟩
theorem mg_tup {n : Nat} {u : TGs} (h : MTgs u K ρ ds ρ' ws) (hn : ds.length = n) : MTg (gTup K n u) K ρ (.tup ds) ρ' ws := .mk fun Z0 F Z σ H v s r Q q => by
  cases r with
  | tup a b => exact ⟨_, _, rfl, .of (s.ex _ _ a), by rw [b.length, hn], h.run Z0 F Z σ H _ s b Q q⟩
end

section
variable {X : Cx} {ρ : Slots} {e : Expr} {es : List Expr} {st : Stmt} {sts : List Stmt} {G : Go} {o : O} {d : D} {ds : List D} {pos : Pos} {i : Nat}
theorem ME.k (h : ME X ρ e (.fz (.lst ds))) : MK X ρ e ds := .mk fun Z0 F Z σ H s Q q => h.run Z0 F Z σ H s Q fun v Z' H' A g r n => by
  cases r with
  | fz r =>
    cases r with
    | lst a b => exact q _ _ Z' H' g (.inl a) b
theorem MV.k (h : MV X ρ e (.vw ds)) : MK X ρ e ds := .mk fun Z0 F Z σ H s Q q => h.run Z0 F Z σ H s Q fun v Z' H' A g r => by
  cases r with
  | vw a b => exact q _ _ Z' H' g (.inr a) b
theorem MV.ka {a : Addr} (h : MV X ρ e (.vwa a ds)) : MK X ρ e ds := .mk fun Z0 F Z σ H s Q q => h.run Z0 F Z σ H s Q fun v Z' H' A g r => by
  cases r with
  | vwa a b => exact q _ _ Z' H' g (.inr a) b
theorem MK.l (h : MK X ρ e ds) : ML X ρ e ds := .mk fun Z0 F Z σ H s Q q => h.run Z0 F Z σ H s Q fun a vs Z' H' g l r => q a vs Z' H' g (l.elim (ex_l g.zh) (ex_l (s.gr.hh.trans g.hh))) r
theorem mi_list (h : MK X ρ e ds) : MI X ρ (iList X.K (wE X e)) ds := .mk fun Z0 F Z σ H s R q => h.run Z0 F Z σ H s _ fun a vs Z' H' g l r => by
  have lv : ∀ {Z2 H2 : Hp}, Ex Z' Z2 → Ex F H2 → Ex Z2 H2 → SqL X.K H2 a vs := fun e f z => l.elim (fun l => ex_l (e.trans z) l) fun l => ex_l f l
  refine ⟨a, rfl, ⟨vs, lv (Ex.refl _) (s.gr.hh.trans g.hh) g.zh⟩, q _ Z' H' g ⟨fun j d Z2 H2 hd ez ef zh => ?_, fun Z2 H2 ez ef zh => ⟨vs, lv ez ef zh, Nat.le_of_eq r.length⟩⟩⟩
  obtain ⟨x, hx, rx⟩ := r.get hd
  refine ⟨⟨vs, x, lv ez ef zh, hx⟩, fun y H3 hy => ?_⟩
  obtain ⟨e3, hy⟩ := hy
  subst e3
  have e4 := hy vs (lv ez ef zh)
  rw [hx] at e4
  cases e4
  exact ⟨Z2, Gr.refl zh, rx.mono ez⟩
/-- a text, sign by sign -/
def sgn (x : Str) : List D := x.cps.toList.map fun c => .str ⟨#[c]⟩
theorem mi_str {x : Str} (h : ME X ρ e (.fz (.str x))) : MI X ρ (iStr (wE X e)) (sgn x) := .mk fun Z0 F Z σ H s R q => h.run Z0 F Z σ H s _ fun v Z' H' A g r n => by
  cases r with
  | fz r =>
    cases r
    refine ⟨x, rfl, q _ Z' H' g ⟨fun j d Z2 H2 hd ez ef zh => ?_, fun Z2 H2 ez ef zh => ?_⟩⟩
    · unfold sgn at hd
      rw [List.getElem?_map] at hd
      cases e : x.cps.toList[j]? with
      | none =>
        rw [e] at hd
        cases hd
      | some c =>
        rw [e] at hd
        have hd2 : D.str ⟨#[c]⟩ = d := Option.some.inj hd
        subst hd2
        have e' : x.cps[j]? = some c := by simpa using e
        refine ⟨(Array.getElem?_eq_some_iff.mp e').1, fun y H3 hy => ?_⟩
        obtain ⟨e3, c2, h1, h2⟩ := hy
        subst e3 h2
        rw [e'] at h1
        cases h1
        exact ⟨Z2, Gr.refl zh, .str _⟩
    · show x.cps.size ≤ (sgn x).length
      unfold sgn
      simp
def rng (lo : Int) (n : Nat) : List D := (List.range n).map fun k => .int (lo + (k : Nat))
theorem rng_len (lo : Int) (n : Nat) : (rng lo n).length = n := by simp [rng]
theorem rng_get {lo : Int} {n i : Nat} {d : D} (h : (rng lo n)[i]? = some d) : i < n ∧ d = .int (lo + (i : Nat)) := by
  unfold rng at h
  rw [List.getElem?_map] at h
  by_cases hi : i < n
  · rw [List.getElem?_range hi] at h
    exact ⟨hi, (Option.some.inj h).symm⟩
  · rw [List.getElem?_eq_none (by simpa using hi)] at h
    cases h
theorem wk_rng {K : PySem.W.Frag} {Zs F : Hp} (lo : Int) (n : Nat) : Wk K Zs F (Itr lo n) (rng lo n) := ⟨fun i d Z H h _ _ zh => by
    obtain ⟨hi, e⟩ := rng_get h
    subst e
    refine ⟨hi, fun x H' hy => ?_⟩
    obtain ⟨e, ex⟩ := hy
    subst e ex
    exact ⟨Z, Gr.refl zh, .int _⟩, fun Z H _ _ _ => Nat.le_of_eq (rng_len lo n).symm⟩
theorem mi_range1 {j : Int} (h : MF X ρ es [.int j]) (h1 : -(2 ^ 62) ≤ j) (h2 : j < 2 ^ 62) : MI X ρ (iRng1 (wA X es)) (rng 0 j.toNat) := .mk fun Z0 F Z σ H s R q => h.run Z0 F Z σ H s _ fun vs Z' H' g r => by
  cases r with
  | cons a r =>
    cases a
    cases r
    exact ⟨j, rfl, h1, h2, q _ Z' H' g (wk_rng 0 _)⟩
/-- for: I i holds ahead of turn i -/
theorem m_for {wi : TI} {g : TG} {body : List Stmt} (p : PS X st (tFor wi g (wS X body))) (h : MI X ρ wi ds) (I : Nat → Slots → Prop) (h0 : I 0 ρ)
    (hs : ∀ (j : Nat) (d : D) (τ : Slots), ds[j]? = some d → I j τ → ∃ τ' ws, MTg g X.K τ d τ' ws ∧ MS X τ' body { nx := I (j + 1), ct := I (j + 1), bk := G.nx, rt := G.rt, rs := G.rs })
    (hd : ∀ τ, I ds.length τ → G.nx τ) : MS1 X ρ st G := .mk fun Z0 F Z σ H D s gd => by
  refine PS_w p (h.run Z0 F Z σ H s _ fun J Z1 H1 g1 wk => ?_)
  have s1 := s.grow g1
  have g0 : Gr Z0 F Z1 H1 := s1.gr
  refine ⟨fun j m σ H => m = ds.length - j ∧ j ≤ ds.length ∧ ∃ τ Z2, I j τ ∧ StR X.K τ Z1 F Z2 σ H, ⟨ds.length, by simp, Nat.zero_le _, ρ, Z1, h0, ⟨⟨Ex.refl _, g0.hh, g0.zh, fun _ _ _ => rfl⟩, s1.st⟩⟩, ?_⟩
  rintro j m σ2 H2 ⟨rfl, hj, τ, Z2, hI, s2⟩
  by_cases hlt : j < ds.length
  · obtain ⟨d, ed⟩ : ∃ d, ds[j]? = some d := ⟨ds[j], by simp [hlt]⟩
    obtain ⟨w1, w2⟩ := wk.go j d Z2 H2 ed s2.gr.zz s2.gr.hh s2.gr.zh
    refine .inr ⟨w1, fun σ' H' => ∃ τ Z2, I (j + 1) τ ∧ StR X.K τ Z1 F Z2 σ' H', fun σ' H' q => ⟨ds.length - (j + 1), by omega, rfl, hlt, q⟩, fun x H3 hy => ?_⟩
    obtain ⟨Z3, g3, r3⟩ := w2 x H3 hy
    have s3 := s2.grow g3
    obtain ⟨τ', ws, t1, t2⟩ := hs j d τ ed hI
    refine t1.run Z1 F Z3 σ2 H3 x s3 r3 _ fun σ4 s4 _ => ?_
    exact t2.run Z1 F Z3 σ4 H3 _ s4 ⟨fun τ Z σ H k s => ⟨τ, Z, k, s⟩, fun τ Z σ H k s => gd.nx τ Z σ H k (s.unbase g0), fun τ Z σ H k s => ⟨τ, Z, k, s⟩, fun o v Z H A k gr r n => gd.rt o v Z H A k (g0.base gr) r n, fun o ρ v Z σ H k s => gd.rs o ρ v Z σ H k (s.unbase g0), gd.ex.rebase g0⟩
  · have e : j = ds.length := by omega
    subst e
    exact .inl ⟨wk.stop Z2 H2 s2.gr.zz s2.gr.hh s2.gr.zh, gd.nx τ Z2 σ2 H2 (hd τ hI) (s2.unbase g0)⟩
/-- a, b = e, e a frozen tuple -/
theorem m_tgt {g : TG} {ρ' : Slots} {ws : List Nat} (p : PS X st (tAsg (wE X e) g)) (h : ME X ρ e (.fz d)) (t : MTg g X.K ρ d ρ' ws) (k : G.nx ρ') : MS1 X ρ st G := .mk fun Z0 F Z σ H D s gd =>
  PS_w p (h.run Z0 F Z σ H s _ fun v Z1 H1 A g1 r n => by
    cases r with
    | fz r => exact t.run Z0 F Z1 σ H1 v (s.grow g1) r _ fun σ2 s2 _ => gd.nx ρ' Z1 σ2 H1 k s2)
/-- the promise of a def: the arguments (frozen things, lists that stay as they are), what is handed back -/
def SpM {α : Type} (K : PySem.W.Frag) (ar : α → List O) (pre : α → Prop) (res : α → O) : Sp := fun vs H Q _ => ∃ (x : α) (Z : Hp), Ex Z H ∧ RepOL K Z H H vs (ar x) [] ∧ pre x ∧
  ∀ v Z' H' A, Gr Z H Z' H' → RepO K Z' (fun _ => none) H' v (res x) A → New H Z' A → Q v H'
theorem me_call {α : Type} {ar : α → List O} {pre : α → Prop} {res : α → O} {E : XK} (p : PE X e (tCall (SpM X.K ar pre res) [] E (wA X es))) (x : α) (ha : MA X ρ es (ar x)) (hp : pre x) : ME X ρ e (res x) := .mk fun Z0 F Z σ H s Q q =>
  PE_w p (ha.run Z0 F Z σ H s _ fun vs Z1 H1 g1 r1 => ⟨x, Z1, g1.zh, by rw [List.append_nil]; exact r1, hp, fun v Z2 H2 A g2 r2 n2 =>
    q v Z2 H2 A (g1.trans g2) (r2.mono (Ex.refl _) (fun _ _ z => by cases z) fun _ _ _ z => z) ⟨n2.1, fun a m => ⟨g1.hh.free (n2.2 a m).1, (n2.2 a m).2⟩⟩⟩)
mutual
theorem RepO.unF {K : PySem.W.Frag} {Z F F' H : Hp} : ∀ {v : V} {o : O} {A : List Addr}, RepO K Z F H v o A → o.nv = true → RepO K Z F' H v o A
  | _, _, _, .fz h, _ => .fz h
  | _, _, _, .vw _ _, n => nomatch n
  | _, _, _, .vwa _ _, n => nomatch n
  | _, _, _, .lk _, n => nomatch n
  | _, _, _, .lst h r, n => .lst h (RepOL.unF r n)
  | _, _, _, .tup h r, n => .tup h (RepOL.unF r n)
  | _, _, _, .ins h r, n => .ins h (RepOL.unF r n)
  | _, _, _, .at h r, n => .at h (RepOL.unF r n)
  | _, _, _, .loc h, n => .loc (RepO.unF h n)
  | _, _, _, .pt, _ => .pt
  | _, _, _, .dct h r, n => .dct h (RepOL.unF r n)
  | _, _, _, .dctT h r, n => .dctT h (RepOL.unF r n)
theorem RepOL.unF {K : PySem.W.Frag} {Z F F' H : Hp} : ∀ {vs : List V} {os : List O} {A : List Addr}, RepOL K Z F H vs os A → O.nvL os = true → RepOL K Z F' H vs os A
  | _, _, _, .nil, _ => .nil
  | _, _, _, .cons h r, n => .cons (RepO.unF h (Bool.and_eq_true_iff.mp n).1) (RepOL.unF r (Bool.and_eq_true_iff.mp n).2)
end
theorem stL_args {K : PySem.W.Frag} {Z F H : Hp} : ∀ {vs : List V} {os : List O} {A : List Addr}, RepOL K Z F H vs os A → StL K Z F H (os.map some) (vs.map some) A
  | _, _, _, .nil => .nil
  | _, _, _, .cons h r => .so h (stL_args r)
theorem stL_more {K : PySem.W.Frag} {Z F H : Hp} (n : Nat) : ∀ {ρ : Slots} {σ : L2.St} {A : List Addr}, StL K Z F H ρ σ A → StL K Z F H (ρ ++ List.replicate n none) (σ ++ List.replicate n none) A
  | _, _, _, .nil => by
    rw [List.nil_append, List.nil_append]
    induction n with
    | zero => exact .nil
    | succ n ih => exact .no ih
  | _, _, _, .no h => .no (stL_more n h)
  | _, _, _, .so r h => .so r (stL_more n h)
/-- a def's body keeps its promise -/
theorem fn_m {α : Type} {P : Program} {w : World} {K : PySem.W.Frag} {mg : Str → Option Value} {base : Heap} {x qual : Str} {st : Stmt} {f : Addr} {fd : FuncData} {N ps : List Str} {k : Nat} {ar : α → List O} {pre : α → Prop} {res : α → O}
    (F : Fun K x qual st f fd) (S : FnScope N ps (defScope st)) (hl : ∀ x, (ar x).length = ps.length) (hn : ∀ x, pre x → (res x).nv = true)
    (hb : ∀ (cdv : Value) (A : Around) (outer : List Env) (s : Shared) (H : Hp) (E : XK), Room k (A.deeper (envOfC qual (defScope st) s.heap.objs.size f cdv)) → ∀ x, pre x →
      MS (cxOf CX0 P w K mg base N qual (defScope st) f cdv A outer s H E).nox ((ar x).map some ++ List.replicate (N.length - ps.length) none) (defBody st) { nx := fun _ => res x = .fz .non, rt := fun o => o = res x }) :
    FnOk P w K mg base CX0 (k + 1) f fd ps (SpM K ar pre res) := by
  refine F.ok S (fun vs H Q E h => ?_) (fun cdv A outer s H vs Q E hr h => ?_)
  · obtain ⟨x, Z, _, r, _⟩ := h
    rw [r.length, hl]
  · obtain ⟨x, Z, ez, r, hp, q⟩ := h
    refine ⟨_, pss_w, (hb cdv A outer s H E hr x hp).run Z H Z _ H _ ⟨Gr.refl ez, [], ?_, List.nodup_nil, fun _ m => nomatch m⟩ ⟨fun ρ Z' σ H' e s' => ?_, fun _ _ _ _ z => z.elim, fun _ _ _ _ z => z.elim, fun o v Z' H' A e g r n => ?_, fun _ _ _ _ _ _ z => z.elim, GX.never fun e z => by
      have n := hn x hp
      rw [← show O.rs e = res x from z] at n
      cases n⟩⟩
    · have e : L2.start N vs = vs.map some ++ List.replicate (N.length - ps.length) none := by
        unfold L2.start
        rw [r.length, hl]
      rw [e]
      exact stL_more _ (stL_args r)
    · refine q _ Z' H' [] s'.gr ?_ .nil
      rw [e]
      exact .fz .non
    · subst e
      exact q _ Z' H' A g (r.unF (hn x hp)) n
end
end M
namespace M
open PySem L2 PySem.Spec PyProof.Rows

mutual
def D.py : D → PyData
  | .bl b => .bool b
  | .int i => .int i
  | .str x => .str x
  | .tup ds => .tuple (D.pyL ds)
  | .lst ds => .list (D.pyL ds)
  | _ => .none
def D.pyL : List D → List PyData
  | [] => []
  | d :: r => d.py :: D.pyL r
end
mutual
def D.pl : D → Bool
  | .non => true
  | .bl _ => true
  | .int _ => true
  | .str _ => true
  | .tup ds => D.plL ds
  | .lst ds => D.plL ds
  | _ => false
def D.plL : List D → Bool
  | [] => true
  | d :: r => d.pl && D.plL r
end
section
variable {K : PySem.W.Frag} {Z F H : Hp}
mutual
theorem Rep.dp (e : Ex Z H) : ∀ {v : V} {d : D}, Rep K Z v d → d.pl = true → Dp K H v d.py
  | _, _, .non, _ => .non
  | _, _, .bl b, _ => .bl b
  | _, _, .int i, _ => .int i
  | _, _, .str x, _ => .str x
  | _, _, .ty _, h => nomatch h
  | _, _, .opq _, h => nomatch h
  | _, _, .tup a r, h => .tup (.of (e _ _ a)) (RepL.dp e r h)
  | _, _, .lst a r, h => .lst (ex_l e a) (RepL.dp e r h)
  | _, _, .ins _ _, h => nomatch h
  | _, _, .dct _ _, h => nomatch h
  | _, _, .dctT _ _, h => nomatch h
theorem RepL.dp (e : Ex Z H) : ∀ {vs : List V} {ds : List D}, RepL K Z vs ds → D.plL ds = true → DpAll K H vs (D.pyL ds)
  | _, _, .nil, _ => .nil
  | _, _, .cons a r, h => .cons (Rep.dp e a (Bool.and_eq_true_iff.mp h).1) (RepL.dp e r (Bool.and_eq_true_iff.mp h).2)
end
mutual
theorem RepK.dp (e : Ex Z H) (f : Ex F H) : ∀ {v : V} {o : O}, RepK K Z F v o → o.frz.pl = true → Dp K H v o.frz.py
  | _, _, .fz r, h => r.dp e h
  | _, _, .vw a r, h => .lst (ex_l f a) (r.dp e h)
  | _, _, .vwa a r, h => .lst (ex_l f a) (r.dp e h)
  | _, .lk o, .lk r, h => RepK.dp (o := o) e f r h
  | _, _, .lst a r, h => .lst (.of (f _ _ a)) (RepKL.dp e f r h)
  | _, _, .tup a r, h => .tup (.of (f _ _ a)) (RepKL.dp e f r h)
  | _, .loc _ o, .loc r, h => RepK.dp (o := o) e f r h
  | _, _, .pt, h => nomatch h
  | _, _, .ins _ _, h => nomatch h
  | _, _, .at _ _, h => nomatch h
  | _, _, .dct _ _, h => nomatch h
  | _, _, .dctT _ _, h => nomatch h
theorem RepKL.dp (e : Ex Z H) (f : Ex F H) : ∀ {vs : List V} {os : List O}, RepKL K Z F vs os → D.plL (O.frzL os) = true → DpAll K H vs (D.pyL (O.frzL os))
  | _, _, .nil, _ => .nil
  | _, _, .cons a r, h => .cons (RepK.dp e f a (Bool.and_eq_true_iff.mp h).1) (RepKL.dp e f r (Bool.and_eq_true_iff.mp h).2)
end
mutual
theorem RepO.dp (e : Ex Z H) (f : Ex F H) : ∀ {v : V} {o : O} {A : List Addr}, RepO K Z F H v o A → o.frz.pl = true → Dp K H v o.frz.py
  | _, _, _, .fz r, h => r.dp e h
  | _, _, _, .vw a r, h => .lst (ex_l f a) (r.dp e h)
  | _, _, _, .vwa a r, h => .lst (ex_l f a) (r.dp e h)
  | _, .lk o, _, .lk r, h => RepK.dp (o := o) e f r h
  | _, _, _, .lst a r, h => .lst (.of a) (RepOL.dp e f r h)
  | _, _, _, .tup a r, h => .tup (.of a) (RepOL.dp e f r h)
  | _, .loc _ o, _, .loc r, h => RepO.dp (o := o) e f r h
  | _, _, _, .pt, h => nomatch h
  | _, _, _, .ins _ _, h => nomatch h
  | _, _, _, .dct _ _, h => nomatch h
  | _, _, _, .dctT _ _, h => nomatch h
theorem RepOL.dp (e : Ex Z H) (f : Ex F H) : ∀ {vs : List V} {os : List O} {A : List Addr}, RepOL K Z F H vs os A → D.plL (O.frzL os) = true → DpAll K H vs (D.pyL (O.frzL os))
  | _, _, _, .nil, _ => .nil
  | _, _, _, .cons a r, h => .cons (RepO.dp e f a (Bool.and_eq_true_iff.mp h).1) (RepOL.dp e f r (Bool.and_eq_true_iff.mp h).2)
end
end
/-- data that can be compared -/
def D.ok (d : D) : Prop := d.pl = true ∧ SeqAt.shaped d.py = true
def D.eqv (d e : D) : Bool := PyData.eqv d.py e.py
section
variable {X : Cx} {ρ : Slots} {e a b elt : Expr} {es : List Expr} {st : Stmt} {sts : List Stmt} {G : Go} {o o1 o2 : O} {d : D} {ds : List D} {pos : Pos} {i : Nat}
theorem me_rD {r : R2} {t : TE} {k : Bool} (p : PE X e (tOp r (wE X a) (wE X b))) (ha : MV X ρ a o1) (hb : MV X ρ b o2) (h1 : o1.frz.pl = true) (h2 : o2.frz.pl = true)
    (h : ∀ x y H (Q : VK), Dp X.K H x o1.frz.py → Dp X.K H y o2.frz.py → Q (.bl k) H → r x y H Q) : ME X ρ e (.fz (.bl k)) := .mk fun Z0 F Z σ H s Q q => by
  refine PE_w p (ha.run Z0 F Z σ H s _ fun v Z1 H1 A1 g1 r1 => ?_)
  refine hb.run Z0 F Z1 σ H1 (s.grow g1) _ fun w Z2 H2 A2 g2 r2 => ?_
  have g := g1.trans g2
  exact h v w H2 Q ((r1.ex g2.zz g2.hh).dp g2.zh (s.gr.hh.trans g.hh) h1) (r2.dp g2.zh (s.gr.hh.trans g.hh) h2) (q _ Z2 H2 [] g (.fz (.bl k)) .nil)
theorem me_eqD (hu : X.A.units + 64 < cLine) (ha : MV X ρ a o1) (hb : MV X ρ b o2) (h1 : o1.frz.ok) (h2 : o2.frz.ok) : ME X ρ (.Compare a [.Eq] [b] pos) (.fz (.bl (o1.frz.eqv o2.frz))) :=
  me_rD (t := tOp (rEqD X.K) (wE X a) (wE X b)) (pe_cmpR (op_eqD hu) pe_w pe_w (nomark _)) ha hb h1.1 h2.1 fun x y H Q p1 p2 q => ⟨_, _, p1, p2, h1.2, h2.2, q⟩
theorem mt_rD {r : R2} {k : Bool} (p : PT X e (tTest (tOp r (wE X a) (wE X b)))) (ha : MV X ρ a o1) (hb : MV X ρ b o2) (h1 : o1.frz.pl = true) (h2 : o2.frz.pl = true)
    (h : ∀ x y H (Q : VK), Dp X.K H x o1.frz.py → Dp X.K H y o2.frz.py → Q (.bl k) H → r x y H Q) : MT X ρ e k := .mk fun Z0 F Z σ H s Q q => by
  refine PT_w p (ha.run Z0 F Z σ H s _ fun v Z1 H1 A1 g1 r1 => ?_)
  refine hb.run Z0 F Z1 σ H1 (s.grow g1) _ fun w Z2 H2 A2 g2 r2 => ?_
  have g := g1.trans g2
  exact h v w H2 _ ((r1.ex g2.zz g2.hh).dp g2.zh (s.gr.hh.trans g.hh) h1) (r2.dp g2.zh (s.gr.hh.trans g.hh) h2) ⟨k, rfl, q Z2 H2 g⟩
theorem mt_eqD (hu : X.A.units + 64 < cLine) (ha : MV X ρ a o1) (hb : MV X ρ b o2) (h1 : o1.frz.ok) (h2 : o2.frz.ok) : MT X ρ (.Compare a [.Eq] [b] pos) (o1.frz.eqv o2.frz) :=
  mt_rD (pt_cmpR (op_eqD hu) pe_w pe_w (nomark _)) ha hb h1.1 h2.1 fun x y H Q p1 p2 q => ⟨_, _, p1, p2, h1.2, h2.2, q⟩
theorem mt_neD (hu : X.A.units + 64 < cLine) (ha : MV X ρ a o1) (hb : MV X ρ b o2) (h1 : o1.frz.ok) (h2 : o2.frz.ok) : MT X ρ (.Compare a [.NotEq] [b] pos) (!o1.frz.eqv o2.frz) :=
  mt_rD (pt_cmpR (op_neD hu) pe_w pe_w (nomark _)) ha hb h1.1 h2.1 fun x y H Q p1 p2 q => ⟨_, _, p1, p2, h1.2, h2.2, q⟩

/-- what is walked while nothing that stands changes -/
structure MIc (X : Cx) (ρ : Slots) (wi : TI) (ds : List D) : Prop where
  run : ∀ (Z0 F Z : Hp) (σ : L2.St) (H : Hp), StR X.K ρ Z0 F Z σ H → ∀ R : It → Hp → Prop,
  (∀ J Z' H', Gr Z H Z' H' → Wk X.K Z' H' J ds → R J H') → wi σ H R
theorem MI.c {wi : TI} (h : MI X ρ wi ds) : MIc X ρ wi ds := .mk fun Z0 F Z σ H s R q => h.run Z0 F Z σ H s R fun J Z' H' g wk =>
  q J Z' H' g ⟨fun i d Z2 H2 hd e f z => wk.go i d Z2 H2 hd e ((s.gr.hh.trans g.hh).trans f) z, fun Z2 H2 e f z => wk.stop Z2 H2 e ((s.gr.hh.trans g.hh).trans f) z⟩
theorem mic_list (h : ML X ρ e ds) : MIc X ρ (iList X.K (wE X e)) ds := .mk fun Z0 F Z σ H s R q => h.run Z0 F Z σ H s _ fun a vs Z' H' g l r => by
  refine ⟨a, rfl, ⟨vs, l⟩, q _ Z' H' g ⟨fun j d Z2 H2 hd ez ef zh => ?_, fun Z2 H2 ez ef zh => ⟨vs, ex_l ef l, Nat.le_of_eq r.length⟩⟩⟩
  obtain ⟨x, hx, rx⟩ := r.get hd
  refine ⟨⟨vs, x, ex_l ef l, hx⟩, fun y H3 hy => ?_⟩
  obtain ⟨e3, hy⟩ := hy
  subst e3
  have e4 := hy vs (ex_l ef l)
  rw [hx] at e4
  cases e4
  exact ⟨Z2, Gr.refl zh, rx.mono ez⟩
def wipeS (ρ : Slots) : List Nat → Slots
  | [] => ρ
  | v :: vs => (wipeS ρ vs).set v none
theorem StL.none {K : PySem.W.Frag} {Z F H : Hp} (x : Option V) : ∀ {ρ : Slots} {σ : L2.St} {A : List Addr} (i : Nat), StL K Z F H ρ σ A → A.Nodup → ∃ A', StL K Z F H (ρ.set i Option.none) (σ.set i x) A' ∧ A'.Nodup ∧ ∀ a ∈ A', a ∈ A
  | _, _, _, _, .nil, n => ⟨_, .nil, n, fun _ m => m⟩
  | _, _, _, 0, .no h, n => ⟨_, .no h, n, fun _ m => m⟩
  | _, _, _, i + 1, .no h, n => by
    obtain ⟨A', q1, q2, q3⟩ := StL.none x i h n
    exact ⟨A', .no q1, q2, q3⟩
  | _, _, _, 0, .so _ h, n => ⟨_, .no h, (List.nodup_append.mp n).2.1, fun _ m => List.mem_append_right _ m⟩
  | _, _, _, i + 1, .so r h, n => by
    obtain ⟨n1, n2, n3⟩ := List.nodup_append.mp n
    obtain ⟨A', q1, q2, q3⟩ := StL.none x i h n2
    refine ⟨_, .so r q1, List.nodup_append.mpr ⟨n1, q2, fun a ha b hb => n3 a ha b (q3 b hb)⟩, fun a m => ?_⟩
    rcases List.mem_append.mp m with m | m
    · exact List.mem_append_left _ m
    · exact List.mem_append_right _ (q3 a m)
theorem StR.wipe {K : PySem.W.Frag} {Z0 F Z H : Hp} {σ : L2.St} (s : StR K ρ Z0 F Z σ H) : ∀ vs : List Nat, StR K (wipeS ρ vs) Z0 F Z (L2.wipe σ vs) H
  | [] => s
  | v :: vs => by
    obtain ⟨g, A, h1, h2, h3⟩ := StR.wipe s vs
    obtain ⟨A', q1, q2, q3⟩ := h1.none none v h2
    exact ⟨g, A', q1, q2, fun a m => h3 a (q3 a m)⟩
/-- the list that a comprehension makes -/
theorem lc_run {α : Type} {xs : List α} {enc : α → D} {wi : TI} {g : TG} {tt : TT} {te : TE} {vs : List Nat} (h : MIc X ρ wi (xs.map enc)) (pb : α → Bool) (f : α → D) (hz : xs.length < sizeLine)
    (hs : ∀ d ∈ xs, ∃ τ ws, MTg g X.K (wipeS ρ vs) (enc d) τ ws ∧ (∀ w ∈ ws, w ∈ vs) ∧
      (∀ (Z0 F Z : Hp) (σ : L2.St) (H : Hp), StR X.K τ Z0 F Z σ H → ∀ Q : Bool → Hp → Prop, (∀ Z' H', Gr Z H Z' H' → Q (pb d) H') → tt σ H Q) ∧
      (pb d = true → ∀ (Z0 F Z : Hp) (σ : L2.St) (H : Hp), StR X.K τ Z0 F Z σ H → ∀ Q : VK, (∀ v Z' H', Gr Z H Z' H' → Rep X.K Z' v (f d) → Q v H') → te σ H Q))
    {Z0 F Z : Hp} {σ : L2.St} {H : Hp} (s : StR X.K ρ Z0 F Z σ H) {Q : VK} (q : ∀ v Z' H' A, Gr Z H Z' H' → RepO X.K Z' F H' v (.lst (((xs.filter pb).map f).map .fz)) A → New H Z' A → Q v H') : tLc wi g tt te vs σ H Q := by
  refine h.run Z0 F Z σ H s _ fun J Z1 H1 g1 wk => ?_
  intro L hL
  have s1 := (s.grow g1).wipe vs
  refine ⟨fun j m H2 => m = xs.length - j ∧ j ≤ xs.length ∧ ∃ Z2 acc, Gr Z1 H1 Z2 H2 ∧ H2 L = some (.lst acc) ∧ Z2 L = none ∧ RepL X.K Z2 acc (((xs.take j).filter pb).map f),
    ⟨xs.length, by simp, Nat.zero_le _, Z1, [], Gr.new g1.zh hL, upd_same, g1.zh.free hL, .nil⟩, ?_⟩
  rintro j m H2 ⟨rfl, hj, Z2, acc, g2, hacc, zL, racc⟩
  by_cases hlt : j < xs.length
  · have ed : (xs.map enc)[j]? = some (enc xs[j]) := by simp [hlt]
    obtain ⟨w1, w2⟩ := wk.go j _ Z2 H2 ed g2.zz g2.hh g2.zh
    refine .inr ⟨w1, fun H3 => j + 1 ≤ xs.length ∧ ∃ Z2 acc, Gr Z1 H1 Z2 H3 ∧ H3 L = some (.lst acc) ∧ Z2 L = none ∧ RepL X.K Z2 acc (((xs.take (j + 1)).filter pb).map f), fun H3 q => ⟨xs.length - (j + 1), by omega, rfl, q⟩, fun x H3 hy => ?_⟩
    obtain ⟨Z3, g3, r3⟩ := w2 x H3 hy
    obtain ⟨τ, ws, t1, t2, t3, t4⟩ := hs _ (List.getElem_mem hlt)
    have g13 := g2.trans g3
    have etake : xs.take (j + 1) = xs.take j ++ [xs[j]] := (List.take_append_getElem hlt).symm
    refine t1.run Z0 F Z3 _ H3 x (s1.grow g13) r3 _ fun σ4 s4 w4 => ⟨by rw [w4 vs t2, wipe_wipe], ?_⟩
    refine t3 Z0 F Z3 σ4 H3 s4 _ fun Z5 H5 g5 => ?_
    have hL5 : H5 L = some (.lst acc) := g5.hh _ _ (g3.hh _ _ hacc)
    have zL5 : Z5 L = none := by rw [g5.nw L _ (g3.hh _ _ hacc), g3.nw L _ hacc, zL]
    have r5 := racc.mono (g3.zz.trans g5.zz)
    cases hp : pb xs[j] with
    | true =>
      rw [if_pos rfl]
      refine t4 hp Z0 F Z5 σ4 H5 (s4.grow g5) _ fun y Z6 H6 g6 r6 => ?_
      have hL6 := g6.hh _ _ hL5
      have zL6 : Z6 L = none := by rw [g6.nw L _ hL5, zL5]
      have hlen : acc.length < sizeLine := by
        rw [racc.length, List.length_map]
        exact Nat.lt_of_le_of_lt (Nat.le_trans (List.length_filter_le _ _) (by rw [List.length_take]; exact Nat.min_le_right _ _)) hz
      refine ⟨acc, hL6, hlen, hlt, Z6, acc ++ [y], ?_, upd_same, zL6, ?_⟩
      · have g16 := g13.trans (g5.trans g6)
        exact ⟨g16.zz, g16.hh.mut hL, g16.zh.mut zL6, g16.nw⟩
      · rw [etake, List.filter_append, List.map_append]
        have e1 : [xs[j]].filter pb = [xs[j]] := by simp [hp]
        rw [e1]
        exact (r5.mono g6.zz).append (.cons r6 .nil)
    | false =>
      rw [if_neg Bool.false_ne_true]
      refine ⟨hlt, Z5, acc, g13.trans g5, hL5, zL5, ?_⟩
      rw [etake, List.filter_append, List.map_append]
      have e1 : [xs[j]].filter pb = [] := by simp [hp]
      rw [e1, List.map_nil, List.append_nil]
      exact r5
  · have e : j = xs.length := by omega
    subst e
    have st := wk.stop Z2 H2 g2.zz g2.hh g2.zh
    rw [List.length_map] at st
    refine .inl ⟨st, q _ Z2 H2 [L] (g1.trans g2) (.lst hacc ?_) (new_one (g1.hh.free hL) zL)⟩
    rw [List.take_length] at racc
    exact racc.own
/-- [elt for target in source] -/
theorem me_lc {α : Type} {xs : List α} {enc : α → D} {wi : TI} {g : TG} {scope : Scope} {vs : List Nat} (p : ∀ te : TE, (∀ (s : Shared) (H : Hp) (C : Addr) (cl : List (Str × Addr)) (fp : List Addr), PE (X.blk s H scope (compEnvC scope cl C X.env) fp) elt te) → PE X e (tLc wi g tYes te vs))
    (h : MIc X ρ wi (xs.map enc)) (f : α → D) (hz : xs.length < sizeLine)
    (hs : ∀ d ∈ xs, ∃ τ ws, MTg g X.K (wipeS ρ vs) (enc d) τ ws ∧ (∀ w ∈ ws, w ∈ vs) ∧ ∀ (s : Shared) (H : Hp) (C : Addr) (cl : List (Str × Addr)) (fp : List Addr), ME (X.blk s H scope (compEnvC scope cl C X.env) fp) τ elt (.fz (f d))) :
    ME X ρ e (.lst ((xs.map f).map .fz)) := .mk fun Z0 F Z σ H s Q q => by
  refine PE_w (p (fun σ H Q => ∀ (s : Shared) (H' : Hp) (C : Addr) (cl : List (Str × Addr)) (fp : List Addr), wE (X.blk s H' scope (compEnvC scope cl C X.env) fp) elt σ H Q) fun s H' C cl fp => ⟨fun pins s' σ H Q I k => k s H' C cl fp pins s' I⟩) ?_
  refine lc_run h (fun _ => true) f hz (fun d m => ?_) s fun v Z' H' A g r n => q v Z' H' A g ?_ n
  · obtain ⟨τ, ws, t1, t2, t3⟩ := hs d m
    refine ⟨τ, ws, t1, t2, fun Z0 F Z σ H s Q q => q Z H (Gr.refl s.ex), fun _ Z0 F Z σ H s Q q s' H' C cl fp => (t3 s' H' C cl fp).run Z0 F Z σ H s Q fun v Z' H' A g r n => ?_⟩
    cases r with
    | fz r => exact q v Z' H' g r
  · rw [List.filter_eq_self.mpr fun _ _ => rfl] at r
    exact r
/-- (.., x, ..): a tuple of frozen things and one own slot's thing -/
structure MRs (X : Cx) (ρ : Slots) (es : List Expr) (os : List O) : Prop where
  run : ∀ (Z0 F Z : Hp) (σ : L2.St) (H : Hp), StR X.K ρ Z0 F Z σ H → ∀ Q : List V → Hp → Prop,
  (∀ vs Z' H' A, Gr Z H Z' H' → RepOL X.K Z' F H' vs os A → A.Nodup → (∀ a ∈ A, Z' a = none ∧ F a = none) → Q vs H') → wA X es σ H Q
theorem MF.rs (h : MF X ρ es ds) : MRs X ρ es (ds.map .fz) := .mk fun Z0 F Z σ H s Q q => h.run Z0 F Z σ H s Q fun vs Z' H' g r => q vs Z' H' [] g r.own List.nodup_nil fun _ m => nomatch m
end
end M
namespace M
open PySem L2 PySem.Spec PyProof.Rows
section
variable {X : Cx} {ρ : Slots} {e a b elt : Expr} {es : List Expr} {st : Stmt} {sts : List Stmt} {G : Go} {o o1 o2 : O} {d : D} {ds : List D} {pos p0 p1 : Pos} {i : Nat} {x nm : Str}
theorem ml_var (p : PE X (.Name x pos) (tVar i)) (h : ρ[i]? = some (some o)) (hl : IsLst o ds := by first | exact .vw _ | exact .fz _ | exact .own _ | exact .vwa _ _) : ML X ρ (.Name x pos) ds := MV.l (mv_var p h) hl
theorem mk_var (p : PE X (.Name x pos) (tVar i)) (h : ρ[i]? = some (some o)) (hl : o = .vw ds ∨ o = .fz (.lst ds) ∨ ∃ a, o = .vwa a ds := by first | exact .inl rfl | exact .inr (.inl rfl) | exact .inr (.inr ⟨_, rfl⟩)) : MK X ρ (.Name x pos) ds := by
  rcases hl with rfl | rfl | ⟨a, rfl⟩
  · exact MV.k (mv_var p h)
  · exact ME.k (me_var p h)
  · exact MV.ka (mv_var p h)
theorem le_auto {ρ τ : Slots} (l : Le ρ τ := by repeat (first | exact Le.nil | refine Le.no ?_ | refine Le.eq ?_)) : Le ρ τ := l
/-- for: R j holds ahead of turn j -/
theorem m_forR {wi : TI} {g : TG} {body : List Stmt} (p : PS X st (tFor wi g (wS X body))) (h : MI X ρ wi ds) (R : Nat → Slots) (h0 : Le ρ (R 0))
    (hs : ∀ (j : Nat) (d : D), ds[j]? = some d → ∃ τ' ws, MTg g X.K (R j) d τ' ws ∧ MS X τ' body { nx := fun τ => Le τ (R (j + 1)), ct := fun τ => Le τ (R (j + 1)), bk := G.nx, rt := G.rt, rs := G.rs })
    (hd : ∀ τ, Le τ (R ds.length) → G.nx τ) : MS1 X ρ st G := by
  refine m_for p h (fun j τ => Le τ (R j)) h0 (fun j d τ hj l => ?_) hd
  obtain ⟨τ', ws, t1, t2⟩ := hs j d hj
  exact ⟨τ', ws, .mk fun Z0 F Z σ H v s r Q q => t1.run Z0 F Z σ H v (s.le l) r Q q, t2⟩
/-- .. by a state: S j x holds ahead of turn j -/
theorem m_forS {α : Type} {wi : TI} {g : TG} {body : List Stmt} (p : PS X st (tFor wi g (wS X body))) (h : MI X ρ wi ds) (R : α → Slots) (S : Nat → α → Prop) (h0 : ∃ x, S 0 x ∧ Le ρ (R x))
    (hs : ∀ (j : Nat) (d : D) (x : α), ds[j]? = some d → S j x → ∃ τ' ws, MTg g X.K (R x) d τ' ws ∧ MS X τ' body { nx := fun τ => ∃ y, S (j + 1) y ∧ Le τ (R y), ct := fun τ => ∃ y, S (j + 1) y ∧ Le τ (R y), bk := G.nx, rt := G.rt, rs := G.rs })
    (hd : ∀ τ x, S ds.length x → Le τ (R x) → G.nx τ) : MS1 X ρ st G := by
  refine m_for p h (fun j τ => ∃ x, S j x ∧ Le τ (R x)) h0 (fun j d τ hj l => ?_) fun τ ⟨x, h1, h2⟩ => hd τ x h1 h2
  obtain ⟨x, l1, l2⟩ := l
  obtain ⟨τ', ws, t1, t2⟩ := hs j d x hj l1
  exact ⟨τ', ws, .mk fun Z0 F Z σ H v s r Q q => t1.run Z0 F Z σ H v (s.le l2) r Q q, t2⟩
/-- an own def, as it is called by its name -/
structure Fn1 (P : Program) (w : World) (K : PySem.W.Frag) (mg : Str → Option Value) (base : Heap) (name : Str) (k : Nat) (ps : List Str) (sp : Sp) : Prop where
  ex : ∃ (f : Addr) (fd : FuncData), mg name = some (.ref f) ∧ PySem.W.keepIn K (.ref f) = true ∧ Binds K fd ps [] ∧ FnOk P w K mg base CX0 k f fd ps sp
theorem me_fn {α : Type} {ar : α → List O} {pre : α → Prop} {res : α → O} {k : Nat} {ps : List Str} (c : Fn1 X.prog X.w X.K X.mg X.base nm k ps (SpM X.K ar pre res)) (x : α) (ha : MA X ρ (e :: es) (ar x)) (hp : pre x) (hr : Room k X.A) {o : O} (hres : res x = o := by first | (dsimp only; done) | (dsimp only; rfl) | rfl) (hg : Gl X nm := by rfl)
    (hdb : (nm == ("__debug__" : Str)) = false := by decide) (he : starEach (e :: es) X.env = (false, eval e X.env) :: starEach es X.env := by rfl) (hpl : (backTo pos (starEach es X.env)).any (·.1) = false := by rfl) : ME X ρ (.Call (.Name nm p0) (e :: es) [] pos) o := by
  subst hres
  obtain ⟨f, fd, hm, hk, hb, F⟩ := c.ex
  exact me_call (pe_call F hr hg hm hk hb .nil pass0 pa_w hdb he hpl) x ha hp
end
end M
namespace M
open PySem L2 PySem.Spec PyProof.Rows
inductive Smp : Nat → D → Prop where
  | non {n : Nat} : Smp n .non
  | bl {n : Nat} (b : Bool) : Smp n (.bl b)
  | int {n : Nat} (i : Int) : Smp n (.int i)
  | str {n : Nat} {x : Str} (h : (PyData.str x).canLay0 = true) : Smp n (.str x)
  | tup {n : Nat} {ds : List D} (h : ∀ d ∈ ds, Smp n d) : Smp (n + 1) (.tup ds)
  | lst {n : Nat} {ds : List D} (h : ∀ d ∈ ds, Smp n d) : Smp (n + 1) (.lst ds)
theorem D.plL_all : ∀ {ds : List D}, (∀ d ∈ ds, d.pl = true) → D.plL ds = true
  | [], _ => rfl
  | d :: r, h => by
    show (d.pl && D.plL r) = true
    rw [h d List.mem_cons_self, D.plL_all fun e m => h e (List.mem_cons_of_mem _ m)]
    rfl
theorem canL_all : ∀ {ds : List D}, (∀ d ∈ ds, d.py.canLay0 = true) → PyData.canLayAll0 (D.pyL ds) = true
  | [], _ => rfl
  | d :: r, h => by
    show (d.py.canLay0 && PyData.canLayAll0 (D.pyL r)) = true
    rw [h d List.mem_cons_self, canL_all fun e m => h e (List.mem_cons_of_mem _ m)]
    rfl
theorem depL_all {n : Nat} : ∀ {ds : List D}, (∀ d ∈ ds, d.py.depth ≤ n) → PyData.depthAll (D.pyL ds) ≤ n
  | [], _ => Nat.zero_le _
  | d :: r, h => Nat.max_le.mpr ⟨h d List.mem_cons_self, depL_all fun e m => h e (List.mem_cons_of_mem _ m)⟩
theorem Smp.all {n : Nat} {d : D} (h : Smp n d) : d.pl = true ∧ d.py.canLay0 = true ∧ d.py.depth ≤ n := by
  induction h with
  | non => exact ⟨rfl, rfl, Nat.zero_le _⟩
  | bl b => exact ⟨rfl, rfl, Nat.zero_le _⟩
  | int i => exact ⟨rfl, rfl, Nat.zero_le _⟩
  | str h => exact ⟨rfl, h, Nat.zero_le _⟩
  | tup h ih => exact ⟨D.plL_all fun d m => (ih d m).1, canL_all fun d m => (ih d m).2.1, Nat.succ_le_succ (depL_all fun d m => (ih d m).2.2)⟩
  | lst h ih => exact ⟨D.plL_all fun d m => (ih d m).1, canL_all fun d m => (ih d m).2.1, Nat.succ_le_succ (depL_all fun d m => (ih d m).2.2)⟩
theorem Smp.ok {n : Nat} {d : D} (h : Smp n d) (hn : n ≤ 64 := by decide) : d.ok := by
  obtain ⟨h1, h2, h3⟩ := h.all
  refine ⟨h1, ?_⟩
  unfold SeqAt.shaped
  rw [h2, decide_eq_true (Nat.le_trans h3 hn)]
  rfl
theorem eqvL_refl : ∀ {ds : List D}, (∀ d ∈ ds, d.eqv d = true) → PyData.eqvAll (D.pyL ds) (D.pyL ds) = true
  | [], _ => rfl
  | d :: r, h => by
    show (PyData.eqv d.py d.py && PyData.eqvAll (D.pyL r) (D.pyL r)) = true
    rw [show PyData.eqv d.py d.py = true from h d List.mem_cons_self, eqvL_refl fun e m => h e (List.mem_cons_of_mem _ m)]
    rfl
theorem Smp.eqv {n : Nat} {d : D} (h : Smp n d) : d.eqv d = true := by
  induction h with
  | non => rfl
  | bl b => exact beq_self_eq_true b
  | int i => exact beq_self_eq_true i
  | str h => exact beq_self_eq_true _
  | tup h ih => exact eqvL_refl ih
  | lst h ih => exact eqvL_refl ih
theorem smps_map {α : Type} {n : Nat} {f : α → D} {xs : List α} (h : ∀ x ∈ xs, Smp n (f x)) : ∀ d ∈ xs.map f, Smp n d := fun d m => by
  obtain ⟨x, hx, rfl⟩ := List.mem_map.mp m
  exact h x hx
section
variable {X : Cx} {ρ : Slots} {e a b elt : Expr} {es : List Expr} {st : Stmt} {sts : List Stmt} {G : Go} {o o1 o2 : O} {d : D} {ds : List D} {pos p0 p1 : Pos} {i : Nat} {x nm : Str}
end
section
variable {K : PySem.W.Frag} {Z0 Z Z' F H H' : Hp} {ρ : Slots} {σ : L2.St}
end
section
variable {X : Cx} {ρ : Slots} {e a b elt : Expr} {es : List Expr} {st : Stmt} {sts : List Stmt} {G : Go} {o o1 o2 : O} {d : D} {ds : List D} {pos p0 p1 : Pos} {i : Nat} {x nm : Str}
theorem mi_rangeN {n : Nat} (h : MF X ρ es [.int (n : Int)]) (hn : n < 2 ^ 62) : MI X ρ (iRng1 (wA X es)) (rng 0 n) := by
  have q := mi_range1 h (by omega) (by omega)
  rw [Int.toNat_natCast] at q
  exact q
theorem ME.is {o' : O} (h : ME X ρ e o) (q : o = o') : ME X ρ e o' := q ▸ h
/-- for over typed items -/
theorem m_forT {α : Type} {xs : List α} {enc : α → D} {wi : TI} {g : TG} {body : List Stmt} (p : PS X st (tFor wi g (wS X body))) (h : MI X ρ wi (xs.map enc)) (R : Nat → Slots) (h0 : Le ρ (R 0))
    (hs : ∀ (j : Nat) (x : α), xs[j]? = some x → ∃ τ' ws, MTg g X.K (R j) (enc x) τ' ws ∧ MS X τ' body { nx := fun τ => Le τ (R (j + 1)), ct := fun τ => Le τ (R (j + 1)), bk := G.nx, rt := G.rt, rs := G.rs })
    (hd : ∀ τ, Le τ (R xs.length) → G.nx τ) : MS1 X ρ st G := by
  refine m_forR p h R h0 (fun j d hj => ?_) fun τ l => hd τ (by rw [List.length_map] at l; exact l)
  rw [List.getElem?_map] at hj
  obtain ⟨x, hx, rfl⟩ := Option.map_eq_some_iff.mp hj
  exact hs j x hx
theorem m_forTS {α β : Type} {xs : List α} {enc : α → D} {wi : TI} {g : TG} {body : List Stmt} (p : PS X st (tFor wi g (wS X body))) (h : MI X ρ wi (xs.map enc)) (R : β → Slots) (S : Nat → β → Prop) (h0 : ∃ y, S 0 y ∧ Le ρ (R y))
    (hs : ∀ (j : Nat) (x : α) (y : β), xs[j]? = some x → S j y → ∃ τ' ws, MTg g X.K (R y) (enc x) τ' ws ∧ MS X τ' body { nx := fun τ => ∃ y, S (j + 1) y ∧ Le τ (R y), ct := fun τ => ∃ y, S (j + 1) y ∧ Le τ (R y), bk := G.nx, rt := G.rt, rs := G.rs })
    (hd : ∀ τ y, S xs.length y → Le τ (R y) → G.nx τ) : MS1 X ρ st G := by
  refine m_forS p h R S h0 (fun j d y hj => ?_) fun τ y h1 l => hd τ y (by rw [List.length_map] at h1; exact h1) l
  rw [List.getElem?_map] at hj
  obtain ⟨x, hx, rfl⟩ := Option.map_eq_some_iff.mp hj
  exact hs j x y hx
/-- for over a range -/
theorem m_forN {lo : Int} {n : Nat} {wi : TI} {g : TG} {body : List Stmt} (p : PS X st (tFor wi g (wS X body))) (h : MI X ρ wi (rng lo n)) (R : Nat → Slots) (h0 : Le ρ (R 0))
    (hs : ∀ (j : Nat), j < n → ∃ τ' ws, MTg g X.K (R j) (.int (lo + (j : Nat))) τ' ws ∧ MS X τ' body { nx := fun τ => Le τ (R (j + 1)), ct := fun τ => Le τ (R (j + 1)), bk := G.nx, rt := G.rt, rs := G.rs })
    (hd : ∀ τ, Le τ (R n) → G.nx τ) : MS1 X ρ st G := by
  refine m_forR p h R h0 (fun j d hj => ?_) fun τ l => hd τ (by rw [rng_len] at l; exact l)
  obtain ⟨h1, rfl⟩ := rng_get hj
  exact hs j h1
end
/-- a law's promise -/
def spLaw (K : PySem.W.Frag) : Sp := SpM K (fun ns : List Int => [.vw (ns.map .int)]) (fun ns => ns.length ≤ 63) (fun _ => .fz (.bl true))
theorem spLaw_of {K : PySem.W.Frag} {H : Hp} {a : Addr} {ns : List Int} {E : XK} (hS : SqL K H a (ns.map V.int)) (hl : ns.length ≤ 63) : spLaw K [.ref a] H (fun v _ => v = .bl true) E := by
  refine ⟨ns, fun _ => none, fun _ _ z => (by cases z), RepOL.cons (A := []) (B := []) (RepO.vw hS RepL.ofInts) RepOL.nil, hl, fun v Z' H' A g r n => ?_⟩
  cases r with
  | fz r =>
    cases r
    rfl
end M
namespace M
open PySem L2 PySem.Spec PyProof.Rows
theorem RepOL.set {K : PySem.W.Frag} {Z F H : Hp} {w : V} {d : D} (h : Rep K Z w d) : ∀ {vs : List V} {ds : List D} {A : List Addr} (j : Nat), RepOL K Z F H vs (ds.map .fz) A → RepOL K Z F H (vs.set j w) ((ds.set j d).map .fz) A
  | _, [], _, _, .nil => .nil
  | _, _ :: _, _, 0, .cons (.fz _) r => .cons (A := []) (.fz h) r
  | _, _ :: _, _, j + 1, .cons (.fz g) r => .cons (A := []) (.fz g) (RepOL.set h j r)
section
variable {X : Cx} {ρ : Slots} {e a b c elt : Expr} {es rest : List Expr} {st : Stmt} {sts : List Stmt} {G : Go} {o o1 o2 : O} {d : D} {ds : List D} {pos p0 p1 p2 p3 p4 p5 p6 : Pos} {i : Nat} {x nm : Str} {m n k : Int} {p q : Str}
/-- x[e1] = e2, x a slot with an own list of frozen things -/
theorem m_setItem {j : Nat} (pn : PE X (.Name x p1) (tVar i)) (hi : ρ[i]? = some (some (.lst (ds.map .fz)))) (h1 : ME X ρ a (.fz (.int k))) (h2 : ME X ρ b (.fz d)) (hj : ixN ds.length k = some j) (kk : G.nx (ρ.set i (some (.lst ((ds.set j d).map .fz)))))
    (pm : PS X (.Assign [.Subscript (.Name x p1) a p2] b p3) (tAsg (wE X b) (gSub (tVar i) (wE X a) rSetL)) := by exact ps_asg pe_w (pg_sub (pv _) pe_w set_list)) : MS1 X ρ (.Assign [.Subscript (.Name x p1) a p2] b p3) G := .mk fun Z0 F Z σ H D s g => by
  obtain ⟨v, A, e1, r1, nA, dA, k1⟩ := s.upd hi
  cases r1 with
  | @lst l vs _ A h0 r1 =>
    refine PS_w pm (h2.run Z0 F Z σ H s _ fun w Z1 H1 B g1 r2 n2 => ?_)
    refine ⟨_, e1, h1.run Z0 F Z1 σ H1 (s.grow g1) _ fun y Z2 H2 B2 g2 r3 n3 => ?_⟩
    cases r3 with
    | fz r3 =>
      cases r3
      cases r2 with
      | fz r2 =>
        have g12 := g1.trans g2
        have hl : ixN vs.length k = some j := by rw [r1.length, List.length_map]; exact hj
        refine ⟨l, vs, k, j, rfl, rfl, g12.hh _ _ h0, hl, ?_⟩
        have zl : Z2 l = none := by
          rw [g12.nw l _ h0]
          exact (dA l List.mem_cons_self).1
        obtain ⟨na, nA'⟩ := List.nodup_cons.mp nA
        have r1' : RepOL X.K Z2 F (upd H2 l (.lst (vs.set j w))) vs (ds.map .fz) A := r1.mono g12.zz (Ex.refl _) fun b m u hu => by
          have ne : b ≠ l := fun q => na (by rw [← q]; exact m)
          rw [upd_ne ne]
          exact g12.hh b u hu
        refine g.nx _ Z2 σ _ kk ?_
        refine k1 g12.zz g12.nw (g12.zh.mut zl) (fun b nb u hu => ?_) (.lst upd_same (r1'.set (r2.mono g2.zz) j)) nA fun b m => .inl m
        have ne : b ≠ l := fun q => nb (by rw [q]; exact List.mem_cons_self)
        rw [upd_ne ne]
        exact g12.hh b u hu

/-- [..] * n, a list of its own -/
def repG {α : Type} (xs : List α) (k : Int) : List α := (List.replicate k.toNat xs).flatten
theorem RepL.rep {K : PySem.W.Frag} {Z : Hp} {vs : List V} {ds : List D} (r : RepL K Z vs ds) : ∀ k : Nat, RepL K Z (List.replicate k vs).flatten (List.replicate k ds).flatten
  | 0 => .nil
  | k + 1 => by
    rw [List.replicate_succ, List.replicate_succ, List.flatten_cons, List.flatten_cons]
    exact r.append (r.rep k)
theorem me_rep (ha : MV X ρ a (.lst (ds.map .fz))) (hb : ME X ρ b (.fz (.int k))) (hk : -(2 ^ 63) ≤ k ∧ k < 2 ^ 63) (hl : ds.length * k.toNat ≤ sizeLine) : ME X ρ (.BinOp a .Mult b pos) (.lst ((repG ds k).map .fz)) := .mk fun Z0 F Z σ H s Q q =>
  PE_w (pe_op op_rep pe_w pe_w) (ha.run Z0 F Z σ H s _ fun v Z1 H1 A1 g1 r1 => hb.run Z0 F Z1 σ H1 (s.grow g1) _ fun w Z2 H2 A2 g2 r2 n2 => by
    cases r2 with
    | fz r2 =>
      cases r2
      cases r1 with
      | @lst l vs _ A h0 r1 =>
        have g := g1.trans g2
        obtain ⟨_, r1⟩ := r1.fzs
        refine ⟨l, k, vs, rfl, rfl, g2.hh _ _ h0, hk.1, hk.2, by rw [r1.length]; exact hl, fun p hp => ?_⟩
        exact q _ Z2 _ [p] (g.trans (Gr.new g.zh hp)) (.lst upd_same ((r1.mono g2.zz).rep _).own) (new_one (g.hh.free hp) (g.zh.free hp)))
theorem me_chain {op op' : CmpOp} {f f' : Int → Int → Bool} (ho : OpR X (compareOp op) (rI0 fun i j => .bl (f i j))) (ho' : OpR X (compareOp op') (rI0 fun i j => .bl (f' i j))) (ha : ME X ρ a (.fz (.int m))) (hb : ME X ρ b (.fz (.int n))) (hc : ME X ρ c (.fz (.int k)))
    (hm : lastMarks [op, op'] [b, c] = false := by with_unfolding_all rfl) : ME X ρ (.Compare a [op, op'] [b, c] pos) (.fz (.bl (f m n && f' n k))) := .mk fun Z0 F Z σ H s Q q =>
  PE_w (pe_chain ho ho' pe_w pe_w pe_w hm) (ha.run Z0 F Z σ H s _ fun v Z1 H1 A1 g1 r1 n1 => hb.run Z0 F Z1 σ H1 (s.grow g1) _ fun w Z2 H2 A2 g2 r2 n2 => by
    cases r1 with
    | fz r1 =>
      cases r1
      cases r2 with
      | fz r2 =>
        cases r2
        refine ⟨m, n, rfl, rfl, f m n, rfl, ?_⟩
        cases hf : f m n with
        | false =>
          rw [if_neg Bool.false_ne_true]
          have q' := q (.bl (f m n && f' n k)) Z2 H2 [] (g1.trans g2) (.fz (.bl _)) .nil
          rw [hf] at q'
          exact q'
        | true =>
          rw [if_pos rfl]
          refine hc.run Z0 F Z2 σ H2 (s.grow (g1.trans g2)) _ fun y Z3 H3 A3 g3 r3 n3 => ?_
          cases r3 with
          | fz r3 =>
            cases r3
            have q' := q (.bl (f m n && f' n k)) Z3 H3 [] ((g1.trans g2).trans g3) (.fz (.bl _)) .nil
            rw [hf] at q'
            exact ⟨n, k, rfl, rfl, q'⟩)
theorem me_strI (hg : Gl X "str") (hm : X.mg "str" = none) (ha : ME X ρ a (.fz (.int m))) (hl : m.natAbs.log2 < 1920) (n1 : NS X a := by exact fun _ => rfl) : ME X ρ (.Call (.Name "str" p0) [a] [] pos) (.fz (.str (toString m))) := .mk fun Z0 F Z σ H s Q q =>
  PE_w (pe_callTy call_str_int hg hm (by decide +kernel) (pa_cons pe_w pa_nil (n1 _)) (he := n1 _)) (ha.run Z0 F Z σ H s _ fun v Z1 H1 A1 g1 r1 n1 => by
    cases r1 with
    | fz r1 =>
      cases r1
      exact ⟨m, rfl, hl, q _ Z1 H1 [] g1 (.fz (.str _)) .nil⟩)
theorem me_divmod (hg : Gl X "divmod") (hm : X.mg "divmod" = none) (ha : ME X ρ a (.fz (.int m))) (hb : ME X ρ b (.fz (.int n))) (c : CDiv m n := by exact ⟨by decide, by decide⟩) (n1 : NS X a := by exact fun _ => rfl) (n2 : NS X b := by exact fun _ => rfl) :
    ME X ρ (.Call (.Name "divmod" p0) [a, b] [] pos) (.fz (.tup [.int (m / n), .int (m % n)])) := .mk fun Z0 F Z σ H s Q q =>
  PE_w (pe_callB call_divmod hg hm (by decide +kernel) (pa_cons pe_w (pa_cons pe_w pa_nil (n2 _)) (n1 _)) (he := n1 _) (hpl := by rw [n2 []]; rfl)) (ha.run Z0 F Z σ H s _ fun v Z1 H1 A1 g1 r1 n1 => hb.run Z0 F Z1 σ H1 (s.grow g1) _ fun w Z2 H2 A2 g2 r2 n2 => by
    cases r1 with
    | fz r1 =>
      cases r2 with
      | fz r2 =>
        cases r1
        cases r2
        have g := g1.trans g2
        refine ⟨m, n, rfl, c, fun p hp => ?_⟩
        exact q _ _ _ [] (g.trans (Gr.newz g.zh hp)) (.fz (.tup upd_same (.cons (.int _) (.cons (.int _) .nil)))) .nil)
theorem mt_niS {ch : Nat} (ha : ME X ρ a (.fz (.str ⟨#[ch]⟩))) (hb : ME X ρ b (.fz (.str q))) (hm : behindInMarks .NotIn b = false := by rfl) : MT X ρ (.Compare a [.NotIn] [b] pos) (!decide (ch ∈ q.cps.toList)) := mt_cmp op_notIn_sign ha hb (.str _) (.str _) (fun _ _ k => ⟨ch, q, rfl, rfl, k⟩) hm
/-- x = [elt for target in source], on one line -/
theorem m_setLc {α : Type} {xs : List α} {enc : α → D} {wi : TI} {g : TG} {scope : Scope} {vs : List Nat} (p : ∀ te : TE, (∀ (s : Shared) (H : Hp) (C : Addr) (cl : List (Str × Addr)) (fp : List Addr), PE (X.blk s H scope (compEnvC scope cl C X.env) fp) elt te) → PS X st (tAsg (tLc wi g tYes te vs) (gName i)))
    (h : MIc X ρ wi (xs.map enc)) (f : α → D) (hz : xs.length < sizeLine)
    (hs : ∀ d ∈ xs, ∃ τ ws, MTg g X.K (wipeS ρ vs) (enc d) τ ws ∧ (∀ w ∈ ws, w ∈ vs) ∧ ∀ (s : Shared) (H : Hp) (C : Addr) (cl : List (Str × Addr)) (fp : List Addr), ME (X.blk s H scope (compEnvC scope cl C X.env) fp) τ elt (.fz (f d)))
    (k : G.nx (ρ.set i (some (.lst ((xs.map f).map .fz))))) (hi : i < ρ.length := by exact Nat.le_of_ble_eq_true rfl) : MS1 X ρ st G := .mk fun Z0 F Z σ H D s gd => by
  refine PS_w (p (fun σ H Q => ∀ (s : Shared) (H' : Hp) (C : Addr) (cl : List (Str × Addr)) (fp : List Addr), wE (X.blk s H' scope (compEnvC scope cl C X.env) fp) elt σ H Q) fun s H' C cl fp => ⟨fun pins s' σ H Q I k => k s H' C cl fp pins s' I⟩) ?_
  refine lc_run h (fun _ => true) f hz (fun d m => ?_) s fun v Z' H' A g' r n => ?_
  · obtain ⟨τ, ws, t1, t2, t3⟩ := hs d m
    refine ⟨τ, ws, t1, t2, fun Z0 F Z σ H s Q q => q Z H (Gr.refl s.ex), fun _ Z0 F Z σ H s Q q s' H' C cl fp => (t3 s' H' C cl fp).run Z0 F Z σ H s Q fun v Z' H' A g r n => ?_⟩
    cases r with
    | fz r => exact q v Z' H' g r
  · rw [List.filter_eq_self.mpr fun _ _ => rfl] at r
    exact gd.nx _ Z' _ H' k (s.put g' r n hi)
theorem me_gI {t : Tok} (hm : X.mg nm = some (.int m t)) (hg : Gl X nm := by rfl) (hd : (nm == ("__debug__" : Str)) = false := by decide) : ME X ρ (.Name nm pos) (.fz (.int m)) := me_c (pe_glob (v := .int m) hg hm ⟨t, rfl⟩ hd) (.int m)
theorem me_gS {t : Tok} (hm : X.mg nm = some (.str p t)) (hg : Gl X nm := by rfl) (hd : (nm == ("__debug__" : Str)) = false := by decide) : ME X ρ (.Name nm pos) (.fz (.str p)) := me_c (pe_glob (v := .str p) hg hm ⟨t, rfl⟩ hd) (.str p)
end
end M
namespace M
open PySem L2 PySem.Spec PyProof.Rows
theorem Le.trans : ∀ {ρ τ υ : Slots}, Le ρ τ → Le τ υ → Le ρ υ
  | _, _, _, .nil, h => h
  | _, _, _, .no l, .no r => .no (l.trans r)
  | _, _, _, .no l, .eq r => .no (l.trans r)
  | _, _, _, .eq l, .no r => .no (l.trans r)
  | _, _, _, .eq l, .eq r => .eq (l.trans r)
/-- what the text tells of a class: its attributes' names are no names of the class -/
structure OC (K : PySem.W.Frag) (C : Addr) (ns : List Str) : Prop where
  cl : Cls K C
  na : ∀ f ∈ ns, NoAttr K C f
def nmAt : List Str → Str → Option Nat
  | [], _ => none
  | n :: r, f => if f = n then some 0 else (nmAt r f).map (· + 1)
theorem nmAt_mem : ∀ {ns : List Str} {f : Str} {j : Nat}, nmAt ns f = some j → f ∈ ns
  | n :: r, f, j, h => by
    unfold nmAt at h
    by_cases e : f = n
    · subst e
      exact List.mem_cons_self
    · rw [if_neg e] at h
      cases h1 : nmAt r f with
      | none =>
        rw [h1] at h
        cases h
      | some i => exact List.mem_cons_of_mem _ (nmAt_mem h1)
theorem look_zip : ∀ {ns : List Str} {f : Str} {j : Nat} {vs : List V} {v : V}, nmAt ns f = some j → vs[j]? = some v → (ns.zip vs).lookup f = some v
  | n :: r, f, j, vs, v, h, hv => by
    unfold nmAt at h
    cases vs with
    | nil => simp at hv
    | cons u us =>
      by_cases e : f = n
      · rw [if_pos e] at h
        cases h
        simp at hv
        subst hv
        show List.lookup f ((n, u) :: r.zip us) = _
        simp only [List.lookup, beq_iff_eq.mpr e]
      · rw [if_neg e] at h
        cases h1 : nmAt r f with
        | none =>
          rw [h1] at h
          cases h
        | some i =>
          rw [h1] at h
          cases h
          show List.lookup f ((n, u) :: r.zip us) = _
          simp only [List.lookup, beq_eq_false_iff_ne.mpr e]
          exact look_zip h1 (by simpa using hv)
theorem look_none : ∀ {ns : List Str} {f : Str} {vs : List V}, nmAt ns f = none → (ns.zip vs).lookup f = none
  | [], f, vs, _ => by simp
  | n :: r, f, [], _ => by simp
  | n :: r, f, u :: us, h => by
    unfold nmAt at h
    by_cases e : f = n
    · rw [if_pos e] at h
      cases h
    · rw [if_neg e] at h
      show List.lookup f ((n, u) :: r.zip us) = none
      simp only [List.lookup, beq_eq_false_iff_ne.mpr e]
      refine look_none ?_
      cases h1 : nmAt r f with
      | none => rfl
      | some i =>
        rw [h1] at h
        cases h
/-- a name is put: it stands there, or comes behind -/
def nsPut : List Str → Str → List Str
  | [], f => [f]
  | n :: r, f => if n = f then n :: r else n :: nsPut r f
def xsPut {α : Type} : List Str → Str → List α → α → List α
  | n :: r, f, u :: us, v => if n = f then v :: us else u :: xsPut r f us v
  | _, _, _, v => [v]
theorem put_zip : ∀ {ns : List Str} {f : Str} {vs : List V} {v : V}, vs.length = ns.length → putF f v (ns.zip vs) = (nsPut ns f).zip (xsPut ns f vs v)
  | [], f, [], v, _ => rfl
  | n :: r, f, u :: us, v, h => by
    show putF f v ((n, u) :: r.zip us) = _
    unfold putF nsPut xsPut
    by_cases e : n = f
    · rw [if_pos e, if_pos e, if_pos e]
      rfl
    · rw [if_neg e, if_neg e, if_neg e, put_zip (by simpa using h)]
      rfl
section
variable {K : PySem.W.Frag} {Z Z' F F' H H' : Hp}
theorem RepOL.put {w : V} {o : O} {B : List Addr} (r : RepO K Z F H w o B) (nB : B.Nodup) : ∀ {ns : List Str} {f : Str} {vs : List V} {os : List O} {A : List Addr}, vs.length = ns.length → RepOL K Z F H vs os A → A.Nodup → (∀ a ∈ A, a ∉ B) →
    ∃ A', RepOL K Z F H (xsPut ns f vs w) (xsPut ns f os o) A' ∧ A'.Nodup ∧ ∀ a ∈ A', a ∈ A ∨ a ∈ B
  | [], f, [], [], _, _, .nil, _, _ => ⟨B ++ [], .cons r .nil, by rw [List.append_nil]; exact nB, fun a m => .inr (by rw [List.append_nil] at m; exact m)⟩
  | n :: ns, f, v :: vs, o1 :: os, _, hl, .cons (A := A1) (B := A2) h1 h2, nA, d => by
    obtain ⟨n1, n2, n3⟩ := List.nodup_append.mp nA
    unfold xsPut
    by_cases e : n = f
    · rw [if_pos e, if_pos e]
      refine ⟨B ++ A2, .cons r h2, List.nodup_append.mpr ⟨nB, n2, fun a ha b hb e => ?_⟩, fun a m => ?_⟩
      · subst e
        exact d a (List.mem_append_right _ hb) ha
      · rcases List.mem_append.mp m with m | m
        · exact .inr m
        · exact .inl (List.mem_append_right _ m)
    · rw [if_neg e, if_neg e]
      obtain ⟨A', q1, q2, q3⟩ := RepOL.put r nB (ns := ns) (f := f) (vs := vs) (os := os) (by simpa using hl) h2 n2 fun a m => d a (List.mem_append_right _ m)
      refine ⟨A1 ++ A', .cons h1 q1, List.nodup_append.mpr ⟨n1, q2, fun a ha b hb e => ?_⟩, fun a m => ?_⟩
      · subst e
        rcases q3 a hb with z | z
        · exact n3 a ha a z rfl
        · exact d a (List.mem_append_left _ ha) z
      · rcases List.mem_append.mp m with m | m
        · exact .inl (List.mem_append_left _ m)
        · exact (q3 a m).imp (List.mem_append_right _) id
theorem RepO.unAt {v : V} {a C : Addr} {ns : List Str} {os : List O} {A : List Addr} (r : RepO K Z F H v (.at a C ns os) A) : RepO K Z F H v (.ins C ns os) A := by
  cases r with
  | «at» h q => exact .ins h q
end
section
variable {X : Cx} {ρ : Slots} {e a b c elt : Expr} {es rest : List Expr} {st : Stmt} {sts : List Stmt} {G : Go} {o o1 o2 : O} {d : D} {ds : List D} {os : List O} {pos p0 p1 p2 p3 p4 p5 p6 : Pos} {i : Nat} {x nm f : Str} {m n k : Int} {p q : Str} {C : Addr} {ns : List Str}
/-- e.f of a frozen instance -/
theorem me_fld {j : Nat} (h : MV X ρ e (.fz (.ins C ns ds))) (cc : OC X.K C ns) (hd : ds[j]? = some d := by rfl) (hj : nmAt ns f = some j := by decide +kernel) (hb : attributeBase e f X.env (eval e X.env) = eval e X.env := by rfl) : ME X ρ (.Attribute e f pos) (.fz d) := .mk fun Z0 F Z σ H s Q q =>
  PE_w (pe_fld pe_w hb) (h.run Z0 F Z σ H s _ fun v Z1 H1 A g1 r1 => by
    cases r1 with
    | fz r1 =>
      cases r1 with
      | @ins a C dx ns vs ds hz rl =>
        obtain ⟨v, hv, rv⟩ := rl.get hd
        exact ⟨a, C, dx, _, v, rfl, g1.zh _ _ hz, cc.cl, cc.na f (nmAt_mem hj), look_zip hj hv, q v Z1 H1 [] g1 (.fz rv) .nil⟩)
/-- e.f of an own instance -/
theorem mv_fld {j : Nat} (h : MV X ρ e (.ins C ns os)) (cc : OC X.K C ns) (hd : os[j]? = some o := by rfl) (hj : nmAt ns f = some j := by decide +kernel) (hb : attributeBase e f X.env (eval e X.env) = eval e X.env := by rfl) : MV X ρ (.Attribute e f pos) o := .mk fun Z0 F Z σ H s Q q =>
  PE_w (pe_fld pe_w hb) (h.run Z0 F Z σ H s _ fun v Z1 H1 A g1 r1 => by
    cases r1 with
    | @ins a C dx ns vs os A hz rl =>
      obtain ⟨v, B, hv, rv⟩ := rl.get hd
      exact ⟨a, C, dx, _, v, rfl, hz, cc.cl, cc.na f (nmAt_mem hj), look_zip hj hv, q v Z1 H1 B g1 rv⟩)
theorem MV.unAt {l : Addr} (h : MV X ρ e (.at l C ns os)) : MV X ρ e (.ins C ns os) := .mk fun Z0 F Z σ H s Q q => h.run Z0 F Z σ H s Q fun v Z1 H1 A g r => q v Z1 H1 A g r.unAt
theorem ME.unAt {l : Addr} (h : ME X ρ e (.at l C ns os)) : ME X ρ e (.ins C ns os) := .mk fun Z0 F Z σ H s Q q => h.run Z0 F Z σ H s Q fun v Z1 H1 A g r => q v Z1 H1 A g r.unAt
theorem mv_fldA {l : Addr} {j : Nat} (h : MV X ρ e (.at l C ns os)) (cc : OC X.K C ns) (hd : os[j]? = some o := by rfl) (hj : nmAt ns f = some j := by decide +kernel) (hb : attributeBase e f X.env (eval e X.env) = eval e X.env := by rfl) : MV X ρ (.Attribute e f pos) o := mv_fld h.unAt cc hd hj hb
/-- x.f = e, x a slot with an own instance at a known place; all: every attribute's name that the class has -/
theorem m_setFld {l : Addr} {all : List Str} (pn : PE X (.Name x p1) (tVar i)) (hi : ρ[i]? = some (some (.at l C ns os))) (hl : os.length = ns.length := by rfl) (h1000 : ns.length < 1000 := by decide) (cc : OC X.K C all) (hm : f ∈ all := by decide +kernel) (he : ME X ρ e o)
    (kk : G.nx (ρ.set i (some (.at l C (nsPut ns f) (xsPut ns f os o)))))
    (hs : swapsWith e (some (.Attribute (.Name x p1) f p2)) p3.line X.env = pure false := by rfl) : MS1 X ρ (.Assign [.Attribute (.Name x p1) f p2] e p3) G := .mk fun Z0 F Z σ H D s g => by
  obtain ⟨v, A, e1, r1, nA, dA, k1⟩ := s.upd hi
  cases r1 with
  | @«at» l C dx ns vs os A h0 r1 =>
    have hlv : vs.length = ns.length := by rw [r1.length]; exact hl
    refine PS_w (ps_fld pn pe_w hs) (he.run Z0 F Z σ H s _ fun w Z1 H1 B g1 r2 n2 => ?_)
    refine ⟨_, e1, l, C, dx, _, rfl, g1.hh _ _ h0, cc.cl, cc.na f hm, by rw [List.length_zip, hlv]; omega, ?_⟩
    rw [put_zip hlv]
    obtain ⟨na, nA'⟩ := List.nodup_cons.mp nA
    have zl : Z1 l = none := by
      rw [g1.nw l _ h0]
      exact (dA l List.mem_cons_self).1
    have there : ∀ b ∈ l :: A, ∃ u, H b = some u := (RepO.at (Z := Z) (F := F) (H := H) h0 r1).there
    have nb : ∀ b ∈ B, b ≠ l := fun b m q => by
      have := (n2.2 b m).1
      rw [q, h0] at this
      cases this
    have r1' : RepOL X.K Z1 F (upd H1 l (.ins C dx ((nsPut ns f).zip (xsPut ns f vs w)))) vs os A := r1.mono g1.zz (Ex.refl _) fun b m u hu => by
      have ne : b ≠ l := fun q => na (by rw [← q]; exact m)
      rw [upd_ne ne]
      exact g1.hh b u hu
    have r2' : RepO X.K Z1 F (upd H1 l (.ins C dx ((nsPut ns f).zip (xsPut ns f vs w)))) w o B := r2.frame fun b m => upd_ne (nb b m)
    obtain ⟨A', q1, q2, q3⟩ := RepOL.put r2' n2.1 hlv r1' nA' fun b m mb => by
      obtain ⟨u, hu⟩ := there b (List.mem_cons_of_mem _ m)
      rw [(n2.2 b mb).1] at hu
      cases hu
    refine g.nx _ Z1 σ _ kk ?_
    refine k1 g1.zz g1.nw (g1.zh.mut zl) (fun b nb u hu => ?_) (.at upd_same q1) (List.nodup_cons.mpr ⟨fun m => ?_, q2⟩) fun b m => ?_
    · have ne : b ≠ l := fun q => nb (by rw [q]; exact List.mem_cons_self)
      rw [upd_ne ne]
      exact g1.hh b u hu
    · rcases q3 _ m with z | z
      · exact na z
      · exact nb _ z rfl
    · rcases List.mem_cons.mp m with z | z
      · exact .inl (by rw [z]; exact List.mem_cons_self)
      · rcases q3 _ z with z | z
        · exact .inl (List.mem_cons_of_mem _ z)
        · exact .inr (n2.2 b z)
/-- the promise of an __init__: of a new instance it makes one with the attributes ns -/
def SpI {α : Type} (K : PySem.W.Frag) (C : Addr) (ns : List Str) (ar : α → List O) (pre : α → Prop) (res : α → List O) : Sp := fun vs H Q _ => ∃ (x : α) (Z F : Hp) (l dx : Addr) (vs' : List V), vs = .ref l :: vs' ∧ Ex Z F ∧ Ex F H ∧ F l = none ∧ H l = some (.ins C dx []) ∧ RepOL K Z F F vs' (ar x) [] ∧ pre x ∧
  ∀ Z' H' A, Gr Z F Z' H' → RepO K Z' (fun _ => none) H' (.ref l) (.at l C ns (res x)) A → New F Z' A → Q .non H'
structure Mk1 (P : Program) (w : World) (K : PySem.W.Frag) (mg : Str → Option Value) (base : Heap) (name : Str) (C : Addr) (k : Nat) (ps : List Str) (sp : Sp) : Prop where
  ex : ∃ (f : Addr) (fd : FuncData), mg name = some (.ref C) ∧ Mk K C f ∧ Binds K fd ps [] ∧ FnOk P w K mg base CX0 k f fd ps sp
theorem me_make {α : Type} {ar : α → List O} {pre : α → Prop} {res : α → List O} {k : Nat} {ps : List Str} (c : Mk1 X.prog X.w X.K X.mg X.base nm C k ps (SpI X.K C ns ar pre res)) (x : α) (ha : MA X ρ (e :: es) (ar x)) (hp : pre x) (hr : Room (k + 1) X.A) {os : List O} (hres : res x = os := by first | (dsimp only; done) | (dsimp only; rfl) | rfl) (hg : Gl X nm := by rfl)
    (hdb : (nm == ("__debug__" : Str)) = false := by decide) (he : starEach (e :: es) X.env = (false, eval e X.env) :: starEach es X.env := by rfl) (hpl : (backTo pos (starEach es X.env)).any (·.1) = false := by rfl) : ME X ρ (.Call (.Name nm p0) (e :: es) [] pos) (.ins C ns os) := by
  subst hres
  obtain ⟨f, fd, hm, M, hb, F⟩ := c.ex
  exact .mk fun Z0 F0 Z σ H s Q q => PE_w (pe_make M F hr hg hm hb .nil pass0 pa_w hdb he hpl) (ha.run Z0 F0 Z σ H s _ fun vs Z1 H1 g1 r1 l dx nl ndx ne =>
    ⟨x, Z1, H1, l, dx, vs, by rw [List.append_nil], g1.zh, (Ex.new ndx).trans (Ex.new (by rw [upd_ne ne.symm]; exact nl)), nl, upd_same, r1, hp, fun Z2 H2 A g2 r2 n2 =>
      ⟨rfl, q (.ref l) Z2 H2 A (g1.trans g2) (r2.unAt.mono (Ex.refl _) (fun _ _ z => by cases z) fun _ _ _ z => z) ⟨n2.1, fun a m => ⟨g1.hh.free (n2.2 a m).1, (n2.2 a m).2⟩⟩⟩⟩)
/-- an __init__'s body keeps its promise -/
theorem fn_mI {α : Type} {P : Program} {w : World} {K : PySem.W.Frag} {mg : Str → Option Value} {base : Heap} {x qual : Str} {st : Stmt} {f : Addr} {fd : FuncData} {N ps : List Str} {k : Nat} {ar : α → List O} {pre : α → Prop} {res : α → List O} {C : Addr} {ns : List Str}
    (F : Fun K x qual st f fd) (S : FnScope N ps (defScope st)) (hl : ∀ x, (ar x).length + 1 = ps.length) (hn : ∀ x, pre x → O.nvL (res x) = true)
    (hb : ∀ (cdv : Value) (A : Around) (outer : List Env) (s : Shared) (H : Hp) (E : XK), Room k (A.deeper (envOfC qual (defScope st) s.heap.objs.size f cdv)) → ∀ (l : Addr) x, pre x →
      MS (cxOf CX0 P w K mg base N qual (defScope st) f cdv A outer s H E).nox (some (.at l C [] []) :: (ar x).map some ++ List.replicate (N.length - ps.length) none) (defBody st) { nx := fun ρ => ρ[0]? = some (some (.at l C ns (res x))) }) :
    FnOk P w K mg base CX0 (k + 1) f fd ps (SpI K C ns ar pre res) := by
  refine F.ok S (fun vs H Q E h => ?_) (fun cdv A outer s H vs Q E hr h => ?_)
  · obtain ⟨x, Z, F, l, dx, vs', rfl, _, _, _, _, r, _⟩ := h
    rw [List.length_cons, r.length, hl]
  · obtain ⟨x, Z, F0, l, dx, vs', rfl, ez, ef, nl, hi, r, hp, q⟩ := h
    have zl : Z l = none := ez.free nl
    have st0 : StL K Z F0 H (some (.at l C [] []) :: (ar x).map some) (some (.ref l) :: vs'.map some) ([l] ++ []) := .so (.at (dx := dx) hi .nil) (stL_args (r.mono (Ex.refl _) (Ex.refl _) fun _ m => nomatch m))
    refine ⟨_, pss_w, (hb cdv A outer s H E hr l x hp).run Z F0 Z _ H _ ⟨⟨Ex.refl _, ef, ez.trans ef, fun _ _ _ => rfl⟩, [l] ++ [], ?_, by simp, fun a m => ?_⟩ ⟨fun ρ Z' σ H' e s' => ?_, fun _ _ _ _ z => z.elim, fun _ _ _ _ z => z.elim, fun _ _ _ _ _ z => z.elim, fun _ _ _ _ _ _ z => z.elim, GX.never fun _ z => z⟩⟩
    · have e : L2.start N (.ref l :: vs') = (some (.ref l) :: vs'.map some) ++ List.replicate (N.length - ps.length) none := by
        unfold L2.start
        rw [List.length_cons, r.length, hl]
        rfl
      rw [e]
      exact stL_more _ st0
    · have : a = l := by simpa using m
      subst this
      exact ⟨zl, nl⟩
    · obtain ⟨A1, t1, t2, t3⟩ := s'.st
      obtain ⟨v, B, u1, u2, u3, u4, _⟩ := t1.at e t2
      cases u2 with
      | «at» h0 rl => exact q Z' H' _ s'.gr ((RepO.at h0 rl).unF (show O.nvL (res x) = true from hn x hp)) ⟨u3, fun a m => ⟨(t3 a (u4 a m)).2, (t3 a (u4 a m)).1⟩⟩
structure Mt1 (P : Program) (w : World) (K : PySem.W.Frag) (mg : Str → Option Value) (base : Heap) (C : Addr) (m : Str) (k : Nat) (ps : List Str) (sp : Sp) : Prop where
  ex : ∃ (f : Addr) (fd : FuncData), Meth K C m f ∧ Binds K fd ps [] ∧ FnOk P w K mg base CX0 k f fd ps sp
theorem me_mt {α : Type} {ar : α → List O} {pre : α → Prop} {res : α → O} {k : Nat} {ps : List Str} {ro : List O} {pl : Sem Bool} (c : Mt1 X.prog X.w X.K X.mg X.base C nm k ps (SpM X.K ar pre res)) (cc : OC X.K C ns) (x : α) (ho : MV X ρ a (.fz (.ins C ns ds))) (ha : MA X ρ (e :: es) ro) (hx : ar x = .fz (.ins C ns ds) :: ro) (hp : pre x) (hr : Room k X.A) {o : O} (hres : res x = o := by first | (dsimp only; done) | (dsimp only; rfl) | rfl)
    (hnm : nmAt ns nm = none := by decide +kernel) (he : starEach (e :: es) X.env = (false, eval e X.env) :: starEach es X.env := by rfl) (hpl : (backTo pos (starEach es X.env)).any (·.1) = false := by rfl)
    (ht : eval (.Call (.Attribute a nm p1) (e :: es) [] pos) X.env = (do
      let ov ← eval a X.env
      standAt p1.atName
      let (f, first) ← holding [ov] (getMethod ov nm pl)
      callWith pos f first (backTo pos (starEach (e :: es) X.env)) (backToKw pos (keywordEach [] X.env))) := by rfl) : ME X ρ (.Call (.Attribute a nm p1) (e :: es) [] pos) o := by
  subst hres
  obtain ⟨f, fd, hm, hb, F⟩ := c.ex
  exact .mk fun Z0 F0 Z σ H s Q q => PE_w (pe_meth (pl := pl) pe_w cc.cl hm F hr hb .nil pass0 pa_w he hpl ht) (ho.run Z0 F0 Z σ H s _ fun v Z1 H1 A1 g1 r1 => by
    cases r1 with
    | fz r1 =>
      have r1' := r1
      cases r1' with
      | @ins l C dx ns vs0 ds hz rl =>
        refine ⟨l, dx, _, rfl, g1.zh _ _ hz, look_none hnm, ha.run Z0 F0 Z1 σ H1 (s.grow g1) _ fun vs Z2 H2 g2 r2 => ?_⟩
        refine ⟨x, Z2, g2.zh, by rw [List.append_nil, hx]; exact .cons (A := []) (.fz (r1.mono g2.zz)) r2, hp, fun v Z3 H3 A g3 r3 n3 => ?_⟩
        exact q v Z3 H3 A ((g1.trans g2).trans g3) (r3.mono (Ex.refl _) (fun _ _ z => by cases z) fun _ _ _ z => z) ⟨n3.1, fun a m => ⟨(g1.trans g2).hh.free (n3.2 a m).1, (n3.2 a m).2⟩⟩)
theorem me_mt0 {α : Type} {ar : α → List O} {pre : α → Prop} {res : α → O} {k : Nat} {ps : List Str} {pl : Sem Bool} (c : Mt1 X.prog X.w X.K X.mg X.base C nm k ps (SpM X.K ar pre res)) (cc : OC X.K C ns) (x : α) (ho : MV X ρ a (.fz (.ins C ns ds))) (hx : ar x = [.fz (.ins C ns ds)]) (hp : pre x) (hr : Room k X.A) {o : O} (hres : res x = o := by first | (dsimp only; done) | (dsimp only; rfl) | rfl)
    (hnm : nmAt ns nm = none := by decide +kernel)
    (ht : eval (.Call (.Attribute a nm p1) [] [] pos) X.env = (do
      let ov ← eval a X.env
      standAt p1.atName
      let (f, first) ← holding [ov] (getMethod ov nm pl)
      callWith pos f first (backTo pos (starEach [] X.env)) (backToKw pos (keywordEach [] X.env))) := by rfl) : ME X ρ (.Call (.Attribute a nm p1) [] [] pos) o := by
  subst hres
  obtain ⟨f, fd, hm, hb, F⟩ := c.ex
  exact .mk fun Z0 F0 Z σ H s Q q => PE_w (pe_meth0 (pl := pl) pe_w cc.cl hm F hr hb .nil pass0 ht) (ho.run Z0 F0 Z σ H s _ fun v Z1 H1 A1 g1 r1 => by
    cases r1 with
    | fz r1 =>
      have r1' := r1
      cases r1' with
      | @ins l C dx ns vs0 ds hz rl =>
        refine ⟨l, dx, _, rfl, g1.zh _ _ hz, look_none hnm, ?_⟩
        refine ⟨x, Z1, g1.zh, by rw [List.append_nil, hx]; exact .cons (A := []) (.fz r1) .nil, hp, fun v Z3 H3 A g3 r3 n3 => ?_⟩
        exact q v Z3 H3 A (g1.trans g3) (r3.mono (Ex.refl _) (fun _ _ z => by cases z) fun _ _ _ z => z) ⟨n3.1, fun a m => ⟨g1.hh.free (n3.2 a m).1, (n3.2 a m).2⟩⟩)
end
end M
namespace M
open PySem L2 PySem.Spec PyProof.Rows
section
variable {X : Cx} {ρ : Slots} {e a b c elt : Expr} {es rest : List Expr} {st : Stmt} {sts : List Stmt} {G : Go} {o o1 o2 : O} {d : D} {ds : List D} {os : List O} {pos p0 p1 p2 p3 p4 p5 p6 : Pos} {i : Nat} {x nm f : Str} {m n k : Int} {p q : Str} {C : Addr} {ns : List Int}
/-- s.m(t) of texts -/
theorem me_s1 {id : String} {name : Str} {d : D} {r : V → List V → Hp → VK → Prop} (slot : Slot "str" name id) (ty : typeOf (.builtin id) = pure (.type "method_descriptor")) (rule : MtR X id r) (ha : ME X ρ a (.fz (.str p))) (hb : ME X ρ b (.fz d2)) {y z : V} (s2 : Sc d2 y) (s3 : Sc d z)
    (h : ∀ H (Q : VK), Q z H → r (.str p) [y] H Q) (hs : starEach [b] X.env = [(false, eval b X.env)] := by rfl) (hbase : attributeBase a name X.env (eval a X.env) = eval a X.env := by rfl) (hline : (p1.endLine == pos.line) = true := by rfl) :
    ME X ρ (.Call (.Attribute a name p1) [b] [] pos) (.fz d) := .mk fun Z0 F Z σ H s Q q =>
  PE_w (pe_m1 slot ty rule pe_w pe_w hs hbase hline) (ha.run Z0 F Z σ H s _ fun v Z1 H1 A1 g1 r1 n1 => by
    cases r1 with
    | fz r1 =>
      cases r1
      refine ⟨⟨_, rfl⟩, hb.run Z0 F Z1 σ H1 (s.grow g1) _ fun v Z2 H2 A2 g2 r2 n2 => ?_⟩
      cases r2 with
      | fz r2 =>
        have e := s2.eq r2
        subst e
        exact h H2 _ (q _ Z2 H2 [] (g1.trans g2) (.fz s3.rep) .nil))
theorem me_zfill (ha : ME X ρ a (.fz (.str p))) (hb : ME X ρ b (.fz (.int k))) (hk : PadOk k = true := by decide) (hs : starEach [b] X.env = [(false, eval b X.env)] := by rfl) (hbase : attributeBase a "zfill" X.env (eval a X.env) = eval a X.env := by rfl) (hline : (p1.endLine == pos.line) = true := by rfl) :
    ME X ρ (.Call (.Attribute a "zfill" p1) [b] [] pos) (.fz (.str (Txt.zfill p k))) := me_s1 F.slot_str_zfill F.type_str_zfill mt_zfill ha hb (.int k) (.str _) (fun H Q q => ⟨p, k, rfl, rfl, hk, q⟩) hs hbase hline
end
end M
namespace M
open PySem L2 PySem.Spec PyProof.Rows
section
variable {X : Cx} {tg : Expr}
end
section
variable {X : Cx} {ρ : Slots} {es : List Expr} {k j : Int}
end
end M
namespace M
open PySem L2 PySem.Spec PyProof.Rows
section
variable {X : Cx} {ρ : Slots} {a b : Expr} {pos : Pos} {k l : Bool}
end
end M
namespace M
open PySem L2 PySem.Spec PyProof.Rows
section
variable {β : Type} {K : PySem.W.Frag} {Z : Hp} {enc : β → D}
end
section
variable {X : Cx} {ρ : Slots} {a : Expr} {pos p0 p1 p2 p3 p4 : Pos} {β : Type} {enc : β → D} {bs : List β}
end
section
variable {X : Cx} {ρ : Slots} {a b e : Expr} {G : Go} {pos p0 p1 p2 p3 p4 : Pos} {k l : Bool} {i : Nat} {x : Str} {d : D} {ds : List D}
theorem mt_neB (ha : ME X ρ a (.fz (.bl k))) (hb : ME X ρ b (.fz (.bl l))) : MT X ρ (.Compare a [.NotEq] [b] pos) (!(k == l)) := mt_cmp op_ne ha hb (.bl k) (.bl l) (fun _ _ q => ⟨rfl, by rw [dec_bl]; exact q⟩) (nomark _)
end
end M
namespace M
open PySem L2 PySem.Spec PyProof.Rows
structure OI (K : PySem.W.Frag) (C : Addr) : Prop where
  cl : Cls K C
  ha : PySem.W.findIn K (.ref C) "__class__" = some (some (.builtin "object.__class__"))
  hn : PySem.W.specialIn K (.builtin "object.__class__") "__get__" = some (some (.builtin "getset_descriptor.__get__"))
  htk : PySem.W.takesIn K (.builtin "object.__class__") = some true
  hm : PySem.W.mroIn K C (.type "object") = some true
section
variable {X : Cx} {ρ : Slots} {a : Expr} {pos p0 p1 : Pos} {C E : Addr} {ns : List Str} {ds : List D} {os : List O} {nm : Str} {k : Bool} {o : O}
/-- isinstance(e, N), e an instance of the class at C, N the class at E -/
theorem me_isiC (hg : Gl X "isinstance") (hm : X.mg "isinstance" = none) (hE : X.mg nm = some (.ref E)) (ha : MV X ρ a (.fz (.ins C ns ds))) (oi : OI X.K C) (hk : PySem.W.kitOne X.K (.ref C) (.ref E) = some k) (hgE : Gl X nm := by rfl) (hd : (nm == ("__debug__" : Str)) = false := by decide) (n1 : NS X a := by exact fun _ => rfl) :
    ME X ρ (.Call (.Name "isinstance" p0) [a, .Name nm p1] [] pos) (.fz (.bl k)) := .mk fun Z0 F Z σ H s Q q =>
  PE_w (pe_callB call_isi hg hm (by decide +kernel) (pa_cons pe_w (pa_cons (pe_glob (v := .ref E) hgE hE rfl hd) pa_nil) (n1 _)) (he := n1 _)) (ha.run Z0 F Z σ H s _ fun v Z1 H1 A1 g1 r1 => by
    cases r1 with
    | fz r1 =>
      cases r1 with
      | @ins l C dx ns vs ds hz rl =>
        exact ⟨.ref l, .ref E, .ref C, .ref E, k, rfl, .own E, .base (.ins (g1.zh _ _ hz) oi.cl oi.ha oi.hn oi.htk oi.hm), hk, q _ Z1 H1 [] g1 (.fz (.bl k)) .nil⟩)
end
section
variable {K : PySem.W.Frag} {Z0 Z Z' F F' H H' : Hp} {ρ : Slots} {σ : L2.St}
theorem StL.push {v : V} {o : O} {B : List Addr} (r : RepO K Z F H v o B) : ∀ {ρ : Slots} {σ : L2.St} {A : List Addr}, StL K Z F H ρ σ A → StL K Z F H (ρ ++ [some o]) (σ ++ [some v]) (A ++ B)
  | _, _, _, .nil => by
    have := StL.so r (.nil (K := K) (Z := Z) (F := F) (H := H))
    rw [List.append_nil] at this
    exact this
  | _, _, _, .no h => .no (h.push r)
  | _, _, _, .so q h => by
    rw [List.append_assoc]
    exact .so q (h.push r)
theorem StR.push {v : V} {o : O} {B : List Addr} (s : StR K ρ Z0 F Z σ H) (g : Gr Z H Z' H') (r : RepO K Z' F H' v o B) (n : New H Z' B) : StR K (ρ ++ [some o]) Z0 F Z' (σ ++ [some v]) H' := by
  have s' := s.grow g
  obtain ⟨A, h1, h2, h3⟩ := s.st
  have m1 : StL K Z' F H' ρ σ A := h1.mono g.zz fun a _ u e => g.hh a u e
  refine ⟨s'.gr, A ++ B, m1.push r, List.nodup_append.mpr ⟨h2, n.1, fun a ha b hb e => ?_⟩, fun a m => ?_⟩
  · subst e
    obtain ⟨u, e⟩ := h1.there a ha
    rw [(n.2 a hb).1] at e
    cases e
  · rcases List.mem_append.mp m with z | z
    · obtain ⟨u, e⟩ := h1.there a z
      exact ⟨(g.nw a u e).trans (h3 a z).1, (h3 a z).2⟩
    · exact ⟨(n.2 a z).2, s.gr.hh.free (n.2 a z).1⟩
theorem StL.last' : ∀ {τ : Slots} {υ : L2.St} {A : List Addr}, StL K Z F H τ υ A → A.Nodup → ∀ {ρ : Slots} {o : O} {σ : L2.St} {v : V}, τ = ρ ++ [some o] → υ = σ ++ [some v] → ∃ B C, StL K Z F H ρ σ B ∧ RepO K Z F H v o C ∧ (B ++ C).Nodup ∧ (∀ a ∈ B ++ C, a ∈ A)
  | _, _, _, .nil, _, ρ, o, σ, v, e1, e2 => by simp at e1
  | _, _, _, .no h, n, ρ, o, σ, v, e1, e2 => by
    cases ρ with
    | nil => simp at e1
    | cons x ρ =>
      cases σ with
      | nil =>
        have l := h.length
        simp at e1 e2
        rw [e1.2, e2.2] at l
        simp at l
      | cons y σ =>
        simp at e1 e2
        obtain ⟨e1a, e1b⟩ := e1
        obtain ⟨e2a, e2b⟩ := e2
        obtain ⟨B, C, q1, q2, q3, q4⟩ := h.last' n e1b e2b
        subst e1a
        exact ⟨B, C, .no q1, q2, q3, q4⟩
  | _, _, _, .so (A := A1) (B := A2) r h, n, ρ, o, σ, v, e1, e2 => by
    obtain ⟨n1, n2, n3⟩ := List.nodup_append.mp n
    cases ρ with
    | nil =>
      cases σ with
      | nil =>
        simp at e1 e2
        obtain ⟨e1a, e1b⟩ := e1
        obtain ⟨e2a, e2b⟩ := e2
        subst e1a e1b e2a e2b
        cases h
        exact ⟨[], A1, .nil, r, by simpa using n, fun a m => by simpa using m⟩
      | cons y σ =>
        have l := h.length
        simp at e1 e2
        rw [e1.2, e2.2] at l
        simp at l
    | cons x ρ =>
      cases σ with
      | nil =>
        have l := h.length
        simp at e1 e2
        rw [e1.2, e2.2] at l
        simp at l
      | cons y σ =>
        simp at e1 e2
        obtain ⟨e1a, e1b⟩ := e1
        obtain ⟨e2a, e2b⟩ := e2
        obtain ⟨B, C, q1, q2, q3, q4⟩ := h.last' n2 e1b e2b
        subst e1a e2a
        refine ⟨A1 ++ B, C, .so r q1, q2, ?_, fun a m => ?_⟩
        · rw [List.append_assoc]
          exact List.nodup_append.mpr ⟨n1, q3, fun a ha b hb => n3 a ha b (q4 b hb)⟩
        · rw [List.append_assoc] at m
          rcases List.mem_append.mp m with m | m
          · exact List.mem_append_left _ m
          · exact List.mem_append_right _ (q4 a m)
theorem StL.last {ρ : Slots} {o : O} {σ : L2.St} {v : V} {A : List Addr} (h : StL K Z F H (ρ ++ [some o]) (σ ++ [some v]) A) (n : A.Nodup) : ∃ B C, StL K Z F H ρ σ B ∧ RepO K Z F H v o C ∧ (B ++ C).Nodup ∧ (∀ a ∈ B ++ C, a ∈ A) := h.last' n rfl rfl
theorem StR.pop {v : V} {o : O} (s : StR K (ρ ++ [some o]) Z0 F Z (σ ++ [some v]) H) : StR K ρ Z0 F Z σ H := by
  obtain ⟨A, h1, h2, h3⟩ := s.st
  obtain ⟨B, C, q1, q2, q3, q4⟩ := h1.last h2
  exact ⟨s.gr, B, q1, (List.nodup_append.mp q3).1, fun a m => h3 a (q4 a (List.mem_append_left _ m))⟩
/-- what is behind comes to a slot -/
theorem StR.take {v : V} {o : O} {i : Nat} (s : StR K (ρ ++ [some o]) Z0 F Z (σ ++ [some v]) H) (hi : i < ρ.length) : StR K (ρ.set i (some o)) Z0 F Z (σ.set i (some v)) H := by
  obtain ⟨A, h1, h2, h3⟩ := s.st
  obtain ⟨B, C, q1, q2, q3, q4⟩ := h1.last h2
  obtain ⟨n1, n2, n3⟩ := List.nodup_append.mp q3
  obtain ⟨A', r1, r2, r3⟩ := StL.put q2 q1 hi n1 n2 fun a ha hb => n3 a hb a ha rfl
  refine ⟨s.gr, A', r1, r2, fun a m => h3 a (q4 a ?_)⟩
  rcases r3 a m with z | z
  · exact List.mem_append_left _ z
  · exact List.mem_append_right _ z
/-- a slot's own thing changes; what was its own may be frozen -/
theorem StR.updX {i : Nat} {o : O} (s : StR K ρ Z0 F Z σ H) (hi : ρ[i]? = some (some o)) : ∃ v A, σ[i]? = some (some v) ∧ RepO K Z F H v o A ∧ A.Nodup ∧ (∀ a ∈ A, Z a = none ∧ F a = none) ∧
    ∀ {Z' H' : Hp} {w : V} {o' p : O} {B : List Addr}, Ex Z Z' → (∀ a, a ∉ A → ∀ u, H a = some u → Z' a = Z a) → Ex Z' H' → (∀ a, a ∉ A → ∀ u, H a = some u → H' a = some u) → RepOL K Z' F H' [v, w] [o', p] B → B.Nodup → (∀ a ∈ B, (a ∈ A ∨ H a = none) ∧ Z' a = none) →
      StR K (ρ.set i (some o') ++ [some p]) Z0 F Z' (σ ++ [some w]) H' := by
  obtain ⟨A, h1, h2, h3⟩ := s.st
  obtain ⟨v, B0, q1, q2, q3, q4, q5⟩ := h1.at hi h2
  refine ⟨v, B0, q1, q2, q3, fun a m => h3 a (q4 a m), fun {Z' H' w o' p B} ez nz zh k r n d => ?_⟩
  cases r with
  | @cons _ _ _ _ A1 B1 ra r =>
    cases r with
    | @cons _ _ _ _ A2 B2 rb r =>
      cases r
      rw [List.append_nil] at n d
      obtain ⟨n1, n2, n3⟩ := List.nodup_append.mp n
      have apart : ∀ a ∈ A1 ++ A2, a ∈ A → a ∈ B0 := fun a m ma => by
        rcases (d a m).1 with z | z
        · exact z
        · obtain ⟨u, e⟩ := h1.there a ma
          rw [z] at e
          cases e
      obtain ⟨A', r1, r2, r3⟩ := q5 (v' := v) ez (fun a _ nb u e => k a nb u e) ra n1 fun a m ma => apart a (List.mem_append_left _ m) ma
      rw [set_same q1] at r1
      have hF : ∀ a u, F a = some u → a ∉ B0 := fun a u e m => by
        rw [(h3 a (q4 a m)).2] at e
        cases e
      refine ⟨⟨s.gr.zz.trans ez, fun a u e => k a (hF a u e) u (s.gr.hh a u e), zh, fun a u e => (nz a (hF a u e) u (s.gr.hh a u e)).trans (s.gr.nw a u e)⟩, A' ++ A2, r1.push rb, List.nodup_append.mpr ⟨r2, n2, fun a ha b hb e => ?_⟩, fun a m => ?_⟩
      · subst e
        rcases r3 a ha with z | z
        · exact z.2 (apart a (List.mem_append_right _ hb) z.1)
        · exact n3 a z a hb rfl
      · have new : a ∈ A1 ++ A2 → Z' a = none ∧ F a = none := fun y => by
          refine ⟨(d a y).2, ?_⟩
          rcases (d a y).1 with z | z
          · exact (h3 a (q4 a z)).2
          · exact s.gr.hh.free z
        rcases List.mem_append.mp m with m | m
        · rcases r3 a m with z | z
          · obtain ⟨u, e⟩ := h1.there a z.1
            exact ⟨(nz a z.2 u e).trans (h3 a z.1).1, (h3 a z.1).2⟩
          · exact new (List.mem_append_left _ z)
        · exact new (List.mem_append_right _ m)
end
structure MX (X : Cx) (ρ : Slots) (e : Expr) (o : O) (ρ' : Slots) : Prop where
  run : ∀ (Z0 F Z : Hp) (σ : L2.St) (H : Hp), StR X.K ρ Z0 F Z σ H → ∀ Q : VK, (∀ v Z' H', StR X.K (ρ' ++ [some o]) Z0 F Z' (σ ++ [some v]) H' → Q v H') → wE X e σ H Q
section
variable {X : Cx} {ρ ρ' : Slots} {e : Expr} {st : Stmt} {G : Go} {o : O} {i : Nat}
theorem ME.x (h : ME X ρ e o) : MX X ρ e o ρ := .mk fun Z0 F Z σ H s Q q => h.run Z0 F Z σ H s Q fun v Z' H' A g r n => q v Z' H' (s.push g r n)
theorem m_exprX (p : PS X st (tDrop (wE X e))) (h : MX X ρ e o ρ') (k : G.nx ρ') : MS1 X ρ st G := .mk fun Z0 F Z σ H D s g =>
  PS_w p (h.run Z0 F Z σ H s _ fun v Z' H' s' => g.nx ρ' Z' σ H' k s'.pop)
end
end M
namespace M
open PySem L2 PySem.Spec PyProof.Rows
def SpX {α : Type} (K : PySem.W.Frag) (ar : α → List O) (pre : α → Prop) (s0 s1 : Addr → α → O) (res : α → O) : Sp := fun vs H Q _ => ∃ (x : α) (Z F : Hp) (l : Addr) (vs' : List V) (A : List Addr), vs = .ref l :: vs' ∧ Ex Z F ∧ Ex F H ∧ A.Nodup ∧ (∀ a ∈ A, F a = none) ∧ RepO K Z F H (.ref l) (s0 l x) A ∧ RepOL K Z F F vs' (ar x) [] ∧ pre x ∧
  ∀ v Z' H' B, Gr Z F Z' H' → RepOL K Z' (fun _ => none) H' [.ref l, v] [s1 l x, res x] B → B.Nodup → (∀ a ∈ B, F a = none ∧ Z' a = none) → Q v H'
/-- such a def's body keeps its promise -/
theorem fn_mX {α : Type} {P : Program} {w : World} {K : PySem.W.Frag} {mg : Str → Option Value} {base : Heap} {x qual : Str} {st : Stmt} {f : Addr} {fd : FuncData} {N ps : List Str} {k : Nat} {ar : α → List O} {pre : α → Prop} {s0 s1 : Addr → α → O} {res : α → O}
    (F : Fun K x qual st f fd) (S : FnScope N ps (defScope st)) (hl : ∀ x, (ar x).length + 1 = ps.length) (hn1 : ∀ l x, pre x → (s1 l x).nv = true) (hn2 : ∀ x, pre x → (res x).nv = true) (hat : ∀ l x, ∃ C ns os, s1 l x = .at l C ns os)
    (hb : ∀ (cdv : Value) (A : Around) (outer : List Env) (s : Shared) (H : Hp) (E : XK), Room k (A.deeper (envOfC qual (defScope st) s.heap.objs.size f cdv)) → ∀ (l : Addr) x, pre x →
      MS (cxOf CX0 P w K mg base N qual (defScope st) f cdv A outer s H E).nox (some (s0 l x) :: (ar x).map some ++ List.replicate (N.length - ps.length) none) (defBody st) { nx := fun ρ => res x = .fz .non ∧ ρ[0]? = some (some (s1 l x)), rs := fun o ρ => o = res x ∧ ρ[0]? = some (some (s1 l x)) }) :
    FnOk P w K mg base CX0 (k + 1) f fd ps (SpX K ar pre s0 s1 res) := by
  refine F.ok S (fun vs H Q E h => ?_) (fun cdv A outer s H vs Q E hr h => ?_)
  · obtain ⟨x, Z, F, l, vs', A, rfl, _, _, _, _, _, r, _⟩ := h
    rw [List.length_cons, r.length, hl]
  · obtain ⟨x, Z, F0, l, vs', A0, rfl, ez, ef, nA, fA, rs, r, hp, q⟩ := h
    obtain ⟨C, ns, os, hs1⟩ := hat l x
    have st0 : StL K Z F0 H (some (s0 l x) :: (ar x).map some) (some (.ref l) :: vs'.map some) (A0 ++ []) := .so rs (stL_args (r.mono (Ex.refl _) (Ex.refl _) fun _ m => nomatch m))
    refine ⟨_, pss_w, (hb cdv A outer s H E hr l x hp).run Z F0 Z _ H _ ⟨⟨Ex.refl _, ef, ez.trans ef, fun _ _ _ => rfl⟩, A0 ++ [], ?_, by rw [List.append_nil]; exact nA, fun a m => ?_⟩ ⟨fun ρ Z' σ H' e s' => ?_, fun _ _ _ _ z => z.elim, fun _ _ _ _ z => z.elim, fun _ _ _ _ _ z => z.elim, fun o ρ v Z' σ H' e s' => ?_, GX.never fun _ z => z⟩⟩
    · have e : L2.start N (.ref l :: vs') = (some (.ref l) :: vs'.map some) ++ List.replicate (N.length - ps.length) none := by
        unfold L2.start
        rw [List.length_cons, r.length, hl]
        rfl
      rw [e]
      exact stL_more _ st0
    · rw [List.append_nil] at m
      exact ⟨ez.free (fA a m), fA a m⟩
    · obtain ⟨en, e⟩ := e
      obtain ⟨A1, t1, t2, t3⟩ := s'.st
      obtain ⟨v, B, u1, u2, u3, u4, _⟩ := t1.at e t2
      have hn := hn1 l x hp
      rw [hs1] at u2 hn
      cases u2 with
      | @«at» _ _ dx _ vs1 _ B1 h0 rl =>
        refine q .non Z' H' ((l :: B1) ++ ([] ++ [])) s'.gr (.cons ?_ (.cons (A := []) ?_ .nil)) (by simpa using u3) fun a m => ?_
        · rw [hs1]
          exact (RepO.at h0 rl).unF hn
        · rw [en]
          exact .fz .non
        · have m : a ∈ l :: B1 := by simpa using m
          exact ⟨(t3 a (u4 a m)).2, (t3 a (u4 a m)).1⟩
    · obtain ⟨en, e⟩ := e
      subst en
      obtain ⟨A1, t1, t2, t3⟩ := s'.st
      obtain ⟨B, Cc, w1, w2, w3, w4⟩ := t1.last t2
      obtain ⟨n1, n2, n3⟩ := List.nodup_append.mp w3
      obtain ⟨v0, B0, u1, u2, u3, u4, _⟩ := w1.at e n1
      have hn := hn1 l x hp
      rw [hs1] at u2 hn
      cases u2 with
      | @«at» _ _ dx _ vs1 _ B1 h0 rl =>
        refine q v Z' H' ((l :: B1) ++ (Cc ++ [])) s'.gr (.cons ?_ (.cons (w2.unF (hn2 x hp)) .nil)) ?_ fun a m => ?_
        · rw [hs1]
          exact (RepO.at h0 rl).unF hn
        · rw [List.append_nil]
          exact List.nodup_append.mpr ⟨u3, n2, fun a ha b hb => n3 a (u4 a ha) b hb⟩
        · rw [List.append_nil] at m
          have m2 : a ∈ B ++ Cc := by
            rcases List.mem_append.mp m with z | z
            · exact List.mem_append_left _ (u4 a z)
            · exact List.mem_append_right _ z
          exact ⟨(t3 a (w4 a m2)).2, (t3 a (w4 a m2)).1⟩
/-- an __init__ that is such a def makes a new instance -/
theorem SpX.init {α : Type} {P : Program} {w : World} {K : PySem.W.Frag} {mg : Str → Option Value} {base : Heap} {CX : CXT} {k : Nat} {f : Addr} {fd : FuncData} {ps : List Str} {ar : α → List O} {pre : α → Prop} {s0 s1 : Addr → α → O} {β : Type} {arb : β → List O} {preb : β → Prop} {resb : β → List O} {C : Addr} {ns : List Str} (g : β → α)
    (h : FnOk P w K mg base CX k f fd ps (SpX K ar pre s0 s1 fun _ => .fz .non)) (har : ∀ y, ar (g y) = arb y) (hp : ∀ y, preb y → pre (g y)) (h0 : ∀ l y, s0 l (g y) = .at l C [] []) (h1 : ∀ l y, s1 l (g y) = .at l C ns (resb y)) :
    FnOk P w K mg base CX k f fd ps (SpI K C ns arb preb resb) := h.imp fun vs H Q E hh => by
  obtain ⟨y, Z, F, l, dx, vs', rfl, ez, ef, nl, hi, r, hpr, q⟩ := hh
  have fl : ∀ a ∈ [l], F a = none := fun a m => by
    have e : a = l := by simpa using m
    rw [e]
    exact nl
  refine ⟨g y, Z, F, l, vs', [l], rfl, ez, ef, by simp, fl, ?_, by rw [har]; exact r, hp y hpr, fun v Z' H' B gg rr nB dB => ?_⟩
  · rw [h0]
    exact .at (dx := dx) hi .nil
  · cases rr with
    | @cons _ _ _ _ A1 B1 ra rb =>
      cases rb with
      | @cons _ _ _ _ A2 B2 rb rc =>
        cases rc
        cases rb with
        | fz rb =>
          cases rb
          rw [h1] at ra
          rw [List.append_nil, List.append_nil] at nB dB
          exact q Z' H' _ gg ra ⟨nB, dB⟩
section
variable {X : Cx} {ρ : Slots} {e a b : Expr} {es : List Expr} {pos p0 p1 p2 : Pos} {i : Nat} {xx nm : Str} {C : Addr} {ns ns' all : List Str} {os os' : List O} {ds : List D} {o o' : O}
/-- the callee's share of the heap: all but the cells at A -/
def wo (H : Hp) (A : List Addr) : Hp := fun a => if a ∈ A then none else H a
theorem wo_in {H : Hp} {A : List Addr} {a : Addr} (h : a ∈ A) : wo H A a = none := if_pos h
theorem wo_out {H : Hp} {A : List Addr} {a : Addr} (h : a ∉ A) : wo H A a = H a := if_neg h
theorem ex_wo {H : Hp} {A : List Addr} : Ex (wo H A) H := fun a u h => by
  by_cases m : a ∈ A
  · rw [wo_in m] at h; cases h
  · rw [wo_out m] at h; exact h
theorem ex_to_wo {Z H : Hp} {A : List Addr} (e : Ex Z H) (n : ∀ a ∈ A, Z a = none) : Ex Z (wo H A) := fun a u h => by
  by_cases m : a ∈ A
  · rw [n a m] at h; cases h
  · rw [wo_out m]; exact e a u h
theorem wo_none {H : Hp} {A : List Addr} {a : Addr} (h : wo H A a = none) : a ∈ A ∨ H a = none := by
  by_cases m : a ∈ A
  · exact .inl m
  · rw [wo_out m] at h; exact .inr h
/-- the core: what a promise of that kind gives at a state whose slot i holds the thing -/
theorem spX_at {α : Type} {ar : α → List O} {pre : α → Prop} {s0 s1 : Addr → α → O} {res : α → O} {Z0 F Z Z1 H H1 : Hp} {σ : L2.St} {E : XK} {Q : VK} {A : List Addr} {vs : List V} {l : Addr} (x : α) (dA : ∀ a ∈ A, Z a = none ∧ F a = none) (nA : A.Nodup) (s : StR X.K ρ Z0 F Z σ H) (g1 : Gr Z H Z1 H1) (there : ∀ a ∈ A, ∃ u, H a = some u)
    (r : RepO X.K Z F H (.ref l) (s0 l x) A) (ra : RepL X.K Z1 vs ds) (hx : ar x = ds.map .fz) (hp : pre x)
    (q : ∀ w Z2 H2 B, Ex Z Z2 → (∀ a, a ∉ A → ∀ u, H a = some u → Z2 a = Z a) → Ex Z2 H2 → (∀ a, a ∉ A → ∀ u, H a = some u → H2 a = some u) → RepOL X.K Z2 F H2 [.ref l, w] [s1 l x, res x] B → B.Nodup → (∀ a ∈ B, (a ∈ A ∨ H a = none) ∧ Z2 a = none) → Q w H2) :
    SpX X.K ar pre s0 s1 res (.ref l :: (vs ++ [])) H1 Q E := by
  have z1 : ∀ a ∈ A, Z1 a = none := fun a m => by
    obtain ⟨u, e⟩ := there a m
    rw [g1.nw a u e]
    exact (dA a m).1
  refine ⟨x, Z1, wo H1 A, l, vs, A, by rw [List.append_nil], ex_to_wo g1.zh z1, ex_wo, nA, fun a m => wo_in m, r.mono g1.zz (ex_to_wo (s.gr.hh.trans g1.hh) fun a m => (dA a m).2) fun a _ u e => g1.hh a u e, by rw [hx]; exact ra.own, hp, fun w Z2 H2 B g2 rb nB dB => ?_⟩
  have keep : ∀ a, a ∉ A → ∀ u, H a = some u → wo H1 A a = some u := fun a na u e => by
    rw [wo_out na]
    exact g1.hh a u e
  refine q w Z2 H2 B (g1.zz.trans g2.zz) (fun a na u e => (g2.nw a u (keep a na u e)).trans (g1.nw a u e)) g2.zh (fun a na u e => g2.hh a u (keep a na u e)) (rb.mono (Ex.refl _) (fun _ _ z => by cases z) fun _ _ _ z => z) nB fun a m => ?_
  refine ⟨?_, (dB a m).2⟩
  rcases wo_none (dB a m).1 with z | z
  · exact .inl z
  · exact .inr (g1.hh.free z)
theorem pe_cfn {CX : CXT} {k : Nat} {f : Addr} {fd : FuncData} {ps : List Str} {sp : Sp} {dvs : List V} {dd : List Value} {E : XK} {t : TA} {mc : Value} {pl : Sem Bool} (hg : Gl X xx) (hmC : X.mg xx = some (.ref C)) (r : ClX.CRead X.K C mc) (kv : ClX.CVal X.K C mc nm (.ref f) (.ref f)) (hk : PySem.W.keepIn X.K (.ref f) = true)
    (F : FnOk X.prog X.w X.K X.mg X.base CX k f fd ps sp) (hr : Room k X.A) (hb : Binds X.K fd ps dd) (hd : Vals dvs dd) (hx : Passes CX X E) (ha : PA X (e :: es) t) (hdb : (xx == ("__debug__" : Str)) = false := by decide)
    (hst : starEach (e :: es) X.env = (false, eval e X.env) :: starEach es X.env := by rfl) (hpl : (backTo pos (starEach es X.env)).any (·.1) = false := by rfl)
    (ht : eval (.Call (.Attribute (.Name xx p0) nm p1) (e :: es) [] pos) X.env = (do
      let ov ← eval (.Name xx p0) X.env
      standAt p1.atName
      let (f, first) ← holding [ov] (getMethod ov nm pl)
      callWith pos f first (backTo pos (starEach (e :: es) X.env)) (backToKw pos (keywordEach [] X.env))) := by rfl) :
    PE X (.Call (.Attribute (.Name xx p0) nm p1) (e :: es) [] pos) (tCall sp dvs E t) := by
  refine ⟨fun pins s σ H Q I h => ?_⟩
  have he : PE X (.Name xx p0) (tC (.ref C)) := pe_glob (v := .ref C) hg hmC rfl hdb
  refine PySem.W.methodCall_KW (pl := pl) (thn (he.run pins s σ H (fun x H1 => x = .ref C ∧ H1 = H) I ⟨rfl, rfl⟩) fun u s1 ⟨x, H1, I1, rx, ex, eH⟩ => ?_) ht
  subst ex eH
  obtain rfl : u = Value.ref C := rx
  refine PySem.W.method_cls I1.kIn r.ga (ClX.getcval_ok I1 r kv fun s2 I2 => ?_)
  refine PySem.W.callWith_K (first := []) (h₀ := X.base) I.ok.mod.kin hk (thn (ha.run pos pins s2 σ H1 _ I2 h) fun us s3 ⟨vs, H2, I3, r3, q3⟩ => ⟨I3.kIn, ?_⟩) hst hpl
  exact run_fn F hr hb hd hx I3 r3 q3
structure Cf1 (P : Program) (w : World) (K : PySem.W.Frag) (mg : Str → Option Value) (base : Heap) (nmC m : Str) (k : Nat) (ps : List Str) (sp : Sp) : Prop where
  ex : ∃ (C : Addr) (mc : Value) (f : Addr) (fd : FuncData), mg nmC = some (.ref C) ∧ ClX.CRead K C mc ∧ ClX.CVal K C mc m (.ref f) (.ref f) ∧ PySem.W.keepIn K (.ref f) = true ∧ Binds K fd ps [] ∧ FnOk P w K mg base CX0 k f fd ps sp
/-- N.m(x, e, ..), x a slot with an own instance at a known place, that changes -/
theorem mx_cfn {α : Type} {ar : α → List O} {pre : α → Prop} {s0 s1 : Addr → α → O} {res : α → O} {k : Nat} {ps : List Str} {l : Addr} {nmC : Str} {pl : Sem Bool} (c : Cf1 X.prog X.w X.K X.mg X.base nmC nm k ps (SpX X.K ar pre s0 s1 res)) (x : α) (pn : PE X (.Name xx p2) (tVar i)) (hi : ρ[i]? = some (some (.at l C ns os))) (ha : MF X ρ es ds) (h0 : s0 l x = .at l C ns os) (hx : ar x = ds.map .fz) (hp : pre x) (hr : Room k X.A)
    (hg : Gl X nmC := by rfl) (hdb : (nmC == ("__debug__" : Str)) = false := by decide) (hst : starEach (.Name xx p2 :: es) X.env = (false, eval (.Name xx p2) X.env) :: starEach es X.env := by rfl) (hpl : (backTo pos (starEach es X.env)).any (·.1) = false := by rfl)
    (ht : eval (.Call (.Attribute (.Name nmC p0) nm p1) (.Name xx p2 :: es) [] pos) X.env = (do
      let ov ← eval (.Name nmC p0) X.env
      standAt p1.atName
      let (f, first) ← holding [ov] (getMethod ov nm pl)
      callWith pos f first (backTo pos (starEach (.Name xx p2 :: es) X.env)) (backToKw pos (keywordEach [] X.env))) := by rfl) : MX X ρ (.Call (.Attribute (.Name nmC p0) nm p1) (.Name xx p2 :: es) [] pos) (res x) (ρ.set i (some (s1 l x))) := by
  obtain ⟨Cc, mc, f, fd, hmC, r, kv, hk, hb, F⟩ := c.ex
  refine .mk fun Z0 F0 Z σ H s Q q => PE_w (pe_cfn (pl := pl) hg hmC r kv hk F hr hb .nil pass0 (pa_cons pn pa_w hst) hdb hst hpl ht) ?_
  obtain ⟨v, A, e1, r1, nA, dA, k1⟩ := s.updX hi
  have th := r1.there
  cases r1 with
  | @«at» l _ dx _ vs0 _ A h0' rl =>
    refine ⟨_, e1, ha.run Z0 F0 Z σ H s _ fun vs Z1 H1 g1 ra => ?_⟩
    exact spX_at x dA nA s g1 th (by rw [h0]; exact .at h0' rl) ra hx hp fun w Z2 H2 B a1 a2 a3 a4 rb nB dB => q w Z2 H2 (k1 a1 a2 a3 a4 rb nB dB)
end
end M
namespace M
open PySem L2 PySem.Spec PyProof.Rows
def D.flat : D → Bool
  | .non => true
  | .bl _ => true
  | .int _ => true
  | .str _ => true
  | _ => false
def D.v : D → V
  | .bl b => .bl b
  | .int i => .int i
  | .str x => .str x
  | _ => .non
theorem Rep.flat {K : PySem.W.Frag} {Z : Hp} {v : V} {d : D} (r : Rep K Z v d) (h : d.flat = true) : v = d.v := by
  cases r with
  | non => rfl
  | bl b => rfl
  | int i => rfl
  | str x => rfl
  | _ => cases h
theorem RepL.flat {K : PySem.W.Frag} {Z : Hp} : ∀ {vs : List V} {ds : List D}, RepL K Z vs ds → ds.all D.flat = true → vs = ds.map D.v
  | _, _, .nil, _ => rfl
  | _, _, .cons a r, h => by
    rw [List.all_cons, Bool.and_eq_true] at h
    rw [List.map_cons, a.flat h.1, r.flat h.2]
theorem D.flat_v : ∀ {d : D}, d.flat = true → flatV d.v = true
  | .non, _ => rfl
  | .bl _, _ => rfl
  | .int _, _ => rfl
  | .str _, _ => rfl
theorem D.flat_vs : ∀ {ds : List D}, ds.all D.flat = true → (ds.map D.v).all flatV = true
  | [], _ => rfl
  | d :: r, h => by
    rw [List.all_cons, Bool.and_eq_true] at h
    rw [List.map_cons, List.all_cons, D.flat_v h.1, D.flat_vs h.2]
    rfl
/-- d stands among ds -/
def D.among (d : D) (ds : List D) : Bool := inV d.v (ds.map D.v)
section
variable {X : Cx} {ρ : Slots} {a b : Expr} {pos : Pos} {d : D} {ds : List D}
theorem inT_core {neg : Bool} {op : CmpOp} (ho : OpR X (compareOp op) (rIn X.K neg)) (ha : ME X ρ a (.fz d)) (hb : MU X ρ b ds) (hf : d.flat = true) (hfs : ds.all D.flat = true) {Z0 F Z : Hp} {σ : L2.St} {H : Hp} (s : StR X.K ρ Z0 F Z σ H) {Q : VK} (q : ∀ Z' H', Gr Z H Z' H' → Q (.bl (if neg then !(d.among ds) else d.among ds)) H') : tOp (rIn X.K neg) (wE X a) (wE X b) σ H Q :=
  ha.run Z0 F Z σ H s _ fun v Z1 H1 A1 g1 r1 n1 => by
    cases r1 with
    | fz r1 =>
      have e1 := r1.flat hf
      subst e1
      refine hb.run Z0 F Z1 σ H1 (s.grow g1) _ fun l vs Z2 H2 g2 l2 r2 => ?_
      have e2 := r2.flat hfs
      subst e2
      exact ⟨l, _, rfl, .inr l2, D.flat_v hf, D.flat_vs hfs, q Z2 H2 (g1.trans g2)⟩
theorem inL_core {neg : Bool} {op : CmpOp} (ho : OpR X (compareOp op) (rIn X.K neg)) (ha : ME X ρ a (.fz d)) (hb : ML X ρ b ds) (hf : d.flat = true) (hfs : ds.all D.flat = true) {Z0 F Z : Hp} {σ : L2.St} {H : Hp} (s : StR X.K ρ Z0 F Z σ H) {Q : VK} (q : ∀ Z' H', Gr Z H Z' H' → Q (.bl (if neg then !(d.among ds) else d.among ds)) H') : tOp (rIn X.K neg) (wE X a) (wE X b) σ H Q :=
  ha.run Z0 F Z σ H s _ fun v Z1 H1 A1 g1 r1 n1 => by
    cases r1 with
    | fz r1 =>
      have e1 := r1.flat hf
      subst e1
      refine hb.run Z0 F Z1 σ H1 (s.grow g1) _ fun l vs Z2 H2 g2 l2 r2 => ?_
      have e2 := r2.flat hfs
      subst e2
      exact ⟨l, _, rfl, .inl l2, D.flat_v hf, D.flat_vs hfs, q Z2 H2 (g1.trans g2)⟩
theorem mt_niT (ha : ME X ρ a (.fz d)) (hb : MU X ρ b ds) (hf : d.flat = true := by rfl) (hfs : ds.all D.flat = true := by rfl) (hm : behindInMarks .NotIn b = false := by rfl) : MT X ρ (.Compare a [.NotIn] [b] pos) (!(d.among ds)) := .mk fun Z0 F Z σ H s Q q =>
  PT_w (pt_cmpR op_notIn_seq pe_w pe_w hm) (inT_core op_notIn_seq ha hb hf hfs s fun Z' H' g => ⟨_, rfl, q Z' H' g⟩)
theorem mt_inL (ha : ME X ρ a (.fz d)) (hb : ML X ρ b ds) (hf : d.flat = true := by rfl) (hfs : ds.all D.flat = true := by rfl) (hm : behindInMarks .In b = false := by rfl) : MT X ρ (.Compare a [.In] [b] pos) (d.among ds) := .mk fun Z0 F Z σ H s Q q =>
  PT_w (pt_cmpR op_in_seq pe_w pe_w hm) (inL_core op_in_seq ha hb hf hfs s fun Z' H' g => ⟨_, rfl, q Z' H' g⟩)
end
structure TupC (K : PySem.W.Frag) (mg : Str → Option Value) (nm : Str) (ds : List D) : Prop where
  ex : ∃ (a : Addr) (o : Obj) (its : Array Value) (n : Nat) (vs : List V), mg nm = some (.ref a) ∧ K.lookup a = some o ∧ o.cls = .type "tuple" ∧ o.data = .seq its n ∧ its.size ≤ sizeLine ∧ Vals vs its.toList ∧ ∀ Z, RepL K Z vs ds
theorem mu_gT {X : Cx} {ρ : Slots} {nm : Str} {pos : Pos} {ds : List D} (c : TupC X.K X.mg nm ds) (hg : Gl X nm := by rfl) (hd : (nm == ("__debug__" : Str)) = false := by decide) : MU X ρ (.Name nm pos) ds := by
  obtain ⟨a, o, its, n, vs, hm, hk, hc, hda, hz, hv, hr⟩ := c.ex
  exact .mk fun Z0 F Z σ H s Q q => PE_w (pe_glob (v := .ref a) hg hm rfl hd) (q _ vs Z H (Gr.refl s.ex) (.inr ⟨o, its, n, hk, hc, hda, hz, hv⟩) (hr Z))
end M
namespace M
open PySem L2 PySem.Spec PyProof.Rows
section
variable {X : Cx} {ρ : Slots} {a b c d : Expr} {ta tb tc td : TE} {pos : Pos} {m n k l : Int}
end
theorem kit_true {K : PySem.W.Frag} {C E : Addr} (h1 : PySem.W.isClsIn K E = true) (h2 : PySem.W.typeIn K (.ref E) = some (.type "type")) (h3 : PySem.W.mroIn K C (.ref E) = some true) : PySem.W.kitOne K (.ref C) (.ref E) = some true := by
  unfold PySem.W.kitOne
  split
  · rfl
  · show PySem.W.kitCls K (.ref C) (.ref E) = some true
    have e : PySem.W.kitCls K (.ref C) (.ref E) = if ((PySem.W.clsIn K E).isSome && PySem.W.typeIn K (.ref E) == some (.type "type")) = true then PySem.W.mroIn K C (.ref E) else none := rfl
    rw [e, if_pos, h3]
    rw [h2]
    show ((PySem.W.clsIn K E).isSome && _) = true
    rw [show (PySem.W.clsIn K E).isSome = true from h1]
    decide
end M
namespace M
open PySem L2 PySem.Spec PyProof.Rows
section
variable {X : Cx} {ρ : Slots} {a b c e : Expr} {es : List Expr} {pos p0 p1 : Pos} {p q : Str} {k : Bool} {ys : List Str}
/-- int(k) of a truth -/
theorem me_intB (hg : Gl X "int") (hm : X.mg "int" = none) (ha : ME X ρ a (.fz (.bl k))) (n1 : NS X a := by exact fun _ => rfl) : ME X ρ (.Call (.Name "int" p0) [a] [] pos) (.fz (.int (if k then 1 else 0))) := .mk fun Z0 F Z σ H s Q q =>
  PE_w (pe_callTy call_int1 hg hm (by decide +kernel) (pa_cons pe_w pa_nil (n1 _)) (he := n1 _)) (ha.run Z0 F Z σ H s _ fun v Z1 H1 A1 g1 r1 n1 => by
    cases r1 with
    | fz r1 =>
      cases r1
      exact .inr ⟨k, rfl, q _ Z1 H1 [] g1 (.fz (.int _)) .nil⟩)
end
end M
namespace M
open PySem L2 PySem.Spec PyProof.Rows
noncomputable def gd {α : Type} (p : Prop) (k : Option α) : Option α := @ite _ p (Classical.propDecidable p) k none
def bd {α β : Type} (o : Option α) (k : α → Option β) : Option β := o.bind k
def lt {α β : Type} (a : α) (k : α → Option β) : Option β := k a
section
variable {α β γ : Type}
theorem gd_some {p : Prop} {k : Option α} {r : α} (h : gd p k = some r) : p ∧ k = some r := by
  unfold gd at h
  by_cases hp : p
  · rw [if_pos hp] at h
    exact ⟨hp, h⟩
  · rw [if_neg hp] at h
    cases h
theorem gd_pos {p : Prop} {k : Option α} (h : p) : gd p k = k := if_pos h
theorem bd_some {o : Option α} {k : α → Option β} {r : β} (h : bd o k = some r) : ∃ a, o = some a ∧ k a = some r := Option.bind_eq_some_iff.mp h
theorem bd_of {o : Option α} {k : α → Option β} {a : α} (h : o = some a) : bd o k = k a := by rw [h]; rfl
theorem lt_some {a : α} {k : α → Option β} {r : β} (h : lt a k = some r) : ∃ x, x = a ∧ k x = some r := ⟨a, rfl, h⟩
theorem cond_t {c : Bool} {a b : α} {r : α} (h : cond c a b = r) (hc : c = true) : a = r := by rw [hc] at h; exact h
theorem cond_f {c : Bool} {a b : α} {r : α} (h : cond c a b = r) (hc : c = false) : b = r := by rw [hc] at h; exact h
theorem and_c {k c : Bool} {b : Option Bool} (h : cond k b (some false) = some c) : (k && c) = c := by
  cases k with
  | true => rfl
  | false => cases h; rfl
theorem or_c {k c : Bool} {b : Option Bool} (h : cond k (some true) b = some c) : (k || c) = c := by
  cases k with
  | true => cases h; rfl
  | false => rfl
end
/-- how a block ends: on, out of the loop, to its next turn, out of the def -/
inductive Ou (V W R : Type) where
  | nx (v : V) | bk (w : W) | ct (w : W) | rt (r : R)
def ouR {V W R : Type} : Ou V W R → (V → Option R) → Option R
  | .nx v, k => k v
  | .rt r, _ => some r
  | _, _ => none
def lp {α V : Type} (f : α → V → Option V) : List α → V → Option V
  | [], v => some v
  | x :: xs, v => bd (f x v) fun v' => lp f xs v'
def lpO {α V R : Type} (f : α → V → Option (Ou V V R)) : List α → V → Option (Ou V V R)
  | [], v => some (.nx v)
  | x :: xs, v => bd (f x v) fun o => match o with
    | .nx v' => lpO f xs v'
    | .ct v' => lpO f xs v'
    | .bk v' => some (.nx v')
    | .rt r => some (.rt r)
def mpO {α β : Type} (f : α → Option β) : List α → Option (List β)
  | [] => some []
  | x :: xs => bd (f x) fun y => bd (mpO f xs) fun ys => some (y :: ys)
theorem mpO_pure {α β : Type} (f : α → β) (xs : List α) : mpO (fun x => some (f x)) xs = some (xs.map f) := by
  induction xs with
  | nil => rfl
  | cons x xs ih => show bd (mpO _ xs) _ = _; rw [ih]; rfl
theorem mpO_of {α β : Type} {f : α → Option β} {g : α → β} {xs : List α} (h : ∀ x ∈ xs, f x = some (g x)) : mpO f xs = some (xs.map g) := by
  induction xs with
  | nil => rfl
  | cons x xs ih =>
    show bd (f x) _ = _
    rw [h x List.mem_cons_self]
    show bd (mpO f xs) _ = _
    rw [ih fun y m => h y (List.mem_cons_of_mem _ m)]
    rfl
/-- an invariant by the turn's number -/
theorem lp_inv {α V : Type} {f : α → V → Option V} (I : Nat → V → Prop) {xs : List α} {v : V} (h0 : I 0 v) (h : ∀ (i : Nat) (x : α) (v : V), xs[i]? = some x → I i v → ∃ v', f x v = some v' ∧ I (i + 1) v') : ∃ v', lp f xs v = some v' ∧ I xs.length v' := by
  induction xs generalizing v I with
  | nil => exact ⟨v, rfl, h0⟩
  | cons x xs ih =>
    obtain ⟨v1, e, i1⟩ := h 0 x v rfl h0
    obtain ⟨v2, e2, i2⟩ := ih (fun i => I (i + 1)) i1 fun i y w hy hw => h (i + 1) y w (by simpa using hy) hw
    refine ⟨v2, ?_, i2⟩
    show bd (f x v) _ = _
    rw [e]
    exact e2
/-- a loop that runs to its end -/
theorem lpO_inv {α V R : Type} {f : α → V → Option (Ou V V R)} (I : Nat → V → Prop) {xs : List α} {v : V} (h0 : I 0 v) (h : ∀ (i : Nat) (x : α) (v : V), xs[i]? = some x → I i v → ∃ v', (f x v = some (.nx v') ∨ f x v = some (.ct v')) ∧ I (i + 1) v') : ∃ v', lpO f xs v = some (.nx v') ∧ I xs.length v' := by
  induction xs generalizing v I with
  | nil => exact ⟨v, rfl, h0⟩
  | cons x xs ih =>
    obtain ⟨v1, e, i1⟩ := h 0 x v rfl h0
    obtain ⟨v2, e2, i2⟩ := ih (fun i => I (i + 1)) i1 fun i y w hy hw => h (i + 1) y w (by simpa using hy) hw
    refine ⟨v2, ?_, i2⟩
    show bd (f x v) _ = _
    rcases e with e | e <;> rw [e] <;> exact e2
def goO {V W R : Type} (Rn : V → Slots) (Rw : W → Slots) (er : R → O) (o : Ou V W R) : Go :=
  { nx := fun τ => ∃ v, o = .nx v ∧ Le τ (Rn v), bk := fun τ => ∃ w, o = .bk w ∧ Le τ (Rw w), ct := fun τ => ∃ w, o = .ct w ∧ Le τ (Rw w), rt := fun q => ∃ r, o = .rt r ∧ q = er r }
section
variable {X : Cx} {ρ : Slots} {e a b c elt : Expr} {es : List Expr} {st : Stmt} {sts : List Stmt} {G : Go} {o o1 o2 : O} {d : D} {ds : List D} {pos p0 p1 p2 p3 p4 : Pos} {i : Nat} {x nm : Str} {α β V W R : Type}
/-- for, no way out but the end -/
theorem m_forP {xs : List α} {enc : α → D} {wi : TI} {g : TG} {body : List Stmt} (p : PS X st (tFor wi g (wS X body))) (h : MI X ρ wi (xs.map enc)) {f : α → V → Option V} {v0 v1 : V} (hx : lp f xs v0 = some v1) (Rn : V → Slots) (h0 : Le ρ (Rn v0))
    (hs : ∀ (x : α) (v v' : V), x ∈ xs → f x v = some v' → ∃ τ' ws, MTg g X.K (Rn v) (enc x) τ' ws ∧ MS X τ' body { nx := fun τ => Le τ (Rn v') })
    (hd : ∀ τ, Le τ (Rn v1) → G.nx τ) : MS1 X ρ st G := by
  refine m_forTS (xs := xs) (enc := enc) p h (fun v : V => Rn v) (fun j v => lp f (xs.drop j) v = some v1) ⟨v0, hx, h0⟩ (fun j y v hj hv => ?_) fun τ v hv l => hd τ ?_
  · obtain ⟨hi, ey⟩ := List.getElem?_eq_some_iff.mp hj
    rw [← List.getElem_cons_drop (h := hi), ey] at hv
    obtain ⟨v', e1, e2⟩ := bd_some hv
    obtain ⟨τ', ws, t1, t2⟩ := hs y v v' (List.mem_of_getElem? hj) e1
    exact ⟨τ', ws, t1, ms_imp t2 (fun τ l => ⟨v', e2, l⟩) (fun _ z => z.elim) (fun _ z => z.elim) (fun _ z => z.elim) fun _ _ z => z.elim⟩
  · rw [List.drop_length] at hv
    cases hv
    exact l
/-- for with ways out -/
theorem m_forO {xs : List α} {enc : α → D} {wi : TI} {g : TG} {body : List Stmt} (p : PS X st (tFor wi g (wS X body))) (h : MI X ρ wi (xs.map enc)) {f : α → V → Option (Ou V V R)} {v0 : V} {out : Ou V V R} (hx : lpO f xs v0 = some out) (Rn : V → Slots) (er : R → O) (h0 : Le ρ (Rn v0))
    (hs : ∀ (x : α) (v : V) (o : Ou V V R), x ∈ xs → f x v = some o → ∃ τ' ws, MTg g X.K (Rn v) (enc x) τ' ws ∧ MS X τ' body (goO Rn Rn er o))
    (hd : ∀ v τ, out = .nx v → Le τ (Rn v) → G.nx τ) (hr : ∀ r, out = .rt r → G.rt (er r)) : MS1 X ρ st G := by
  refine m_forTS (xs := xs) (enc := enc) p h (fun v : V => Rn v) (fun j v => lpO f (xs.drop j) v = some out) ⟨v0, hx, h0⟩ (fun j y v hj hv => ?_) fun τ v hv l => ?_
  · obtain ⟨hi, ey⟩ := List.getElem?_eq_some_iff.mp hj
    rw [← List.getElem_cons_drop (h := hi), ey] at hv
    obtain ⟨o, e1, e2⟩ := bd_some hv
    obtain ⟨τ', ws, t1, t2⟩ := hs y v o (List.mem_of_getElem? hj) e1
    refine ⟨τ', ws, t1, ms_imp t2 (fun τ l => ?_) (fun q l => ?_) (fun τ l => ?_) (fun τ l => ?_) fun _ _ z => z.elim⟩
    · obtain ⟨v', rfl, l⟩ := l
      exact ⟨v', e2, l⟩
    · obtain ⟨r, rfl, rfl⟩ := l
      cases e2
      exact hr r rfl
    · obtain ⟨v', rfl, l⟩ := l
      cases e2
      exact hd v' τ rfl l
    · obtain ⟨v', rfl, l⟩ := l
      exact ⟨v', e2, l⟩
  · rw [List.drop_length] at hv
    cases hv
    exact hd v τ rfl l
/-- if whose ways come together, none leaves -/
theorem m_ifP {c : Expr} {a b : List Stmt} {t : Bool} {p : Pos} {out : V} (Rn : V → Slots) (hc : MT X ρ c t) (h1 : t = true → MS X ρ a { nx := fun τ => Le τ (Rn out) }) (h2 : t = false → MS X ρ b { nx := fun τ => Le τ (Rn out) })
    (kn : ∀ τ, Le τ (Rn out) → G.nx τ) : MS1 X ρ (.If c a b p) G := by
  have im : ∀ {s : List Stmt}, MS X ρ s { nx := fun τ => Le τ (Rn out) } → MS X ρ s G := fun h => ms_imp h (fun τ l => kn τ l) (fun q z => z.elim) (fun τ z => z.elim) (fun τ z => z.elim) fun _ _ z => z.elim
  exact m_if hc (fun h => im (h1 h)) fun h => im (h2 h)
theorem atI_map {enc : α → D} {xs : List α} {k : Int} {y : α} (h : L2.atI xs k = some y) : L2.atI (xs.map enc) k = some (enc y) := by
  unfold L2.atI at h ⊢
  rw [List.length_map]
  cases e : ixN xs.length k with
  | none => rw [e] at h; cases h
  | some n =>
    rw [e] at h
    have h : xs[n]? = some y := h
    show (xs.map enc)[n]? = some (enc y)
    rw [List.getElem?_map, h]
    rfl
theorem me_ixLT {xs : List α} {enc : α → D} {k : Int} {y : α} (h : L2.atI xs k = some y) (ha : ML X ρ a (xs.map enc)) (hb : ME X ρ b (.fz (.int k))) (hp : PlainIx b := by exact fun _ _ => rfl) : ME X ρ (.Subscript a b pos) (.fz (enc y)) := me_ixL ha hb (atI_map h) hp
theorem m_appendT {xs : List α} {enc : α → D} {y : α} {p1 p2 p3 p4 : Pos} (hl : xs.length < sizeLine) (p : PE X (.Name x p1) (tVar i)) (hi : ρ[i]? = some (some (.lst ((xs.map enc).map .fz)))) (he : ME X ρ e (.fz (enc y))) (k : G.nx (ρ.set i (some (.lst (((xs ++ [y]).map enc).map .fz)))))
    (q : ∀ t, PE X (.Call (.Attribute (.Name x p1) "append" p2) [e] [] p3) t → PS X (.Expr (.Call (.Attribute (.Name x p1) "append" p2) [e] [] p3) p4) (tDrop t) := by exact fun _ h => ps_expr h)
    (pm : PE X (.Call (.Attribute (.Name x p1) "append" p2) [e] [] p3) (tBM X.K "list" rAppend (tVar i) (tCons (wE X e) tNil)) := by exact pe_bm PySem.F.plainAttrs_list PySem.F.slot_list_append PySem.F.type_list_append mt_append (pv _) (pa_cons pe_w pa_nil)) : MS1 X ρ (.Expr (.Call (.Attribute (.Name x p1) "append" p2) [e] [] p3) p4) G :=
  m_append p hi he (by rw [List.length_map, List.length_map]; exact hl) (by rw [List.map_append, List.map_append] at k; exact k) q pm
theorem m_setItemT {xs : List α} {enc : α → D} {y : α} {k : Int} {j : Nat} (hj : ixN xs.length k = some j) (pn : PE X (.Name x p1) (tVar i)) (hi : ρ[i]? = some (some (.lst ((xs.map enc).map .fz)))) (h1 : ME X ρ a (.fz (.int k))) (h2 : ME X ρ b (.fz (enc y))) (kk : G.nx (ρ.set i (some (.lst (((xs.set j y).map enc).map .fz)))))
    (pm : PS X (.Assign [.Subscript (.Name x p1) a p2] b p3) (tAsg (wE X b) (gSub (tVar i) (wE X a) rSetL)) := by exact ps_asg pe_w (pg_sub (pv _) pe_w set_list)) : MS1 X ρ (.Assign [.Subscript (.Name x p1) a p2] b p3) G :=
  m_setItem pn hi h1 h2 (by rw [List.length_map]; exact hj) (by rw [List.map_set] at kk; exact kk) pm
theorem mi_rangeT {j : Int} (h : MF X ρ es [.int j]) (h1 : -(2 ^ 62) ≤ j ∧ j < 2 ^ 62) : MI X ρ (iRng1 (wA X es)) ((List.range j.toNat).map fun k : Nat => D.int (k : Nat)) := by
  have q := mi_range1 h h1.1 h1.2
  unfold rng at q
  simp only [Int.zero_add] at q
  exact q
theorem mi_strT {y : Str} (h : ME X ρ e (.fz (.str y))) : MI X ρ (iStr (wE X e)) (y.cps.toList.map fun c => D.str ⟨#[c]⟩) := mi_str h
theorem mpO_get {f : α → Option β} : ∀ {xs : List α} {ys : List β}, mpO f xs = some ys → (∀ x ∈ xs, ∃ y, f x = some y) ∧ ys = xs.filterMap f
  | [], _, h => by cases h; exact ⟨fun _ m => (nomatch m), rfl⟩
  | x :: xs, _, h => by
    obtain ⟨y, e1, h⟩ := bd_some h
    obtain ⟨ys, e2, h⟩ := bd_some h
    cases h
    obtain ⟨q1, q2⟩ := mpO_get e2
    refine ⟨fun z m => (List.mem_cons.mp m).elim (fun e => by rw [e]; exact ⟨y, e1⟩) (q1 z), ?_⟩
    rw [List.filterMap_cons, e1, q2]
noncomputable def ofO (enc : β → D) (f : α → Option β) (x : α) : D := match f x with
  | some y => enc y
  | none => .non
theorem mpO_map {enc : β → D} {f : α → Option β} : ∀ {xs : List α} {ys : List β}, mpO f xs = some ys → xs.map (ofO enc f) = ys.map enc
  | [], _, h => by cases h; rfl
  | x :: xs, _, h => by
    obtain ⟨y, e1, h⟩ := bd_some h
    obtain ⟨ys, e2, h⟩ := bd_some h
    cases h
    rw [List.map_cons, List.map_cons, mpO_map e2]
    unfold ofO
    rw [e1]
theorem me_lcO {xs : List α} {ys : List β} {enc : α → D} {enc2 : β → D} {f : α → Option β} (hy : mpO f xs = some ys) {wi : TI} {g : TG} {scope : Scope} {vs : List Nat} (p : ∀ te : TE, (∀ (s : Shared) (H : Hp) (C : Addr) (cl : List (Str × Addr)) (fp : List Addr), PE (X.blk s H scope (compEnvC scope cl C X.env) fp) elt te) → PE X e (tLc wi g tYes te vs))
    (h : MIc X ρ wi (xs.map enc)) (hz : xs.length < sizeLine)
    (hs : ∀ d ∈ xs, ∀ y, f d = some y → ∃ τ ws, MTg g X.K (wipeS ρ vs) (enc d) τ ws ∧ (∀ w ∈ ws, w ∈ vs) ∧ ∀ (s : Shared) (H : Hp) (C : Addr) (cl : List (Str × Addr)) (fp : List Addr), ME (X.blk s H scope (compEnvC scope cl C X.env) fp) τ elt (.fz (enc2 y))) :
    ME X ρ e (.lst ((ys.map enc2).map .fz)) := ME.is (me_lc p h (ofO enc2 f) hz fun d m => by
    obtain ⟨y, ey⟩ := (mpO_get hy).1 d m
    obtain ⟨τ, ws, t1, t2, t3⟩ := hs d m y ey
    exact ⟨τ, ws, t1, t2, fun s H C cl fp => ME.is (t3 s H C cl fp) (by unfold ofO; rw [ey])⟩) (by rw [mpO_map hy])
theorem m_setLcO {xs : List α} {ys : List β} {enc : α → D} {enc2 : β → D} {f : α → Option β} (hy : mpO f xs = some ys) {wi : TI} {g : TG} {scope : Scope} {vs : List Nat} (p : ∀ te : TE, (∀ (s : Shared) (H : Hp) (C : Addr) (cl : List (Str × Addr)) (fp : List Addr), PE (X.blk s H scope (compEnvC scope cl C X.env) fp) elt te) → PS X st (tAsg (tLc wi g tYes te vs) (gName i)))
    (h : MIc X ρ wi (xs.map enc)) (hz : xs.length < sizeLine)
    (hs : ∀ d ∈ xs, ∀ y, f d = some y → ∃ τ ws, MTg g X.K (wipeS ρ vs) (enc d) τ ws ∧ (∀ w ∈ ws, w ∈ vs) ∧ ∀ (s : Shared) (H : Hp) (C : Addr) (cl : List (Str × Addr)) (fp : List Addr), ME (X.blk s H scope (compEnvC scope cl C X.env) fp) τ elt (.fz (enc2 y)))
    (k : G.nx (ρ.set i (some (.lst ((ys.map enc2).map .fz))))) (hi : i < ρ.length := by exact Nat.le_of_ble_eq_true rfl) : MS1 X ρ st G := m_setLc p h (ofO enc2 f) hz (fun d m => by
    obtain ⟨y, ey⟩ := (mpO_get hy).1 d m
    obtain ⟨τ, ws, t1, t2, t3⟩ := hs d m y ey
    exact ⟨τ, ws, t1, t2, fun s H C cl fp => ME.is (t3 s H C cl fp) (by unfold ofO; rw [ey])⟩) (by rw [mpO_map hy]; exact k) hi
end
/-- the promise of a def by its mirror -/
def SpF {A R : Type} (K : PySem.W.Frag) (ar : A → List O) (f : A → Option R) (er : R → O) : Sp := SpM K (fun x : A × R => ar x.1) (fun x => f x.1 = some x.2) (fun x => er x.2)
end M
namespace M
open PySem L2 PySem.Spec PyProof.Rows
abbrev sg1 (c : Nat) : Str := ⟨#[c]⟩
abbrev strI (m : Int) : Str := toString m
abbrev e_d (d : D) : D := d
def Ok {α : Type} (o : Option α) (P : α → Prop) : Prop := ∃ r, o = some r ∧ P r
section
variable {α β V W R : Type} {P : β → Prop}
theorem ok_gd {p : Prop} {k : Option β} (h : p) (hk : Ok k P) : Ok (gd p k) P := by rw [gd_pos h]; exact hk
theorem ok_bd {o : Option α} {k : α → Option β} {Q : α → Prop} (h : Ok o Q) (hk : ∀ a, Q a → Ok (k a) P) : Ok (bd o k) P := by
  obtain ⟨a, e, q⟩ := h
  rw [bd_of e]
  exact hk a q
theorem ok_lt {a : α} {k : α → Option β} (hk : Ok (k a) P) : Ok (lt a k) P := hk
theorem ok_ltx {a : α} {k : α → Option β} (hk : ∀ x, x = a → Ok (k x) P) : Ok (lt a k) P := hk a rfl
theorem ok_some {b : β} (h : P b) : Ok (some b) P := ⟨b, rfl, h⟩
theorem ok_cond {c : Bool} {a b : Option β} (h1 : c = true → Ok a P) (h2 : c = false → Ok b P) : Ok (cond c a b) P := by
  cases c with
  | true => exact h1 rfl
  | false => exact h2 rfl
theorem ok_t {c : Bool} {a b : Option β} (hc : c = true) (h : Ok a P) : Ok (cond c a b) P := by rw [hc]; exact h
theorem ok_f {c : Bool} {a b : Option β} (hc : c = false) (h : Ok b P) : Ok (cond c a b) P := by rw [hc]; exact h
theorem Ok.imp {Q : β → Prop} {o : Option β} (h : Ok o Q) (f : ∀ r, Q r → P r) : Ok o P := let ⟨r, e, q⟩ := h; ⟨r, e, f r q⟩
theorem Ok.eq {o : Option β} {b : β} (h : Ok o (· = b)) : o = some b := by obtain ⟨r, e, rfl⟩ := h; exact e
theorem Ok.of {o : Option β} {b : β} (h : o = some b) : Ok o (· = b) := ⟨b, h, rfl⟩
theorem ok_atI {xs : List α} {k : Int} {Q : α → Prop} (h0 : 0 ≤ k) (h1 : k < xs.length) (q : ∀ y, xs[k.toNat]? = some y → Q y) : Ok (L2.atI xs k) Q := by
  have hk : k.toNat < xs.length := by omega
  refine ⟨xs[k.toNat], ?_, q _ (List.getElem?_eq_getElem hk)⟩
  obtain ⟨n, rfl⟩ := Int.eq_ofNat_of_zero_le h0
  exact atI_nat (List.getElem?_eq_getElem (by simpa using hk))
theorem ok_atIm {xs : List α} {k : Int} {Q : α → Prop} (h0 : 0 ≤ k) (h1 : k < xs.length) (q : ∀ y ∈ xs, Q y) : Ok (L2.atI xs k) Q := ok_atI h0 h1 fun y e => q y (List.mem_of_getElem? e)
theorem ok_lp {f : α → V → Option V} {xs : List α} {v : V} {Q : V → Prop} (I : Nat → V → Prop) (h0 : I 0 v) (h : ∀ (i : Nat) (x : α) (v : V), xs[i]? = some x → I i v → Ok (f x v) (I (i + 1))) (hd : ∀ v, I xs.length v → Q v) : Ok (lp f xs v) Q := by
  obtain ⟨v', e, i⟩ := lp_inv I h0 h
  exact ⟨v', e, hd v' i⟩
theorem ok_lpN {f : α → V → Option (Ou V V R)} {xs : List α} {v : V} {Q : Ou V V R → Prop} (I : Nat → V → Prop) (h0 : I 0 v) (h : ∀ (i : Nat) (x : α) (v : V), xs[i]? = some x → I i v → Ok (f x v) fun o => ∃ v', (o = .nx v' ∨ o = .ct v') ∧ I (i + 1) v') (hd : ∀ v, I xs.length v → Q (.nx v)) : Ok (lpO f xs v) Q := by
  obtain ⟨v', e, i⟩ := lpO_inv (f := f) I h0 fun i x v hx hv => by
    obtain ⟨o, e, v', e2, q⟩ := h i x v hx hv
    exact ⟨v', e2.imp (fun z => by rw [e, z]) (fun z => by rw [e, z]), q⟩
  exact ⟨_, e, hd v' i⟩
theorem ok_mpO {f : α → Option β} {xs : List α} {Q : List β → Prop} (T : α → β → Prop) (h : ∀ x ∈ xs, Ok (f x) (T x)) (q : ∀ ys : List β, ys.length = xs.length → (∀ (i : Nat) (x : α) (y : β), xs[i]? = some x → ys[i]? = some y → T x y) → Q ys) : Ok (mpO f xs) Q := by
  suffices H : ∃ ys : List β, mpO f xs = some ys ∧ ys.length = xs.length ∧ ∀ (i : Nat) (x : α) (y : β), xs[i]? = some x → ys[i]? = some y → T x y by
    obtain ⟨ys, e, l, t⟩ := H
    exact ⟨ys, e, q ys l t⟩
  clear q
  induction xs with
  | nil => exact ⟨[], rfl, rfl, fun i x y h => by simp at h⟩
  | cons x xs ih =>
    obtain ⟨y, e1, t1⟩ := h x List.mem_cons_self
    obtain ⟨ys, e2, l, t⟩ := ih fun z m => h z (List.mem_cons_of_mem _ m)
    refine ⟨y :: ys, ?_, by simp [l], fun i a b ha hb => ?_⟩
    · show bd (f x) _ = _
      rw [bd_of e1]
      show bd (mpO f xs) _ = _
      rw [bd_of e2]
    · cases i with
      | zero =>
        simp at ha hb
        rw [← ha, ← hb]
        exact t1
      | succ i => exact t i a b (by simpa using ha) (by simpa using hb)
theorem ok_mpE {f : α → Option β} {g : α → β} {xs : List α} (h : ∀ x ∈ xs, f x = some (g x)) : Ok (mpO f xs) (· = xs.map g) := .of (mpO_of h)
theorem ok_mpM {f : α → Option β} {xs : List α} (T : β → Prop) (h : ∀ x ∈ xs, Ok (f x) T) : Ok (mpO f xs) fun ys => ys.length = xs.length ∧ ∀ y ∈ ys, T y := ok_mpO (fun _ => T) h fun ys l t => ⟨l, fun y m => by
  obtain ⟨i, e⟩ := List.mem_iff_getElem?.mp m
  have hi : i < xs.length := by
    have := (List.getElem?_eq_some_iff.mp e).1
    omega
  exact t i _ y (List.getElem?_eq_getElem hi) e⟩
end
section
variable {X : Cx} {ρ : Slots} {e a b c elt : Expr} {es : List Expr} {st : Stmt} {sts : List Stmt} {G : Go} {o o1 o2 : O} {d : D} {ds : List D} {pos p0 p1 p2 p3 p4 : Pos} {i : Nat} {x nm : Str} {α β : Type} {p q : Str} {k l : Bool} {m n : Int}
theorem MT.is (h : MT X ρ e k) (q : k = l) : MT X ρ e l := q ▸ h
theorem MW.is (h : MW X ρ e k) (q : k = l) : MW X ρ e l := q ▸ h
theorem ME.isB (h : ME X ρ e (.fz (.bl k))) (q : k = l) : ME X ρ e (.fz (.bl l)) := q ▸ h
theorem frz_own {enc : α → D} {xs : List α} : (O.lst ((xs.map enc).map .fz)).frz = .lst (xs.map enc) := congrArg D.lst (O.frzL_fz _)
theorem me_lenLT {xs : List α} {enc : α → D} (hg : Gl X "len") (hm : X.mg "len" = none) (ha : ML X ρ a (xs.map enc)) (n1 : NS X a := by exact fun _ => rfl) : ME X ρ (.Call (.Name "len" p0) [a] [] pos) (.fz (.int (xs.length : Int))) := ME.is (me_len hg hm ha n1) (by rw [List.length_map])
theorem repG_map {enc : α → β} {xs : List α} {k : Int} : repG (xs.map enc) k = (repG xs k).map enc := by
  unfold repG
  rw [List.map_flatten, List.map_replicate]
theorem me_repT {xs : List α} {enc : α → D} {kk : Int} (h : (-(2 ^ 63) ≤ kk ∧ kk < 2 ^ 63) ∧ xs.length * kk.toNat ≤ sizeLine) (ha : MV X ρ a (.lst ((xs.map enc).map .fz))) (hb : ME X ρ b (.fz (.int kk))) : ME X ρ (.BinOp a .Mult b pos) (.lst (((repG xs kk).map enc).map .fz)) :=
  ME.is (me_rep ha hb h.1 (by rw [List.length_map]; exact h.2)) (by rw [repG_map])
theorem me_eqDT {d1 d2 : D} (hu : X.A.units + 64 < cLine) (h : d1.ok ∧ d2.ok) (e1 : o1.frz = d1) (e2 : o2.frz = d2) (ha : MV X ρ a o1) (hb : MV X ρ b o2) : ME X ρ (.Compare a [.Eq] [b] pos) (.fz (.bl (D.eqv d1 d2))) := by
  subst e1 e2
  exact me_eqD hu ha hb h.1 h.2
theorem mt_eqDT {d1 d2 : D} (hu : X.A.units + 64 < cLine) (h : d1.ok ∧ d2.ok) (e1 : o1.frz = d1) (e2 : o2.frz = d2) (ha : MV X ρ a o1) (hb : MV X ρ b o2) : MT X ρ (.Compare a [.Eq] [b] pos) (D.eqv d1 d2) := by
  subst e1 e2
  exact mt_eqD hu ha hb h.1 h.2
theorem mt_neDT {d1 d2 : D} (hu : X.A.units + 64 < cLine) (h : d1.ok ∧ d2.ok) (e1 : o1.frz = d1) (e2 : o2.frz = d2) (ha : MV X ρ a o1) (hb : MV X ρ b o2) : MT X ρ (.Compare a [.NotEq] [b] pos) (!D.eqv d1 d2) := by
  subst e1 e2
  exact mt_neD hu ha hb h.1 h.2
theorem among_s {k : Str} {xs : List Str} : D.among (.str k) (xs.map .str) = xs.contains k := by
  unfold D.among inV
  rw [List.map_map, List.any_map]
  induction xs with
  | nil => rfl
  | cons y xs ih =>
    rw [List.any_cons, List.contains_cons, ih]
    congr 1
    exact BEq.comm
theorem flat_s {xs : List Str} : (xs.map D.str).all D.flat = true := by
  rw [List.all_map]
  exact List.all_eq_true.mpr fun _ _ => rfl
theorem among_b {k : Bool} {xs : List Bool} : D.among (.bl k) (xs.map .bl) = xs.contains k := by
  unfold D.among inV
  rw [List.map_map, List.any_map]
  induction xs with
  | nil => rfl
  | cons y xs ih =>
    rw [List.any_cons, List.contains_cons, ih]
    congr 1
    exact BEq.comm
theorem flat_b {xs : List Bool} : (xs.map D.bl).all D.flat = true := by
  rw [List.all_map]
  exact List.all_eq_true.mpr fun _ _ => rfl
section
variable {xi : List Int} {xs : List Str} {xb : List Bool}
theorem mt_inLT_s (ha : ME X ρ a (.fz (.str p))) (hb : ML X ρ b (xs.map .str)) (hm : behindInMarks .In b = false := by rfl) : MT X ρ (.Compare a [.In] [b] pos) (xs.contains p) := (mt_inL ha hb rfl flat_s hm).is among_s
theorem mt_inLT_b (ha : ME X ρ a (.fz (.bl k))) (hb : ML X ρ b (xb.map .bl)) (hm : behindInMarks .In b = false := by rfl) : MT X ρ (.Compare a [.In] [b] pos) (xb.contains k) := (mt_inL ha hb rfl flat_b hm).is among_b
end
end
end M
namespace M
open PySem L2 PySem.Spec PyProof.Rows
section
variable {X : Cx} {ρ : Slots} {e a b c elt : Expr} {es : List Expr} {st : Stmt} {sts : List Stmt} {G : Go} {o o1 o2 : O} {d : D} {ds : List D} {pos p0 p1 p2 p3 p4 : Pos} {i : Nat} {x nm : Str} {α β γ : Type} {p q : Str} {k l : Bool} {m n : Int} {te : TE}
end
end M
namespace M
open PySem L2 PySem.Spec PyProof.Rows
theorem nsPut_new : ∀ {ns : List Str} {f : Str}, nmAt ns f = none → nsPut ns f = ns ++ [f]
  | [], _, _ => rfl
  | n :: r, f, h => by
    unfold nmAt at h
    unfold nsPut
    by_cases e : n = f
    · rw [if_pos e.symm] at h; cases h
    · rw [if_neg fun q => e q.symm] at h
      rw [if_neg e, nsPut_new (Option.map_eq_none_iff.mp h)]
      rfl
theorem xsPut_new {α : Type} : ∀ {ns : List Str} {f : Str} {xs : List α} {y : α}, nmAt ns f = none → xs.length = ns.length → xsPut ns f xs y = xs ++ [y]
  | [], _, [], _, _, _ => rfl
  | n :: r, f, x :: xs, y, h, l => by
    unfold nmAt at h
    unfold xsPut
    by_cases e : n = f
    · rw [if_pos e.symm] at h; cases h
    · rw [if_neg fun q => e q.symm] at h
      rw [if_neg e, xsPut_new (Option.map_eq_none_iff.mp h) (by simpa using l)]
      rfl
theorem nsPut_old : ∀ {ns : List Str} {f : Str} {j : Nat}, nmAt ns f = some j → nsPut ns f = ns
  | n :: r, f, j, h => by
    unfold nmAt at h
    unfold nsPut
    by_cases e : n = f
    · exact (if_pos e).trans (by rw [e])
    · rw [if_neg fun q => e q.symm] at h
      obtain ⟨k, hk, _⟩ := Option.map_eq_some_iff.mp h
      rw [if_neg e, nsPut_old hk]
theorem xsPut_old {α : Type} : ∀ {ns : List Str} {f : Str} {xs : List α} {y : α} {j : Nat}, nmAt ns f = some j → xs.length = ns.length → xsPut ns f xs y = xs.set j y
  | n :: r, f, x :: xs, y, j, h, l => by
    unfold nmAt at h
    unfold xsPut
    by_cases e : n = f
    · rw [if_pos e.symm] at h
      cases h
      rw [if_pos e]
      rfl
    · rw [if_neg fun q => e q.symm] at h
      obtain ⟨k, hk, rfl⟩ := Option.map_eq_some_iff.mp h
      rw [if_neg e, xsPut_old hk (by simpa using l)]
      rfl
section
variable {X : Cx} {ρ : Slots} {e a b c elt : Expr} {es : List Expr} {st : Stmt} {sts : List Stmt} {G : Go} {o o1 o2 : O} {d : D} {ds : List D} {os : List O} {pos p0 p1 p2 p3 p4 : Pos} {i : Nat} {x nm f : Str} {C : Addr} {ns : List Str}
theorem OC.take {K : PySem.W.Frag} {all : List Str} (n : Nat) (h : OC K C all) : OC K C (all.take n) := ⟨h.cl, fun f m => h.na f (List.mem_of_mem_take m)⟩
/-- x.f = e, an attribute that isn't there yet -/
theorem m_setFldN {l : Addr} {all : List Str} (pn : PE X (.Name x p1) (tVar i)) (hi : ρ[i]? = some (some (.at l C ns os))) (cc : OC X.K C all) (he : ME X ρ e o)
    (kk : G.nx (ρ.set i (some (.at l C (ns ++ [f]) (os ++ [o]))))) (hl : os.length = ns.length := by rfl) (h1000 : ns.length < 1000 := by decide) (hm : f ∈ all := by decide +kernel) (hn : nmAt ns f = none := by decide +kernel)
    (hs : swapsWith e (some (.Attribute (.Name x p1) f p2)) p3.line X.env = pure false := by rfl) : MS1 X ρ (.Assign [.Attribute (.Name x p1) f p2] e p3) G :=
  m_setFld pn hi hl h1000 cc hm he (by rw [nsPut_new hn, xsPut_new hn hl]; exact kk) hs
/-- .. that is there -/
theorem m_setFldO {l : Addr} {all : List Str} {j : Nat} (pn : PE X (.Name x p1) (tVar i)) (hi : ρ[i]? = some (some (.at l C ns os))) (cc : OC X.K C all) (he : ME X ρ e o)
    (kk : G.nx (ρ.set i (some (.at l C ns (os.set j o))))) (hn : nmAt ns f = some j := by decide +kernel) (hl : os.length = ns.length := by rfl) (h1000 : ns.length < 1000 := by decide) (hm : f ∈ all := by decide +kernel)
    (hs : swapsWith e (some (.Attribute (.Name x p1) f p2)) p3.line X.env = pure false := by rfl) : MS1 X ρ (.Assign [.Attribute (.Name x p1) f p2] e p3) G :=
  m_setFld pn hi hl h1000 cc hm he (by rw [nsPut_old hn, xsPut_old hn hl]; exact kk) hs
end
end M
namespace M
open PySem L2 PySem.Spec PyProof.Rows
/-- slots that are fit for what follows: gone, of one's own, or a view at a known place that stands as it stood -/
inductive Kp : Slots → Slots → Prop where
  | nil : Kp [] []
  | no {x : Option O} {ρ τ : Slots} : Kp ρ τ → Kp (x :: ρ) (none :: τ)
  | nv {x : Option O} {o : O} {ρ τ : Slots} : o.nv = true → Kp ρ τ → Kp (x :: ρ) (some o :: τ)
  | va {a : Addr} {ds : List D} {ρ τ : Slots} : Kp ρ τ → Kp (some (.vwa a ds) :: ρ) (some (.vwa a ds) :: τ)
  | lk {a : Addr} {o : O} {ρ τ : Slots} : Kp ρ τ → Kp (some (.lk (.loc a o)) :: ρ) (some (.lk (.loc a o)) :: τ)
section
variable {K : PySem.W.Frag} {Z0 Z Z1 F F' H H1 : Hp}
theorem StL.monoF (f : Ex F F') : ∀ {ρ : Slots} {σ : L2.St} {A : List Addr}, StL K Z F H ρ σ A → StL K Z F' H ρ σ A
  | _, _, _, .nil => .nil
  | _, _, _, .no h => .no (h.monoF f)
  | _, _, _, .so r h => .so (r.mono (Ex.refl _) f fun _ _ _ e => e) (h.monoF f)
theorem RepO.lkAt {v : V} {a : Addr} {o : O} {A : List Addr} (r : RepO K Z F H v (.lk (.loc a o)) A) : v = .ref a ∧ A = [] ∧ RepK K Z F (.ref a) o := by
  cases r with
  | lk r =>
    cases r with
    | loc r => exact ⟨rfl, rfl, r⟩
theorem StL.kp (ef : Ex F F') (ez : Ex Z Z1) : ∀ {ρ τ : Slots} {σ0 σ : L2.St} {A0 A : List Addr}, Kp ρ τ → StL K Z F H ρ σ0 A0 → StL K Z1 F' H1 τ σ A → StL K Z1 F H1 τ σ A
  | _, _, _, _, _, _, .nil, .nil, .nil => .nil
  | _, _, _, _, _, _, .no k, .no h0, .no h => .no (StL.kp ef ez k h0 h)
  | _, _, _, _, _, _, .no k, .so _ h0, .no h => .no (StL.kp ef ez k h0 h)
  | _, _, _, _, _, _, .nv n k, .no h0, .so r h => .so (r.unF n) (StL.kp ef ez k h0 h)
  | _, _, _, _, _, _, .nv n k, .so _ h0, .so r h => .so (r.unF n) (StL.kp ef ez k h0 h)
  | _, _, _, _, _, _, .va k, .so r0 h0, .so r h => by
    cases r with
    | vwa r2 r3 =>
      cases r0 with
      | vwa r4 r5 => exact .so (.vwa r4 (r5.mono ez)) (StL.kp ef ez k h0 h)
  | _, _, _, _, _, _, .lk (a := a) (o := o) k, .so r0 h0, .so r h => by
    have e0 := RepO.lkAt r0
    have e1 := RepO.lkAt r
    rw [e1.1, e1.2.1]
    exact .so (.lk (.loc (e0.2.2.mono ez (Ex.refl _)))) (StL.kp ef ez k h0 h)
end
section
variable {X : Cx} {ρ : Slots} {st : Stmt} {sts : List Stmt} {G : Go} {o : O} {d : D} {ds : List D} {i : Nat}
end
end M
namespace M
open PySem L2 PySem.Spec PyProof.Rows
section
variable {X : Cx} {ρ : Slots} {a b : Expr} {pos : Pos} {p : Str} {m : Int} {k : Bool}
theorem mt_niTT_s {xs : List Str} (ha : ME X ρ a (.fz (.str p))) (hb : MU X ρ b (xs.map .str)) (hm : behindInMarks .NotIn b = false := by rfl) : MT X ρ (.Compare a [.NotIn] [b] pos) (!(xs.contains p)) := (mt_niT ha hb rfl flat_s hm).is (by rw [among_s])
end
end M
namespace M
open PySem L2 PySem.Spec PyProof.Rows
def isiD (T : String) (d : D) : Option Bool := d.tyN.bind fun t => kitB t T
def asI : D → Option Int
  | .int i => some i
  | _ => none
def asS : D → Option Str
  | .str x => some x
  | _ => none
theorem asI_is {d : D} {i : Int} (h : asI d = some i) : O.fz d = .fz (.int i) := by
  cases d <;> cases h
  rfl
theorem asS_is {d : D} {i : Str} (h : asS d = some i) : O.fz d = .fz (.str i) := by
  cases d <;> cases h
  rfl
section
variable {X : Cx} {ρ : Slots} {a b c e : Expr} {pos p0 p1 : Pos} {d : D} {k : Bool}
theorem me_isiD {T : String} {TS : Str} (hk : isiD T d = some k) (hg : Gl X "isinstance") (hm : X.mg "isinstance" = none) (hT : PE X (.Name TS p1) (tC (.ty T))) (ha : MV X ρ a (.fz d)) (n1 : NS X a := by exact fun _ => rfl) :
    ME X ρ (.Call (.Name "isinstance" p0) [a, .Name TS p1] [] pos) (.fz (.bl k)) := by
  obtain ⟨t, h1, h2⟩ := Option.bind_eq_some_iff.mp hk
  exact me_isi hg hm hT ha (o := .fz d) h1 h2 n1
end
end M
namespace M
open PySem L2 PySem.Spec PyProof.Rows
section
variable {X : Cx} {ρ : Slots} {e a b : Expr} {es : List Expr} {pos p0 p1 : Pos} {nm : Str} {C : Addr} {ns : List Str} {ds : List D} {o : O} {d : D}
theorem fn_mXD {α : Type} {P : Program} {w : World} {K : PySem.W.Frag} {mg : Str → Option Value} {base : Heap} {x qual : Str} {pr : Arguments} {bo : List Stmt} {sc : Scope} {dvs : List V} {kws : List (Str × V)} {f : Addr} {fd : FuncData} {N ps : List Str} {k : Nat} {ar : α → List O} {pre : α → Prop} {s0 s1 : Addr → α → O} {res : α → O}
    (F : FunD K x qual pr bo sc dvs kws f fd) (S : FnScope N ps sc) (hl : ∀ x, (ar x).length + 1 = ps.length) (hn1 : ∀ l x, pre x → (s1 l x).nv = true) (hn2 : ∀ x, pre x → (res x).nv = true) (hat : ∀ l x, ∃ C ns os, s1 l x = .at l C ns os)
    (hb : ∀ (cdv : Value) (A : Around) (outer : List Env) (s : Shared) (H : Hp) (E : XK), Room k (A.deeper (envOfC qual sc s.heap.objs.size f cdv)) → ∀ (l : Addr) x, pre x →
      MS (cxOf CX0 P w K mg base N qual sc f cdv A outer s H E).nox (some (s0 l x) :: (ar x).map some ++ List.replicate (N.length - ps.length) none) bo { nx := fun ρ => res x = .fz .non ∧ ρ[0]? = some (some (s1 l x)), rs := fun o ρ => o = res x ∧ ρ[0]? = some (some (s1 l x)) }) :
    FnOk P w K mg base CX0 (k + 1) f fd ps (SpX K ar pre s0 s1 res) := by
  refine F.ok S (fun vs H Q E h => ?_) (fun cdv A outer s H vs Q E hr h => ?_)
  · obtain ⟨x, Z, F, l, vs', A, rfl, _, _, _, _, _, r, _⟩ := h
    rw [List.length_cons, r.length, hl]
  · obtain ⟨x, Z, F0, l, vs', A0, rfl, ez, ef, nA, fA, rs, r, hp, q⟩ := h
    obtain ⟨C, ns, os, hs1⟩ := hat l x
    have st0 : StL K Z F0 H (some (s0 l x) :: (ar x).map some) (some (.ref l) :: vs'.map some) (A0 ++ []) := .so rs (stL_args (r.mono (Ex.refl _) (Ex.refl _) fun _ m => nomatch m))
    refine ⟨_, PSs.nox pss_w, (hb cdv A outer s H E hr l x hp).run Z F0 Z _ H _ ⟨⟨Ex.refl _, ef, ez.trans ef, fun _ _ _ => rfl⟩, A0 ++ [], ?_, by rw [List.append_nil]; exact nA, fun a m => ?_⟩ ⟨fun ρ Z' σ H' e s' => ?_, fun _ _ _ _ z => z.elim, fun _ _ _ _ z => z.elim, fun _ _ _ _ _ z => z.elim, fun o ρ v Z' σ H' e s' => ?_, GX.never fun _ z => z⟩⟩
    · have e : L2.start N (.ref l :: vs') = (some (.ref l) :: vs'.map some) ++ List.replicate (N.length - ps.length) none := by
        unfold L2.start
        rw [List.length_cons, r.length, hl]
        rfl
      rw [e]
      exact stL_more _ st0
    · rw [List.append_nil] at m
      exact ⟨ez.free (fA a m), fA a m⟩
    · obtain ⟨en, e⟩ := e
      obtain ⟨A1, t1, t2, t3⟩ := s'.st
      obtain ⟨v, B, u1, u2, u3, u4, _⟩ := t1.at e t2
      have hn := hn1 l x hp
      rw [hs1] at u2 hn
      cases u2 with
      | @«at» _ _ dx _ vs1 _ B1 h0 rl =>
        refine q .non Z' H' ((l :: B1) ++ ([] ++ [])) s'.gr (.cons ?_ (.cons (A := []) ?_ .nil)) (by simpa using u3) fun a m => ?_
        · rw [hs1]
          exact (RepO.at h0 rl).unF hn
        · rw [en]
          exact .fz .non
        · have m : a ∈ l :: B1 := by simpa using m
          exact ⟨(t3 a (u4 a m)).2, (t3 a (u4 a m)).1⟩
    · obtain ⟨en, e⟩ := e
      subst en
      obtain ⟨A1, t1, t2, t3⟩ := s'.st
      obtain ⟨B, Cc, w1, w2, w3, w4⟩ := t1.last t2
      obtain ⟨n1, n2, n3⟩ := List.nodup_append.mp w3
      obtain ⟨v0, B0, u1, u2, u3, u4, _⟩ := w1.at e n1
      have hn := hn1 l x hp
      rw [hs1] at u2 hn
      cases u2 with
      | @«at» _ _ dx _ vs1 _ B1 h0 rl =>
        refine q v Z' H' ((l :: B1) ++ (Cc ++ [])) s'.gr (.cons ?_ (.cons (w2.unF (hn2 x hp)) .nil)) ?_ fun a m => ?_
        · rw [hs1]
          exact (RepO.at h0 rl).unF hn
        · rw [List.append_nil]
          exact List.nodup_append.mpr ⟨u3, n2, fun a ha b hb => n3 a (u4 a ha) b hb⟩
        · rw [List.append_nil] at m
          have m2 : a ∈ B ++ Cc := by
            rcases List.mem_append.mp m with z | z
            · exact List.mem_append_left _ (u4 a z)
            · exact List.mem_append_right _ z
          exact ⟨(t3 a (w4 a m2)).2, (t3 a (w4 a m2)).1⟩
theorem fun_mkD {K : PySem.W.Frag} {x qual : Str} {st : Stmt} {f T : Addr} {oc : Value} {od an td : Option Addr} {osl tsl : Array (Option Value)} {kV doc pm cdv ct : Value} {dvs : List V} {its : List Value} {n : Nat} (l : K.lookup f = some ⟨oc, od, .func (PySem.W.fnOf x qual (defArgs st) (defBody st) (defScope st) (.ref T) kV doc pm an cdv ct), osl⟩)
    (c : PySem.W.codeIn K cdv qual = true) (k : PySem.W.keepIn K (.ref f) = true) (lT : K.lookup T = some ⟨.type "tuple", td, .seq its.toArray n, tsl⟩) (hv : Vals dvs its) (hne : dvs ≠ []) : FunD K x qual (defArgs st) (defBody st) (defScope st) dvs [] f (PySem.W.fnOf x qual (defArgs st) (defBody st) (defScope st) (.ref T) kV doc pm an cdv ct) :=
  ⟨⟨oc, od, _, kV, doc, pm, an, cdv, ct, osl, rfl, l, c, .inr ⟨hne, T, _, its, n, rfl, lT, rfl, hv⟩, .inl rfl⟩, k⟩
/-- a default is a plain value -/
inductive Dfl : List V → List D → Prop where
  | nil : Dfl [] []
  | cons {v : V} {d : D} {vs : List V} {ds : List D} : Sc d v → Dfl vs ds → Dfl (v :: vs) (d :: ds)
theorem Dfl.own {K : PySem.W.Frag} {Z F H : Hp} : ∀ {vs : List V} {ds : List D}, Dfl vs ds → RepOL K Z F H vs (ds.map .fz) []
  | _, _, .nil => .nil
  | _, _, .cons h r => .cons (A := []) (B := []) (.fz h.rep) r.own
theorem RepOL.app1 {K : PySem.W.Frag} {Z F H : Hp} : ∀ {vs : List V} {os : List O} {A : List Addr}, RepOL K Z F H vs os A → A = [] → ∀ {ws : List V} {us : List O}, RepOL K Z F H ws us [] → RepOL K Z F H (vs ++ ws) (os ++ us) []
  | _, _, _, .nil, _, _, _, s => s
  | _, _, _, .cons h r, e, _, _, s => by
    obtain ⟨rfl, rfl⟩ := List.append_eq_nil_iff.mp e
    exact .cons (A := []) (B := []) h (RepOL.app1 r rfl s)
theorem RepOL.app0 {K : PySem.W.Frag} {Z F H : Hp} {vs ws : List V} {os us : List O} (r : RepOL K Z F H vs os []) (s : RepOL K Z F H ws us []) : RepOL K Z F H (vs ++ ws) (os ++ us) [] := r.app1 rfl s
structure Mk1D (P : Program) (w : World) (K : PySem.W.Frag) (mg : Str → Option Value) (base : Heap) (name : Str) (C : Addr) (k : Nat) (ps : List Str) (dvs : List V) (sp : Sp) : Prop where
  ex : ∃ (f : Addr) (fd : FuncData) (dd : List Value), mg name = some (.ref C) ∧ Mk K C f ∧ Binds K fd ps dd ∧ Vals dvs dd ∧ FnOk P w K mg base CX0 k f fd ps sp
theorem me_makeD {α : Type} {ar : α → List O} {pre : α → Prop} {res : α → List O} {k : Nat} {ps : List Str} {dvs : List V} {dds : List D} {ro : List O} (c : Mk1D X.prog X.w X.K X.mg X.base nm C k ps dvs (SpI X.K C ns ar pre res)) (hd : Dfl dvs dds) (x : α) (ha : MA X ρ (e :: es) ro) (hx : ar x = ro ++ dds.map .fz) (hp : pre x) (hr : Room (k + 1) X.A) {os : List O} (hres : res x = os := by first | (dsimp only; done) | (dsimp only; rfl) | rfl) (hg : Gl X nm := by rfl)
    (hdb : (nm == ("__debug__" : Str)) = false := by decide) (he : starEach (e :: es) X.env = (false, eval e X.env) :: starEach es X.env := by rfl) (hpl : (backTo pos (starEach es X.env)).any (·.1) = false := by rfl) : ME X ρ (.Call (.Name nm p0) (e :: es) [] pos) (.ins C ns os) := by
  subst hres
  obtain ⟨f, fd, dd, hm, M, hb, hv, F⟩ := c.ex
  exact .mk fun Z0 F0 Z σ H s Q q => PE_w (pe_make M F hr hg hm hb hv pass0 pa_w hdb he hpl) (ha.run Z0 F0 Z σ H s _ fun vs Z1 H1 g1 r1 l dx nl ndx ne =>
    ⟨x, Z1, H1, l, dx, vs ++ dvs, rfl, g1.zh, (Ex.new ndx).trans (Ex.new (by rw [upd_ne ne.symm]; exact nl)), nl, upd_same, by rw [hx]; exact r1.app0 hd.own, hp, fun Z2 H2 A g2 r2 n2 =>
      ⟨rfl, q (.ref l) Z2 H2 A (g1.trans g2) (r2.unAt.mono (Ex.refl _) (fun _ _ z => by cases z) fun _ _ _ z => z) ⟨n2.1, fun a m => ⟨g1.hh.free (n2.2 a m).1, (n2.2 a m).2⟩⟩⟩⟩)
end
end M
namespace M
open PySem L2 PySem.Spec PyProof.Rows
section
variable {K : PySem.W.Frag} {Z0 Z Z' Z1 F F' H H' H1 : Hp} {ρ ρ' : Slots} {σ : L2.St}
theorem RepOL.foc : ∀ {vs : List V} {os : List O} {A : List Addr} {j : Nat} {o : O}, RepOL K Z F H vs os A → os[j]? = some o → A.Nodup →
    ∃ v B, vs[j]? = some v ∧ RepO K Z F H v o B ∧ B.Nodup ∧ (∀ a ∈ B, a ∈ A) ∧ ∀ {Z' H' : Hp} {o' : O} {B' : List Addr}, Ex Z Z' → (∀ a ∈ A, a ∉ B → ∀ u, H a = some u → H' a = some u) → RepO K Z' F H' v o' B' → B'.Nodup → (∀ a ∈ B', a ∈ A → a ∈ B) →
      ∃ A', RepOL K Z' F H' vs (os.set j o') A' ∧ A'.Nodup ∧ ∀ a ∈ A', (a ∈ A ∧ a ∉ B) ∨ a ∈ B'
  | _, _, _, _, _, .nil, e, _ => by simp at e
  | _, _, _, 0, _, .cons (A := A1) (B := A2) q h, e, nA => by
    simp at e
    subst e
    obtain ⟨n1, n2, n3⟩ := List.nodup_append.mp nA
    refine ⟨_, A1, rfl, q, n1, fun a m => List.mem_append_left _ m, fun ez k r n d => ?_⟩
    refine ⟨_, .cons r (RepOL.mono ez (Ex.refl _) h fun a m => k a (List.mem_append_right _ m) fun z => n3 a z a m rfl), List.nodup_append.mpr ⟨n, n2, fun a ha b hb e => ?_⟩, fun a m => ?_⟩
    · subst e
      exact n3 a (d a ha (List.mem_append_right _ hb)) a hb rfl
    · rcases List.mem_append.mp m with m | m
      · exact .inr m
      · exact .inl ⟨List.mem_append_right _ m, fun z => n3 a z a m rfl⟩
  | _, _, _, j + 1, _, .cons (A := A1) (B := A2) q h, e, nA => by
    obtain ⟨n1, n2, n3⟩ := List.nodup_append.mp nA
    obtain ⟨v, B, h1, h2, h3, h4, h5⟩ := RepOL.foc (j := j) h (by simpa using e) n2
    refine ⟨v, B, by simpa using h1, h2, h3, fun a m => List.mem_append_right _ (h4 a m), fun ez k r n d => ?_⟩
    obtain ⟨A', q1, q2, q3⟩ := h5 ez (fun a m nb => k a (List.mem_append_right _ m) nb) r n fun a m z => d a m (List.mem_append_right _ z)
    refine ⟨_, .cons (q.mono ez (Ex.refl _) fun a m => k a (List.mem_append_left _ m) fun z => n3 a m a (h4 a z) rfl) q1, List.nodup_append.mpr ⟨n1, q2, fun a ha b hb e => ?_⟩, fun a m => ?_⟩
    · subst e
      rcases q3 a hb with z | z
      · exact n3 a ha a z.1 rfl
      · exact n3 a ha a (h4 a (d a z (List.mem_append_left _ ha))) rfl
    · rcases List.mem_append.mp m with m | m
      · exact .inl ⟨List.mem_append_left _ m, fun z => n3 a m a (h4 a z) rfl⟩
      · exact (q3 a m).imp (fun z => ⟨List.mem_append_right _ z.1, z.2⟩) id
/-- a state with what it owns -/
structure StA (K : PySem.W.Frag) (ρ : Slots) (Z0 F Z : Hp) (σ : L2.St) (H : Hp) (A : List Addr) : Prop where
  gr : Gr Z0 F Z H
  st : StL K Z F H ρ σ A
  nd : A.Nodup
  ds : ∀ a ∈ A, Z a = none ∧ F a = none
theorem StA.r {A : List Addr} (s : StA K ρ Z0 F Z σ H A) : StR K ρ Z0 F Z σ H := ⟨s.gr, A, s.st, s.nd, s.ds⟩
theorem StR.a (s : StR K ρ Z0 F Z σ H) : ∃ A, StA K ρ Z0 F Z σ H A := let ⟨A, h1, h2, h3⟩ := s.st; ⟨A, s.gr, h1, h2, h3⟩
theorem StA.grow {A : List Addr} (s : StA K ρ Z0 F Z σ H A) (g : Gr Z H Z' H') : StA K ρ Z0 F Z' σ H' A := by
  refine ⟨s.gr.trans g, s.st.mono g.zz fun a _ u e => g.hh a u e, s.nd, fun a m => ⟨?_, (s.ds a m).2⟩⟩
  obtain ⟨u, e⟩ := s.st.there a m
  rw [g.nw a u e]
  exact (s.ds a m).1
/-- what a change at A must leave as it is -/
def Kept (F : Hp) (T A : List Addr) (a : Addr) : Prop := a ∉ A ∧ (a ∈ T ∨ ∃ u, F a = some u)
/-- the part at a place: what is there, and what comes of it where it is changed -/
structure FocA (K : PySem.W.Frag) (F Z : Hp) (Z0 : Hp) (σ : L2.St) (H : Hp) (T : List Addr) (v : V) (o : O) (R : O → Slots) (A : List Addr) : Prop where
  rp : RepO K Z F H v o A
  nd : A.Nodup
  ds : ∀ a ∈ A, a ∈ T ∧ Z a = none ∧ F a = none
  th : ∀ a ∈ T, ∃ u, H a = some u
  fh : Ex F H
  k : ∀ {Z' H' : Hp} {w : V} {o' p : O} {B : List Addr}, Ex Z Z' → (∀ a, Kept F T A a → Z' a = Z a) → Ex Z' H' → (∀ a, Kept F T A a → ∀ u, H a = some u → H' a = some u) → RepOL K Z' F H' [v, w] [o', p] B → B.Nodup → (∀ a ∈ B, (a ∈ A ∨ a ∉ T ∧ F a = none) ∧ Z' a = none) →
    StR K (R o' ++ [some p]) Z0 F Z' (σ ++ [some w]) H'
def Foc (K : PySem.W.Frag) (Z0 F Z : Hp) (σ : L2.St) (H : Hp) (T : List Addr) (v : V) (o : O) (R : O → Slots) : Prop := ∃ A, FocA K F Z Z0 σ H T v o R A
theorem StA.foc {T : List Addr} {i : Nat} {o : O} (s : StA K ρ Z0 F Z σ H T) (hi : ρ[i]? = some (some o)) : ∃ v, σ[i]? = some (some v) ∧ Foc K Z0 F Z σ H T v o (fun o' => ρ.set i (some o')) := by
  obtain ⟨v, B0, q1, q2, q3, q4, q5⟩ := s.st.at hi s.nd
  refine ⟨v, q1, B0, q2, q3, fun a m => ⟨q4 a m, s.ds a (q4 a m)⟩, s.st.there, s.gr.hh, fun {Z' H' w o' p B} ez nz zh k r n d => ?_⟩
  cases r with
  | @cons _ _ _ _ A1 B1 ra r =>
    cases r with
    | @cons _ _ _ _ A2 B2 rb r =>
      cases r
      rw [List.append_nil] at n d
      obtain ⟨n1, n2, n3⟩ := List.nodup_append.mp n
      have apart : ∀ a ∈ A1 ++ A2, a ∈ T → a ∈ B0 := fun a m ma => (d a m).1.elim id fun z => absurd ma z.1
      obtain ⟨A', r1, r2, r3⟩ := q5 (v' := v) ez (fun a m nb u e => k a ⟨nb, .inl m⟩ u e) ra n1 fun a m ma => apart a (List.mem_append_left _ m) ma
      rw [set_same q1] at r1
      have hF : ∀ a u, F a = some u → a ∉ B0 := fun a u e m => by
        rw [(s.ds a (q4 a m)).2] at e
        cases e
      refine ⟨⟨s.gr.zz.trans ez, fun a u e => k a ⟨hF a u e, .inr ⟨u, e⟩⟩ u (s.gr.hh a u e), zh, fun a u e => (nz a ⟨hF a u e, .inr ⟨u, e⟩⟩).trans (s.gr.nw a u e)⟩, A' ++ A2, r1.push rb, List.nodup_append.mpr ⟨r2, n2, fun a ha b hb e => ?_⟩, fun a m => ?_⟩
      · subst e
        rcases r3 a ha with z | z
        · exact z.2 (apart a (List.mem_append_right _ hb) z.1)
        · exact n3 a z a hb rfl
      · have new : a ∈ A1 ++ A2 → Z' a = none ∧ F a = none := fun y => by
          refine ⟨(d a y).2, ?_⟩
          rcases (d a y).1 with z | z
          · exact (s.ds a (q4 a z)).2
          · exact z.2
        rcases List.mem_append.mp m with m | m
        · rcases r3 a m with z | z
          · exact ⟨(nz a ⟨z.2, .inl z.1⟩).trans (s.ds a z.1).1, (s.ds a z.1).2⟩
          · exact new (List.mem_append_left _ z)
        · exact new (List.mem_append_right _ m)
theorem Foc.grow {T : List Addr} {v : V} {o : O} {R : O → Slots} (f : Foc K Z0 F Z σ H T v o R) (g : Gr Z H Z1 H1) : Foc K Z0 F Z1 σ H1 T v o R := by
  obtain ⟨A, f⟩ := f
  refine ⟨A, f.rp.ex g.zz g.hh, f.nd, fun a m => ⟨(f.ds a m).1, ?_, (f.ds a m).2.2⟩, fun a m => ?_, f.fh.trans g.hh, fun {Z' H' w o' p B} ez nz zh k r n d => ?_⟩
  · obtain ⟨u, e⟩ := f.rp.there a m
    exact (g.nw a u e).trans (f.ds a m).2.1
  · obtain ⟨u, e⟩ := f.th a m
    exact ⟨u, g.hh a u e⟩
  · refine f.k (g.zz.trans ez) (fun a ka => ?_) zh (fun a ka u e => k a ka u (g.hh a u e)) r n d
    have : ∃ u, H a = some u := ka.2.elim (f.th a) fun ⟨u, e⟩ => ⟨u, f.fh a u e⟩
    obtain ⟨u, e⟩ := this
    exact (nz a ka).trans (g.nw a u e)
theorem FocA.chg {T A : List Addr} {v : V} {o : O} {R : O → Slots} (f : FocA K F Z Z0 σ H T v o R A) {o' : O} {B : List Addr} (ez : Ex Z Z') (nz : ∀ a, Kept F T A a → Z' a = Z a) (zh : Ex Z' H') (k : ∀ a, Kept F T A a → ∀ u, H a = some u → H' a = some u) (r : RepO K Z' F H' v o' B) (n : B.Nodup) (d : ∀ a ∈ B, (a ∈ A ∨ a ∉ T ∧ F a = none) ∧ Z' a = none) : StR K (R o') Z0 F Z' σ H' := by
  have := f.k (w := .non) (p := .fz .non) ez nz zh k (.cons r (.cons (A := []) (.fz .non) .nil)) (by simpa using n) (fun a m => d a (by simpa using m))
  exact this.pop
/-- one step down -/
theorem FocA.down {X : Type} {T A : List Addr} {v : V} {mk : List O → O} {cell : X → List V → HO} {P : Addr → Prop} {R : O → Slots} {os : List O} {j : Nat} {o : O}
    (hmk : ∀ {Z H : Hp} {v : V} {os : List O} {A : List Addr}, RepO K Z F H v (mk os) A ↔ ∃ a x vs A1, P a ∧ v = .ref a ∧ A = a :: A1 ∧ H a = some (cell x vs) ∧ RepOL K Z F H vs os A1)
    (f : FocA K F Z Z0 σ H T v (mk os) R A) (hj : os[j]? = some o) : ∃ a x vs v', v = .ref a ∧ H a = some (cell x vs) ∧ vs.length = os.length ∧ vs[j]? = some v' ∧ Foc K Z0 F Z σ H T v' o (fun o' => R (mk (os.set j o'))) := by
  obtain ⟨a, x, vs, A1, pa, rfl, rfl, ha, rl⟩ := hmk.mp f.rp
  obtain ⟨na, nA⟩ := List.nodup_cons.mp f.nd
  obtain ⟨v', B, q1, q2, q3, q4, q5⟩ := rl.foc hj nA
  have lenL : ∀ {vs : List V} {os : List O} {A : List Addr}, RepOL K Z F H vs os A → vs.length = os.length := fun r => r.length
  refine ⟨a, x, vs, v', rfl, ha, lenL rl, q1, B, q2, q3, fun b m => f.ds b (List.mem_cons_of_mem _ (q4 b m)), f.th, f.fh, fun {Z' H' w o' p B2} ez nz zh k r n d => ?_⟩
  cases r with
  | @cons _ _ _ _ B3 _ ra r =>
    cases r with
    | @cons _ _ _ _ B4 _ rb r =>
      cases r
      rw [List.append_nil] at n d
      obtain ⟨n1, n2, n3⟩ := List.nodup_append.mp n
      have aB : a ∉ B := fun m => na (q4 a m)
      have kA : ∀ b ∈ A1, b ∉ B → Kept F T B b := fun b m nb => ⟨nb, .inl (f.ds b (List.mem_cons_of_mem _ m)).1⟩
      have kT : ∀ b, Kept F T (a :: A1) b → Kept F T B b := fun b kb => ⟨fun m => kb.1 (List.mem_cons_of_mem _ (q4 b m)), kb.2⟩
      have ka : Kept F T B a := ⟨aB, .inl (f.ds a List.mem_cons_self).1⟩
      have apart : ∀ b ∈ B3 ++ B4, b ∈ a :: A1 → b ∈ B := fun b m mb => (d b m).1.elim id fun z => absurd (f.ds b mb).1 z.1
      obtain ⟨A', t1, t2, t3⟩ := q5 ez (fun b m nb u e => k b (kA b m nb) u e) ra n1 fun b m mb => apart b (List.mem_append_left _ m) (List.mem_cons_of_mem _ mb)
      have rm : RepO K Z' F H' (.ref a) (mk (os.set j o')) (a :: A') := hmk.mpr ⟨a, x, vs, A', pa, rfl, rfl, k a ka _ ha, t1⟩
      have aA' : a ∉ A' := fun m => by
        rcases t3 a m with z | z
        · exact na z.1
        · exact aB (apart a (List.mem_append_left _ z) List.mem_cons_self)
      refine f.k ez (fun b kb => nz b (kT b kb)) zh (fun b kb u e => k b (kT b kb) u e) (.cons rm (.cons rb .nil)) ?_ fun b m => ?_
      · rw [List.append_nil]
        refine List.nodup_append.mpr ⟨List.nodup_cons.mpr ⟨aA', t2⟩, n2, fun b hb c hc e => ?_⟩
        subst e
        rcases List.mem_cons.mp hb with z | z
        · subst z
          exact aB (apart b (List.mem_append_right _ hc) List.mem_cons_self)
        · rcases t3 b z with y | y
          · exact y.2 (apart b (List.mem_append_right _ hc) (List.mem_cons_of_mem _ y.1))
          · exact n3 b y b hc rfl
      · rw [List.append_nil] at m
        have new : b ∈ B3 ++ B4 → (b ∈ a :: A1 ∨ b ∉ T ∧ F b = none) ∧ Z' b = none := fun y => ⟨(d b y).1.imp (fun z => List.mem_cons_of_mem _ (q4 b z)) id, (d b y).2⟩
        rcases List.mem_append.mp m with m | m
        · rcases List.mem_cons.mp m with z | z
          · subst z
            exact ⟨.inl List.mem_cons_self, (nz b ka).trans (f.ds b List.mem_cons_self).2.1⟩
          · rcases t3 b z with y | y
            · exact ⟨.inl (List.mem_cons_of_mem _ y.1), (nz b (kA b y.1 y.2)).trans (f.ds b (List.mem_cons_of_mem _ y.1)).2.1⟩
            · exact new (List.mem_append_left _ y)
        · exact new (List.mem_append_right _ m)
theorem hm_lst : ∀ {Z H : Hp} {v : V} {os : List O} {A : List Addr}, RepO K Z F H v (.lst os) A ↔ ∃ a, ∃ _ : Unit, ∃ vs A1, True ∧ v = .ref a ∧ A = a :: A1 ∧ H a = some (.lst vs) ∧ RepOL K Z F H vs os A1 := by
  intro Z H v os A
  constructor
  · intro r
    cases r with
    | lst h r => exact ⟨_, (), _, _, trivial, rfl, rfl, h, r⟩
  · rintro ⟨a, _, vs, A1, _, rfl, rfl, h, r⟩
    exact .lst h r
theorem hm_ins {C : Addr} {ns : List Str} : ∀ {Z H : Hp} {v : V} {os : List O} {A : List Addr}, RepO K Z F H v (.ins C ns os) A ↔ ∃ a, ∃ dx : Addr, ∃ vs A1, True ∧ v = .ref a ∧ A = a :: A1 ∧ H a = some (.ins C dx (ns.zip vs)) ∧ RepOL K Z F H vs os A1 := by
  intro Z H v os A
  constructor
  · intro r
    cases r with
    | ins h r => exact ⟨_, _, _, _, trivial, rfl, rfl, h, r⟩
  · rintro ⟨a, _, vs, A1, _, rfl, rfl, h, r⟩
    exact .ins h r
end
end M
namespace M
open PySem L2 PySem.Spec PyProof.Rows
section
variable {X : Cx} {ρ ρ' : Slots} {R : O → Slots} {e a b c elt : Expr} {es rest : List Expr} {st : Stmt} {sts : List Stmt} {G : Go} {o o1 o2 : O} {d : D} {ds : List D} {os : List O} {pos p0 p1 p2 p3 p4 p5 p6 : Pos} {i j : Nat} {x nm f : Str} {m n k : Int} {p q : Str} {C : Addr} {ns : List Str}
/-- an expression that tells a place, and changes nothing -/
structure MQ (X : Cx) (ρ : Slots) (e : Expr) (o : O) (R : O → Slots) : Prop where
  run : ∀ (Z0 F Z : Hp) (σ : L2.St) (H : Hp) (T : List Addr), StA X.K ρ Z0 F Z σ H T → ∀ Q : VK, (∀ v Z' H', Gr Z H Z' H' → Foc X.K Z0 F Z' σ H' T v o R → Q v H') → wE X e σ H Q
/-- .. that changes slots ahead -/
structure MP (X : Cx) (ρ : Slots) (e : Expr) (o : O) (ρ' : Slots) (R : O → Slots) : Prop where
  run : ∀ (Z0 F Z : Hp) (σ : L2.St) (H : Hp) (T : List Addr), StA X.K ρ Z0 F Z σ H T → ∀ Q : VK, (∀ v Z' H' T', StR X.K ρ' Z0 F Z' σ H' → Foc X.K Z0 F Z' σ H' T' v o R → Q v H') → wE X e σ H Q
theorem MQ.toP (h : MQ X ρ e o R) : MP X ρ e o ρ R := .mk fun Z0 F Z σ H T s Q q => h.run Z0 F Z σ H T s Q fun v Z' H' g f => q v Z' H' T (s.grow g).r f
theorem mq_var (p : PE X (.Name x pos) (tVar i)) (hi : ρ[i]? = some (some o)) : MQ X ρ (.Name x pos) o (fun o' => ρ.set i (some o')) := .mk fun Z0 F Z σ H T s Q q => by
  obtain ⟨v, e1, f⟩ := s.foc hi
  exact PE_w p ⟨v, e1, q v Z H (Gr.refl s.gr.zh) f⟩
theorem Foc.unloc {K : PySem.W.Frag} {Z0 F Z H : Hp} {σ : L2.St} {T : List Addr} {v : V} {l : Addr} (f : Foc K Z0 F Z σ H T v (.loc l o) R) : v = .ref l ∧ Foc K Z0 F Z σ H T v o (fun o' => R (.loc l o')) := by
  obtain ⟨A, f⟩ := f
  have ev : v = .ref l := by
    cases f.rp with
    | loc r => rfl
  subst ev
  refine ⟨rfl, A, ?_, f.nd, f.ds, f.th, f.fh, fun ez nz zh k r n d => f.k ez nz zh k ?_ n d⟩
  · cases f.rp with
    | loc r => exact r
  · cases r with
    | cons r1 r2 => exact .cons (.loc r1) r2
theorem MV.unloc {l : Addr} (h : MV X ρ e (.loc l o)) : MV X ρ e o := .mk fun Z0 F Z σ H s Q q => h.run Z0 F Z σ H s Q fun v Z' H' A g r => by
  cases r with
  | loc r => exact q _ Z' H' A g r
theorem mq_ix {j : Nat} (h : MQ X ρ a (.lst os) R) (hb : ME X ρ b (.fz (.int k))) (hk : ixN os.length k = some j) (hd : os[j]? = some o) (hp : PlainIx b := by exact fun _ _ => rfl) : MQ X ρ (.Subscript a b pos) o (fun o' => R (.lst (os.set j o'))) := .mk fun Z0 F Z σ H T s Q q =>
  PE_w (pe_ix ix_list pe_w pe_w hp) (h.run Z0 F Z σ H T s _ fun v Z1 H1 g1 f => hb.run Z0 F Z1 σ H1 (s.grow g1).r _ fun w Z2 H2 A2 g2 r2 n2 => by
    cases r2 with
    | fz r2 =>
      cases r2
      obtain ⟨A, f⟩ := f.grow g2
      obtain ⟨a, _, vs, v', rfl, ha, hl, hv, f'⟩ := f.down hm_lst hd
      exact ⟨a, vs, k, v', rfl, rfl, SqL.of ha, by unfold L2.atI; rw [hl, hk]; exact hv, q v' Z2 H2 (g1.trans g2) f'⟩)
/-- a cell is changed in place -/
theorem FocA.mut {K : PySem.W.Frag} {Z0 F Z H : Hp} {σ : L2.St} {T A : List Addr} {v : V} (f : FocA K F Z Z0 σ H T v o R A) (zh : Ex Z H) {a : Addr} (ha : a ∈ A) {c : HO} {o' : O} {B : List Addr} (r : RepO K Z F (upd H a c) v o' B) (n : B.Nodup) (d : ∀ b ∈ B, b ∈ A ∨ (b ∉ T ∧ Z b = none ∧ F b = none)) : StR K (R o') Z0 F Z σ (upd H a c) := by
  refine f.chg (Ex.refl _) (fun _ _ => rfl) (zh.mut (f.ds a ha).2.1) (fun b kb u e => ?_) r n fun b m => ?_
  · rw [upd_ne fun q => kb.1 (by rw [q]; exact ha)]
    exact e
  · rcases d b m with z | z
    · exact ⟨.inl z, (f.ds b z).2.1⟩
    · exact ⟨.inr ⟨z.1, z.2.2⟩, z.2.1⟩
/-- p.append(e) -/
theorem m_appendP (h : MP X ρ a (.lst os) ρ' R) (he : ME X ρ' e o) (hl : os.length < sizeLine) (k : G.nx (R (.lst (os ++ [o]))))
    (q : ∀ t, PE X (.Call (.Attribute a "append" p2) [e] [] p3) t → PS X (.Expr (.Call (.Attribute a "append" p2) [e] [] p3) p4) (tDrop t) := by exact fun _ h => ps_expr h)
    (pm : PE X (.Call (.Attribute a "append" p2) [e] [] p3) (tBM X.K "list" rAppend (wE X a) (tCons (wE X e) tNil)) := by exact pe_bm PySem.F.plainAttrs_list PySem.F.slot_list_append PySem.F.type_list_append mt_append pe_w (pa_cons pe_w pa_nil)) : MS1 X ρ (.Expr (.Call (.Attribute a "append" p2) [e] [] p3) p4) G := .mk fun Z0 F Z σ H D s g => by
  obtain ⟨T, s⟩ := s.a
  refine PS_w (q _ pm) (h.run Z0 F Z σ H T s _ fun v Z1 H1 T1 s1 f => ?_)
  have f0 := f
  obtain ⟨A, f⟩ := f
  obtain ⟨l, _, vs, A1, _, rfl, rfl, h0, rl⟩ := hm_lst.mp f.rp
  refine ⟨.inl ⟨rfl, _, SqL.of h0⟩, he.run Z0 F Z1 σ H1 s1 _ fun w Z2 H2 B g1 r2 n2 => ?_⟩
  obtain ⟨na, nA'⟩ := List.nodup_cons.mp f.nd
  have th := f.rp.there
  have thT := f.th
  have fh1 := f.fh
  obtain ⟨A', f'⟩ := f0.grow g1
  obtain ⟨l', _, vs', A1', _, el, rfl, h0', rl'⟩ := hm_lst.mp f'.rp
  cases el
  have ev : vs' = vs := by
    have := g1.hh _ _ h0
    rw [h0'] at this
    cases this
    rfl
  subst ev
  obtain ⟨na', nA2⟩ := List.nodup_cons.mp f'.nd
  have nB : ∀ b ∈ B, b ∉ T1 := fun b m mt => by
    obtain ⟨u, hu⟩ := thT b mt
    rw [(n2.2 b m).1] at hu
    cases hu
  have nBA : ∀ b ∈ B, b ∉ l :: A1' := fun b m mb => nB b m (f'.ds b mb).1
  refine ⟨l, vs', w, rfl, rfl, h0', by rw [rl'.length]; exact hl, ?_⟩
  have r1' : RepOL X.K Z2 F (upd H2 l (.lst (vs' ++ [w]))) vs' os A1' := rl'.mono (Ex.refl _) (Ex.refl _) fun b m u hu => by
    rw [upd_ne fun q => na' (by rw [← q]; exact m)]
    exact hu
  have r2' : RepO X.K Z2 F (upd H2 l (.lst (vs' ++ [w]))) w o B := r2.frame fun b m => upd_ne fun q => nBA b m (by rw [q]; exact List.mem_cons_self)
  refine g.nx _ Z2 σ _ k (f'.mut g1.zh List.mem_cons_self (.lst upd_same (r1'.snoc r2')) ?_ fun b m => ?_)
  · refine List.nodup_cons.mpr ⟨fun m => ?_, List.nodup_append.mpr ⟨nA2, n2.1, fun b hb c hc e => nBA c hc (by rw [← e]; exact List.mem_cons_of_mem _ hb)⟩⟩
    rcases List.mem_append.mp m with m | m
    · exact na' m
    · exact nBA _ m List.mem_cons_self
  · rcases List.mem_cons.mp m with z | z
    · exact .inl (by rw [z]; exact List.mem_cons_self)
    · rcases List.mem_append.mp z with z | z
      · exact .inl (List.mem_cons_of_mem _ z)
      · exact .inr ⟨nB b z, (n2.2 b z).2, fh1.free (n2.2 b z).1⟩
end
end M
namespace M
open PySem L2 PySem.Spec PyProof.Rows
section
variable {X : Cx} {ρ ρ' : Slots} {R : O → Slots} {e a b c elt : Expr} {es rest : List Expr} {st : Stmt} {sts : List Stmt} {G : Go} {o o1 o2 : O} {d : D} {ds : List D} {os : List O} {pos p0 p1 p2 p3 p4 p5 p6 : Pos} {i j : Nat} {x nm f : Str} {m n k : Int} {C : Addr} {ns : List Str}
/-- the list at a place is changed by a step of its own -/
theorem FocA.chgL {K : PySem.W.Frag} {Z0 F Z H : Hp} {σ : L2.St} {T A A1 : List Addr} {l : Addr} {us : List V} {os' : List O} (f : FocA K F Z Z0 σ H T (.ref l) o R A) (eA : A = l :: A1) (zh : Ex Z H) (r : RepOL K Z F H us os' A1) : StR K (R (.lst os')) Z0 F Z σ (upd H l (.lst us)) := by
  subst eA
  obtain ⟨na, nA⟩ := List.nodup_cons.mp f.nd
  refine f.mut zh List.mem_cons_self (.lst upd_same (r.mono (Ex.refl _) (Ex.refl _) fun b m u hu => ?_)) f.nd fun b m => .inl m
  rw [upd_ne fun q => na (by rw [← q]; exact m)]
  exact hu
theorem RepOL.ins1 {K : PySem.W.Frag} {Z F H : Hp} {w : V} {d : D} (h : Rep K Z w d) : ∀ {vs : List V} {os : List O} {A : List Addr} (j : Nat), RepOL K Z F H vs os A → RepOL K Z F H (vs.take j ++ [w] ++ vs.drop j) (os.take j ++ [.fz d] ++ os.drop j) A
  | _, _, _, 0, r => .cons (A := []) (.fz h) r
  | _, _, _, j + 1, .nil => .cons (A := []) (.fz h) .nil
  | _, _, _, j + 1, .cons g r => .cons g (RepOL.ins1 h j r)
abbrev rInsert : V → List V → Hp → VK → Prop := fun x vs H Q => ∃ (l : Addr) (xs : List V) (i : Int) (y : V), x = .ref l ∧ vs = [.int i, y] ∧ H l = some (.lst xs) ∧ xs.length < sizeLine ∧ 0 ≤ i ∧ i < 2 ^ 63 ∧
    Q .non (upd H l (.lst (xs.take i.toNat ++ [y] ++ xs.drop i.toNat)))
/-- p.insert(k, e), k not below 0 -/
theorem m_insertP (h : MP X ρ a (.lst os) ρ' R) (hb : ME X ρ' b (.fz (.int n))) (he : ME X ρ' e (.fz d)) (hl : os.length < sizeLine) (hn : 0 ≤ n ∧ n < 2 ^ 63) (k : G.nx (R (.lst (os.take n.toNat ++ [.fz d] ++ os.drop n.toNat))))
    (q : ∀ t, PE X (.Call (.Attribute a "insert" p2) [b, e] [] p3) t → PS X (.Expr (.Call (.Attribute a "insert" p2) [b, e] [] p3) p4) (tDrop t) := by exact fun _ h => ps_expr h)
    (pm : PE X (.Call (.Attribute a "insert" p2) [b, e] [] p3) (tBM X.K "list" rInsert (wE X a) (tCons (wE X b) (tCons (wE X e) tNil))) := by exact pe_bm PySem.F.plainAttrs_list PySem.F.slot_list_insert PySem.F.type_list_insert mt_insert pe_w (pa_cons pe_w (pa_cons pe_w pa_nil))) : MS1 X ρ (.Expr (.Call (.Attribute a "insert" p2) [b, e] [] p3) p4) G := .mk fun Z0 F Z σ H D s g => by
  obtain ⟨T, s⟩ := s.a
  refine PS_w (q _ pm) (h.run Z0 F Z σ H T s _ fun v Z1 H1 T1 s1 f => ?_)
  have f0 := f
  obtain ⟨A, f⟩ := f
  obtain ⟨l, _, vs, A1, _, rfl, rfl, h0, rl⟩ := hm_lst.mp f.rp
  refine ⟨.inl ⟨rfl, _, SqL.of h0⟩, hb.run Z0 F Z1 σ H1 s1 _ fun w Z2 H2 B g1 r2 n2 => he.run Z0 F Z2 σ H2 (s1.grow g1) _ fun y Z3 H3 B3 g2 r3 n3 => ?_⟩
  cases r2 with
  | fz r2 =>
    cases r2
    cases r3 with
    | fz r3 =>
      have g12 := g1.trans g2
      obtain ⟨A', f'⟩ := f0.grow g12
      obtain ⟨l', _, vs', A1', _, el, rfl, h0', rl'⟩ := hm_lst.mp f'.rp
      cases el
      exact ⟨l, vs', n, y, rfl, rfl, h0', by rw [rl'.length]; exact hl, hn.1, hn.2, g.nx _ Z3 σ _ k (f'.chgL rfl g12.zh (rl'.ins1 r3 _))⟩
end
end M
namespace M
open PySem L2 PySem.Spec PyProof.Rows
section
variable {X : Cx} {ρ ρ' : Slots} {R : O → Slots} {e a b c elt : Expr} {es rest : List Expr} {st : Stmt} {sts : List Stmt} {G : Go} {o o1 o2 : O} {d : D} {ds ds1 ds2 : List D} {os : List O} {pos p0 p1 p2 p3 p4 p5 p6 : Pos} {i j : Nat} {nm : Str} {C : Addr} {ns : List Str}
end
end M
namespace M
open PySem L2 PySem.Spec PyProof.Rows
section
variable {V W R : Type}
def wlN (c : V → Option Bool) (b : V → Option (Ou V V R)) : Nat → V → Option (Ou V V R)
  | 0, _ => none
  | n + 1, v => bd (c v) fun k => cond k (bd (b v) fun o => match o with
    | .nx v' => wlN c b n v'
    | .ct v' => wlN c b n v'
    | .bk v' => some (.nx v')
    | .rt r => some (.rt r)) (some (.nx v))
open Classical in
noncomputable def wl (c : V → Option Bool) (b : V → Option (Ou V V R)) (v : V) : Option (Ou V V R) := if h : ∃ n o, wlN c b n v = some o then some h.choose_spec.choose else none
variable {X : Cx} {ρ ρ' : Slots} {e a c elt : Expr} {st : Stmt} {sts : List Stmt} {G : Go} {pos p0 : Pos}
end
end M
namespace M
open PySem L2 PySem.Spec PyProof.Rows
section
variable {X : Cx} {ρ ρ' : Slots} {R' : O → Slots} {e a b c elt : Expr} {es : List Expr} {st : Stmt} {sts : List Stmt} {G : Go} {o o1 o2 : O} {d : D} {ds : List D} {os : List O} {pos p0 p1 p2 p3 p4 : Pos} {i n : Nat} {x nm : Str} {α β V W R : Type}
theorem m_appendPT {xs : List α} {enc : α → D} {y : α} (h : MP X ρ a (.lst ((xs.map enc).map .fz)) ρ' R') (he : ME X ρ' e (.fz (enc y))) (hl : xs.length < sizeLine) (k : G.nx (R' (.lst (((xs ++ [y]).map enc).map .fz))))
    (q : ∀ t, PE X (.Call (.Attribute a "append" p2) [e] [] p3) t → PS X (.Expr (.Call (.Attribute a "append" p2) [e] [] p3) p4) (tDrop t) := by exact fun _ h => ps_expr h)
    (pm : PE X (.Call (.Attribute a "append" p2) [e] [] p3) (tBM X.K "list" rAppend (wE X a) (tCons (wE X e) tNil)) := by exact pe_bm PySem.F.plainAttrs_list PySem.F.slot_list_append PySem.F.type_list_append mt_append pe_w (pa_cons pe_w pa_nil)) : MS1 X ρ (.Expr (.Call (.Attribute a "append" p2) [e] [] p3) p4) G :=
  m_appendP h he (by rw [List.length_map, List.length_map]; exact hl) (by rw [List.map_append, List.map_append] at k; exact k) q pm
theorem m_insertPT {xs : List α} {enc : α → D} {y : α} {j : Int} (h : MP X ρ a (.lst ((xs.map enc).map .fz)) ρ' R') (hb : ME X ρ' b (.fz (.int j))) (he : ME X ρ' e (.fz (enc y))) (hl : xs.length < sizeLine ∧ 0 ≤ j ∧ j < 2 ^ 63) (k : G.nx (R' (.lst (((xs.take j.toNat ++ [y] ++ xs.drop j.toNat).map enc).map .fz))))
    (q : ∀ t, PE X (.Call (.Attribute a "insert" p2) [b, e] [] p3) t → PS X (.Expr (.Call (.Attribute a "insert" p2) [b, e] [] p3) p4) (tDrop t) := by exact fun _ h => ps_expr h)
    (pm : PE X (.Call (.Attribute a "insert" p2) [b, e] [] p3) (tBM X.K "list" rInsert (wE X a) (tCons (wE X b) (tCons (wE X e) tNil))) := by exact pe_bm PySem.F.plainAttrs_list PySem.F.slot_list_insert PySem.F.type_list_insert mt_insert pe_w (pa_cons pe_w (pa_cons pe_w pa_nil))) : MS1 X ρ (.Expr (.Call (.Attribute a "insert" p2) [b, e] [] p3) p4) G :=
  m_insertP h hb he (by rw [List.length_map, List.length_map]; exact hl.1) hl.2 (by
    rw [List.map_append, List.map_append, List.map_append, List.map_append, List.map_take, List.map_take, List.map_drop, List.map_drop] at k
    exact k) q pm
theorem Le.get : ∀ {ρ τ : Slots} {n : Nat} {o : O}, Le ρ τ → τ[n]? = some (some o) → ρ[n]? = some (some o)
  | _, _, _, _, .nil, h => h
  | _, _, 0, _, .no _, h => by simp at h
  | _, _, 0, _, .eq _, h => h
  | _, _, n + 1, _, .no l, h => by
    simp only [List.getElem?_cons_succ] at h ⊢
    exact Le.get l h
  | _, _, n + 1, _, .eq l, h => by
    simp only [List.getElem?_cons_succ] at h ⊢
    exact Le.get l h
theorem m_setVw {i : Nat} {ds : List D} (p : PS X st (tAsg (wE X e) (gName i))) (h : MV X ρ e (.vw ds)) (k : G.nx (ρ.set i (some (.vw ds)))) (hi : i < ρ.length := by exact Nat.le_of_ble_eq_true rfl) : MS1 X ρ st G := .mk fun Z0 F Z σ H D s g =>
  PS_w p (h.run Z0 F Z σ H s _ fun v Z' H' A gg r => by
    cases r with
    | vw l rl => exact g.nx _ Z' _ H' k (s.put gg (.vw l rl) .nil hi))
end
end M
namespace M
open PySem L2 PySem.Spec PyProof.Rows
/-- what a def tells: a result or an error -/
inductive Xr (E R : Type) where
  | ok (r : R) | er (e : E)
def exO {E R : Type} (te : E → Er) (er : R → O) : Xr E R → O
  | .ok r => er r
  | .er e => .rs (te e)
def ThrE (K : PySem.W.Frag) (E : XK) (e : Er) (Z H : Hp) : Prop := Thrown K (fun c d _ H => E c d H) e Z [] H
theorem thrown_of {K : PySem.W.Frag} {E : XK} {e : Er} {Z H : Hp} {σ : L2.St} (h : ThrE K E e Z H) : Thrown K (fun c d _ H => E c d H) e Z σ H := by
  unfold ThrE Thrown at h
  unfold Thrown
  cases hf : e.fld with
  | none => rw [hf] at h; exact h
  | some p => rw [hf] at h; exact h
def EW (W : WX) : XK := fun c d H => ∀ σ, W c d σ H
theorem thrE_of {K : PySem.W.Frag} {W : WX} {e : Er} {Z H : Hp} (h : ∀ σ, Thrown K W e Z σ H) : ThrE K (EW W) e Z H := by
  unfold Thrown at h
  unfold ThrE Thrown
  cases hf : e.fld with
  | none => intro σ; have := h σ; rw [hf] at this; exact this
  | some p => intro a v na r σ; have := h σ; rw [hf] at this; exact this a v na r
theorem stL_blank {K : PySem.W.Frag} {Z F H : Hp} : ∀ σ : L2.St, StL K Z F H (List.replicate σ.length none) σ []
  | [] => .nil
  | _ :: σ => .no (stL_blank σ)
theorem StR.blank {K : PySem.W.Frag} {Z0 F Z' H' : Hp} (g : Gr Z0 F Z' H') (σ : L2.St) : StR K (List.replicate σ.length none) Z0 F Z' σ H' := ⟨g, [], stL_blank σ, List.nodup_nil, fun _ m => nomatch m⟩
theorem pass_ew {X : Cx} {W : WX} (tk : Takes X W) : Passes (L2.CX X.prog X.w) X (EW W) := passes_call tk fun _ _ σ _ h => h σ
/-- a def that is known to refuse nothing -/
theorem _root_.L2.FnOk.known {P : Program} {w : World} {K : PySem.W.Frag} {mg : Str → Option Value} {base : Heap} {k : Nat} {f : Addr} {fd : FuncData} {ps : List Str} {sp sp' : Sp} (F : FnOk P w K mg base (L2.CX P w) k f fd ps sp)
    (h : ∀ vs H Q E, sp' vs H Q E → sp vs H Q (fun _ _ _ => False)) : FnOk P w K mg base CX0 k f fd ps sp' :=
  ⟨fun vs H Q E q => F.len vs H Q _ (h _ _ _ _ q), fun A outer s H args us vs Q E hr he hb hv hs => codeAny_mono (F.run A outer s H args us vs Q _ hr he hb hv (h _ _ _ _ hs)) fun r s' q => by
    cases r with
    | ok r => cases r <;> exact q
    | error e =>
      obtain ⟨_, _, _, _, _, _, _, _, _, _, _, _, z⟩ := q
      exact z.elim⟩
def SpE {α : Type} (K : PySem.W.Frag) (ar : α → List O) (pre : α → Prop) (res : α → O) : Sp := fun vs H Q E => ∃ (x : α) (Z : Hp), Ex Z H ∧ RepOL K Z H H vs (ar x) [] ∧ pre x ∧
  (∀ v Z' H' A, Gr Z H Z' H' → RepO K Z' (fun _ => none) H' v (res x) A → New H Z' A → Q v H') ∧ ∀ e Z' H', res x = .rs e → Gr Z H Z' H' → ThrE K E e Z' H'
/-- its body keeps its promise -/
theorem fn_mE {α : Type} {P : Program} {w : World} {K : PySem.W.Frag} {mg : Str → Option Value} {base : Heap} {x qual : Str} {st : Stmt} {f : Addr} {fd : FuncData} {N ps : List Str} {k : Nat} {ar : α → List O} {pre : α → Prop} {res : α → O}
    (F : Fun K x qual st f fd) (S : FnScope N ps (defScope st)) (hl : ∀ x, (ar x).length = ps.length) (hn : ∀ x, pre x → (res x).nv = true ∨ ∃ e, res x = .rs e)
    (hb : ∀ (cdv : Value) (A : Around) (outer : List Env) (s : Shared) (H : Hp) (E : XK), Room k (A.deeper (envOfC qual (defScope st) s.heap.objs.size f cdv)) →
      PassesOwn (model P w) (A.deeper (envOfC qual (defScope st) s.heap.objs.size f cdv)) (cxOf (L2.CX P w) P w K mg base N qual (defScope st) f cdv A outer s H E).env (cxOf (L2.CX P w) P w K mg base N qual (defScope st) f cdv A outer s H E).xe → ∀ x, pre x →
      MS (cxOf (L2.CX P w) P w K mg base N qual (defScope st) f cdv A outer s H E) ((ar x).map some ++ List.replicate (N.length - ps.length) none) (defBody st) { nx := fun _ => res x = .fz .non, rt := fun o => o = res x }) :
    FnOk P w K mg base (L2.CX P w) (k + 1) f fd ps (SpE K ar pre res) := by
  refine F.okX S (fun vs H Q E h => ?_) (fun cdv A outer s H vs Q E hr h => ?_)
  · obtain ⟨x, Z, _, r, _⟩ := h
    rw [r.length, hl]
  · obtain ⟨x, Z, ez, r, hp, q, qx⟩ := h
    refine ⟨_, pss_w, (hb cdv A outer s H E hr (passes_of rfl) x hp).run Z H Z _ H _ ⟨Gr.refl ez, [], ?_, List.nodup_nil, fun _ m => nomatch m⟩ ⟨fun ρ Z' σ H' e s' => ?_, fun _ _ _ _ z => z.elim, fun _ _ _ _ z => z.elim, fun o v Z' H' A e g r n => ?_, fun _ _ _ _ _ _ z => z.elim, ⟨_, takes_of rfl rfl rfl rfl, fun e ρ Z' σ H' k s' => thrown_of (qx e Z' H' k.symm s'.gr)⟩⟩⟩
    · have e : L2.start N vs = vs.map some ++ List.replicate (N.length - ps.length) none := by
        unfold L2.start
        rw [r.length, hl]
      rw [e]
      exact stL_more _ (stL_args r)
    · refine q _ Z' H' [] s'.gr ?_ .nil
      rw [e]
      exact .fz .non
    · subst e
      rcases hn x hp with hn | ⟨e, hn⟩
      · exact q _ Z' H' A g (r.unF hn) n
      · rw [hn] at r
        cases r
structure Fn1E (P : Program) (w : World) (K : PySem.W.Frag) (mg : Str → Option Value) (base : Heap) (name : Str) (k : Nat) (ps : List Str) (sp : Sp) : Prop where
  ex : ∃ (f : Addr) (fd : FuncData), mg name = some (.ref f) ∧ PySem.W.keepIn K (.ref f) = true ∧ Binds K fd ps [] ∧ FnOk P w K mg base (L2.CX P w) k f fd ps sp
theorem Fn1E.ok {P : Program} {w : World} {K : PySem.W.Frag} {mg : Str → Option Value} {base : Heap} {name : Str} {k : Nat} {ps : List Str} {α : Type} {ar : α → List O} {pre : α → Prop} {res : α → O} (c : Fn1E P w K mg base name k ps (SpE K ar pre res)) : Fn1 P w K mg base name k ps (SpM K ar (fun x => pre x ∧ ∀ e, res x ≠ .rs e) res) := by
  obtain ⟨f, fd, hm, hk, hb, F⟩ := c.ex
  exact ⟨f, fd, hm, hk, hb, F.known fun vs H Q E ⟨x, Z, ez, r, ⟨hp, hn⟩, q⟩ => ⟨x, Z, ez, r, hp, q, fun e _ _ z => absurd z (hn e)⟩⟩
/-- an expression that raises -/
structure MRz (X : Cx) (ρ : Slots) (e : Expr) (er : Er) : Prop where
  run : ∀ (Z0 F Z : Hp) (σ : L2.St) (H : Hp), StR X.K ρ Z0 F Z σ H → ∀ (W : WX), Takes X W → (∀ σ' Z' H', Gr Z0 F Z' H' → Thrown X.K W er Z' σ' H') → ∀ Q : VK, wE X e σ H Q
section
variable {X : Cx} {ρ : Slots} {e a b elt : Expr} {es : List Expr} {st : Stmt} {sts : List Stmt} {G : Go} {o o1 o2 : O} {d : D} {ds : List D} {pos p0 p1 p2 p3 : Pos} {i : Nat} {x nm f : Str} {er : Er}
/-- a call that raises -/
theorem mz_fn {α : Type} {ar : α → List O} {pre : α → Prop} {res : α → O} {k : Nat} {ps : List Str} (c : Fn1E X.prog X.w X.K X.mg X.base nm k ps (SpE X.K ar pre res)) (x : α) (ha : MA X ρ (e :: es) (ar x)) (hp : pre x) (hr : Room k X.A) (hres : res x = .rs er := by first | (dsimp only; done) | (dsimp only; rfl) | rfl) (hg : Gl X nm := by rfl)
    (hdb : (nm == ("__debug__" : Str)) = false := by decide) (he : starEach (e :: es) X.env = (false, eval e X.env) :: starEach es X.env := by rfl) (hpl : (backTo pos (starEach es X.env)).any (·.1) = false := by rfl) : MRz X ρ (.Call (.Name nm p0) (e :: es) [] pos) er := by
  obtain ⟨f, fd, hm, hk, hb, F⟩ := c.ex
  exact .mk fun Z0 F0 Z σ H s W tk qx Q => PE_w (pe_call F hr hg hm hk hb .nil (pass_ew tk) pa_w hdb he hpl) (ha.run Z0 F0 Z σ H s _ fun vs Z1 H1 g1 r1 =>
    ⟨x, Z1, g1.zh, by rw [List.append_nil]; exact r1, hp, (fun v Z2 H2 A g2 r2 n2 => by
      rw [hres] at r2
      cases r2), (fun e Z2 H2 z g2 => by
      rw [hres] at z
      cases z
      exact thrE_of fun σ' => qx σ' Z2 H2 (s.gr.trans (g1.trans g2)))⟩)
theorem gx_thrown {Z0 F : Hp} {r : O → Prop} (g : GX X Z0 F r) (k : r (.rs er)) : ∃ W : WX, Takes X W ∧ ∀ σ' Z' H', Gr Z0 F Z' H' → Thrown X.K W er Z' σ' H' := by
  obtain ⟨W, tk, kk⟩ := g
  exact ⟨W, tk, fun σ' Z' H' g => kk er _ Z' σ' H' k (StR.blank g σ')⟩
theorem m_rzAsg {g : TG} (p : PS X st (tAsg (wE X e) g)) (h : MRz X ρ e er) (k : G.rt (.rs er)) : MS1 X ρ st G := .mk fun Z0 F Z σ H D s gd => by
  obtain ⟨W, tk, kk⟩ := gx_thrown gd.ex k
  exact PS_w p (h.run Z0 F Z σ H s W tk kk _)
theorem m_rzDrop (p : PS X st (tDrop (wE X e))) (h : MRz X ρ e er) (k : G.rt (.rs er)) : MS1 X ρ st G := .mk fun Z0 F Z σ H D s gd => by
  obtain ⟨W, tk, kk⟩ := gx_thrown gd.ex k
  exact PS_w p (h.run Z0 F Z σ H s W tk kk _)
theorem m_rzFld (pn : PE X (.Name x p1) (tVar i)) (h : MRz X ρ e er) (k : G.rt (.rs er)) (hs : swapsWith e (some (.Attribute (.Name x p1) f p2)) p3.line X.env = pure false := by rfl) : MS1 X ρ (.Assign [.Attribute (.Name x p1) f p2] e p3) G := .mk fun Z0 F Z σ H D s gd => by
  obtain ⟨W, tk, kk⟩ := gx_thrown gd.ex k
  exact PS_w (ps_fld pn pe_w hs) (h.run Z0 F Z σ H s W tk kk _)
/-- raise C('m') -/
theorem m_raise {C : Addr} (pm : PMk X e (fun _ H Q => Q (.ref C) none H)) (k : G.rt (.rs ⟨C, none⟩)) (hc : X.calm = true := by rfl) : MS1 X ρ (.Raise (some e) none pos) G := .mk fun Z0 F Z σ H D s gd => by
  obtain ⟨W, tk, kk⟩ := gd.ex
  exact PS_w (ps_raise hc tk pm) (kk ⟨C, none⟩ ρ Z σ H k s)
end
/-- a class of errors without an __init__ of its own -/
structure XcC (K : PySem.W.Frag) (mg : Str → Option Value) (nm : Str) (C : Addr) : Prop where
  q : PySem.W.excIn K C [.type "ValueError", .type "Exception", .type "BaseException", .type "object"] "ValueError.__new__" = true
  g : mg nm = some (.ref C)
  k : PySem.W.keepIn K (.ref C) = true
  b : PySem.W.subIn K (.ref C) (.type "BaseException") = some true
  t : PySem.W.typeIn K (.ref C) = some (.type "type")
theorem pm_own {X : Cx} {nm m : Str} {C : Addr} {j : Nat} {p p2 pos : Pos} (c : XcC X.K X.mg nm C) (hg : Gl X nm := by rfl) (hdb : (nm == ("__debug__" : Str)) = false := by decide) : PMk X (.Call (.Name nm p) [.Constant (.str m) j p2] [] pos) (fun _ H Q => Q (.ref C) none H) :=
  pmk_own PySem.F.excBase_ValueError c.q c.g c.k (raises_own c.b c.t) hg hdb
def SpXE {α : Type} (K : PySem.W.Frag) (ar : α → List O) (pre : α → Prop) (s0 s1 : Addr → α → O) (res : α → O) : Sp := fun vs H Q E => ∃ (x : α) (Z F : Hp) (l : Addr) (vs' : List V) (A : List Addr), vs = .ref l :: vs' ∧ Ex Z F ∧ Ex F H ∧ A.Nodup ∧ (∀ a ∈ A, F a = none) ∧ RepO K Z F H (.ref l) (s0 l x) A ∧ RepOL K Z F F vs' (ar x) [] ∧ pre x ∧
  (∀ v Z' H' B, Gr Z F Z' H' → RepOL K Z' (fun _ => none) H' [.ref l, v] [s1 l x, res x] B → B.Nodup → (∀ a ∈ B, F a = none ∧ Z' a = none) → Q v H') ∧ ∀ e Z' H', res x = .rs e → Gr Z F Z' H' → ThrE K E e Z' H'
theorem fn_mXE {α : Type} {P : Program} {w : World} {K : PySem.W.Frag} {mg : Str → Option Value} {base : Heap} {x qual : Str} {st : Stmt} {f : Addr} {fd : FuncData} {N ps : List Str} {k : Nat} {ar : α → List O} {pre : α → Prop} {s0 s1 : Addr → α → O} {res : α → O}
    (F : Fun K x qual st f fd) (S : FnScope N ps (defScope st)) (hl : ∀ x, (ar x).length + 1 = ps.length) (hn1 : ∀ l x, pre x → (s1 l x).nv = true) (hn2 : ∀ x, pre x → (res x).nv = true ∨ ∃ e, res x = .rs e) (hat : ∀ l x, ∃ C ns os, s1 l x = .at l C ns os)
    (hb : ∀ (cdv : Value) (A : Around) (outer : List Env) (s : Shared) (H : Hp) (E : XK), Room k (A.deeper (envOfC qual (defScope st) s.heap.objs.size f cdv)) →
      PassesOwn (model P w) (A.deeper (envOfC qual (defScope st) s.heap.objs.size f cdv)) (cxOf (L2.CX P w) P w K mg base N qual (defScope st) f cdv A outer s H E).env (cxOf (L2.CX P w) P w K mg base N qual (defScope st) f cdv A outer s H E).xe → ∀ (l : Addr) x, pre x →
      MS (cxOf (L2.CX P w) P w K mg base N qual (defScope st) f cdv A outer s H E) (some (s0 l x) :: (ar x).map some ++ List.replicate (N.length - ps.length) none) (defBody st) { nx := fun ρ => res x = .fz .non ∧ ρ[0]? = some (some (s1 l x)), rs := fun o ρ => o = res x ∧ ρ[0]? = some (some (s1 l x)), rt := fun o => o = res x ∧ ∃ e, o = .rs e }) :
    FnOk P w K mg base (L2.CX P w) (k + 1) f fd ps (SpXE K ar pre s0 s1 res) := by
  refine F.okX S (fun vs H Q E h => ?_) (fun cdv A outer s H vs Q E hr h => ?_)
  · obtain ⟨x, Z, F, l, vs', A, rfl, _, _, _, _, _, r, _⟩ := h
    rw [List.length_cons, r.length, hl]
  · obtain ⟨x, Z, F0, l, vs', A0, rfl, ez, ef, nA, fA, rs, r, hp, q, qx⟩ := h
    obtain ⟨C, ns, os, hs1⟩ := hat l x
    have st0 : StL K Z F0 H (some (s0 l x) :: (ar x).map some) (some (.ref l) :: vs'.map some) (A0 ++ []) := .so rs (stL_args (r.mono (Ex.refl _) (Ex.refl _) fun _ m => nomatch m))
    refine ⟨_, pss_w, (hb cdv A outer s H E hr (passes_of rfl) l x hp).run Z F0 Z _ H _ ⟨⟨Ex.refl _, ef, ez.trans ef, fun _ _ _ => rfl⟩, A0 ++ [], ?_, by rw [List.append_nil]; exact nA, fun a m => ?_⟩ ⟨fun ρ Z' σ H' e s' => ?_, fun _ _ _ _ z => z.elim, fun _ _ _ _ z => z.elim, fun o v Z' H' A k g r n => ?_, fun o ρ v Z' σ H' e s' => ?_, ⟨_, takes_of rfl rfl rfl rfl, fun e ρ Z' σ H' k s' => thrown_of (qx e Z' H' k.1.symm s'.gr)⟩⟩⟩
    · have e : L2.start N (.ref l :: vs') = (some (.ref l) :: vs'.map some) ++ List.replicate (N.length - ps.length) none := by
        unfold L2.start
        rw [List.length_cons, r.length, hl]
        rfl
      rw [e]
      exact stL_more _ st0
    · rw [List.append_nil] at m
      exact ⟨ez.free (fA a m), fA a m⟩
    · obtain ⟨en, e⟩ := e
      obtain ⟨A1, t1, t2, t3⟩ := s'.st
      obtain ⟨v, B, u1, u2, u3, u4, _⟩ := t1.at e t2
      have hn := hn1 l x hp
      rw [hs1] at u2 hn
      cases u2 with
      | @«at» _ _ dx _ vs1 _ B1 h0 rl =>
        refine q .non Z' H' ((l :: B1) ++ ([] ++ [])) s'.gr (.cons ?_ (.cons (A := []) ?_ .nil)) (by simpa using u3) fun a m => ?_
        · rw [hs1]
          exact (RepO.at h0 rl).unF hn
        · rw [en]
          exact .fz .non
        · have m : a ∈ l :: B1 := by simpa using m
          exact ⟨(t3 a (u4 a m)).2, (t3 a (u4 a m)).1⟩
    · obtain ⟨_, e, rfl⟩ := k
      cases r
    · obtain ⟨en, e⟩ := e
      subst en
      obtain ⟨A1, t1, t2, t3⟩ := s'.st
      obtain ⟨B, Cc, w1, w2, w3, w4⟩ := t1.last t2
      obtain ⟨n1, n2, n3⟩ := List.nodup_append.mp w3
      obtain ⟨v0, B0, u1, u2, u3, u4, _⟩ := w1.at e n1
      have hn := hn1 l x hp
      rw [hs1] at u2 hn
      cases u2 with
      | @«at» _ _ dx _ vs1 _ B1 h0 rl =>
        rcases hn2 x hp with hn2 | ⟨ee, hn2⟩
        · refine q v Z' H' ((l :: B1) ++ (Cc ++ [])) s'.gr (.cons ?_ (.cons (w2.unF hn2) .nil)) ?_ fun a m => ?_
          · rw [hs1]
            exact (RepO.at h0 rl).unF hn
          · rw [List.append_nil]
            exact List.nodup_append.mpr ⟨u3, n2, fun a ha b hb => n3 a (u4 a ha) b hb⟩
          · rw [List.append_nil] at m
            have m2 : a ∈ B ++ Cc := by
              rcases List.mem_append.mp m with z | z
              · exact List.mem_append_left _ (u4 a z)
              · exact List.mem_append_right _ z
            exact ⟨(t3 a (w4 a m2)).2, (t3 a (w4 a m2)).1⟩
        · rw [hn2] at w2
          cases w2
/-- of a new instance -/
def SpIE {α : Type} (K : PySem.W.Frag) (C : Addr) (ns : List Str) (ar : α → List O) (pre : α → Prop) (res : α → List O) (er : α → Option Er) : Sp := fun vs H Q E => ∃ (x : α) (Z F : Hp) (l dx : Addr) (vs' : List V), vs = .ref l :: vs' ∧ Ex Z F ∧ Ex F H ∧ F l = none ∧ H l = some (.ins C dx []) ∧ RepOL K Z F F vs' (ar x) [] ∧ pre x ∧
  (er x = none → ∀ Z' H' A, Gr Z F Z' H' → RepO K Z' (fun _ => none) H' (.ref l) (.at l C ns (res x)) A → New F Z' A → Q .non H') ∧ ∀ e Z' H', er x = some e → Gr Z F Z' H' → ThrE K E e Z' H'
theorem SpXE.init {α : Type} {P : Program} {w : World} {K : PySem.W.Frag} {mg : Str → Option Value} {base : Heap} {CX : CXT} {k : Nat} {f : Addr} {fd : FuncData} {ps : List Str} {ar : α → List O} {pre : α → Prop} {s0 s1 : Addr → α → O} {res : α → O} {β : Type} {arb : β → List O} {preb : β → Prop} {resb : β → List O} {erb : β → Option Er} {C : Addr} {ns : List Str} (g : β → α)
    (h : FnOk P w K mg base CX k f fd ps (SpXE K ar pre s0 s1 res)) (har : ∀ y, ar (g y) = arb y) (hp : ∀ y, preb y → pre (g y)) (h0 : ∀ l y, s0 l (g y) = .at l C [] []) (h1 : ∀ l y, erb y = none → s1 l (g y) = .at l C ns (resb y)) (h2 : ∀ y, (erb y = none ∧ res (g y) = .fz .non) ∨ ∃ e, erb y = some e ∧ res (g y) = .rs e) :
    FnOk P w K mg base CX k f fd ps (SpIE K C ns arb preb resb erb) := h.imp fun vs H Q E hh => by
  obtain ⟨y, Z, F, l, dx, vs', rfl, ez, ef, nl, hi, r, hpr, q, qx⟩ := hh
  have fl : ∀ a ∈ [l], F a = none := fun a m => by
    have e : a = l := by simpa using m
    rw [e]
    exact nl
  refine ⟨g y, Z, F, l, vs', [l], rfl, ez, ef, by simp, fl, ?_, by rw [har]; exact r, hp y hpr, fun v Z' H' B gg rr nB dB => ?_, fun e Z' H' z gg => ?_⟩
  · rw [h0]
    exact .at (dx := dx) hi .nil
  · rcases h2 y with ⟨en, er⟩ | ⟨e, en, er⟩
    · rw [er, h1 l y en] at rr
      cases rr with
      | @cons _ _ _ _ A1 B1 ra rb =>
        cases rb with
        | @cons _ _ _ _ A2 B2 rb rc =>
          cases rb with
          | fz rb =>
            cases rb
            cases rc
            rw [List.append_nil, List.append_nil] at nB dB
            exact q en Z' H' A1 gg ra ⟨nB, dB⟩
    · rw [er] at rr
      cases rr with
      | cons ra rb =>
        cases rb with
        | cons rb rc => cases rb
  · rcases h2 y with ⟨en, er⟩ | ⟨e', en, er⟩
    · rw [er] at z
      cases z
    · rw [er] at z
      cases z
      exact qx e Z' H' en gg
structure Mk1E (P : Program) (w : World) (K : PySem.W.Frag) (mg : Str → Option Value) (base : Heap) (name : Str) (C : Addr) (k : Nat) (ps : List Str) (sp : Sp) : Prop where
  ex : ∃ (f : Addr) (fd : FuncData), mg name = some (.ref C) ∧ Mk K C f ∧ Binds K fd ps [] ∧ FnOk P w K mg base (L2.CX P w) k f fd ps sp
structure Cf1E (P : Program) (w : World) (K : PySem.W.Frag) (mg : Str → Option Value) (base : Heap) (nmC m : Str) (k : Nat) (ps : List Str) (sp : Sp) : Prop where
  ex : ∃ (C : Addr) (mc : Value) (f : Addr) (fd : FuncData), mg nmC = some (.ref C) ∧ ClX.CRead K C mc ∧ ClX.CVal K C mc m (.ref f) (.ref f) ∧ PySem.W.keepIn K (.ref f) = true ∧ Binds K fd ps [] ∧ FnOk P w K mg base (L2.CX P w) k f fd ps sp
section
variable {P : Program} {w : World} {K : PySem.W.Frag} {mg : Str → Option Value} {base : Heap} {name m : Str} {k : Nat} {ps : List Str} {α : Type} {C : Addr} {ns : List Str} {ar : α → List O} {pre : α → Prop}
theorem Mk1E.ok {res : α → List O} {er : α → Option Er} (c : Mk1E P w K mg base name C k ps (SpIE K C ns ar pre res er)) : Mk1 P w K mg base name C k ps (SpI K C ns ar (fun x => pre x ∧ er x = none) res) := by
  obtain ⟨f, fd, hm, hk, hb, F⟩ := c.ex
  exact ⟨f, fd, hm, hk, hb, F.known fun vs H Q E ⟨x, Z, F, l, dx, vs', e, ez, ef, nl, hi, r, ⟨hp, hn⟩, q⟩ => ⟨x, Z, F, l, dx, vs', e, ez, ef, nl, hi, r, hp, fun _ => q, fun e _ _ z => by rw [hn] at z; cases z⟩⟩
theorem Cf1E.ok {s0 s1 : Addr → α → O} {res : α → O} (c : Cf1E P w K mg base name m k ps (SpXE K ar pre s0 s1 res)) : Cf1 P w K mg base name m k ps (SpX K ar (fun x => pre x ∧ ∀ e, res x ≠ .rs e) s0 s1 res) := by
  obtain ⟨C, mc, f, fd, hm, h1, h2, hk, hb, F⟩ := c.ex
  exact ⟨C, mc, f, fd, hm, h1, h2, hk, hb, F.known fun vs H Q E ⟨x, Z, F, l, vs', A, e, ez, ef, nA, fA, rs, r, ⟨hp, hn⟩, q⟩ => ⟨x, Z, F, l, vs', A, e, ez, ef, nA, fA, rs, r, hp, q, fun e _ _ z => absurd z (hn e)⟩⟩
end
section
variable {X : Cx} {ρ : Slots} {e : Expr} {es : List Expr} {pos p0 p1 p2 : Pos} {i : Nat} {xx nm : Str} {C : Addr} {ns all : List Str} {os : List O} {ds : List D} {er : Er}
/-- C(..) that raises -/
theorem mz_make {α : Type} {ar : α → List O} {pre : α → Prop} {res : α → List O} {err : α → Option Er} {k : Nat} {ps : List Str} (c : Mk1E X.prog X.w X.K X.mg X.base nm C k ps (SpIE X.K C ns ar pre res err)) (x : α) (ha : MA X ρ (e :: es) (ar x)) (hp : pre x) (hr : Room (k + 1) X.A) (hres : err x = some er := by first | (dsimp only; done) | (dsimp only; rfl) | rfl) (hg : Gl X nm := by rfl)
    (hdb : (nm == ("__debug__" : Str)) = false := by decide) (he : starEach (e :: es) X.env = (false, eval e X.env) :: starEach es X.env := by rfl) (hpl : (backTo pos (starEach es X.env)).any (·.1) = false := by rfl) : MRz X ρ (.Call (.Name nm p0) (e :: es) [] pos) er := by
  obtain ⟨f, fd, hm, M, hb, F⟩ := c.ex
  exact .mk fun Z0 F0 Z σ H s W tk qx Q => PE_w (pe_make M F hr hg hm hb .nil (pass_ew tk) pa_w hdb he hpl) (ha.run Z0 F0 Z σ H s _ fun vs Z1 H1 g1 r1 l dx nl ndx ne =>
    ⟨x, Z1, H1, l, dx, vs, by rw [List.append_nil], g1.zh, (Ex.new ndx).trans (Ex.new (by rw [upd_ne ne.symm]; exact nl)), nl, upd_same, r1, hp, (fun z => by
      rw [hres] at z
      cases z), (fun e Z2 H2 z g2 => by
      rw [hres] at z
      cases z
      exact thrE_of fun σ' => qx σ' Z2 H2 (s.gr.trans (g1.trans g2)))⟩)
end
def SpFE {A E R : Type} (K : PySem.W.Frag) (ar : A → List O) (f : A → Option (Xr E R)) (te : E → Er) (er : R → O) : Sp := SpE K (fun x : A × Xr E R => ar x.1) (fun x => f x.1 = some x.2) (fun x => exO te er x.2)
def bdx {E R S : Type} : Option (Xr E R) → (R → Option (Xr E S)) → Option (Xr E S)
  | some (.ok r), k => k r
  | some (.er e), _ => some (.er e)
  | none, _ => none
theorem bdx_some {E R S : Type} {m : Option (Xr E R)} {k : R → Option (Xr E S)} {y : Xr E S} (h : bdx m k = some y) : (∃ e, m = some (.er e) ∧ (some (.er e) : Option (Xr E S)) = some y) ∨ ∃ v, m = some (.ok v) ∧ k v = some y := by
  cases m with
  | none => cases h
  | some m =>
    cases m with
    | ok x => exact .inr ⟨x, rfl, h⟩
    | er x => exact .inl ⟨x, rfl, h⟩
def bdo {E R S V W : Type} : Option (Xr E R) → (R → Option (Ou V W (Xr E S))) → Option (Ou V W (Xr E S))
  | some (.ok r), k => k r
  | some (.er e), _ => some (.rt (.er e))
  | none, _ => none
theorem bdo_some {E R S V W : Type} {m : Option (Xr E R)} {k : R → Option (Ou V W (Xr E S))} {y : Ou V W (Xr E S)} (h : bdo m k = some y) : (∃ e, m = some (.er e) ∧ (some (.rt (.er e)) : Option (Ou V W (Xr E S))) = some y) ∨ ∃ v, m = some (.ok v) ∧ k v = some y := by
  cases m with
  | none => cases h
  | some m =>
    cases m with
    | ok x => exact .inr ⟨x, rfl, h⟩
    | er x => exact .inl ⟨x, rfl, h⟩
theorem exO_nv {E R : Type} {te : E → Er} {er : R → O} (h : ∀ r, (er r).nv = true) : ∀ y : Xr E R, (exO te er y).nv = true ∨ ∃ e, exO te er y = .rs e
  | .ok r => .inl (h r)
  | .er e => .inr ⟨_, rfl⟩
def atX {E T : Type} (l C : Addr) (ns : List Str) (os : T → List O) : Xr E T → O
  | .ok t => .at l C ns (os t)
  | .er _ => .at l C [] []
def osX {E T : Type} (os : T → List O) : Xr E T → List O
  | .ok t => os t
  | .er _ => []
def erX {E T : Type} (te : E → Er) : Xr E T → Option Er
  | .ok _ => none
  | .er e => some (te e)
theorem atX_nv {E T : Type} {l C : Addr} {ns : List Str} {os : T → List O} (h : ∀ t, O.nvL (os t) = true) : ∀ y : Xr E T, (atX l C ns os y).nv = true
  | .ok t => h t
  | .er _ => rfl
theorem atX_at {E T : Type} {l C : Addr} {ns : List Str} {os : T → List O} : ∀ y : Xr E T, ∃ C' ns' os', atX l C ns os y = .at l C' ns' os'
  | .ok t => ⟨_, _, _, rfl⟩
  | .er _ => ⟨_, _, _, rfl⟩
theorem atX_ok {E T : Type} {te : E → Er} {l C : Addr} {ns : List Str} {os : T → List O} : ∀ y : Xr E T, erX te y = none → atX l C ns os y = .at l C ns (osX os y)
  | .ok _, _ => rfl
  | .er _, h => nomatch h
theorem erX_ex {E T : Type} {te : E → Er} : ∀ y : Xr E T, (erX te y = none ∧ exO te (fun _ => .fz .non) y = .fz .non) ∨ ∃ e, erX te y = some e ∧ exO te (fun _ => .fz .non) y = .rs e
  | .ok _ => .inl ⟨rfl, rfl⟩
  | .er _ => .inr ⟨_, rfl, rfl⟩
end M
namespace M
open PySem L2 PySem.Spec PyProof.Rows
def tryR {V E R S : Type} : Ou V Unit (Xr E R) → (V → Option S) → (R → Option S) → (E → Option S) → Option S
  | .nx v, k, _, _ => k v
  | .rt (.ok r), _, kr, _ => kr r
  | .rt (.er e), _, _, kx => kx e
  | _, _, _, _ => none
theorem le_none : ∀ ρ : Slots, Le ρ (List.replicate ρ.length none)
  | [] => .nil
  | _ :: ρ => .no (le_none ρ)
theorem le_blank {x : Option O} : ∀ (ρ : Slots) (i : Nat), Le (ρ.set i x) ((List.replicate ρ.length none).set i x)
  | [], _ => .nil
  | _ :: ρ, 0 => .eq (le_none ρ)
  | _ :: ρ, i + 1 => .no (le_blank ρ i)
section
variable {X : Cx} {ρ : Slots} {G : Go}
theorem m_tryO {E R V : Type} {xc n : Str} {C : Addr} {i : Nat} {body suite : List Stmt} {b0 : Stmt} {np pos pos' : Pos} {out : Ou V Unit (Xr E R)} (Rn : V → Slots) (te : E → Er) (er : R → O)
    (hN : X.N.Nodup) (hi : X.N[i]? = some n) (hln : X.env.kindOf n = some .local) (hc : Names X xc (.ref C)) (hne : ∀ r e, er r ≠ .rs e) (hnf : ∀ e, (te e).fld = none)
    (hb : ∀ (pn : List (Addr × Obj)) (xe : Value → Shared → Prop), PassesOwn (model X.prog X.w) X.A X.env xe → MS (X.tr pn xe) ρ body (goO Rn (fun _ : Unit => []) (exO te er) out))
    (kb : ∀ w, out ≠ .bk w) (kc : ∀ w, out ≠ .ct w) (kr : ∀ r, out = .rt (.ok r) → G.rt (er r))
    (hm : ∀ e, out = .rt (.er e) → PySem.W.exmOne X.K (.ref (te e).C) (.ref C) = some true)
    (hs : ∀ e, out = .rt (.er e) → ∀ (a : Addr) (oe : Obj) (pn : List (Addr × Obj)), Zc (.ref (te e).C) none oe → (∃ vs, oe.data = .fields vs) → MS (X.suite a ((a, oe) :: pn)) ((List.replicate X.N.length none).set i (some (.pt a))) (b0 :: suite) { rt := fun o => G.rt o ∧ ∀ e, o ≠ .rs e })
    (kn : ∀ v τ, out = .nx v → Le τ (Rn v) → G.nx τ)
    (e1 : X.stack = X.env :: X.outer := by rfl) (e2 : X.env.frame = some X.env.locals := by rfl) : MS1 X ρ (.Try body [.ExceptHandler (some (.Name xc np)) (some n) (b0 :: suite) pos'] [] [] pos) G := .mk fun Z0 F Z σ H D s g => by
  obtain ⟨Wout, tk, kk⟩ := g.ex
  refine PS_w (ps_try_as (i := i) (tb := fun W => fun D σ H => ∀ pn xe, Takes (X.tr pn xe) W → PassesOwn (model X.prog X.w) X.A X.env xe → wS (X.tr pn xe) body D σ H)
    (ts := fun a cls d => fun D σ H => ∀ (oe : Obj) (pn : List (Addr × Obj)), Zc cls d oe → (∃ vs, oe.data = .fields vs) → wS (X.suite a ((a, oe) :: pn)) (b0 :: suite) D σ H) e1 e2 hN hi hln hc tk
    (fun W pn xe t po => ⟨fun pins s σ H D I h => h pn xe t po pins s I⟩) (fun a oe cls d pn hz hf => ⟨fun pins s σ H D I h => h oe pn hz hf pins s I⟩)) ?_
  intro pn xe t po
  refine (hb pn xe po).run Z0 F Z σ H D s ⟨fun τ Z σ H ⟨v, e, l⟩ s' => g.nx τ Z σ H (kn v τ e l) s', fun _ _ _ _ ⟨w, e, _⟩ => absurd e (kb w), fun _ _ _ _ ⟨w, e, _⟩ => absurd e (kc w), fun o v Z' H' A k g' r n => ?_, fun _ _ _ _ _ _ z => z.elim, ⟨_, t, fun e ρ' Z' σ' H' k s' => ?_⟩⟩
  · obtain ⟨x, e, rfl⟩ := k
    cases x with
    | ok x => exact g.rt _ v Z' H' A (kr x e) g' r n
    | er x => cases r
  · obtain ⟨x, eo, ex⟩ := k
    cases x with
    | ok x => exact absurd ex.symm (hne x e)
    | er x =>
      cases ex
      unfold Thrown
      rw [hnf x]
      refine ⟨true, hm x eo, fun _ a na oe pn' hz hf => ?_, fun z => nomatch z⟩
      intro pins s2 I2
      have ln : σ'.length = X.N.length := by
        have := I2.len
        rw [List.length_set] at this
        exact this
      have lr : ρ'.length = X.N.length := by rw [← s'.len, ln]
      have hl : i < ρ'.length := by
        rw [lr]
        exact (List.getElem?_eq_some_iff.mp hi).1
      have s3 := s'.put (v := .ref a) (Gr.refl s'.ex) (RepO.pt (a := a)) .nil hl
      have le := le_blank (x := some (O.pt a)) ρ' i
      rw [lr] at le
      exact (hs x eo a oe pn' hz hf).run Z0 F Z' _ H' { nx := fun σ' H' => D.nx (σ'.set i none) H', rt := D.rt, bk := fun σ' H' => D.bk (σ'.set i none) H', ct := fun σ' H' => D.ct (σ'.set i none) H' } (s3.le le) ⟨fun _ _ _ _ z => z.elim, fun _ _ _ _ z => z.elim, fun _ _ _ _ z => z.elim, fun o v Z H A k g' r n => g.rt o v Z H A k.1 g' r n, fun _ _ _ _ _ _ z => z.elim, GX.never fun e z => z.2 e rfl⟩ pins s2 I2
end
section
variable {X : Cx} {ρ : Slots} {a C E : Addr} {oe : Obj} {pn : List (Addr × Obj)} {i : Nat} {n nm : Str} {p0 p1 p2 pos : Pos} {b : Bool} {T : String}
theorem me_isiE (c : ExcC X.K C) (hz : Zc (.ref C) none oe) (hf : ∃ vs, oe.data = .fields vs) (hg : Gl X "isinstance") (hm : X.mg "isinstance" = none) (hE : X.mg nm = some (.ref E)) (p : PE (X.suite a ((a, oe) :: pn)) (.Name n p2) (tVar i)) (hi : ρ[i]? = some (some (.pt a))) (hk : PySem.W.kitOne X.K (.ref C) (.ref E) = some b) (hgE : Gl X nm := by rfl) (hd : (nm == ("__debug__" : Str)) = false := by decide) :
    ME (X.suite a ((a, oe) :: pn)) ρ (.Call (.Name "isinstance" p0) [.Name n p2, .Name nm p1] [] pos) (.fz (.bl b)) := .mk fun Z0 F Z σ H s Q q =>
  PE_w (pe_callB (call_isE c hz hf) hg hm (by decide +kernel) (pa_cons pe_w (pa_cons (pe_glob (v := .ref E) hgE hE rfl hd) pa_nil) rfl) (he := rfl)) ((mv_var p hi).run Z0 F Z σ H s _ fun v Z1 H1 A1 g1 r1 => by
    cases r1
    exact ⟨.ref E, .ref E, b, rfl, fun u r => r, hk, q _ Z1 H1 [] g1 (.fz (.bl b)) .nil⟩)
theorem me_isiEB (c : ExcC X.K C) (hz : Zc (.ref C) none oe) (hf : ∃ vs, oe.data = .fields vs) (hg : Gl X "isinstance") (hm : X.mg "isinstance" = none) (hT : PE (X.suite a ((a, oe) :: pn)) (.Name nm p1) (tC (.ty T))) (p : PE (X.suite a ((a, oe) :: pn)) (.Name n p2) (tVar i)) (hi : ρ[i]? = some (some (.pt a))) (hk : PySem.W.kitOne X.K (.ref C) (.type T) = some b) :
    ME (X.suite a ((a, oe) :: pn)) ρ (.Call (.Name "isinstance" p0) [.Name n p2, .Name nm p1] [] pos) (.fz (.bl b)) := .mk fun Z0 F Z σ H s Q q =>
  PE_w (pe_callB (call_isE c hz hf) hg hm (by decide +kernel) (pa_cons pe_w (pa_cons hT pa_nil) rfl) (he := rfl)) ((mv_var p hi).run Z0 F Z σ H s _ fun v Z1 H1 A1 g1 r1 => by
    cases r1
    exact ⟨.ty T, .type T, b, rfl, fun u r => r, hk, q _ Z1 H1 [] g1 (.fz (.bl b)) .nil⟩)
end
end M
namespace M
open PySem L2 PySem.Spec PyProof.Rows
section
open PySem.SeqAt
open PySem.AutoSeq1 (wpAny_loadPart')
open PySem.MeetsSeq PySem.MeetsSeq2 PySem.MeetsSeq3
end
section
variable {X : Cx} {pins : List (Addr × Obj)} {σ : L2.St} {H Z : Hp} {s : Shared}
end
section
variable {X : Cx} {ρ : Slots} {a b : Expr} {d : D} {xs : List Str} {pos p1 p2 p3 : Pos} {x : Str}
end
theorem kit_false {K : PySem.W.Frag} {C E : Addr} (h0 : PySem.W.mroIn K C (.ref C) = some true) (h1 : PySem.W.isClsIn K E = true) (h2 : PySem.W.typeIn K (.ref E) = some (.type "type")) (h3 : PySem.W.mroIn K C (.ref E) = some false) : PySem.W.kitOne K (.ref C) (.ref E) = some false := by
  unfold PySem.W.kitOne
  split
  · rename_i h
    have h := eq_of_beq h
    cases h
    rw [h0] at h3
    cases h3
  · have e : PySem.W.kitCls K (.ref C) (.ref E) = if ((PySem.W.clsIn K E).isSome && PySem.W.typeIn K (.ref E) == some (.type "type")) = true then PySem.W.mroIn K C (.ref E) else none := rfl
    rw [e, if_pos, h3]
    rw [h2]
    show ((PySem.W.clsIn K E).isSome && _) = true
    rw [show (PySem.W.clsIn K E).isSome = true from h1]
    decide
theorem kit_ty {K : PySem.W.Frag} {C : Addr} {T : String} {b : Bool} (h1 : PySem.W.kitMeta T = true) (h3 : PySem.W.mroIn K C (.type T) = some b) : PySem.W.kitOne K (.ref C) (.type T) = some b := by
  unfold PySem.W.kitOne
  split
  · rename_i h
    have h := eq_of_beq h
    cases h
  · have e : PySem.W.kitCls K (.ref C) (.type T) = if PySem.W.kitMeta T = true then PySem.W.mroIn K C (.type T) else none := rfl
    rw [e, if_pos h1, h3]
end M
namespace M
open PySem L2 PySem.Spec PyProof.Rows
section
variable {X : Cx} {ρ : Slots} {a b : Expr} {d y : D} {ds : List D} {k : Int} {pos p0 p1 : Pos} {x z : Str}
end
end M
namespace M
open PySem L2 PySem.Spec PyProof.Rows
section
variable {X : Cx} {ρ : Slots} {a b c : Expr} {o : O} {os : List O} {sts : List Stmt} {G : Go} {k : Bool} {pos : Pos} {x : Str} {i j : Nat} {l : Addr}
theorem me_ifE (hc : MT X ρ c k) (ha : k = true → ME X ρ a o) (hb : k = false → ME X ρ b o) : ME X ρ (.IfExp c a b pos) o := .mk fun Z0 F Z σ H s Q q =>
  PE_w (pe_ifExp pt_w pe_w pe_w) (hc.run Z0 F Z σ H s _ fun Z1 H1 g1 => by
    cases k with
    | true => exact (ha rfl).run Z0 F Z1 σ H1 (s.grow g1) Q fun v Z2 H2 A g2 r n => q v Z2 H2 A (g1.trans g2) r ⟨n.1, fun a m => ⟨g1.hh.free (n.2 a m).1, (n.2 a m).2⟩⟩
    | false => exact (hb rfl).run Z0 F Z1 σ H1 (s.grow g1) Q fun v Z2 H2 A g2 r n => q v Z2 H2 A (g1.trans g2) r ⟨n.1, fun a m => ⟨g1.hh.free (n.2 a m).1, (n.2 a m).2⟩⟩)
end
end M
namespace M
open PySem L2 PySem.Spec PyProof.Rows
section
variable {X : Cx}
variable {ρ : Slots} {a : Expr} {α : Type}
end
def rCatS (K : PySem.W.Frag) : R2 := fun x y H Q => ∃ (l b : Addr) (xs zs : List V), x = .ref l ∧ y = .ref b ∧ SqL K H l xs ∧ SqL K H b zs ∧ xs.length + zs.length ≤ sizeLine ∧ ∀ p, H p = none → Q (.ref p) (upd H p (.lst (xs ++ zs)))
section
variable {X : Cx}
theorem op_catS : OpR X (binaryOp .Add) (rCatS X.K) := by
  intro pins s σ H x y v u Q I rx ry h
  obtain ⟨l, b, xs, zs, rfl, rfl, hl, hb, hz, q⟩ := h
  cases rx
  cases ry
  obtain ⟨its, r, ⟨⟨cls, dd, data, sl⟩, n, ho, hc, hdn, hd⟩, h1⟩ := I.list hl
  obtain ⟨its2, r2, ⟨⟨cls2, dd2, data2, sl2⟩, n2, ho2, hc2, hdn2, hd2⟩, h2⟩ := I.list hb
  simp only at hc hd hc2 hd2
  subst hc hd hc2 hd2
  have e1 := r.length
  have e2 := r2.length
  have ea : its.toArray ++ its2.toArray = (its ++ its2).toArray := by simp
  refine concat_meets ⟨_, ho, rfl⟩ ⟨_, ho2, rfl⟩ noFill_list_add seq_list_add PySem.F.slot_list_add PySem.F.entry_list_add (PySem.F.args_list_add_2 _ _) (list_addW l b its.toArray its2.toArray n n2 dd dd2 sl sl2 (by rw [List.size_toArray, List.size_toArray]; omega)) ⟨ho, ho2, ?_⟩
  rw [ea]
  exact ⟨.ref _, _, I.lnew (t' := s.toks) (r.append r2) (by rw [List.length_append]; omega), rfl, q _ I.fresh⟩
variable {ρ : Slots} {a b : Expr} {α : Type} {pos : Pos}
theorem me_catMM {xs ys : List α} {enc : α → D} (hl : xs.length + ys.length ≤ sizeLine) (ha : ML X ρ a (xs.map enc)) (hb : ML X ρ b (ys.map enc)) : ME X ρ (.BinOp a .Add b pos) (.lst (((xs ++ ys).map enc).map .fz)) := .mk fun Z0 F Z σ H s Q q =>
  PE_w (pe_op op_catS pe_w pe_w) (ha.run Z0 F Z σ H s _ fun l vs Z1 H1 g1 l1 r1 => hb.run Z0 F Z1 σ H1 (s.grow g1) _ fun l2 us Z2 H2 g2 l2' r2 => by
    have g := g1.trans g2
    have e1 := r1.length
    have e2 := r2.length
    rw [List.length_map] at e1 e2
    refine ⟨l, l2, vs, us, rfl, rfl, ex_l g2.hh l1, l2', by omega, fun p hp => ?_⟩
    rw [List.map_append] at q
    exact q _ Z2 _ [p] (g.trans (Gr.new g.zh hp)) (.lst upd_same ((r1.mono g2.zz).append r2).own) (new_one (g.hh.free hp) (g.zh.free hp)))
end
end M
namespace M
open PySem L2 PySem.Spec PyProof.Rows
section
variable {X : Cx} {ρ : Slots} {e : Expr} {d d' : D}
theorem MV.as (h : MV X ρ e (.fz d)) (q : d = d') : MV X ρ e (.fz d') := q ▸ h
theorem ME.as (h : ME X ρ e (.fz d)) (q : d = d') : ME X ρ e (.fz d') := q ▸ h
end
section
variable {X : Cx} {ρ : Slots} {e f : Expr} {pos dpos apos cpos : Pos} {s : Str} {d : Int} {keys : List (Option Expr)} {values : List Expr} {kvs : List (Str × Int)}
end
def asLD : D → Option (List D)
  | .lst ds => some ds
  | _ => none
theorem asLD_is {d : D} {l : List D} (h : asLD d = some l) : O.fz d = .fz (.lst (l.map e_d)) := by
  cases d with
  | lst ds => injection h with h; subst h; exact congrArg (fun z => O.fz (.lst z)) (List.map_id ds).symm
  | non => nomatch h
  | bl _ => nomatch h
  | int _ => nomatch h
  | str _ => nomatch h
  | ty _ => nomatch h
  | opq _ => nomatch h
  | tup _ => nomatch h
  | ins _ _ _ => nomatch h
  | dct _ _ => nomatch h
  | dctT _ _ => nomatch h
end M
namespace M
open PySem L2 PySem.Spec PyProof.Rows
theorem r_u65 {k : Nat} {A : Around} (r : Room k A) : A.units + 65 < cLine := by have := r.un; omega
theorem pyL_any (ds : List D) (p : PyData → Bool) : (D.pyL ds).any p = ds.any fun z => p z.py := by
  induction ds with
  | nil => rfl
  | cons d r ih =>
    show (p d.py || (D.pyL r).any p) = (p d.py || r.any _)
    rw [ih]
section
variable {X : Cx} {ρ : Slots} {a b : Expr} {o2 : O} {d : D} {ds : List D} {pos : Pos}
theorem mt_inD (hu : X.A.units + 65 < cLine) (h : d.ok ∧ (D.lst ds).ok) (e2 : o2.frz = .lst ds) (ha : MV X ρ a (.fz d)) (hb : MV X ρ b o2) (hm : behindInMarks .In b = false := by rfl) : MT X ρ (.Compare a [.In] [b] pos) (ds.any fun z => D.eqv z d) :=
  mt_rD (r := rInD X.K) (pt_cmpR (op_inD hu) pe_w pe_w hm) ha hb h.1.1 (by rw [e2]; exact h.2.1) fun x y H Q p1 p2 q => ⟨_, D.pyL ds, p1, by rw [e2] at p2; exact p2, h.1.2, h.2.2, by rw [pyL_any]; exact q⟩
/-- typed -/
def inDL {α : Type} (enc : α → D) (xs : List α) (d : D) : Bool := xs.any fun z => D.eqv (enc z) d
variable {α : Type} {enc : α → D} {xs : List α}
theorem inDL_is : ((xs.map enc).any fun z => D.eqv z d) = inDL enc xs d := by unfold inDL; rw [List.any_map]; rfl
theorem mt_inDL (hu : X.A.units + 65 < cLine) (h : d.ok ∧ (D.lst (xs.map enc)).ok) (e2 : o2.frz = .lst (xs.map enc)) (ha : MV X ρ a (.fz d)) (hb : MV X ρ b o2) (hm : behindInMarks .In b = false := by rfl) : MT X ρ (.Compare a [.In] [b] pos) (inDL enc xs d) := inDL_is ▸ mt_inD hu h e2 ha hb hm
end
end M
namespace M
open PySem L2 PySem.Spec PyProof.Rows
section
variable {X : Cx} {ρ : Slots} {G : Go}
theorem m_tryK {body : List Stmt} {h0 : ExceptHandler} {hs : List ExceptHandler} {pos : Pos} (hb : MS X ρ body G) (hX : X.nox = X := by rfl) : MS1 X ρ (.Try body (h0 :: hs) [] [] pos) G := .mk fun Z0 F Z σ H D s g =>
  PS_w (ps_try_thru0 (t := wS X body) (by rw [hX]; exact pss_w)) (hb.run Z0 F Z σ H D s g)
end
section
variable {X : Cx} {ρ : Slots} {e : Expr} {pos dpos : Pos} {s v : Str} {keys : List (Option Expr)} {values : List Expr} {kvs : List (Str × Str)}
end
section
variable {X : Cx} {ρ : Slots} {e : Expr} {pos dpos : Pos} {s : Str} {v : Int} {keys : List (Option Expr)} {values : List Expr} {kvs : List (Str × Int)}
end
end M
namespace M
open PySem L2 PySem.Spec PyProof.Rows
section
variable {K : PySem.W.Frag} {Z F H : Hp}
mutual
theorem RepK.rep (e : Ex Z H) (f : Ex F H) : ∀ {v : V} {o : O}, RepK K Z F v o → Rep K H v o.frz
  | _, _, .fz h => h.mono e
  | _, _, .vw h r => .lst (ex_l f h) (r.mono e)
  | _, _, .vwa h r => .lst (ex_l f h) (r.mono e)
  | _, .lk o, .lk h => RepK.rep (o := o) e f h
  | _, _, .lst h r => .lst (SqL.of (f _ _ h)) (RepKL.rep e f r)
  | _, _, .tup h r => .tup (f _ _ h) (RepKL.rep e f r)
  | _, _, .ins h r => .ins (f _ _ h) (RepKL.rep e f r)
  | _, .loc _ o, .loc h => RepK.rep (o := o) e f h
  | _, _, .pt => .opq _
  | _, _, .at h r => .ins (f _ _ h) (RepKL.rep e f r)
  | _, _, .dct h r => .dct (f _ _ h) (RepKL.rep e f r)
  | _, _, .dctT h r => .dctT (f _ _ h) (RepKL.rep e f r)
theorem RepKL.rep (e : Ex Z H) (f : Ex F H) : ∀ {vs : List V} {os : List O}, RepKL K Z F vs os → RepL K H vs (O.frzL os)
  | _, _, .nil => .nil
  | _, _, .cons h r => .cons (RepK.rep e f h) (RepKL.rep e f r)
end
mutual
theorem RepO.rep (e : Ex Z H) (f : Ex F H) : ∀ {v : V} {o : O} {A : List Addr}, RepO K Z F H v o A → Rep K H v o.frz
  | _, _, _, .fz h => h.mono e
  | _, _, _, .vw h r => .lst (ex_l f h) (r.mono e)
  | _, _, _, .vwa h r => .lst (ex_l f h) (r.mono e)
  | _, .lk o, _, .lk h => RepK.rep (o := o) e f h
  | _, _, _, .lst h r => .lst (SqL.of h) (RepOL.rep e f r)
  | _, _, _, .tup h r => .tup h (RepOL.rep e f r)
  | _, _, _, .ins h r => .ins h (RepOL.rep e f r)
  | _, .loc _ o, _, .loc h => RepO.rep (o := o) e f h
  | _, _, _, .pt => .opq _
  | _, _, _, .at h r => .ins h (RepOL.rep e f r)
  | _, _, _, .dct h r => .dct h (RepOL.rep e f r)
  | _, _, _, .dctT h r => .dctT h (RepOL.rep e f r)
theorem RepOL.rep (e : Ex Z H) (f : Ex F H) : ∀ {vs : List V} {os : List O} {A : List Addr}, RepOL K Z F H vs os A → RepL K H vs (O.frzL os)
  | _, _, _, .nil => .nil
  | _, _, _, .cons h r => .cons (RepO.rep e f h) (RepOL.rep e f r)
end
end
/-- an expression that tells a thing, which is d now -/
structure MD (X : Cx) (ρ : Slots) (e : Expr) (d : D) : Prop where
  run : ∀ (Z0 F Z : Hp) (σ : L2.St) (H : Hp), StR X.K ρ Z0 F Z σ H → ∀ Q : VK, (∀ v Z' H', Gr Z H Z' H' → Rep X.K H' v d → Q v H') → wE X e σ H Q
section
variable {κ : Type} [DecidableEq κ] {β γ : Type}
/-- tables alike: entry by entry -/
def Tb (P : β → γ → Prop) : List (κ × β) → List (κ × γ) → Prop
  | [], [] => True
  | p :: r, q :: t => p.1 = q.1 ∧ P p.2 q.2 ∧ Tb P r t
  | _, _ => False
end
theorem RepL.tb {K : PySem.W.Frag} {Z : Hp} {κ : Type} [DecidableEq κ] : ∀ {m : List (κ × D)} {vs : List V}, RepL K Z vs (m.map (·.2)) → Tb (fun d v => Rep K Z v d) m ((m.map (·.1)).zip vs)
  | [], _, .nil => trivial
  | p :: r, _, .cons h t => ⟨rfl, h, RepL.tb t⟩
section
variable {X : Cx} {ρ : Slots} {R : O → Slots} {e e1 e2 f o a : Expr} {es : List Expr} {d y : D} {ds vs : List D} {pos p1 p2 p3 apos cpos : Pos} {C : Addr} {ns : List Str} {nm : Str} {oo : O} {G : Go}
theorem MV.now (h : MV X ρ e oo) : MD X ρ e oo.frz := .mk fun Z0 F Z σ H s Q q => h.run Z0 F Z σ H s Q fun v Z' H' A g r => q v Z' H' g (r.rep g.zh (s.gr.hh.trans g.hh))
end
end M
namespace M
open PySem L2 PySem.Spec PyProof.Rows
section
variable {X : Cx} {pins : List (Addr × Obj)} {σ : L2.St} {H : Hp} {s : Shared} {a b : Addr} {r : Value} {d : V} {k : List Key} {A : Around} {E : Value → Shared → Prop}
end
section
variable {κ : Type} [DecidableEq κ] {β : Type}
end
section
variable {X : Cx} {ρ ρ' : Slots} {R R' : O → Slots} {e a f call : Expr} {d y : D} {ds : List D} {pos p1 p2 p3 apos cpos dpos : Pos} {i : Nat} {st : Stmt} {sts : List Stmt} {G : Go} {oo o' : O} {nm : Str}
structure FP (X : Cx) (ρ : Slots) (b : Addr) (o : O) (R : O → Slots) : Prop where
  run : ∀ (Z0 F Z : Hp) (σ : L2.St) (H : Hp) (T : List Addr), StA X.K ρ Z0 F Z σ H T → Foc X.K Z0 F Z σ H T (.ref b) o R
end
end M
namespace M
open PySem L2 PySem.Spec PyProof.Rows
section
variable {X : Cx} {ρ ρ' : Slots} {R R' : O → Slots} {e a b f call : Expr} {es : List Expr} {d y : D} {ds : List D} {pos p0 p1 p2 p3 apos cpos dpos : Pos} {i j : Nat} {st : Stmt} {sts : List Stmt} {G : Go} {oo o o' : O} {nm : Str} {C : Addr} {ns : List Str} {os : List O} {k : Int}
end
class Nv (o : O) : Prop where
  nv : o.nv = true
instance {d : D} : Nv (.fz d) := ⟨rfl⟩
instance {ds : List D} : Nv (.lst (ds.map .fz)) := ⟨O.nvL_fz ds⟩
instance {a : Addr} {o : O} [h : Nv o] : Nv (.loc a o) := ⟨h.nv⟩
instance {a : Addr} : Nv (.pt a) := ⟨rfl⟩
class NvL (os : List O) : Prop where
  nv : O.nvL os = true
instance : NvL [] := ⟨rfl⟩
instance {o : O} {os : List O} [h : Nv o] [t : NvL os] : NvL (o :: os) := ⟨by show (o.nv && O.nvL os) = true; rw [h.nv, t.nv]; rfl⟩
instance (priority := low) {β : Type} {g : β → O} {xs : List β} [h : ∀ x, Nv (g x)] : NvL (xs.map g) := ⟨by
  induction xs with
  | nil => rfl
  | cons x r ih => show ((g x).nv && O.nvL (r.map g)) = true; rw [(h x).nv, ih]; rfl⟩
instance {os : List O} [h : NvL os] : Nv (.lst os) := ⟨h.nv⟩
instance {os : List O} [h : NvL os] : Nv (.tup os) := ⟨h.nv⟩
instance {C : Addr} {ns : List Str} {os : List O} [h : NvL os] : Nv (.ins C ns os) := ⟨h.nv⟩
instance {ks : List Key} {os : List O} [h : NvL os] : Nv (.dct ks os) := ⟨h.nv⟩
instance {ks : List (List Key)} {os : List O} [h : NvL os] : Nv (.dctT ks os) := ⟨h.nv⟩
instance {a C : Addr} {ns : List Str} {os : List O} [h : NvL os] : Nv (.at a C ns os) := ⟨h.nv⟩
theorem Nv.is (o : O) [h : Nv o] : o.nv = true := h.nv
end M
namespace M
open PySem L2 PySem.Spec PyProof.Rows
section
variable {β : Type}
end
section
variable {X : Cx} {ρ ρ' : Slots} {R R' : O → Slots} {e a b f call o : Expr} {es : List Expr} {d y dk : D} {ds : List D} {pos p0 p1 p2 p3 p4 apos cpos dpos : Pos} {i j : Nat} {st : Stmt} {sts : List Stmt} {G : Go} {oo o' : O} {nm : Str} {C : Addr} {ns : List Str} {os : List O} {β : Type} {g : β → O} {enc : β → D} {k : Key} {ks : List Key} {y0 y1 : β}
end
section
variable {K : PySem.W.Frag} {Z0 F Z Z' H H' : Hp} {σ : L2.St} {T A B : List Addr} {v : V} {o o' : O} {R : O → Slots}
theorem FocA.step (f : FocA K F Z Z0 σ H T v o R A) (ez : Ex Z Z') (nz : ∀ a, Kept F T A a → Z' a = Z a) (zh : Ex Z' H') (k : ∀ a, Kept F T A a → ∀ u, H a = some u → H' a = some u) (th : ∀ a ∈ A, ∃ u, H' a = some u) (fh : Ex F H') (r : RepO K Z' F H' v o' B) (n : B.Nodup) (d : ∀ a ∈ B, (a ∈ A ∨ a ∉ T ∧ F a = none) ∧ Z' a = none) : FocA K F Z' Z0 σ H' (T ++ B) v o' R B := by
  have nB : ∀ a, Kept F T A a → a ∉ B := fun a ka m => by
    rcases (d a m).1 with z | z
    · exact ka.1 z
    · rcases ka.2 with y | ⟨u, y⟩
      · exact z.1 y
      · rw [z.2] at y; cases y
  have kB : ∀ a, Kept F T A a → Kept F (T ++ B) B a := fun a ka => ⟨nB a ka, ka.2.imp (List.mem_append_left _) id⟩
  refine ⟨r, n, fun a m => ⟨List.mem_append_right _ m, (d a m).2, ?_⟩, fun a m => ?_, fh, fun {Z2 H2 w o2 p B2} ez2 nz2 zh2 k2 r2 n2 d2 => ?_⟩
  · rcases (d a m).1 with z | z
    · exact (f.ds a z).2.2
    · exact z.2
  · rcases List.mem_append.mp m with m | m
    · by_cases ma : a ∈ A
      · exact th a ma
      · obtain ⟨u, e⟩ := f.th a m
        exact ⟨u, k a ⟨ma, .inl m⟩ u e⟩
    · exact r.there a m
  · refine f.k (ez.trans ez2) (fun a ka => (nz2 a (kB a ka)).trans (nz a ka)) zh2 (fun a ka u e => k2 a (kB a ka) u (k a ka u e)) r2 n2 fun a m => ⟨?_, (d2 a m).2⟩
    rcases (d2 a m).1 with z | z
    · exact (d a z).1
    · exact .inr ⟨fun y => z.1 (List.mem_append_left _ y), z.2⟩
end
section
variable {κ : Type} [DecidableEq κ] {β : Type}
end
end M
namespace M
open PySem L2 PySem.Spec PyProof.Rows
section
variable {κ : Type} [DecidableEq κ] {β γ : Type}
end
structure FQ (X : Cx) (ρ : Slots) (o : O) (R : O → Slots) : Prop where
  run : ∀ (Z0 F Z : Hp) (σ : L2.St) (H : Hp) (T : List Addr), StA X.K ρ Z0 F Z σ H T → ∃ v, Foc X.K Z0 F Z σ H T v o R
section
variable {X : Cx} {ρ ρ' : Slots} {R R' : O → Slots} {e a f : Expr} {d dk : D} {ds : List D} {pos p0 p1 p2 p3 apos cpos dpos : Pos} {i j : Nat} {st : Stmt} {sts : List Stmt} {G : Go} {oo o o' : O} {nm : Str} {C l b : Addr} {ns : List Str} {os : List O} {β : Type} {g : β → O} {k : Key} {ks : List Key} {y0 : β}
theorem FQ.loc (h : FQ X ρ (.loc l o) R) : FQ X ρ o (fun o' => R (.loc l o')) := .mk fun Z0 F Z σ H T s => by
  obtain ⟨v, f⟩ := h.run Z0 F Z σ H T s
  exact ⟨v, f.unloc.2⟩
theorem FQ.fp (h : FQ X ρ (.loc l o) R) : FP X ρ l o (fun o' => R (.loc l o')) := .mk fun Z0 F Z σ H T s => by
  obtain ⟨v, f⟩ := h.run Z0 F Z σ H T s
  have := f.unloc
  rw [← this.1]
  exact this.2
theorem FQ.fld (h : FQ X ρ (.ins C ns os) R) (hd : os[j]? = some o) : FQ X ρ o (fun o' => R (.ins C ns (os.set j o'))) := .mk fun Z0 F Z σ H T s => by
  obtain ⟨v, A, f⟩ := h.run Z0 F Z σ H T s
  obtain ⟨_, _, _, v', _, _, _, _, f'⟩ := f.down hm_ins hd
  exact ⟨v', f'⟩
theorem FQ.it (h : FQ X ρ (.lst os) R) (hd : os[j]? = some o) : FQ X ρ o (fun o' => R (.lst (os.set j o'))) := .mk fun Z0 F Z σ H T s => by
  obtain ⟨v, A, f⟩ := h.run Z0 F Z σ H T s
  obtain ⟨_, _, _, v', _, _, _, _, f'⟩ := f.down hm_lst hd
  exact ⟨v', f'⟩
theorem FocA.same {K : PySem.W.Frag} {Z0 F Z H : Hp} {σ : L2.St} {T A : List Addr} {v : V} (f : FocA K F Z Z0 σ H T v o R A) (zh : Ex Z H) (hw : RepO K Z F H v o' A) : StR K (R o') Z0 F Z σ H :=
  f.chg (Ex.refl _) (fun _ _ => rfl) zh (fun _ _ _ e => e) hw f.nd fun a m => ⟨.inl m, (f.ds a m).2.1⟩
end
end M
namespace L2
open PySem PySem.Spec PyProof.Rows
section
variable {X : Cx} {pins : List (Addr × Obj)} {σ : St} {H : Hp} {s : Shared} {d : Addr} {o : Obj}
end
end L2
namespace M
open PySem L2 PySem.Spec PyProof.Rows
mutual
def O.nt : O → Bool
  | .lst os => O.ntL os
  | .tup _ => false
  | .ins _ _ os => O.ntL os
  | .at _ _ _ os => O.ntL os
  | .loc _ o => o.nt
  | .dct _ os => O.ntL os
  | .dctT _ os => O.ntL os
  | _ => true
def O.ntL : List O → Bool
  | [] => true
  | o :: r => o.nt && O.ntL r
end
section
variable {K : PySem.W.Frag} {Z F H : Hp}
mutual
theorem RepO.nt : ∀ {v : V} {o : O} {A : List Addr}, RepO K Z F H v o A → o.nt = true → ∀ a ∈ A, ∀ xs, H a ≠ some (.tup xs)
  | _, _, _, .fz _, _, _, m => nomatch m
  | _, _, _, .vw _ _, _, _, m => nomatch m
  | _, _, _, .vwa _ _, _, _, m => nomatch m
  | _, _, _, .lk _, _, _, m => nomatch m
  | _, _, _, .pt, _, _, m => nomatch m
  | _, _, _, .tup _ _, n, _, _ => nomatch n
  | _, .loc _ o, _, .loc h, n, a, m => RepO.nt (o := o) h n a m
  | _, _, _, .lst h r, n, a, m => (List.mem_cons.mp m).elim (fun e xs z => by rw [e, h] at z; cases z) fun m => RepOL.nt r n a m
  | _, _, _, .ins h r, n, a, m => (List.mem_cons.mp m).elim (fun e xs z => by rw [e, h] at z; cases z) fun m => RepOL.nt r n a m
  | _, _, _, .at h r, n, a, m => (List.mem_cons.mp m).elim (fun e xs z => by rw [e, h] at z; cases z) fun m => RepOL.nt r n a m
  | _, _, _, .dct h r, n, a, m => (List.mem_cons.mp m).elim (fun e xs z => by rw [e, h] at z; cases z) fun m => RepOL.nt r n a m
  | _, _, _, .dctT h r, n, a, m => (List.mem_cons.mp m).elim (fun e xs z => by rw [e, h] at z; cases z) fun m => RepOL.nt r n a m
theorem RepOL.nt : ∀ {vs : List V} {os : List O} {A : List Addr}, RepOL K Z F H vs os A → O.ntL os = true → ∀ a ∈ A, ∀ xs, H a ≠ some (.tup xs)
  | _, _, _, .nil, _, _, m => nomatch m
  | _, _, _, .cons h r, n, a, m => (List.mem_append.mp m).elim (fun m => RepO.nt h (Bool.and_eq_true_iff.mp n).1 a m) fun m => RepOL.nt r (Bool.and_eq_true_iff.mp n).2 a m
end
theorem StL.nt : ∀ {ρ : Slots} {σ : L2.St} {A : List Addr}, StL K Z F H ρ σ A → (∀ o, some o ∈ ρ → o.nt = true) → ∀ a ∈ A, ∀ xs, H a ≠ some (.tup xs)
  | _, _, _, .nil, _, _, m => nomatch m
  | _, _, _, .no h, n, a, m => h.nt (fun o z => n o (List.mem_cons_of_mem _ z)) a m
  | _, _, _, .so r h, n, a, m => (List.mem_append.mp m).elim (fun m => r.nt (n _ List.mem_cons_self) a m) fun m => h.nt (fun o z => n o (List.mem_cons_of_mem _ z)) a m
end
class Nt (o : O) : Prop where
  nt : o.nt = true
class NtL (os : List O) : Prop where
  nt : O.ntL os = true
instance {d : D} : Nt (.fz d) := ⟨rfl⟩
instance {o : O} : Nt (.lk o) := ⟨rfl⟩
instance {ds : List D} : Nt (.vw ds) := ⟨rfl⟩
instance {a : Addr} {ds : List D} : Nt (.vwa a ds) := ⟨rfl⟩
instance {a : Addr} : Nt (.pt a) := ⟨rfl⟩
instance {a : Addr} {o : O} [h : Nt o] : Nt (.loc a o) := ⟨h.nt⟩
instance : NtL [] := ⟨rfl⟩
instance {o : O} {os : List O} [h : Nt o] [t : NtL os] : NtL (o :: os) := ⟨by show (o.nt && O.ntL os) = true; rw [h.nt, t.nt]; rfl⟩
instance (priority := low) {β : Type} {g : β → O} {xs : List β} [h : ∀ x, Nt (g x)] : NtL (xs.map g) := ⟨by
  induction xs with
  | nil => rfl
  | cons x r ih => show ((g x).nt && O.ntL (r.map g)) = true; rw [(h x).nt, ih]; rfl⟩
instance {os : List O} [h : NtL os] : Nt (.lst os) := ⟨h.nt⟩
instance {C : Addr} {ns : List Str} {os : List O} [h : NtL os] : Nt (.ins C ns os) := ⟨h.nt⟩
instance {a C : Addr} {ns : List Str} {os : List O} [h : NtL os] : Nt (.at a C ns os) := ⟨h.nt⟩
instance {ks : List Key} {os : List O} [h : NtL os] : Nt (.dct ks os) := ⟨h.nt⟩
instance {ks : List (List Key)} {os : List O} [h : NtL os] : Nt (.dctT ks os) := ⟨h.nt⟩
class NtS (ρ : Slots) : Prop where
  nt : ∀ o, some o ∈ ρ → o.nt = true
instance : NtS [] := ⟨fun _ m => nomatch m⟩
instance {ρ : Slots} [t : NtS ρ] : NtS (none :: ρ) := ⟨fun o m => (List.mem_cons.mp m).elim (fun z => nomatch z) (t.nt o)⟩
instance {o : O} {ρ : Slots} [h : Nt o] [t : NtS ρ] : NtS (some o :: ρ) := ⟨fun o m => (List.mem_cons.mp m).elim (fun z => by cases z; exact h.nt) (t.nt o)⟩
section
variable {K : PySem.W.Frag} {Z0 F Z H : Hp} {ρ τ : Slots} {σ : L2.St} {i : Nat} {l d : Addr} {o : O} {u lu : HO} {qs : List Addr}
def lkF (F H : Hp) (B qs : List Addr) (d : Addr) (lu : HO) : Hp := fun a => if a = d then some lu else if a ∈ B ∨ a ∈ qs then H a else F a
theorem lkF_d {B : List Addr} : lkF F H B qs d lu d = some lu := if_pos rfl
theorem lkF_in {B : List Addr} {a : Addr} (h : a ≠ d) (m : a ∈ B ∨ a ∈ qs) : lkF F H B qs d lu a = H a := by unfold lkF; rw [if_neg h, if_pos m]
theorem lkF_out {B : List Addr} {a : Addr} (h : a ≠ d) (m : ¬ (a ∈ B ∨ a ∈ qs)) : lkF F H B qs d lu a = F a := by unfold lkF; rw [if_neg h, if_neg m]
theorem locked (s : StR K ρ Z0 F Z σ H) (hi : ρ[i]? = some (some (.loc l o))) (nt : ∀ o, some o ∈ ρ → o.nt = true) : σ[i]? = some (some (.ref l)) ∧ ∃ B, RepO K Z F H (.ref l) o B ∧ B.Nodup ∧ (∀ a ∈ B, Z a = none ∧ F a = none) ∧
    ∀ {d : Addr} {u lu : HO} {qs : List Addr}, d ∈ B → H d = some u → (∀ q ∈ qs, ∃ xs, H q = some (.tup xs)) →
      Ex F (lkF F H B qs d lu) ∧ StR K (ρ.set i (some (.pt l))) Z (lkF F H B qs d lu) Z σ (upd H d lu) ∧
      ∀ {τ : Slots} {Zn Hn : Hp} {σn : L2.St}, StR K τ Z (lkF F H B qs d lu) Zn σn Hn → τ[i]? = some (some (.pt l)) → Kp (ρ.set i (some (.pt l))) τ → o.nv = true → StR K (τ.set i (some (.loc l o))) Z0 F Zn σn (upd Hn d u) := by
  obtain ⟨A, h1, h2, h3⟩ := s.st
  obtain ⟨v, B, q1, q2, q3, q4, q5⟩ := h1.at hi h2
  have ev : v = .ref l := by cases q2 with | loc _ => rfl
  subst ev
  have r0 : RepO K Z F H (.ref l) o B := by cases q2 with | loc r => exact r
  refine ⟨q1, B, r0, q3, fun a m => h3 a (q4 a m), fun {d u lu qs} hd hu hq => ?_⟩
  generalize eF : lkF F H B qs d lu = F1
  have zd : Z d = none := (h3 d (q4 d hd)).1
  have fd : F d = none := (h3 d (q4 d hd)).2
  have F1d : F1 d = some lu := by rw [← eF]; exact lkF_d
  have F1i : ∀ a, a ≠ d → (a ∈ B ∨ a ∈ qs) → F1 a = H a := fun a n m => by rw [← eF]; exact lkF_in n m
  have F1o : ∀ a, a ≠ d → ¬ (a ∈ B ∨ a ∈ qs) → F1 a = F a := fun a n m => by rw [← eF]; exact lkF_out n m
  have ef : Ex F F1 := fun a w e => by
    have n : a ≠ d := fun z => by rw [z, fd] at e; cases e
    by_cases m : a ∈ B ∨ a ∈ qs
    · rw [F1i a n m]; exact s.gr.hh a w e
    · rw [F1o a n m]; exact e
  have eh : Ex F1 (upd H d lu) := fun a w e => by
    by_cases n : a = d
    · subst n
      rw [F1d] at e
      rw [upd_same]; exact e
    · rw [upd_ne n]
      by_cases m : a ∈ B ∨ a ∈ qs
      · rw [F1i a n m] at e; exact e
      · rw [F1o a n m] at e; exact s.gr.hh a w e
  have zh : Ex Z (upd H d lu) := fun a w e => by
    rw [upd_ne fun z => by rw [z, zd] at e; cases e]
    exact s.gr.zh a w e
  obtain ⟨A', t1, t2, t3⟩ := q5 (Z' := Z) (H' := upd H d lu) (v' := .ref l) (o' := .pt l) (B' := []) (Ex.refl _) (fun a m nb w e => by
    rw [upd_ne (show a ≠ d from fun z => nb (by rw [z]; exact hd))]; exact e) .pt List.nodup_nil fun _ m => nomatch m
  rw [set_same q1] at t1
  have ntA : ∀ a ∈ A, ∀ xs, H a ≠ some (.tup xs) := h1.nt nt
  have F1A : ∀ a ∈ A, a ∉ B → F1 a = none := fun a m nb => by
    have n : a ≠ d := fun z => nb (by rw [z]; exact hd)
    have nm : ¬ (a ∈ B ∨ a ∈ qs) := fun z => z.elim nb fun z => by
      obtain ⟨xs, e⟩ := hq a z
      exact ntA a m xs e
    rw [F1o a n nm]; exact (h3 a m).2
  refine ⟨ef, ⟨⟨Ex.refl _, eh, zh, fun _ _ _ => rfl⟩, A', t1.monoF ef, t2, fun a m => ?_⟩, fun {τ Zn Hn σn} sn hp hk hv => ?_⟩
  · rcases t3 a m with z | z
    · exact ⟨(h3 a z.1).1, F1A a z.1 z.2⟩
    · exact nomatch z
  · obtain ⟨An, l1, l2, l3⟩ := sn.st
    obtain ⟨w, Bn, u1, u2, u3, u4, u5⟩ := l1.at hp l2
    have ew : w = .ref l := by cases u2; rfl
    subst ew
    have nd : ∀ a ∈ An, a ≠ d := fun a m z => by rw [z] at m; rw [(l3 d m).2] at F1d; cases F1d
    have HnB : ∀ a ∈ B, a ≠ d → Hn a = H a := fun a m n => by
      obtain ⟨w, e⟩ := r0.there a m
      rw [e]
      exact sn.gr.hh a w (by rw [F1i a n (.inl m)]; exact e)
    have rB : RepO K Zn F (upd Hn d u) (.ref l) (.loc l o) B := .loc (r0.mono sn.gr.zz (Ex.refl _) fun a m w e => by
      by_cases n : a = d
      · subst n
        rw [hu] at e
        rw [upd_same]; exact e
      · rw [upd_ne n, HnB a m n]; exact e)
    have ZnB : ∀ a ∈ B, Zn a = none := fun a m => by
      have : ∃ w, F1 a = some w := by
        by_cases n : a = d
        · exact ⟨_, by rw [n]; exact F1d⟩
        · obtain ⟨w, e⟩ := r0.there a m
          exact ⟨w, by rw [F1i a n (.inl m)]; exact e⟩
      obtain ⟨w, e⟩ := this
      rw [sn.gr.nw a w e]
      exact (h3 a (q4 a m)).1
    have l1' : StL K Zn F1 (upd Hn d u) τ σn An := l1.mono (Ex.refl _) fun a m w e => by rw [upd_ne (nd a m)]; exact e
    have l2' : StL K Zn F (upd Hn d u) τ σn An := StL.kp ef sn.gr.zz hk t1 (by
      exact l1')
    obtain ⟨w2, Bn2, y1, y2, y3, y4, y5⟩ := l2'.at hp l2
    have eB2 : Bn2 = [] := by cases y2; rfl
    subst eB2
    have BA : ∀ a ∈ B, a ∉ An := fun a m z => by
      have := (l3 a z).2
      by_cases n : a = d
      · rw [n, F1d] at this; cases this
      · obtain ⟨w, e⟩ := r0.there a m
        rw [F1i a n (.inl m), e] at this; cases this
    obtain ⟨A2, x1, x2, x3⟩ := y5 (Z' := Zn) (H' := upd Hn d u) (v' := .ref l) (o' := .loc l o) (B' := B) (Ex.refl _) (fun _ _ _ _ e => e) rB q3 fun a m z => absurd z (BA a m)
    rw [set_same u1] at x1
    have znd : Zn d = none := ZnB d hd
    refine ⟨⟨s.gr.zz.trans sn.gr.zz, fun a w e => ?_, fun a w e => ?_, fun a w e => (sn.gr.nw a w (ef a w e)).trans (s.gr.nw a w e)⟩, A2, x1, x2, fun a m => ?_⟩
    · rw [upd_ne fun z => by rw [z, fd] at e; cases e]
      exact sn.gr.hh a w (ef a w e)
    · rw [upd_ne fun z => by rw [z, znd] at e; cases e]
      exact sn.gr.zh a w e
    · rcases x3 a m with z | z
      · refine ⟨(l3 a z.1).1, ?_⟩
        have n := nd a z.1
        have := (l3 a z.1).2
        by_cases mm : a ∈ B ∨ a ∈ qs
        · cases e : F a with
          | none => rfl
          | some w =>
            have := ef a w e
            rw [(l3 a z.1).2] at this
            cases this
        · rw [F1o a n mm] at this; exact this
      · exact ⟨ZnB a z, (h3 a (q4 a z)).2⟩
end
end M
namespace M
open PySem L2 PySem.Spec PyProof.Rows
section
variable {X : Cx} {ρ : Slots} {e : Expr} {st : Stmt} {G : Go} {o : O} {pos p0 p1 p2 : Pos} {i i1 i2 j : Nat} {nm x : Str} {C l : Addr} {ns : List Str} {os : List O} {β V : Type} {g : β → O}
end
end M
namespace M
open PySem PySem.Spec PyProof.Rows
/-- each text once, in the order of their first coming -/
def dd1 (σ : List Str) (x : Str) : List Str := if σ.any (· == x) = true then σ else σ ++ [x]
def dd (xs : List Str) : List Str := xs.foldl dd1 []
section
variable {prog : Program} {w : World} {A : Around}
end
end M
namespace M
open PySem L2 PySem.Spec PyProof.Rows
section
variable {X : Cx} {ρ : Slots} {e : Expr} {p p2 q pos : Pos}
end
end M
namespace M
open PySem L2 PySem.Spec PyProof.Rows
section
variable {X : Cx} {ρ ρ' : Slots} {R R' : O → Slots} {e a b c f : Expr} {es : List Expr} {d d1 dk : D} {ds : List D} {pos p0 p1 p2 p3 p4 : Pos} {i j : Nat} {st : Stmt} {sts : List Stmt} {G : Go} {o o' : O} {nm : Str} {C l : Addr} {ns : List Str} {os : List O} {β : Type} {g : β → O} {enc : β → D} {k : Key} {ks : List Key} {y1 : β} {n : Int}
end
end M
namespace M
open PySem L2 PySem.Spec PyProof.Rows
section
variable {X : Cx} {ρ ρ' : Slots} {R R' : O → Slots} {e a b c f : Expr} {es : List Expr} {d d1 dk : D} {ds : List D} {pos p0 p1 p2 p3 p4 : Pos} {i j : Nat} {st : Stmt} {sts : List Stmt} {G : Go} {o o' : O} {nm x : Str} {C l : Addr} {ns : List Str} {os : List O} {β : Type} {g : β → O} {enc : β → D}
end
end M
namespace M
open PySem L2 PySem.Spec PyProof.Rows
def idxB : List Bool → Option Nat
  | [] => none
  | true :: _ => some 0
  | false :: r => (idxB r).map (· + 1)
theorem idxB_ok : ∀ {bs : List Bool} {j : Nat}, idxB bs = some j → bs[j]? = some true ∧ ∀ m, m < j → bs[m]? = some false
  | [], _, h => nomatch h
  | true :: r, j, h => by
    cases h
    exact ⟨rfl, fun m hm => absurd hm (Nat.not_lt_zero m)⟩
  | false :: r, j, h => by
    have h : (idxB r).map (· + 1) = some j := h
    cases e : idxB r with
    | none => rw [e] at h; cases h
    | some k =>
      rw [e] at h
      cases h
      obtain ⟨h1, h2⟩ := idxB_ok e
      refine ⟨by simpa using h1, fun m hm => ?_⟩
      cases m with
      | zero => rfl
      | succ m =>
        have hm : m + 1 < k + 1 := hm
        simpa using h2 m (by omega)
theorem RepL.bools {K : PySem.W.Frag} {Z : Hp} : ∀ {vs : List V} {bs : List Bool}, RepL K Z vs (bs.map .bl) → vs = bs.map .bl
  | _, [], .nil => rfl
  | _, b :: r, .cons h t => by
    cases h
    rw [RepL.bools t]
    rfl
section
variable {X : Cx} {ρ : Slots} {a b : Expr} {bs : List Bool} {j : Nat} {p1 pos : Pos}
theorem me_indexB (h : idxB bs = some j) (ha : ML X ρ a (bs.map .bl)) (hb : ME X ρ b (.fz (.bl true)))
    (pm : PE X (.Call (.Attribute a "index" p1) [b] [] pos) (tBM X.K "list" (rIndex X.K) (wE X a) (tCons (wE X b) tNil)) := by exact pe_bm PySem.F.plainAttrs_list PySem.F.slot_list_index PySem.F.type_list_index mt_index pe_w (pa_cons pe_w pa_nil)) : ME X ρ (.Call (.Attribute a "index" p1) [b] [] pos) (.fz (.int (j : Nat))) := .mk fun Z0 F Z σ H s Q q =>
  PE_w pm (ha.run Z0 F Z σ H s _ fun l vs Z1 H1 g1 l1 r1 => ⟨.inl ⟨rfl, vs, l1⟩, hb.run Z0 F Z1 σ H1 (s.grow g1) _ fun v Z2 H2 A2 g2 r2 n2 => by
    cases r2 with
    | fz r2 =>
      cases r2
      have e := r1.bools
      subst e
      obtain ⟨h1, h2⟩ := idxB_ok h
      exact ⟨l, bs.map .bl, .bl true, j, .bl true, rfl, rfl, ex_l g2.hh l1, rfl, List.all_eq_true.mpr fun x m => by
        obtain ⟨b, _, rfl⟩ := List.mem_map.mp m
        rfl, by rw [List.getElem?_map, h1]; rfl, rfl, fun m z hm hz => by
        rw [List.getElem?_map, h2 m hm] at hz
        cases hz
        rfl, q _ Z2 H2 [] (g1.trans g2) (.fz (.int _)) .nil⟩⟩)
end
end M
namespace L2
open PySem PySem.Spec PyProof.Rows
/-- the very same object -/
def Ek (x y : V) : Prop := ∃ c : Addr, x = .ref c ∧ y = .ref c
/-- two lists of the same objects -/
def El (K : PySem.W.Frag) (H : Hp) (x y : V) : Prop := ∃ a b xs ys, x = .ref a ∧ y = .ref b ∧ SqL K H a xs ∧ SqL K H b ys ∧ Paired Ek xs ys
theorem ek_all {xs : List V} (h : ∀ x ∈ xs, ∃ c : Addr, x = .ref c) : Paired Ek xs xs := by
  induction xs with
  | nil => exact .nil
  | cons x xs ih =>
    obtain ⟨c, e⟩ := h x List.mem_cons_self
    exact .cons ⟨c, e, e⟩ (ih fun y m => h y (List.mem_cons_of_mem _ m))
theorem itemsE {A : Around} {s : Shared} {F : V → V → Prop} (ih : ∀ x y v u, F x y → RelV x v → RelV y u → SeqAt.EqAt A s v u true) {xs ys : List V} (hp : Paired F xs ys) :
    ∀ {us ws : List Value}, Vals xs us → Vals ys ws → ∀ j (h1 : j < us.length) (h2 : j < ws.length), SeqAt.EqAt A s us[j] ws[j] true := by
  induction hp with
  | nil =>
    intro us ws r1 r2 j h1 h2
    cases r1
    exact absurd h1 (Nat.not_lt_zero j)
  | cons h _ k =>
    intro us ws r1 r2 j h1 h2
    cases r1 with
    | cons a1 b1 =>
      cases r2 with
      | cons a2 b2 =>
        cases j with
        | zero => exact ih _ _ _ _ h a1 a2
        | succ j => exact k b1 b2 j (Nat.lt_of_succ_lt_succ h1) (Nat.lt_of_succ_lt_succ h2)
section
variable {X : Cx} {pins : List (Addr × Obj)} {σ : St} {H : Hp} {s : Shared}
theorem el_at (I : Inv X pins σ H s) {A : Around} (hu : A.units + 2 < cLine) {x y : V} {v u : Value} (h : El X.K H x y) (rx : RelV x v) (ry : RelV y u) : SeqAt.EqAt A s v u true := by
  obtain ⟨a, b, xs, ys, rfl, rfl, ha, hb, hp⟩ := h
  cases (show v = Value.ref a from rx)
  cases (show u = Value.ref b from ry)
  by_cases e : a = b
  · subst e
    exact SeqAt.EqAt.same _
  obtain ⟨us, r1, p1, _⟩ := I.list ha
  obtain ⟨ws, r2, p2, _⟩ := I.list hb
  have hsz : us.toArray.size = ws.toArray.size := by
    rw [List.size_toArray, List.size_toArray, ← r1.length, ← r2.length]
    exact Paired.length hp
  have k := SeqAt.RcAt.lists (A := A) (s := s) (e := fun _ => true) p1.isList p2.isList hsz (by omega) (fun j h1 h2 => by
    have k := itemsE (A := A.in1) (s := s) (F := Ek) (fun x y v u f ra rb => by
      obtain ⟨c, rfl, rfl⟩ := f
      cases (show v = Value.ref c from ra)
      cases (show u = Value.ref c from rb)
      exact SeqAt.EqAt.same _) hp r1 r2 j (by simpa using h1) (by simpa using h2)
    simpa using k)
  rw [show ((List.range us.toArray.size).all fun _ => true) = true from List.all_eq_true.mpr fun _ _ => rfl] at k
  exact SeqAt.EqAt.of_refs e k
end
def rNeI (K : PySem.W.Frag) : R2 := fun x y H Q => ∃ a b xs ys, x = .ref a ∧ y = .ref b ∧ SqL K H a xs ∧ SqL K H b ys ∧ Paired (El K H) xs ys ∧ Q (.bl false) H
theorem op_neI {X : Cx} (hu : X.A.units + 64 < cLine) : OpR X (compareOp .NotEq) (rNeI X.K) := by
  intro pins s σ H x y v u Q I rx ry h
  obtain ⟨a, b, xs, ys, rfl, rfl, ha, hb, hp, q⟩ := h
  cases (show v = Value.ref a from rx)
  cases (show u = Value.ref b from ry)
  obtain ⟨us, r1, p1, _⟩ := I.list ha
  obtain ⟨ws, r2, p2, _⟩ := I.list hb
  have hsz : us.toArray.size = ws.toArray.size := by
    rw [List.size_toArray, List.size_toArray, ← r1.length, ← r2.length]
    exact Paired.length hp
  have k := SeqAt.RcNeAt.lists (A := X.A) (s := s) (e := fun _ => true) p1.isList p2.isList hsz (by omega) (fun j h1 h2 => by
    have k := itemsE (A := X.A.in1) (s := s) (F := El X.K H) (fun x y v u f a b => el_at I (A := X.A.in1) (by show X.A.units + 1 + 2 < cLine; omega) f a b) hp r1 r2 j (by simpa using h1) (by simpa using h2)
    simpa using k)
  rw [show (!(List.range us.toArray.size).all fun _ => true) = false from by rw [show ((List.range us.toArray.size).all fun _ => true) = true from List.all_eq_true.mpr fun _ _ => rfl]; rfl] at k
  exact k X.prog X.w _ _ ⟨.bl false, H, I, rfl, q⟩
end L2
namespace M
open PySem L2 PySem.Spec PyProof.Rows
/-- data that stands as an object -/
def IsRef (K : PySem.W.Frag) (d : D) : Prop := ∀ (Z : Hp) (v : V), Rep K Z v d → ∃ c : Addr, v = .ref c
theorem repL_refs {K : PySem.W.Frag} {Z : Hp} : ∀ {vs : List V} {ds : List D}, RepL K Z vs ds → (∀ d ∈ ds, IsRef K d) → ∀ v ∈ vs, ∃ c : Addr, v = .ref c
  | _, _, .nil, _ => fun _ m => nomatch m
  | _, _, .cons h r, k => fun v m => by
    rcases List.mem_cons.mp m with rfl | m
    · exact k _ List.mem_cons_self _ _ h
    · exact repL_refs r (fun d md => k d (List.mem_cons_of_mem _ md)) v m
section
variable {X : Cx} {ρ : Slots} {G : Go}
/-- h = [list(a), list(b)]; two things made; h != [a, b] does not hold -/
theorem m_kept {ic ip ih i2 i3 : Nat} {nc np nh : Str} {st1 st2 st3 : Stmt} {e2 e3 : Expr} {o2 o3 : O} {cs ps : List D} {body rest : List Stmt} {q0 q1 q2 q3 q4 q5 q6 r0 r1 r2 r3 r4 r5 : Pos}
    (p1 : PS X st1 (tAsg (wE X (.List [.Call (.Name "list" q0) [.Name nc q1] [] q2, .Call (.Name "list" q3) [.Name np q4] [] q5] q6)) (gName ih)))
    (p2 : PS X st2 (tAsg (wE X e2) (gName i2))) (p3 : PS X st3 (tAsg (wE X e3) (gName i3)))
    (hu : X.A.units + 64 < cLine) (hg : Gl X "list") (hm : X.mg "list" = none)
    (pc1 : PE X (.Name nc q1) (tVar ic)) (pp1 : PE X (.Name np q4) (tVar ip)) (pc2 : PE X (.Name nc r1) (tVar ic)) (pp2 : PE X (.Name np r2) (tVar ip)) (ph : PE X (.Name nh r0) (tVar ih))
    (hc : ρ[ic]? = some (some (.lst (cs.map .fz)))) (hp : ρ[ip]? = some (some (.lst (ps.map .fz)))) (kc : ∀ d ∈ cs, IsRef X.K d) (kp : ∀ d ∈ ps, IsRef X.K d)
    (hi : ih < ρ.length ∧ i2 < ρ.length ∧ i3 < ρ.length) (hn : ic ≠ ih ∧ ic ≠ i2 ∧ ic ≠ i3 ∧ ip ≠ ih ∧ ip ≠ i2 ∧ ip ≠ i3 ∧ ih ≠ i2 ∧ ih ≠ i3)
    (h2 : ME X (ρ.set ih (some (.lst [.lst (cs.map .fz), .lst (ps.map .fz)]))) e2 o2) (h3 : ME X ((ρ.set ih (some (.lst [.lst (cs.map .fz), .lst (ps.map .fz)]))).set i2 (some o2)) e3 o3)
    (k : MS X (((ρ.set ih (some (.lst [.lst (cs.map .fz), .lst (ps.map .fz)]))).set i2 (some o2)).set i3 (some o3)) rest G) :
    MS X ρ (st1 :: st2 :: st3 :: .If (.Compare (.Name nh r0) [.NotEq] [.List [.Name nc r1, .Name np r2] r3] r4) body [] r5 :: rest) G := .mk fun Z0 F Z σ H D s g => by
  obtain ⟨A0, t0, _, _⟩ := s.st
  obtain ⟨v, B, e1, x1, _⟩ := t0.get hc
  obtain ⟨v', B', e1', x1', _⟩ := t0.get hp
  cases x1 with
  | @lst a vs _ A ha rl =>
    cases x1' with
    | @lst b ws _ A' hb rl' =>
      obtain ⟨_, rc⟩ := rl.fzs
      obtain ⟨_, rp⟩ := rl'.fzs
      refine PSs_w (pss_cons p1 pss_w) (PE_w (pe_lst (pa_cons (pe_callTy call_list_of hg hm (by decide +kernel) (pa_cons pc1 pa_nil)) (pa_cons (pe_callTy call_list_of hg hm (by decide +kernel) (pa_cons pp1 pa_nil)) pa_nil))) ?_)
      refine ⟨_, e1, a, vs, rfl, .inl (.of ha), fun p hp0 => ?_⟩
      have na : a ≠ p := fun z => by rw [z, hp0] at ha; cases ha
      have nb : b ≠ p := fun z => by rw [z, hp0] at hb; cases hb
      have g1 : Gr Z H Z (upd H p (.lst vs)) := Gr.new s.gr.zh hp0
      have hb1 : upd H p (.lst vs) b = some (.lst ws) := by rw [upd_ne nb]; exact hb
      refine ⟨_, e1', b, ws, rfl, .inl (.of hb1), fun q hq0 => ?_⟩
      have g2 : Gr Z H Z (upd (upd H p (.lst vs)) q (.lst ws)) := g1.trans (Gr.new g1.zh hq0)
      have np' : p ≠ q := fun z => by rw [← z, upd_same] at hq0; cases hq0
      have hp2 : upd (upd H p (.lst vs)) q (.lst ws) p = some (.lst vs) := by rw [upd_ne np']; exact upd_same
      refine ⟨by show 2 ≤ 16777216; decide, fun r hr0 => ?_⟩
      have g3 : Gr Z H Z (upd (upd (upd H p (.lst vs)) q (.lst ws)) r (.lst [.ref p, .ref q])) := g2.trans (Gr.new g2.zh hr0)
      have npr : p ≠ r := fun z => by rw [← z, hp2] at hr0; cases hr0
      have nqr : q ≠ r := fun z => by rw [← z, upd_same] at hr0; cases hr0
      generalize eH : upd (upd (upd H p (.lst vs)) q (.lst ws)) r (.lst [.ref p, .ref q]) = H3 at g3
      have hp3 : H3 p = some (.lst vs) := by rw [← eH, upd_ne npr]; exact hp2
      have hq3 : H3 q = some (.lst ws) := by rw [← eH, upd_ne nqr]; exact upd_same
      have hr3 : H3 r = some (.lst [.ref p, .ref q]) := by rw [← eH]; exact upd_same
      have fq : H q = none := by
        have z := hq0
        rwa [upd_ne np'.symm] at z
      have fr : H r = none := by
        have z := hr0
        rwa [upd_ne nqr.symm, upd_ne npr.symm] at z
      have rep : RepO X.K Z F H3 (.ref r) (.lst [.lst (cs.map .fz), .lst (ps.map .fz)]) [r, p, q] := .lst hr3 (.cons (A := [p]) (B := [q]) (.lst hp3 rc.own) (.cons (A := [q]) (B := []) (.lst hq3 rp.own) .nil))
      have nw : New H Z [r, p, q] := ⟨by simp [npr.symm, nqr.symm, np'], fun x m => by
        simp only [List.mem_cons, List.not_mem_nil, or_false] at m
        rcases m with rfl | rfl | rfl
        · exact ⟨fr, s.gr.zh.free fr⟩
        · exact ⟨hp0, s.gr.zh.free hp0⟩
        · exact ⟨fq, s.gr.zh.free fq⟩⟩
      have s1 := s.put g3 rep nw hi.1
      refine PSs_w (pss_cons p2 pss_w) (h2.run Z0 F Z _ H3 s1 _ fun v2 Z4 H4 A4 g4 r4 n4 => ?_)
      have s2 := s1.put g4 r4 n4 (by rw [List.length_set]; exact hi.2.1)
      refine PSs_w (pss_cons p3 pss_w) (h3.run Z0 F Z4 _ H4 s2 _ fun v3 Z5 H5 A5 g5 r5 n5 => ?_)
      have s3 := s2.put g5 r5 n5 (by rw [List.length_set, List.length_set]; exact hi.2.2)
      have g45 : ∀ x u, H3 x = some u → H5 x = some u := fun x u e => g5.hh x u (g4.hh x u e)
      have g05 : ∀ x u, H x = some u → H5 x = some u := fun x u e => g45 x u (g3.hh x u e)
      have ls : σ.length = ρ.length := s.len
      have lk : ∀ {i : Nat} {w : V}, σ[i]? = some (some w) → i ≠ ih → i ≠ i2 → i ≠ i3 → (((σ.set ih (some (.ref r))).set i2 (some v2)).set i3 (some v3))[i]? = some (some w) := fun {i w} e n1 n2 n3 => by
        rw [List.getElem?_set_ne (Ne.symm n3), List.getElem?_set_ne (Ne.symm n2), List.getElem?_set_ne (Ne.symm n1)]
        exact e
      have lh : (((σ.set ih (some (.ref r))).set i2 (some v2)).set i3 (some v3))[ih]? = some (some (.ref r)) := by
        rw [List.getElem?_set_ne (Ne.symm hn.2.2.2.2.2.2.2), List.getElem?_set_ne (Ne.symm hn.2.2.2.2.2.2.1), List.getElem?_set_self (by rw [ls]; exact hi.1)]
      refine PSs_w (pss_cons (ps_if (pt_cmpR (op_neI hu) ph (pe_lst (pa_cons pc2 (pa_cons pp2 pa_nil))) (nomark _)) pss_w pss_nil) pss_w) ?_
      refine ⟨_, lh, _, lk e1 hn.1 hn.2.1 hn.2.2.1, _, lk e1' hn.2.2.2.1 hn.2.2.2.2.1 hn.2.2.2.2.2.1, by show 2 ≤ 16777216; decide, fun t ht0 => ?_⟩
      have st : ∀ {x : Addr} {u : HO}, H5 x = some u → upd H5 t (.lst [.ref a, .ref b]) x = some u := fun {x u} e => by
        have : x ≠ t := fun z => by rw [z, ht0] at e; cases e
        rw [upd_ne this]
        exact e
      refine ⟨r, t, [.ref p, .ref q], [.ref a, .ref b], rfl, rfl, .inl (.of (st (g45 _ _ hr3))), .inl (.of upd_same), .cons ⟨p, a, vs, vs, rfl, rfl, .inl (.of (st (g45 _ _ hp3))), .inl (.of (st (g05 _ _ ha))), ek_all (repL_refs rc kc)⟩ (.cons ⟨q, b, ws, ws, rfl, rfl, .inl (.of (st (g45 _ _ hq3))), .inl (.of (st (g05 _ _ hb))), ek_all (repL_refs rp kp)⟩ .nil), _, rfl, ?_⟩
      exact k.run Z0 F Z5 _ _ D (s3.grow (Gr.new s3.gr.zh ht0)) g
end
theorem fn_mXED {α : Type} {P : Program} {w : World} {K : PySem.W.Frag} {mg : Str → Option Value} {base : Heap} {x qual : Str} {pr : Arguments} {bo : List Stmt} {sc : Scope} {dvs : List V} {kws : List (Str × V)} {f : Addr} {fd : FuncData} {N ps : List Str} {k : Nat} {ar : α → List O} {pre : α → Prop} {s0 s1 : Addr → α → O} {res : α → O}
    (F : FunD K x qual pr bo sc dvs kws f fd) (S : FnScope N ps sc) (hl : ∀ x, (ar x).length + 1 = ps.length) (hn1 : ∀ l x, pre x → (s1 l x).nv = true) (hn2 : ∀ x, pre x → (res x).nv = true ∨ ∃ e, res x = .rs e) (hat : ∀ l x, ∃ C ns os, s1 l x = .at l C ns os)
    (hb : ∀ (cdv : Value) (A : Around) (outer : List Env) (s : Shared) (H : Hp) (E : XK), Room k (A.deeper (envOfC qual sc s.heap.objs.size f cdv)) →
      PassesOwn (model P w) (A.deeper (envOfC qual sc s.heap.objs.size f cdv)) (cxOf (L2.CX P w) P w K mg base N qual sc f cdv A outer s H E).env (cxOf (L2.CX P w) P w K mg base N qual sc f cdv A outer s H E).xe → ∀ (l : Addr) x, pre x →
      MS (cxOf (L2.CX P w) P w K mg base N qual sc f cdv A outer s H E) (some (s0 l x) :: (ar x).map some ++ List.replicate (N.length - ps.length) none) bo { nx := fun ρ => res x = .fz .non ∧ ρ[0]? = some (some (s1 l x)), rs := fun o ρ => o = res x ∧ ρ[0]? = some (some (s1 l x)), rt := fun o => o = res x ∧ ∃ e, o = .rs e }) :
    FnOk P w K mg base (L2.CX P w) (k + 1) f fd ps (SpXE K ar pre s0 s1 res) := by
  refine F.ok S (fun vs H Q E h => ?_) (fun cdv A outer s H vs Q E hr h => ?_)
  · obtain ⟨x, Z, F, l, vs', A, rfl, _, _, _, _, _, r, _⟩ := h
    rw [List.length_cons, r.length, hl]
  · obtain ⟨x, Z, F0, l, vs', A0, rfl, ez, ef, nA, fA, rs, r, hp, q, qx⟩ := h
    obtain ⟨C, ns, os, hs1⟩ := hat l x
    have st0 : StL K Z F0 H (some (s0 l x) :: (ar x).map some) (some (.ref l) :: vs'.map some) (A0 ++ []) := .so rs (stL_args (r.mono (Ex.refl _) (Ex.refl _) fun _ m => nomatch m))
    refine ⟨_, pss_w, (hb cdv A outer s H E hr (passes_of rfl) l x hp).run Z F0 Z _ H _ ⟨⟨Ex.refl _, ef, ez.trans ef, fun _ _ _ => rfl⟩, A0 ++ [], ?_, by rw [List.append_nil]; exact nA, fun a m => ?_⟩ ⟨fun ρ Z' σ H' e s' => ?_, fun _ _ _ _ z => z.elim, fun _ _ _ _ z => z.elim, fun o v Z' H' A k g r n => ?_, fun o ρ v Z' σ H' e s' => ?_, ⟨_, takes_of rfl rfl rfl rfl, fun e ρ Z' σ H' k s' => thrown_of (qx e Z' H' k.1.symm s'.gr)⟩⟩⟩
    · have e : L2.start N (.ref l :: vs') = (some (.ref l) :: vs'.map some) ++ List.replicate (N.length - ps.length) none := by
        unfold L2.start
        rw [List.length_cons, r.length, hl]
        rfl
      rw [e]
      exact stL_more _ st0
    · rw [List.append_nil] at m
      exact ⟨ez.free (fA a m), fA a m⟩
    · obtain ⟨en, e⟩ := e
      obtain ⟨A1, t1, t2, t3⟩ := s'.st
      obtain ⟨v, B, u1, u2, u3, u4, _⟩ := t1.at e t2
      have hn := hn1 l x hp
      rw [hs1] at u2 hn
      cases u2 with
      | @«at» _ _ dx _ vs1 _ B1 h0 rl =>
        refine q .non Z' H' ((l :: B1) ++ ([] ++ [])) s'.gr (.cons ?_ (.cons (A := []) ?_ .nil)) (by simpa using u3) fun a m => ?_
        · rw [hs1]
          exact (RepO.at h0 rl).unF hn
        · rw [en]
          exact .fz .non
        · have m : a ∈ l :: B1 := by simpa using m
          exact ⟨(t3 a (u4 a m)).2, (t3 a (u4 a m)).1⟩
    · obtain ⟨_, e, rfl⟩ := k
      cases r
    · obtain ⟨en, e⟩ := e
      subst en
      obtain ⟨A1, t1, t2, t3⟩ := s'.st
      obtain ⟨B, Cc, w1, w2, w3, w4⟩ := t1.last t2
      obtain ⟨n1, n2, n3⟩ := List.nodup_append.mp w3
      obtain ⟨v0, B0, u1, u2, u3, u4, _⟩ := w1.at e n1
      have hn := hn1 l x hp
      rw [hs1] at u2 hn
      cases u2 with
      | @«at» _ _ dx _ vs1 _ B1 h0 rl =>
        rcases hn2 x hp with hn2 | ⟨ee, hn2⟩
        · refine q v Z' H' ((l :: B1) ++ (Cc ++ [])) s'.gr (.cons ?_ (.cons (w2.unF hn2) .nil)) ?_ fun a m => ?_
          · rw [hs1]
            exact (RepO.at h0 rl).unF hn
          · rw [List.append_nil]
            exact List.nodup_append.mpr ⟨u3, n2, fun a ha b hb => n3 a (u4 a ha) b hb⟩
          · rw [List.append_nil] at m
            have m2 : a ∈ B ++ Cc := by
              rcases List.mem_append.mp m with z | z
              · exact List.mem_append_left _ (u4 a z)
              · exact List.mem_append_right _ z
            exact ⟨(t3 a (w4 a m2)).2, (t3 a (w4 a m2)).1⟩
        · rw [hn2] at w2
          cases w2
theorem ML.as17 {X : Cx} {ρ : Slots} {a : Expr} {ds ds' : List D} (h : ML X ρ a ds) (q : ds = ds') : ML X ρ a ds' := q ▸ h
structure Mk1ED (P : Program) (w : World) (K : PySem.W.Frag) (mg : Str → Option Value) (base : Heap) (name : Str) (C : Addr) (k : Nat) (ps : List Str) (dvs : List V) (sp : Sp) : Prop where
  ex : ∃ (f : Addr) (fd : FuncData) (dd : List Value), mg name = some (.ref C) ∧ Mk K C f ∧ Binds K fd ps dd ∧ Vals dvs dd ∧ FnOk P w K mg base (L2.CX P w) k f fd ps sp
section
variable {P : Program} {w : World} {K : PySem.W.Frag} {mg : Str → Option Value} {base : Heap} {name : Str} {k : Nat} {ps : List Str} {α : Type} {C : Addr} {ns : List Str} {ar : α → List O} {pre : α → Prop} {dvs : List V}
theorem Mk1ED.ok {res : α → List O} {er : α → Option Er} (c : Mk1ED P w K mg base name C k ps dvs (SpIE K C ns ar pre res er)) : Mk1D P w K mg base name C k ps dvs (SpI K C ns ar (fun x => pre x ∧ er x = none) res) := by
  obtain ⟨f, fd, dd, hm, hk, hb, hv, F⟩ := c.ex
  exact ⟨f, fd, dd, hm, hk, hb, hv, F.known fun vs H Q E ⟨x, Z, F, l, dx, vs', e, ez, ef, nl, hi, r, ⟨hp, hn⟩, q⟩ => ⟨x, Z, F, l, dx, vs', e, ez, ef, nl, hi, r, hp, fun _ => q, fun e _ _ z => by rw [hn] at z; cases z⟩⟩
end
section
variable {X : Cx} {ρ : Slots} {e : Expr} {es : List Expr} {pos p0 : Pos} {nm : Str} {C : Addr} {ns : List Str} {er : Er}
theorem mz_makeD {α : Type} {ar : α → List O} {pre : α → Prop} {res : α → List O} {err : α → Option Er} {k : Nat} {ps : List Str} {dvs : List V} {dds : List D} {ro : List O} (c : Mk1ED X.prog X.w X.K X.mg X.base nm C k ps dvs (SpIE X.K C ns ar pre res err)) (hd : Dfl dvs dds) (x : α) (ha : MA X ρ (e :: es) ro) (hx : ar x = ro ++ dds.map .fz) (hp : pre x) (hr : Room (k + 1) X.A) (hres : err x = some er := by first | (dsimp only; done) | (dsimp only; rfl) | rfl) (hg : Gl X nm := by rfl)
    (hdb : (nm == ("__debug__" : Str)) = false := by decide) (he : starEach (e :: es) X.env = (false, eval e X.env) :: starEach es X.env := by rfl) (hpl : (backTo pos (starEach es X.env)).any (·.1) = false := by rfl) : MRz X ρ (.Call (.Name nm p0) (e :: es) [] pos) er := by
  obtain ⟨f, fd, dd, hm, M, hb, hv, F⟩ := c.ex
  exact .mk fun Z0 F0 Z σ H s W tk qx Q => PE_w (pe_make M F hr hg hm hb hv (pass_ew tk) pa_w hdb he hpl) (ha.run Z0 F0 Z σ H s _ fun vs Z1 H1 g1 r1 l dx nl ndx ne =>
    ⟨x, Z1, H1, l, dx, vs ++ dvs, rfl, g1.zh, (Ex.new ndx).trans (Ex.new (by rw [upd_ne ne.symm]; exact nl)), nl, upd_same, by rw [hx]; exact r1.app0 hd.own, hp, (fun z => by
      rw [hres] at z
      cases z), (fun e Z2 H2 z g2 => by
      rw [hres] at z
      cases z
      exact thrE_of fun σ' => qx σ' Z2 H2 (s.gr.trans (g1.trans g2)))⟩)
end
theorem mpI17 : ∀ {xs : List D} {ys : List Int}, mpO asI xs = some ys → xs.map e_d = ys.map D.int
  | [], ys, h => by cases h; rfl
  | x :: xs, ys, h => by
    obtain ⟨y, h1, h⟩ := bd_some h
    obtain ⟨zs, h2, h⟩ := bd_some h
    cases h
    have e := asI_is h1
    have e : x = .int y := O.fz.inj e
    rw [List.map_cons, List.map_cons, mpI17 h2, e]
theorem ML.pr {X : Cx} {ρ : Slots} {a : Expr} {α β : Type} {xs : List α} {enc : α → D} {enc2 : β → D} {f : α → β} (h : ML X ρ a (xs.map enc)) (q : ∀ x, enc2 (f x) = enc x) : ML X ρ a ((xs.map f).map enc2) := by
  rw [List.map_map, show enc2 ∘ f = enc from funext q]
  exact h
end M
namespace K38
open PySem L2 M
def top (i : Nat) : Stmt := PySem.Challenge.pw_coverroll_k38_no_covers.main.body.getD i (.Pass ⟨0, 0, 0, 0⟩)
abbrev s_is_whole : Stmt := top 9
abbrev s_show_cents : Stmt := top 10
abbrev s_is_name : Stmt := top 14
abbrev s_is_amount : Stmt := top 15
abbrev s_total_of : Stmt := top 19
abbrev s_due_by : Stmt := top 20
abbrev s_next_place : Stmt := top 21
abbrev s_turns : Stmt := top 22
abbrev s_Deal___init__ : Stmt := inClass (top 23) 0
abbrev s_Deal_counts_to : Stmt := inClass (top 23) 2
abbrev s_need_houses : Stmt := top 26
abbrev s_Cover___init__ : Stmt := inClass (top 27) 0
abbrev s_Cover_asks : Stmt := inClass (top 27) 1
abbrev s_need_amount : Stmt := top 30
abbrev s_Clause___init__ : Stmt := inClass (top 31) 0
abbrev s_Own___init__ : Stmt := inClass (top 32) 0
abbrev s_Own_words : Stmt := inClass (top 32) 2
abbrev s_Condition_holds : Stmt := inClass (top 34) 0
abbrev s_Condition_words : Stmt := inClass (top 34) 1
abbrev s_CauseIs___init__ : Stmt := inClass (top 35) 0
abbrev s_CauseIs_holds : Stmt := inClass (top 35) 1
abbrev s_CauseIs_words : Stmt := inClass (top 35) 2
abbrev s_ThingIs___init__ : Stmt := inClass (top 36) 0
abbrev s_ThingIs_holds : Stmt := inClass (top 36) 1
abbrev s_ThingIs_words : Stmt := inClass (top 36) 2
abbrev s_Over___init__ : Stmt := inClass (top 37) 0
abbrev s_Over_holds : Stmt := inClass (top 37) 1
abbrev s_Over_words : Stmt := inClass (top 37) 2
abbrev s__law_cell : Stmt := top 39
abbrev s__law_names : Stmt := top 40
abbrev s__law_houses : Stmt := top 41
abbrev s__law_refused : Stmt := top 42
abbrev s__law_bad_pairs : Stmt := top 43
abbrev s__law_kept : Stmt := top 44
abbrev s__law_asks : Stmt := top 45
abbrev s_law : Stmt := top 46
abbrev s_CoverR___init__ : Stmt := inClass (top 27) 0
abbrev s_CoverP___init__ : Stmt := inClass (top 27) 0
abbrev s_CoverP_asks : Stmt := inClass (top 27) 1
abbrev s_DealD___init__ : Stmt := inClass (top 23) 0
abbrev s_need_houses_g : Stmt := top 26
abbrev s_is_name_s : Stmt := top 14
abbrev s_is_whole_d : Stmt := top 9
abbrev s_total_of_r : Stmt := top 19
abbrev s_turns_r : Stmt := top 22
abbrev s__law_refused_g : Stmt := top 42
abbrev s__law_kept_p : Stmt := top 44
abbrev s__law_asks_p : Stmt := top 45
section
variable {P : Program} {w : World} {K : PySem.W.Frag} {mg : Str → Option Value} {base : Heap} {C_CoverError C_NoShares C_NoEntry C_NoClause C_NoCover C_NoBook C_Deal C_Cover C_Clause C_Own C_Condition C_CauseIs C_ThingIs C_Over C_CoverR C_CoverP C_DealD : Addr}
def sp_is_whole (K : PySem.W.Frag) : Sp := SpM K (fun x : Int => [.fz (.int x)]) (fun _ => True) (fun _ => .fz (.bl true))
abbrev N_is_whole : List Str := ["thing"]
theorem sc_is_whole : FnScope N_is_whole ["thing"] (defScope s_is_whole) := ⟨rfl, rfl, rfl, by decide +kernel, rfl, by decide +kernel, by decide +kernel⟩
theorem ok_is_whole {f : Addr} {fd : FuncData} (F : Fun K "is_whole" "is_whole" s_is_whole f fd) (z_bool : mg "bool" = none) (z_int : mg "int" = none) (z_isinstance : mg "isinstance" = none)  : FnOk P w K mg base CX0 1 f fd ["thing"] (sp_is_whole K) := by
  refine fn_m F sc_is_whole (fun x => rfl) (fun x _ => rfl) fun cdv A outer s H E hr x hx => ?_
  have nd := sc_is_whole.nd
  refine ms_one (m_ret (ps_ret pe_w) (ME.r (me_and (me_isi (k := true) (by rfl) z_isinstance (pe_bltn (v := .ty "int") (by rfl) z_int (by decide +kernel) rfl) (mv_var (pv 0) rfl) rfl (by decide +kernel)) fun _ => (me_one (me_not (me_isi (k := false) (by rfl) z_isinstance (pe_bltn (v := .ty "bool") (by rfl) z_bool (by decide +kernel) rfl) (mv_var (pv 0) rfl) rfl (by decide +kernel)))))) ?_)
  rfl

structure WOk (ws : List Int) : Prop where
  l1 : 1 ≤ ws.length
  l8 : ws.length ≤ 8
  w1 : ∀ w ∈ ws, 1 ≤ w
  s100 : ws.sum ≤ 100
theorem sum_ge : ∀ {ws : List Int}, (∀ w ∈ ws, 1 ≤ w) → (ws.length : Int) ≤ ws.sum ∧ ∀ w ∈ ws, w ≤ ws.sum
  | [], _ => ⟨by simp, fun _ m => nomatch m⟩
  | a :: r, h => by
    obtain ⟨h1, h2⟩ := sum_ge (ws := r) fun w m => h w (List.mem_cons_of_mem _ m)
    have ha := h a List.mem_cons_self
    rw [List.sum_cons, List.length_cons]
    refine ⟨by omega, fun w m => ?_⟩
    rcases List.mem_cons.mp m with m | m
    · omega
    · have := h2 w m
      omega
def npStep (ws gs : List Int) (T n : Int) (acc : Option Nat × Int) (k : Nat) : Option Nat × Int :=
  if gs.getD k 0 * T < ws.getD k 0 * (n + 1) then
    if acc.1 = none ∨ -(-(gs.getD k 0 + 1) * T / ws.getD k 0) < acc.2 then (some k, -(-(gs.getD k 0 + 1) * T / ws.getD k 0)) else acc
  else acc
def npM (ws gs : List Int) (T n : Int) : Option Nat × Int := (List.range ws.length).foldl (npStep ws gs T n) (none, 0)
theorem np_lt (ws gs : List Int) (T n : Int) (m : Nat) : ∀ (l : List Nat) (acc : Option Nat × Int), (∀ k ∈ l, k < m) → (∀ p, acc.1 = some p → p < m) → ∀ p, (l.foldl (npStep ws gs T n) acc).1 = some p → p < m
  | [], _, _, h => h
  | k :: r, acc, hl, h => by
    refine np_lt ws gs T n m r _ (fun j m => hl j (List.mem_cons_of_mem _ m)) ?_
    unfold npStep
    split
    · split
      · intro p e
        cases e
        exact hl k List.mem_cons_self
      · exact h
    · exact h
theorem np_some (ws gs : List Int) (T n : Int) : ∀ (l : List Nat) (acc : Option Nat × Int), (acc.1 ≠ none ∨ ∃ k ∈ l, gs.getD k 0 * T < ws.getD k 0 * (n + 1)) → (l.foldl (npStep ws gs T n) acc).1 ≠ none
  | [], acc, h => by
    rcases h with h | ⟨k, m, _⟩
    · exact h
    · cases m
  | k :: r, acc, h => by
    refine np_some ws gs T n r _ ?_
    have keep : acc.1 ≠ none → (npStep ws gs T n acc k).1 ≠ none := fun h => by
      unfold npStep
      split
      · split
        · exact fun q => by cases q
        · exact h
      · exact h
    rcases h with h | ⟨j, m, hj⟩
    · exact .inl (keep h)
    · rcases List.mem_cons.mp m with m | m
      · subst m
        refine .inl ?_
        unfold npStep
        rw [if_pos hj]
        split
        · exact fun q => by cases q
        · rename_i hn
          exact fun q => hn (.inl q)
      · exact .inr ⟨j, m, hj⟩
theorem getD_mem {ws : List Int} {k : Nat} (h : k < ws.length) : ws.getD k 0 ∈ ws := by
  simp [List.getD, h]
theorem sum_getD_lt : ∀ {as bs : List Int}, as.length = bs.length → (∀ k, k < as.length → bs.getD k 0 ≤ as.getD k 0) → bs.sum ≤ as.sum
  | [], [], _, _ => by simp
  | a :: as, b :: bs, hl, h => by
    have ih := sum_getD_lt (as := as) (bs := bs) (by simpa using hl) fun k hk => by
      have := h (k + 1) (by simpa using hk)
      simpa using this
    have h0 := h 0 (by simp)
    simp at h0
    rw [List.sum_cons, List.sum_cons]
    omega
theorem sum_mul (c : Int) : ∀ xs : List Int, (xs.map (· * c)).sum = xs.sum * c
  | [] => by simp
  | a :: r => by rw [List.map_cons, List.sum_cons, List.sum_cons, sum_mul c r, Int.add_mul]
/-- there is a place that may have the turn -/
theorem np_there {ws gs : List Int} {n : Int} (hw : WOk ws) (hl : gs.length = ws.length) (hs : gs.sum = n) (hn : n < ws.sum) : (npM ws gs ws.sum n).1 ≠ none := by
  refine np_some _ _ _ _ _ _ (.inr ?_)
  refine Classical.byContradiction fun hno => ?_
  have hall : ∀ k, k < ws.length → ws.getD k 0 * (n + 1) ≤ gs.getD k 0 * ws.sum := fun k hk => by
    refine Int.not_lt.mp fun q => hno ⟨k, List.mem_range.mpr hk, q⟩
  have h1 := sum_getD_lt (as := gs.map (· * ws.sum)) (bs := ws.map (· * (n + 1))) (by simp [hl]) fun k hk => by
    have hk2 : k < ws.length := by simpa [hl] using hk
    have hk3 : k < gs.length := by omega
    have q := hall k hk2
    simpa [List.getD, hk2, hk3] using q
  rw [sum_mul, sum_mul, hs] at h1
  have hT := (sum_ge hw.w1).1
  have h1' := hw.l1
  have e : ws.sum * (n + 1) = n * ws.sum + ws.sum := by rw [Int.mul_add, Int.mul_one, Int.mul_comm]
  omega
def turnStep (ws : List Int) (acc : List Int × List Int) (n : Nat) : List Int × List Int :=
  match (npM ws acc.1 ws.sum n).1 with
  | some p => (acc.1.set p (acc.1.getD p 0 + 1), acc.2 ++ [(p : Int)])
  | none => acc
def turnsTo (ws : List Int) (n : Nat) : List Int × List Int := (List.range n).foldl (turnStep ws) (ws.map (fun _ => 0), [])
def turnsM (ws : List Int) : List Int := (turnsTo ws ws.sum.toNat).2
theorem turns_succ (ws : List Int) (n : Nat) : turnsTo ws (n + 1) = turnStep ws (turnsTo ws n) n := by
  unfold turnsTo
  rw [List.range_succ, List.foldl_append]
  rfl
theorem sum_set1 : ∀ {gs : List Int} {p : Nat}, p < gs.length → (gs.set p (gs.getD p 0 + 1)).sum = gs.sum + 1
  | a :: r, 0, _ => by
    simp
    omega
  | a :: r, p + 1, h => by
    have ih := sum_set1 (gs := r) (p := p) (by simpa using h)
    simp at ih ⊢
    omega
structure TOk (ws : List Int) (n : Nat) (acc : List Int × List Int) : Prop where
  len : acc.1.length = ws.length
  sum : acc.1.sum = n
  nn : ∀ g ∈ acc.1, 0 ≤ g ∧ g ≤ n
  wl : acc.2.length = n
  pl : ∀ p ∈ acc.2, 0 ≤ p ∧ p < ws.length
theorem mem_set1 {gs : List Int} {p : Nat} {v g : Int} (h : g ∈ gs.set p v) : g ∈ gs ∨ g = v := List.mem_or_eq_of_mem_set h
theorem sum_zero : ∀ ws : List Int, (ws.map fun _ => (0 : Int)).sum = 0
  | [] => rfl
  | _ :: r => by rw [List.map_cons, List.sum_cons, sum_zero r]; rfl
theorem turns_ok {ws : List Int} (hw : WOk ws) : ∀ n : Nat, (n : Int) ≤ ws.sum → TOk ws n (turnsTo ws n) ∧ ∀ m, n = m + 1 → ∃ p, (npM ws (turnsTo ws m).1 ws.sum m).1 = some p ∧ p < ws.length ∧ turnsTo ws n = ((turnsTo ws m).1.set p ((turnsTo ws m).1.getD p 0 + 1), (turnsTo ws m).2 ++ [(p : Int)])
  | 0, _ => by
    refine ⟨⟨by simp [turnsTo], ?_, fun g m => ?_, rfl, fun _ m => nomatch m⟩, fun m e => by cases e⟩
    · exact sum_zero ws
    · have : g = 0 := by
        simp [turnsTo] at m
        exact m.2.symm
      omega
  | n + 1, hn => by
    obtain ⟨ih, _⟩ := turns_ok hw n (by omega)
    have ht := np_there hw ih.len ih.sum (by omega)
    obtain ⟨p, hp⟩ := Option.ne_none_iff_exists'.mp ht
    have hpl : p < ws.length := np_lt ws _ _ _ ws.length _ _ (fun k m => List.mem_range.mp m) (fun _ e => by cases e) p hp
    have e : turnsTo ws (n + 1) = ((turnsTo ws n).1.set p ((turnsTo ws n).1.getD p 0 + 1), (turnsTo ws n).2 ++ [(p : Int)]) := by
      rw [turns_succ]
      unfold turnStep
      rw [hp]
    refine ⟨?_, fun m em => by cases em; exact ⟨p, hp, hpl, e⟩⟩
    rw [e]
    refine ⟨by rw [List.length_set, ih.len], ?_, fun g m => ?_, by rw [List.length_append, ih.wl]; rfl, fun q m => ?_⟩
    · show ((turnsTo ws n).1.set p _).sum = _
      rw [sum_set1 (by rw [ih.len]; exact hpl), ih.sum]
      omega
    · rcases mem_set1 m with m | m
      · have := ih.nn g m
        omega
      · have := ih.nn _ (getD_mem (ws := (turnsTo ws n).1) (k := p) (by rw [ih.len]; exact hpl))
        omega
    · rcases List.mem_append.mp m with m | m
      · exact ih.pl q m
      · have := List.mem_singleton.mp m
        omega
theorem at_ints {ns : List Int} {k : Int} (h0 : 0 ≤ k) (h : k < ns.length) : L2.atI (ns.map D.int) k = some (.int (ns.getD k.toNat 0)) := by
  obtain ⟨n, rfl⟩ := Int.eq_ofNat_of_zero_le h0
  have hn : n < ns.length := by omega
  refine atI_nat ?_
  rw [List.getElem?_map, List.getElem?_eq_getElem hn]
  simp [List.getD, hn]
theorem at_intsN {ns : List Int} {k : Nat} (h : k < ns.length) : L2.atI (ns.map D.int) (k : Int) = some (.int (ns.getD k 0)) := by
  have q := at_ints (ns := ns) (k := (k : Int)) (by omega) (by omega)
  rw [Int.toNat_natCast] at q
  exact q

def sp_total_of (K : PySem.W.Frag) : Sp := SpM K (fun x : List Int => [.vw (x.map .int)]) WOk (fun x => .fz (.int x.sum))
abbrev N_total_of : List Str := ["weights", "weight", "total"]
theorem sc_total_of : FnScope N_total_of ["weights"] (defScope s_total_of) := ⟨rfl, rfl, rfl, by decide +kernel, rfl, by decide +kernel, by decide +kernel⟩
theorem ok_total_of {f : Addr} {fd : FuncData} (F : Fun K "total_of" "total_of" s_total_of f fd) (z_isinstance : mg "isinstance" = none) (z_len : mg "len" = none) (z_list : mg "list" = none) (z_sum : mg "sum" = none) (g_MOST_PLACES : mg "MOST_PLACES" = some (.int 8 tk1)) (g_MOST_TURNS : mg "MOST_TURNS" = some (.int 100 tk2)) (c_is_whole : Fn1 P w K mg base "is_whole" 1 ["thing"] (sp_is_whole K)) : FnOk P w K mg base CX0 2 f fd ["weights"] (sp_total_of K) := by
  refine fn_m F sc_total_of (fun x => rfl) (fun x _ => rfl) fun cdv A outer s H E hr ws hw => ?_
  have nd := sc_total_of.nd
  have l1 := hw.l1
  have l8 := hw.l8
  have s1 := hw.s100
  refine ms_cons (m_if (mt_not (mt_val (me_isi (k := true) (by rfl) z_isinstance (pe_bltn (v := .ty "list") (by rfl) z_list (by decide +kernel) rfl) (mv_var (pv 0) rfl) rfl (by decide +kernel)))) (fun h => ?_) fun h => ms_nil ?_)
  · exact (Bool.false_ne_true h).elim
  refine ms_cons (m_if (MW.t (mw_or (mt_lt (me_len (by rfl) z_len (ml_var (pv 0) rfl)) me_int) fun _ => (mw_or1 (mt_gt (me_len (by rfl) z_len (ml_var (pv 0) rfl)) (me_gI g_MOST_PLACES))))) (fun h => ?_) fun h => ms_nil ?_)
  · rw [List.length_map, Bool.or_eq_true, decide_eq_true_iff, decide_eq_true_iff] at h
    omega
  -- for weight in weights
  refine ms_cons (m_forT (xs := ws) (enc := D.int) (ps_for PassesOwn.never rfl (pi_list pe_w) (pg_name (i := 1) nd rfl (Or.inl rfl)) pss_w) (by exact (mi_list (mk_var (pv 0) rfl))) (fun j => [some (.vw (ws.map .int)), none, none]) le_auto (fun j x hx => ?_) fun τ l => ms_le l ?_)
  · refine ⟨_, _, mg_name, ?_⟩
    have h1 := hw.w1 x (List.mem_of_getElem? hx)
    refine ms_one (m_if (MW.t (mw_or (mt_not (mt_val (me_fn c_is_whole x (ma_fz (me_var (pv 1) rfl) ma_nil) trivial (hr.mono (by decide))))) fun _ => (mw_or1 (mt_lt (me_var (pv 1) rfl) me_int)))) (fun h => ?_) fun h => ms_nil le_auto)
    rw [Bool.or_eq_true, decide_eq_true_iff] at h
    rcases h with h | h
    · exact (Bool.false_ne_true h).elim
    · omega
  refine ms_cons (m_set (ps_set (i := 2) nd rfl (Or.inl rfl) pe_w) (me_sum rfl (by rfl) z_sum (ml_var (pv 0) rfl)) ?_)
  refine ms_cons (m_if (mt_gt (me_var (pv 2) rfl) (me_gI g_MOST_TURNS)) (fun h => ?_) fun h => ms_nil ?_)
  · have h := of_decide_eq_true h
    omega
  refine ms_one (m_ret (ps_ret pe_w) (mr_var (pv 2) rfl) ?_)
  rfl

def sp_due_by (K : PySem.W.Frag) : Sp := SpM K (fun x : Int × Int × Int => [.fz (.int x.1), .fz (.int x.2.1), .fz (.int x.2.2)]) (fun x => 0 ≤ x.1 ∧ x.1 ≤ 1000 ∧ 0 < x.2.1 ∧ x.2.1 ≤ 1000) (fun x => .fz (.int (-(-(x.1 + 1) * x.2.2 / x.2.1))))
abbrev N_due_by : List Str := ["given", "weight", "total"]
theorem sc_due_by : FnScope N_due_by ["given", "weight", "total"] (defScope s_due_by) := ⟨rfl, rfl, rfl, by decide +kernel, rfl, by decide +kernel, by decide +kernel⟩
theorem ok_due_by {f : Addr} {fd : FuncData} (F : Fun K "due_by" "due_by" s_due_by f fd)   : FnOk P w K mg base CX0 1 f fd ["given", "weight", "total"] (sp_due_by K) := by
  refine fn_m F sc_due_by (fun x => rfl) (fun x _ => rfl) fun cdv A outer s H E hr x hx => ?_
  obtain ⟨given, weight, total⟩ := x
  obtain ⟨h0, h1, h2, h3⟩ := hx
  have h0 : 0 ≤ given := h0
  have h1 : given ≤ 1000 := h1
  have h2 : 0 < weight := h2
  have h3 : weight ≤ 1000 := h3
  have nd := sc_due_by.nd
  have c1 : CMul (-(given + 1)) total := .inl ⟨by omega, by omega⟩
  have c2 : CDiv (-(given + 1) * total) weight := ⟨h2, by omega⟩
  refine ms_one (m_ret (ps_ret pe_w) (ME.r (me_neg (me_fdiv (me_mul (me_neg (me_add (me_var (pv 0) rfl) me_int)) (me_var (pv 2) rfl) c1) (me_var (pv 1) rfl) c2))) ?_)
  rfl

def encON : Option Nat → D
  | none => .non
  | some p => .int p
def sp_next_place (K : PySem.W.Frag) : Sp := SpM K (fun x : List Int × List Int × Int × Int => [.vw (x.1.map .int), .vw (x.2.1.map .int), .fz (.int x.2.2.1), .fz (.int x.2.2.2)])
  (fun x => WOk x.1 ∧ x.2.1.length = x.1.length ∧ (∀ g ∈ x.2.1, 0 ≤ g ∧ g ≤ 100) ∧ 0 ≤ x.2.2.2 ∧ x.2.2.2 ≤ 100) (fun x => .fz (encON (npM x.1 x.2.1 x.2.2.1 x.2.2.2).1))
abbrev N_next_place : List Str := ["weights", "given", "total", "n", "best", "soonest", "place", "due"]
theorem sc_next_place : FnScope N_next_place ["weights", "given", "total", "n"] (defScope s_next_place) := ⟨rfl, rfl, rfl, by decide +kernel, rfl, by decide +kernel, by decide +kernel⟩
theorem ok_next_place {f : Addr} {fd : FuncData} (F : Fun K "next_place" "next_place" s_next_place f fd) (z_len : mg "len" = none) (z_range : mg "range" = none) (c_due_by : Fn1 P w K mg base "due_by" 1 ["given", "weight", "total"] (sp_due_by K)) : FnOk P w K mg base CX0 2 f fd ["weights", "given", "total", "n"] (sp_next_place K) := by
  refine fn_m F sc_next_place (fun x => rfl) (fun x _ => rfl) fun cdv A outer s H E hr x hx => ?_
  obtain ⟨ws, gs, T, n⟩ := x
  obtain ⟨hw, hl, hg, hn⟩ := hx
  have hw : WOk ws := hw
  have hl : gs.length = ws.length := hl
  have hg : ∀ g ∈ gs, 0 ≤ g ∧ g ≤ 100 := hg
  have hn : 0 ≤ n ∧ n ≤ 100 := hn
  have l8 := hw.l8
  have nd := sc_next_place.nd
  refine ms_cons (m_set (ps_set (i := 4) nd rfl (Or.inl rfl) pe_w) me_non ?_)
  refine ms_cons (m_set (ps_set (i := 5) nd rfl (Or.inl rfl) pe_w) me_int ?_)
  -- for place in range(len(weights))
  refine ms_cons (m_forN (lo := 0) (n := (ws.map D.int).length) (ps_for PassesOwn.never rfl (pi_range1 (by rfl) z_range pa_w) (pg_name (i := 6) nd rfl (Or.inl rfl)) pss_w) (by exact (mi_rangeN (mf_cons (me_len (by rfl) z_len (ml_var (pv 0) rfl)) mf_nil) (by rw [List.length_map]; omega)))
    (fun j => [some (.vw (ws.map .int)), some (.vw (gs.map .int)), some (.fz (.int T)), some (.fz (.int n)), some (.fz (encON ((List.range j).foldl (npStep ws gs T n) (none, 0)).1)), some (.fz (.int ((List.range j).foldl (npStep ws gs T n) (none, 0)).2)), none, none]) le_auto (fun j hj => ?_) fun τ l => ms_le l ?_)
  · rw [List.length_map] at hj
    have es : (List.range (j + 1)).foldl (npStep ws gs T n) (none, 0) = npStep ws gs T n ((List.range j).foldl (npStep ws gs T n) (none, 0)) j := by
      rw [List.range_succ, List.foldl_append]
      rfl
    show ∃ τ' ws', MTg _ _ [some (.vw (ws.map .int)), some (.vw (gs.map .int)), some (.fz (.int T)), some (.fz (.int n)), some (.fz (encON ((List.range j).foldl (npStep ws gs T n) (none, 0)).1)), some (.fz (.int ((List.range j).foldl (npStep ws gs T n) (none, 0)).2)), none, none] _ _ _ ∧ _
    generalize (List.range j).foldl (npStep ws gs T n) (none, 0) = acc at es ⊢
    rw [Int.zero_add]
    have a1 := at_intsN (ns := gs) (k := j) (by omega)
    have a2 := at_intsN (ns := ws) (k := j) hj
    have g1 := hg _ (getD_mem (ws := gs) (k := j) (by omega))
    have w1 := hw.w1 _ (getD_mem (ws := ws) (k := j) hj)
    have w2 := (sum_ge hw.w1).2 _ (getD_mem (ws := ws) (k := j) hj)
    have s1 := hw.s100
    have es2 : npStep ws gs T n acc j = npStep ws gs T n acc j := rfl
    conv at es2 => rhs; unfold npStep
    generalize gs.getD j 0 = g at *
    generalize ws.getD j 0 = wj at *
    have c1 : CMul g T := .inl ⟨by omega, by omega⟩
    have c2 : CMul wj (n + 1) := .inl ⟨by omega, by omega⟩
    refine ⟨_, _, mg_name, ?_⟩
    refine ms_one (m_if (mt_lt (me_mul (me_ixL (ml_var (pv 1) rfl) (me_var (pv 6) rfl) a1) (me_var (pv 2) rfl) c1) (me_mul (me_ixL (ml_var (pv 0) rfl) (me_var (pv 6) rfl) a2) (me_add (me_var (pv 3) rfl) me_int) c2)) (fun h => ?_) fun h => ?_)
    · -- if given[place] * total < weights[place] * (n + 1)
      rw [if_pos (of_decide_eq_true h)] at es2
      have pd : 0 ≤ g ∧ g ≤ 1000 ∧ 0 < wj ∧ wj ≤ 1000 := by omega
      refine ms_cons (m_set (ps_set (i := 7) nd rfl (Or.inl rfl) pe_w) (me_fn c_due_by (_, _, _) (ma_fz (me_ixL (ml_var (pv 1) rfl) (me_var (pv 6) rfl) a1) (ma_fz (me_ixL (ml_var (pv 0) rfl) (me_var (pv 6) rfl) a2) (ma_fz (me_var (pv 2) rfl) ma_nil))) pd (hr.mono (by decide))) ?_)
      have eN : (O.fz (encON acc.1)).isNon = decide (acc.1 = none) := by
        cases acc.1 with
        | none => rfl
        | some p => rfl
      refine ms_one (m_if (MW.t (mw_or (mt_isN (mv_var (pv 4) rfl)) fun _ => (mw_or1 (mt_lt (me_var (pv 7) rfl) (me_var (pv 5) rfl))))) (fun h => ?_) fun h => ?_)
      · -- if best is None or due < soonest
        rw [eN, Bool.or_eq_true, decide_eq_true_iff, decide_eq_true_iff] at h
        rw [if_pos h] at es2
        refine ms_cons (m_set (ps_set (i := 4) nd rfl (Or.inl rfl) pe_w) (me_var (pv 6) rfl) ?_)
        refine ms_one (m_set (ps_set (i := 5) nd rfl (Or.inl rfl) pe_w) (me_var (pv 7) rfl) ?_)
        rw [es, es2]
        exact le_auto
      · -- else
        rw [eN, Bool.or_eq_false_iff, decide_eq_false_iff_not, decide_eq_false_iff_not] at h
        rw [if_neg (fun q => q.elim h.1 h.2)] at es2
        refine ms_nil ?_
        rw [es, es2]
        exact le_auto
    · -- else
      rw [if_neg (of_decide_eq_false h)] at es2
      refine ms_nil ?_
      rw [es, es2]
      exact le_auto
  refine ms_one (m_ret (ps_ret pe_w) (mr_var (pv 4) rfl) ?_)
  show O.fz (encON _) = O.fz (encON (npM ws gs T n).1)
  rw [List.length_map]
  rfl

def sp_turns (K : PySem.W.Frag) : Sp := SpM K (fun x : List Int => [.vw (x.map .int)]) WOk (fun x => .lst (((turnsM x).map .int).map .fz))
abbrev N_turns : List Str := ["weights", "total", "given", "wheel", "n", "place", "weight"]
theorem sc_turns : FnScope N_turns ["weights"] (defScope s_turns) := ⟨rfl, rfl, rfl, by decide +kernel, rfl, by decide +kernel, by decide +kernel⟩
theorem ok_turns {f : Addr} {fd : FuncData} (F : Fun K "turns" "turns" s_turns f fd) (z_range : mg "range" = none) (c_total_of : Fn1 P w K mg base "total_of" 2 ["weights"] (sp_total_of K)) (c_next_place : Fn1 P w K mg base "next_place" 2 ["weights", "given", "total", "n"] (sp_next_place K)) : FnOk P w K mg base CX0 3 f fd ["weights"] (sp_turns K) := by
  refine fn_m F sc_turns (fun x => rfl) (fun x _ => O.nvL_fz _) fun cdv A outer s H E hr ws hw => ?_
  have nd := sc_turns.nd
  have s1 := hw.s100
  have l8 := hw.l8
  have sg := (sum_ge hw.w1).1
  refine ms_cons (m_set (ps_set (i := 1) nd rfl (Or.inl rfl) pe_w) (me_fn c_total_of ws (ma_vw (ml_var (pv 0) rfl) ma_nil) hw (hr.mono (by decide))) ?_)
  -- given = [0 for weight in weights]
  refine ms_cons (m_setLc (i := 2) (xs := ws) (enc := D.int) (fun te he => ps_setLc (i := 2) (own := [("weight", 6)]) rfl nd rfl rfl (sw_true rfl rfl rfl (by decide +kernel)) (pi_list pe_w) (blkOk_by (N := N_turns) (sc := defScope s_turns) (by decide +kernel)) (fun _ _ _ _ _ => (pg_name (i := 6) nd rfl (Or.inl rfl))) (fun _ _ _ _ _ => pts_nil) he) (mic_list (ml_var (pv 0) rfl)) (fun _ => D.int 0) (small1000 (by omega)) (fun d md => ⟨_, _, mg_name, by decide, fun s H C cl fp => me_int⟩) ?_)
  rw [show (ws.map fun _ => D.int 0) = (ws.map (fun _ => (0 : Int))).map D.int from by rw [List.map_map]; rfl]
  refine ms_cons (m_set (ps_set (i := 3) nd rfl (Or.inl rfl) pe_w) (me_lst mf_nil) ?_)
  -- for n in range(total)
  refine ms_cons (m_forN (lo := 0) (n := ws.sum.toNat) (ps_for PassesOwn.never rfl (pi_range1 (by rfl) z_range pa_w) (pg_name (i := 4) nd rfl (Or.inl rfl)) pss_w) (by exact (mi_range1 (mf_cons (me_var (pv 1) rfl) mf_nil) (by omega) (by omega)))
    (fun j => [some (.vw (ws.map .int)), some (.fz (.int ws.sum)), some (.lst (((turnsTo ws j).1.map .int).map .fz)), some (.lst (((turnsTo ws j).2.map .int).map .fz)), none, none, none]) le_auto (fun j hj => ?_) fun τ l => ms_le l ?_)
  · have hj : j < ws.sum.toNat := hj
    obtain ⟨ok, _⟩ := turns_ok hw j (by omega)
    obtain ⟨_, nx⟩ := turns_ok hw (j + 1) (by omega)
    obtain ⟨p, hp, hpl, es⟩ := nx j rfl
    rw [es]
    generalize turnsTo ws j = acc at ok hp ⊢
    rw [Int.zero_add]
    refine ⟨_, _, mg_name, ?_⟩
    have pn : WOk ws ∧ acc.1.length = ws.length ∧ (∀ g ∈ acc.1, 0 ≤ g ∧ g ≤ 100) ∧ 0 ≤ (j : Int) ∧ (j : Int) ≤ 100 := ⟨hw, ok.len, fun g m => ⟨(ok.nn g m).1, by have := (ok.nn g m).2; omega⟩, by omega, by omega⟩
    refine ms_cons (m_set (ps_set (i := 5) nd rfl (Or.inl rfl) pe_w) (me_fn c_next_place (_, _, _, _) (ma_vw (ml_var (pv 0) rfl) (ma_vw (ml_var (pv 2) rfl) (ma_fz (me_var (pv 1) rfl) (ma_fz (me_var (pv 4) rfl) ma_nil)))) pn (hr.mono (by decide))) ?_)
    show MS _ [some (.vw (ws.map .int)), some (.fz (.int ws.sum)), some (.lst ((acc.1.map D.int).map .fz)), some (.lst ((acc.2.map D.int).map .fz)), some (.fz (.int (j : Int))), some (.fz (encON (npM ws acc.1 ws.sum (j : Int)).1)), none] _ _
    rw [hp, show encON (some p) = .int (p : Int) from rfl]
    have ap := at_intsN (ns := acc.1) (k := p) (by rw [ok.len]; exact hpl)
    have ix : ixN (acc.1.map D.int).length (p : Int) = some p := by
      unfold ixN
      rw [List.length_map, ok.len, if_pos (by omega), if_pos (by omega), Int.toNat_natCast]
    refine ms_cons (m_setItem (i := 2) (pv _) rfl (me_var (pv 5) rfl) (me_add (me_ixL (ml_var (pv 2) rfl) (me_var (pv 5) rfl) ap) me_int) ix ?_)
    rw [show (acc.1.map D.int).set p (.int (acc.1.getD p 0 + 1)) = (acc.1.set p (acc.1.getD p 0 + 1)).map D.int from List.map_set.symm]
    refine ms_one (m_append (i := 3) (pv _) rfl (me_var (pv 5) rfl) ?_ ?_)
    · rw [List.length_map, List.length_map, ok.wl]
      exact small1000 (by omega)
    · rw [List.map_append, List.map_append]
      exact le_auto
  refine ms_one (m_ret (ps_ret pe_w) (mr_var (pv 3) rfl) ?_)
  rfl

def dealD (C : Addr) (ws : List Int) : D := .ins C ["wheel", "weights"] [.lst ((turnsM ws).map .int), .lst (ws.map .int)]
theorem frz_deal (C : Addr) (ws : List Int) : (O.ins C ["wheel", "weights"] [.lst (((turnsM ws).map .int).map .fz), .lst ((ws.map .int).map .fz)]).frz = dealD C ws := by
  show D.ins C _ [D.lst (O.frzL _), D.lst (O.frzL _)] = _
  rw [O.frzL_fz, O.frzL_fz]
  rfl
theorem nv_deal (C : Addr) (ws : List Int) : (O.ins C ["wheel", "weights"] [.lst (((turnsM ws).map .int).map .fz), .lst ((ws.map .int).map .fz)]).nv = true := by
  show (O.nvL _ && (O.nvL _ && true)) = true
  rw [O.nvL_fz, O.nvL_fz]
  rfl
theorem turnsM_len {ws : List Int} (hw : WOk ws) : ((turnsM ws).length : Int) = ws.sum := by
  have sg := (sum_ge hw.w1).1
  obtain ⟨okT, _⟩ := turns_ok hw ws.sum.toNat (by omega)
  show (((turnsTo ws ws.sum.toNat).2.length : Nat) : Int) = _
  rw [okT.wl]
  omega
def sp_Deal___init__ (K : PySem.W.Frag) (C : Addr) : Sp := SpI K C ["wheel", "weights"] (fun x : List Int => [.vw (x.map .int)]) WOk (fun x => [.lst (((turnsM x).map .int).map .fz), .lst ((x.map .int).map .fz)])
abbrev N_Deal___init__ : List Str := ["self", "weights"]
theorem sc_Deal___init__ : FnScope N_Deal___init__ ["self", "weights"] (defScope s_Deal___init__) := ⟨rfl, rfl, rfl, by decide +kernel, rfl, by decide +kernel, by decide +kernel⟩
theorem ok_Deal___init__ {f : Addr} {fd : FuncData} (F : Fun K "__init__" "Deal.__init__" s_Deal___init__ f fd) (z_list : mg "list" = none) (o_Deal : OC K C_Deal ["wheel", "weights"]) (c_turns : Fn1 P w K mg base "turns" 3 ["weights"] (sp_turns K)) : FnOk P w K mg base CX0 4 f fd ["self", "weights"] (sp_Deal___init__ K C_Deal) := by
  refine fn_mI F sc_Deal___init__ (fun x => rfl) (fun x _ => ?_) fun cdv A outer s H E hr l ws hw => ?_
  · show (O.nvL _ && (O.nvL _ && true)) = true
    rw [O.nvL_fz, O.nvL_fz]
    rfl
  have e2 : nsPut ["wheel"] "weights" = (["wheel", "weights"] : List Str) := by decide +kernel
  have e3 : ∀ a b : O, xsPut ["wheel"] "weights" [a] b = [a, b] := fun a b => by
    unfold xsPut
    rw [if_neg (by decide +kernel)]
    rfl
  refine ms_cons (m_setFld (i := 0) (pv _) rfl (cc := o_Deal) (he := me_fn c_turns ws (ma_vw (ml_var (pv 1) rfl) ma_nil) hw (hr.mono (by decide))) (kk := ?_))
  show MS _ [some (.at l C_Deal ["wheel"] [.lst (((turnsM ws).map .int).map .fz)]), some (.vw (ws.map .int))] _ _
  refine ms_one (m_setFld (i := 0) (pv _) rfl (cc := o_Deal) (he := me_list (by rfl) z_list (ml_var (pv 1) rfl)) (kk := ?_))
  rw [e2, e3]
  rfl
/-- the turns are those of their beginnings -/
theorem turns_at {ws : List Int} (hw : WOk ws) {m : Nat} : ∀ {n : Nat}, (n : Int) ≤ ws.sum → m < n → ∃ p, p < ws.length ∧ (turnsTo ws n).2[m]? = some (p : Int) ∧ (npM ws (turnsTo ws m).1 ws.sum m).1 = some p ∧ (turnsTo ws (m + 1)).1 = (turnsTo ws m).1.set p ((turnsTo ws m).1.getD p 0 + 1)
  | n + 1, hn, hm => by
    obtain ⟨ok, _⟩ := turns_ok hw n (by omega)
    obtain ⟨_, nx⟩ := turns_ok hw (n + 1) (by omega)
    obtain ⟨p, hp, hpl, es⟩ := nx n rfl
    by_cases e : m = n
    · subst e
      refine ⟨p, hpl, ?_, hp, by rw [es]⟩
      rw [es]
      show ((turnsTo ws m).2 ++ [(p : Int)])[m]? = _
      rw [List.getElem?_append_right (by rw [ok.wl]; exact Nat.le_refl _), ok.wl, Nat.sub_self]
      rfl
    · obtain ⟨q, h1, h2, h3⟩ := turns_at hw (m := m) (n := n) (by omega) (by omega)
      refine ⟨q, h1, ?_, h3⟩
      rw [es]
      show ((turnsTo ws n).2 ++ [(p : Int)])[m]? = _
      rw [List.getElem?_append_left (by rw [ok.wl]; omega)]
      exact h2

def countsTo (ws : List Int) (r : Int) (j : Nat) : List Int := List.zipWith (fun w g => r * w + g) ws (turnsTo ws j).1
def countsM (ws : List Int) (n : Int) : List Int := countsTo ws (n / ws.sum) (n % ws.sum).toNat
theorem zipW_getD {r : Int} {ws gs : List Int} {k : Nat} (h : k < ws.length) (h2 : k < gs.length) : (List.zipWith (fun w g => r * w + g) ws gs).getD k 0 = r * ws.getD k 0 + gs.getD k 0 := by
  simp [List.getD, h, h2, List.getElem?_zipWith]
theorem counts_zero (ws : List Int) (r : Int) : countsTo ws r 0 = ws.map fun w => r * w := by
  unfold countsTo
  show List.zipWith _ ws (ws.map fun _ => 0) = _
  refine List.ext_getElem (by simp) fun k h1 h2 => ?_
  simp
theorem counts_len {ws : List Int} (hw : WOk ws) {r : Int} {j : Nat} (hj : (j : Int) ≤ ws.sum) : (countsTo ws r j).length = ws.length := by
  obtain ⟨ok, _⟩ := turns_ok hw j hj
  unfold countsTo
  rw [List.length_zipWith, ok.len, Nat.min_self]
theorem counts_succ {ws : List Int} (hw : WOk ws) {r : Int} {j p : Nat} (hj : (j : Int) < ws.sum) (hp : p < ws.length) (e : (turnsTo ws (j + 1)).1 = (turnsTo ws j).1.set p ((turnsTo ws j).1.getD p 0 + 1)) : countsTo ws r (j + 1) = (countsTo ws r j).set p ((countsTo ws r j).getD p 0 + 1) := by
  obtain ⟨ok, _⟩ := turns_ok hw j (by omega)
  have hpl : p < (turnsTo ws j).1.length := by rw [ok.len]; exact hp
  have e2 : (countsTo ws r j).getD p 0 = r * ws.getD p 0 + (turnsTo ws j).1.getD p 0 := zipW_getD hp hpl
  rw [e2]
  unfold countsTo
  rw [e]
  generalize (turnsTo ws j).1 = gs at hpl
  refine List.ext_getElem (by simp) fun k h1 h2 => ?_
  rw [List.getElem_set, List.getElem_zipWith, List.getElem_set]
  by_cases h : p = k
  · subst h
    rw [if_pos rfl, if_pos rfl]
    have q : ws.getD p 0 = ws[p] := by simp [List.getD, hp]
    rw [q]
    omega
  · rw [if_neg h, if_neg h, List.getElem_zipWith]
theorem cut_to {α : Type} (xs : List α) (k : Int) (h : 0 ≤ k) : cutG xs none (some k) = xs.take k.toNat := by
  unfold cutG
  show (xs.drop 0).take (HT.sIx xs.length xs.length (some k) - 0) = _
  rw [List.drop_zero, Nat.sub_zero]
  unfold HT.sIx
  simp only []
  rw [if_neg (by omega), List.take_eq_take_iff]
  omega
def sp_Deal_counts_to (K : PySem.W.Frag) (C : Addr) : Sp := SpM K (fun x : List Int × Int => [.fz (dealD C x.1), .fz (.int x.2)]) (fun x => WOk x.1 ∧ 0 ≤ x.2) (fun x => .lst (((countsM x.1 x.2).map .int).map .fz))
abbrev N_Deal_counts_to : List Str := ["self", "n", "rounds", "left", "counts", "place", "weight"]
theorem sc_Deal_counts_to : FnScope N_Deal_counts_to ["self", "n"] (defScope s_Deal_counts_to) := ⟨rfl, rfl, rfl, by decide +kernel, rfl, by decide +kernel, by decide +kernel⟩
theorem ok_Deal_counts_to {f : Addr} {fd : FuncData} (F : Fun K "counts_to" "Deal.counts_to" s_Deal_counts_to f fd) (z_divmod : mg "divmod" = none) (z_len : mg "len" = none) (o_Deal : OC K C_Deal ["wheel", "weights"]) : FnOk P w K mg base CX0 2 f fd ["self", "n"] (sp_Deal_counts_to K C_Deal) := by
  refine fn_m F sc_Deal_counts_to (fun x => rfl) (fun x _ => O.nvL_fz _) fun cdv A outer s H E hr x hx => ?_
  obtain ⟨ws, n⟩ := x
  obtain ⟨hw, hn⟩ := hx
  have hw : WOk ws := hw
  have hn : 0 ≤ n := hn
  have nd := sc_Deal_counts_to.nd
  have tl := turnsM_len hw
  have s1 := hw.s100
  have l8 := hw.l8
  have l1 := hw.l1
  have sg := (sum_ge hw.w1).1
  have m1 := Int.emod_nonneg n (show ws.sum ≠ 0 by omega)
  have m2 := Int.emod_lt_of_pos n (show 0 < ws.sum by omega)
  have el : ((((turnsM ws).map D.int).length : Nat) : Int) = ws.sum := by rw [List.length_map, tl]
  have c1 : CDiv n ((((turnsM ws).map D.int).length : Nat) : Int) := ⟨by omega, by omega⟩
  refine ms_cons (m_tgt (ps_asg pe_w (pg_tup (n := 2) rfl (pgs_cons (pg_name (i := 2) nd rfl (Or.inr rfl)) (pgs_cons (pg_name (i := 3) nd rfl (Or.inl rfl)) pgs_nil)))) (me_divmod (by rfl) z_divmod (me_var (pv 1) rfl) (me_len (by rfl) z_len (MV.l (ME.v (me_fld (j := 0) (mv_var (pv 0) rfl) o_Deal)) (.fz _))) c1) (mg_tup (mgs_cons mg_name (mgs_cons mg_name mgs_nil)) rfl) ?_)
  rw [el]
  have hwl : ∀ w ∈ ws, -(2 ^ 64) < w ∧ w < 2 ^ 64 := fun w m => by
    have := hw.w1 w m
    have := (sum_ge hw.w1).2 w m
    omega
  refine ms_cons (m_setLc (i := 4) (xs := ws) (enc := D.int) (fun te he => ps_setLc (i := 4) (own := [("weight", 6)]) rfl nd rfl rfl (sw_true rfl rfl rfl (by decide +kernel)) (pi_list pe_w) (blkOk_by (N := N_Deal_counts_to) (sc := defScope s_Deal_counts_to) (by decide +kernel)) (fun _ _ _ _ _ => (pg_name (i := 6) nd rfl (Or.inl rfl))) (fun _ _ _ _ _ => pts_nil) he) (mic_list (MV.l (ME.v (me_fld (j := 1) (mv_var (pv 0) rfl) o_Deal)) (.fz _))) (fun w => D.int (n / ws.sum * w)) (small1000 (by omega)) (fun d md => ⟨_, _, mg_name, by decide, fun s H C cl fp => me_mul (me_var (pv 2) rfl) (me_var (pv 6) rfl) (.inr (hwl d md))⟩) ?_)
  have e0 : (ws.map fun w => D.int (n / ws.sum * w)) = (countsTo ws (n / ws.sum) 0).map D.int := by
    rw [counts_zero, List.map_map]
    rfl
  rw [e0]
  have ec : cutG ((turnsM ws).map D.int) none (some (n % ws.sum)) = ((turnsM ws).take (n % ws.sum).toNat).map D.int := by
    rw [cut_to _ _ m1, List.map_take]
  -- for place in self.wheel[:left]
  refine ms_cons (m_forT (xs := (turnsM ws).take (n % ws.sum).toNat) (enc := D.int) (ps_for PassesOwn.never rfl (pi_list pe_w) (pg_name (i := 5) nd rfl (Or.inl rfl)) pss_w) (by exact (ec ▸ (mi_list (ME.k (ME.frzl (me_slL (MV.l (ME.v (me_fld (j := 0) (mv_var (pv 0) rfl) o_Deal)) (.fz _)) .none (.some (me_var (pv 3) rfl))))))))
    (fun j => [some (.fz (dealD C_Deal ws)), some (.fz (.int n)), some (.fz (.int (n / ws.sum))), some (.fz (.int (n % ws.sum))), some (.lst (((countsTo ws (n / ws.sum) j).map .int).map .fz)), none, none]) le_auto (fun j x hx => ?_) fun τ l => ms_le l ?_)
  · have hj : j < (n % ws.sum).toNat := by
      have := (List.getElem?_eq_some_iff.mp hx).1
      rw [List.length_take] at this
      omega
    rw [List.getElem?_take, if_pos hj] at hx
    obtain ⟨p, hp, ap, _, es⟩ := turns_at hw (m := j) (n := ws.sum.toNat) (by omega) (by omega)
    have hx : (turnsTo ws ws.sum.toNat).2[j]? = some x := hx
    rw [ap] at hx
    cases hx
    have hjs : (j : Int) < ws.sum := by omega
    rw [counts_succ hw hjs hp es]
    have cl := counts_len hw (r := n / ws.sum) (j := j) (by omega)
    show ∃ τ' ws', MTg _ _ [some (.fz (dealD C_Deal ws)), some (.fz (.int n)), some (.fz (.int (n / ws.sum))), some (.fz (.int (n % ws.sum))), some (.lst (((countsTo ws (n / ws.sum) j).map .int).map .fz)), none, none] _ _ _ ∧ _
    generalize countsTo ws (n / ws.sum) j = cs at cl ⊢
    have a1 := at_intsN (ns := cs) (k := p) (by omega)
    have ix : ixN (cs.map D.int).length (p : Int) = some p := by
      unfold ixN
      rw [List.length_map, cl, if_pos (by omega), if_pos (by omega), Int.toNat_natCast]
    refine ⟨_, _, mg_name, ?_⟩
    refine ms_one (m_setItem (i := 4) (pv _) rfl (me_var (pv 5) rfl) (me_add (me_ixL (ml_var (pv 4) rfl) (me_var (pv 5) rfl) a1) me_int) ix ?_)
    rw [show (cs.map D.int).set p (.int (cs.getD p 0 + 1)) = (cs.set p (cs.getD p 0 + 1)).map D.int from List.map_set.symm]
    exact le_auto
  refine ms_one (m_ret (ps_ret pe_w) (mr_var (pv 4) rfl) ?_)
  show O.lst _ = O.lst _
  have tk : ((turnsM ws).take (n % ws.sum).toNat).length = (n % ws.sum).toNat := by rw [List.length_take]; omega
  rw [tk]
  rfl
inductive Xc where
  | NoCover | NoShares
abbrev t_Xc (C_NoCover C_NoShares : Addr) : Xc → Er
  | .NoCover => ⟨C_NoCover, none⟩
  | .NoShares => ⟨C_NoShares, none⟩
abbrev r_Own (C_Own : Addr) (p : (Str × Int)) : D := .ins C_Own ["by", "cents"] [.str p.1, .int p.2]
inductive Cd where
  | plain (p : Unit)
  | cause (p : Str)
  | thing (p : Str)
  | over (p : Int)
mutual
def u_Cd (C_Condition C_CauseIs C_ThingIs C_Over : Addr) : Cd → D
  | .plain p => .ins C_Condition [] []
  | .cause p => .ins C_CauseIs ["name"] [.str p]
  | .thing p => .ins C_ThingIs ["name"] [.str p]
  | .over p => .ins C_Over ["cents"] [.int p]
def u_CdL (C_Condition C_CauseIs C_ThingIs C_Over : Addr) : List Cd → List D
  | [] => []
  | x :: r => u_Cd C_Condition C_CauseIs C_ThingIs C_Over x :: u_CdL C_Condition C_CauseIs C_ThingIs C_Over r
end
theorem u_CdL_map (C_Condition C_CauseIs C_ThingIs C_Over : Addr) : ∀ xs : List Cd, u_CdL C_Condition C_CauseIs C_ThingIs C_Over xs = xs.map (u_Cd C_Condition C_CauseIs C_ThingIs C_Over)
  | [] => rfl
  | x :: r => congrArg (u_Cd C_Condition C_CauseIs C_ThingIs C_Over x :: ·) (u_CdL_map C_Condition C_CauseIs C_ThingIs C_Over r)
abbrev r_CauseIs (C_CauseIs : Addr) (p : Str) : D := .ins C_CauseIs ["name"] [.str p]
theorem u_Cd_cause (C_Condition C_CauseIs C_ThingIs C_Over : Addr) (p : Str) : u_Cd C_Condition C_CauseIs C_ThingIs C_Over (.cause p) = r_CauseIs C_CauseIs p := by
  show (.ins _ _ _ : D) = .ins _ _ _
  first | rfl | (simp only [u_CdL_map])
abbrev r_ThingIs (C_ThingIs : Addr) (p : Str) : D := .ins C_ThingIs ["name"] [.str p]
theorem u_Cd_thing (C_Condition C_CauseIs C_ThingIs C_Over : Addr) (p : Str) : u_Cd C_Condition C_CauseIs C_ThingIs C_Over (.thing p) = r_ThingIs C_ThingIs p := by
  show (.ins _ _ _ : D) = .ins _ _ _
  first | rfl | (simp only [u_CdL_map])
abbrev r_Over (C_Over : Addr) (p : Int) : D := .ins C_Over ["cents"] [.int p]
theorem u_Cd_over (C_Condition C_CauseIs C_ThingIs C_Over : Addr) (p : Int) : u_Cd C_Condition C_CauseIs C_ThingIs C_Over (.over p) = r_Over C_Over p := by
  show (.ins _ _ _ : D) = .ins _ _ _
  first | rfl | (simp only [u_CdL_map])
abbrev r_Cover (C_Cover : Addr) (C_Condition C_CauseIs C_ThingIs C_Over C_Own C_Deal : Addr) (p : (Str × Cd × (List (Str × Int)) × (List Str) × (List Int) × Bool)) : D := .ins C_Cover ["name", "condition", "clauses", "houses", "deal", "waits"] [.str p.1, (u_Cd C_Condition C_CauseIs C_ThingIs C_Over) p.2.1, .lst (p.2.2.1.map (r_Own C_Own)), .lst (p.2.2.2.1.map D.str), (dealD C_Deal) p.2.2.2.2.1, .bl p.2.2.2.2.2]
abbrev r_CoverP (C_CoverP : Addr) (C_Condition C_CauseIs C_ThingIs C_Over C_Own C_Deal : Addr) (p : (Str × Cd × (List (Str × Int)) × (List Str) × (List Int) × Bool)) : D := .ins C_CoverP ["name", "condition", "clauses", "houses", "deal", "waits"] [.str p.1, (u_Cd C_Condition C_CauseIs C_ThingIs C_Over) p.2.1, .lst (p.2.2.1.map (r_Own C_Own)), .lst (p.2.2.2.1.map D.str), (dealD C_Deal) p.2.2.2.2.1, .bl p.2.2.2.2.2]
noncomputable def M_is_amount (thing : Int) : Option Bool :=
  some (true && (decide (0 ≤ thing) && decide (thing ≤ 999999999999)))
def sp_is_amount (K : PySem.W.Frag) : Sp := SpF K (fun x : Int => [.fz (.int x)]) (fun x => M_is_amount x) (fun r => .fz (.bl r))
abbrev N_is_amount : List Str := ["thing"]
theorem sc_is_amount : FnScope N_is_amount ["thing"] (defScope s_is_amount) := ⟨rfl, rfl, rfl, by decide +kernel, rfl, by decide +kernel, by decide +kernel⟩
theorem ok_is_amount {f : Addr} {fd : FuncData} (F : Fun K "is_amount" "is_amount" s_is_amount f fd) (g_MOST_CENTS : mg "MOST_CENTS" = some (.int 999999999999 tkMOST_CENTS)) (c_is_whole : Fn1 P w K mg base "is_whole" 1 ["thing"] (sp_is_whole K)) : FnOk P w K mg base CX0 2 f fd ["thing"] (sp_is_amount K) := by
  refine fn_m F sc_is_amount (fun x => rfl) (fun x _ => rfl) fun cdv A outer s H E hr x hx => ?_
  obtain ⟨thing, r⟩ := x
  replace hx : M_is_amount thing = some r := hx
  have nd := sc_is_amount.nd
  unfold M_is_amount at hx
  show MS _ [some (.fz (.int thing))] _ _
  refine ms_one (m_ret (ps_ret pe_w) (ME.r (me_and (me_fn c_is_whole thing (ma_fz (me_var (pv 0) rfl) ma_nil) trivial (hr.mono (by decide))) fun _ => (me_one (me_chain (f := fun i j => decide (i ≤ j)) (f' := fun i j => decide (i ≤ j)) op_le op_le me_int (me_var (pv 0) rfl) (me_gI g_MOST_CENTS))))) ?_)
  cases hx; rfl

noncomputable def M_need_amount (thing : Int) : Option Int :=
  bd (M_is_amount thing) fun v1 =>
  cond (!v1) (none) <|
  some thing
def sp_need_amount (K : PySem.W.Frag) : Sp := SpF K (fun x : Int => [.fz (.int x)]) (fun x => M_need_amount x) (fun r => .fz (.int r))
abbrev N_need_amount : List Str := ["thing"]
theorem sc_need_amount : FnScope N_need_amount ["thing"] (defScope s_need_amount) := ⟨rfl, rfl, rfl, by decide +kernel, rfl, by decide +kernel, by decide +kernel⟩
theorem ok_need_amount {f : Addr} {fd : FuncData} (F : Fun K "need_amount" "need_amount" s_need_amount f fd) (c_is_amount : Fn1 P w K mg base "is_amount" 2 ["thing"] (sp_is_amount K)) : FnOk P w K mg base CX0 3 f fd ["thing"] (sp_need_amount K) := by
  refine fn_m F sc_need_amount (fun x => rfl) (fun x _ => rfl) fun cdv A outer s H E hr x hx => ?_
  obtain ⟨thing, r⟩ := x
  replace hx : M_need_amount thing = some r := hx
  have nd := sc_need_amount.nd
  unfold M_need_amount at hx
  show MS _ [some (.fz (.int thing))] _ _
  replace hx := bd_some hx
  obtain ⟨v1, hv1, hx⟩ := hx
  refine ms_cons (m_if (t := (!v1)) (mt_not (mt_val (me_fn c_is_amount (thing, v1) (ma_fz (me_var (pv 0) rfl) ma_nil) hv1 (hr.mono (by decide))))) (fun h => ?_) fun h => ms_nil ?_)
  · replace hx := cond_t hx h
    cases hx
  replace hx := cond_f hx h
  refine ms_one (m_ret (ps_ret pe_w) (ME.r (me_var (pv 0) rfl)) ?_)
  cases hx; rfl

noncomputable def M_Clause___init__ (by_0 : Str) : Option Str :=
  cond (!([("event" : Str), ("thing" : Str), ("year" : Str), ("loss" : Str)].contains by_0)) (none) <|
  some by_0
def sp_Clause___init__ (K : PySem.W.Frag) : Sp := SpX K (fun x : ((Addr × (Str)) × Str) => [.fz (.str x.1.2)]) (fun x => (∃ all, OC K x.1.1 all ∧ (∀ f ∈ (["by"] : List Str), f ∈ all)) ∧ M_Clause___init__ x.1.2 = some x.2) (fun l x => .at l x.1.1 [] []) (fun l x => .at l x.1.1 ["by"] [(.fz (.str x.2))]) (fun _ => .fz .non)
abbrev N_Clause___init__ : List Str := ["self", "by"]
theorem sc_Clause___init__ : FnScope N_Clause___init__ ["self", "by"] (defScope s_Clause___init__) := ⟨rfl, rfl, rfl, by decide +kernel, rfl, by decide +kernel, by decide +kernel⟩
theorem ok_Clause___init__ {f : Addr} {fd : FuncData} (F : Fun K "__init__" "Clause.__init__" s_Clause___init__ f fd) (t_WAYS : TupC K mg "WAYS" [.str "event", .str "thing", .str "year", .str "loss"]) : FnOk P w K mg base CX0 1 f fd ["self", "by"] (sp_Clause___init__ K) := by
  refine fn_mX F sc_Clause___init__ (fun x => rfl) (fun l x _ => rfl) (fun x _ => rfl) (fun l x => ⟨_, _, _, rfl⟩) fun cdv A outer s H E hr l x hx => ?_
  obtain ⟨⟨C0, by_0⟩, r⟩ := x
  obtain ⟨⟨all, oc, hall⟩, hx⟩ := hx
  replace hx : M_Clause___init__ by_0 = some r := hx
  have nd := sc_Clause___init__.nd
  unfold M_Clause___init__ at hx
  show MS _ [some (.at l C0 [] []), some (.fz (.str by_0))] _ _
  refine ms_cons (m_if (t := (!([("event" : Str), ("thing" : Str), ("year" : Str), ("loss" : Str)].contains by_0))) (mt_niTT_s (xs := [("event" : Str), ("thing" : Str), ("year" : Str), ("loss" : Str)]) (me_var (pv 1) rfl) (mu_gT t_WAYS)) (fun h => ?_) fun h => ms_nil ?_)
  · replace hx := cond_t hx h
    cases hx
  replace hx := cond_f hx h
  refine ms_one (m_setFldN (i := 0) (pv _) rfl (cc := oc) (hm := hall "by" (by decide +kernel)) (he := (me_var (pv 1) rfl)) (kk := ?_))
  cases hx; exact ⟨rfl, rfl⟩

noncomputable def M_Own___init__ (by_0 : Str) (cents : Int) : Option (Str × Int) :=
  bd (M_Clause___init__ by_0) fun v1 =>
  bd (M_need_amount cents) fun v2 =>
  some (v1, v2)
def sp_Own___init__ (K : PySem.W.Frag) (C_Own : Addr) : Sp := SpX K (fun x : ((Str × Int) × (Str × Int)) => [.fz (.str x.1.1), .fz (.int x.1.2)]) (fun x => M_Own___init__ x.1.1 x.1.2 = some x.2) (fun l x => .at l C_Own [] []) (fun l x => .at l C_Own ["by", "cents"] [(.fz (.str x.2.1)), (.fz (.int x.2.2))]) (fun _ => .fz .non)
def spI_Own___init__ (K : PySem.W.Frag) (C_Own : Addr) : Sp := SpI K C_Own ["by", "cents"] (fun x : ((Str × Int) × (Str × Int)) => [.fz (.str x.1.1), .fz (.int x.1.2)]) (fun x => M_Own___init__ x.1.1 x.1.2 = some x.2) (fun x => [(.fz (.str x.2.1)), (.fz (.int x.2.2))])
theorem toI_Own___init__ {k : Nat} {f : Addr} {fd : FuncData} {ps : List Str} {C_Own : Addr} (h : FnOk P w K mg base CX0 k f fd ps (sp_Own___init__ K C_Own)) : FnOk P w K mg base CX0 k f fd ps (spI_Own___init__ K C_Own) := SpX.init (fun y => y) h (fun _ => rfl) (fun _ h => h) (fun _ _ => rfl) (fun _ _ => rfl)
abbrev N_Own___init__ : List Str := ["self", "by", "cents"]
theorem sc_Own___init__ : FnScope N_Own___init__ ["self", "by", "cents"] (defScope s_Own___init__) := ⟨rfl, rfl, rfl, by decide +kernel, rfl, by decide +kernel, by decide +kernel⟩
theorem ok_Own___init__ {f : Addr} {fd : FuncData} (F : Fun K "__init__" "Own.__init__" s_Own___init__ f fd) (o_Own : OC K C_Own ["by", "cents"]) (b_Clause___init__ : Cf1 P w K mg base "Clause" "__init__" 1 ["self", "by"] (sp_Clause___init__ K)) (c_need_amount : Fn1 P w K mg base "need_amount" 3 ["thing"] (sp_need_amount K)) : FnOk P w K mg base CX0 4 f fd ["self", "by", "cents"] (sp_Own___init__ K C_Own) := by
  refine fn_mX F sc_Own___init__ (fun x => rfl) (fun l x _ => rfl) (fun x _ => rfl) (fun l x => ⟨_, _, _, rfl⟩) fun cdv A outer s H E hr l x hx => ?_
  obtain ⟨⟨by_0, cents⟩, r⟩ := x
  replace hx : M_Own___init__ by_0 cents = some r := hx
  have nd := sc_Own___init__.nd
  unfold M_Own___init__ at hx
  show MS _ [some (.at l C_Own [] []), some (.fz (.str by_0)), some (.fz (.int cents))] _ _
  replace hx := bd_some hx
  obtain ⟨v1, hv1, hx⟩ := hx
  refine ms_cons (m_exprX (ps_expr pe_w) (mx_cfn (i := 0) b_Clause___init__ ((C_Own, by_0), v1) (pv 0) rfl (mf_cons (me_var (pv 1) rfl) mf_nil) rfl rfl ⟨⟨_, o_Own, fun _ h => List.mem_of_mem_take (i := 1) h⟩, hv1⟩ (hr.mono (by decide))) ?_)
  show MS _ [some (.at l C_Own ["by"] [(.fz (.str v1))]), some (.fz (.str by_0)), some (.fz (.int cents))] _ _
  replace hx := bd_some hx
  obtain ⟨v2, hv2, hx⟩ := hx
  refine ms_one (m_setFldN (i := 0) (pv _) rfl o_Own (me_fn c_need_amount (cents, v2) (ma_fz (me_var (pv 2) rfl) ma_nil) hv2 (hr.mono (by decide))) ?_)
  cases hx; exact ⟨rfl, rfl⟩

noncomputable def M_CauseIs___init__ (name : Str) : Option Str :=
  some name
def sp_CauseIs___init__ (K : PySem.W.Frag) (C_CauseIs : Addr) : Sp := SpX K (fun x : ((Str) × Str) => [.fz (.str x.1)]) (fun x => M_CauseIs___init__ x.1 = some x.2) (fun l x => .at l C_CauseIs [] []) (fun l x => .at l C_CauseIs ["name"] [(.fz (.str x.2))]) (fun _ => .fz .non)
def spI_CauseIs___init__ (K : PySem.W.Frag) (C_CauseIs : Addr) : Sp := SpI K C_CauseIs ["name"] (fun x : ((Str) × Str) => [.fz (.str x.1)]) (fun x => M_CauseIs___init__ x.1 = some x.2) (fun x => [(.fz (.str x.2))])
theorem toI_CauseIs___init__ {k : Nat} {f : Addr} {fd : FuncData} {ps : List Str} {C_CauseIs : Addr} (h : FnOk P w K mg base CX0 k f fd ps (sp_CauseIs___init__ K C_CauseIs)) : FnOk P w K mg base CX0 k f fd ps (spI_CauseIs___init__ K C_CauseIs) := SpX.init (fun y => y) h (fun _ => rfl) (fun _ h => h) (fun _ _ => rfl) (fun _ _ => rfl)
abbrev N_CauseIs___init__ : List Str := ["self", "name"]
theorem sc_CauseIs___init__ : FnScope N_CauseIs___init__ ["self", "name"] (defScope s_CauseIs___init__) := ⟨rfl, rfl, rfl, by decide +kernel, rfl, by decide +kernel, by decide +kernel⟩
theorem ok_CauseIs___init__ {f : Addr} {fd : FuncData} (F : Fun K "__init__" "CauseIs.__init__" s_CauseIs___init__ f fd) (o_CauseIs : OC K C_CauseIs ["name"]) : FnOk P w K mg base CX0 1 f fd ["self", "name"] (sp_CauseIs___init__ K C_CauseIs) := by
  refine fn_mX F sc_CauseIs___init__ (fun x => rfl) (fun l x _ => rfl) (fun x _ => rfl) (fun l x => ⟨_, _, _, rfl⟩) fun cdv A outer s H E hr l x hx => ?_
  obtain ⟨name, r⟩ := x
  replace hx : M_CauseIs___init__ name = some r := hx
  have nd := sc_CauseIs___init__.nd
  unfold M_CauseIs___init__ at hx
  show MS _ [some (.at l C_CauseIs [] []), some (.fz (.str name))] _ _
  refine ms_one (m_setFldN (i := 0) (pv _) rfl o_CauseIs (me_var (pv 1) rfl) ?_)
  cases hx; exact ⟨rfl, rfl⟩

noncomputable def M_ThingIs___init__ (name : Str) : Option Str :=
  some name
def sp_ThingIs___init__ (K : PySem.W.Frag) (C_ThingIs : Addr) : Sp := SpX K (fun x : ((Str) × Str) => [.fz (.str x.1)]) (fun x => M_ThingIs___init__ x.1 = some x.2) (fun l x => .at l C_ThingIs [] []) (fun l x => .at l C_ThingIs ["name"] [(.fz (.str x.2))]) (fun _ => .fz .non)
def spI_ThingIs___init__ (K : PySem.W.Frag) (C_ThingIs : Addr) : Sp := SpI K C_ThingIs ["name"] (fun x : ((Str) × Str) => [.fz (.str x.1)]) (fun x => M_ThingIs___init__ x.1 = some x.2) (fun x => [(.fz (.str x.2))])
theorem toI_ThingIs___init__ {k : Nat} {f : Addr} {fd : FuncData} {ps : List Str} {C_ThingIs : Addr} (h : FnOk P w K mg base CX0 k f fd ps (sp_ThingIs___init__ K C_ThingIs)) : FnOk P w K mg base CX0 k f fd ps (spI_ThingIs___init__ K C_ThingIs) := SpX.init (fun y => y) h (fun _ => rfl) (fun _ h => h) (fun _ _ => rfl) (fun _ _ => rfl)
abbrev N_ThingIs___init__ : List Str := ["self", "name"]
theorem sc_ThingIs___init__ : FnScope N_ThingIs___init__ ["self", "name"] (defScope s_ThingIs___init__) := ⟨rfl, rfl, rfl, by decide +kernel, rfl, by decide +kernel, by decide +kernel⟩
theorem ok_ThingIs___init__ {f : Addr} {fd : FuncData} (F : Fun K "__init__" "ThingIs.__init__" s_ThingIs___init__ f fd) (o_ThingIs : OC K C_ThingIs ["name"]) : FnOk P w K mg base CX0 1 f fd ["self", "name"] (sp_ThingIs___init__ K C_ThingIs) := by
  refine fn_mX F sc_ThingIs___init__ (fun x => rfl) (fun l x _ => rfl) (fun x _ => rfl) (fun l x => ⟨_, _, _, rfl⟩) fun cdv A outer s H E hr l x hx => ?_
  obtain ⟨name, r⟩ := x
  replace hx : M_ThingIs___init__ name = some r := hx
  have nd := sc_ThingIs___init__.nd
  unfold M_ThingIs___init__ at hx
  show MS _ [some (.at l C_ThingIs [] []), some (.fz (.str name))] _ _
  refine ms_one (m_setFldN (i := 0) (pv _) rfl o_ThingIs (me_var (pv 1) rfl) ?_)
  cases hx; exact ⟨rfl, rfl⟩

noncomputable def M_Over___init__ (cents : Int) : Option Int :=
  some cents
def sp_Over___init__ (K : PySem.W.Frag) (C_Over : Addr) : Sp := SpX K (fun x : ((Int) × Int) => [.fz (.int x.1)]) (fun x => M_Over___init__ x.1 = some x.2) (fun l x => .at l C_Over [] []) (fun l x => .at l C_Over ["cents"] [(.fz (.int x.2))]) (fun _ => .fz .non)
def spI_Over___init__ (K : PySem.W.Frag) (C_Over : Addr) : Sp := SpI K C_Over ["cents"] (fun x : ((Int) × Int) => [.fz (.int x.1)]) (fun x => M_Over___init__ x.1 = some x.2) (fun x => [(.fz (.int x.2))])
theorem toI_Over___init__ {k : Nat} {f : Addr} {fd : FuncData} {ps : List Str} {C_Over : Addr} (h : FnOk P w K mg base CX0 k f fd ps (sp_Over___init__ K C_Over)) : FnOk P w K mg base CX0 k f fd ps (spI_Over___init__ K C_Over) := SpX.init (fun y => y) h (fun _ => rfl) (fun _ h => h) (fun _ _ => rfl) (fun _ _ => rfl)
abbrev N_Over___init__ : List Str := ["self", "cents"]
theorem sc_Over___init__ : FnScope N_Over___init__ ["self", "cents"] (defScope s_Over___init__) := ⟨rfl, rfl, rfl, by decide +kernel, rfl, by decide +kernel, by decide +kernel⟩
theorem ok_Over___init__ {f : Addr} {fd : FuncData} (F : Fun K "__init__" "Over.__init__" s_Over___init__ f fd) (o_Over : OC K C_Over ["cents"]) : FnOk P w K mg base CX0 1 f fd ["self", "cents"] (sp_Over___init__ K C_Over) := by
  refine fn_mX F sc_Over___init__ (fun x => rfl) (fun l x _ => rfl) (fun x _ => rfl) (fun l x => ⟨_, _, _, rfl⟩) fun cdv A outer s H E hr l x hx => ?_
  obtain ⟨cents, r⟩ := x
  replace hx : M_Over___init__ cents = some r := hx
  have nd := sc_Over___init__.nd
  unfold M_Over___init__ at hx
  show MS _ [some (.at l C_Over [] []), some (.fz (.int cents))] _ _
  refine ms_one (m_setFldN (i := 0) (pv _) rfl o_Over (me_var (pv 1) rfl) ?_)
  cases hx; exact ⟨rfl, rfl⟩

noncomputable def M_show_cents (cents : Int) : Option Str :=
  gd ((cents / 100).natAbs.log2 < 1920) <|
  gd ((strI (cents / 100)).length + ("." : Str).length ≤ sizeLine) <|
  gd ((cents % 100).natAbs.log2 < 1920) <|
  gd (((strI (cents / 100)) ++ ("." : Str)).length + (Txt.zfill (strI (cents % 100)) (2 : Int)).length ≤ sizeLine) <|
  some (((strI (cents / 100)) ++ ("." : Str)) ++ (Txt.zfill (strI (cents % 100)) (2 : Int)))
def sp_show_cents (K : PySem.W.Frag) : Sp := SpF K (fun x : Int => [.fz (.int x)]) (fun x => M_show_cents x) (fun r => .fz (.str r))
abbrev N_show_cents : List Str := ["cents", "whole", "part"]
theorem sc_show_cents : FnScope N_show_cents ["cents"] (defScope s_show_cents) := ⟨rfl, rfl, rfl, by decide +kernel, rfl, by decide +kernel, by decide +kernel⟩
theorem ok_show_cents {f : Addr} {fd : FuncData} (F : Fun K "show_cents" "show_cents" s_show_cents f fd) (z_divmod : mg "divmod" = none) (z_str : mg "str" = none) : FnOk P w K mg base CX0 1 f fd ["cents"] (sp_show_cents K) := by
  refine fn_m F sc_show_cents (fun x => rfl) (fun x _ => rfl) fun cdv A outer s H E hr x hx => ?_
  obtain ⟨cents, r⟩ := x
  replace hx : M_show_cents cents = some r := hx
  have nd := sc_show_cents.nd
  unfold M_show_cents at hx
  show MS _ [some (.fz (.int cents)), none, none] _ _
  refine ms_cons (m_tgt (ps_asg pe_w (pg_tup (n := 2) rfl (pgs_cons (pg_name (i := 1) nd rfl (Or.inl rfl)) (pgs_cons (pg_name (i := 2) nd rfl (Or.inl rfl)) pgs_nil)))) (me_divmod (by rfl) z_divmod (me_var (pv 0) rfl) me_int ⟨by decide, by decide⟩) (mg_tup (mgs_cons mg_name (mgs_cons mg_name mgs_nil)) rfl) ?_)
  show MS _ [some (.fz (.int cents)), some (.fz (.int (cents / 100))), some (.fz (.int (cents % 100)))] _ _
  replace hx := gd_some hx
  obtain ⟨g1, hx⟩ := hx
  replace hx := gd_some hx
  obtain ⟨g2, hx⟩ := hx
  replace hx := gd_some hx
  obtain ⟨g3, hx⟩ := hx
  replace hx := gd_some hx
  obtain ⟨g4, hx⟩ := hx
  refine ms_one (m_ret (ps_ret pe_w) (ME.r (me_cat (me_cat (me_strI (by rfl) z_str (me_var (pv 1) rfl) g1) me_str g2) (me_zfill (me_strI (by rfl) z_str (me_var (pv 2) rfl) g3) me_int) g4)) ?_)
  cases hx; rfl

noncomputable def M_Own_words (self : (Str × Int)) : Option (List Str) :=
  bd (M_show_cents self.2) fun v1 =>
  some [("own" : Str), self.1, v1]
def sp_Own_words (K : PySem.W.Frag) (C_Own : Addr) : Sp := SpF K (fun x : (Str × Int) => [.fz ((r_Own C_Own) x)]) (fun x => M_Own_words x) (fun r => .lst ((r.map D.str).map .fz))
abbrev N_Own_words : List Str := ["self"]
theorem sc_Own_words : FnScope N_Own_words ["self"] (defScope s_Own_words) := ⟨rfl, rfl, rfl, by decide +kernel, rfl, by decide +kernel, by decide +kernel⟩
theorem ok_Own_words {f : Addr} {fd : FuncData} (F : Fun K "words" "Own.words" s_Own_words f fd) (o_Own : OC K C_Own ["by", "cents"]) (c_show_cents : Fn1 P w K mg base "show_cents" 1 ["cents"] (sp_show_cents K)) : FnOk P w K mg base CX0 2 f fd ["self"] (sp_Own_words K C_Own) := by
  refine fn_m F sc_Own_words (fun x => rfl) (fun x _ => O.nvL_fz _) fun cdv A outer s H E hr x hx => ?_
  obtain ⟨self, r⟩ := x
  replace hx : M_Own_words self = some r := hx
  have nd := sc_Own_words.nd
  unfold M_Own_words at hx
  show MS _ [some (.fz ((r_Own C_Own) self))] _ _
  replace hx := bd_some hx
  obtain ⟨v1, hv1, hx⟩ := hx
  refine ms_one (m_ret (ps_ret pe_w) (ME.r (me_lst (ds := [("own" : Str), self.1, v1].map D.str) (mf_cons me_str (mf_cons (me_fld (j := 0) (mv_var (pv 0) rfl) o_Own) (mf_cons (me_fn c_show_cents (self.2, v1) (ma_fz (me_fld (j := 1) (mv_var (pv 0) rfl) o_Own) ma_nil) hv1 (hr.mono (by decide))) mf_nil))))) ?_)
  cases hx; rfl

noncomputable def M_Condition_words (self : Cd) : Option (List Str) :=
  some [("always" : Str)]
def sp_Condition_words (K : PySem.W.Frag) (C_Condition C_CauseIs C_ThingIs C_Over : Addr) : Sp := SpF K (fun x : Cd => [.fz ((u_Cd C_Condition C_CauseIs C_ThingIs C_Over) x)]) (fun x => M_Condition_words x) (fun r => .lst ((r.map D.str).map .fz))
abbrev N_Condition_words : List Str := ["self"]
theorem sc_Condition_words : FnScope N_Condition_words ["self"] (defScope s_Condition_words) := ⟨rfl, rfl, rfl, by decide +kernel, rfl, by decide +kernel, by decide +kernel⟩
theorem ok_Condition_words {f : Addr} {fd : FuncData} (F : Fun K "words" "Condition.words" s_Condition_words f fd)  : FnOk P w K mg base CX0 1 f fd ["self"] (sp_Condition_words K C_Condition C_CauseIs C_ThingIs C_Over) := by
  refine fn_m F sc_Condition_words (fun x => rfl) (fun x _ => O.nvL_fz _) fun cdv A outer s H E hr x hx => ?_
  obtain ⟨self, r⟩ := x
  replace hx : M_Condition_words self = some r := hx
  have nd := sc_Condition_words.nd
  unfold M_Condition_words at hx
  show MS _ [some (.fz ((u_Cd C_Condition C_CauseIs C_ThingIs C_Over) self))] _ _
  refine ms_one (m_ret (ps_ret pe_w) (ME.r (me_lst (ds := [("always" : Str)].map D.str) (mf_cons me_str mf_nil))) ?_)
  cases hx; rfl

noncomputable def M_CauseIs_words (self : Str) : Option (List Str) :=
  some [("cause" : Str), self]
def sp_CauseIs_words (K : PySem.W.Frag) (C_CauseIs : Addr) : Sp := SpF K (fun x : Str => [.fz ((r_CauseIs C_CauseIs) x)]) (fun x => M_CauseIs_words x) (fun r => .lst ((r.map D.str).map .fz))
abbrev N_CauseIs_words : List Str := ["self"]
theorem sc_CauseIs_words : FnScope N_CauseIs_words ["self"] (defScope s_CauseIs_words) := ⟨rfl, rfl, rfl, by decide +kernel, rfl, by decide +kernel, by decide +kernel⟩
theorem ok_CauseIs_words {f : Addr} {fd : FuncData} (F : Fun K "words" "CauseIs.words" s_CauseIs_words f fd) (o_CauseIs : OC K C_CauseIs ["name"]) : FnOk P w K mg base CX0 1 f fd ["self"] (sp_CauseIs_words K C_CauseIs) := by
  refine fn_m F sc_CauseIs_words (fun x => rfl) (fun x _ => O.nvL_fz _) fun cdv A outer s H E hr x hx => ?_
  obtain ⟨self, r⟩ := x
  replace hx : M_CauseIs_words self = some r := hx
  have nd := sc_CauseIs_words.nd
  unfold M_CauseIs_words at hx
  show MS _ [some (.fz ((r_CauseIs C_CauseIs) self))] _ _
  refine ms_one (m_ret (ps_ret pe_w) (ME.r (me_lst (ds := [("cause" : Str), self].map D.str) (mf_cons me_str (mf_cons (me_fld (j := 0) (mv_var (pv 0) rfl) o_CauseIs) mf_nil)))) ?_)
  cases hx; rfl

noncomputable def M_ThingIs_words (self : Str) : Option (List Str) :=
  some [("thing" : Str), self]
def sp_ThingIs_words (K : PySem.W.Frag) (C_ThingIs : Addr) : Sp := SpF K (fun x : Str => [.fz ((r_ThingIs C_ThingIs) x)]) (fun x => M_ThingIs_words x) (fun r => .lst ((r.map D.str).map .fz))
abbrev N_ThingIs_words : List Str := ["self"]
theorem sc_ThingIs_words : FnScope N_ThingIs_words ["self"] (defScope s_ThingIs_words) := ⟨rfl, rfl, rfl, by decide +kernel, rfl, by decide +kernel, by decide +kernel⟩
theorem ok_ThingIs_words {f : Addr} {fd : FuncData} (F : Fun K "words" "ThingIs.words" s_ThingIs_words f fd) (o_ThingIs : OC K C_ThingIs ["name"]) : FnOk P w K mg base CX0 1 f fd ["self"] (sp_ThingIs_words K C_ThingIs) := by
  refine fn_m F sc_ThingIs_words (fun x => rfl) (fun x _ => O.nvL_fz _) fun cdv A outer s H E hr x hx => ?_
  obtain ⟨self, r⟩ := x
  replace hx : M_ThingIs_words self = some r := hx
  have nd := sc_ThingIs_words.nd
  unfold M_ThingIs_words at hx
  show MS _ [some (.fz ((r_ThingIs C_ThingIs) self))] _ _
  refine ms_one (m_ret (ps_ret pe_w) (ME.r (me_lst (ds := [("thing" : Str), self].map D.str) (mf_cons me_str (mf_cons (me_fld (j := 0) (mv_var (pv 0) rfl) o_ThingIs) mf_nil)))) ?_)
  cases hx; rfl

noncomputable def M_Over_words (self : Int) : Option (List Str) :=
  bd (M_show_cents self) fun v1 =>
  some [("over" : Str), v1]
def sp_Over_words (K : PySem.W.Frag) (C_Over : Addr) : Sp := SpF K (fun x : Int => [.fz ((r_Over C_Over) x)]) (fun x => M_Over_words x) (fun r => .lst ((r.map D.str).map .fz))
abbrev N_Over_words : List Str := ["self"]
theorem sc_Over_words : FnScope N_Over_words ["self"] (defScope s_Over_words) := ⟨rfl, rfl, rfl, by decide +kernel, rfl, by decide +kernel, by decide +kernel⟩
theorem ok_Over_words {f : Addr} {fd : FuncData} (F : Fun K "words" "Over.words" s_Over_words f fd) (o_Over : OC K C_Over ["cents"]) (c_show_cents : Fn1 P w K mg base "show_cents" 1 ["cents"] (sp_show_cents K)) : FnOk P w K mg base CX0 2 f fd ["self"] (sp_Over_words K C_Over) := by
  refine fn_m F sc_Over_words (fun x => rfl) (fun x _ => O.nvL_fz _) fun cdv A outer s H E hr x hx => ?_
  obtain ⟨self, r⟩ := x
  replace hx : M_Over_words self = some r := hx
  have nd := sc_Over_words.nd
  unfold M_Over_words at hx
  show MS _ [some (.fz ((r_Over C_Over) self))] _ _
  replace hx := bd_some hx
  obtain ⟨v1, hv1, hx⟩ := hx
  refine ms_one (m_ret (ps_ret pe_w) (ME.r (me_lst (ds := [("over" : Str), v1].map D.str) (mf_cons me_str (mf_cons (me_fn c_show_cents (self, v1) (ma_fz (me_fld (j := 0) (mv_var (pv 0) rfl) o_Over) ma_nil) hv1 (hr.mono (by decide))) mf_nil)))) ?_)
  cases hx; rfl

abbrev e_T_i_i_s_s_s_i (p : (Int × Int × Str × Str × Str × Int)) : D := .tup [.int p.1, .int p.2.1, .str p.2.2.1, .str p.2.2.2.1, .str p.2.2.2.2.1, .int p.2.2.2.2.2]
noncomputable def M_Condition_holds (self : Cd) (loss : (Int × Int × Str × Str × Str × Int)) : Option Bool :=
  some true
def sp_Condition_holds (K : PySem.W.Frag) (C_Condition C_CauseIs C_ThingIs C_Over : Addr) : Sp := SpF K (fun x : Cd × (Int × Int × Str × Str × Str × Int) => [.fz ((u_Cd C_Condition C_CauseIs C_ThingIs C_Over) x.1), .fz (e_T_i_i_s_s_s_i x.2)]) (fun x => M_Condition_holds x.1 x.2) (fun r => .fz (.bl r))
abbrev N_Condition_holds : List Str := ["self", "loss"]
theorem sc_Condition_holds : FnScope N_Condition_holds ["self", "loss"] (defScope s_Condition_holds) := ⟨rfl, rfl, rfl, by decide +kernel, rfl, by decide +kernel, by decide +kernel⟩
theorem ok_Condition_holds {f : Addr} {fd : FuncData} (F : Fun K "holds" "Condition.holds" s_Condition_holds f fd)  : FnOk P w K mg base CX0 1 f fd ["self", "loss"] (sp_Condition_holds K C_Condition C_CauseIs C_ThingIs C_Over) := by
  refine fn_m F sc_Condition_holds (fun x => rfl) (fun x _ => rfl) fun cdv A outer s H E hr x hx => ?_
  obtain ⟨⟨self, loss⟩, r⟩ := x
  replace hx : M_Condition_holds self loss = some r := hx
  have nd := sc_Condition_holds.nd
  unfold M_Condition_holds at hx
  show MS _ [some (.fz ((u_Cd C_Condition C_CauseIs C_ThingIs C_Over) self)), some (.fz (e_T_i_i_s_s_s_i loss))] _ _
  refine ms_one (m_ret (ps_ret pe_w) (ME.r me_bl) ?_)
  cases hx; rfl

noncomputable def M_CauseIs_holds (self : Str) (loss : (Int × Int × Str × Str × Str × Int)) : Option Bool :=
  some ((loss.2.2.2.2.1 == self))
def sp_CauseIs_holds (K : PySem.W.Frag) (C_CauseIs : Addr) : Sp := SpF K (fun x : Str × (Int × Int × Str × Str × Str × Int) => [.fz ((r_CauseIs C_CauseIs) x.1), .fz (e_T_i_i_s_s_s_i x.2)]) (fun x => M_CauseIs_holds x.1 x.2) (fun r => .fz (.bl r))
abbrev N_CauseIs_holds : List Str := ["self", "loss"]
theorem sc_CauseIs_holds : FnScope N_CauseIs_holds ["self", "loss"] (defScope s_CauseIs_holds) := ⟨rfl, rfl, rfl, by decide +kernel, rfl, by decide +kernel, by decide +kernel⟩
theorem ok_CauseIs_holds {f : Addr} {fd : FuncData} (F : Fun K "holds" "CauseIs.holds" s_CauseIs_holds f fd) (o_CauseIs : OC K C_CauseIs ["name"]) : FnOk P w K mg base CX0 1 f fd ["self", "loss"] (sp_CauseIs_holds K C_CauseIs) := by
  refine fn_m F sc_CauseIs_holds (fun x => rfl) (fun x _ => rfl) fun cdv A outer s H E hr x hx => ?_
  obtain ⟨⟨self, loss⟩, r⟩ := x
  replace hx : M_CauseIs_holds self loss = some r := hx
  have nd := sc_CauseIs_holds.nd
  unfold M_CauseIs_holds at hx
  show MS _ [some (.fz ((r_CauseIs C_CauseIs) self)), some (.fz (e_T_i_i_s_s_s_i loss))] _ _
  refine ms_one (m_ret (ps_ret pe_w) (ME.r (me_eqS (me_ixT (MV.u (ME.v (me_var (pv 1) rfl)) (.fz _)) me_int rfl) (me_fld (j := 0) (mv_var (pv 0) rfl) o_CauseIs))) ?_)
  cases hx; rfl

noncomputable def M_ThingIs_holds (self : Str) (loss : (Int × Int × Str × Str × Str × Int)) : Option Bool :=
  some ((loss.2.2.2.1 == self))
def sp_ThingIs_holds (K : PySem.W.Frag) (C_ThingIs : Addr) : Sp := SpF K (fun x : Str × (Int × Int × Str × Str × Str × Int) => [.fz ((r_ThingIs C_ThingIs) x.1), .fz (e_T_i_i_s_s_s_i x.2)]) (fun x => M_ThingIs_holds x.1 x.2) (fun r => .fz (.bl r))
abbrev N_ThingIs_holds : List Str := ["self", "loss"]
theorem sc_ThingIs_holds : FnScope N_ThingIs_holds ["self", "loss"] (defScope s_ThingIs_holds) := ⟨rfl, rfl, rfl, by decide +kernel, rfl, by decide +kernel, by decide +kernel⟩
theorem ok_ThingIs_holds {f : Addr} {fd : FuncData} (F : Fun K "holds" "ThingIs.holds" s_ThingIs_holds f fd) (o_ThingIs : OC K C_ThingIs ["name"]) : FnOk P w K mg base CX0 1 f fd ["self", "loss"] (sp_ThingIs_holds K C_ThingIs) := by
  refine fn_m F sc_ThingIs_holds (fun x => rfl) (fun x _ => rfl) fun cdv A outer s H E hr x hx => ?_
  obtain ⟨⟨self, loss⟩, r⟩ := x
  replace hx : M_ThingIs_holds self loss = some r := hx
  have nd := sc_ThingIs_holds.nd
  unfold M_ThingIs_holds at hx
  show MS _ [some (.fz ((r_ThingIs C_ThingIs) self)), some (.fz (e_T_i_i_s_s_s_i loss))] _ _
  refine ms_one (m_ret (ps_ret pe_w) (ME.r (me_eqS (me_ixT (MV.u (ME.v (me_var (pv 1) rfl)) (.fz _)) me_int rfl) (me_fld (j := 0) (mv_var (pv 0) rfl) o_ThingIs))) ?_)
  cases hx; rfl

noncomputable def M_Over_holds (self : Int) (loss : (Int × Int × Str × Str × Str × Int)) : Option Bool :=
  some (decide (self < loss.2.2.2.2.2))
def sp_Over_holds (K : PySem.W.Frag) (C_Over : Addr) : Sp := SpF K (fun x : Int × (Int × Int × Str × Str × Str × Int) => [.fz ((r_Over C_Over) x.1), .fz (e_T_i_i_s_s_s_i x.2)]) (fun x => M_Over_holds x.1 x.2) (fun r => .fz (.bl r))
abbrev N_Over_holds : List Str := ["self", "loss"]
theorem sc_Over_holds : FnScope N_Over_holds ["self", "loss"] (defScope s_Over_holds) := ⟨rfl, rfl, rfl, by decide +kernel, rfl, by decide +kernel, by decide +kernel⟩
theorem ok_Over_holds {f : Addr} {fd : FuncData} (F : Fun K "holds" "Over.holds" s_Over_holds f fd) (o_Over : OC K C_Over ["cents"]) : FnOk P w K mg base CX0 1 f fd ["self", "loss"] (sp_Over_holds K C_Over) := by
  refine fn_m F sc_Over_holds (fun x => rfl) (fun x _ => rfl) fun cdv A outer s H E hr x hx => ?_
  obtain ⟨⟨self, loss⟩, r⟩ := x
  replace hx : M_Over_holds self loss = some r := hx
  have nd := sc_Over_holds.nd
  unfold M_Over_holds at hx
  show MS _ [some (.fz ((r_Over C_Over) self)), some (.fz (e_T_i_i_s_s_s_i loss))] _ _
  refine ms_one (m_ret (ps_ret pe_w) (ME.r (me_gt (me_ixT (MV.u (ME.v (me_var (pv 1) rfl)) (.fz _)) me_int rfl) (me_fld (j := 0) (mv_var (pv 0) rfl) o_Over))) ?_)
  cases hx; rfl

noncomputable def M_is_whole_d (thing : D) : Option Bool :=
  bd (isiD "int" thing) fun k1 =>
  bd (cond k1 (bd (isiD "bool" thing) fun k2 => some (!k2)) (some false)) fun v3 =>
  some v3
def sp_is_whole_d (K : PySem.W.Frag) : Sp := SpF K (fun x : D => [.fz x]) (fun x => M_is_whole_d x) (fun r => .fz (.bl r))
abbrev N_is_whole_d : List Str := ["thing"]
theorem sc_is_whole_d : FnScope N_is_whole_d ["thing"] (defScope s_is_whole_d) := ⟨rfl, rfl, rfl, by decide +kernel, rfl, by decide +kernel, by decide +kernel⟩
theorem ok_is_whole_d {f : Addr} {fd : FuncData} (F : Fun K "is_whole" "is_whole" s_is_whole_d f fd) (z_isinstance : mg "isinstance" = none) (z_int : mg "int" = none) (z_bool : mg "bool" = none) : FnOk P w K mg base CX0 1 f fd ["thing"] (sp_is_whole_d K) := by
  refine fn_m F sc_is_whole_d (fun x => rfl) (fun x _ => rfl) fun cdv A outer s H E hr x hx => ?_
  obtain ⟨thing, r⟩ := x
  replace hx : M_is_whole_d thing = some r := hx
  have nd := sc_is_whole_d.nd
  unfold M_is_whole_d at hx
  show MS _ [some (.fz thing)] _ _
  replace hx := bd_some hx
  obtain ⟨k1, hk1, hx⟩ := hx
  replace hx := bd_some hx
  obtain ⟨v3, hv3, hx⟩ := hx
  refine ms_one (m_ret (ps_ret pe_w) (ME.r (ME.isB (me_and (me_isiD (T := "int") hk1 (by rfl) z_isinstance (pe_bltn (v := .ty "int") (by rfl) z_int (by decide +kernel) rfl) (mv_var (pv 0) rfl)) fun q4 => (by have hx := cond_t hv3 q4; replace hx := bd_some hx; obtain ⟨k2, hk2, hx⟩ := hx; cases hx; exact (me_one (me_not (me_isiD (T := "bool") hk2 (by rfl) z_isinstance (pe_bltn (v := .ty "bool") (by rfl) z_bool (by decide +kernel) rfl) (mv_var (pv 0) rfl)))))) (and_c hv3))) ?_)
  cases hx; rfl

noncomputable def M_is_name (thing : D) : Option Bool :=
  bd (isiD "str" thing) fun k1 =>
  cond (!k1) (some false) <|
  bd (asS thing) fun v2 =>
  gd (v2.length ≤ sizeLine) <|
  bd (cond (decide ((v2.length : Int) < 1)) (some true) (bd (asS thing) fun v4 => gd (v4.length ≤ sizeLine) <| some (decide (8 < (v4.length : Int))))) fun v6 =>
  cond v6 (some false) <|
  bd (asS thing) fun v8 =>
  bd (lpO (fun (x10 : Nat) (p9 : Unit) => (cond (!decide (x10 ∈ ("abcdefghijklmnopqrstuvwxyz" : Str).cps.toList)) (some (.rt false)) <|
    some (.nx ()) : Option (Ou (Unit) (Unit) Bool))) v8.cps.toList ()) fun o11 => ouR o11 fun p9 =>
  some true
def sp_is_name (K : PySem.W.Frag) : Sp := SpF K (fun x : D => [.fz x]) (fun x => M_is_name x) (fun r => .fz (.bl r))
abbrev N_is_name : List Str := ["thing", "sign"]
theorem sc_is_name : FnScope N_is_name ["thing"] (defScope s_is_name) := ⟨rfl, rfl, rfl, by decide +kernel, rfl, by decide +kernel, by decide +kernel⟩
theorem ok_is_name {f : Addr} {fd : FuncData} (F : Fun K "is_name" "is_name" s_is_name f fd) (z_isinstance : mg "isinstance" = none) (z_str : mg "str" = none) (z_len : mg "len" = none) (g_LETTERS : mg "LETTERS" = some (.str "abcdefghijklmnopqrstuvwxyz" tkLETTERS)) : FnOk P w K mg base CX0 1 f fd ["thing"] (sp_is_name K) := by
  refine fn_m F sc_is_name (fun x => rfl) (fun x _ => rfl) fun cdv A outer s H E hr x hx => ?_
  obtain ⟨thing, r⟩ := x
  replace hx : M_is_name thing = some r := hx
  have nd := sc_is_name.nd
  unfold M_is_name at hx
  show MS _ [some (.fz thing), none] _ _
  replace hx := bd_some hx
  obtain ⟨k1, hk1, hx⟩ := hx
  refine ms_cons (m_if (t := (!k1)) (mt_not (mt_val (me_isiD (T := "str") hk1 (by rfl) z_isinstance (pe_bltn (v := .ty "str") (by rfl) z_str (by decide +kernel) rfl) (mv_var (pv 0) rfl)))) (fun h => ?_) fun h => ms_nil ?_)
  · replace hx := cond_t hx h
    refine ms_one (m_ret (ps_ret pe_w) (ME.r me_bl) ?_)
    cases hx; rfl
  replace hx := cond_f hx h
  replace hx := bd_some hx
  obtain ⟨v2, hv2, hx⟩ := hx
  replace hx := gd_some hx
  obtain ⟨g3, hx⟩ := hx
  replace hx := bd_some hx
  obtain ⟨v6, hv6, hx⟩ := hx
  refine ms_cons (m_if (t := v6) (MW.t (MW.is (mw_or (mt_lt (me_lenS (by rfl) z_len (ME.is (o' := .fz (.str v2)) (me_var (pv 0) rfl) (asS_is hv2)) g3) me_int) fun q7 => (by have hx := cond_f hv6 q7; replace hx := bd_some hx; obtain ⟨v4, hv4, hx⟩ := hx; replace hx := gd_some hx; obtain ⟨g5, hx⟩ := hx; cases hx; exact (mw_or1 (mt_gt (me_lenS (by rfl) z_len (ME.is (o' := .fz (.str v4)) (me_var (pv 0) rfl) (asS_is hv4)) g5) me_int)))) (or_c hv6))) (fun h => ?_) fun h => ms_nil ?_)
  · replace hx := cond_t hx h
    refine ms_one (m_ret (ps_ret pe_w) (ME.r me_bl) ?_)
    cases hx; rfl
  replace hx := cond_f hx h
  replace hx := bd_some hx
  obtain ⟨v8, hv8, hx⟩ := hx
  replace hx := bd_some hx
  obtain ⟨o11, ho11, hx⟩ := hx
  refine ms_cons (m_forO (xs := v8.cps.toList) (enc := (fun c => D.str ⟨#[c]⟩)) (ps_for PassesOwn.never rfl (pi_str pe_w) (pg_name (i := 1) nd rfl (Or.inl rfl)) pss_w) (by exact (mi_strT (ME.is (o' := .fz (.str v8)) (me_var (pv 0) rfl) (asS_is hv8)))) ho11 (fun p9 => [some (.fz thing), none]) (fun r => .fz (.bl r)) le_auto (fun x10 p9 p9o mx hx => ?_) (fun p9 τ e le => ?_) fun q e => ?_)
  ·
    refine ⟨_, _, mg_name, ?_⟩
    show MS _ [some (.fz thing), some (.fz (.str (sg1 x10)))] _ _
    refine ms_one (m_if (t := (!decide (x10 ∈ ("abcdefghijklmnopqrstuvwxyz" : Str).cps.toList))) (mt_niS (me_var (pv 1) rfl) (me_gS g_LETTERS)) (fun h => ?_) fun h => ms_nil ?_)
    · replace hx := cond_t hx h
      refine ms_one (m_ret (ps_ret pe_w) (ME.r me_bl) ?_)
      cases hx; exact ⟨_, rfl, rfl⟩
    replace hx := cond_f hx h
    cases hx; exact ⟨_, rfl, le_auto⟩
  · subst e
    dsimp only [ouR] at hx
    refine ms_le le ?_
    show MS _ [some (.fz thing), none] _ _
    refine ms_one (m_ret (ps_ret pe_w) (ME.r me_bl) ?_)
    cases hx; rfl
  · subst e; cases hx; rfl

noncomputable def M_is_name_s (thing : Str) : Option Bool :=
  cond (!true) (some false) <|
  gd (thing.length ≤ sizeLine) <|
  bd (cond (decide ((thing.length : Int) < 1)) (some true) (gd (thing.length ≤ sizeLine) <| some (decide (8 < (thing.length : Int))))) fun v3 =>
  cond v3 (some false) <|
  bd (lpO (fun (x6 : Nat) (p5 : Unit) => (cond (!decide (x6 ∈ ("abcdefghijklmnopqrstuvwxyz" : Str).cps.toList)) (some (.rt false)) <|
    some (.nx ()) : Option (Ou (Unit) (Unit) Bool))) thing.cps.toList ()) fun o7 => ouR o7 fun p5 =>
  some true
def sp_is_name_s (K : PySem.W.Frag) : Sp := SpF K (fun x : Str => [.fz (.str x)]) (fun x => M_is_name_s x) (fun r => .fz (.bl r))
abbrev N_is_name_s : List Str := ["thing", "sign"]
theorem sc_is_name_s : FnScope N_is_name_s ["thing"] (defScope s_is_name_s) := ⟨rfl, rfl, rfl, by decide +kernel, rfl, by decide +kernel, by decide +kernel⟩
theorem ok_is_name_s {f : Addr} {fd : FuncData} (F : Fun K "is_name" "is_name" s_is_name_s f fd) (z_isinstance : mg "isinstance" = none) (z_str : mg "str" = none) (z_len : mg "len" = none) (g_LETTERS : mg "LETTERS" = some (.str "abcdefghijklmnopqrstuvwxyz" tkLETTERS)) : FnOk P w K mg base CX0 1 f fd ["thing"] (sp_is_name_s K) := by
  refine fn_m F sc_is_name_s (fun x => rfl) (fun x _ => rfl) fun cdv A outer s H E hr x hx => ?_
  obtain ⟨thing, r⟩ := x
  replace hx : M_is_name_s thing = some r := hx
  have nd := sc_is_name_s.nd
  unfold M_is_name_s at hx
  show MS _ [some (.fz (.str thing)), none] _ _
  refine ms_cons (m_if (t := (!true)) (mt_not (mt_val (me_isi (k := true) (by rfl) z_isinstance (pe_bltn (v := .ty "str") (by rfl) z_str (by decide +kernel) rfl) (mv_var (pv 0) rfl) rfl (by decide +kernel)))) (fun h => ?_) fun h => ms_nil ?_)
  · replace hx := cond_t hx h
    refine ms_one (m_ret (ps_ret pe_w) (ME.r me_bl) ?_)
    cases hx; rfl
  replace hx := cond_f hx h
  replace hx := gd_some hx
  obtain ⟨g1, hx⟩ := hx
  replace hx := bd_some hx
  obtain ⟨v3, hv3, hx⟩ := hx
  refine ms_cons (m_if (t := v3) (MW.t (MW.is (mw_or (mt_lt (me_lenS (by rfl) z_len (me_var (pv 0) rfl) g1) me_int) fun q4 => (by have hx := cond_f hv3 q4; replace hx := gd_some hx; obtain ⟨g2, hx⟩ := hx; cases hx; exact (mw_or1 (mt_gt (me_lenS (by rfl) z_len (me_var (pv 0) rfl) g2) me_int)))) (or_c hv3))) (fun h => ?_) fun h => ms_nil ?_)
  · replace hx := cond_t hx h
    refine ms_one (m_ret (ps_ret pe_w) (ME.r me_bl) ?_)
    cases hx; rfl
  replace hx := cond_f hx h
  replace hx := bd_some hx
  obtain ⟨o7, ho7, hx⟩ := hx
  refine ms_cons (m_forO (xs := thing.cps.toList) (enc := (fun c => D.str ⟨#[c]⟩)) (ps_for PassesOwn.never rfl (pi_str pe_w) (pg_name (i := 1) nd rfl (Or.inl rfl)) pss_w) (by exact (mi_strT (me_var (pv 0) rfl))) ho7 (fun p5 => [some (.fz (.str thing)), none]) (fun r => .fz (.bl r)) le_auto (fun x6 p5 p5o mx hx => ?_) (fun p5 τ e le => ?_) fun q e => ?_)
  ·
    refine ⟨_, _, mg_name, ?_⟩
    show MS _ [some (.fz (.str thing)), some (.fz (.str (sg1 x6)))] _ _
    refine ms_one (m_if (t := (!decide (x6 ∈ ("abcdefghijklmnopqrstuvwxyz" : Str).cps.toList))) (mt_niS (me_var (pv 1) rfl) (me_gS g_LETTERS)) (fun h => ?_) fun h => ms_nil ?_)
    · replace hx := cond_t hx h
      refine ms_one (m_ret (ps_ret pe_w) (ME.r me_bl) ?_)
      cases hx; exact ⟨_, rfl, rfl⟩
    replace hx := cond_f hx h
    cases hx; exact ⟨_, rfl, le_auto⟩
  · subst e
    dsimp only [ouR] at hx
    refine ms_le le ?_
    show MS _ [some (.fz (.str thing)), none] _ _
    refine ms_one (m_ret (ps_ret pe_w) (ME.r me_bl) ?_)
    cases hx; rfl
  · subst e; cases hx; rfl

noncomputable def M_total_of_r (weights : D) : Option (Xr Xc Int) :=
  bd (isiD "list" weights) fun k1 =>
  cond (!k1) (some (.er .NoShares)) <|
  bd (asLD weights) fun l2 =>
  bd (cond (decide ((l2.length : Int) < 1)) (some true) (bd (asLD weights) fun l3 => some (decide (8 < (l3.length : Int))))) fun v4 =>
  cond v4 (some (.er .NoShares)) <|
  bd (asLD weights) fun l6 =>
  bd (lpO (fun (x8 : D) (p7 : Unit) => (bd (M_is_whole_d x8) fun v10 =>
    bd (cond (!v10) (some true) (bd (asI x8) fun v11 => some (decide (v11 < 1)))) fun v12 =>
    cond v12 (some (.rt (.er .NoShares))) <|
    some (.nx ()) : Option (Ou (Unit) (Unit) (Xr Xc Int)))) l6 ()) fun o9 => ouR o9 fun p7 =>
  bd (asLD weights) fun l14 =>
  bd (mpO asI l14) fun v15 =>
  cond (decide (100 < v15.sum)) (some (.er .NoShares)) <|
  some (.ok v15.sum)
def sp_total_of_r (K : PySem.W.Frag) (C_NoCover C_NoShares : Addr) : Sp := SpFE K (fun x : D => [.fz x]) (fun x => M_total_of_r x) (t_Xc C_NoCover C_NoShares) (fun r => .fz (.int r))
abbrev N_total_of_r : List Str := ["weights", "weight", "total"]
theorem sc_total_of_r : FnScope N_total_of_r ["weights"] (defScope s_total_of_r) := ⟨rfl, rfl, rfl, by decide +kernel, rfl, by decide +kernel, by decide +kernel⟩
theorem ok_total_of_r {f : Addr} {fd : FuncData} (F : Fun K "total_of" "total_of" s_total_of_r f fd) (z_isinstance : mg "isinstance" = none) (z_list : mg "list" = none) (z_len : mg "len" = none) (z_sum : mg "sum" = none) (g_MOST_PLACES : mg "MOST_PLACES" = some (.int 8 tkMOST_PLACES)) (g_MOST_TURNS : mg "MOST_TURNS" = some (.int 100 tkMOST_TURNS)) (x_NoShares : XcC K mg "NoShares" C_NoShares) (c_is_whole_d : Fn1 P w K mg base "is_whole" 1 ["thing"] (sp_is_whole_d K)) : FnOk P w K mg base (L2.CX P w) 2 f fd ["weights"] (sp_total_of_r K C_NoCover C_NoShares) := by
  refine fn_mE F sc_total_of_r (fun x => rfl) (fun x _ => exO_nv (fun _ => rfl) x.2) fun cdv A outer s H E hr po x hx => ?_
  obtain ⟨weights, r⟩ := x
  replace hx : M_total_of_r weights = some r := hx
  have nd := sc_total_of_r.nd
  unfold M_total_of_r at hx
  show MS _ [some (.fz weights), none, none] _ _
  replace hx := bd_some hx
  obtain ⟨k1, hk1, hx⟩ := hx
  refine ms_cons (m_if (t := (!k1)) (mt_not (mt_val (me_isiD (T := "list") hk1 (by rfl) z_isinstance (pe_bltn (v := .ty "list") (by rfl) z_list (by decide +kernel) rfl) (mv_var (pv 0) rfl)))) (fun h => ?_) fun h => ms_nil ?_)
  · replace hx := cond_t hx h
    refine ms_one (m_raise (pm_own x_NoShares) ?_)
    cases hx; rfl
  replace hx := cond_f hx h
  replace hx := bd_some hx
  obtain ⟨l2, hl2, hx⟩ := hx
  replace hx := bd_some hx
  obtain ⟨v4, hv4, hx⟩ := hx
  refine ms_cons (m_if (t := v4) (MW.t (MW.is (mw_or (mt_lt (me_lenLT (xs := l2) (enc := e_d) (by rfl) z_len (MV.l (ME.v (ME.is (o' := .fz (.lst (l2.map e_d))) (me_var (pv 0) rfl) (asLD_is hl2))) (.fz _))) me_int) fun q5 => (by have hx := cond_f hv4 q5; replace hx := bd_some hx; obtain ⟨l3, hl3, hx⟩ := hx; cases hx; exact (mw_or1 (mt_gt (me_lenLT (xs := l3) (enc := e_d) (by rfl) z_len (MV.l (ME.v (ME.is (o' := .fz (.lst (l3.map e_d))) (me_var (pv 0) rfl) (asLD_is hl3))) (.fz _))) (me_gI g_MOST_PLACES))))) (or_c hv4))) (fun h => ?_) fun h => ms_nil ?_)
  · replace hx := cond_t hx h
    refine ms_one (m_raise (pm_own x_NoShares) ?_)
    cases hx; rfl
  replace hx := cond_f hx h
  replace hx := bd_some hx
  obtain ⟨l6, hl6, hx⟩ := hx
  replace hx := bd_some hx
  obtain ⟨o9, ho9, hx⟩ := hx
  refine ms_cons (m_forO (xs := l6) (enc := e_d) (ps_for po rfl (pi_list pe_w) (pg_name (i := 1) nd rfl (Or.inl rfl)) pss_w) (by exact (mi_list (ds := l6.map e_d) (ME.k (ME.is (o' := .fz (.lst (l6.map e_d))) (me_var (pv 0) rfl) (asLD_is hl6))))) ho9 (fun p7 => [some (.fz weights), none, none]) (fun r => exO (t_Xc C_NoCover C_NoShares) (fun r => .fz (.int r)) r) le_auto (fun x8 p7 p7o mx hx => ?_) (fun p7 τ e le => ?_) fun q e => ?_)
  ·
    refine ⟨_, _, mg_name, ?_⟩
    show MS _ [some (.fz weights), some (.fz x8), none] _ _
    replace hx := bd_some hx
    obtain ⟨v10, hv10, hx⟩ := hx
    replace hx := bd_some hx
    obtain ⟨v12, hv12, hx⟩ := hx
    refine ms_one (m_if (t := v12) (MW.t (MW.is (mw_or (mt_not (mt_val (me_fn c_is_whole_d (x8, v10) (ma_fz (me_var (pv 1) rfl) ma_nil) hv10 (hr.mono (by decide))))) fun q13 => (by have hx := cond_f hv12 q13; replace hx := bd_some hx; obtain ⟨v11, hv11, hx⟩ := hx; cases hx; exact (mw_or1 (mt_lt (ME.is (o' := .fz (.int v11)) (me_var (pv 1) rfl) (asI_is hv11)) me_int)))) (or_c hv12))) (fun h => ?_) fun h => ms_nil ?_)
    · replace hx := cond_t hx h
      refine ms_one (m_raise (pm_own x_NoShares) ?_)
      cases hx; exact ⟨_, rfl, rfl⟩
    replace hx := cond_f hx h
    cases hx; exact ⟨_, rfl, le_auto⟩
  · subst e
    dsimp only [ouR] at hx
    refine ms_le le ?_
    show MS _ [some (.fz weights), none, none] _ _
    replace hx := bd_some hx
    obtain ⟨l14, hl14, hx⟩ := hx
    replace hx := bd_some hx
    obtain ⟨v15, hv15, hx⟩ := hx
    refine ms_cons (m_set (ps_set (i := 2) nd rfl (Or.inl rfl) pe_w) (me_sum (ns := v15) rfl (by rfl) z_sum (ML.as17 (MV.l (ME.v (ME.is (o' := .fz (.lst (l14.map e_d))) (me_var (pv 0) rfl) (asLD_is hl14))) (.fz _)) (mpI17 hv15))) ?_)
    show MS _ [some (.fz weights), none, some (.fz (.int v15.sum))] _ _
    refine ms_cons (m_if (t := (decide (100 < v15.sum))) (mt_gt (me_var (pv 2) rfl) (me_gI g_MOST_TURNS)) (fun h => ?_) fun h => ms_nil ?_)
    · replace hx := cond_t hx h
      refine ms_one (m_raise (pm_own x_NoShares) ?_)
      cases hx; rfl
    replace hx := cond_f hx h
    refine ms_one (m_ret (ps_ret pe_w) (ME.r (me_var (pv 2) rfl)) ?_)
    cases hx; rfl
  · subst e; cases hx; rfl

noncomputable def M_turns_r (weights : D) : Option (Xr Xc (List Int)) :=
  bdx (M_total_of_r weights) fun v1 => none
def sp_turns_r (K : PySem.W.Frag) (C_NoCover C_NoShares : Addr) : Sp := SpFE K (fun x : D => [.fz x]) (fun x => M_turns_r x) (t_Xc C_NoCover C_NoShares) (fun r => .lst ((r.map D.int).map .fz))
abbrev N_turns_r : List Str := ["weights", "total", "given", "wheel", "n", "place", "weight"]
theorem sc_turns_r : FnScope N_turns_r ["weights"] (defScope s_turns_r) := ⟨rfl, rfl, rfl, by decide +kernel, rfl, by decide +kernel, by decide +kernel⟩
theorem ok_turns_r {f : Addr} {fd : FuncData} (F : Fun K "turns" "turns" s_turns_r f fd) (c_total_of_r : Fn1E P w K mg base "total_of" 2 ["weights"] (sp_total_of_r K C_NoCover C_NoShares)) : FnOk P w K mg base (L2.CX P w) 3 f fd ["weights"] (sp_turns_r K C_NoCover C_NoShares) := by
  refine fn_mE F sc_turns_r (fun x => rfl) (fun x _ => exO_nv (by intro _; exact O.nvL_fz _) x.2) fun cdv A outer s H E hr po x hx => ?_
  obtain ⟨weights, r⟩ := x
  replace hx : M_turns_r weights = some r := hx
  have nd := sc_turns_r.nd
  unfold M_turns_r at hx
  show MS _ [some (.fz weights), none, none, none, none, none, none] _ _
  rcases bdx_some hx with ⟨xe2, hv1, hx⟩ | ⟨v1, hv1, hx⟩
  · refine ms_cons (m_rzAsg (ps_set (i := 1) nd rfl (Or.inl rfl) pe_w) (mz_fn c_total_of_r (weights, .er xe2) (ma_fz (me_var (pv 0) rfl) ma_nil) hv1 (hr.mono (by decide))) ?_)
    cases hx; rfl
  · exact nomatch (show (none : Option _) = some _ from hx)

noncomputable def M_DealD___init__ (weights : D) : Option (Xr Xc ((List Int) × (List D))) :=
  bdx (M_turns_r weights) fun v1 => none
def sp_DealD___init__ (K : PySem.W.Frag) (C_DealD C_NoCover C_NoShares : Addr) : Sp := SpXE K (fun x : ((D) × Xr Xc ((List Int) × (List D))) => [.fz x.1]) (fun x => M_DealD___init__ x.1 = some x.2) (fun l x => .at l C_DealD [] []) (fun l x => atX l C_DealD ["wheel", "weights"] (fun t => []) x.2) (fun x => exO (t_Xc C_NoCover C_NoShares) (fun _ => .fz .non) x.2)
def spI_DealD___init__ (K : PySem.W.Frag) (C_DealD C_NoCover C_NoShares : Addr) : Sp := SpIE K C_DealD ["wheel", "weights"] (fun x : ((D) × Xr Xc ((List Int) × (List D))) => [.fz x.1]) (fun x => M_DealD___init__ x.1 = some x.2) (fun x => osX (fun t => []) x.2) (fun x => erX (t_Xc C_NoCover C_NoShares) x.2)
theorem toI_DealD___init__ {k : Nat} {f : Addr} {fd : FuncData} {ps : List Str} {C_DealD C_NoCover C_NoShares : Addr} (h : FnOk P w K mg base (L2.CX P w) k f fd ps (sp_DealD___init__ K C_DealD C_NoCover C_NoShares)) : FnOk P w K mg base (L2.CX P w) k f fd ps (spI_DealD___init__ K C_DealD C_NoCover C_NoShares) := SpXE.init (fun y => y) h (fun _ => rfl) (fun _ h => h) (fun _ _ => rfl) (fun _ y h => atX_ok y.2 h) (fun y => erX_ex y.2)
abbrev N_DealD___init__ : List Str := ["self", "weights"]
theorem sc_DealD___init__ : FnScope N_DealD___init__ ["self", "weights"] (defScope s_DealD___init__) := ⟨rfl, rfl, rfl, by decide +kernel, rfl, by decide +kernel, by decide +kernel⟩
theorem ok_DealD___init__ {f : Addr} {fd : FuncData} (F : Fun K "__init__" "Deal.__init__" s_DealD___init__ f fd) (c_turns_r : Fn1E P w K mg base "turns" 3 ["weights"] (sp_turns_r K C_NoCover C_NoShares)) : FnOk P w K mg base (L2.CX P w) 4 f fd ["self", "weights"] (sp_DealD___init__ K C_DealD C_NoCover C_NoShares) := by
  refine fn_mXE F sc_DealD___init__ (fun x => rfl) (fun l x _ => atX_nv (fun _ => rfl) x.2) (fun x _ => exO_nv (fun _ => rfl) x.2) (fun l x => atX_at x.2) fun cdv A outer s H E hr po l x hx => ?_
  obtain ⟨weights, r⟩ := x
  replace hx : M_DealD___init__ weights = some r := hx
  have nd := sc_DealD___init__.nd
  unfold M_DealD___init__ at hx
  show MS _ [some (.at l C_DealD [] []), some (.fz weights)] _ _
  rcases bdx_some hx with ⟨xe2, hv1, hx⟩ | ⟨v1, hv1, hx⟩
  · refine ms_cons (m_rzFld (i := 0) (pv _) (mz_fn c_turns_r (weights, .er xe2) (ma_fz (me_var (pv 1) rfl) ma_nil) hv1 (hr.mono (by decide))) ?_)
    cases hx; exact ⟨rfl, _, rfl⟩
  · exact nomatch (show (none : Option _) = some _ from hx)

abbrev e_T_d_d (p : (D × D)) : D := .tup [p.1, p.2]
noncomputable def M_need_houses (pairs : (List (D × D))) : Option (Xr Xc (List D)) :=
  lt ([] : List D) fun found =>
  bd (lpO (fun (x2 : (D × D)) (p1 : (List D)) => (bd (M_is_name ((x2).1)) fun v4 =>
    bd (cond (!v4) (some true) (gd (D.ok (x2).1 ∧ D.ok (.lst (p1.map e_d))) <| some ((inDL e_d p1 (x2).1)))) fun v6 =>
    cond v6 (some (.rt (.er .NoCover))) <|
    gd (p1.length < sizeLine) <|
    lt (p1 ++ [(x2).1]) fun found_1 =>
    some (.nx found_1) : Option (Ou ((List D)) ((List D)) (Xr Xc (List D))))) pairs found) fun o3 => ouR o3 fun p1 =>
  some (.ok p1)
def sp_need_houses (K : PySem.W.Frag) (C_NoCover C_NoShares : Addr) : Sp := SpFE K (fun x : (List (D × D)) => [.vw (x.map e_T_d_d)]) (fun x => M_need_houses x) (t_Xc C_NoCover C_NoShares) (fun r => .lst ((r.map e_d).map .fz))
abbrev N_need_houses : List Str := ["pairs", "found", "house", "weight"]
theorem sc_need_houses : FnScope N_need_houses ["pairs"] (defScope s_need_houses) := ⟨rfl, rfl, rfl, by decide +kernel, rfl, by decide +kernel, by decide +kernel⟩
theorem ok_need_houses {f : Addr} {fd : FuncData} (F : Fun K "need_houses" "need_houses" s_need_houses f fd) (c_is_name : Fn1 P w K mg base "is_name" 1 ["thing"] (sp_is_name K)) (x_NoCover : XcC K mg "NoCover" C_NoCover) : FnOk P w K mg base (L2.CX P w) 2 f fd ["pairs"] (sp_need_houses K C_NoCover C_NoShares) := by
  refine fn_mE F sc_need_houses (fun x => rfl) (fun x _ => exO_nv (by intro _; exact O.nvL_fz _) x.2) fun cdv A outer s H E hr po x hx => ?_
  obtain ⟨pairs, r⟩ := x
  replace hx : M_need_houses pairs = some r := hx
  have nd := sc_need_houses.nd
  unfold M_need_houses at hx
  show MS _ [some (.vw (pairs.map e_T_d_d)), none, none, none] _ _
  replace hx := lt_some hx
  obtain ⟨found, efound, hx⟩ := hx
  refine ms_cons (m_set (ps_set (i := 1) nd rfl (Or.inl rfl) pe_w) (ME.is (o' := (.lst ((found.map e_d).map .fz))) (me_lst (ds := [].map e_d) mf_nil) (by rw [efound] <;> rfl)) ?_)
  show MS _ [some (.vw (pairs.map e_T_d_d)), some (.lst ((found.map e_d).map .fz)), none, none] _ _
  replace hx := bd_some hx
  obtain ⟨o3, ho3, hx⟩ := hx
  refine ms_cons (m_forO (xs := pairs) (enc := e_T_d_d) (ps_for po rfl (pi_list pe_w) (pg_tup (n := 2) rfl (pgs_cons (pg_name (i := 2) nd rfl (Or.inl rfl)) (pgs_cons (pg_name (i := 3) nd rfl (Or.inl rfl)) pgs_nil))) pss_w) (by exact (mi_list (ds := pairs.map e_T_d_d) (mk_var (pv 0) rfl))) ho3 (fun p1 => [some (.vw (pairs.map e_T_d_d)), some (.lst ((p1.map e_d).map .fz)), none, none]) (fun r => exO (t_Xc C_NoCover C_NoShares) (fun r => .lst ((r.map e_d).map .fz)) r) le_auto (fun x2 p1 p1o mx hx => ?_) (fun p1 τ e le => ?_) fun q e => ?_)
  ·
    refine ⟨_, _, (mg_tup (mgs_cons mg_name (mgs_cons mg_name mgs_nil)) rfl), ?_⟩
    show MS _ [some (.vw (pairs.map e_T_d_d)), some (.lst ((p1.map e_d).map .fz)), some (.fz (x2).1), some (.fz (x2).2)] _ _
    replace hx := bd_some hx
    obtain ⟨v4, hv4, hx⟩ := hx
    replace hx := bd_some hx
    obtain ⟨v6, hv6, hx⟩ := hx
    refine ms_cons (m_if (t := v6) (MW.t (MW.is (mw_or (mt_not (mt_val (me_fn c_is_name ((x2).1, v4) (ma_fz (me_var (pv 2) rfl) ma_nil) hv4 (hr.mono (by decide))))) fun q7 => (by have hx := cond_f hv6 q7; replace hx := gd_some hx; obtain ⟨g5, hx⟩ := hx; cases hx; exact (mw_or1 (mt_inDL (xs := p1) (enc := e_d) (d := (x2).1) (r_u65 hr) g5 frz_own (ME.v (me_var (pv 2) rfl)) (mv_var (pv 1) rfl))))) (or_c hv6))) (fun h => ?_) fun h => ms_nil ?_)
    · replace hx := cond_t hx h
      refine ms_one (m_raise (pm_own x_NoCover) ?_)
      cases hx; exact ⟨_, rfl, rfl⟩
    replace hx := cond_f hx h
    replace hx := gd_some hx
    obtain ⟨g8, hx⟩ := hx
    replace hx := lt_some hx
    obtain ⟨found_1, efound_1, hx⟩ := hx
    refine ms_one (m_appendT (i := 1) (xs := p1) (enc := e_d) (y := (x2).1) g8 (pv _) rfl (me_var (pv 2) rfl) ?_)
    rw [← efound_1]
    cases hx; exact ⟨_, rfl, le_auto⟩
  · subst e
    dsimp only [ouR] at hx
    refine ms_le le ?_
    show MS _ [some (.vw (pairs.map e_T_d_d)), some (.lst ((p1.map e_d).map .fz)), none, none] _ _
    refine ms_one (m_ret (ps_ret pe_w) (mr_var (pv 1) rfl) ?_)
    cases hx; rfl
  · subst e; cases hx; rfl

abbrev e_T_s_i (p : (Str × Int)) : D := .tup [.str p.1, .int p.2]
noncomputable def M_need_houses_g (pairs : (List (Str × Int))) : Option (List Str) :=
  lt ([] : List Str) fun found =>
  bd (lpO (fun (x2 : (Str × Int)) (p1 : (List Str)) => (bd (M_is_name_s ((x2).1)) fun v4 =>
    cond ((!v4) || ((p1.contains ((x2).1)))) (none) <|
    gd (p1.length < sizeLine) <|
    lt (p1 ++ [(x2).1]) fun found_1 =>
    some (.nx found_1) : Option (Ou ((List Str)) ((List Str)) (List Str)))) pairs found) fun o3 => ouR o3 fun p1 =>
  some p1
def sp_need_houses_g (K : PySem.W.Frag) : Sp := SpF K (fun x : (List (Str × Int)) => [.vw (x.map e_T_s_i)]) (fun x => M_need_houses_g x) (fun r => .lst ((r.map D.str).map .fz))
abbrev N_need_houses_g : List Str := ["pairs", "found", "house", "weight"]
theorem sc_need_houses_g : FnScope N_need_houses_g ["pairs"] (defScope s_need_houses_g) := ⟨rfl, rfl, rfl, by decide +kernel, rfl, by decide +kernel, by decide +kernel⟩
theorem ok_need_houses_g {f : Addr} {fd : FuncData} (F : Fun K "need_houses" "need_houses" s_need_houses_g f fd) (c_is_name_s : Fn1 P w K mg base "is_name" 1 ["thing"] (sp_is_name_s K)) : FnOk P w K mg base CX0 2 f fd ["pairs"] (sp_need_houses_g K) := by
  refine fn_m F sc_need_houses_g (fun x => rfl) (fun x _ => O.nvL_fz _) fun cdv A outer s H E hr x hx => ?_
  obtain ⟨pairs, r⟩ := x
  replace hx : M_need_houses_g pairs = some r := hx
  have nd := sc_need_houses_g.nd
  unfold M_need_houses_g at hx
  show MS _ [some (.vw (pairs.map e_T_s_i)), none, none, none] _ _
  replace hx := lt_some hx
  obtain ⟨found, efound, hx⟩ := hx
  refine ms_cons (m_set (ps_set (i := 1) nd rfl (Or.inl rfl) pe_w) (ME.is (o' := (.lst ((found.map D.str).map .fz))) (me_lst (ds := [].map D.str) mf_nil) (by rw [efound] <;> rfl)) ?_)
  show MS _ [some (.vw (pairs.map e_T_s_i)), some (.lst ((found.map D.str).map .fz)), none, none] _ _
  replace hx := bd_some hx
  obtain ⟨o3, ho3, hx⟩ := hx
  refine ms_cons (m_forO (xs := pairs) (enc := e_T_s_i) (ps_for PassesOwn.never rfl (pi_list pe_w) (pg_tup (n := 2) rfl (pgs_cons (pg_name (i := 2) nd rfl (Or.inl rfl)) (pgs_cons (pg_name (i := 3) nd rfl (Or.inl rfl)) pgs_nil))) pss_w) (by exact (mi_list (ds := pairs.map e_T_s_i) (mk_var (pv 0) rfl))) ho3 (fun p1 => [some (.vw (pairs.map e_T_s_i)), some (.lst ((p1.map D.str).map .fz)), none, none]) (fun r => .lst ((r.map D.str).map .fz)) le_auto (fun x2 p1 p1o mx hx => ?_) (fun p1 τ e le => ?_) fun q e => ?_)
  ·
    refine ⟨_, _, (mg_tup (mgs_cons mg_name (mgs_cons mg_name mgs_nil)) rfl), ?_⟩
    show MS _ [some (.vw (pairs.map e_T_s_i)), some (.lst ((p1.map D.str).map .fz)), some (.fz (.str ((x2).1))), some (.fz (.int ((x2).2)))] _ _
    replace hx := bd_some hx
    obtain ⟨v4, hv4, hx⟩ := hx
    refine ms_cons (m_if (t := ((!v4) || ((p1.contains ((x2).1))))) (MW.t (mw_or (mt_not (mt_val (me_fn c_is_name_s ((x2).1, v4) (ma_fz (me_var (pv 2) rfl) ma_nil) hv4 (hr.mono (by decide))))) fun _ => (mw_or1 (mt_inLT_s (xs := p1) (me_var (pv 2) rfl) (ml_var (pv 1) rfl))))) (fun h => ?_) fun h => ms_nil ?_)
    · replace hx := cond_t hx h
      cases hx
    replace hx := cond_f hx h
    replace hx := gd_some hx
    obtain ⟨g5, hx⟩ := hx
    replace hx := lt_some hx
    obtain ⟨found_1, efound_1, hx⟩ := hx
    refine ms_one (m_appendT (i := 1) (xs := p1) (enc := D.str) (y := (x2).1) g5 (pv _) rfl (me_var (pv 2) rfl) ?_)
    rw [← efound_1]
    cases hx; exact ⟨_, rfl, le_auto⟩
  · subst e
    dsimp only [ouR] at hx
    refine ms_le le ?_
    show MS _ [some (.vw (pairs.map e_T_s_i)), some (.lst ((p1.map D.str).map .fz)), none, none] _ _
    refine ms_one (m_ret (ps_ret pe_w) (mr_var (pv 1) rfl) ?_)
    cases hx; rfl
  · subst e; cases hx; rfl

abbrev e_N_L_U_Own (C_Own : Addr) (p : (Option (List (Str × Int)))) : D := match p with
  | some v => .lst (v.map (r_Own C_Own))
  | none => .non
noncomputable def M_CoverR___init__ (name : D) (condition : Cd) (clauses : (Option (List (Str × Int)))) (houses : (List (D × D))) (waits : Bool) : Option (Xr Xc (D × Cd × (List (Str × Int)) × (List D) × ((List Int) × (List D)) × Bool)) :=
  bd (M_is_name name) fun v1 =>
  bd (cond (!v1) (some true) (gd (D.ok name ∧ D.ok (.str ("self" : Str))) <| some ((D.eqv name (.str ("self" : Str)))))) fun v3 =>
  cond v3 (some (.er .NoCover)) <|
  lt ([] : List (Str × Int)) fun self_clauses =>
  bd (cond (clauses.isSome) (bd clauses fun v6 =>
    some v6) (some self_clauses) : Option ((List (Str × Int)))) fun p5 =>
  cond (decide (8 < (p5.length : Int))) (some (.er .NoCover)) <|
  lt ([(name, (.int (1 : Int)))] : (List (D × D))) fun pairs =>
  bdx (M_need_houses houses) fun v7 =>
  gd (houses.length < sizeLine) <|
  bd (mpO (fun x10 : (D × D) => some ((x10).2)) houses) fun v11 =>
  bdx (M_DealD___init__ (.lst (v11.map e_d))) fun v12 => none
def sp_CoverR___init__ (K : PySem.W.Frag) (C_CoverR C_Condition C_CauseIs C_ThingIs C_Over C_Own C_DealD C_NoCover C_NoShares : Addr) : Sp := SpXE K (fun x : ((D × Cd × (Option (List (Str × Int))) × (List (D × D)) × Bool) × Xr Xc (D × Cd × (List (Str × Int)) × (List D) × ((List Int) × (List D)) × Bool)) => [.fz x.1.1, .fz ((u_Cd C_Condition C_CauseIs C_ThingIs C_Over) x.1.2.1), .fz ((e_N_L_U_Own C_Own) x.1.2.2.1), .vw (x.1.2.2.2.1.map e_T_d_d), .fz (.bl x.1.2.2.2.2)]) (fun x => M_CoverR___init__ x.1.1 x.1.2.1 x.1.2.2.1 x.1.2.2.2.1 x.1.2.2.2.2 = some x.2) (fun l x => .at l C_CoverR [] []) (fun l x => atX l C_CoverR ["name", "condition", "clauses", "houses", "deal", "waits"] (fun t => [(.fz t.1), (.fz ((u_Cd C_Condition C_CauseIs C_ThingIs C_Over) t.2.1)), (.lst ((t.2.2.1.map (r_Own C_Own)).map .fz)), (.lst ((t.2.2.2.1.map e_d).map .fz))]) x.2) (fun x => exO (t_Xc C_NoCover C_NoShares) (fun _ => .fz .non) x.2)
def spI_CoverR___init__ (K : PySem.W.Frag) (C_CoverR C_Condition C_CauseIs C_ThingIs C_Over C_Own C_DealD C_NoCover C_NoShares : Addr) : Sp := SpIE K C_CoverR ["name", "condition", "clauses", "houses", "deal", "waits"] (fun x : ((D × Cd × (Option (List (Str × Int))) × (List (D × D)) × Bool) × Xr Xc (D × Cd × (List (Str × Int)) × (List D) × ((List Int) × (List D)) × Bool)) => [.fz x.1.1, .fz ((u_Cd C_Condition C_CauseIs C_ThingIs C_Over) x.1.2.1), .fz ((e_N_L_U_Own C_Own) x.1.2.2.1), .vw (x.1.2.2.2.1.map e_T_d_d), .fz (.bl x.1.2.2.2.2)]) (fun x => M_CoverR___init__ x.1.1 x.1.2.1 x.1.2.2.1 x.1.2.2.2.1 x.1.2.2.2.2 = some x.2) (fun x => osX (fun t => [(.fz t.1), (.fz ((u_Cd C_Condition C_CauseIs C_ThingIs C_Over) t.2.1)), (.lst ((t.2.2.1.map (r_Own C_Own)).map .fz)), (.lst ((t.2.2.2.1.map e_d).map .fz))]) x.2) (fun x => erX (t_Xc C_NoCover C_NoShares) x.2)
theorem toI_CoverR___init__ {k : Nat} {f : Addr} {fd : FuncData} {ps : List Str} {C_CoverR C_Condition C_CauseIs C_ThingIs C_Over C_Own C_DealD C_NoCover C_NoShares : Addr} (h : FnOk P w K mg base (L2.CX P w) k f fd ps (sp_CoverR___init__ K C_CoverR C_Condition C_CauseIs C_ThingIs C_Over C_Own C_DealD C_NoCover C_NoShares)) : FnOk P w K mg base (L2.CX P w) k f fd ps (spI_CoverR___init__ K C_CoverR C_Condition C_CauseIs C_ThingIs C_Over C_Own C_DealD C_NoCover C_NoShares) := SpXE.init (fun y => y) h (fun _ => rfl) (fun _ h => h) (fun _ _ => rfl) (fun _ y h => atX_ok y.2 h) (fun y => erX_ex y.2)
abbrev N_CoverR___init__ : List Str := ["self", "name", "condition", "clauses", "houses", "waits", "pairs", "house", "weight"]
theorem sc_CoverR___init__ : FnScope N_CoverR___init__ ["self", "name", "condition", "clauses", "houses", "waits"] (defScope s_CoverR___init__) := ⟨rfl, rfl, rfl, by decide +kernel, rfl, by decide +kernel, by decide +kernel⟩
theorem ok_CoverR___init__ {f : Addr} {fd : FuncData} (F : FunD K "__init__" "Cover.__init__" (defArgs s_CoverR___init__) (defBody s_CoverR___init__) (defScope s_CoverR___init__) [.non, .non, .bl false] [] f fd) (z_list : mg "list" = none) (z_len : mg "len" = none) (g_MOST_CLAUSES : mg "MOST_CLAUSES" = some (.int 8 tkMOST_CLAUSES)) (o_CoverR : OC K C_CoverR ["name", "condition", "clauses", "houses", "deal", "waits"]) (c_is_name : Fn1 P w K mg base "is_name" 1 ["thing"] (sp_is_name K)) (x_NoCover : XcC K mg "NoCover" C_NoCover) (c_need_houses : Fn1E P w K mg base "need_houses" 2 ["pairs"] (sp_need_houses K C_NoCover C_NoShares)) (i_DealD : Mk1E P w K mg base "Deal" C_DealD 4 ["self", "weights"] (spI_DealD___init__ K C_DealD C_NoCover C_NoShares)) : FnOk P w K mg base (L2.CX P w) 6 f fd ["self", "name", "condition", "clauses", "houses", "waits"] (sp_CoverR___init__ K C_CoverR C_Condition C_CauseIs C_ThingIs C_Over C_Own C_DealD C_NoCover C_NoShares) := by
  refine fn_mXED F sc_CoverR___init__ (fun x => rfl) (fun l x _ => atX_nv (fun _ => by simp only [O.nv, O.nvL, O.nvL_fz, Bool.and_self]) x.2) (fun x _ => exO_nv (fun _ => rfl) x.2) (fun l x => atX_at x.2) fun cdv A outer s H E hr po l x hx => ?_
  obtain ⟨⟨name, condition, clauses, houses, waits⟩, r⟩ := x
  replace hx : M_CoverR___init__ name condition clauses houses waits = some r := hx
  have nd := sc_CoverR___init__.nd
  unfold M_CoverR___init__ at hx
  show MS _ [some (.at l C_CoverR [] []), some (.fz name), some (.fz ((u_Cd C_Condition C_CauseIs C_ThingIs C_Over) condition)), some (.fz ((e_N_L_U_Own C_Own) clauses)), some (.vw (houses.map e_T_d_d)), some (.fz (.bl waits)), none, none, none] _ _
  replace hx := bd_some hx
  obtain ⟨v1, hv1, hx⟩ := hx
  replace hx := bd_some hx
  obtain ⟨v3, hv3, hx⟩ := hx
  refine ms_cons (m_if (t := v3) (MW.t (MW.is (mw_or (mt_not (mt_val (me_fn c_is_name (name, v1) (ma_fz (me_var (pv 1) rfl) ma_nil) hv1 (hr.mono (by decide))))) fun q4 => (by have hx := cond_f hv3 q4; replace hx := gd_some hx; obtain ⟨g2, hx⟩ := hx; cases hx; exact (mw_or1 (mt_eqDT (d1 := name) (d2 := (.str ("self" : Str))) hr.units g2 rfl rfl (ME.v (me_var (pv 1) rfl)) (ME.v me_str))))) (or_c hv3))) (fun h => ?_) fun h => ms_nil ?_)
  · replace hx := cond_t hx h
    refine ms_one (m_raise (pm_own x_NoCover) ?_)
    cases hx; exact ⟨rfl, _, rfl⟩
  replace hx := cond_f hx h
  refine ms_cons (m_setFldN (i := 0) (pv _) rfl o_CoverR (me_var (pv 1) rfl) ?_)
  show MS _ [some (.at l C_CoverR ["name"] [(.fz name)]), some (.fz name), some (.fz ((u_Cd C_Condition C_CauseIs C_ThingIs C_Over) condition)), some (.fz ((e_N_L_U_Own C_Own) clauses)), some (.vw (houses.map e_T_d_d)), some (.fz (.bl waits)), none, none, none] _ _
  refine ms_cons (m_setFldN (i := 0) (pv _) rfl o_CoverR (me_var (pv 2) rfl) ?_)
  show MS _ [some (.at l C_CoverR ["name", "condition"] [(.fz name), (.fz ((u_Cd C_Condition C_CauseIs C_ThingIs C_Over) condition))]), some (.fz name), some (.fz ((u_Cd C_Condition C_CauseIs C_ThingIs C_Over) condition)), some (.fz ((e_N_L_U_Own C_Own) clauses)), some (.vw (houses.map e_T_d_d)), some (.fz (.bl waits)), none, none, none] _ _
  replace hx := lt_some hx
  obtain ⟨self_clauses, eself_clauses, hx⟩ := hx
  refine ms_cons (m_setFldN (i := 0) (pv _) rfl o_CoverR (ME.is (o' := (.lst ((self_clauses.map (r_Own C_Own)).map .fz))) (me_lst (ds := [].map (r_Own C_Own)) mf_nil) (by rw [eself_clauses] <;> rfl)) ?_)
  show MS _ [some (.at l C_CoverR ["name", "condition", "clauses"] [(.fz name), (.fz ((u_Cd C_Condition C_CauseIs C_ThingIs C_Over) condition)), (.lst ((self_clauses.map (r_Own C_Own)).map .fz))]), some (.fz name), some (.fz ((u_Cd C_Condition C_CauseIs C_ThingIs C_Over) condition)), some (.fz ((e_N_L_U_Own C_Own) clauses)), some (.vw (houses.map e_T_d_d)), some (.fz (.bl waits)), none, none, none] _ _
  replace hx := bd_some hx
  obtain ⟨p5, hp5, hx⟩ := hx
  refine ms_cons (m_ifP (out := p5) (fun p5 => [some (.at l C_CoverR ["name", "condition", "clauses"] [(.fz name), (.fz ((u_Cd C_Condition C_CauseIs C_ThingIs C_Over) condition)), (.lst ((p5.map (r_Own C_Own)).map .fz))]), some (.fz name), some (.fz ((u_Cd C_Condition C_CauseIs C_ThingIs C_Over) condition)), some (.fz ((e_N_L_U_Own C_Own) clauses)), some (.vw (houses.map e_T_d_d)), some (.fz (.bl waits)), none, none, none]) (t := (clauses.isSome)) (MT.is (l := (clauses.isSome)) (mt_notN (mv_var (pv 3) rfl)) (by cases clauses <;> rfl)) (fun h => ?_) (fun h => ?_) fun τ le => ?_)
  · replace hx := cond_t hp5 h
    replace hx := bd_some hx
    obtain ⟨v6, hv6, hx⟩ := hx
    refine ms_one (m_setFldO (i := 0) (j := 2) (pv _) rfl o_CoverR (me_list (ds := v6.map (r_Own C_Own)) (by rfl) z_list (MV.l (ME.v (ME.is (o' := .fz (.lst (v6.map (r_Own C_Own)))) (me_var (pv 3) rfl) (by rw [hv6]))) (.fz _))) ?_)
    cases hx; exact le_auto
  · replace hx := cond_f hp5 h
    refine ms_nil ?_
    cases hx; exact le_auto
  refine ms_le le ?_
  show MS _ [some (.at l C_CoverR ["name", "condition", "clauses"] [(.fz name), (.fz ((u_Cd C_Condition C_CauseIs C_ThingIs C_Over) condition)), (.lst ((p5.map (r_Own C_Own)).map .fz))]), some (.fz name), some (.fz ((u_Cd C_Condition C_CauseIs C_ThingIs C_Over) condition)), some (.fz ((e_N_L_U_Own C_Own) clauses)), some (.vw (houses.map e_T_d_d)), some (.fz (.bl waits)), none, none, none] _ _
  refine ms_cons (m_if (t := (decide (8 < (p5.length : Int)))) (mt_gt (me_lenLT (xs := p5) (enc := (r_Own C_Own)) (by rfl) z_len (MV.l (mv_fldA (j := 2) (mv_var (pv 0) rfl) (OC.take 3 o_CoverR)) (.own _))) (me_gI g_MOST_CLAUSES)) (fun h => ?_) fun h => ms_nil ?_)
  · replace hx := cond_t hx h
    refine ms_one (m_raise (pm_own x_NoCover) ?_)
    cases hx; exact ⟨rfl, _, rfl⟩
  replace hx := cond_f hx h
  replace hx := lt_some hx
  obtain ⟨pairs, epairs, hx⟩ := hx
  refine ms_cons (m_set (ps_set (i := 6) nd rfl (Or.inl rfl) pe_w) (ME.is (o' := (.lst ((pairs.map e_T_d_d).map .fz))) (me_lst (ds := [(name, (.int (1 : Int)))].map e_T_d_d) (mf_cons (me_tup (mf_cons (me_var (pv 1) rfl) (mf_cons me_int mf_nil))) mf_nil)) (by rw [epairs] <;> rfl)) ?_)
  show MS _ [some (.at l C_CoverR ["name", "condition", "clauses"] [(.fz name), (.fz ((u_Cd C_Condition C_CauseIs C_ThingIs C_Over) condition)), (.lst ((p5.map (r_Own C_Own)).map .fz))]), some (.fz name), some (.fz ((u_Cd C_Condition C_CauseIs C_ThingIs C_Over) condition)), some (.fz ((e_N_L_U_Own C_Own) clauses)), some (.vw (houses.map e_T_d_d)), some (.fz (.bl waits)), some (.lst ((pairs.map e_T_d_d).map .fz)), none, none] _ _
  refine ms_cons (m_if (t := true) (MT.is (l := true) (mt_notN (mv_var (pv 4) rfl)) (by rfl)) (fun _ => ?_) fun h => nomatch h)
  refine ms_one (m_setVw (ps_set (i := 6) nd rfl (Or.inl rfl) pe_w) (mv_var (pv 4) rfl) ?_)
  rcases bdx_some hx with ⟨xe8, hv7, hx⟩ | ⟨v7, hv7, hx⟩
  · refine ms_cons (m_rzFld (i := 0) (pv _) (mz_fn c_need_houses (houses, .er xe8) (ma_vw (ml_var (pv 6) rfl) ma_nil) hv7 (hr.mono (by decide))) ?_)
    cases hx; exact ⟨rfl, _, rfl⟩
  refine ms_cons (m_setFldN (i := 0) (pv _) rfl o_CoverR (me_fn (Fn1E.ok c_need_houses) (houses, .ok v7) (ma_vw (ml_var (pv 6) rfl) ma_nil) ⟨hv7, (by intro _ z; cases z)⟩ (hr.mono (by decide))) ?_)
  show MS _ [some (.at l C_CoverR ["name", "condition", "clauses", "houses"] [(.fz name), (.fz ((u_Cd C_Condition C_CauseIs C_ThingIs C_Over) condition)), (.lst ((p5.map (r_Own C_Own)).map .fz)), (.lst ((v7.map e_d).map .fz))]), some (.fz name), some (.fz ((u_Cd C_Condition C_CauseIs C_ThingIs C_Over) condition)), some (.fz ((e_N_L_U_Own C_Own) clauses)), some (.vw (houses.map e_T_d_d)), some (.fz (.bl waits)), some (.vw (houses.map e_T_d_d)), none, none] _ _
  replace hx := gd_some hx
  obtain ⟨g9, hx⟩ := hx
  replace hx := bd_some hx
  obtain ⟨v11, hv11, hx⟩ := hx
  rcases bdx_some hx with ⟨xe13, hv12, hx⟩ | ⟨v12, hv12, hx⟩
  · refine ms_cons (m_rzFld (i := 0) (pv _) (mz_make i_DealD ((.lst (v11.map e_d)), .er xe13) (ma_fz (ME.frzl (by exact (me_lcO (g := (gTup K 2 (gCons (gName 7) (gCons (gName 8) gNil)))) (xs := houses) (ys := v11) (enc := e_T_d_d) (enc2 := e_d) hv11 (fun te he => pe_lc (own := [("house", 7), ("weight", 8)]) rfl nd (pi_list pe_w) (blkOk_by (N := N_CoverR___init__) (sc := defScope s_CoverR___init__) (by decide +kernel)) (fun _ _ _ _ _ => (pg_tup (n := 2) rfl (pgs_cons (pg_name (i := 7) nd rfl (Or.inl rfl)) (pgs_cons (pg_name (i := 8) nd rfl (Or.inl rfl)) pgs_nil)))) (fun _ _ _ _ _ => pts_nil) he) (mic_list (ml_var (pv 6) rfl)) g9 (fun x10 mx x10y hx => by injection hx with hx; subst x10y; exact ⟨_, _, (mg_tup (mgs_cons mg_name (mgs_cons mg_name mgs_nil)) rfl), by decide, fun s H C cl fp => (me_var (pv 8) rfl)⟩)))) ma_nil) hv12 (hr.mono (by decide))) ?_)
    cases hx; exact ⟨rfl, _, rfl⟩
  · exact nomatch (show (none : Option _) = some _ from hx)

noncomputable def M_Cover___init__ (name : Str) (condition : Cd) (clauses : (List (Str × Int))) (houses : (List (Str × Int))) (waits : Bool) : Option (Str × Cd × (List (Str × Int)) × (List Str) × (List Int) × Bool) :=
  bd (M_is_name_s name) fun v1 =>
  cond ((!v1) || ((name == ("self" : Str)))) (none) <|
  lt ([] : List (Str × Int)) fun self_clauses =>
  cond (decide (8 < (clauses.length : Int))) (none) <|
  lt ([(name, 1)] : (List (Str × Int))) fun pairs =>
  bd (M_need_houses_g houses) fun v2 =>
  gd (houses.length < sizeLine) <|
  bd (mpO (fun x4 : (Str × Int) => some ((x4).2)) houses) fun v5 =>
  gd (WOk v5) <|
  some (name, condition, clauses, v2, v5, waits)
def sp_Cover___init__ (K : PySem.W.Frag) (C_Cover C_Condition C_CauseIs C_ThingIs C_Over C_Own C_Deal : Addr) : Sp := SpX K (fun x : ((Str × Cd × (List (Str × Int)) × (List (Str × Int)) × Bool) × (Str × Cd × (List (Str × Int)) × (List Str) × (List Int) × Bool)) => [.fz (.str x.1.1), .fz ((u_Cd C_Condition C_CauseIs C_ThingIs C_Over) x.1.2.1), .vw (x.1.2.2.1.map (r_Own C_Own)), .vw (x.1.2.2.2.1.map e_T_s_i), .fz (.bl x.1.2.2.2.2)]) (fun x => M_Cover___init__ x.1.1 x.1.2.1 x.1.2.2.1 x.1.2.2.2.1 x.1.2.2.2.2 = some x.2) (fun l x => .at l C_Cover [] []) (fun l x => .at l C_Cover ["name", "condition", "clauses", "houses", "deal", "waits"] [(.fz (.str x.2.1)), (.fz ((u_Cd C_Condition C_CauseIs C_ThingIs C_Over) x.2.2.1)), (.lst ((x.2.2.2.1.map (r_Own C_Own)).map .fz)), (.lst ((x.2.2.2.2.1.map D.str).map .fz)), (.fz ((dealD C_Deal) x.2.2.2.2.2.1)), (.fz (.bl x.2.2.2.2.2.2))]) (fun _ => .fz .non)
def spI_Cover___init__ (K : PySem.W.Frag) (C_Cover C_Condition C_CauseIs C_ThingIs C_Over C_Own C_Deal : Addr) : Sp := SpI K C_Cover ["name", "condition", "clauses", "houses", "deal", "waits"] (fun x : ((Str × Cd × (List (Str × Int)) × (List (Str × Int)) × Bool) × (Str × Cd × (List (Str × Int)) × (List Str) × (List Int) × Bool)) => [.fz (.str x.1.1), .fz ((u_Cd C_Condition C_CauseIs C_ThingIs C_Over) x.1.2.1), .vw (x.1.2.2.1.map (r_Own C_Own)), .vw (x.1.2.2.2.1.map e_T_s_i), .fz (.bl x.1.2.2.2.2)]) (fun x => M_Cover___init__ x.1.1 x.1.2.1 x.1.2.2.1 x.1.2.2.2.1 x.1.2.2.2.2 = some x.2) (fun x => [(.fz (.str x.2.1)), (.fz ((u_Cd C_Condition C_CauseIs C_ThingIs C_Over) x.2.2.1)), (.lst ((x.2.2.2.1.map (r_Own C_Own)).map .fz)), (.lst ((x.2.2.2.2.1.map D.str).map .fz)), (.fz ((dealD C_Deal) x.2.2.2.2.2.1)), (.fz (.bl x.2.2.2.2.2.2))])
theorem toI_Cover___init__ {k : Nat} {f : Addr} {fd : FuncData} {ps : List Str} {C_Cover C_Condition C_CauseIs C_ThingIs C_Over C_Own C_Deal : Addr} (h : FnOk P w K mg base CX0 k f fd ps (sp_Cover___init__ K C_Cover C_Condition C_CauseIs C_ThingIs C_Over C_Own C_Deal)) : FnOk P w K mg base CX0 k f fd ps (spI_Cover___init__ K C_Cover C_Condition C_CauseIs C_ThingIs C_Over C_Own C_Deal) := SpX.init (fun y => y) h (fun _ => rfl) (fun _ h => h) (fun _ _ => rfl) (fun _ _ => rfl)
abbrev N_Cover___init__ : List Str := ["self", "name", "condition", "clauses", "houses", "waits", "pairs", "house", "weight"]
theorem sc_Cover___init__ : FnScope N_Cover___init__ ["self", "name", "condition", "clauses", "houses", "waits"] (defScope s_Cover___init__) := ⟨rfl, rfl, rfl, by decide +kernel, rfl, by decide +kernel, by decide +kernel⟩
theorem ok_Cover___init__ {f : Addr} {fd : FuncData} (F : FunD K "__init__" "Cover.__init__" (defArgs s_Cover___init__) (defBody s_Cover___init__) (defScope s_Cover___init__) [.non, .non, .bl false] [] f fd) (z_list : mg "list" = none) (z_len : mg "len" = none) (g_MOST_CLAUSES : mg "MOST_CLAUSES" = some (.int 8 tkMOST_CLAUSES)) (o_Cover : OC K C_Cover ["name", "condition", "clauses", "houses", "deal", "waits"]) (c_is_name_s : Fn1 P w K mg base "is_name" 1 ["thing"] (sp_is_name_s K)) (c_need_houses_g : Fn1 P w K mg base "need_houses" 2 ["pairs"] (sp_need_houses_g K)) (i_Deal : Mk1 P w K mg base "Deal" C_Deal 4 ["self", "weights"] (sp_Deal___init__ K C_Deal)) : FnOk P w K mg base CX0 6 f fd ["self", "name", "condition", "clauses", "houses", "waits"] (sp_Cover___init__ K C_Cover C_Condition C_CauseIs C_ThingIs C_Over C_Own C_Deal) := by
  refine fn_mXD F sc_Cover___init__ (fun x => rfl) (fun l x _ => by simp only [O.nv, O.nvL, O.nvL_fz, Bool.and_self]) (fun x _ => rfl) (fun l x => ⟨_, _, _, rfl⟩) fun cdv A outer s H E hr l x hx => ?_
  obtain ⟨⟨name, condition, clauses, houses, waits⟩, r⟩ := x
  replace hx : M_Cover___init__ name condition clauses houses waits = some r := hx
  have nd := sc_Cover___init__.nd
  unfold M_Cover___init__ at hx
  show MS _ [some (.at l C_Cover [] []), some (.fz (.str name)), some (.fz ((u_Cd C_Condition C_CauseIs C_ThingIs C_Over) condition)), some (.vw (clauses.map (r_Own C_Own))), some (.vw (houses.map e_T_s_i)), some (.fz (.bl waits)), none, none, none] _ _
  replace hx := bd_some hx
  obtain ⟨v1, hv1, hx⟩ := hx
  refine ms_cons (m_if (t := ((!v1) || ((name == ("self" : Str))))) (MW.t (mw_or (mt_not (mt_val (me_fn c_is_name_s (name, v1) (ma_fz (me_var (pv 1) rfl) ma_nil) hv1 (hr.mono (by decide))))) fun _ => (mw_or1 (mt_eqS (me_var (pv 1) rfl) me_str)))) (fun h => ?_) fun h => ms_nil ?_)
  · replace hx := cond_t hx h
    cases hx
  replace hx := cond_f hx h
  refine ms_cons (m_setFldN (i := 0) (pv _) rfl o_Cover (me_var (pv 1) rfl) ?_)
  show MS _ [some (.at l C_Cover ["name"] [(.fz (.str name))]), some (.fz (.str name)), some (.fz ((u_Cd C_Condition C_CauseIs C_ThingIs C_Over) condition)), some (.vw (clauses.map (r_Own C_Own))), some (.vw (houses.map e_T_s_i)), some (.fz (.bl waits)), none, none, none] _ _
  refine ms_cons (m_setFldN (i := 0) (pv _) rfl o_Cover (me_var (pv 2) rfl) ?_)
  show MS _ [some (.at l C_Cover ["name", "condition"] [(.fz (.str name)), (.fz ((u_Cd C_Condition C_CauseIs C_ThingIs C_Over) condition))]), some (.fz (.str name)), some (.fz ((u_Cd C_Condition C_CauseIs C_ThingIs C_Over) condition)), some (.vw (clauses.map (r_Own C_Own))), some (.vw (houses.map e_T_s_i)), some (.fz (.bl waits)), none, none, none] _ _
  replace hx := lt_some hx
  obtain ⟨self_clauses, eself_clauses, hx⟩ := hx
  refine ms_cons (m_setFldN (i := 0) (pv _) rfl o_Cover (ME.is (o' := (.lst ((self_clauses.map (r_Own C_Own)).map .fz))) (me_lst (ds := [].map (r_Own C_Own)) mf_nil) (by rw [eself_clauses] <;> rfl)) ?_)
  show MS _ [some (.at l C_Cover ["name", "condition", "clauses"] [(.fz (.str name)), (.fz ((u_Cd C_Condition C_CauseIs C_ThingIs C_Over) condition)), (.lst ((self_clauses.map (r_Own C_Own)).map .fz))]), some (.fz (.str name)), some (.fz ((u_Cd C_Condition C_CauseIs C_ThingIs C_Over) condition)), some (.vw (clauses.map (r_Own C_Own))), some (.vw (houses.map e_T_s_i)), some (.fz (.bl waits)), none, none, none] _ _
  refine ms_cons (m_if (t := true) (MT.is (l := true) (mt_notN (mv_var (pv 3) rfl)) (by rfl)) (fun _ => ?_) fun h => nomatch h)
  refine ms_one (m_setFldO (i := 0) (j := 2) (pv _) rfl o_Cover (me_list (ds := clauses.map (r_Own C_Own)) (by rfl) z_list (ml_var (pv 3) rfl)) ?_)
  refine ms_cons (m_if (t := (decide (8 < (clauses.length : Int)))) (mt_gt (me_lenLT (xs := clauses) (enc := (r_Own C_Own)) (by rfl) z_len (MV.l (mv_fldA (j := 2) (mv_var (pv 0) rfl) (OC.take 3 o_Cover)) (.own _))) (me_gI g_MOST_CLAUSES)) (fun h => ?_) fun h => ms_nil ?_)
  · replace hx := cond_t hx h
    cases hx
  replace hx := cond_f hx h
  replace hx := lt_some hx
  obtain ⟨pairs, epairs, hx⟩ := hx
  refine ms_cons (m_set (ps_set (i := 6) nd rfl (Or.inl rfl) pe_w) (ME.is (o' := (.lst ((pairs.map e_T_s_i).map .fz))) (me_lst (ds := [(name, 1)].map e_T_s_i) (mf_cons (me_tup (mf_cons (me_var (pv 1) rfl) (mf_cons me_int mf_nil))) mf_nil)) (by rw [epairs] <;> rfl)) ?_)
  show MS _ [some (.at l C_Cover ["name", "condition", "clauses"] [(.fz (.str name)), (.fz ((u_Cd C_Condition C_CauseIs C_ThingIs C_Over) condition)), (.lst ((clauses.map (r_Own C_Own)).map .fz))]), some (.fz (.str name)), some (.fz ((u_Cd C_Condition C_CauseIs C_ThingIs C_Over) condition)), some (.vw (clauses.map (r_Own C_Own))), some (.vw (houses.map e_T_s_i)), some (.fz (.bl waits)), some (.lst ((pairs.map e_T_s_i).map .fz)), none, none] _ _
  refine ms_cons (m_if (t := true) (MT.is (l := true) (mt_notN (mv_var (pv 4) rfl)) (by rfl)) (fun _ => ?_) fun h => nomatch h)
  refine ms_one (m_setVw (ps_set (i := 6) nd rfl (Or.inl rfl) pe_w) (mv_var (pv 4) rfl) ?_)
  replace hx := bd_some hx
  obtain ⟨v2, hv2, hx⟩ := hx
  refine ms_cons (m_setFldN (i := 0) (pv _) rfl o_Cover (me_fn c_need_houses_g (houses, v2) (ma_vw (ml_var (pv 6) rfl) ma_nil) hv2 (hr.mono (by decide))) ?_)
  show MS _ [some (.at l C_Cover ["name", "condition", "clauses", "houses"] [(.fz (.str name)), (.fz ((u_Cd C_Condition C_CauseIs C_ThingIs C_Over) condition)), (.lst ((clauses.map (r_Own C_Own)).map .fz)), (.lst ((v2.map D.str).map .fz))]), some (.fz (.str name)), some (.fz ((u_Cd C_Condition C_CauseIs C_ThingIs C_Over) condition)), some (.vw (clauses.map (r_Own C_Own))), some (.vw (houses.map e_T_s_i)), some (.fz (.bl waits)), some (.vw (houses.map e_T_s_i)), none, none] _ _
  replace hx := gd_some hx
  obtain ⟨g3, hx⟩ := hx
  replace hx := bd_some hx
  obtain ⟨v5, hv5, hx⟩ := hx
  replace hx := gd_some hx
  obtain ⟨g6, hx⟩ := hx
  refine ms_cons (m_setFldN (i := 0) (pv _) rfl o_Cover (ME.is (o' := .fz (dealD C_Deal v5)) (ME.frz (me_make i_Deal v5 (ma_vw (ME.l (by exact (me_lcO (g := (gTup K 2 (gCons (gName 7) (gCons (gName 8) gNil)))) (xs := houses) (ys := v5) (enc := e_T_s_i) (enc2 := D.int) hv5 (fun te he => pe_lc (own := [("house", 7), ("weight", 8)]) rfl nd (pi_list pe_w) (blkOk_by (N := N_Cover___init__) (sc := defScope s_Cover___init__) (by decide +kernel)) (fun _ _ _ _ _ => (pg_tup (n := 2) rfl (pgs_cons (pg_name (i := 7) nd rfl (Or.inl rfl)) (pgs_cons (pg_name (i := 8) nd rfl (Or.inl rfl)) pgs_nil)))) (fun _ _ _ _ _ => pts_nil) he) (mic_list (ml_var (pv 6) rfl)) g3 (fun x4 mx x4y hx => by injection hx with hx; subst x4y; exact ⟨_, _, (mg_tup (mgs_cons mg_name (mgs_cons mg_name mgs_nil)) rfl), by decide, fun s H C cl fp => (me_var (pv 8) rfl)⟩)))) ma_nil) g6 (hr.mono (by decide))) (nv_deal _ _)) (congrArg O.fz (frz_deal _ _))) ?_)
  show MS _ [some (.at l C_Cover ["name", "condition", "clauses", "houses", "deal"] [(.fz (.str name)), (.fz ((u_Cd C_Condition C_CauseIs C_ThingIs C_Over) condition)), (.lst ((clauses.map (r_Own C_Own)).map .fz)), (.lst ((v2.map D.str).map .fz)), (.fz ((dealD C_Deal) v5))]), some (.fz (.str name)), some (.fz ((u_Cd C_Condition C_CauseIs C_ThingIs C_Over) condition)), some (.vw (clauses.map (r_Own C_Own))), some (.vw (houses.map e_T_s_i)), some (.fz (.bl waits)), some (.vw (houses.map e_T_s_i)), none, none] _ _
  refine ms_one (m_setFldN (i := 0) (pv _) rfl o_Cover (me_var (pv 5) rfl) ?_)
  cases hx; exact ⟨rfl, rfl⟩

noncomputable def M_CoverP___init__ (name : Str) (condition : Cd) (clauses : Unit) (houses : Unit) (waits : Bool) : Option (Str × Cd × (List (Str × Int)) × (List Str) × (List Int) × Bool) :=
  bd (M_is_name_s name) fun v1 =>
  cond ((!v1) || ((name == ("self" : Str)))) (none) <|
  lt ([] : List (Str × Int)) fun self_clauses =>
  cond (decide (8 < (self_clauses.length : Int))) (none) <|
  lt ([(name, 1)] : (List (Str × Int))) fun pairs =>
  bd (M_need_houses_g pairs) fun v2 =>
  gd (pairs.length < sizeLine) <|
  bd (mpO (fun x4 : (Str × Int) => some ((x4).2)) pairs) fun v5 =>
  gd (WOk v5) <|
  some (name, condition, self_clauses, v2, v5, waits)
def sp_CoverP___init__ (K : PySem.W.Frag) (C_CoverP C_Condition C_CauseIs C_ThingIs C_Over C_Own C_Deal : Addr) : Sp := SpX K (fun x : ((Str × Cd × Unit × Unit × Bool) × (Str × Cd × (List (Str × Int)) × (List Str) × (List Int) × Bool)) => [.fz (.str x.1.1), .fz ((u_Cd C_Condition C_CauseIs C_ThingIs C_Over) x.1.2.1), .fz (.non), .fz (.non), .fz (.bl x.1.2.2.2.2)]) (fun x => M_CoverP___init__ x.1.1 x.1.2.1 x.1.2.2.1 x.1.2.2.2.1 x.1.2.2.2.2 = some x.2) (fun l x => .at l C_CoverP [] []) (fun l x => .at l C_CoverP ["name", "condition", "clauses", "houses", "deal", "waits"] [(.fz (.str x.2.1)), (.fz ((u_Cd C_Condition C_CauseIs C_ThingIs C_Over) x.2.2.1)), (.lst ((x.2.2.2.1.map (r_Own C_Own)).map .fz)), (.lst ((x.2.2.2.2.1.map D.str).map .fz)), (.fz ((dealD C_Deal) x.2.2.2.2.2.1)), (.fz (.bl x.2.2.2.2.2.2))]) (fun _ => .fz .non)
def spI_CoverP___init__ (K : PySem.W.Frag) (C_CoverP C_Condition C_CauseIs C_ThingIs C_Over C_Own C_Deal : Addr) : Sp := SpI K C_CoverP ["name", "condition", "clauses", "houses", "deal", "waits"] (fun x : ((Str × Cd × Unit × Unit × Bool) × (Str × Cd × (List (Str × Int)) × (List Str) × (List Int) × Bool)) => [.fz (.str x.1.1), .fz ((u_Cd C_Condition C_CauseIs C_ThingIs C_Over) x.1.2.1), .fz (.non), .fz (.non), .fz (.bl x.1.2.2.2.2)]) (fun x => M_CoverP___init__ x.1.1 x.1.2.1 x.1.2.2.1 x.1.2.2.2.1 x.1.2.2.2.2 = some x.2) (fun x => [(.fz (.str x.2.1)), (.fz ((u_Cd C_Condition C_CauseIs C_ThingIs C_Over) x.2.2.1)), (.lst ((x.2.2.2.1.map (r_Own C_Own)).map .fz)), (.lst ((x.2.2.2.2.1.map D.str).map .fz)), (.fz ((dealD C_Deal) x.2.2.2.2.2.1)), (.fz (.bl x.2.2.2.2.2.2))])
theorem toI_CoverP___init__ {k : Nat} {f : Addr} {fd : FuncData} {ps : List Str} {C_CoverP C_Condition C_CauseIs C_ThingIs C_Over C_Own C_Deal : Addr} (h : FnOk P w K mg base CX0 k f fd ps (sp_CoverP___init__ K C_CoverP C_Condition C_CauseIs C_ThingIs C_Over C_Own C_Deal)) : FnOk P w K mg base CX0 k f fd ps (spI_CoverP___init__ K C_CoverP C_Condition C_CauseIs C_ThingIs C_Over C_Own C_Deal) := SpX.init (fun y => y) h (fun _ => rfl) (fun _ h => h) (fun _ _ => rfl) (fun _ _ => rfl)
abbrev N_CoverP___init__ : List Str := ["self", "name", "condition", "clauses", "houses", "waits", "pairs", "house", "weight"]
theorem sc_CoverP___init__ : FnScope N_CoverP___init__ ["self", "name", "condition", "clauses", "houses", "waits"] (defScope s_CoverP___init__) := ⟨rfl, rfl, rfl, by decide +kernel, rfl, by decide +kernel, by decide +kernel⟩
theorem ok_CoverP___init__ {f : Addr} {fd : FuncData} (F : FunD K "__init__" "Cover.__init__" (defArgs s_CoverP___init__) (defBody s_CoverP___init__) (defScope s_CoverP___init__) [.non, .non, .bl false] [] f fd) (z_len : mg "len" = none) (g_MOST_CLAUSES : mg "MOST_CLAUSES" = some (.int 8 tkMOST_CLAUSES)) (o_CoverP : OC K C_CoverP ["name", "condition", "clauses", "houses", "deal", "waits"]) (c_is_name_s : Fn1 P w K mg base "is_name" 1 ["thing"] (sp_is_name_s K)) (c_need_houses_g : Fn1 P w K mg base "need_houses" 2 ["pairs"] (sp_need_houses_g K)) (i_Deal : Mk1 P w K mg base "Deal" C_Deal 4 ["self", "weights"] (sp_Deal___init__ K C_Deal)) : FnOk P w K mg base CX0 6 f fd ["self", "name", "condition", "clauses", "houses", "waits"] (sp_CoverP___init__ K C_CoverP C_Condition C_CauseIs C_ThingIs C_Over C_Own C_Deal) := by
  refine fn_mXD F sc_CoverP___init__ (fun x => rfl) (fun l x _ => by simp only [O.nv, O.nvL, O.nvL_fz, Bool.and_self]) (fun x _ => rfl) (fun l x => ⟨_, _, _, rfl⟩) fun cdv A outer s H E hr l x hx => ?_
  obtain ⟨⟨name, condition, clauses, houses, waits⟩, r⟩ := x
  replace hx : M_CoverP___init__ name condition clauses houses waits = some r := hx
  have nd := sc_CoverP___init__.nd
  unfold M_CoverP___init__ at hx
  show MS _ [some (.at l C_CoverP [] []), some (.fz (.str name)), some (.fz ((u_Cd C_Condition C_CauseIs C_ThingIs C_Over) condition)), some (.fz (.non)), some (.fz (.non)), some (.fz (.bl waits)), none, none, none] _ _
  replace hx := bd_some hx
  obtain ⟨v1, hv1, hx⟩ := hx
  refine ms_cons (m_if (t := ((!v1) || ((name == ("self" : Str))))) (MW.t (mw_or (mt_not (mt_val (me_fn c_is_name_s (name, v1) (ma_fz (me_var (pv 1) rfl) ma_nil) hv1 (hr.mono (by decide))))) fun _ => (mw_or1 (mt_eqS (me_var (pv 1) rfl) me_str)))) (fun h => ?_) fun h => ms_nil ?_)
  · replace hx := cond_t hx h
    cases hx
  replace hx := cond_f hx h
  refine ms_cons (m_setFldN (i := 0) (pv _) rfl o_CoverP (me_var (pv 1) rfl) ?_)
  show MS _ [some (.at l C_CoverP ["name"] [(.fz (.str name))]), some (.fz (.str name)), some (.fz ((u_Cd C_Condition C_CauseIs C_ThingIs C_Over) condition)), some (.fz (.non)), some (.fz (.non)), some (.fz (.bl waits)), none, none, none] _ _
  refine ms_cons (m_setFldN (i := 0) (pv _) rfl o_CoverP (me_var (pv 2) rfl) ?_)
  show MS _ [some (.at l C_CoverP ["name", "condition"] [(.fz (.str name)), (.fz ((u_Cd C_Condition C_CauseIs C_ThingIs C_Over) condition))]), some (.fz (.str name)), some (.fz ((u_Cd C_Condition C_CauseIs C_ThingIs C_Over) condition)), some (.fz (.non)), some (.fz (.non)), some (.fz (.bl waits)), none, none, none] _ _
  replace hx := lt_some hx
  obtain ⟨self_clauses, eself_clauses, hx⟩ := hx
  refine ms_cons (m_setFldN (i := 0) (pv _) rfl o_CoverP (ME.is (o' := (.lst ((self_clauses.map (r_Own C_Own)).map .fz))) (me_lst (ds := [].map (r_Own C_Own)) mf_nil) (by rw [eself_clauses] <;> rfl)) ?_)
  show MS _ [some (.at l C_CoverP ["name", "condition", "clauses"] [(.fz (.str name)), (.fz ((u_Cd C_Condition C_CauseIs C_ThingIs C_Over) condition)), (.lst ((self_clauses.map (r_Own C_Own)).map .fz))]), some (.fz (.str name)), some (.fz ((u_Cd C_Condition C_CauseIs C_ThingIs C_Over) condition)), some (.fz (.non)), some (.fz (.non)), some (.fz (.bl waits)), none, none, none] _ _
  refine ms_cons (m_if (t := false) (MT.is (l := false) (mt_notN (mv_var (pv 3) rfl)) (by rfl)) (fun h => nomatch h) fun _ => ?_)
  refine ms_nil ?_
  refine ms_cons (m_if (t := (decide (8 < (self_clauses.length : Int)))) (mt_gt (me_lenLT (xs := self_clauses) (enc := (r_Own C_Own)) (by rfl) z_len (MV.l (mv_fldA (j := 2) (mv_var (pv 0) rfl) (OC.take 3 o_CoverP)) (.own _))) (me_gI g_MOST_CLAUSES)) (fun h => ?_) fun h => ms_nil ?_)
  · replace hx := cond_t hx h
    cases hx
  replace hx := cond_f hx h
  replace hx := lt_some hx
  obtain ⟨pairs, epairs, hx⟩ := hx
  refine ms_cons (m_set (ps_set (i := 6) nd rfl (Or.inl rfl) pe_w) (ME.is (o' := (.lst ((pairs.map e_T_s_i).map .fz))) (me_lst (ds := [(name, 1)].map e_T_s_i) (mf_cons (me_tup (mf_cons (me_var (pv 1) rfl) (mf_cons me_int mf_nil))) mf_nil)) (by rw [epairs] <;> rfl)) ?_)
  show MS _ [some (.at l C_CoverP ["name", "condition", "clauses"] [(.fz (.str name)), (.fz ((u_Cd C_Condition C_CauseIs C_ThingIs C_Over) condition)), (.lst ((self_clauses.map (r_Own C_Own)).map .fz))]), some (.fz (.str name)), some (.fz ((u_Cd C_Condition C_CauseIs C_ThingIs C_Over) condition)), some (.fz (.non)), some (.fz (.non)), some (.fz (.bl waits)), some (.lst ((pairs.map e_T_s_i).map .fz)), none, none] _ _
  refine ms_cons (m_if (t := false) (MT.is (l := false) (mt_notN (mv_var (pv 4) rfl)) (by rfl)) (fun h => nomatch h) fun _ => ?_)
  refine ms_nil ?_
  replace hx := bd_some hx
  obtain ⟨v2, hv2, hx⟩ := hx
  refine ms_cons (m_setFldN (i := 0) (pv _) rfl o_CoverP (me_fn c_need_houses_g (pairs, v2) (ma_vw (ml_var (pv 6) rfl) ma_nil) hv2 (hr.mono (by decide))) ?_)
  show MS _ [some (.at l C_CoverP ["name", "condition", "clauses", "houses"] [(.fz (.str name)), (.fz ((u_Cd C_Condition C_CauseIs C_ThingIs C_Over) condition)), (.lst ((self_clauses.map (r_Own C_Own)).map .fz)), (.lst ((v2.map D.str).map .fz))]), some (.fz (.str name)), some (.fz ((u_Cd C_Condition C_CauseIs C_ThingIs C_Over) condition)), some (.fz (.non)), some (.fz (.non)), some (.fz (.bl waits)), some (.lst ((pairs.map e_T_s_i).map .fz)), none, none] _ _
  replace hx := gd_some hx
  obtain ⟨g3, hx⟩ := hx
  replace hx := bd_some hx
  obtain ⟨v5, hv5, hx⟩ := hx
  replace hx := gd_some hx
  obtain ⟨g6, hx⟩ := hx
  refine ms_cons (m_setFldN (i := 0) (pv _) rfl o_CoverP (ME.is (o' := .fz (dealD C_Deal v5)) (ME.frz (me_make i_Deal v5 (ma_vw (ME.l (by exact (me_lcO (g := (gTup K 2 (gCons (gName 7) (gCons (gName 8) gNil)))) (xs := pairs) (ys := v5) (enc := e_T_s_i) (enc2 := D.int) hv5 (fun te he => pe_lc (own := [("house", 7), ("weight", 8)]) rfl nd (pi_list pe_w) (blkOk_by (N := N_CoverP___init__) (sc := defScope s_CoverP___init__) (by decide +kernel)) (fun _ _ _ _ _ => (pg_tup (n := 2) rfl (pgs_cons (pg_name (i := 7) nd rfl (Or.inl rfl)) (pgs_cons (pg_name (i := 8) nd rfl (Or.inl rfl)) pgs_nil)))) (fun _ _ _ _ _ => pts_nil) he) (mic_list (ml_var (pv 6) rfl)) g3 (fun x4 mx x4y hx => by injection hx with hx; subst x4y; exact ⟨_, _, (mg_tup (mgs_cons mg_name (mgs_cons mg_name mgs_nil)) rfl), by decide, fun s H C cl fp => (me_var (pv 8) rfl)⟩)))) ma_nil) g6 (hr.mono (by decide))) (nv_deal _ _)) (congrArg O.fz (frz_deal _ _))) ?_)
  show MS _ [some (.at l C_CoverP ["name", "condition", "clauses", "houses", "deal"] [(.fz (.str name)), (.fz ((u_Cd C_Condition C_CauseIs C_ThingIs C_Over) condition)), (.lst ((self_clauses.map (r_Own C_Own)).map .fz)), (.lst ((v2.map D.str).map .fz)), (.fz ((dealD C_Deal) v5))]), some (.fz (.str name)), some (.fz ((u_Cd C_Condition C_CauseIs C_ThingIs C_Over) condition)), some (.fz (.non)), some (.fz (.non)), some (.fz (.bl waits)), some (.lst ((pairs.map e_T_s_i).map .fz)), none, none] _ _
  refine ms_one (m_setFldN (i := 0) (pv _) rfl o_CoverP (me_var (pv 5) rfl) ?_)
  cases hx; exact ⟨rfl, rfl⟩

noncomputable def U_Cd_holds (v : Cd) (y0 : (Int × Int × Str × Str × Str × Int)) : Option Bool := match v with
  | .plain p => M_Condition_holds (.plain p) y0
  | .cause p => M_CauseIs_holds p y0
  | .thing p => M_ThingIs_holds p y0
  | .over p => M_Over_holds p y0
noncomputable def M_Cover_asks (self : (Str × Cd × (List (Str × Int)) × (List Str) × (List Int) × Bool)) (loss : (Int × Int × Str × Str × Str × Int)) : Option Bool :=
  bd (U_Cd_holds self.2.1 loss) fun v1 =>
  some v1
def sp_Cover_asks (K : PySem.W.Frag) (C_Cover C_Condition C_CauseIs C_ThingIs C_Over C_Own C_Deal : Addr) : Sp := SpF K (fun x : (Str × Cd × (List (Str × Int)) × (List Str) × (List Int) × Bool) × (Int × Int × Str × Str × Str × Int) => [.fz ((r_Cover C_Cover C_Condition C_CauseIs C_ThingIs C_Over C_Own C_Deal) x.1), .fz (e_T_i_i_s_s_s_i x.2)]) (fun x => M_Cover_asks x.1 x.2) (fun r => .fz (.bl r))
abbrev N_Cover_asks : List Str := ["self", "loss"]
theorem sc_Cover_asks : FnScope N_Cover_asks ["self", "loss"] (defScope s_Cover_asks) := ⟨rfl, rfl, rfl, by decide +kernel, rfl, by decide +kernel, by decide +kernel⟩
theorem ok_Cover_asks {f : Addr} {fd : FuncData} (F : Fun K "asks" "Cover.asks" s_Cover_asks f fd) (o_Cover : OC K C_Cover ["name", "condition", "clauses", "houses", "deal", "waits"]) (o_Condition : OC K C_Condition []) (o_CauseIs : OC K C_CauseIs ["name"]) (o_ThingIs : OC K C_ThingIs ["name"]) (o_Over : OC K C_Over ["cents"]) (m_Condition_holds : Mt1 P w K mg base C_Condition "holds" 1 ["self", "loss"] (sp_Condition_holds K C_Condition C_CauseIs C_ThingIs C_Over)) (m_CauseIs_holds : Mt1 P w K mg base C_CauseIs "holds" 1 ["self", "loss"] (sp_CauseIs_holds K C_CauseIs)) (m_ThingIs_holds : Mt1 P w K mg base C_ThingIs "holds" 1 ["self", "loss"] (sp_ThingIs_holds K C_ThingIs)) (m_Over_holds : Mt1 P w K mg base C_Over "holds" 1 ["self", "loss"] (sp_Over_holds K C_Over)) : FnOk P w K mg base CX0 2 f fd ["self", "loss"] (sp_Cover_asks K C_Cover C_Condition C_CauseIs C_ThingIs C_Over C_Own C_Deal) := by
  refine fn_m F sc_Cover_asks (fun x => rfl) (fun x _ => rfl) fun cdv A outer s H E hr x hx => ?_
  obtain ⟨⟨self, loss⟩, r⟩ := x
  replace hx : M_Cover_asks self loss = some r := hx
  have nd := sc_Cover_asks.nd
  unfold M_Cover_asks at hx
  show MS _ [some (.fz ((r_Cover C_Cover C_Condition C_CauseIs C_ThingIs C_Over C_Own C_Deal) self)), some (.fz (e_T_i_i_s_s_s_i loss))] _ _
  replace hx := bd_some hx
  obtain ⟨v1, hv1, hx⟩ := hx
  refine ms_one (m_ret (ps_ret pe_w) (ME.r (show ME _ _ _ (.fz (.bl v1)) from by obtain ⟨cc, hv⟩ : ∃ cc, self.2.1 = cc := ⟨_, rfl⟩; cases cc with | plain p => exact me_mt m_Condition_holds o_Condition (((.plain p), loss), v1) (MV.as (ME.v (me_fld (j := 1) (mv_var (pv 0) rfl) o_Cover)) (congrArg (u_Cd C_Condition C_CauseIs C_ThingIs C_Over) hv)) (ma_fz (me_var (pv 1) rfl) ma_nil) rfl ((congrArg (fun q => U_Cd_holds q loss) hv).symm.trans hv1) (hr.mono (by decide)) | cause p => exact me_mt m_CauseIs_holds o_CauseIs ((p, loss), v1) (MV.as (ME.v (me_fld (j := 1) (mv_var (pv 0) rfl) o_Cover)) ((congrArg (u_Cd C_Condition C_CauseIs C_ThingIs C_Over) hv).trans (u_Cd_cause C_Condition C_CauseIs C_ThingIs C_Over _))) (ma_fz (me_var (pv 1) rfl) ma_nil) rfl ((congrArg (fun q => U_Cd_holds q loss) hv).symm.trans hv1) (hr.mono (by decide)) | thing p => exact me_mt m_ThingIs_holds o_ThingIs ((p, loss), v1) (MV.as (ME.v (me_fld (j := 1) (mv_var (pv 0) rfl) o_Cover)) ((congrArg (u_Cd C_Condition C_CauseIs C_ThingIs C_Over) hv).trans (u_Cd_thing C_Condition C_CauseIs C_ThingIs C_Over _))) (ma_fz (me_var (pv 1) rfl) ma_nil) rfl ((congrArg (fun q => U_Cd_holds q loss) hv).symm.trans hv1) (hr.mono (by decide)) | over p => exact me_mt m_Over_holds o_Over ((p, loss), v1) (MV.as (ME.v (me_fld (j := 1) (mv_var (pv 0) rfl) o_Cover)) ((congrArg (u_Cd C_Condition C_CauseIs C_ThingIs C_Over) hv).trans (u_Cd_over C_Condition C_CauseIs C_ThingIs C_Over _))) (ma_fz (me_var (pv 1) rfl) ma_nil) rfl ((congrArg (fun q => U_Cd_holds q loss) hv).symm.trans hv1) (hr.mono (by decide)))) ?_)
  cases hx; rfl

noncomputable def M_CoverP_asks (self : (Str × Cd × (List (Str × Int)) × (List Str) × (List Int) × Bool)) (loss : (Int × Int × Str × Str × Str × Int)) : Option Bool :=
  bd (U_Cd_holds self.2.1 loss) fun v1 =>
  some v1
def sp_CoverP_asks (K : PySem.W.Frag) (C_CoverP C_Condition C_CauseIs C_ThingIs C_Over C_Own C_Deal : Addr) : Sp := SpF K (fun x : (Str × Cd × (List (Str × Int)) × (List Str) × (List Int) × Bool) × (Int × Int × Str × Str × Str × Int) => [.fz ((r_CoverP C_CoverP C_Condition C_CauseIs C_ThingIs C_Over C_Own C_Deal) x.1), .fz (e_T_i_i_s_s_s_i x.2)]) (fun x => M_CoverP_asks x.1 x.2) (fun r => .fz (.bl r))
abbrev N_CoverP_asks : List Str := ["self", "loss"]
theorem sc_CoverP_asks : FnScope N_CoverP_asks ["self", "loss"] (defScope s_CoverP_asks) := ⟨rfl, rfl, rfl, by decide +kernel, rfl, by decide +kernel, by decide +kernel⟩
theorem ok_CoverP_asks {f : Addr} {fd : FuncData} (F : Fun K "asks" "Cover.asks" s_CoverP_asks f fd) (o_CoverP : OC K C_CoverP ["name", "condition", "clauses", "houses", "deal", "waits"]) (o_Condition : OC K C_Condition []) (o_CauseIs : OC K C_CauseIs ["name"]) (o_ThingIs : OC K C_ThingIs ["name"]) (o_Over : OC K C_Over ["cents"]) (m_Condition_holds : Mt1 P w K mg base C_Condition "holds" 1 ["self", "loss"] (sp_Condition_holds K C_Condition C_CauseIs C_ThingIs C_Over)) (m_CauseIs_holds : Mt1 P w K mg base C_CauseIs "holds" 1 ["self", "loss"] (sp_CauseIs_holds K C_CauseIs)) (m_ThingIs_holds : Mt1 P w K mg base C_ThingIs "holds" 1 ["self", "loss"] (sp_ThingIs_holds K C_ThingIs)) (m_Over_holds : Mt1 P w K mg base C_Over "holds" 1 ["self", "loss"] (sp_Over_holds K C_Over)) : FnOk P w K mg base CX0 2 f fd ["self", "loss"] (sp_CoverP_asks K C_CoverP C_Condition C_CauseIs C_ThingIs C_Over C_Own C_Deal) := by
  refine fn_m F sc_CoverP_asks (fun x => rfl) (fun x _ => rfl) fun cdv A outer s H E hr x hx => ?_
  obtain ⟨⟨self, loss⟩, r⟩ := x
  replace hx : M_CoverP_asks self loss = some r := hx
  have nd := sc_CoverP_asks.nd
  unfold M_CoverP_asks at hx
  show MS _ [some (.fz ((r_CoverP C_CoverP C_Condition C_CauseIs C_ThingIs C_Over C_Own C_Deal) self)), some (.fz (e_T_i_i_s_s_s_i loss))] _ _
  replace hx := bd_some hx
  obtain ⟨v1, hv1, hx⟩ := hx
  refine ms_one (m_ret (ps_ret pe_w) (ME.r (show ME _ _ _ (.fz (.bl v1)) from by obtain ⟨cc, hv⟩ : ∃ cc, self.2.1 = cc := ⟨_, rfl⟩; cases cc with | plain p => exact me_mt m_Condition_holds o_Condition (((.plain p), loss), v1) (MV.as (ME.v (me_fld (j := 1) (mv_var (pv 0) rfl) o_CoverP)) (congrArg (u_Cd C_Condition C_CauseIs C_ThingIs C_Over) hv)) (ma_fz (me_var (pv 1) rfl) ma_nil) rfl ((congrArg (fun q => U_Cd_holds q loss) hv).symm.trans hv1) (hr.mono (by decide)) | cause p => exact me_mt m_CauseIs_holds o_CauseIs ((p, loss), v1) (MV.as (ME.v (me_fld (j := 1) (mv_var (pv 0) rfl) o_CoverP)) ((congrArg (u_Cd C_Condition C_CauseIs C_ThingIs C_Over) hv).trans (u_Cd_cause C_Condition C_CauseIs C_ThingIs C_Over _))) (ma_fz (me_var (pv 1) rfl) ma_nil) rfl ((congrArg (fun q => U_Cd_holds q loss) hv).symm.trans hv1) (hr.mono (by decide)) | thing p => exact me_mt m_ThingIs_holds o_ThingIs ((p, loss), v1) (MV.as (ME.v (me_fld (j := 1) (mv_var (pv 0) rfl) o_CoverP)) ((congrArg (u_Cd C_Condition C_CauseIs C_ThingIs C_Over) hv).trans (u_Cd_thing C_Condition C_CauseIs C_ThingIs C_Over _))) (ma_fz (me_var (pv 1) rfl) ma_nil) rfl ((congrArg (fun q => U_Cd_holds q loss) hv).symm.trans hv1) (hr.mono (by decide)) | over p => exact me_mt m_Over_holds o_Over ((p, loss), v1) (MV.as (ME.v (me_fld (j := 1) (mv_var (pv 0) rfl) o_CoverP)) ((congrArg (u_Cd C_Condition C_CauseIs C_ThingIs C_Over) hv).trans (u_Cd_over C_Condition C_CauseIs C_ThingIs C_Over _))) (ma_fz (me_var (pv 1) rfl) ma_nil) rfl ((congrArg (fun q => U_Cd_holds q loss) hv).symm.trans hv1) (hr.mono (by decide)))) ?_)
  cases hx; rfl
noncomputable def M__law_cell (script : (List Int)) (k_0 : Int) : Option Int :=
  cond (decide (k_0 < (script.length : Int))) (bd (L2.atI script k_0) fun v1 =>
    some v1) <|
  some (0 : Int)
def sp__law_cell (K : PySem.W.Frag) : Sp := SpF K (fun x : (List Int) × Int => [.vw (x.1.map D.int), .fz (.int x.2)]) (fun x => M__law_cell x.1 x.2) (fun r => .fz (.int r))
abbrev N__law_cell : List Str := ["_law_script", "_law_k"]
theorem sc__law_cell : FnScope N__law_cell ["_law_script", "_law_k"] (defScope s__law_cell) := ⟨rfl, rfl, rfl, by decide +kernel, rfl, by decide +kernel, by decide +kernel⟩
theorem ok__law_cell {f : Addr} {fd : FuncData} (F : Fun K "_law_cell" "_law_cell" s__law_cell f fd) (z_len : mg "len" = none) : FnOk P w K mg base CX0 1 f fd ["_law_script", "_law_k"] (sp__law_cell K) := by
  refine fn_m F sc__law_cell (fun x => rfl) (fun x _ => rfl) fun cdv A outer s H E hr x hx => ?_
  obtain ⟨⟨script, k_0⟩, r⟩ := x
  replace hx : M__law_cell script k_0 = some r := hx
  have nd := sc__law_cell.nd
  unfold M__law_cell at hx
  show MS _ [some (.vw (script.map D.int)), some (.fz (.int k_0))] _ _
  refine ms_cons (m_if (t := (decide (k_0 < (script.length : Int)))) (mt_lt (me_var (pv 1) rfl) (me_lenLT (xs := script) (enc := D.int) (by rfl) z_len (ml_var (pv 0) rfl))) (fun h => ?_) fun h => ms_nil ?_)
  · replace hx := cond_t hx h
    replace hx := bd_some hx
    obtain ⟨v1, hv1, hx⟩ := hx
    refine ms_one (m_ret (ps_ret pe_w) (ME.r (me_ixLT (xs := script) (enc := D.int) hv1 (ml_var (pv 0) rfl) (me_var (pv 1) rfl))) ?_)
    cases hx; rfl
  replace hx := cond_f hx h
  refine ms_one (m_ret (ps_ret pe_w) (ME.r me_int) ?_)
  cases hx; rfl

noncomputable def M__law_names (cell_here : Int) : Option (List Str) :=
  lt ("abcdefghijklmnopqrstuvwxyz" : Str) fun letters =>
  gd (-(2 ^ 62) ≤ (1 + (cell_here % 8)) ∧ (1 + (cell_here % 8)) < 2 ^ 62) <|
  gd ((List.range (1 + (cell_here % 8)).toNat).length < sizeLine) <|
  bd (mpO (fun x3 : Nat => gd (CDiv cell_here ((x3 : Int) + 2)) <| gd (CMul (x3 : Int) (x3 : Int)) <| some (((cell_here / ((x3 : Int) + 2)) + ((x3 : Int) * (x3 : Int))) % 26)) (List.range (1 + (cell_here % 8)).toNat)) fun v6 =>
  gd (0 < (v6.length : Int)) <|
  lt ((cell_here / 8) % (v6.length : Int)) fun at_0 =>
  lt ([] : List Str) fun names_here =>
  bd (lp (fun (x9 : Nat) (p8 : (List Str)) => (lt ("" : Str) fun name =>
    gd (-(2 ^ 62) ≤ (v6.length : Int) ∧ (v6.length : Int) < 2 ^ 62) <|
    bd (lp (fun (x13 : Nat) (p12 : Str) => (bd (L2.atI v6 (x13 : Int)) fun v15 =>
      gd (CMul (x9 : Int) (if (((x13 : Int) == at_0)) then 1 else 0)) <|
      bd (L2.atI letters.cps.toList ((v15 + ((x9 : Int) * (if (((x13 : Int) == at_0)) then 1 else 0))) % 26)) fun c17 =>
      gd (letters.length ≤ sizeLine) <|
      gd (p12.length + (sg1 c17).length ≤ sizeLine) <|
      lt (p12 ++ (sg1 c17)) fun name_1 =>
      some name_1 : Option (Str))) (List.range (v6.length : Int).toNat) name) fun p14 =>
    bd (cond ((p14 == ("self" : Str))) (lt ("selfs" : Str) fun name_2 =>
      some name_2) (some p14) : Option (Str)) fun p20 =>
    gd (p8.length < sizeLine) <|
    lt (p8 ++ [p20]) fun names_here_1 =>
    some names_here_1 : Option ((List Str)))) (List.range (10 : Int).toNat) names_here) fun p10 =>
  some p10
def sp__law_names (K : PySem.W.Frag) : Sp := SpF K (fun x : Int => [.fz (.int x)]) (fun x => M__law_names x) (fun r => .lst ((r.map D.str).map .fz))
abbrev N__law_names : List Str := ["_law_cell_here", "_law_letters", "_law_base", "_law_at", "_law_names_here", "_law_k", "_law_name", "_law_j"]
theorem sc__law_names : FnScope N__law_names ["_law_cell_here"] (defScope s__law_names) := ⟨rfl, rfl, rfl, by decide +kernel, rfl, by decide +kernel, by decide +kernel⟩
theorem ok__law_names {f : Addr} {fd : FuncData} (F : Fun K "_law_names" "_law_names" s__law_names f fd) (z_range : mg "range" = none) (z_len : mg "len" = none) (z_int : mg "int" = none) : FnOk P w K mg base CX0 1 f fd ["_law_cell_here"] (sp__law_names K) := by
  refine fn_m F sc__law_names (fun x => rfl) (fun x _ => O.nvL_fz _) fun cdv A outer s H E hr x hx => ?_
  obtain ⟨cell_here, r⟩ := x
  replace hx : M__law_names cell_here = some r := hx
  have nd := sc__law_names.nd
  unfold M__law_names at hx
  show MS _ [some (.fz (.int cell_here)), none, none, none, none, none, none, none] _ _
  replace hx := lt_some hx
  obtain ⟨letters, eletters, hx⟩ := hx
  refine ms_cons (m_set (ps_set (i := 1) nd rfl (Or.inl rfl) pe_w) (ME.is (o' := (.fz (.str letters))) me_str (by rw [eletters] <;> rfl)) ?_)
  show MS _ [some (.fz (.int cell_here)), some (.fz (.str letters)), none, none, none, none, none, none] _ _
  replace hx := gd_some hx
  obtain ⟨g1, hx⟩ := hx
  replace hx := gd_some hx
  obtain ⟨g2, hx⟩ := hx
  replace hx := bd_some hx
  obtain ⟨v6, hv6, hx⟩ := hx
  refine ms_cons (m_setLcO (i := 2) (g := (gName 7)) (xs := (List.range (1 + (cell_here % 8)).toNat)) (ys := v6) (enc := (fun k : Nat => D.int (k : Nat))) (enc2 := D.int) hv6 (fun te he => ps_setLc (i := 2) (own := [("_law_j", 7)]) rfl nd rfl rfl (sw_true rfl rfl rfl (by decide +kernel)) (pi_range1 (by rfl) z_range pa_w) (blkOk_by (N := N__law_names) (sc := defScope s__law_names) (by decide +kernel)) (fun _ _ _ _ _ => (pg_name (i := 7) nd rfl (Or.inl rfl))) (fun _ _ _ _ _ => pts_nil) he) (MI.c (mi_rangeT (mf_cons (me_add me_int (me_mod (me_var (pv 0) rfl) me_int (by decide))) mf_nil) g1)) g2 (fun x3 mx x3y hx => by replace hx := gd_some hx; obtain ⟨g4, hx⟩ := hx; replace hx := gd_some hx; obtain ⟨g5, hx⟩ := hx; injection hx with hx; subst x3y; exact ⟨_, _, mg_name, by decide, fun s H C cl fp => (me_mod (me_add (me_fdiv (me_var (pv 0) rfl) (me_add (me_var (pv 7) rfl) me_int) g4) (me_mul (me_var (pv 7) rfl) (me_var (pv 7) rfl) g5)) me_int (by decide))⟩) ?_)
  show MS _ [some (.fz (.int cell_here)), some (.fz (.str letters)), some (.lst ((v6.map D.int).map .fz)), none, none, none, none, none] _ _
  replace hx := gd_some hx
  obtain ⟨g7, hx⟩ := hx
  replace hx := lt_some hx
  obtain ⟨at_0, eat_0, hx⟩ := hx
  refine ms_cons (m_set (ps_set (i := 3) nd rfl (Or.inl rfl) pe_w) (ME.is (o' := (.fz (.int at_0))) (me_mod (me_fdiv (me_var (pv 0) rfl) me_int ⟨by decide, by decide⟩) (me_lenLT (xs := v6) (enc := D.int) (by rfl) z_len (ml_var (pv 2) rfl)) g7) (by rw [eat_0] <;> rfl)) ?_)
  show MS _ [some (.fz (.int cell_here)), some (.fz (.str letters)), some (.lst ((v6.map D.int).map .fz)), some (.fz (.int at_0)), none, none, none, none] _ _
  replace hx := lt_some hx
  obtain ⟨names_here, enames_here, hx⟩ := hx
  refine ms_cons (m_set (ps_set (i := 4) nd rfl (Or.inl rfl) pe_w) (ME.is (o' := (.lst ((names_here.map D.str).map .fz))) (me_lst (ds := [].map D.str) mf_nil) (by rw [enames_here] <;> rfl)) ?_)
  show MS _ [some (.fz (.int cell_here)), some (.fz (.str letters)), some (.lst ((v6.map D.int).map .fz)), some (.fz (.int at_0)), some (.lst ((names_here.map D.str).map .fz)), none, none, none] _ _
  replace hx := bd_some hx
  obtain ⟨p10, hp10, hx⟩ := hx
  refine ms_cons (m_forP (xs := (List.range (10 : Int).toNat)) (enc := (fun k : Nat => D.int (k : Nat))) (ps_for PassesOwn.never rfl (pi_range1 (by rfl) z_range pa_w) (pg_name (i := 5) nd rfl (Or.inl rfl)) pss_w) (by exact (mi_rangeT (mf_cons me_int mf_nil) ⟨by decide, by decide⟩)) hp10 (fun p8 => [some (.fz (.int cell_here)), some (.fz (.str letters)), some (.lst ((v6.map D.int).map .fz)), some (.fz (.int at_0)), some (.lst ((p8.map D.str).map .fz)), none, none, none]) le_auto (fun x9 p8 p8o mx hx => ?_) fun τ le => ?_)
  ·
    refine ⟨_, _, mg_name, ?_⟩
    show MS _ [some (.fz (.int cell_here)), some (.fz (.str letters)), some (.lst ((v6.map D.int).map .fz)), some (.fz (.int at_0)), some (.lst ((p8.map D.str).map .fz)), some (.fz (.int (x9 : Int))), none, none] _ _
    replace hx := lt_some hx
    obtain ⟨name, ename, hx⟩ := hx
    refine ms_cons (m_set (ps_set (i := 6) nd rfl (Or.inl rfl) pe_w) (ME.is (o' := (.fz (.str name))) me_str (by rw [ename] <;> rfl)) ?_)
    show MS _ [some (.fz (.int cell_here)), some (.fz (.str letters)), some (.lst ((v6.map D.int).map .fz)), some (.fz (.int at_0)), some (.lst ((p8.map D.str).map .fz)), some (.fz (.int (x9 : Int))), some (.fz (.str name)), none] _ _
    replace hx := gd_some hx
    obtain ⟨g11, hx⟩ := hx
    replace hx := bd_some hx
    obtain ⟨p14, hp14, hx⟩ := hx
    refine ms_cons (m_forP (xs := (List.range (v6.length : Int).toNat)) (enc := (fun k : Nat => D.int (k : Nat))) (ps_for PassesOwn.never rfl (pi_range1 (by rfl) z_range pa_w) (pg_name (i := 7) nd rfl (Or.inl rfl)) pss_w) (by exact (mi_rangeT (mf_cons (me_lenLT (xs := v6) (enc := D.int) (by rfl) z_len (ml_var (pv 2) rfl)) mf_nil) g11)) hp14 (fun p12 => [some (.fz (.int cell_here)), some (.fz (.str letters)), some (.lst ((v6.map D.int).map .fz)), some (.fz (.int at_0)), some (.lst ((p8.map D.str).map .fz)), some (.fz (.int (x9 : Int))), some (.fz (.str p12)), none]) le_auto (fun x13 p12 p12o mx hx => ?_) fun τ le => ?_)
    ·
      refine ⟨_, _, mg_name, ?_⟩
      show MS _ [some (.fz (.int cell_here)), some (.fz (.str letters)), some (.lst ((v6.map D.int).map .fz)), some (.fz (.int at_0)), some (.lst ((p8.map D.str).map .fz)), some (.fz (.int (x9 : Int))), some (.fz (.str p12)), some (.fz (.int (x13 : Int)))] _ _
      replace hx := bd_some hx
      obtain ⟨v15, hv15, hx⟩ := hx
      replace hx := gd_some hx
      obtain ⟨g16, hx⟩ := hx
      replace hx := bd_some hx
      obtain ⟨c17, hc17, hx⟩ := hx
      replace hx := gd_some hx
      obtain ⟨g18, hx⟩ := hx
      replace hx := gd_some hx
      obtain ⟨g19, hx⟩ := hx
      replace hx := lt_some hx
      obtain ⟨name_1, ename_1, hx⟩ := hx
      refine ms_one (m_set (ps_set (i := 6) nd rfl (Or.inl rfl) pe_w) (ME.is (o' := (.fz (.str name_1))) (me_cat (me_var (pv 6) rfl) (me_ixS (me_var (pv 1) rfl) (me_mod (me_add (me_ixLT (xs := v6) (enc := D.int) hv15 (ml_var (pv 2) rfl) (me_var (pv 7) rfl)) (me_mul (me_var (pv 5) rfl) (me_intB (by rfl) z_int (me_eqI (me_var (pv 7) rfl) (me_var (pv 3) rfl))) g16)) me_int (by decide)) g18 hc17) g19) (by rw [ename_1] <;> rfl)) ?_)
      cases hx; exact le_auto
    refine ms_le le ?_
    show MS _ [some (.fz (.int cell_here)), some (.fz (.str letters)), some (.lst ((v6.map D.int).map .fz)), some (.fz (.int at_0)), some (.lst ((p8.map D.str).map .fz)), some (.fz (.int (x9 : Int))), some (.fz (.str p14)), none] _ _
    replace hx := bd_some hx
    obtain ⟨p20, hp20, hx⟩ := hx
    refine ms_cons (m_ifP (out := p20) (fun p20 => [some (.fz (.int cell_here)), some (.fz (.str letters)), some (.lst ((v6.map D.int).map .fz)), some (.fz (.int at_0)), some (.lst ((p8.map D.str).map .fz)), some (.fz (.int (x9 : Int))), some (.fz (.str p20)), none]) (t := ((p14 == ("self" : Str)))) (mt_eqS (me_var (pv 6) rfl) me_str) (fun h => ?_) (fun h => ?_) fun τ le => ?_)
    · replace hx := cond_t hp20 h
      replace hx := lt_some hx
      obtain ⟨name_2, ename_2, hx⟩ := hx
      refine ms_one (m_set (ps_set (i := 6) nd rfl (Or.inl rfl) pe_w) (ME.is (o' := (.fz (.str name_2))) me_str (by rw [ename_2] <;> rfl)) ?_)
      cases hx; exact le_auto
    · replace hx := cond_f hp20 h
      refine ms_nil ?_
      cases hx; exact le_auto
    refine ms_le le ?_
    show MS _ [some (.fz (.int cell_here)), some (.fz (.str letters)), some (.lst ((v6.map D.int).map .fz)), some (.fz (.int at_0)), some (.lst ((p8.map D.str).map .fz)), some (.fz (.int (x9 : Int))), some (.fz (.str p20)), none] _ _
    replace hx := gd_some hx
    obtain ⟨g21, hx⟩ := hx
    replace hx := lt_some hx
    obtain ⟨names_here_1, enames_here_1, hx⟩ := hx
    refine ms_one (m_appendT (i := 4) (xs := p8) (enc := D.str) (y := p20) g21 (pv _) rfl (me_var (pv 6) rfl) ?_)
    rw [← enames_here_1]
    cases hx; exact le_auto
  refine ms_le le ?_
  show MS _ [some (.fz (.int cell_here)), some (.fz (.str letters)), some (.lst ((v6.map D.int).map .fz)), some (.fz (.int at_0)), some (.lst ((p10.map D.str).map .fz)), none, none, none] _ _
  refine ms_one (m_ret (ps_ret pe_w) (mr_var (pv 4) rfl) ?_)
  cases hx; rfl

noncomputable def M__law_houses (script : (List Int)) (names_here : (List Str)) : Option (List (Str × Int)) :=
  bd (M__law_cell script (4 : Int)) fun v1 =>
  lt (v1 % 1000000000) fun head =>
  lt (1 + (head % 8)) fun many =>
  lt ([] : List (Str × Int)) fun pairs =>
  lt (100 - many) fun left =>
  gd (-(2 ^ 62) ≤ many ∧ many < 2 ^ 62) <|
  bd (lp (fun (x4 : Nat) (p3 : Int × (List (Str × Int))) => (bd (M__law_cell script (5 + (x4 : Int))) fun v6 =>
    gd (0 < ((min p3.1 (30 : Int)) + 1)) <|
    lt (v6 % ((min p3.1 (30 : Int)) + 1)) fun more =>
    lt (p3.1 - more) fun left_1 =>
    bd (L2.atI names_here (((x4 : Int) + (head / 8)) % 10)) fun v8 =>
    gd (p3.2.length < sizeLine) <|
    lt (p3.2 ++ [(v8, (1 + more))]) fun pairs_1 =>
    some (left_1, pairs_1) : Option (Int × (List (Str × Int))))) (List.range many.toNat) (left, pairs)) fun p5 =>
  bd (cond ((((head / 80) % 4) == 1)) (gd (0 < many) <|
    bd (L2.atI p5.2 ((head / 320) % many)) fun v12 =>
    gd (0 < many) <|
    bd (ixN p5.2.length ((head / 320) % many)) fun j14 =>
    lt (p5.2.set j14 (("self" : Str), v12.2)) fun pairs_2 =>
    some pairs_2) (some p5.2) : Option ((List (Str × Int)))) fun p10 =>
  some p10
def sp__law_houses (K : PySem.W.Frag) : Sp := SpF K (fun x : (List Int) × (List Str) => [.vw (x.1.map D.int), .vw (x.2.map D.str)]) (fun x => M__law_houses x.1 x.2) (fun r => .lst ((r.map e_T_s_i).map .fz))
abbrev N__law_houses : List Str := ["_law_script", "_law_names_here", "_law_head", "_law_many", "_law_pairs", "_law_left", "_law_k", "_law_more"]
theorem sc__law_houses : FnScope N__law_houses ["_law_script", "_law_names_here"] (defScope s__law_houses) := ⟨rfl, rfl, rfl, by decide +kernel, rfl, by decide +kernel, by decide +kernel⟩
theorem ok__law_houses {f : Addr} {fd : FuncData} (F : Fun K "_law_houses" "_law_houses" s__law_houses f fd) (z_range : mg "range" = none) (z_min : mg "min" = none) (c__law_cell : Fn1 P w K mg base "_law_cell" 1 ["_law_script", "_law_k"] (sp__law_cell K)) : FnOk P w K mg base CX0 2 f fd ["_law_script", "_law_names_here"] (sp__law_houses K) := by
  refine fn_m F sc__law_houses (fun x => rfl) (fun x _ => O.nvL_fz _) fun cdv A outer s H E hr x hx => ?_
  obtain ⟨⟨script, names_here⟩, r⟩ := x
  replace hx : M__law_houses script names_here = some r := hx
  have nd := sc__law_houses.nd
  unfold M__law_houses at hx
  show MS _ [some (.vw (script.map D.int)), some (.vw (names_here.map D.str)), none, none, none, none, none, none] _ _
  replace hx := bd_some hx
  obtain ⟨v1, hv1, hx⟩ := hx
  replace hx := lt_some hx
  obtain ⟨head, ehead, hx⟩ := hx
  refine ms_cons (m_set (ps_set (i := 2) nd rfl (Or.inl rfl) pe_w) (ME.is (o' := (.fz (.int head))) (me_mod (me_fn c__law_cell ((script, 4), v1) (ma_vw (ml_var (pv 0) rfl) (ma_fz me_int ma_nil)) hv1 (hr.mono (by decide))) (ME.is (o' := .fz (.int 1000000000)) (me_pow me_int me_int ⟨by decide, by decide, by decide⟩) rfl) (by decide)) (by rw [ehead] <;> rfl)) ?_)
  show MS _ [some (.vw (script.map D.int)), some (.vw (names_here.map D.str)), some (.fz (.int head)), none, none, none, none, none] _ _
  replace hx := lt_some hx
  obtain ⟨many, emany, hx⟩ := hx
  refine ms_cons (m_set (ps_set (i := 3) nd rfl (Or.inl rfl) pe_w) (ME.is (o' := (.fz (.int many))) (me_add me_int (me_mod (me_var (pv 2) rfl) me_int (by decide))) (by rw [emany] <;> rfl)) ?_)
  show MS _ [some (.vw (script.map D.int)), some (.vw (names_here.map D.str)), some (.fz (.int head)), some (.fz (.int many)), none, none, none, none] _ _
  replace hx := lt_some hx
  obtain ⟨pairs, epairs, hx⟩ := hx
  refine ms_cons (m_set (ps_set (i := 4) nd rfl (Or.inl rfl) pe_w) (ME.is (o' := (.lst ((pairs.map e_T_s_i).map .fz))) (me_lst (ds := [].map e_T_s_i) mf_nil) (by rw [epairs] <;> rfl)) ?_)
  show MS _ [some (.vw (script.map D.int)), some (.vw (names_here.map D.str)), some (.fz (.int head)), some (.fz (.int many)), some (.lst ((pairs.map e_T_s_i).map .fz)), none, none, none] _ _
  replace hx := lt_some hx
  obtain ⟨left, eleft, hx⟩ := hx
  refine ms_cons (m_set (ps_set (i := 5) nd rfl (Or.inl rfl) pe_w) (ME.is (o' := (.fz (.int left))) (me_sub me_int (me_var (pv 3) rfl)) (by rw [eleft] <;> rfl)) ?_)
  show MS _ [some (.vw (script.map D.int)), some (.vw (names_here.map D.str)), some (.fz (.int head)), some (.fz (.int many)), some (.lst ((pairs.map e_T_s_i).map .fz)), some (.fz (.int left)), none, none] _ _
  replace hx := gd_some hx
  obtain ⟨g2, hx⟩ := hx
  replace hx := bd_some hx
  obtain ⟨p5, hp5, hx⟩ := hx
  refine ms_cons (m_forP (xs := (List.range many.toNat)) (enc := (fun k : Nat => D.int (k : Nat))) (ps_for PassesOwn.never rfl (pi_range1 (by rfl) z_range pa_w) (pg_name (i := 6) nd rfl (Or.inl rfl)) pss_w) (by exact (mi_rangeT (mf_cons (me_var (pv 3) rfl) mf_nil) g2)) hp5 (fun p3 => [some (.vw (script.map D.int)), some (.vw (names_here.map D.str)), some (.fz (.int head)), some (.fz (.int many)), some (.lst ((p3.2.map e_T_s_i).map .fz)), some (.fz (.int p3.1)), none, none]) le_auto (fun x4 p3 p3o mx hx => ?_) fun τ le => ?_)
  ·
    refine ⟨_, _, mg_name, ?_⟩
    show MS _ [some (.vw (script.map D.int)), some (.vw (names_here.map D.str)), some (.fz (.int head)), some (.fz (.int many)), some (.lst ((p3.2.map e_T_s_i).map .fz)), some (.fz (.int p3.1)), some (.fz (.int (x4 : Int))), none] _ _
    replace hx := bd_some hx
    obtain ⟨v6, hv6, hx⟩ := hx
    replace hx := gd_some hx
    obtain ⟨g7, hx⟩ := hx
    replace hx := lt_some hx
    obtain ⟨more, emore, hx⟩ := hx
    refine ms_cons (m_set (ps_set (i := 7) nd rfl (Or.inl rfl) pe_w) (ME.is (o' := (.fz (.int more))) (me_mod (me_fn c__law_cell ((script, (5 + (x4 : Int))), v6) (ma_vw (ml_var (pv 0) rfl) (ma_fz (me_add me_int (me_var (pv 6) rfl)) ma_nil)) hv6 (hr.mono (by decide))) (me_add (me_min rfl (by rfl) z_min (me_var (pv 5) rfl) me_int) me_int) g7) (by rw [emore] <;> rfl)) ?_)
    show MS _ [some (.vw (script.map D.int)), some (.vw (names_here.map D.str)), some (.fz (.int head)), some (.fz (.int many)), some (.lst ((p3.2.map e_T_s_i).map .fz)), some (.fz (.int p3.1)), some (.fz (.int (x4 : Int))), some (.fz (.int more))] _ _
    replace hx := lt_some hx
    obtain ⟨left_1, eleft_1, hx⟩ := hx
    refine ms_cons (m_set (ps_set (i := 5) nd rfl (Or.inl rfl) pe_w) (ME.is (o' := (.fz (.int left_1))) (me_sub (me_var (pv 5) rfl) (me_var (pv 7) rfl)) (by rw [eleft_1] <;> rfl)) ?_)
    show MS _ [some (.vw (script.map D.int)), some (.vw (names_here.map D.str)), some (.fz (.int head)), some (.fz (.int many)), some (.lst ((p3.2.map e_T_s_i).map .fz)), some (.fz (.int left_1)), some (.fz (.int (x4 : Int))), some (.fz (.int more))] _ _
    replace hx := bd_some hx
    obtain ⟨v8, hv8, hx⟩ := hx
    replace hx := gd_some hx
    obtain ⟨g9, hx⟩ := hx
    replace hx := lt_some hx
    obtain ⟨pairs_1, epairs_1, hx⟩ := hx
    refine ms_one (m_appendT (i := 4) (xs := p3.2) (enc := e_T_s_i) (y := (v8, (1 + more))) g9 (pv _) rfl (me_tup (mf_cons (me_ixLT (xs := names_here) (enc := D.str) hv8 (ml_var (pv 1) rfl) (me_mod (me_add (me_var (pv 6) rfl) (me_fdiv (me_var (pv 2) rfl) me_int ⟨by decide, by decide⟩)) me_int (by decide))) (mf_cons (me_add me_int (me_var (pv 7) rfl)) mf_nil))) ?_)
    rw [← epairs_1]
    cases hx; exact le_auto
  refine ms_le le ?_
  show MS _ [some (.vw (script.map D.int)), some (.vw (names_here.map D.str)), some (.fz (.int head)), some (.fz (.int many)), some (.lst ((p5.2.map e_T_s_i).map .fz)), some (.fz (.int p5.1)), none, none] _ _
  replace hx := bd_some hx
  obtain ⟨p10, hp10, hx⟩ := hx
  refine ms_cons (m_ifP (out := p10) (fun p10 => [some (.vw (script.map D.int)), some (.vw (names_here.map D.str)), some (.fz (.int head)), some (.fz (.int many)), some (.lst ((p10.map e_T_s_i).map .fz)), some (.fz (.int p5.1)), none, none]) (t := ((((head / 80) % 4) == 1))) (mt_eqI (me_mod (me_fdiv (me_var (pv 2) rfl) me_int ⟨by decide, by decide⟩) me_int (by decide)) me_int) (fun h => ?_) (fun h => ?_) fun τ le => ?_)
  · replace hx := cond_t hp10 h
    replace hx := gd_some hx
    obtain ⟨g11, hx⟩ := hx
    replace hx := bd_some hx
    obtain ⟨v12, hv12, hx⟩ := hx
    replace hx := gd_some hx
    obtain ⟨g13, hx⟩ := hx
    replace hx := bd_some hx
    obtain ⟨j14, hj14, hx⟩ := hx
    replace hx := lt_some hx
    obtain ⟨pairs_2, epairs_2, hx⟩ := hx
    refine ms_one (m_setItemT (i := 4) (xs := p5.2) (enc := e_T_s_i) (y := (("self" : Str), v12.2)) hj14 (pv _) rfl (me_mod (me_fdiv (me_var (pv 2) rfl) me_int ⟨by decide, by decide⟩) (me_var (pv 3) rfl) g13) (me_tup (mf_cons me_str (mf_cons (me_ixT (MV.u (ME.v (me_ixLT (xs := p5.2) (enc := e_T_s_i) hv12 (ml_var (pv 4) rfl) (me_mod (me_fdiv (me_var (pv 2) rfl) me_int ⟨by decide, by decide⟩) (me_var (pv 3) rfl) g11))) (.fz _)) me_int rfl) mf_nil))) ?_)
    rw [← epairs_2]
    cases hx; exact le_auto
  · replace hx := cond_f hp10 h
    refine ms_nil ?_
    cases hx; exact le_auto
  refine ms_le le ?_
  show MS _ [some (.vw (script.map D.int)), some (.vw (names_here.map D.str)), some (.fz (.int head)), some (.fz (.int many)), some (.lst ((p10.map e_T_s_i).map .fz)), some (.fz (.int p5.1)), none, none] _ _
  refine ms_one (m_ret (ps_ret pe_w) (mr_var (pv 4) rfl) ?_)
  cases hx; rfl

def Xc.is_NoCover : Xc → Bool
  | .NoCover => true
  | .NoShares => false
def Xc.is_NoShares : Xc → Bool
  | .NoCover => false
  | .NoShares => true
noncomputable def M__law_refused (name : D) (clauses : (Option (List (Str × Int)))) (pairs : (List (D × D))) : Option Int :=
  bd (bd (M_Over___init__ (5 : Int)) fun v3 =>
    bdo (M_CoverR___init__ name (Cd.over v3) clauses pairs false) fun v4 => none : Option (Ou (Unit) Unit (Xr Xc Int))) fun o2 => tryR o2 (fun p1 =>
  some (0 : Int)) (fun r => some r) (fun xe => lt [false, false, false] fun others =>
    lt [(Xc.is_NoCover xe), (Xc.is_NoShares xe)] fun some_0 =>
    bd (cond (!true) (some true) (bd (cond ((others.contains true)) (some true) (gd (D.ok (.lst (some_0.map D.bl)) ∧ D.ok (.lst ([true, true].map D.bl))) <| some ((D.eqv (.lst (some_0.map D.bl)) (.lst ([true, true].map D.bl)))))) fun v7 => some v7)) fun v9 =>
    cond v9 (some (3 : Int)) <|
    bd (cond ((some_0.contains true)) (bd (idxB some_0) fun j11 => some ((j11 : Int) + 1)) (some (4 : Int))) fun v12 =>
    some v12)
def sp__law_refused (K : PySem.W.Frag) (C_Own : Addr) : Sp := SpF K (fun x : D × (Option (List (Str × Int))) × (List (D × D)) => [.fz x.1, .fz ((e_N_L_U_Own C_Own) x.2.1), .vw (x.2.2.map e_T_d_d)]) (fun x => M__law_refused x.1 x.2.1 x.2.2) (fun r => .fz (.int r))
abbrev N__law_refused : List Str := ["_law_name", "_law_clauses", "_law_pairs", "e", "_law_others", "_law_some"]
theorem sc__law_refused : FnScope N__law_refused ["_law_name", "_law_clauses", "_law_pairs"] (defScope s__law_refused) := ⟨rfl, rfl, rfl, by decide +kernel, rfl, by decide +kernel, by decide +kernel⟩
theorem ok__law_refused {f : Addr} {fd : FuncData} (F : Fun K "_law_refused" "_law_refused" s__law_refused f fd) (z_isinstance : mg "isinstance" = none) (z_ValueError : mg "ValueError" = none) (e_CoverError : mg "CoverError" = some (.ref C_CoverError)) (v_NoCover_CoverError : PySem.W.exmOne K (.ref C_NoCover) (.ref C_CoverError) = some true) (v_NoShares_CoverError : PySem.W.exmOne K (.ref C_NoShares) (.ref C_CoverError) = some true) (i_Over : Mk1 P w K mg base "Over" C_Over 1 ["self", "cents"] (spI_Over___init__ K C_Over)) (i_CoverR__4 : Mk1ED P w K mg base "Cover" C_CoverR 6 ["self", "name", "condition", "clauses", "houses", "waits"] [.bl false] (spI_CoverR___init__ K C_CoverR C_Condition C_CauseIs C_ThingIs C_Over C_Own C_DealD C_NoCover C_NoShares)) (e_NoBook : mg "NoBook" = some (.ref C_NoBook)) (w_NoCover : ExcC K C_NoCover) (q_NoCover_NoBook : PySem.W.kitOne K (.ref C_NoCover) (.ref C_NoBook) = some false) (w_NoShares : ExcC K C_NoShares) (q_NoShares_NoBook : PySem.W.kitOne K (.ref C_NoShares) (.ref C_NoBook) = some false) (e_NoClause : mg "NoClause" = some (.ref C_NoClause)) (q_NoCover_NoClause : PySem.W.kitOne K (.ref C_NoCover) (.ref C_NoClause) = some false) (q_NoShares_NoClause : PySem.W.kitOne K (.ref C_NoShares) (.ref C_NoClause) = some false) (e_NoEntry : mg "NoEntry" = some (.ref C_NoEntry)) (q_NoCover_NoEntry : PySem.W.kitOne K (.ref C_NoCover) (.ref C_NoEntry) = some false) (q_NoShares_NoEntry : PySem.W.kitOne K (.ref C_NoShares) (.ref C_NoEntry) = some false) (e_NoCover : mg "NoCover" = some (.ref C_NoCover)) (q_NoCover_NoCover : PySem.W.kitOne K (.ref C_NoCover) (.ref C_NoCover) = some true) (q_NoShares_NoCover : PySem.W.kitOne K (.ref C_NoShares) (.ref C_NoCover) = some false) (e_NoShares : mg "NoShares" = some (.ref C_NoShares)) (q_NoCover_NoShares : PySem.W.kitOne K (.ref C_NoCover) (.ref C_NoShares) = some false) (q_NoShares_NoShares : PySem.W.kitOne K (.ref C_NoShares) (.ref C_NoShares) = some true) (q_NoCover_ValueError : PySem.W.kitOne K (.ref C_NoCover) (.type "ValueError") = some true) (q_NoShares_ValueError : PySem.W.kitOne K (.ref C_NoShares) (.type "ValueError") = some true) : FnOk P w K mg base CX0 8 f fd ["_law_name", "_law_clauses", "_law_pairs"] (sp__law_refused K C_Own) := by
  refine fn_m F sc__law_refused (fun x => rfl) (fun x _ => rfl) fun cdv A outer s H E hr x hx => ?_
  obtain ⟨⟨name, clauses, pairs⟩, r⟩ := x
  replace hx : M__law_refused name clauses pairs = some r := hx
  have nd := sc__law_refused.nd
  unfold M__law_refused at hx
  show MS _ [some (.fz name), some (.fz ((e_N_L_U_Own C_Own) clauses)), some (.vw (pairs.map e_T_d_d)), none, none, none] _ _
  replace hx := bd_some hx
  obtain ⟨o2, ho2, hx⟩ := hx
  refine ms_cons (m_tryO (i := 3) (out := o2) (fun p1 => [some (.fz name), some (.fz ((e_N_L_U_Own C_Own) clauses)), some (.vw (pairs.map e_T_d_d)), none, none, none]) (t_Xc C_NoCover C_NoShares) (fun r => .fz (.int r)) nd rfl rfl ⟨rfl, by decide, .inl e_CoverError⟩ (by intro _ _ z; cases z) (fun e => by cases e <;> rfl) (fun pn xe po => ?_) (fun _ e => ?_) (fun _ e => ?_) (fun q e => ?_) (fun e _ => (by cases e with | NoCover => exact v_NoCover_CoverError | NoShares => exact v_NoShares_CoverError)) (fun xe e a oe pn hz hf => ?_) (fun p1 τ e le => ?_))
  · replace hx := ho2
    show MS _ [some (.fz name), some (.fz ((e_N_L_U_Own C_Own) clauses)), some (.vw (pairs.map e_T_d_d)), none, none, none] _ _
    replace hx := bd_some hx
    obtain ⟨v3, hv3, hx⟩ := hx
    rcases bdo_some hx with ⟨xe5, hv4, hx⟩ | ⟨v4, hv4, hx⟩
    · refine ms_one (m_rzDrop (ps_expr pe_w) (mz_makeD i_CoverR__4 (.cons (.bl _) .nil) ((name, (Cd.over v3), clauses, pairs, false), .er xe5) (ma_fz (me_var (pv 0) rfl) (ma_fz (ME.as (ME.is (o' := .fz ((r_Over C_Over) v3)) (ME.frz (me_make i_Over (5, v3) (ma_fz me_int ma_nil) hv3 (hr.mono (by decide))) rfl) rfl) (u_Cd_over C_Condition C_CauseIs C_ThingIs C_Over _).symm) (ma_fz (me_var (pv 1) rfl) (ma_vw (ml_var (pv 2) rfl) ma_nil)))) rfl hv4 (hr.mono (by decide))) ?_)
      cases hx; exact ⟨_, rfl, rfl⟩
    · exact nomatch (show (none : Option _) = some _ from hx)
  · subst e; cases hx
  · subst e; cases hx
  · subst e; dsimp only [tryR] at hx; cases hx; rfl
  · subst e
    dsimp only [tryR] at hx
    show MS _ [none, none, none, some (.pt a), none, none] _ _
    replace hx := lt_some hx
    obtain ⟨others, eothers, hx⟩ := hx
    refine ms_cons (m_set (ps_set (i := 4) nd rfl (Or.inl rfl) pe_w) (ME.is (o' := (.lst ((others.map D.bl).map .fz))) (me_lst (ds := [false, false, false].map D.bl) (mf_cons (show ME _ _ _ (.fz (.bl false)) from by cases xe with | NoCover => exact me_isiE w_NoCover hz hf rfl z_isinstance e_NoBook (pv 3) rfl q_NoCover_NoBook | NoShares => exact me_isiE w_NoShares hz hf rfl z_isinstance e_NoBook (pv 3) rfl q_NoShares_NoBook) (mf_cons (show ME _ _ _ (.fz (.bl false)) from by cases xe with | NoCover => exact me_isiE w_NoCover hz hf rfl z_isinstance e_NoClause (pv 3) rfl q_NoCover_NoClause | NoShares => exact me_isiE w_NoShares hz hf rfl z_isinstance e_NoClause (pv 3) rfl q_NoShares_NoClause) (mf_cons (show ME _ _ _ (.fz (.bl false)) from by cases xe with | NoCover => exact me_isiE w_NoCover hz hf rfl z_isinstance e_NoEntry (pv 3) rfl q_NoCover_NoEntry | NoShares => exact me_isiE w_NoShares hz hf rfl z_isinstance e_NoEntry (pv 3) rfl q_NoShares_NoEntry) mf_nil)))) (by rw [eothers] <;> rfl)) ?_)
    show MS _ [none, none, none, some (.pt a), some (.lst ((others.map D.bl).map .fz)), none] _ _
    replace hx := lt_some hx
    obtain ⟨some_0, esome_0, hx⟩ := hx
    refine ms_cons (m_set (ps_set (i := 5) nd rfl (Or.inl rfl) pe_w) (ME.is (o' := (.lst ((some_0.map D.bl).map .fz))) (me_lst (ds := [(Xc.is_NoCover xe), (Xc.is_NoShares xe)].map D.bl) (mf_cons (show ME _ _ _ (.fz (.bl (Xc.is_NoCover xe))) from by cases xe with | NoCover => exact me_isiE w_NoCover hz hf rfl z_isinstance e_NoCover (pv 3) rfl q_NoCover_NoCover | NoShares => exact me_isiE w_NoShares hz hf rfl z_isinstance e_NoCover (pv 3) rfl q_NoShares_NoCover) (mf_cons (show ME _ _ _ (.fz (.bl (Xc.is_NoShares xe))) from by cases xe with | NoCover => exact me_isiE w_NoCover hz hf rfl z_isinstance e_NoShares (pv 3) rfl q_NoCover_NoShares | NoShares => exact me_isiE w_NoShares hz hf rfl z_isinstance e_NoShares (pv 3) rfl q_NoShares_NoShares) mf_nil))) (by rw [esome_0] <;> rfl)) ?_)
    show MS _ [none, none, none, some (.pt a), some (.lst ((others.map D.bl).map .fz)), some (.lst ((some_0.map D.bl).map .fz))] _ _
    replace hx := bd_some hx
    obtain ⟨v9, hv9, hx⟩ := hx
    refine ms_cons (m_if (t := v9) (MW.t (MW.is (mw_or (mt_not (mt_val (show ME _ _ _ (.fz (.bl true)) from by cases xe with | NoCover => exact me_isiEB w_NoCover hz hf rfl z_isinstance (pe_bltn (v := .ty "ValueError") (by rfl) z_ValueError (by decide +kernel) rfl) (pv 3) rfl q_NoCover_ValueError | NoShares => exact me_isiEB w_NoShares hz hf rfl z_isinstance (pe_bltn (v := .ty "ValueError") (by rfl) z_ValueError (by decide +kernel) rfl) (pv 3) rfl q_NoShares_ValueError))) fun q10 => (by have hx := cond_f hv9 q10; replace hx := bd_some hx; obtain ⟨v7, hv7, hx⟩ := hx; first | (cases hx; exact (MW.is (mw_or (mt_inLT_b (xb := others) me_bl (ml_var (pv 4) rfl)) fun q8 => (by have hx := cond_f hv7 q8; replace hx := gd_some hx; obtain ⟨g6, hx⟩ := hx; cases hx; exact (mw_or1 (mt_eqDT (d1 := .lst (some_0.map D.bl)) (d2 := .lst ([true, true].map D.bl)) hr.units g6 frz_own frz_own (mv_var (pv 5) rfl) (ME.v (me_lst (ds := [true, true].map D.bl) (mf_cons me_bl (mf_cons me_bl mf_nil)))))))) (or_c hv7))) | (injection hx with hx; subst hx; exact (MW.is (mw_or (mt_inLT_b (xb := others) me_bl (ml_var (pv 4) rfl)) fun q8 => (by have hx := cond_f hv7 q8; replace hx := gd_some hx; obtain ⟨g6, hx⟩ := hx; cases hx; exact (mw_or1 (mt_eqDT (d1 := .lst (some_0.map D.bl)) (d2 := .lst ([true, true].map D.bl)) hr.units g6 frz_own frz_own (mv_var (pv 5) rfl) (ME.v (me_lst (ds := [true, true].map D.bl) (mf_cons me_bl (mf_cons me_bl mf_nil)))))))) (or_c hv7))))) (or_c hv9))) (fun h => ?_) fun h => ms_nil ?_)
    · replace hx := cond_t hx h
      refine ms_one (m_ret (ps_ret pe_w) (ME.r me_int) ?_)
      cases hx; exact ⟨rfl, fun _ h => nomatch h⟩
    replace hx := cond_f hx h
    replace hx := bd_some hx
    obtain ⟨v12, hv12, hx⟩ := hx
    refine ms_one (m_ret (ps_ret pe_w) (ME.r (me_ifE (o := .fz (.int v12)) (mt_inLT_b (xb := some_0) me_bl (ml_var (pv 5) rfl)) (fun q13 => (by have hx := cond_t hv12 q13; replace hx := bd_some hx; obtain ⟨j11, hj11, hx⟩ := hx; first | (cases hx; exact (me_add (me_indexB hj11 (ml_var (pv 5) rfl) me_bl) me_int)) | (injection hx with hx; subst hx; exact (me_add (me_indexB hj11 (ml_var (pv 5) rfl) me_bl) me_int)))) (fun q13 => (by have hx := cond_f hv12 q13; first | (cases hx; exact me_int) | (injection hx with hx; subst hx; exact me_int))))) ?_)
    cases hx; exact ⟨rfl, fun _ h => nomatch h⟩
  · subst e
    dsimp only [tryR] at hx
    refine ms_le le ?_
    show MS _ [some (.fz name), some (.fz ((e_N_L_U_Own C_Own) clauses)), some (.vw (pairs.map e_T_d_d)), none, none, none] _ _
    refine ms_one (m_ret (ps_ret pe_w) (ME.r me_int) ?_)
    cases hx; rfl

abbrev e_T_s (p : Str) : D := .tup [.str p]
noncomputable def M__law_bad_pairs (pairs : (List (D × D))) (way : Int) (cell_here : Int) : Option (List (D × D)) :=
  gd (0 < (pairs.length : Int)) <|
  lt (cell_here % (pairs.length : Int)) fun at_0 =>
  gd (0 < (pairs.length : Int)) <|
  bd (L2.atI pairs ((cell_here / 8) % (pairs.length : Int))) fun v3 =>
  lt ([(.str ("" : Str) : D), (.str ("Acme" : Str)), (.str ("a b" : Str)), (.str ("abcdefghi" : Str)), (.int (5 : Int)), (.non), (.bl true), (.str ("a1" : Str)), (.str ("a.b" : Str)), (.str (" a" : Str)), (.str ("a-" : Str)), (e_T_s ("a" : Str)), (.lst ([("b" : Str)].map D.str)), (.str ("aB" : Str))] : (List D)) fun odd =>
  bd (cond ((way == 0)) (bd (L2.atI odd ((cell_here / 64) % 14)) fun v5 =>
    bd (L2.atI pairs at_0) fun v6 =>
    bd (ixN pairs.length at_0) fun j7 =>
    lt (pairs.set j7 (v5, v6.2)) fun some_0 =>
    some some_0) (some pairs) : Option ((List (D × D)))) fun p4 =>
  bd (cond ((way == 1)) (gd (0 < ((p4.length : Int) + 1)) <|
    gd (p4.length < sizeLine ∧ 0 ≤ ((cell_here / 64) % ((p4.length : Int) + 1)) ∧ ((cell_here / 64) % ((p4.length : Int) + 1)) < 2 ^ 63) <|
    lt (p4.take ((cell_here / 64) % ((p4.length : Int) + 1)).toNat ++ [(v3.1, (.int (1 : Int)))] ++ p4.drop ((cell_here / 64) % ((p4.length : Int) + 1)).toNat) fun some_1 =>
    some some_1) (some p4) : Option ((List (D × D)))) fun p8 =>
  bd (cond ((way == 2)) (bd (L2.atI p8 at_0) fun v12 =>
    bd (L2.atI [(.int (0 : Int) : D), (.int ((-(1 : Int)) - ((cell_here / 64) % 1000000000))), (.int (101 : Int)), (.non)] ((cell_here / 64) % 4)) fun v13 =>
    bd (ixN p8.length at_0) fun j14 =>
    lt (p8.set j14 (v12.1, v13)) fun some_2 =>
    some some_2) (some p8) : Option ((List (D × D)))) fun p11 =>
  bd (cond ((way == 3)) (lt ([] : List (D × D)) fun some_3 =>
    some some_3) (some p11) : Option ((List (D × D)))) fun p15 =>
  bd (cond ((way == 4)) (gd (-(2 ^ 62) ≤ (9 + (cell_here % 3)) ∧ (9 + (cell_here % 3)) < 2 ^ 62) <|
    gd ((List.range (9 + (cell_here % 3)).toNat).length < sizeLine) <|
    bd (mpO (fun x19 : Nat => bd (L2.atI ("abcdefghijk" : Str).cps.toList (x19 : Int)) fun c20 => gd (("abcdefghijk" : Str).length ≤ sizeLine) <| some ((.str (sg1 c20)), (.int (1 : Int)))) (List.range (9 + (cell_here % 3)).toNat)) fun v22 =>
    some v22) (some p15) : Option ((List (D × D)))) fun p16 =>
  bd (cond ((way == 5)) (gd (p16.length < sizeLine ∧ 0 ≤ (0 : Int) ∧ (0 : Int) < 2 ^ 63) <|
    lt (p16.take (0 : Int).toNat ++ [(v3.1, (.int (0 : Int)))] ++ p16.drop (0 : Int).toNat) fun some_4 =>
    some some_4) (some p16) : Option ((List (D × D)))) fun p23 =>
  some p23
def sp__law_bad_pairs (K : PySem.W.Frag) : Sp := SpF K (fun x : (List (D × D)) × Int × Int => [.vw (x.1.map e_T_d_d), .fz (.int x.2.1), .fz (.int x.2.2)]) (fun x => M__law_bad_pairs x.1 x.2.1 x.2.2) (fun r => .lst ((r.map e_T_d_d).map .fz))
abbrev N__law_bad_pairs : List Str := ["_law_pairs", "_law_way", "_law_cell_here", "_law_some", "_law_at", "_law_other", "_law_odd", "_law_k"]
theorem sc__law_bad_pairs : FnScope N__law_bad_pairs ["_law_pairs", "_law_way", "_law_cell_here"] (defScope s__law_bad_pairs) := ⟨rfl, rfl, rfl, by decide +kernel, rfl, by decide +kernel, by decide +kernel⟩
theorem ok__law_bad_pairs {f : Addr} {fd : FuncData} (F : Fun K "_law_bad_pairs" "_law_bad_pairs" s__law_bad_pairs f fd) (z_list : mg "list" = none) (z_len : mg "len" = none) (z_range : mg "range" = none) : FnOk P w K mg base CX0 1 f fd ["_law_pairs", "_law_way", "_law_cell_here"] (sp__law_bad_pairs K) := by
  refine fn_m F sc__law_bad_pairs (fun x => rfl) (fun x _ => O.nvL_fz _) fun cdv A outer s H E hr x hx => ?_
  obtain ⟨⟨pairs, way, cell_here⟩, r⟩ := x
  replace hx : M__law_bad_pairs pairs way cell_here = some r := hx
  have nd := sc__law_bad_pairs.nd
  unfold M__law_bad_pairs at hx
  show MS _ [some (.vw (pairs.map e_T_d_d)), some (.fz (.int way)), some (.fz (.int cell_here)), none, none, none, none, none] _ _
  refine ms_cons (m_set (ps_set (i := 3) nd rfl (Or.inl rfl) pe_w) (me_list (ds := pairs.map e_T_d_d) (by rfl) z_list (ml_var (pv 0) rfl)) ?_)
  show MS _ [some (.vw (pairs.map e_T_d_d)), some (.fz (.int way)), some (.fz (.int cell_here)), some (.lst ((pairs.map e_T_d_d).map .fz)), none, none, none, none] _ _
  replace hx := gd_some hx
  obtain ⟨g1, hx⟩ := hx
  replace hx := lt_some hx
  obtain ⟨at_0, eat_0, hx⟩ := hx
  refine ms_cons (m_set (ps_set (i := 4) nd rfl (Or.inl rfl) pe_w) (ME.is (o' := (.fz (.int at_0))) (me_mod (me_var (pv 2) rfl) (me_lenLT (xs := pairs) (enc := e_T_d_d) (by rfl) z_len (ml_var (pv 3) rfl)) g1) (by rw [eat_0] <;> rfl)) ?_)
  show MS _ [some (.vw (pairs.map e_T_d_d)), some (.fz (.int way)), some (.fz (.int cell_here)), some (.lst ((pairs.map e_T_d_d).map .fz)), some (.fz (.int at_0)), none, none, none] _ _
  replace hx := gd_some hx
  obtain ⟨g2, hx⟩ := hx
  replace hx := bd_some hx
  obtain ⟨v3, hv3, hx⟩ := hx
  refine ms_cons (m_set (ps_set (i := 5) nd rfl (Or.inl rfl) pe_w) (me_ixT (MV.u (ME.v (me_ixLT (xs := pairs) (enc := e_T_d_d) hv3 (ml_var (pv 3) rfl) (me_mod (me_fdiv (me_var (pv 2) rfl) me_int ⟨by decide, by decide⟩) (me_lenLT (xs := pairs) (enc := e_T_d_d) (by rfl) z_len (ml_var (pv 3) rfl)) g2))) (.fz _)) me_int rfl) ?_)
  show MS _ [some (.vw (pairs.map e_T_d_d)), some (.fz (.int way)), some (.fz (.int cell_here)), some (.lst ((pairs.map e_T_d_d).map .fz)), some (.fz (.int at_0)), some (.fz v3.1), none, none] _ _
  replace hx := lt_some hx
  obtain ⟨odd, eodd, hx⟩ := hx
  refine ms_cons (m_set (ps_set (i := 6) nd rfl (Or.inl rfl) pe_w) (ME.is (o' := (.lst ((odd.map e_d).map .fz))) (me_lst (ds := [(.str ("" : Str) : D), (.str ("Acme" : Str)), (.str ("a b" : Str)), (.str ("abcdefghi" : Str)), (.int (5 : Int)), (.non), (.bl true), (.str ("a1" : Str)), (.str ("a.b" : Str)), (.str (" a" : Str)), (.str ("a-" : Str)), (e_T_s ("a" : Str)), (.lst ([("b" : Str)].map D.str)), (.str ("aB" : Str))].map e_d) (mf_cons me_str (mf_cons me_str (mf_cons me_str (mf_cons me_str (mf_cons me_int (mf_cons me_non (mf_cons me_bl (mf_cons me_str (mf_cons me_str (mf_cons me_str (mf_cons me_str (mf_cons (me_tup (mf_cons me_str mf_nil)) (mf_cons (ME.frzl (me_lst (ds := [("b" : Str)].map D.str) (mf_cons me_str mf_nil))) (mf_cons me_str mf_nil))))))))))))))) (by rw [eodd] <;> rfl)) ?_)
  show MS _ [some (.vw (pairs.map e_T_d_d)), some (.fz (.int way)), some (.fz (.int cell_here)), some (.lst ((pairs.map e_T_d_d).map .fz)), some (.fz (.int at_0)), some (.fz v3.1), some (.lst ((odd.map e_d).map .fz)), none] _ _
  replace hx := bd_some hx
  obtain ⟨p4, hp4, hx⟩ := hx
  refine ms_cons (m_ifP (out := p4) (fun p4 => [some (.vw (pairs.map e_T_d_d)), some (.fz (.int way)), some (.fz (.int cell_here)), some (.lst ((p4.map e_T_d_d).map .fz)), some (.fz (.int at_0)), some (.fz v3.1), some (.lst ((odd.map e_d).map .fz)), none]) (t := ((way == 0))) (mt_eqI (me_var (pv 1) rfl) me_int) (fun h => ?_) (fun h => ?_) fun τ le => ?_)
  · replace hx := cond_t hp4 h
    replace hx := bd_some hx
    obtain ⟨v5, hv5, hx⟩ := hx
    replace hx := bd_some hx
    obtain ⟨v6, hv6, hx⟩ := hx
    replace hx := bd_some hx
    obtain ⟨j7, hj7, hx⟩ := hx
    replace hx := lt_some hx
    obtain ⟨some_0, esome_0, hx⟩ := hx
    refine ms_one (m_setItemT (i := 3) (xs := pairs) (enc := e_T_d_d) (y := (v5, v6.2)) hj7 (pv _) rfl (me_var (pv 4) rfl) (me_tup (mf_cons (me_ixLT (xs := odd) (enc := e_d) hv5 (ml_var (pv 6) rfl) (me_mod (me_fdiv (me_var (pv 2) rfl) me_int ⟨by decide, by decide⟩) me_int (by decide))) (mf_cons (me_ixT (MV.u (ME.v (me_ixLT (xs := pairs) (enc := e_T_d_d) hv6 (ml_var (pv 3) rfl) (me_var (pv 4) rfl))) (.fz _)) me_int rfl) mf_nil))) ?_)
    rw [← esome_0]
    cases hx; exact le_auto
  · replace hx := cond_f hp4 h
    refine ms_nil ?_
    cases hx; exact le_auto
  refine ms_le le ?_
  show MS _ [some (.vw (pairs.map e_T_d_d)), some (.fz (.int way)), some (.fz (.int cell_here)), some (.lst ((p4.map e_T_d_d).map .fz)), some (.fz (.int at_0)), some (.fz v3.1), some (.lst ((odd.map e_d).map .fz)), none] _ _
  replace hx := bd_some hx
  obtain ⟨p8, hp8, hx⟩ := hx
  refine ms_cons (m_ifP (out := p8) (fun p8 => [some (.vw (pairs.map e_T_d_d)), some (.fz (.int way)), some (.fz (.int cell_here)), some (.lst ((p8.map e_T_d_d).map .fz)), some (.fz (.int at_0)), some (.fz v3.1), some (.lst ((odd.map e_d).map .fz)), none]) (t := ((way == 1))) (mt_eqI (me_var (pv 1) rfl) me_int) (fun h => ?_) (fun h => ?_) fun τ le => ?_)
  · replace hx := cond_t hp8 h
    replace hx := gd_some hx
    obtain ⟨g9, hx⟩ := hx
    replace hx := gd_some hx
    obtain ⟨g10, hx⟩ := hx
    replace hx := lt_some hx
    obtain ⟨some_1, esome_1, hx⟩ := hx
    refine ms_one (m_insertPT (xs := p4) (enc := e_T_d_d) (y := (v3.1, (.int (1 : Int)))) (MQ.toP (mq_var (pv 3) rfl)) (me_mod (me_fdiv (me_var (pv 2) rfl) me_int ⟨by decide, by decide⟩) (me_add (me_lenLT (xs := p4) (enc := e_T_d_d) (by rfl) z_len (ml_var (pv 3) rfl)) me_int) g9) (me_tup (mf_cons (me_var (pv 5) rfl) (mf_cons me_int mf_nil))) g10 ?_)
    rw [← esome_1]
    cases hx; exact le_auto
  · replace hx := cond_f hp8 h
    refine ms_nil ?_
    cases hx; exact le_auto
  refine ms_le le ?_
  show MS _ [some (.vw (pairs.map e_T_d_d)), some (.fz (.int way)), some (.fz (.int cell_here)), some (.lst ((p8.map e_T_d_d).map .fz)), some (.fz (.int at_0)), some (.fz v3.1), some (.lst ((odd.map e_d).map .fz)), none] _ _
  replace hx := bd_some hx
  obtain ⟨p11, hp11, hx⟩ := hx
  refine ms_cons (m_ifP (out := p11) (fun p11 => [some (.vw (pairs.map e_T_d_d)), some (.fz (.int way)), some (.fz (.int cell_here)), some (.lst ((p11.map e_T_d_d).map .fz)), some (.fz (.int at_0)), some (.fz v3.1), some (.lst ((odd.map e_d).map .fz)), none]) (t := ((way == 2))) (mt_eqI (me_var (pv 1) rfl) me_int) (fun h => ?_) (fun h => ?_) fun τ le => ?_)
  · replace hx := cond_t hp11 h
    replace hx := bd_some hx
    obtain ⟨v12, hv12, hx⟩ := hx
    replace hx := bd_some hx
    obtain ⟨v13, hv13, hx⟩ := hx
    replace hx := bd_some hx
    obtain ⟨j14, hj14, hx⟩ := hx
    replace hx := lt_some hx
    obtain ⟨some_2, esome_2, hx⟩ := hx
    refine ms_one (m_setItemT (i := 3) (xs := p8) (enc := e_T_d_d) (y := (v12.1, v13)) hj14 (pv _) rfl (me_var (pv 4) rfl) (me_tup (mf_cons (me_ixT (MV.u (ME.v (me_ixLT (xs := p8) (enc := e_T_d_d) hv12 (ml_var (pv 3) rfl) (me_var (pv 4) rfl))) (.fz _)) me_int rfl) (mf_cons (me_ixLT (xs := [(.int (0 : Int) : D), (.int ((-(1 : Int)) - ((cell_here / 64) % 1000000000))), (.int (101 : Int)), (.non)]) (enc := e_d) hv13 (ME.l (me_lst (ds := [(.int (0 : Int) : D), (.int ((-(1 : Int)) - ((cell_here / 64) % 1000000000))), (.int (101 : Int)), (.non)].map e_d) (mf_cons me_int (mf_cons (me_sub (me_neg me_int) (me_mod (me_fdiv (me_var (pv 2) rfl) me_int ⟨by decide, by decide⟩) (ME.is (o' := .fz (.int 1000000000)) (me_pow me_int me_int ⟨by decide, by decide, by decide⟩) rfl) (by decide))) (mf_cons me_int (mf_cons me_non mf_nil)))))) (me_mod (me_fdiv (me_var (pv 2) rfl) me_int ⟨by decide, by decide⟩) me_int (by decide))) mf_nil))) ?_)
    rw [← esome_2]
    cases hx; exact le_auto
  · replace hx := cond_f hp11 h
    refine ms_nil ?_
    cases hx; exact le_auto
  refine ms_le le ?_
  show MS _ [some (.vw (pairs.map e_T_d_d)), some (.fz (.int way)), some (.fz (.int cell_here)), some (.lst ((p11.map e_T_d_d).map .fz)), some (.fz (.int at_0)), some (.fz v3.1), some (.lst ((odd.map e_d).map .fz)), none] _ _
  replace hx := bd_some hx
  obtain ⟨p15, hp15, hx⟩ := hx
  refine ms_cons (m_ifP (out := p15) (fun p15 => [some (.vw (pairs.map e_T_d_d)), some (.fz (.int way)), some (.fz (.int cell_here)), some (.lst ((p15.map e_T_d_d).map .fz)), some (.fz (.int at_0)), some (.fz v3.1), some (.lst ((odd.map e_d).map .fz)), none]) (t := ((way == 3))) (mt_eqI (me_var (pv 1) rfl) me_int) (fun h => ?_) (fun h => ?_) fun τ le => ?_)
  · replace hx := cond_t hp15 h
    replace hx := lt_some hx
    obtain ⟨some_3, esome_3, hx⟩ := hx
    refine ms_one (m_set (ps_set (i := 3) nd rfl (Or.inl rfl) pe_w) (ME.is (o' := (.lst ((some_3.map e_T_d_d).map .fz))) (me_lst (ds := [].map e_T_d_d) mf_nil) (by rw [esome_3] <;> rfl)) ?_)
    cases hx; exact le_auto
  · replace hx := cond_f hp15 h
    refine ms_nil ?_
    cases hx; exact le_auto
  refine ms_le le ?_
  show MS _ [some (.vw (pairs.map e_T_d_d)), some (.fz (.int way)), some (.fz (.int cell_here)), some (.lst ((p15.map e_T_d_d).map .fz)), some (.fz (.int at_0)), some (.fz v3.1), some (.lst ((odd.map e_d).map .fz)), none] _ _
  replace hx := bd_some hx
  obtain ⟨p16, hp16, hx⟩ := hx
  refine ms_cons (m_ifP (out := p16) (fun p16 => [some (.vw (pairs.map e_T_d_d)), some (.fz (.int way)), some (.fz (.int cell_here)), some (.lst ((p16.map e_T_d_d).map .fz)), some (.fz (.int at_0)), some (.fz v3.1), some (.lst ((odd.map e_d).map .fz)), none]) (t := ((way == 4))) (mt_eqI (me_var (pv 1) rfl) me_int) (fun h => ?_) (fun h => ?_) fun τ le => ?_)
  · replace hx := cond_t hp16 h
    replace hx := gd_some hx
    obtain ⟨g17, hx⟩ := hx
    replace hx := gd_some hx
    obtain ⟨g18, hx⟩ := hx
    replace hx := bd_some hx
    obtain ⟨v22, hv22, hx⟩ := hx
    refine ms_one (m_setLcO (i := 3) (g := (gName 7)) (xs := (List.range (9 + (cell_here % 3)).toNat)) (ys := v22) (enc := (fun k : Nat => D.int (k : Nat))) (enc2 := e_T_d_d) hv22 (fun te he => ps_setLc (i := 3) (own := [("_law_k", 7)]) rfl nd rfl rfl (sw_true rfl rfl rfl (by decide +kernel)) (pi_range1 (by rfl) z_range pa_w) (blkOk_by (N := N__law_bad_pairs) (sc := defScope s__law_bad_pairs) (by decide +kernel)) (fun _ _ _ _ _ => (pg_name (i := 7) nd rfl (Or.inl rfl))) (fun _ _ _ _ _ => pts_nil) he) (MI.c (mi_rangeT (mf_cons (me_add me_int (me_mod (me_var (pv 2) rfl) me_int (by decide))) mf_nil) g17)) g18 (fun x19 mx x19y hx => by replace hx := bd_some hx; obtain ⟨c20, hc20, hx⟩ := hx; replace hx := gd_some hx; obtain ⟨g21, hx⟩ := hx; injection hx with hx; subst x19y; exact ⟨_, _, mg_name, by decide, fun s H C cl fp => (me_tup (mf_cons (me_ixS me_str (me_var (pv 7) rfl) g21 hc20) (mf_cons me_int mf_nil)))⟩) ?_)
    cases hx; exact le_auto
  · replace hx := cond_f hp16 h
    refine ms_nil ?_
    cases hx; exact le_auto
  refine ms_le le ?_
  show MS _ [some (.vw (pairs.map e_T_d_d)), some (.fz (.int way)), some (.fz (.int cell_here)), some (.lst ((p16.map e_T_d_d).map .fz)), some (.fz (.int at_0)), some (.fz v3.1), some (.lst ((odd.map e_d).map .fz)), none] _ _
  replace hx := bd_some hx
  obtain ⟨p23, hp23, hx⟩ := hx
  refine ms_cons (m_ifP (out := p23) (fun p23 => [some (.vw (pairs.map e_T_d_d)), some (.fz (.int way)), some (.fz (.int cell_here)), some (.lst ((p23.map e_T_d_d).map .fz)), some (.fz (.int at_0)), some (.fz v3.1), some (.lst ((odd.map e_d).map .fz)), none]) (t := ((way == 5))) (mt_eqI (me_var (pv 1) rfl) me_int) (fun h => ?_) (fun h => ?_) fun τ le => ?_)
  · replace hx := cond_t hp23 h
    replace hx := gd_some hx
    obtain ⟨g24, hx⟩ := hx
    replace hx := lt_some hx
    obtain ⟨some_4, esome_4, hx⟩ := hx
    refine ms_one (m_insertPT (xs := p16) (enc := e_T_d_d) (y := (v3.1, (.int (0 : Int)))) (MQ.toP (mq_var (pv 3) rfl)) me_int (me_tup (mf_cons (me_var (pv 5) rfl) (mf_cons me_int mf_nil))) g24 ?_)
    rw [← esome_4]
    cases hx; exact le_auto
  · replace hx := cond_f hp23 h
    refine ms_nil ?_
    cases hx; exact le_auto
  refine ms_le le ?_
  show MS _ [some (.vw (pairs.map e_T_d_d)), some (.fz (.int way)), some (.fz (.int cell_here)), some (.lst ((p23.map e_T_d_d).map .fz)), some (.fz (.int at_0)), some (.fz v3.1), some (.lst ((odd.map e_d).map .fz)), none] _ _
  refine ms_one (m_ret (ps_ret pe_w) (mr_var (pv 3) rfl) ?_)
  cases hx; rfl

abbrev e_L_s (xs : (List Str)) : D := .lst (xs.map D.str)
noncomputable def M__law_kept (cover : (Str × Cd × (List (Str × Int)) × (List Str) × (List Int) × Bool)) (name : Str) (clauses : (List (List Str))) (pairs : (List (Str × Int))) (waits : Bool) : Option Bool :=
  cond ((!true) || (!(cover.1 == name))) (some false) <|
  cond ((!true) || (!(cover.2.2.2.2.2 == waits))) (some false) <|
  bd (cond (!true) (some true) (gd (cover.2.2.1.length < sizeLine) <| bd (mpO (fun x2 : (Str × Int) => bd (M_Own_words x2) fun v3 => some v3) cover.2.2.1) fun v4 => gd (D.ok (.lst (v4.map e_L_s)) ∧ D.ok (.lst (clauses.map e_L_s))) <| some (!(D.eqv (.lst (v4.map e_L_s)) (.lst (clauses.map e_L_s)))))) fun v6 =>
  cond v6 (some false) <|
  bd (cond (!true) (some true) (gd (pairs.length < sizeLine) <| bd (mpO (fun x9 : (Str × Int) => some ((x9).1)) pairs) fun v10 => gd (D.ok (.lst (cover.2.2.2.1.map D.str)) ∧ D.ok (.lst (v10.map D.str))) <| some (!(D.eqv (.lst (cover.2.2.2.1.map D.str)) (.lst (v10.map D.str)))))) fun v12 =>
  cond v12 (some false) <|
  gd (pairs.length < sizeLine) <|
  bd (mpO (fun x15 : (Str × Int) => some ((x15).2)) pairs) fun v16 =>
  bd (cond (!true) (some true) (gd (WOk cover.2.2.2.2.1 ∧ 0 ≤ (37 : Int)) <| gd (WOk v16) <| gd (WOk v16 ∧ 0 ≤ (37 : Int)) <| gd (D.ok (.lst ((countsM cover.2.2.2.2.1 (37 : Int)).map D.int)) ∧ D.ok (.lst ((countsM v16 (37 : Int)).map D.int))) <| some (!(D.eqv (.lst ((countsM cover.2.2.2.2.1 (37 : Int)).map D.int)) (.lst ((countsM v16 (37 : Int)).map D.int)))))) fun v21 =>
  cond v21 (some false) <|
  gd (D.ok (.lst (cover.2.2.2.2.1.map D.int)) ∧ D.ok (.lst (v16.map D.int))) <|
  some ((D.eqv (.lst (cover.2.2.2.2.1.map D.int)) (.lst (v16.map D.int))))
def sp__law_kept (K : PySem.W.Frag) (C_Cover C_Condition C_CauseIs C_ThingIs C_Over C_Own C_Deal : Addr) : Sp := SpF K (fun x : (Str × Cd × (List (Str × Int)) × (List Str) × (List Int) × Bool) × Str × (List (List Str)) × (List (Str × Int)) × Bool => [.fz ((r_Cover C_Cover C_Condition C_CauseIs C_ThingIs C_Over C_Own C_Deal) x.1), .fz (.str x.2.1), .vw (x.2.2.1.map e_L_s), .vw (x.2.2.2.1.map e_T_s_i), .fz (.bl x.2.2.2.2)]) (fun x => M__law_kept x.1 x.2.1 x.2.2.1 x.2.2.2.1 x.2.2.2.2) (fun r => .fz (.bl r))
abbrev N__law_kept : List Str := ["_law_cover", "_law_name", "_law_clauses", "_law_pairs", "_law_waits", "_law_weights", "_law_one", "_law_house", "_law_weight"]
theorem sc__law_kept : FnScope N__law_kept ["_law_cover", "_law_name", "_law_clauses", "_law_pairs", "_law_waits"] (defScope s__law_kept) := ⟨rfl, rfl, rfl, by decide +kernel, rfl, by decide +kernel, by decide +kernel⟩
theorem ok__law_kept {f : Addr} {fd : FuncData} (F : Fun K "_law_kept" "_law_kept" s__law_kept f fd) (z_isinstance : mg "isinstance" = none) (z_str : mg "str" = none) (z_bool : mg "bool" = none) (z_list : mg "list" = none) (o_Cover : OC K C_Cover ["name", "condition", "clauses", "houses", "deal", "waits"]) (o_Own : OC K C_Own ["by", "cents"]) (o_Deal : OC K C_Deal ["wheel", "weights"]) (m_Own_words : Mt1 P w K mg base C_Own "words" 2 ["self"] (sp_Own_words K C_Own)) (e_Deal : mg "Deal" = some (.ref C_Deal)) (y_Deal : OI K C_Deal) (q_Deal_Deal : PySem.W.kitOne K (.ref C_Deal) (.ref C_Deal) = some true) (m_Deal_counts_to : Mt1 P w K mg base C_Deal "counts_to" 2 ["self", "n"] (sp_Deal_counts_to K C_Deal)) (i_Deal : Mk1 P w K mg base "Deal" C_Deal 4 ["self", "weights"] (sp_Deal___init__ K C_Deal)) : FnOk P w K mg base CX0 6 f fd ["_law_cover", "_law_name", "_law_clauses", "_law_pairs", "_law_waits"] (sp__law_kept K C_Cover C_Condition C_CauseIs C_ThingIs C_Over C_Own C_Deal) := by
  refine fn_m F sc__law_kept (fun x => rfl) (fun x _ => rfl) fun cdv A outer s H E hr x hx => ?_
  obtain ⟨⟨cover, name, clauses, pairs, waits⟩, r⟩ := x
  replace hx : M__law_kept cover name clauses pairs waits = some r := hx
  have nd := sc__law_kept.nd
  unfold M__law_kept at hx
  show MS _ [some (.fz ((r_Cover C_Cover C_Condition C_CauseIs C_ThingIs C_Over C_Own C_Deal) cover)), some (.fz (.str name)), some (.vw (clauses.map e_L_s)), some (.vw (pairs.map e_T_s_i)), some (.fz (.bl waits)), none, none, none, none] _ _
  refine ms_cons (m_if (t := ((!true) || (!(cover.1 == name)))) (MW.t (mw_or (mt_not (mt_val (me_isi (k := true) (by rfl) z_isinstance (pe_bltn (v := .ty "str") (by rfl) z_str (by decide +kernel) rfl) (ME.v (me_fld (j := 0) (mv_var (pv 0) rfl) o_Cover)) rfl (by decide +kernel)))) fun _ => (mw_or1 (mt_neS (me_fld (j := 0) (mv_var (pv 0) rfl) o_Cover) (me_var (pv 1) rfl))))) (fun h => ?_) fun h => ms_nil ?_)
  · replace hx := cond_t hx h
    refine ms_one (m_ret (ps_ret pe_w) (ME.r me_bl) ?_)
    cases hx; rfl
  replace hx := cond_f hx h
  refine ms_cons (m_if (t := ((!true) || (!(cover.2.2.2.2.2 == waits)))) (MW.t (mw_or (mt_not (mt_val (me_isi (k := true) (by rfl) z_isinstance (pe_bltn (v := .ty "bool") (by rfl) z_bool (by decide +kernel) rfl) (ME.v (me_fld (j := 5) (mv_var (pv 0) rfl) o_Cover)) rfl (by decide +kernel)))) fun _ => (mw_or1 (mt_neB (me_fld (j := 5) (mv_var (pv 0) rfl) o_Cover) (me_var (pv 4) rfl))))) (fun h => ?_) fun h => ms_nil ?_)
  · replace hx := cond_t hx h
    refine ms_one (m_ret (ps_ret pe_w) (ME.r me_bl) ?_)
    cases hx; rfl
  replace hx := cond_f hx h
  replace hx := bd_some hx
  obtain ⟨v6, hv6, hx⟩ := hx
  refine ms_cons (m_if (t := v6) (MW.t (MW.is (mw_or (mt_not (mt_val (me_isi (k := true) (by rfl) z_isinstance (pe_bltn (v := .ty "list") (by rfl) z_list (by decide +kernel) rfl) (ME.v (me_fld (j := 2) (mv_var (pv 0) rfl) o_Cover)) rfl (by decide +kernel)))) fun q7 => (by have hx := cond_f hv6 q7; replace hx := gd_some hx; obtain ⟨g1, hx⟩ := hx; replace hx := bd_some hx; obtain ⟨v4, hv4, hx⟩ := hx; replace hx := gd_some hx; obtain ⟨g5, hx⟩ := hx; cases hx; exact (mw_or1 (mt_neDT (d1 := .lst (v4.map e_L_s)) (d2 := .lst (clauses.map e_L_s)) hr.units g5 frz_own rfl (ME.v (by exact (me_lcO (g := (gName 6)) (xs := cover.2.2.1) (ys := v4) (enc := (r_Own C_Own)) (enc2 := e_L_s) hv4 (fun te he => pe_lc (own := [("_law_one", 6)]) rfl nd (pi_list pe_w) (blkOk_by (N := N__law_kept) (sc := defScope s__law_kept) (by decide +kernel)) (fun _ _ _ _ _ => (pg_name (i := 6) nd rfl (Or.inl rfl))) (fun _ _ _ _ _ => pts_nil) he) (mic_list (MV.l (ME.v (me_fld (j := 2) (mv_var (pv 0) rfl) o_Cover)) (.fz _))) g1 (fun x2 mx x2y hx => by replace hx := bd_some hx; obtain ⟨v3, hv3, hx⟩ := hx; injection hx with hx; subst x2y; exact ⟨_, _, mg_name, by decide, fun s H C cl fp => (ME.frzl (me_mt0 m_Own_words o_Own (x2, v3) (mv_var (pv 6) rfl) rfl hv3 (hr.mono (by decide))))⟩)))) (mv_var (pv 2) rfl))))) (or_c hv6))) (fun h => ?_) fun h => ms_nil ?_)
  · replace hx := cond_t hx h
    refine ms_one (m_ret (ps_ret pe_w) (ME.r me_bl) ?_)
    cases hx; rfl
  replace hx := cond_f hx h
  replace hx := bd_some hx
  obtain ⟨v12, hv12, hx⟩ := hx
  refine ms_cons (m_if (t := v12) (MW.t (MW.is (mw_or (mt_not (mt_val (me_isi (k := true) (by rfl) z_isinstance (pe_bltn (v := .ty "list") (by rfl) z_list (by decide +kernel) rfl) (ME.v (me_fld (j := 3) (mv_var (pv 0) rfl) o_Cover)) rfl (by decide +kernel)))) fun q13 => (by have hx := cond_f hv12 q13; replace hx := gd_some hx; obtain ⟨g8, hx⟩ := hx; replace hx := bd_some hx; obtain ⟨v10, hv10, hx⟩ := hx; replace hx := gd_some hx; obtain ⟨g11, hx⟩ := hx; cases hx; exact (mw_or1 (mt_neDT (d1 := .lst (cover.2.2.2.1.map D.str)) (d2 := .lst (v10.map D.str)) hr.units g11 rfl frz_own (ME.v (me_fld (j := 3) (mv_var (pv 0) rfl) o_Cover)) (ME.v (by exact (me_lcO (g := (gTup K 2 (gCons (gName 7) (gCons (gName 8) gNil)))) (xs := pairs) (ys := v10) (enc := e_T_s_i) (enc2 := D.str) hv10 (fun te he => pe_lc (own := [("_law_house", 7), ("_law_weight", 8)]) rfl nd (pi_list pe_w) (blkOk_by (N := N__law_kept) (sc := defScope s__law_kept) (by decide +kernel)) (fun _ _ _ _ _ => (pg_tup (n := 2) rfl (pgs_cons (pg_name (i := 7) nd rfl (Or.inl rfl)) (pgs_cons (pg_name (i := 8) nd rfl (Or.inl rfl)) pgs_nil)))) (fun _ _ _ _ _ => pts_nil) he) (mic_list (ml_var (pv 3) rfl)) g8 (fun x9 mx x9y hx => by injection hx with hx; subst x9y; exact ⟨_, _, (mg_tup (mgs_cons mg_name (mgs_cons mg_name mgs_nil)) rfl), by decide, fun s H C cl fp => (me_var (pv 7) rfl)⟩)))))))) (or_c hv12))) (fun h => ?_) fun h => ms_nil ?_)
  · replace hx := cond_t hx h
    refine ms_one (m_ret (ps_ret pe_w) (ME.r me_bl) ?_)
    cases hx; rfl
  replace hx := cond_f hx h
  replace hx := gd_some hx
  obtain ⟨g14, hx⟩ := hx
  replace hx := bd_some hx
  obtain ⟨v16, hv16, hx⟩ := hx
  refine ms_cons (m_setLcO (i := 5) (g := (gTup K 2 (gCons (gName 7) (gCons (gName 8) gNil)))) (xs := pairs) (ys := v16) (enc := e_T_s_i) (enc2 := D.int) hv16 (fun te he => ps_setLc (i := 5) (own := [("_law_house", 7), ("_law_weight", 8)]) rfl nd rfl rfl (sw_true rfl rfl rfl (by decide +kernel)) (pi_list pe_w) (blkOk_by (N := N__law_kept) (sc := defScope s__law_kept) (by decide +kernel)) (fun _ _ _ _ _ => (pg_tup (n := 2) rfl (pgs_cons (pg_name (i := 7) nd rfl (Or.inl rfl)) (pgs_cons (pg_name (i := 8) nd rfl (Or.inl rfl)) pgs_nil)))) (fun _ _ _ _ _ => pts_nil) he) (mic_list (ml_var (pv 3) rfl)) g14 (fun x15 mx x15y hx => by injection hx with hx; subst x15y; exact ⟨_, _, (mg_tup (mgs_cons mg_name (mgs_cons mg_name mgs_nil)) rfl), by decide, fun s H C cl fp => (me_var (pv 8) rfl)⟩) ?_)
  show MS _ [some (.fz ((r_Cover C_Cover C_Condition C_CauseIs C_ThingIs C_Over C_Own C_Deal) cover)), some (.fz (.str name)), some (.vw (clauses.map e_L_s)), some (.vw (pairs.map e_T_s_i)), some (.fz (.bl waits)), some (.lst ((v16.map D.int).map .fz)), none, none, none] _ _
  replace hx := bd_some hx
  obtain ⟨v21, hv21, hx⟩ := hx
  refine ms_cons (m_if (t := v21) (MW.t (MW.is (mw_or (mt_not (mt_val (me_isiC (by rfl) z_isinstance e_Deal (ME.v (me_fld (j := 4) (mv_var (pv 0) rfl) o_Cover)) y_Deal q_Deal_Deal))) fun q22 => (by have hx := cond_f hv21 q22; replace hx := gd_some hx; obtain ⟨g17, hx⟩ := hx; replace hx := gd_some hx; obtain ⟨g18, hx⟩ := hx; replace hx := gd_some hx; obtain ⟨g19, hx⟩ := hx; replace hx := gd_some hx; obtain ⟨g20, hx⟩ := hx; cases hx; exact (mw_or1 (mt_neDT (d1 := .lst ((countsM cover.2.2.2.2.1 (37 : Int)).map D.int)) (d2 := .lst ((countsM v16 (37 : Int)).map D.int)) hr.units g20 frz_own frz_own (ME.v (me_mt m_Deal_counts_to o_Deal (cover.2.2.2.2.1, 37) (ME.v (me_fld (j := 4) (mv_var (pv 0) rfl) o_Cover)) (ma_fz me_int ma_nil) rfl g17 (hr.mono (by decide)))) (ME.v (me_mt m_Deal_counts_to o_Deal (v16, 37) (ME.v (ME.is (o' := .fz (dealD C_Deal v16)) (ME.frz (me_make i_Deal v16 (ma_vw (ml_var (pv 5) rfl) ma_nil) g18 (hr.mono (by decide))) (nv_deal _ _)) (congrArg O.fz (frz_deal _ _)))) (ma_fz me_int ma_nil) rfl g19 (hr.mono (by decide)))))))) (or_c hv21))) (fun h => ?_) fun h => ms_nil ?_)
  · replace hx := cond_t hx h
    refine ms_one (m_ret (ps_ret pe_w) (ME.r me_bl) ?_)
    cases hx; rfl
  replace hx := cond_f hx h
  replace hx := gd_some hx
  obtain ⟨g23, hx⟩ := hx
  refine ms_one (m_ret (ps_ret pe_w) (ME.r (me_eqDT (d1 := .lst (cover.2.2.2.2.1.map D.int)) (d2 := .lst (v16.map D.int)) hr.units g23 rfl frz_own (ME.v (me_fld (j := 1) (ME.v (me_fld (j := 4) (mv_var (pv 0) rfl) o_Cover)) o_Deal)) (mv_var (pv 5) rfl))) ?_)
  cases hx; rfl

abbrev e_T_s_s_i (p : (Str × Str × Int)) : D := .tup [.str p.1, .str p.2.1, .int p.2.2]
noncomputable def M__law_asks (cover : (Str × Cd × (List (Str × Int)) × (List Str) × (List Int) × Bool)) (way : Int) (name : Str) (cents : Int) : Option Bool :=
  bd (lpO (fun (x2 : (Str × Str × Int)) (p1 : Unit) => (bd (L2.atI [(((x2).1 == name)), (((x2).2.1 == name)), (decide (cents < (x2).2.2))] way) fun v4 =>
    bd (M_Cover_asks cover (7, 100, ("storm" : Str), (x2).2.1, (x2).1, (x2).2.2)) fun v5 =>
    cond ((!true) || (!(v5 == v4))) (some (.rt false)) <|
    some (.nx ()) : Option (Ou (Unit) (Unit) Bool))) [(name, ("zzz" : Str), (cents + 1)), (("zzz" : Str), name, cents), (("zzz" : Str), ("yyy" : Str), (cents + 1))] ()) fun o3 => ouR o3 fun p1 =>
  some true
def sp__law_asks (K : PySem.W.Frag) (C_Cover C_Condition C_CauseIs C_ThingIs C_Over C_Own C_Deal : Addr) : Sp := SpF K (fun x : (Str × Cd × (List (Str × Int)) × (List Str) × (List Int) × Bool) × Int × Str × Int => [.fz ((r_Cover C_Cover C_Condition C_CauseIs C_ThingIs C_Over C_Own C_Deal) x.1), .fz (.int x.2.1), .fz (.str x.2.2.1), .fz (.int x.2.2.2)]) (fun x => M__law_asks x.1 x.2.1 x.2.2.1 x.2.2.2) (fun r => .fz (.bl r))
abbrev N__law_asks : List Str := ["_law_cover", "_law_way", "_law_name", "_law_cents", "_law_cause", "_law_thing", "_law_many", "_law_due", "_law_found"]
theorem sc__law_asks : FnScope N__law_asks ["_law_cover", "_law_way", "_law_name", "_law_cents"] (defScope s__law_asks) := ⟨rfl, rfl, rfl, by decide +kernel, rfl, by decide +kernel, by decide +kernel⟩
theorem ok__law_asks {f : Addr} {fd : FuncData} (F : Fun K "_law_asks" "_law_asks" s__law_asks f fd) (z_isinstance : mg "isinstance" = none) (z_bool : mg "bool" = none) (o_Cover : OC K C_Cover ["name", "condition", "clauses", "houses", "deal", "waits"]) (m_Cover_asks : Mt1 P w K mg base C_Cover "asks" 2 ["self", "loss"] (sp_Cover_asks K C_Cover C_Condition C_CauseIs C_ThingIs C_Over C_Own C_Deal)) : FnOk P w K mg base CX0 3 f fd ["_law_cover", "_law_way", "_law_name", "_law_cents"] (sp__law_asks K C_Cover C_Condition C_CauseIs C_ThingIs C_Over C_Own C_Deal) := by
  refine fn_m F sc__law_asks (fun x => rfl) (fun x _ => rfl) fun cdv A outer s H E hr x hx => ?_
  obtain ⟨⟨cover, way, name, cents⟩, r⟩ := x
  replace hx : M__law_asks cover way name cents = some r := hx
  have nd := sc__law_asks.nd
  unfold M__law_asks at hx
  show MS _ [some (.fz ((r_Cover C_Cover C_Condition C_CauseIs C_ThingIs C_Over C_Own C_Deal) cover)), some (.fz (.int way)), some (.fz (.str name)), some (.fz (.int cents)), none, none, none, none, none] _ _
  replace hx := bd_some hx
  obtain ⟨o3, ho3, hx⟩ := hx
  refine ms_cons (m_forO (xs := [(name, ("zzz" : Str), (cents + 1)), (("zzz" : Str), name, cents), (("zzz" : Str), ("yyy" : Str), (cents + 1))]) (enc := e_T_s_s_i) (ps_for PassesOwn.never rfl (pi_list pe_w) (pg_tup (n := 3) rfl (pgs_cons (pg_name (i := 4) nd rfl (Or.inl rfl)) (pgs_cons (pg_name (i := 5) nd rfl (Or.inl rfl)) (pgs_cons (pg_name (i := 6) nd rfl (Or.inl rfl)) pgs_nil)))) pss_w) (by exact (mi_list (ds := [(name, ("zzz" : Str), (cents + 1)), (("zzz" : Str), name, cents), (("zzz" : Str), ("yyy" : Str), (cents + 1))].map e_T_s_s_i) (ME.k (ME.frzl (me_lst (ds := [(name, ("zzz" : Str), (cents + 1)), (("zzz" : Str), name, cents), (("zzz" : Str), ("yyy" : Str), (cents + 1))].map e_T_s_s_i) (mf_cons (me_tup (mf_cons (me_var (pv 2) rfl) (mf_cons me_str (mf_cons (me_add (me_var (pv 3) rfl) me_int) mf_nil)))) (mf_cons (me_tup (mf_cons me_str (mf_cons (me_var (pv 2) rfl) (mf_cons (me_var (pv 3) rfl) mf_nil)))) (mf_cons (me_tup (mf_cons me_str (mf_cons me_str (mf_cons (me_add (me_var (pv 3) rfl) me_int) mf_nil)))) mf_nil)))))))) ho3 (fun p1 => [some (.fz ((r_Cover C_Cover C_Condition C_CauseIs C_ThingIs C_Over C_Own C_Deal) cover)), some (.fz (.int way)), some (.fz (.str name)), some (.fz (.int cents)), none, none, none, none, none]) (fun r => .fz (.bl r)) le_auto (fun x2 p1 p1o mx hx => ?_) (fun p1 τ e le => ?_) fun q e => ?_)
  ·
    refine ⟨_, _, (mg_tup (mgs_cons mg_name (mgs_cons mg_name (mgs_cons mg_name mgs_nil))) rfl), ?_⟩
    show MS _ [some (.fz ((r_Cover C_Cover C_Condition C_CauseIs C_ThingIs C_Over C_Own C_Deal) cover)), some (.fz (.int way)), some (.fz (.str name)), some (.fz (.int cents)), some (.fz (.str ((x2).1))), some (.fz (.str ((x2).2.1))), some (.fz (.int ((x2).2.2))), none, none] _ _
    replace hx := bd_some hx
    obtain ⟨v4, hv4, hx⟩ := hx
    refine ms_cons (m_set (ps_set (i := 7) nd rfl (Or.inl rfl) pe_w) (me_ixLT (xs := [(((x2).1 == name)), (((x2).2.1 == name)), (decide (cents < (x2).2.2))]) (enc := D.bl) hv4 (ME.l (me_lst (ds := [(((x2).1 == name)), (((x2).2.1 == name)), (decide (cents < (x2).2.2))].map D.bl) (mf_cons (me_eqS (me_var (pv 4) rfl) (me_var (pv 2) rfl)) (mf_cons (me_eqS (me_var (pv 5) rfl) (me_var (pv 2) rfl)) (mf_cons (me_gt (me_var (pv 6) rfl) (me_var (pv 3) rfl)) mf_nil))))) (me_var (pv 1) rfl)) ?_)
    show MS _ [some (.fz ((r_Cover C_Cover C_Condition C_CauseIs C_ThingIs C_Over C_Own C_Deal) cover)), some (.fz (.int way)), some (.fz (.str name)), some (.fz (.int cents)), some (.fz (.str ((x2).1))), some (.fz (.str ((x2).2.1))), some (.fz (.int ((x2).2.2))), some (.fz (.bl v4)), none] _ _
    replace hx := bd_some hx
    obtain ⟨v5, hv5, hx⟩ := hx
    refine ms_cons (m_set (ps_set (i := 8) nd rfl (Or.inl rfl) pe_w) (me_mt m_Cover_asks o_Cover ((cover, (7, 100, ("storm" : Str), (x2).2.1, (x2).1, (x2).2.2)), v5) (mv_var (pv 0) rfl) (ma_fz (me_tup (mf_cons me_int (mf_cons me_int (mf_cons me_str (mf_cons (me_var (pv 5) rfl) (mf_cons (me_var (pv 4) rfl) (mf_cons (me_var (pv 6) rfl) mf_nil))))))) ma_nil) rfl hv5 (hr.mono (by decide))) ?_)
    show MS _ [some (.fz ((r_Cover C_Cover C_Condition C_CauseIs C_ThingIs C_Over C_Own C_Deal) cover)), some (.fz (.int way)), some (.fz (.str name)), some (.fz (.int cents)), some (.fz (.str ((x2).1))), some (.fz (.str ((x2).2.1))), some (.fz (.int ((x2).2.2))), some (.fz (.bl v4)), some (.fz (.bl v5))] _ _
    refine ms_one (m_if (t := ((!true) || (!(v5 == v4)))) (MW.t (mw_or (mt_not (mt_val (me_isi (k := true) (by rfl) z_isinstance (pe_bltn (v := .ty "bool") (by rfl) z_bool (by decide +kernel) rfl) (mv_var (pv 8) rfl) rfl (by decide +kernel)))) fun _ => (mw_or1 (mt_neB (me_var (pv 8) rfl) (me_var (pv 7) rfl))))) (fun h => ?_) fun h => ms_nil ?_)
    · replace hx := cond_t hx h
      refine ms_one (m_ret (ps_ret pe_w) (ME.r me_bl) ?_)
      cases hx; exact ⟨_, rfl, rfl⟩
    replace hx := cond_f hx h
    cases hx; exact ⟨_, rfl, le_auto⟩
  · subst e
    dsimp only [ouR] at hx
    refine ms_le le ?_
    show MS _ [some (.fz ((r_Cover C_Cover C_Condition C_CauseIs C_ThingIs C_Over C_Own C_Deal) cover)), some (.fz (.int way)), some (.fz (.str name)), some (.fz (.int cents)), none, none, none, none, none] _ _
    refine ms_one (m_ret (ps_ret pe_w) (ME.r me_bl) ?_)
    cases hx; rfl
  · subst e; cases hx; rfl

noncomputable def M__law_kept_p (cover : (Str × Cd × (List (Str × Int)) × (List Str) × (List Int) × Bool)) (name : Str) (clauses : (List (List Str))) (pairs : (List (Str × Int))) (waits : Bool) : Option Bool :=
  cond ((!true) || (!(cover.1 == name))) (some false) <|
  cond ((!true) || (!(cover.2.2.2.2.2 == waits))) (some false) <|
  bd (cond (!true) (some true) (gd (cover.2.2.1.length < sizeLine) <| bd (mpO (fun x2 : (Str × Int) => bd (M_Own_words x2) fun v3 => some v3) cover.2.2.1) fun v4 => gd (D.ok (.lst (v4.map e_L_s)) ∧ D.ok (.lst (clauses.map e_L_s))) <| some (!(D.eqv (.lst (v4.map e_L_s)) (.lst (clauses.map e_L_s)))))) fun v6 =>
  cond v6 (some false) <|
  bd (cond (!true) (some true) (gd (pairs.length < sizeLine) <| bd (mpO (fun x9 : (Str × Int) => some ((x9).1)) pairs) fun v10 => gd (D.ok (.lst (cover.2.2.2.1.map D.str)) ∧ D.ok (.lst (v10.map D.str))) <| some (!(D.eqv (.lst (cover.2.2.2.1.map D.str)) (.lst (v10.map D.str)))))) fun v12 =>
  cond v12 (some false) <|
  gd (pairs.length < sizeLine) <|
  bd (mpO (fun x15 : (Str × Int) => some ((x15).2)) pairs) fun v16 =>
  bd (cond (!true) (some true) (gd (WOk cover.2.2.2.2.1 ∧ 0 ≤ (37 : Int)) <| gd (WOk v16) <| gd (WOk v16 ∧ 0 ≤ (37 : Int)) <| gd (D.ok (.lst ((countsM cover.2.2.2.2.1 (37 : Int)).map D.int)) ∧ D.ok (.lst ((countsM v16 (37 : Int)).map D.int))) <| some (!(D.eqv (.lst ((countsM cover.2.2.2.2.1 (37 : Int)).map D.int)) (.lst ((countsM v16 (37 : Int)).map D.int)))))) fun v21 =>
  cond v21 (some false) <|
  gd (D.ok (.lst (cover.2.2.2.2.1.map D.int)) ∧ D.ok (.lst (v16.map D.int))) <|
  some ((D.eqv (.lst (cover.2.2.2.2.1.map D.int)) (.lst (v16.map D.int))))
def sp__law_kept_p (K : PySem.W.Frag) (C_CoverP C_Condition C_CauseIs C_ThingIs C_Over C_Own C_Deal : Addr) : Sp := SpF K (fun x : (Str × Cd × (List (Str × Int)) × (List Str) × (List Int) × Bool) × Str × (List (List Str)) × (List (Str × Int)) × Bool => [.fz ((r_CoverP C_CoverP C_Condition C_CauseIs C_ThingIs C_Over C_Own C_Deal) x.1), .fz (.str x.2.1), .vw (x.2.2.1.map e_L_s), .vw (x.2.2.2.1.map e_T_s_i), .fz (.bl x.2.2.2.2)]) (fun x => M__law_kept_p x.1 x.2.1 x.2.2.1 x.2.2.2.1 x.2.2.2.2) (fun r => .fz (.bl r))
abbrev N__law_kept_p : List Str := ["_law_cover", "_law_name", "_law_clauses", "_law_pairs", "_law_waits", "_law_weights", "_law_one", "_law_house", "_law_weight"]
theorem sc__law_kept_p : FnScope N__law_kept_p ["_law_cover", "_law_name", "_law_clauses", "_law_pairs", "_law_waits"] (defScope s__law_kept_p) := ⟨rfl, rfl, rfl, by decide +kernel, rfl, by decide +kernel, by decide +kernel⟩
theorem ok__law_kept_p {f : Addr} {fd : FuncData} (F : Fun K "_law_kept" "_law_kept" s__law_kept_p f fd) (z_isinstance : mg "isinstance" = none) (z_str : mg "str" = none) (z_bool : mg "bool" = none) (z_list : mg "list" = none) (o_CoverP : OC K C_CoverP ["name", "condition", "clauses", "houses", "deal", "waits"]) (o_Own : OC K C_Own ["by", "cents"]) (o_Deal : OC K C_Deal ["wheel", "weights"]) (m_Own_words : Mt1 P w K mg base C_Own "words" 2 ["self"] (sp_Own_words K C_Own)) (e_Deal : mg "Deal" = some (.ref C_Deal)) (y_Deal : OI K C_Deal) (q_Deal_Deal : PySem.W.kitOne K (.ref C_Deal) (.ref C_Deal) = some true) (m_Deal_counts_to : Mt1 P w K mg base C_Deal "counts_to" 2 ["self", "n"] (sp_Deal_counts_to K C_Deal)) (i_Deal : Mk1 P w K mg base "Deal" C_Deal 4 ["self", "weights"] (sp_Deal___init__ K C_Deal)) : FnOk P w K mg base CX0 6 f fd ["_law_cover", "_law_name", "_law_clauses", "_law_pairs", "_law_waits"] (sp__law_kept_p K C_CoverP C_Condition C_CauseIs C_ThingIs C_Over C_Own C_Deal) := by
  refine fn_m F sc__law_kept_p (fun x => rfl) (fun x _ => rfl) fun cdv A outer s H E hr x hx => ?_
  obtain ⟨⟨cover, name, clauses, pairs, waits⟩, r⟩ := x
  replace hx : M__law_kept_p cover name clauses pairs waits = some r := hx
  have nd := sc__law_kept_p.nd
  unfold M__law_kept_p at hx
  show MS _ [some (.fz ((r_CoverP C_CoverP C_Condition C_CauseIs C_ThingIs C_Over C_Own C_Deal) cover)), some (.fz (.str name)), some (.vw (clauses.map e_L_s)), some (.vw (pairs.map e_T_s_i)), some (.fz (.bl waits)), none, none, none, none] _ _
  refine ms_cons (m_if (t := ((!true) || (!(cover.1 == name)))) (MW.t (mw_or (mt_not (mt_val (me_isi (k := true) (by rfl) z_isinstance (pe_bltn (v := .ty "str") (by rfl) z_str (by decide +kernel) rfl) (ME.v (me_fld (j := 0) (mv_var (pv 0) rfl) o_CoverP)) rfl (by decide +kernel)))) fun _ => (mw_or1 (mt_neS (me_fld (j := 0) (mv_var (pv 0) rfl) o_CoverP) (me_var (pv 1) rfl))))) (fun h => ?_) fun h => ms_nil ?_)
  · replace hx := cond_t hx h
    refine ms_one (m_ret (ps_ret pe_w) (ME.r me_bl) ?_)
    cases hx; rfl
  replace hx := cond_f hx h
  refine ms_cons (m_if (t := ((!true) || (!(cover.2.2.2.2.2 == waits)))) (MW.t (mw_or (mt_not (mt_val (me_isi (k := true) (by rfl) z_isinstance (pe_bltn (v := .ty "bool") (by rfl) z_bool (by decide +kernel) rfl) (ME.v (me_fld (j := 5) (mv_var (pv 0) rfl) o_CoverP)) rfl (by decide +kernel)))) fun _ => (mw_or1 (mt_neB (me_fld (j := 5) (mv_var (pv 0) rfl) o_CoverP) (me_var (pv 4) rfl))))) (fun h => ?_) fun h => ms_nil ?_)
  · replace hx := cond_t hx h
    refine ms_one (m_ret (ps_ret pe_w) (ME.r me_bl) ?_)
    cases hx; rfl
  replace hx := cond_f hx h
  replace hx := bd_some hx
  obtain ⟨v6, hv6, hx⟩ := hx
  refine ms_cons (m_if (t := v6) (MW.t (MW.is (mw_or (mt_not (mt_val (me_isi (k := true) (by rfl) z_isinstance (pe_bltn (v := .ty "list") (by rfl) z_list (by decide +kernel) rfl) (ME.v (me_fld (j := 2) (mv_var (pv 0) rfl) o_CoverP)) rfl (by decide +kernel)))) fun q7 => (by have hx := cond_f hv6 q7; replace hx := gd_some hx; obtain ⟨g1, hx⟩ := hx; replace hx := bd_some hx; obtain ⟨v4, hv4, hx⟩ := hx; replace hx := gd_some hx; obtain ⟨g5, hx⟩ := hx; cases hx; exact (mw_or1 (mt_neDT (d1 := .lst (v4.map e_L_s)) (d2 := .lst (clauses.map e_L_s)) hr.units g5 frz_own rfl (ME.v (by exact (me_lcO (g := (gName 6)) (xs := cover.2.2.1) (ys := v4) (enc := (r_Own C_Own)) (enc2 := e_L_s) hv4 (fun te he => pe_lc (own := [("_law_one", 6)]) rfl nd (pi_list pe_w) (blkOk_by (N := N__law_kept_p) (sc := defScope s__law_kept_p) (by decide +kernel)) (fun _ _ _ _ _ => (pg_name (i := 6) nd rfl (Or.inl rfl))) (fun _ _ _ _ _ => pts_nil) he) (mic_list (MV.l (ME.v (me_fld (j := 2) (mv_var (pv 0) rfl) o_CoverP)) (.fz _))) g1 (fun x2 mx x2y hx => by replace hx := bd_some hx; obtain ⟨v3, hv3, hx⟩ := hx; injection hx with hx; subst x2y; exact ⟨_, _, mg_name, by decide, fun s H C cl fp => (ME.frzl (me_mt0 m_Own_words o_Own (x2, v3) (mv_var (pv 6) rfl) rfl hv3 (hr.mono (by decide))))⟩)))) (mv_var (pv 2) rfl))))) (or_c hv6))) (fun h => ?_) fun h => ms_nil ?_)
  · replace hx := cond_t hx h
    refine ms_one (m_ret (ps_ret pe_w) (ME.r me_bl) ?_)
    cases hx; rfl
  replace hx := cond_f hx h
  replace hx := bd_some hx
  obtain ⟨v12, hv12, hx⟩ := hx
  refine ms_cons (m_if (t := v12) (MW.t (MW.is (mw_or (mt_not (mt_val (me_isi (k := true) (by rfl) z_isinstance (pe_bltn (v := .ty "list") (by rfl) z_list (by decide +kernel) rfl) (ME.v (me_fld (j := 3) (mv_var (pv 0) rfl) o_CoverP)) rfl (by decide +kernel)))) fun q13 => (by have hx := cond_f hv12 q13; replace hx := gd_some hx; obtain ⟨g8, hx⟩ := hx; replace hx := bd_some hx; obtain ⟨v10, hv10, hx⟩ := hx; replace hx := gd_some hx; obtain ⟨g11, hx⟩ := hx; cases hx; exact (mw_or1 (mt_neDT (d1 := .lst (cover.2.2.2.1.map D.str)) (d2 := .lst (v10.map D.str)) hr.units g11 rfl frz_own (ME.v (me_fld (j := 3) (mv_var (pv 0) rfl) o_CoverP)) (ME.v (by exact (me_lcO (g := (gTup K 2 (gCons (gName 7) (gCons (gName 8) gNil)))) (xs := pairs) (ys := v10) (enc := e_T_s_i) (enc2 := D.str) hv10 (fun te he => pe_lc (own := [("_law_house", 7), ("_law_weight", 8)]) rfl nd (pi_list pe_w) (blkOk_by (N := N__law_kept_p) (sc := defScope s__law_kept_p) (by decide +kernel)) (fun _ _ _ _ _ => (pg_tup (n := 2) rfl (pgs_cons (pg_name (i := 7) nd rfl (Or.inl rfl)) (pgs_cons (pg_name (i := 8) nd rfl (Or.inl rfl)) pgs_nil)))) (fun _ _ _ _ _ => pts_nil) he) (mic_list (ml_var (pv 3) rfl)) g8 (fun x9 mx x9y hx => by injection hx with hx; subst x9y; exact ⟨_, _, (mg_tup (mgs_cons mg_name (mgs_cons mg_name mgs_nil)) rfl), by decide, fun s H C cl fp => (me_var (pv 7) rfl)⟩)))))))) (or_c hv12))) (fun h => ?_) fun h => ms_nil ?_)
  · replace hx := cond_t hx h
    refine ms_one (m_ret (ps_ret pe_w) (ME.r me_bl) ?_)
    cases hx; rfl
  replace hx := cond_f hx h
  replace hx := gd_some hx
  obtain ⟨g14, hx⟩ := hx
  replace hx := bd_some hx
  obtain ⟨v16, hv16, hx⟩ := hx
  refine ms_cons (m_setLcO (i := 5) (g := (gTup K 2 (gCons (gName 7) (gCons (gName 8) gNil)))) (xs := pairs) (ys := v16) (enc := e_T_s_i) (enc2 := D.int) hv16 (fun te he => ps_setLc (i := 5) (own := [("_law_house", 7), ("_law_weight", 8)]) rfl nd rfl rfl (sw_true rfl rfl rfl (by decide +kernel)) (pi_list pe_w) (blkOk_by (N := N__law_kept_p) (sc := defScope s__law_kept_p) (by decide +kernel)) (fun _ _ _ _ _ => (pg_tup (n := 2) rfl (pgs_cons (pg_name (i := 7) nd rfl (Or.inl rfl)) (pgs_cons (pg_name (i := 8) nd rfl (Or.inl rfl)) pgs_nil)))) (fun _ _ _ _ _ => pts_nil) he) (mic_list (ml_var (pv 3) rfl)) g14 (fun x15 mx x15y hx => by injection hx with hx; subst x15y; exact ⟨_, _, (mg_tup (mgs_cons mg_name (mgs_cons mg_name mgs_nil)) rfl), by decide, fun s H C cl fp => (me_var (pv 8) rfl)⟩) ?_)
  show MS _ [some (.fz ((r_CoverP C_CoverP C_Condition C_CauseIs C_ThingIs C_Over C_Own C_Deal) cover)), some (.fz (.str name)), some (.vw (clauses.map e_L_s)), some (.vw (pairs.map e_T_s_i)), some (.fz (.bl waits)), some (.lst ((v16.map D.int).map .fz)), none, none, none] _ _
  replace hx := bd_some hx
  obtain ⟨v21, hv21, hx⟩ := hx
  refine ms_cons (m_if (t := v21) (MW.t (MW.is (mw_or (mt_not (mt_val (me_isiC (by rfl) z_isinstance e_Deal (ME.v (me_fld (j := 4) (mv_var (pv 0) rfl) o_CoverP)) y_Deal q_Deal_Deal))) fun q22 => (by have hx := cond_f hv21 q22; replace hx := gd_some hx; obtain ⟨g17, hx⟩ := hx; replace hx := gd_some hx; obtain ⟨g18, hx⟩ := hx; replace hx := gd_some hx; obtain ⟨g19, hx⟩ := hx; replace hx := gd_some hx; obtain ⟨g20, hx⟩ := hx; cases hx; exact (mw_or1 (mt_neDT (d1 := .lst ((countsM cover.2.2.2.2.1 (37 : Int)).map D.int)) (d2 := .lst ((countsM v16 (37 : Int)).map D.int)) hr.units g20 frz_own frz_own (ME.v (me_mt m_Deal_counts_to o_Deal (cover.2.2.2.2.1, 37) (ME.v (me_fld (j := 4) (mv_var (pv 0) rfl) o_CoverP)) (ma_fz me_int ma_nil) rfl g17 (hr.mono (by decide)))) (ME.v (me_mt m_Deal_counts_to o_Deal (v16, 37) (ME.v (ME.is (o' := .fz (dealD C_Deal v16)) (ME.frz (me_make i_Deal v16 (ma_vw (ml_var (pv 5) rfl) ma_nil) g18 (hr.mono (by decide))) (nv_deal _ _)) (congrArg O.fz (frz_deal _ _)))) (ma_fz me_int ma_nil) rfl g19 (hr.mono (by decide)))))))) (or_c hv21))) (fun h => ?_) fun h => ms_nil ?_)
  · replace hx := cond_t hx h
    refine ms_one (m_ret (ps_ret pe_w) (ME.r me_bl) ?_)
    cases hx; rfl
  replace hx := cond_f hx h
  replace hx := gd_some hx
  obtain ⟨g23, hx⟩ := hx
  refine ms_one (m_ret (ps_ret pe_w) (ME.r (me_eqDT (d1 := .lst (cover.2.2.2.2.1.map D.int)) (d2 := .lst (v16.map D.int)) hr.units g23 rfl frz_own (ME.v (me_fld (j := 1) (ME.v (me_fld (j := 4) (mv_var (pv 0) rfl) o_CoverP)) o_Deal)) (mv_var (pv 5) rfl))) ?_)
  cases hx; rfl

noncomputable def M__law_asks_p (cover : (Str × Cd × (List (Str × Int)) × (List Str) × (List Int) × Bool)) (way : Int) (name : Str) (cents : Int) : Option Bool :=
  bd (lpO (fun (x2 : (Str × Str × Int)) (p1 : Unit) => (bd (L2.atI [(((x2).1 == name)), (((x2).2.1 == name)), (decide (cents < (x2).2.2))] way) fun v4 =>
    bd (M_CoverP_asks cover (7, 100, ("storm" : Str), (x2).2.1, (x2).1, (x2).2.2)) fun v5 =>
    cond ((!true) || (!(v5 == v4))) (some (.rt false)) <|
    some (.nx ()) : Option (Ou (Unit) (Unit) Bool))) [(name, ("zzz" : Str), (cents + 1)), (("zzz" : Str), name, cents), (("zzz" : Str), ("yyy" : Str), (cents + 1))] ()) fun o3 => ouR o3 fun p1 =>
  some true
def sp__law_asks_p (K : PySem.W.Frag) (C_CoverP C_Condition C_CauseIs C_ThingIs C_Over C_Own C_Deal : Addr) : Sp := SpF K (fun x : (Str × Cd × (List (Str × Int)) × (List Str) × (List Int) × Bool) × Int × Str × Int => [.fz ((r_CoverP C_CoverP C_Condition C_CauseIs C_ThingIs C_Over C_Own C_Deal) x.1), .fz (.int x.2.1), .fz (.str x.2.2.1), .fz (.int x.2.2.2)]) (fun x => M__law_asks_p x.1 x.2.1 x.2.2.1 x.2.2.2) (fun r => .fz (.bl r))
abbrev N__law_asks_p : List Str := ["_law_cover", "_law_way", "_law_name", "_law_cents", "_law_cause", "_law_thing", "_law_many", "_law_due", "_law_found"]
theorem sc__law_asks_p : FnScope N__law_asks_p ["_law_cover", "_law_way", "_law_name", "_law_cents"] (defScope s__law_asks_p) := ⟨rfl, rfl, rfl, by decide +kernel, rfl, by decide +kernel, by decide +kernel⟩
theorem ok__law_asks_p {f : Addr} {fd : FuncData} (F : Fun K "_law_asks" "_law_asks" s__law_asks_p f fd) (z_isinstance : mg "isinstance" = none) (z_bool : mg "bool" = none) (o_CoverP : OC K C_CoverP ["name", "condition", "clauses", "houses", "deal", "waits"]) (m_CoverP_asks : Mt1 P w K mg base C_CoverP "asks" 2 ["self", "loss"] (sp_CoverP_asks K C_CoverP C_Condition C_CauseIs C_ThingIs C_Over C_Own C_Deal)) : FnOk P w K mg base CX0 3 f fd ["_law_cover", "_law_way", "_law_name", "_law_cents"] (sp__law_asks_p K C_CoverP C_Condition C_CauseIs C_ThingIs C_Over C_Own C_Deal) := by
  refine fn_m F sc__law_asks_p (fun x => rfl) (fun x _ => rfl) fun cdv A outer s H E hr x hx => ?_
  obtain ⟨⟨cover, way, name, cents⟩, r⟩ := x
  replace hx : M__law_asks_p cover way name cents = some r := hx
  have nd := sc__law_asks_p.nd
  unfold M__law_asks_p at hx
  show MS _ [some (.fz ((r_CoverP C_CoverP C_Condition C_CauseIs C_ThingIs C_Over C_Own C_Deal) cover)), some (.fz (.int way)), some (.fz (.str name)), some (.fz (.int cents)), none, none, none, none, none] _ _
  replace hx := bd_some hx
  obtain ⟨o3, ho3, hx⟩ := hx
  refine ms_cons (m_forO (xs := [(name, ("zzz" : Str), (cents + 1)), (("zzz" : Str), name, cents), (("zzz" : Str), ("yyy" : Str), (cents + 1))]) (enc := e_T_s_s_i) (ps_for PassesOwn.never rfl (pi_list pe_w) (pg_tup (n := 3) rfl (pgs_cons (pg_name (i := 4) nd rfl (Or.inl rfl)) (pgs_cons (pg_name (i := 5) nd rfl (Or.inl rfl)) (pgs_cons (pg_name (i := 6) nd rfl (Or.inl rfl)) pgs_nil)))) pss_w) (by exact (mi_list (ds := [(name, ("zzz" : Str), (cents + 1)), (("zzz" : Str), name, cents), (("zzz" : Str), ("yyy" : Str), (cents + 1))].map e_T_s_s_i) (ME.k (ME.frzl (me_lst (ds := [(name, ("zzz" : Str), (cents + 1)), (("zzz" : Str), name, cents), (("zzz" : Str), ("yyy" : Str), (cents + 1))].map e_T_s_s_i) (mf_cons (me_tup (mf_cons (me_var (pv 2) rfl) (mf_cons me_str (mf_cons (me_add (me_var (pv 3) rfl) me_int) mf_nil)))) (mf_cons (me_tup (mf_cons me_str (mf_cons (me_var (pv 2) rfl) (mf_cons (me_var (pv 3) rfl) mf_nil)))) (mf_cons (me_tup (mf_cons me_str (mf_cons me_str (mf_cons (me_add (me_var (pv 3) rfl) me_int) mf_nil)))) mf_nil)))))))) ho3 (fun p1 => [some (.fz ((r_CoverP C_CoverP C_Condition C_CauseIs C_ThingIs C_Over C_Own C_Deal) cover)), some (.fz (.int way)), some (.fz (.str name)), some (.fz (.int cents)), none, none, none, none, none]) (fun r => .fz (.bl r)) le_auto (fun x2 p1 p1o mx hx => ?_) (fun p1 τ e le => ?_) fun q e => ?_)
  ·
    refine ⟨_, _, (mg_tup (mgs_cons mg_name (mgs_cons mg_name (mgs_cons mg_name mgs_nil))) rfl), ?_⟩
    show MS _ [some (.fz ((r_CoverP C_CoverP C_Condition C_CauseIs C_ThingIs C_Over C_Own C_Deal) cover)), some (.fz (.int way)), some (.fz (.str name)), some (.fz (.int cents)), some (.fz (.str ((x2).1))), some (.fz (.str ((x2).2.1))), some (.fz (.int ((x2).2.2))), none, none] _ _
    replace hx := bd_some hx
    obtain ⟨v4, hv4, hx⟩ := hx
    refine ms_cons (m_set (ps_set (i := 7) nd rfl (Or.inl rfl) pe_w) (me_ixLT (xs := [(((x2).1 == name)), (((x2).2.1 == name)), (decide (cents < (x2).2.2))]) (enc := D.bl) hv4 (ME.l (me_lst (ds := [(((x2).1 == name)), (((x2).2.1 == name)), (decide (cents < (x2).2.2))].map D.bl) (mf_cons (me_eqS (me_var (pv 4) rfl) (me_var (pv 2) rfl)) (mf_cons (me_eqS (me_var (pv 5) rfl) (me_var (pv 2) rfl)) (mf_cons (me_gt (me_var (pv 6) rfl) (me_var (pv 3) rfl)) mf_nil))))) (me_var (pv 1) rfl)) ?_)
    show MS _ [some (.fz ((r_CoverP C_CoverP C_Condition C_CauseIs C_ThingIs C_Over C_Own C_Deal) cover)), some (.fz (.int way)), some (.fz (.str name)), some (.fz (.int cents)), some (.fz (.str ((x2).1))), some (.fz (.str ((x2).2.1))), some (.fz (.int ((x2).2.2))), some (.fz (.bl v4)), none] _ _
    replace hx := bd_some hx
    obtain ⟨v5, hv5, hx⟩ := hx
    refine ms_cons (m_set (ps_set (i := 8) nd rfl (Or.inl rfl) pe_w) (me_mt m_CoverP_asks o_CoverP ((cover, (7, 100, ("storm" : Str), (x2).2.1, (x2).1, (x2).2.2)), v5) (mv_var (pv 0) rfl) (ma_fz (me_tup (mf_cons me_int (mf_cons me_int (mf_cons me_str (mf_cons (me_var (pv 5) rfl) (mf_cons (me_var (pv 4) rfl) (mf_cons (me_var (pv 6) rfl) mf_nil))))))) ma_nil) rfl hv5 (hr.mono (by decide))) ?_)
    show MS _ [some (.fz ((r_CoverP C_CoverP C_Condition C_CauseIs C_ThingIs C_Over C_Own C_Deal) cover)), some (.fz (.int way)), some (.fz (.str name)), some (.fz (.int cents)), some (.fz (.str ((x2).1))), some (.fz (.str ((x2).2.1))), some (.fz (.int ((x2).2.2))), some (.fz (.bl v4)), some (.fz (.bl v5))] _ _
    refine ms_one (m_if (t := ((!true) || (!(v5 == v4)))) (MW.t (mw_or (mt_not (mt_val (me_isi (k := true) (by rfl) z_isinstance (pe_bltn (v := .ty "bool") (by rfl) z_bool (by decide +kernel) rfl) (mv_var (pv 8) rfl) rfl (by decide +kernel)))) fun _ => (mw_or1 (mt_neB (me_var (pv 8) rfl) (me_var (pv 7) rfl))))) (fun h => ?_) fun h => ms_nil ?_)
    · replace hx := cond_t hx h
      refine ms_one (m_ret (ps_ret pe_w) (ME.r me_bl) ?_)
      cases hx; exact ⟨_, rfl, rfl⟩
    replace hx := cond_f hx h
    cases hx; exact ⟨_, rfl, le_auto⟩
  · subst e
    dsimp only [ouR] at hx
    refine ms_le le ?_
    show MS _ [some (.fz ((r_CoverP C_CoverP C_Condition C_CauseIs C_ThingIs C_Over C_Own C_Deal) cover)), some (.fz (.int way)), some (.fz (.str name)), some (.fz (.int cents)), none, none, none, none, none] _ _
    refine ms_one (m_ret (ps_ret pe_w) (ME.r me_bl) ?_)
    cases hx; rfl
  · subst e; cases hx; rfl

noncomputable def M__law_refused_g (name : Str) (clauses : (List (Str × Int))) (pairs : (List (Str × Int))) : Option Int :=
  bd (M_Over___init__ (5 : Int)) fun v1 =>
  bd (M_Cover___init__ name (Cd.over v1) clauses pairs false) fun v2 =>
  some (0 : Int)
def sp__law_refused_g (K : PySem.W.Frag) (C_Own : Addr) : Sp := SpF K (fun x : Str × (List (Str × Int)) × (List (Str × Int)) => [.fz (.str x.1), .vw (x.2.1.map (r_Own C_Own)), .vw (x.2.2.map e_T_s_i)]) (fun x => M__law_refused_g x.1 x.2.1 x.2.2) (fun r => .fz (.int r))
abbrev N__law_refused_g : List Str := ["_law_name", "_law_clauses", "_law_pairs", "e", "_law_others", "_law_some"]
theorem sc__law_refused_g : FnScope N__law_refused_g ["_law_name", "_law_clauses", "_law_pairs"] (defScope s__law_refused_g) := ⟨rfl, rfl, rfl, by decide +kernel, rfl, by decide +kernel, by decide +kernel⟩
theorem ok__law_refused_g {f : Addr} {fd : FuncData} (F : Fun K "_law_refused" "_law_refused" s__law_refused_g f fd) (i_Over : Mk1 P w K mg base "Over" C_Over 1 ["self", "cents"] (spI_Over___init__ K C_Over)) (i_Cover__4 : Mk1D P w K mg base "Cover" C_Cover 6 ["self", "name", "condition", "clauses", "houses", "waits"] [.bl false] (spI_Cover___init__ K C_Cover C_Condition C_CauseIs C_ThingIs C_Over C_Own C_Deal)) : FnOk P w K mg base CX0 8 f fd ["_law_name", "_law_clauses", "_law_pairs"] (sp__law_refused_g K C_Own) := by
  refine fn_m F sc__law_refused_g (fun x => rfl) (fun x _ => rfl) fun cdv A outer s H E hr x hx => ?_
  obtain ⟨⟨name, clauses, pairs⟩, r⟩ := x
  replace hx : M__law_refused_g name clauses pairs = some r := hx
  have nd := sc__law_refused_g.nd
  unfold M__law_refused_g at hx
  show MS _ [some (.fz (.str name)), some (.vw (clauses.map (r_Own C_Own))), some (.vw (pairs.map e_T_s_i)), none, none, none] _ _
  refine ms_cons (m_tryK ?_)
  replace hx := bd_some hx
  obtain ⟨v1, hv1, hx⟩ := hx
  replace hx := bd_some hx
  obtain ⟨v2, hv2, hx⟩ := hx
  refine ms_one (m_expr (ps_expr pe_w) (ME.is (o' := .fz ((r_Cover C_Cover C_Condition C_CauseIs C_ThingIs C_Over C_Own C_Deal) v2)) (ME.frz (me_makeD i_Cover__4 (.cons (.bl _) .nil) ((name, (Cd.over v1), clauses, pairs, false), v2) (ma_fz (me_var (pv 0) rfl) (ma_fz (ME.as (ME.is (o' := .fz ((r_Over C_Over) v1)) (ME.frz (me_make i_Over (5, v1) (ma_fz me_int ma_nil) hv1 (hr.mono (by decide))) rfl) rfl) (u_Cd_over C_Condition C_CauseIs C_ThingIs C_Over _).symm) (ma_vw (ml_var (pv 1) rfl) (ma_vw (ml_var (pv 2) rfl) ma_nil)))) rfl hv2 (hr.mono (by decide))) (by simp only [O.nv, O.nvL, O.nvL_fz, Bool.and_self])) (by simp only [O.frz, O.frzL, O.frzL_fz])) ?_)
  refine ms_one (m_ret (ps_ret pe_w) (ME.r me_int) ?_)
  cases hx; rfl
noncomputable def U_Cd_words (v : Cd)  : Option (List Str) := match v with
  | .plain p => M_Condition_words (.plain p) 
  | .cause p => M_CauseIs_words p 
  | .thing p => M_ThingIs_words p 
  | .over p => M_Over_words p 
noncomputable def M_law (script : (List Int)) : Option Bool :=
  bd (M__law_cell script (0 : Int)) fun v1 =>
  lt (v1 % 1000000000) fun head =>
  bd (M__law_cell script (1 : Int)) fun v2 =>
  bd (M__law_names (v2 % 1000003)) fun v3 =>
  bd (L2.atI v3 (0 : Int)) fun v4 =>
  bd (M__law_cell script (2 : Int)) fun v5 =>
  lt (1 + (v5 % 100000000000)) fun cents =>
  bd (M__law_houses script v3) fun v6 =>
  gd (-(2 ^ 62) ≤ (head % 9) ∧ (head % 9) < 2 ^ 62) <|
  gd ((List.range (head % 9).toNat).length < sizeLine) <|
  bd (mpO (fun x9 : Nat => gd (CMul (x9 : Int) head) <| some ((cents + ((x9 : Int) * head)) % 100000000000)) (List.range (head % 9).toNat)) fun v11 =>
  gd (v11.length < sizeLine) <|
  bd (mpO (fun x13 : Int => bd (M_Own___init__ ("year" : Str) x13) fun v14 => some v14) v11) fun v15 =>
  gd (v15.length < sizeLine) <|
  bd (mpO (fun x17 : (Str × Int) => bd (M_Own_words x17) fun v18 => some v18) v15) fun v19 =>
  bd (M_CauseIs___init__ v4) fun v20 =>
  bd (M_ThingIs___init__ v4) fun v21 =>
  bd (M_Over___init__ cents) fun v22 =>
  bd (L2.atI [(Cd.cause v20), (Cd.thing v21), (Cd.over v22)] ((head / 9) % 3)) fun v23 =>
  lt ((((head / 27) % 2) == 1)) fun waits =>
  bd (M_Cover___init__ v4 v23 v15 v6 waits) fun v24 =>
  bd (M_CoverP___init__ v4 v23 () () false) fun v25 =>
  bd (M_Own___init__ ("loss" : Str) (1 : Int)) fun v26 =>
  gd (v15.length < sizeLine) <|
  gd (v6.length < sizeLine) <|
  bd (M__law_kept v24 v4 v19 v6 waits) fun v29 =>
  bd (cond (!v29) (some true) (bd (M__law_kept_p v25 v4 ([] : List (List Str)) [(v4, 1)] false) fun v30 => some (!v30))) fun v31 =>
  cond v31 (some false) <|
  bd (U_Cd_words v24.2.1) fun v33 =>
  bd (U_Cd_words v23) fun v34 =>
  gd (D.ok (.lst (v33.map D.str)) ∧ D.ok (.lst (v34.map D.str))) <|
  bd (cond (!(D.eqv (.lst (v33.map D.str)) (.lst (v34.map D.str)))) (some true) (bd (U_Cd_words v25.2.1) fun v36 => bd (U_Cd_words v23) fun v37 => gd (D.ok (.lst (v36.map D.str)) ∧ D.ok (.lst (v37.map D.str))) <| some (!(D.eqv (.lst (v36.map D.str)) (.lst (v37.map D.str)))))) fun v39 =>
  cond v39 (some false) <|
  bd (M__law_asks v24 ((head / 9) % 3) v4 cents) fun v41 =>
  bd (cond (!v41) (some true) (bd (M__law_asks_p v25 ((head / 9) % 3) v4 cents) fun v42 => some (!v42))) fun v43 =>
  cond v43 (some false) <|
  bd (lpO (fun (x46 : Nat) (p45 : Unit) => (bd (M__law_cell script (13 + (x46 : Int))) fun v48 =>
    lt (v48 % 1000000000000) fun cell_here =>
    bd (M__law_bad_pairs (v6.map (fun p => (D.str p.1, D.int p.2))) (x46 : Int) cell_here) fun v49 =>
    bd (L2.atI [1, 1, 2, 2, 2, 1] (x46 : Int)) fun v50 =>
    bd (M__law_refused (.str v4) (some v15) v49) fun v51 =>
    bd (cond (!(v51 == v50)) (some true) (bd (M__law_refused (.str v4) none v49) fun v52 => some (!(v52 == v50)))) fun v53 =>
    cond v53 (some (.rt false)) <|
    bd (L2.atI [(.str ("" : Str) : D), (.str ("self" : Str)), (.str ("Acme" : Str)), (.str ("a b" : Str)), (.str ("abcdefghi" : Str)), (.int (5 : Int)), (.non), (.bl true), (.str ("a.b" : Str)), (.lst ([("a" : Str)].map D.str))] (cell_here % 10)) fun v55 =>
    bd (M_Own___init__ ("loss" : Str) (1 : Int)) fun v56 =>
    gd ((-(2 ^ 63) ≤ (9 - (v15.length : Int)) ∧ (9 - (v15.length : Int)) < 2 ^ 63) ∧ [v56].length * (9 - (v15.length : Int)).toNat ≤ sizeLine) <|
    gd (v15.length + (repG [v56] (9 - (v15.length : Int))).length ≤ sizeLine) <|
    lt ((v15 ++ (repG [v56] (9 - (v15.length : Int)))) : (List (Str × Int))) fun nine =>
    bd (M__law_refused v55 (some v15) (v6.map (fun p => (D.str p.1, D.int p.2)))) fun v59 =>
    bd (cond (!(v59 == 1)) (some true) (bd (M__law_refused v55 none v49) fun v60 => some (!(v60 == 1)))) fun v61 =>
    cond v61 (some (.rt false)) <|
    bd (M__law_refused (.str v4) (some nine) (v6.map (fun p => (D.str p.1, D.int p.2)))) fun v63 =>
    bd (cond (!(v63 == 1)) (some true) (bd (M__law_refused (.str v4) (some nine) v49) fun v64 => some (!(v64 == 1)))) fun v65 =>
    cond v65 (some (.rt false)) <|
    some (.nx ()) : Option (Ou (Unit) (Unit) Bool))) (List.range (6 : Int).toNat) ()) fun o47 => ouR o47 fun p45 =>
  bd (M__law_refused_g v4 v15 v6) fun v67 =>
  some ((v67 == 0))
open SX TL
def Sm (x : Str) (n : Nat) : Prop := x.length ≤ n ∧ x.cps.toList.all (· < 128) = true
theorem Sm.mono {x : Str} {n m : Nat} (h : Sm x n) (l : n ≤ m) : Sm x m := ⟨Nat.le_trans h.1 l, h.2⟩
theorem tl_cat (x y : Str) : (x ++ y).cps.toList = x.cps.toList ++ y.cps.toList := TL.tl_append x y
theorem sm_S {a : List Nat} {n : Nat} (l : a.length ≤ n) (h : a.all (· < 128) = true) : Sm (S a) n := ⟨by rw [S_len]; exact l, h⟩
theorem Sm.lay {x : Str} {n : Nat} (h : Sm x n) : (PyData.str x).canLay0 = true := by
  show x.cps.all (· < 0x110000) = true
  rw [← Array.all_toList]
  exact List.all_eq_true.mpr fun c m => by
    have := List.all_eq_true.mp h.2 c m
    simp at this ⊢
    omega
theorem Sm.smp {x : Str} {n k : Nat} (h : Sm x n) : Smp k (.str x) := .str h.lay
abbrev ABC : Str := "abcdefghijklmnopqrstuvwxyz"
theorem abc_len : ABC.length = 26 ∧ ABC.cps.toList.length = 26 := by decide +kernel
def Lc (x : Str) (n : Nat) : Prop := x.length ≤ n ∧ x.cps.toList.all (fun c => 97 ≤ c && c ≤ 122) = true
theorem Lc.sm {x : Str} {n : Nat} (h : Lc x n) : Sm x n := ⟨h.1, List.all_eq_true.mpr fun c m => by
  have := List.all_eq_true.mp h.2 c m
  simp at this ⊢
  omega⟩
theorem Lc.mono {x : Str} {n m : Nat} (h : Lc x n) (l : n ≤ m) : Lc x m := ⟨Nat.le_trans h.1 l, h.2⟩
theorem strI_n (n : Nat) : strI (n : Int) = S (numL n) := num_S n
theorem lg_of {m : Int} (h : m.natAbs < 2 ^ 250) : m.natAbs.log2 < 1920 := Nat.lt_of_lt_of_le (PySem.Flt.log2_lt_of (k := 250) (by decide) h) (by decide)
theorem zfill2 : ∀ r, r < 100 → Txt.zfill (S (numL r)) 2 = S [48 + r / 10, 48 + r % 10] := by decide +kernel
theorem dot_S : ((".") : Str) = S [46] := by decide +kernel
def amtL (n : Nat) : List Nat := numL (n / 100) ++ ([46] ++ [48 + n / 10 % 10, 48 + n % 10])
def amtS (n : Nat) : Str := S (amtL n)

theorem eqv_s (a b : Str) : D.eqv (.str a) (.str b) = (a == b) := by
  first | rfl | (show PyData.eqv (.str a) (.str b) = _; simp [PyData.eqv]) 
theorem ixNn {n j : Nat} (hj : j < n) : ixN n (j : Int) = some j := by
  unfold ixN
  rw [if_pos (by omega), if_pos (by omega)]
  rfl

theorem cell_ok {ns : List Int} {k : Int} (h : 0 ≤ k) : Ok (M__law_cell ns k) fun _ => True := by
  unfold M__law_cell
  exact ok_cond (fun h1 => ok_bd (ok_atI h (of_decide_eq_true h1) fun y _ => trivial) fun y _ => ok_some trivial) fun _ => ok_some trivial
open SX TL
theorem abc_mem {c : Nat} (h : 97 ≤ c ∧ c ≤ 122) : c ∈ ABC.cps.toList := by
  have q : ∀ k, k < 26 → 97 + k ∈ ABC.cps.toList := by decide +kernel
  have := q (c - 97) (by omega)
  rwa [show 97 + (c - 97) = c by omega] at this
theorem isname_ok {x : Str} (h1 : 1 ≤ x.length) (h : Lc x 8) : M_is_name_s x = some true := by
  have l := h.1
  unfold M_is_name_s
  refine Ok.eq ?_
  refine ok_gd (by show _ ≤ 16777216; omega) ?_
  refine ok_bd (Q := fun k => k = false) (ok_f (decide_eq_false (by omega)) (ok_gd (by show _ ≤ 16777216; omega) (ok_some (decide_eq_false (by omega))))) fun v hv => ?_
  subst hv
  refine ok_bd (ok_lpN (Q := fun o => o = .nx ()) (fun _ _ => True) trivial (fun i c v hc _ => ?_) fun v _ => rfl) fun o ho => ?_
  · have m := List.mem_of_getElem? hc
    have a := List.all_eq_true.mp h.2 c m
    have a : 97 ≤ c ∧ c ≤ 122 := by simpa using a
    exact ok_f (by rw [decide_eq_true (abc_mem a)]; rfl) (ok_some ⟨(), .inl rfl, trivial⟩)
  · subst ho
    exact ok_some rfl
def Nam (x : Str) : Prop := 1 ≤ x.length ∧ Lc x 8
theorem letters : ∀ j, j < 26 → ABC.cps.toList[j]? = some (97 + j) := by decide +kernel
theorem letter {k : Int} : L2.atI ABC.cps.toList (k % 26) = some (97 + (k % 26).toNat) := by
  have h0 : 0 ≤ k % 26 := by omega
  obtain ⟨j, ej⟩ := Int.eq_ofNat_of_zero_le h0
  rw [ej, Int.toNat_natCast]
  exact atI_nat (letters j (by omega))
theorem str_ext {x y : Str} (h : x.cps.toList = y.cps.toList) : x = y := by rw [← S_tl x, ← S_tl y, h]
theorem self_nam : Nam "self" := ⟨by decide +kernel, by unfold Lc; decide +kernel⟩

abbrev Ref : Option (Xr Xc Int) := some (.er .NoShares)
noncomputable def itF : D → Unit → Option (Ou Unit Unit (Xr Xc Int)) := fun x8 _ => (bd (M_is_whole_d x8) fun v10 =>
    bd (cond (!v10) (some true) (bd (asI x8) fun v11 => some (decide (v11 < 1)))) fun v12 =>
    cond v12 (some (.rt (.er .NoShares))) <|
    some (.nx ()))
theorem isw_int (x : Int) : M_is_whole_d (.int x) = some true := rfl
theorem itF_good {x : Int} (h : 1 ≤ x) : itF (.int x) () = some (.nx ()) := by
  show cond (decide (x < 1)) _ _ = _
  rw [decide_eq_false (by omega)]
  rfl
theorem itF_low {x : Int} (h : x < 1) : itF (.int x) () = some (.rt (.er .NoShares)) := by
  show cond (decide (x < 1)) _ _ = _
  rw [decide_eq_true h]
  rfl
theorem itF_odd {d : D} (h : M_is_whole_d d = some false) : itF d () = some (.rt (.er .NoShares)) := by
  unfold itF
  rw [bd_of h]
  rfl
def Bd (d : D) : Prop := M_is_whole_d d = some false ∨ ∃ x : Int, d = .int x ∧ x < 1
def Gd (d : D) : Prop := ∃ x : Int, d = .int x ∧ 1 ≤ x
theorem itF_bad {d : D} (h : Bd d) : itF d () = some (.rt (.er .NoShares)) := by
  rcases h with h | ⟨x, rfl, h⟩
  · exact itF_odd h
  · exact itF_low h
theorem it_all : ∀ {ds : List D}, (∀ d ∈ ds, Gd d) → lpO itF ds () = some (.nx ())
  | [], _ => rfl
  | d :: ds, h => by
    obtain ⟨x, rfl, hx⟩ := h d List.mem_cons_self
    show bd (itF _ ()) _ = _
    rw [bd_of (itF_good hx)]
    exact it_all fun e m => h e (List.mem_cons_of_mem _ m)
theorem it_bad : ∀ {ds : List D}, (∀ d ∈ ds, Gd d ∨ Bd d) → (∃ d ∈ ds, Bd d) → lpO itF ds () = some (.rt (.er .NoShares))
  | [], _, ⟨_, m, _⟩ => nomatch m
  | d :: ds, h, ⟨e, m, b⟩ => by
    show bd (itF _ ()) _ = _
    rcases h d List.mem_cons_self with ⟨x, rfl, hx⟩ | hb
    · rw [bd_of (itF_good hx)]
      refine it_bad (fun e m => h e (List.mem_cons_of_mem _ m)) ?_
      rcases List.mem_cons.mp m with rfl | m
      · exfalso
        rcases b with b | ⟨y, ey, hy⟩
        · rw [isw_int] at b
          cases b
        · cases ey
          omega
      · exact ⟨e, m, b⟩
    · rw [bd_of (itF_bad hb)]
theorem mpI_all (xs : List Int) : mpO asI (xs.map D.int) = some xs := by
  induction xs with
  | nil => rfl
  | cons x xs ih =>
    show bd (mpO asI _) _ = _
    rw [bd_of ih]
def Rfd (d : D) : Prop := M_total_of_r d = Ref
theorem rfd_len {ds : List D} (h : ds.length < 1 ∨ 8 < ds.length) : Rfd (.lst ds) := by
  show M_total_of_r _ = _
  unfold M_total_of_r
  show bd (cond (decide ((ds.length : Int) < 1)) (some true) (some (decide (8 < (ds.length : Int))))) _ = _
  have e : cond (decide ((ds.length : Int) < 1)) (some true) (some (decide (8 < (ds.length : Int)))) = some true := by
    rcases h with h | h
    · rw [decide_eq_true (by omega)]
      rfl
    · rw [decide_eq_false (by omega), decide_eq_true (by omega)]
      rfl
  rw [bd_of e]
  rfl
theorem tot_len {ds : List D} (h1 : 1 ≤ ds.length) (h8 : ds.length ≤ 8) : M_total_of_r (.lst ds) = bd (lpO itF ds ()) fun o9 => ouR o9 fun p7 => bd (mpO asI ds) fun v15 => cond (decide (100 < v15.sum)) (some (.er .NoShares)) <| some (.ok v15.sum) := by
  unfold M_total_of_r
  show bd (cond (decide ((ds.length : Int) < 1)) (some true) (some (decide (8 < (ds.length : Int))))) _ = _
  have e : cond (decide ((ds.length : Int) < 1)) (some true) (some (decide (8 < (ds.length : Int)))) = some false := by
    rw [decide_eq_false (by omega), decide_eq_false (by omega)]
    rfl
  rw [bd_of e]
  rfl
theorem rfd_item {ds : List D} (h1 : 1 ≤ ds.length) (h8 : ds.length ≤ 8) (h : ∀ d ∈ ds, Gd d ∨ Bd d) (b : ∃ d ∈ ds, Bd d) : Rfd (.lst ds) := by
  show M_total_of_r _ = _
  rw [tot_len h1 h8, bd_of (it_bad h b)]
  rfl
theorem rfd_much {xs : List Int} (h1 : 1 ≤ xs.length) (h8 : xs.length ≤ 8) (h : ∀ x ∈ xs, 1 ≤ x) (hs : 100 < xs.sum) : Rfd (.lst (xs.map D.int)) := by
  show M_total_of_r _ = _
  rw [tot_len (by rw [List.length_map]; exact h1) (by rw [List.length_map]; exact h8), bd_of (it_all fun d m => by
    obtain ⟨x, mx, rfl⟩ := List.mem_map.mp m
    exact ⟨x, rfl, h x mx⟩)]
  show bd (mpO asI (xs.map D.int)) _ = _
  rw [bd_of (mpI_all xs), decide_eq_true hs]
  rfl

theorem isnD (x : Str) : M_is_name (.str x) = M_is_name_s x := rfl
theorem isnam {x : Str} (h : Nam x) : M_is_name_s x = some true := isname_ok h.1 h.2
theorem isnamD {x : Str} (h : Nam x) : M_is_name (.str x) = some true := by rw [isnD, isnam h]
/-- things that are no names -/
def NoN (d : D) : Prop := M_is_name d = some false
theorem lp_odd : ∀ {cs : List Nat}, (∃ c ∈ cs, c ∉ ABC.cps.toList) → lpO (fun (x6 : Nat) (p5 : Unit) => (cond (!decide (x6 ∈ ABC.cps.toList)) (some (.rt false)) <|
    some (.nx ()) : Option (Ou (Unit) (Unit) Bool))) cs () = some (.rt false)
  | [], ⟨_, m, _⟩ => nomatch m
  | c :: cs, ⟨d, m, n⟩ => by
    show bd (cond (!decide (c ∈ ABC.cps.toList)) _ _) _ = _
    by_cases h : c ∈ ABC.cps.toList
    · rw [decide_eq_true h]
      show lpO _ cs () = _
      rcases List.mem_cons.mp m with rfl | m
      · exact absurd h n
      · exact lp_odd ⟨d, m, n⟩
    · rw [decide_eq_false h]
      rfl
theorem noN_str {x : Str} (hl : x.length ≤ 100) (h : x.length < 1 ∨ 8 < x.length ∨ ∃ c ∈ x.cps.toList, c ∉ ABC.cps.toList) : NoN (.str x) := by
  unfold NoN
  rw [isnD]
  unfold M_is_name_s
  refine Ok.eq (ok_f rfl (ok_gd (by show _ ≤ 16777216; omega) ?_))
  by_cases h1 : x.length < 1
  · exact ok_bd (Q := fun b => b = true) (ok_t (decide_eq_true (by omega)) (ok_some rfl)) fun b hb => ok_t hb (ok_some rfl)
  · by_cases h2 : 8 < x.length
    · exact ok_bd (Q := fun b => b = true) (ok_f (decide_eq_false (by omega)) (ok_gd (by show _ ≤ 16777216; omega) (ok_some (decide_eq_true (by omega))))) fun b hb => ok_t hb (ok_some rfl)
    · refine ok_bd (Q := fun b => b = false) (ok_f (decide_eq_false (by omega)) (ok_gd (by show _ ≤ 16777216; omega) (ok_some (decide_eq_false (by omega))))) fun b hb => ok_f hb ?_
      rw [bd_of (lp_odd ((h.resolve_left h1).resolve_left h2))]
      exact ok_some rfl
theorem odd1 : ∀ d ∈ ([(.str ("" : Str) : D), (.str ("Acme" : Str)), (.str ("a b" : Str)), (.str ("abcdefghi" : Str)), (.int (5 : Int)), (.non), (.bl true), (.str ("a1" : Str)), (.str ("a.b" : Str)), (.str (" a" : Str)), (.str ("a-" : Str)), (e_T_s ("a" : Str)), (.lst ([("b" : Str)].map D.str)), (.str ("aB" : Str))] : (List D)), NoN d := fun d m => by
  simp only [List.mem_cons, List.not_mem_nil, or_false] at m
  rcases m with rfl | rfl | rfl | rfl | rfl | rfl | rfl | rfl | rfl | rfl | rfl | rfl | rfl | rfl
  all_goals first
    | exact noN_str (by decide +kernel) (by decide +kernel)
    | rfl
theorem odd2 : ∀ d ∈ ([(.str ("" : Str) : D), (.str ("self" : Str)), (.str ("Acme" : Str)), (.str ("a b" : Str)), (.str ("abcdefghi" : Str)), (.int (5 : Int)), (.non), (.bl true), (.str ("a.b" : Str)), (.lst ([("a" : Str)].map D.str))] : (List D)), NoN d ∨ d = .str "self" := fun d m => by
  simp only [List.mem_cons, List.not_mem_nil, or_false] at m
  rcases m with rfl | rfl | rfl | rfl | rfl | rfl | rfl | rfl | rfl | rfl
  · exact .inl (noN_str (by decide +kernel) (by decide +kernel))
  · exact .inr rfl
  all_goals first
    | exact .inl (noN_str (by decide +kernel) (by decide +kernel))
    | exact .inl rfl
/-- names, each another one, none of them told ahead -/
def OkN (acc : List Str) : List D → Prop
  | [] => True
  | d :: r => ∃ x, d = .str x ∧ Nam x ∧ x ∉ acc ∧ OkN (acc ++ [x]) r
theorem OkN.nam : ∀ {ds : List D} {acc : List Str}, OkN acc ds → ∀ d ∈ ds, ∃ x, d = .str x ∧ Nam x
  | [], _, _, _, m => nomatch m
  | d :: r, acc, ⟨x, e, n, _, k⟩, z, m => by
    rcases List.mem_cons.mp m with rfl | m
    · exact ⟨x, e, n⟩
    · exact OkN.nam k z m
theorem OkN.nd : ∀ {ds : List D} {acc : List Str}, acc.Nodup → OkN acc ds → (acc.map D.str ++ ds).Nodup
  | [], acc, na, _ => by
    rw [List.append_nil]
    exact List.pairwise_map.mpr (na.imp fun {a b} n e => n (D.str.inj e))
  | d :: r, acc, na, ⟨x, e, n, nm, k⟩ => by
    have h := OkN.nd (acc := acc ++ [x]) (by
      rw [List.nodup_append]
      exact ⟨na, by simp, fun a ha b hb => by rw [List.mem_singleton.mp hb]; exact fun z => nm (z ▸ ha)⟩) k
    rw [List.map_append, List.append_assoc] at h
    rw [e]
    exact h
theorem okN_of : ∀ {xs : List Str} {acc : List Str}, (∀ x ∈ xs, Nam x) → (acc ++ xs).Nodup → OkN acc (xs.map D.str)
  | [], _, _, _ => trivial
  | x :: xs, acc, h, nd => by
    refine ⟨x, rfl, h x List.mem_cons_self, fun m => ?_, okN_of (acc := acc ++ [x]) (fun y m => h y (List.mem_cons_of_mem _ m)) (by rw [List.append_assoc]; exact nd)⟩
    exact (List.nodup_append.mp nd).2.2 x m x List.mem_cons_self rfl
noncomputable def HB : (D × D) → List D → Option (Ou ((List D)) ((List D)) (Xr Xc (List D))) := fun x2 p1 => (bd (M_is_name ((x2).1)) fun v4 =>
    bd (cond (!v4) (some true) (gd (D.ok (x2).1 ∧ D.ok (.lst (p1.map e_d))) <| some ((inDL e_d p1 (x2).1)))) fun v6 =>
    cond v6 (some (.rt (.er .NoCover))) <|
    gd (p1.length < sizeLine) <|
    lt (p1 ++ [(x2).1]) fun found_1 =>
    some (.nx found_1))
theorem inD_s (acc : List Str) (x : Str) : inDL e_d (acc.map D.str) (.str x) = acc.contains x := by
  unfold inDL
  induction acc with
  | nil => rfl
  | cons a acc ih =>
    show (D.eqv (.str a) (.str x) || (acc.map D.str).any _) = _
    rw [ih, eqv_s, List.contains_cons]
    rw [show (a == x) = (x == a) from Bool.beq_comm]
theorem acc_ok {acc : List Str} (h : ∀ x ∈ acc, Nam x) : D.ok (.lst ((acc.map D.str).map e_d)) := (show Smp 1 (.lst ((acc.map D.str).map e_d)) from .lst (smps_map fun d m => by
  obtain ⟨x, mx, rfl⟩ := List.mem_map.mp m
  exact (h x mx).2.sm.smp)).ok
theorem hb_no {p : D × D} (h : NoN p.1) (acc : List D) : HB p acc = some (.rt (.er .NoCover)) := by
  unfold HB
  rw [bd_of (show M_is_name p.1 = some false from h)]
  rfl
theorem hb_nam {p : D × D} {x : Str} (e : p.1 = .str x) (h : Nam x) {acc : List Str} (ha : ∀ x ∈ acc, Nam x) (hl : acc.length ≤ 1000) : HB p (acc.map D.str) = if x ∈ acc then some (.rt (.er .NoCover)) else some (.nx ((acc ++ [x]).map D.str)) := by
  unfold HB
  rw [e, bd_of (isnamD h)]
  show bd (gd _ (some (inDL e_d (acc.map D.str) (.str x)))) _ = _
  rw [gd_pos ⟨(h.2.sm.smp (k := 0)).ok, acc_ok ha⟩, bd_of rfl, inD_s]
  by_cases m : x ∈ acc
  · rw [if_pos m, List.contains_iff_mem.mpr m]
    rfl
  · rw [if_neg m, show acc.contains x = false from by
      cases z : acc.contains x with
      | false => rfl
      | true => exact absurd (List.contains_iff_mem.mp z) m]
    show gd _ (some _) = _
    rw [gd_pos (by rw [List.length_map]; show _ < 16777216; omega), List.map_append]
    rfl
theorem nh_good : ∀ {ps : List (D × D)} {acc : List Str}, (∀ x ∈ acc, Nam x) → acc.length + ps.length ≤ 1000 → OkN acc (ps.map (·.1)) → ∃ ys : List D, lpO HB ps (acc.map D.str) = some (.nx ys)
  | [], acc, _, _, _ => ⟨_, rfl⟩
  | p :: ps, acc, ha, hl, ⟨x, e, n, nm, k⟩ => by
    rw [List.length_cons] at hl
    obtain ⟨ys, h⟩ := nh_good (ps := ps) (acc := acc ++ [x]) (fun y m => by
      rcases List.mem_append.mp m with m | m
      · exact ha y m
      · rw [List.mem_singleton.mp m]; exact n) (by rw [List.length_append]; show acc.length + 1 + _ ≤ _; omega) k
    refine ⟨ys, ?_⟩
    show bd (HB p _) _ = _
    rw [hb_nam e n ha (by omega), if_neg nm, bd_of rfl]
    exact h
theorem nh_bad : ∀ {ps : List (D × D)} {acc : List Str}, (∀ x ∈ acc, Nam x) → acc.length + ps.length ≤ 1000 → (∀ p ∈ ps, (∃ x, p.1 = .str x ∧ Nam x) ∨ NoN p.1) → ¬ OkN acc (ps.map (·.1)) → lpO HB ps (acc.map D.str) = some (.rt (.er .NoCover))
  | [], _, _, _, _, no => absurd trivial no
  | p :: ps, acc, ha, hl, h, no => by
    rw [List.length_cons] at hl
    show bd (HB p _) _ = _
    rcases h p List.mem_cons_self with ⟨x, e, n⟩ | b
    · rw [hb_nam e n ha (by omega)]
      by_cases m : x ∈ acc
      · rw [if_pos m, bd_of rfl]
      · rw [if_neg m, bd_of rfl]
        exact nh_bad (ps := ps) (acc := acc ++ [x]) (fun y m => by
          rcases List.mem_append.mp m with m | m
          · exact ha y m
          · rw [List.mem_singleton.mp m]; exact n) (by rw [List.length_append]; show acc.length + 1 + _ ≤ _; omega) (fun q mq => h q (List.mem_cons_of_mem _ mq)) fun k => no ⟨x, e, n, m, k⟩
    · rw [hb_no b, bd_of rfl]
theorem need_good {ps : List (D × D)} (hl : ps.length ≤ 1000) (h : OkN [] (ps.map (·.1))) : ∃ ys, M_need_houses ps = some (.ok ys) := by
  obtain ⟨ys, e⟩ := nh_good (acc := []) (fun _ m => nomatch m) (by show 0 + _ ≤ _; omega) h
  refine ⟨ys, ?_⟩
  unfold M_need_houses
  show bd (lpO HB ps []) _ = _
  rw [bd_of (show lpO HB ps [] = some (.nx ys) from e)]
  rfl
theorem need_bad {ps : List (D × D)} (hl : ps.length ≤ 1000) (h : ∀ p ∈ ps, (∃ x, p.1 = .str x ∧ Nam x) ∨ NoN p.1) (no : ¬ OkN [] (ps.map (·.1))) : M_need_houses ps = some (.er .NoCover) := by
  have e := nh_bad (acc := []) (fun _ m => nomatch m) (by show 0 + _ ≤ _; omega) h no
  unfold M_need_houses
  show bd (lpO HB ps []) _ = _
  rw [bd_of (show lpO HB ps [] = some (.rt (.er .NoCover)) from e)]
  rfl
theorem deal_r {d : D} (h : Rfd d) : M_DealD___init__ d = some (.er .NoShares) := by
  have h : M_total_of_r d = some (.er .NoShares) := h
  unfold M_DealD___init__ M_turns_r
  rw [h]
  rfl
abbrev OWN := Str × Int
theorem cr_name {d : D} (h : NoN d ∨ d = .str "self") (c : Cd) (cl : Option (List OWN)) (ps : List (D × D)) : M_CoverR___init__ d c cl ps false = some (.er .NoCover) := by
  unfold M_CoverR___init__
  rcases h with h | rfl
  · rw [bd_of (show M_is_name d = some false from h)]
    rfl
  · rw [bd_of (isnamD self_nam)]
    show bd (gd _ (some (D.eqv (.str ("self" : Str)) (.str ("self" : Str))))) _ = _
    rw [gd_pos ⟨(self_nam.2.sm.smp (k := 0)).ok, (self_nam.2.sm.smp (k := 0)).ok⟩, bd_of rfl, eqv_s, beq_self_eq_true]
    rfl
theorem cr_go {x : Str} (h : Nam x) (ns : x ≠ "self") (c : Cd) (cl : Option (List OWN)) (ps : List (D × D)) : M_CoverR___init__ (.str x) c cl ps false = cond (decide (8 < ((cl.getD []).length : Int))) (some (.er .NoCover)) (bdx (M_need_houses ps) fun v7 =>
    gd (ps.length < sizeLine) <|
    bd (mpO (fun x10 : (D × D) => some ((x10).2)) ps) fun v11 =>
    bdx (M_DealD___init__ (.lst (v11.map e_d))) fun v12 => none) := by
  unfold M_CoverR___init__
  rw [bd_of (isnamD h)]
  show bd (gd _ (some (D.eqv (.str x) (.str ("self" : Str))))) _ = _
  rw [gd_pos ⟨(h.2.sm.smp (k := 0)).ok, (self_nam.2.sm.smp (k := 0)).ok⟩, bd_of rfl, eqv_s, beq_eq_false_iff_ne.mpr ns]
  cases cl <;> rfl
/-- refused, by its class -/
def xcN : Xc → Int
  | .NoCover => 1
  | .NoShares => 2
theorem refused_of {d : D} {cl : Option (List OWN)} {ps : List (D × D)} {e : Xc} (h : ∀ c, M_CoverR___init__ d c cl ps false = some (.er e)) : M__law_refused d cl ps = some (xcN e) := by
  unfold M__law_refused
  rw [show M_Over___init__ 5 = some 5 from rfl, bd_of rfl, h, bd_of (show bdo (some (Xr.er e)) _ = some (Ou.rt (Xr.er e)) from rfl)]
  have t2 : D.ok (.lst ([true, true].map D.bl)) := (show Smp 1 (.lst ([true, true].map D.bl)) from .lst (smps_map fun x _ => .bl x)).ok
  have o2 : ∀ xs : List Bool, D.ok (.lst (xs.map D.bl)) := fun xs => (show Smp 1 (.lst (xs.map D.bl)) from .lst (smps_map fun x _ => .bl x)).ok
  refine Ok.eq ?_
  cases e with
  | NoCover => exact ok_lt (ok_lt (ok_bd (Q := fun b => b = false) (ok_f rfl (ok_bd (Q := fun b => b = false) (ok_f rfl (ok_gd ⟨o2 _, t2⟩ (ok_some rfl))) fun b hb => ok_some hb)) fun b hb => ok_f hb (ok_bd (Q := fun n => n = 1) (ok_t rfl (ok_some rfl)) fun n hn => ok_some hn)))
  | NoShares => exact ok_lt (ok_lt (ok_bd (Q := fun b => b = false) (ok_f rfl (ok_bd (Q := fun b => b = false) (ok_f rfl (ok_gd ⟨o2 _, t2⟩ (ok_some rfl))) fun b hb => ok_some hb)) fun b hb => ok_f hb (ok_bd (Q := fun n => n = 2) (ok_t rfl (ok_some rfl)) fun n hn => ok_some hn)))
theorem ref_name {d : D} (h : NoN d ∨ d = .str "self") (cl : Option (List OWN)) (ps : List (D × D)) : M__law_refused d cl ps = some 1 := refused_of (e := .NoCover) fun c => cr_name h c cl ps
theorem ref_many {x : Str} (h : Nam x) (ns : x ≠ "self") {cs : List OWN} (hl : 8 < cs.length) (ps : List (D × D)) : M__law_refused (.str x) (some cs) ps = some 1 := refused_of (e := .NoCover) fun c => by
  rw [cr_go h ns, show decide (8 < (((some cs).getD []).length : Int)) = true from decide_eq_true (by show (8 : Int) < (cs.length : Int); omega)]
  rfl
theorem ref_hs {x : Str} (h : Nam x) (ns : x ≠ "self") {cl : Option (List OWN)} (hl : (cl.getD []).length ≤ 8) {ps : List (D × D)} (hb : M_need_houses ps = some (.er .NoCover)) : M__law_refused (.str x) cl ps = some 1 := refused_of (e := .NoCover) fun c => by
  rw [cr_go h ns, decide_eq_false (by omega), hb]
  rfl
theorem ref_ws {x : Str} (h : Nam x) (ns : x ≠ "self") {cl : Option (List OWN)} (hl : (cl.getD []).length ≤ 8) {ps : List (D × D)} {ys : List D} (hg : M_need_houses ps = some (.ok ys)) (l : ps.length ≤ 1000) (hb : Rfd (.lst (ps.map (·.2)))) : M__law_refused (.str x) cl ps = some 2 := refused_of (e := .NoShares) fun c => by
  rw [cr_go h ns, decide_eq_false (by omega), hg]
  show gd _ (bd (mpO (fun x10 : (D × D) => some ((x10).2)) ps) _) = _
  rw [gd_pos (by show _ < 16777216; omega), bd_of (mpO_pure (fun x : D × D => x.2) ps), show (ps.map (·.2)).map e_d = ps.map (·.2) from List.map_id _, deal_r hb]
  rfl
open SX TL
structure HsR (ps : List (Str × Int)) : Prop where
  wok : WOk (ps.map (·.2))
  nam : ∀ p ∈ ps, Nam p.1
  nd : (ps.map (·.1)).Nodup
theorem HsR.l8 {ps : List (Str × Int)} (h : HsR ps) : 1 ≤ ps.length ∧ ps.length ≤ 8 := by
  have a := h.wok.l1
  have b := h.wok.l8
  rw [List.length_map] at a b
  exact ⟨a, b⟩
def fD (p : Str × Int) : D × D := (D.str p.1, D.int p.2)
theorem dup_bad {P : List (D × D)} {k : Nat} {y : D × D} (hl : P.length ≤ 100) (hN : ∀ p ∈ P, ∃ x, p.1 = .str x ∧ Nam x) (hy : y.1 ∈ P.map (·.1)) : M_need_houses (P.take k ++ [y] ++ P.drop k) = some (.er .NoCover) := by
  have hy2 : ∃ x, y.1 = .str x ∧ Nam x := by
    obtain ⟨p, mp, e⟩ := List.mem_map.mp hy
    obtain ⟨x, e2, n⟩ := hN p mp
    exact ⟨x, e.symm.trans e2, n⟩
  have pm : ((P.take k ++ [y] ++ P.drop k).map (·.1)).Perm (y.1 :: P.map (·.1)) := by
    rw [List.append_assoc]
    have := (List.perm_middle (a := y) (l₁ := P.take k) (l₂ := P.drop k)).map (·.1)
    rw [List.map_cons, List.take_append_drop] at this
    exact this
  have pl : (P.take k ++ [y] ++ P.drop k).length = P.length + 1 := by
    have := pm.length_eq
    rw [List.length_map, List.length_cons, List.length_map] at this
    exact this
  refine need_bad (by omega) (fun p m => .inl ?_) fun ok => ?_
  · rcases List.mem_append.mp m with m | m
    · rcases List.mem_append.mp m with m | m
      · exact hN p (List.mem_of_mem_take m)
      · rw [List.mem_singleton.mp m]; exact hy2
    · exact hN p (List.mem_of_mem_drop m)
  · have nd := OkN.nd (acc := []) List.nodup_nil ok
    have nd : ((P.take k ++ [y] ++ P.drop k).map (·.1)).Nodup := nd
    have nd2 := pm.nodup_iff.mp nd
    exact (List.nodup_cons.mp nd2).1 hy
theorem sg_nam {c : Nat} (h : 97 ≤ c ∧ c ≤ 122) : Nam (sg1 c) := ⟨Nat.le_refl 1, by show (1 : Nat) ≤ 8; decide, by show ([c].all _) = true; simp; omega⟩
theorem abck : ∀ k, k < 11 → ("abcdefghijk" : Str).cps.toList[k]? = some (97 + k) := by decide +kernel
theorem bad_ok {ps : List (Str × Int)} (h : HsR ps) {i : Nat} (hi : i < 6) {cell : Int} (c0 : 0 ≤ cell) : Ok (M__law_bad_pairs (ps.map fD) (i : Int) cell) fun v => v.length ≤ 100 ∧ (((i = 0 ∨ i = 1 ∨ i = 5) ∧ M_need_houses v = some (.er .NoCover)) ∨ ((i = 2 ∨ i = 3 ∨ i = 4) ∧ (∃ ys, M_need_houses v = some (.ok ys)) ∧ Rfd (.lst (v.map (·.2))))) := by
  obtain ⟨l1, l8⟩ := h.l8
  have hP : (ps.map fD).length = ps.length := List.length_map _
  have hN : ∀ p ∈ ps.map fD, ∃ x, p.1 = .str x ∧ Nam x := fun p m => by
    obtain ⟨q, mq, rfl⟩ := List.mem_map.mp m
    exact ⟨q.1, rfl, h.nam q mq⟩
  have f1 : (ps.map fD).map (·.1) = (ps.map (·.1)).map D.str := by rw [List.map_map, List.map_map]; rfl
  have f2 : (ps.map fD).map (·.2) = (ps.map (·.2)).map D.int := by rw [List.map_map, List.map_map]; rfl
  have okP : OkN [] ((ps.map fD).map (·.1)) := by
    rw [f1]
    exact okN_of (fun x m => by
      obtain ⟨q, mq, rfl⟩ := List.mem_map.mp m
      exact h.nam q mq) h.nd
  have wP : ∀ d ∈ (ps.map fD).map (·.2), Gd d := fun d m => by
    rw [f2] at m
    obtain ⟨x, mx, rfl⟩ := List.mem_map.mp m
    exact ⟨x, rfl, h.wok.w1 x mx⟩
  generalize eP : ps.map fD = P at hP hN f1 f2 okP wP
  have skip : ∀ {α β : Type} {c : Bool} {a : Option α} {x : α} {k : α → Option β} {Q : β → Prop}, c = false → Ok (k x) Q → Ok (bd (cond c a (some x)) k) Q := fun hc hk => ok_bd (Q := (· = _)) (ok_f hc (ok_some rfl)) fun y hy => by subst hy; exact hk
  have turn : ∀ {α β : Type} {c : Bool} {a b : Option α} {k : α → Option β} {R : α → Prop} {Q : β → Prop}, c = true → Ok a R → (∀ y, R y → Ok (k y) Q) → Ok (bd (cond c a b) k) Q := fun hc ha hk => ok_bd (ok_t hc ha) hk
  unfold M__law_bad_pairs
  refine ok_gd (by omega) (ok_ltx fun at_ ea => ok_gd (by omega) ?_)
  have a0 : 0 ≤ at_ := by rw [ea]; exact Int.emod_nonneg _ (by omega)
  have a1 : at_ < P.length := by rw [ea]; exact Int.emod_lt_of_pos _ (by omega)
  obtain ⟨j, rfl⟩ := Int.eq_ofNat_of_zero_le a0
  have hj : j < P.length := by omega
  clear ea
  refine ok_bd (ok_atIm (Q := fun y => y ∈ P) (Int.emod_nonneg _ (by omega)) (Int.emod_lt_of_pos _ (by omega)) fun y m => m) fun v3 m3 => ok_ltx fun odd eo => ?_
  have y3 : ∀ w, ((v3.1, w) : D × D).1 ∈ P.map (·.1) := fun w => List.mem_map.mpr ⟨v3, m3, rfl⟩
  have gj : L2.atI P (j : Int) = some P[j] := atI_nat (List.getElem?_eq_getElem hj)
  have c6 : i = 0 ∨ i = 1 ∨ i = 2 ∨ i = 3 ∨ i = 4 ∨ i = 5 := by omega
  rcases c6 with rfl | rfl | rfl | rfl | rfl | rfl
  · -- a name that is none
    refine turn rfl (R := fun p => ∃ d w, NoN d ∧ p = P.set j (d, w)) ?_ fun p ⟨d, w, nd, ep⟩ => skip rfl (skip rfl (skip rfl (skip rfl (skip rfl (ok_some ⟨?_, .inl ⟨.inl rfl, ?_⟩⟩)))))
    · rw [eo]
      refine ok_bd (ok_atIm (by omega) (by show _ < (14 : Int); omega) odd1) fun v5 h5 => ?_
      rw [bd_of gj, bd_of (ixNn hj)]
      exact ok_lt (ok_some ⟨v5, _, h5, rfl⟩)
    · rw [ep, List.length_set]; omega
    · rw [ep]
      refine need_bad (by rw [List.length_set]; omega) (fun p m => ?_) fun ok => ?_
      · rcases List.mem_or_eq_of_mem_set m with m | rfl
        · exact .inl (hN p m)
        · exact .inr nd
      · obtain ⟨x, e, n⟩ := ok.nam d (List.mem_map.mpr ⟨(d, w), List.mem_set hj _, rfl⟩)
        have nd : M_is_name d = some false := nd
        rw [e, isnamD n] at nd
        cases nd
  · -- a house twice
    refine skip rfl (turn rfl (R := fun p => ∃ k w, p = P.take k ++ [(v3.1, w)] ++ P.drop k) ?_ fun p ⟨k, w, ep⟩ => skip rfl (skip rfl (skip rfl (skip rfl (ok_some ⟨?_, .inl ⟨.inr (.inl rfl), ?_⟩⟩)))))
    · refine ok_gd (by omega) (ok_gd ⟨by show _ < 16777216; omega, Int.emod_nonneg _ (by omega), ?_⟩ (ok_lt (ok_some ⟨_, _, rfl⟩)))
      have := Int.emod_lt_of_pos (cell / 64) (show (0 : Int) < (P.length : Int) + 1 by omega)
      omega
    · rw [ep, List.length_append, List.length_append, List.length_take, List.length_drop]
      show min k P.length + 1 + (P.length - k) ≤ 100
      omega
    · rw [ep]
      exact dup_bad (by omega) hN (y3 w)
  · -- a weight that is none
    refine skip rfl (skip rfl (turn rfl (R := fun p => ∃ w, (Bd w ∨ w = .int 101) ∧ p = P.set j (P[j].1, w)) ?_ fun p ⟨w, bw, ep⟩ => skip rfl (skip rfl (skip rfl (ok_some ⟨?_, .inr ⟨.inl rfl, ?_, ?_⟩⟩)))))
    · rw [bd_of gj]
      refine ok_bd (ok_atIm (Q := fun w => Bd w ∨ w = .int 101) (by omega) (by show _ < (4 : Int); omega) fun y m => ?_) fun v13 h13 => ?_
      · simp only [List.mem_cons, List.not_mem_nil, or_false] at m
        rcases m with rfl | rfl | rfl | rfl
        · exact .inl (.inr ⟨0, rfl, by decide⟩)
        · exact .inl (.inr ⟨_, rfl, by omega⟩)
        · exact .inr rfl
        · exact .inl (.inl rfl)
      · rw [bd_of (ixNn hj)]
        exact ok_lt (ok_some ⟨v13, h13, rfl⟩)
    · rw [ep, List.length_set]; omega
    · rw [ep]
      refine need_good (by rw [List.length_set]; omega) ?_
      rw [List.map_set, show P[j].1 = (P.map (·.1))[j]'(by rw [List.length_map]; exact hj) from (List.getElem_map ..).symm, List.set_getElem_self]
      exact okP
    · rw [ep, List.map_set]
      show Rfd (.lst ((P.map (·.2)).set j w))
      have lw : ((P.map (·.2)).set j w).length = P.length := by rw [List.length_set, List.length_map]
      rcases bw with bw | rfl
      · refine rfd_item (by omega) (by omega) (fun d m => ?_) ⟨w, List.mem_set (by rw [List.length_map]; exact hj) _, bw⟩
        rcases List.mem_or_eq_of_mem_set m with m | rfl
        · exact .inl (wP d m)
        · exact .inr bw
      · rw [f2, ← List.map_set]
        have ww : ∀ x ∈ (ps.map (·.2)).set j 101, 1 ≤ x := fun x m => by
          rcases List.mem_or_eq_of_mem_set m with m | rfl
          · exact h.wok.w1 x m
          · decide
        have hj2 : j < (ps.map (·.2)).length := by rw [List.length_map]; omega
        have := (sum_ge ww).2 101 (List.mem_set hj2 _)
        exact rfd_much (by rw [List.length_set]; omega) (by rw [List.length_set, List.length_map]; omega) ww (by omega)
  · -- none
    refine skip rfl (skip rfl (skip rfl (turn rfl (R := fun p => p = []) (ok_lt (ok_some rfl)) fun p ep => skip rfl (skip rfl (ok_some ⟨by rw [ep]; exact Nat.zero_le _, .inr ⟨.inr (.inl rfl), ?_, ?_⟩⟩)))))
    · rw [ep]
      exact need_good (Nat.zero_le _) trivial
    · rw [ep]
      exact rfd_len (.inl (by decide))
  · -- nine and more
    refine skip rfl (skip rfl (skip rfl (skip rfl (turn rfl (R := fun p => p = (List.range (9 + cell % 3).toNat).map fun k => ((.str (sg1 (97 + k)), .int 1) : D × D)) ?_ fun p ep => skip rfl (ok_some ⟨?_, .inr ⟨.inr (.inr rfl), ?_, ?_⟩⟩)))))
    · refine ok_gd ⟨by omega, by omega⟩ (ok_gd (by rw [List.length_range]; show _ < 16777216; omega) (ok_bd (ok_mpE (g := fun k => ((.str (sg1 (97 + k)), .int 1) : D × D)) fun k m => ?_) fun v hv => ok_some hv))
      have hk := List.mem_range.mp m
      have l11 : ("abcdefghijk" : Str).length = 11 := by decide +kernel
      rw [bd_of (atI_nat (abck k (by omega))), gd_pos (by rw [l11]; show _ ≤ 16777216; decide)]
    · rw [ep, List.length_map, List.length_range]; omega
    · rw [ep]
      refine need_good (by rw [List.length_map, List.length_range]; omega) ?_
      rw [List.map_map, show (List.range (9 + cell % 3).toNat).map ((fun p : D × D => p.1) ∘ fun k => ((.str (sg1 (97 + k)), .int 1) : D × D)) = ((List.range (9 + cell % 3).toNat).map fun k => sg1 (97 + k)).map D.str from by rw [List.map_map]; rfl]
      refine okN_of (fun x m => ?_) ?_
      · obtain ⟨k, mk, rfl⟩ := List.mem_map.mp m
        have := List.mem_range.mp mk
        exact sg_nam (by omega)
      · exact List.pairwise_map.mpr (List.Pairwise.imp_of_mem (R := fun a b => a ≠ b) (fun {k j} mk mj n e => n (by
          have e : [97 + k] = [97 + j] := congrArg (fun x : Str => x.cps.toList) e
          have := (List.cons.inj e).1
          omega)) List.nodup_range)
    · rw [ep]
      exact rfd_len (.inr (by rw [List.length_map, List.length_map, List.length_range]; omega))
  · -- a house twice, and a weight
    refine skip rfl (skip rfl (skip rfl (skip rfl (skip rfl (turn rfl (R := fun p => ∃ k w, p = P.take k ++ [(v3.1, w)] ++ P.drop k) ?_ fun p ⟨k, w, ep⟩ => ok_some ⟨?_, .inl ⟨.inr (.inr rfl), ?_⟩⟩)))))
    · exact ok_gd ⟨by show _ < 16777216; omega, by decide, by decide⟩ (ok_lt (ok_some ⟨_, _, rfl⟩))
    · rw [ep, List.length_append, List.length_append, List.length_take, List.length_drop]
      show min k P.length + 1 + (P.length - k) ≤ 100
      omega
    · rw [ep]
      exact dup_bad (by omega) hN (y3 w)
open SX TL
def lnc (bs : List Int) (at_ : Int) (k j : Nat) : Nat := 97 + ((bs.getD j 0 + (k : Int) * (if ((j : Int) == at_) then 1 else 0)) % 26).toNat
def lnL (bs : List Int) (at_ : Int) (k : Nat) : Str := S ((List.range bs.length).map (lnc bs at_ k))
theorem lnL_nam {bs : List Int} {at_ : Int} {k : Nat} (h1 : 1 ≤ bs.length) (h8 : bs.length ≤ 8) : Nam (lnL bs at_ k) := by
  refine ⟨by unfold lnL; rw [S_len, List.length_map, List.length_range]; exact h1, by unfold lnL; rw [S_len, List.length_map, List.length_range]; exact h8, ?_⟩
  show ((List.range bs.length).map (lnc bs at_ k)).all _ = true
  refine List.all_eq_true.mpr fun x m => ?_
  obtain ⟨j, _, rfl⟩ := List.mem_map.mp m
  unfold lnc
  simp
  omega
theorem lnL_inj {bs : List Int} {at_ : Int} {k j : Nat} (h0 : 0 ≤ at_) (h1 : at_ < bs.length) (hk : k < 10) (hj : j < 10) (e : lnL bs at_ k = lnL bs at_ j) : k = j := by
  have e : (List.range bs.length).map (lnc bs at_ k) = (List.range bs.length).map (lnc bs at_ j) := congrArg (fun x : Str => x.cps.toList) e
  obtain ⟨a, rfl⟩ := Int.eq_ofNat_of_zero_le h0
  have e := congrArg (fun l => l[a]?) e
  have ha : a < bs.length := by omega
  simp only [List.getElem?_map, List.getElem?_range ha, Option.map_some] at e
  have e := Option.some.inj e
  unfold lnc at e
  rw [if_pos (beq_iff_eq.mpr rfl)] at e
  omega
theorem selfs_nam : Nam "selfs" := ⟨by decide +kernel, by unfold Lc; decide +kernel⟩
theorem selfs_ne : ("selfs" : Str) ≠ "self" ∧ ("selfs" : Str).length = 5 ∧ ("self" : Str).length = 4 := ⟨by decide +kernel, by decide +kernel, by decide +kernel⟩
def lnS (bs : List Int) (at_ : Int) (k : Nat) : Str := if lnL bs at_ k = "self" then "selfs" else lnL bs at_ k
theorem lnS_ok {bs : List Int} {at_ : Int} (h1 : 1 ≤ bs.length) (h8 : bs.length ≤ 8) (a0 : 0 ≤ at_) (a1 : at_ < bs.length) : (∀ k, Nam (lnS bs at_ k) ∧ lnS bs at_ k ≠ "self") ∧ ∀ k < 10, ∀ j < 10, lnS bs at_ k = lnS bs at_ j → k = j := by
  obtain ⟨s1, s2, s3⟩ := selfs_ne
  have ll : ∀ k, (lnL bs at_ k).length = bs.length := fun k => by unfold lnL; rw [S_len, List.length_map, List.length_range]
  refine ⟨fun k => ?_, fun k hk j hj e => ?_⟩
  · unfold lnS
    by_cases z : lnL bs at_ k = "self"
    · rw [if_pos z]; exact ⟨selfs_nam, s1⟩
    · rw [if_neg z]; exact ⟨lnL_nam h1 h8, z⟩
  · unfold lnS at e
    by_cases z : lnL bs at_ k = "self"
    · by_cases y : lnL bs at_ j = "self"
      · exact lnL_inj a0 a1 hk hj (z.trans y.symm)
      · rw [if_pos z, if_neg y] at e
        have a := congrArg Str.length e
        have b := congrArg Str.length z
        rw [ll] at a b
        omega
    · by_cases y : lnL bs at_ j = "self"
      · rw [if_neg z, if_pos y] at e
        have a := congrArg Str.length e
        have b := congrArg Str.length y
        rw [ll] at a b
        omega
      · rw [if_neg z, if_neg y] at e
        exact lnL_inj a0 a1 hk hj e
structure Ns10 (vs : List Str) : Prop where
  len : vs.length = 10
  nam : ∀ x ∈ vs, Nam x ∧ x ≠ "self"
  nd : vs.Nodup
theorem names_ok {cell : Int} (c0 : 0 ≤ cell) : Ok (M__law_names cell) Ns10 := by
  unfold M__law_names
  have lz : ABC.length ≤ sizeLine := by
    rw [abc_len.1]
    decide
  refine ok_lt (ok_gd ⟨by omega, by omega⟩ (ok_gd (by rw [List.length_range]; show _ < 16777216; omega) ?_))
  refine ok_bd (ok_mpM (fun _ => True) fun x m => ?_) fun v6 ⟨l6, _⟩ => ?_
  · have hx := List.mem_range.mp m
    exact ok_gd ⟨by omega, by omega⟩ (ok_gd (.inl ⟨by omega, by omega⟩) (ok_some trivial))
  rw [List.length_range] at l6
  have n1 : 1 ≤ v6.length ∧ v6.length ≤ 8 := by omega
  refine ok_gd (by omega) (ok_ltx fun at_ ea => ok_lt ?_)
  have a0 : 0 ≤ at_ := by rw [ea]; exact Int.emod_nonneg _ (by omega)
  have a1 : at_ < v6.length := by rw [ea]; exact Int.emod_lt_of_pos _ (by omega)
  clear ea
  obtain ⟨k1, k2⟩ := lnS_ok n1.1 n1.2 a0 a1
  refine ok_bd (ok_lp (Q := fun q => q = (List.range 10).map (lnS v6 at_)) (fun k (q : List Str) => q = (List.range k).map (lnS v6 at_)) rfl (fun k x q hx hq => ?_) fun q hq => hq) fun q hq => ok_some ?_
  · obtain ⟨hk, ex⟩ := List.getElem?_eq_some_iff.mp hx
    rw [List.length_range] at hk
    rw [List.getElem_range] at ex
    subst ex
    have hk : k < 10 := hk
    refine ok_lt (ok_gd ⟨by omega, by omega⟩ ?_)
    refine ok_bd (ok_lp (Q := fun y => y = lnL v6 at_ k) (fun j (y : Str) => y = S ((List.range j).map (lnc v6 at_ k))) (show ("" : Str) = S [] by decide +kernel) (fun j x y hx hy => ?_) fun y h => by rw [List.length_range, Int.toNat_natCast] at h; exact h) fun y hy => ?_
    · obtain ⟨hj, ex⟩ := List.getElem?_eq_some_iff.mp hx
      rw [List.length_range] at hj
      rw [List.getElem_range] at ex
      subst ex
      have hj : j < v6.length := by omega
      have gj : L2.atI v6 (j : Int) = some (v6.getD j 0) := by
        rw [List.getD_eq_getElem?_getD, List.getElem?_eq_getElem hj]
        exact atI_nat (List.getElem?_eq_getElem hj)
      rw [bd_of gj]
      refine ok_gd (.inl ⟨by omega, by omega⟩) ?_
      refine ok_bd (Ok.of letter) fun c ec => ?_
      subst ec
      refine ok_gd lz (ok_gd ?_ (ok_lt (ok_some ?_)))
      · rw [hy, S_len, List.length_map, List.length_range]
        show _ + 1 ≤ 16777216
        omega
      · rw [hy, List.range_succ, List.map_append]
        refine str_ext ?_
        rw [tl_cat]
        rfl
    · refine ok_bd (Q := fun z => z = lnS v6 at_ k) ?_ fun z hz => ok_gd (by rw [hq, List.length_map, List.length_range]; show _ < 16777216; omega) (ok_lt (ok_some ?_))
      · unfold lnS
        by_cases e : lnL v6 at_ k = "self"
        · rw [if_pos e]
          exact ok_t (by rw [hy, e]; exact beq_self_eq_true _) (ok_lt (ok_some rfl))
        · rw [if_neg e]
          exact ok_f (by rw [hy]; exact beq_eq_false_iff_ne.mpr e) (ok_some hy)
      · rw [hq, hz, List.range_succ, List.map_append]
        rfl
  · rw [hq]
    refine ⟨by rw [List.length_map, List.length_range], fun x m => ?_, ?_⟩
    · obtain ⟨k, mk, rfl⟩ := List.mem_map.mp m
      exact k1 k
    · exact List.pairwise_map.mpr (List.Pairwise.imp_of_mem (R := fun a b => a ≠ b) (fun {k j} mk mj n e => n (k2 k (List.mem_range.mp mk) j (List.mem_range.mp mj) e)) List.nodup_range)
theorem range_set {α : Type} (n j : Nat) (f : Nat → α) (a : α) : ((List.range n).map f).set j a = (List.range n).map fun k => if k = j then a else f k := by
  refine List.ext_getElem? fun i => ?_
  rw [List.getElem?_set, List.getElem?_map, List.getElem?_map, List.length_map, List.length_range]
  by_cases l : i < n
  · rw [List.getElem?_range l, Option.map_some, Option.map_some]
    by_cases e : j = i
    · rw [if_pos e, if_pos (by omega), if_pos e.symm]
    · rw [if_neg e, if_neg fun z => e z.symm]
  · rw [List.getElem?_eq_none (by rw [List.length_range]; omega)]
    by_cases e : j = i
    · rw [if_pos e, if_neg (by omega)]
      rfl
    · rw [if_neg e]
      rfl
theorem range_nd {α : Type} {n : Nat} {f : Nat → α} (h : ∀ k < n, ∀ j < n, f k = f j → k = j) : ((List.range n).map f).Nodup := List.pairwise_map.mpr (List.Pairwise.imp_of_mem (R := fun a b => a ≠ b) (fun {k j} mk mj ne e => ne (h k (List.mem_range.mp mk) j (List.mem_range.mp mj) e)) List.nodup_range)
theorem houses_dr {ns : List Int} {nm : List Str} (hn : Ns10 nm) : Ok (M__law_houses ns nm) HsR := by
  have l10 := hn.len
  unfold M__law_houses
  refine ok_bd (cell_ok (by decide)) fun v1 _ => ok_ltx fun head eh => ok_ltx fun many em => ok_lt (ok_ltx fun left el => ok_gd ⟨by omega, by omega⟩ ?_)
  have h0 : 0 ≤ head := by omega
  have m8 : 1 ≤ many ∧ many ≤ 8 := by omega
  clear eh
  obtain ⟨f, ef⟩ : ∃ f : Nat → Str, f = fun k : Nat => nm.getD (((k : Int) + head / 8) % 10).toNat "" := ⟨_, rfl⟩
  have ix : ∀ k : Nat, (((k : Int) + head / 8) % 10).toNat < nm.length := fun k => by omega
  have fm : ∀ k, f k ∈ nm := fun k => by
    rw [ef]
    show nm.getD _ _ ∈ nm
    rw [List.getD_eq_getElem?_getD, List.getElem?_eq_getElem (ix k)]
    exact List.getElem_mem (ix k)
  have fi : ∀ k < 8, ∀ j < 8, f k = f j → k = j := fun k hk j hj e => by
    rw [ef] at e
    have e : nm.getD (((k : Int) + head / 8) % 10).toNat "" = nm.getD (((j : Int) + head / 8) % 10).toNat "" := e
    rw [List.getD_eq_getElem?_getD, List.getD_eq_getElem?_getD, List.getElem?_eq_getElem (ix k), List.getElem?_eq_getElem (ix j)] at e
    have e : nm[(((k : Int) + head / 8) % 10).toNat]'(ix k) = nm[(((j : Int) + head / 8) % 10).toNat]'(ix j) := e
    have q : (((k : Int) + head / 8) % 10).toNat = (((j : Int) + head / 8) % 10).toNat := (List.getElem?_inj (ix k) hn.nd).mp (by rw [List.getElem?_eq_getElem (ix k), e, List.getElem?_eq_getElem (ix j)])
    omega
  refine ok_bd (ok_lp (Q := fun q => q.2.map (·.1) = (List.range many.toNat).map f ∧ (∀ p ∈ q.2, 1 ≤ p.2) ∧ (q.2.map (·.2)).sum ≤ 100) (fun i (q : Int × List (Str × Int)) => 0 ≤ q.1 ∧ q.2.map (·.1) = (List.range i).map f ∧ (∀ p ∈ q.2, 1 ≤ p.2) ∧ (q.2.map (·.2)).sum + q.1 = 100 - many + i) ⟨by omega, rfl, fun _ m => (nomatch m), by show (0 : Int) + left = _; omega⟩ (fun i x q hx ⟨q0, q1, q2, q3⟩ => ?_) fun q ⟨q0, q1, q2, q3⟩ => ?_) fun q ⟨q1, q2, q3⟩ => ?_
  · obtain ⟨hi, ex⟩ := List.getElem?_eq_some_iff.mp hx
    rw [List.length_range] at hi
    rw [List.getElem_range] at ex
    subst ex
    have lq : q.2.length = i := by
      have := congrArg List.length q1
      rw [List.length_map, List.length_map, List.length_range] at this
      exact this
    refine ok_bd (cell_ok (by omega)) fun v6 _ => ok_gd (by omega) (ok_ltx fun more emo => ok_ltx fun left1 el1 => ?_)
    have mo : 0 ≤ more ∧ more < min q.1 30 + 1 := by
      rw [emo]
      exact ⟨Int.emod_nonneg _ (by omega), Int.emod_lt_of_pos _ (by omega)⟩
    clear emo
    have gi : L2.atI nm (((i : Int) + head / 8) % 10) = some (f i) := by
      have z : 0 ≤ ((i : Int) + head / 8) % 10 := by omega
      have hk := ix i
      rw [ef]
      obtain ⟨k, ek⟩ := Int.eq_ofNat_of_zero_le z
      show L2.atI nm _ = some (nm.getD (((i : Int) + head / 8) % 10).toNat "")
      rw [ek] at hk ⊢
      rw [Int.toNat_natCast] at hk ⊢
      rw [List.getD_eq_getElem?_getD, List.getElem?_eq_getElem hk]
      exact atI_nat (List.getElem?_eq_getElem hk)
    rw [bd_of gi]
    refine ok_gd (by show _ < 16777216; omega) (ok_lt (ok_some ⟨?_, ?_, fun p m => ?_, ?_⟩))
    · show 0 ≤ left1
      omega
    · rw [List.map_append, q1, List.range_succ, List.map_append]
      rfl
    · rcases List.mem_append.mp m with m | m
      · exact q2 p m
      · rw [List.mem_singleton.mp m]
        show 1 ≤ 1 + more
        omega
    · rw [List.map_append, List.sum_append]
      show _ + ((1 + more) + 0) + left1 = 100 - many + ((i + 1 : Nat) : Int)
      omega
  · rw [List.length_range] at q1 q3
    exact ⟨q1, q2, by omega⟩
  have lq : q.2.length = many.toNat := by
    have := congrArg List.length q1
    rw [List.length_map, List.length_map, List.length_range] at this
    exact this
  have wk : ∀ ws : List (Str × Int), ws.map (·.2) = q.2.map (·.2) → WOk (ws.map (·.2)) := fun ws e => by
    rw [e]
    exact ⟨by rw [List.length_map]; omega, by rw [List.length_map]; omega, fun w m => by
      obtain ⟨p, mp, rfl⟩ := List.mem_map.mp m
      exact q2 p mp, q3⟩
  refine ok_bd (Q := HsR) (ok_cond (fun _ => ?_) fun _ => ok_some ⟨wk q.2 rfl, fun p m => ?_, ?_⟩) fun p hp => ok_some hp
  · have z0 : 0 ≤ (head / 320) % many := Int.emod_nonneg _ (by omega)
    have z1 : (head / 320) % many < many := Int.emod_lt_of_pos _ (by omega)
    generalize (head / 320) % many = a at z0 z1
    obtain ⟨j, rfl⟩ := Int.eq_ofNat_of_zero_le z0
    have hj : j < q.2.length := by omega
    refine ok_gd (by omega) ?_
    rw [bd_of (atI_nat (List.getElem?_eq_getElem hj))]
    refine ok_gd (by omega) ?_
    rw [bd_of (ixNn hj)]
    have e2 : (q.2.set j (("self" : Str), q.2[j].2)).map (·.2) = q.2.map (·.2) := by
      rw [List.map_set, show (q.2[j]).2 = (q.2.map (·.2))[j]'(by rw [List.length_map]; exact hj) from (List.getElem_map ..).symm, List.set_getElem_self]
    have e1 : (q.2.set j (("self" : Str), q.2[j].2)).map (·.1) = (List.range many.toNat).map fun k => if k = j then ("self" : Str) else f k := by
      rw [List.map_set, q1, range_set]
    refine ok_lt (ok_some ⟨wk _ e2, fun p m => ?_, ?_⟩)
    · rcases List.mem_or_eq_of_mem_set m with m | rfl
      · have m2 : p.1 ∈ q.2.map (·.1) := List.mem_map.mpr ⟨p, m, rfl⟩
        rw [q1] at m2
        obtain ⟨k, _, e⟩ := List.mem_map.mp m2
        rw [← e]
        exact (hn.nam _ (fm k)).1
      · exact self_nam
    · rw [e1]
      refine range_nd fun k hk i hi e => ?_
      by_cases a : k = j
      · by_cases b : i = j
        · omega
        · rw [if_pos a, if_neg b] at e
          exact absurd e.symm (hn.nam _ (fm i)).2
      · by_cases b : i = j
        · rw [if_neg a, if_pos b] at e
          exact absurd e (hn.nam _ (fm k)).2
        · rw [if_neg a, if_neg b] at e
          exact fi k (by omega) i (by omega) e
  · have m2 : p.1 ∈ q.2.map (·.1) := List.mem_map.mpr ⟨p, m, rfl⟩
    rw [q1] at m2
    obtain ⟨k, _, e⟩ := List.mem_map.mp m2
    rw [← e]
    exact (hn.nam _ (fm k)).1
  · rw [q1]
    exact range_nd fun k hk i hi e => fi k (by omega) i (by omega) e
open SX TL
theorem numL_all : ∀ n : Nat, (numL n).all (· < 128) = true := fun n => by
  induction n using Nat.strongRecOn with
  | _ n ih =>
    by_cases h : n < 10
    · rw [numL_lt h]
      simp
      omega
    · rw [numL_step (by omega), List.all_append, ih (n / 10) (by omega)]
      simp
      omega
theorem amtS_sm {n : Nat} (h : n < 10 ^ 60) : Sm (amtS n) 63 := by
  refine sm_S ?_ ?_
  · unfold amtL
    rw [List.length_append]
    have := numL_len (n := n / 100) (k := 60) (by decide) (by omega)
    show _ + 3 ≤ 63
    omega
  · unfold amtL
    rw [List.all_append, numL_all]
    simp
    omega
theorem show_ok {n : Nat} (h : n < 10 ^ 60) : M_show_cents (n : Int) = some (amtS n) := by
  unfold M_show_cents
  have d1 : (n : Int) / 100 = ((n / 100 : Nat) : Int) := by omega
  have d2 : (n : Int) % 100 = ((n % 100 : Nat) : Int) := by omega
  have nl := numL_len (n := n / 100) (k := 60) (by decide) (by omega)
  rw [d1, d2, gd_pos (lg_of (by rw [Int.natAbs_natCast]; omega)), strI_n, strI_n, dot_S, S_cat, zfill2 _ (by omega), gd_pos, gd_pos (lg_of (by rw [Int.natAbs_natCast]; omega)), gd_pos, S_cat]
  · unfold amtS amtL
    have e1 : n % 100 / 10 = n / 10 % 10 := by omega
    have e2 : n % 100 % 10 = n % 10 := by omega
    rw [e1, e2, List.append_assoc]
  · rw [S_len, S_len, List.length_append]
    show _ + 1 + 2 ≤ 16777216
    omega
  · rw [S_len, S_len]
    show _ + 1 ≤ 16777216
    omega

theorem Nam.is {x : Str} (h : Nam x) : M_is_name_s x = some true := isnam h
theorem houses_ok {ps : List (Str × Int)} (hl : ps.length ≤ 1000) (hn : ∀ p ∈ ps, Nam p.1) (hd : (ps.map (·.1)).Nodup) : M_need_houses_g ps = some (ps.map (·.1)) := by
  unfold M_need_houses_g
  refine Ok.eq (ok_lt ?_)
  refine ok_bd (ok_lpN (Q := fun o => o = .nx (ps.map (·.1))) (fun i (q : List Str) => q = (ps.map (·.1)).take i) rfl (fun i x q hx hq => ?_) fun q hq => ?_) fun o ho => ?_
  · obtain ⟨hi, ex⟩ := List.getElem?_eq_some_iff.mp hx
    have m := List.mem_of_getElem? hx
    rw [bd_of (hn x m).is]
    have nin : q.contains x.1 = false := by
      rw [Bool.eq_false_iff]
      intro z
      have z := List.contains_iff_mem.mp z
      rw [hq] at z
      obtain ⟨j, ej⟩ := List.mem_iff_getElem?.mp z
      rw [List.getElem?_take] at ej
      split at ej
      · rename_i lt
        obtain ⟨hj, e1⟩ := List.getElem?_eq_some_iff.mp ej
        have e2 : (ps.map (·.1))[i]'(by rw [List.length_map]; exact hi) = x.1 := by rw [List.getElem_map, ex]
        have := (List.getElem_inj (h₀ := hj) (h₁ := by rw [List.length_map]; exact hi) hd).mp (e1.trans e2.symm)
        omega
      · cases ej
    refine ok_f (by rw [nin]; rfl) (ok_gd (by rw [hq, List.length_take]; show _ < 16777216; omega) (ok_lt (ok_some ⟨_, .inl rfl, ?_⟩)))
    rw [hq, List.take_succ, List.getElem?_map, hx]
    rfl
  · rw [hq, List.take_of_length_le (by rw [List.length_map]; exact Nat.le_refl _)]
  · subst ho
    exact ok_some rfl


abbrev COV := Str × Cd × List OWN × List Str × List Int × Bool
theorem cover_good {nm : Str} (hn : Nam nm) (ns : nm ≠ "self") (c : Cd) {cs : List OWN} (lc : cs.length ≤ 8) {ps : List (Str × Int)} (h : HsR ps) (w : Bool) : M_Cover___init__ nm c cs ps w = some (nm, c, cs, ps.map (·.1), ps.map (·.2), w) := by
  obtain ⟨l1, l8⟩ := h.l8
  unfold M_Cover___init__
  rw [bd_of hn.is]
  refine Ok.eq (ok_f (by rw [beq_eq_false_iff_ne.mpr ns]; rfl) (ok_lt (ok_f (decide_eq_false (by omega)) (ok_lt ?_))))
  rw [bd_of (houses_ok (by omega) h.nam h.nd)]
  refine ok_gd (by show _ < 16777216; omega) ?_
  rw [bd_of (mpO_pure (fun x : Str × Int => x.2) _)]
  exact ok_gd h.wok (ok_some rfl)
theorem one_hs {nm : Str} (hn : Nam nm) : HsR [(nm, 1)] := ⟨⟨by show 1 ≤ 1; decide, by show 1 ≤ 8; decide, fun y m => by rw [List.mem_singleton.mp m]; show (1 : Int) ≤ 1; decide, by show (1 : Int) + 0 ≤ 100; decide⟩, fun p m => by rw [List.mem_singleton.mp m]; exact hn, by show [nm].Nodup; simp⟩
theorem cover_plain {nm : Str} (hn : Nam nm) (ns : nm ≠ "self") (c : Cd) : M_CoverP___init__ nm c () () false = some (nm, c, [], [nm], [1], false) := by
  have h := one_hs hn
  unfold M_CoverP___init__
  rw [bd_of hn.is]
  refine Ok.eq (ok_f (by rw [beq_eq_false_iff_ne.mpr ns]; rfl) (ok_lt (ok_f (decide_eq_false (by decide)) (ok_ltx fun ps eps => ?_))))
  rw [← eps] at h
  rw [bd_of (houses_ok (by rw [eps]; show 1 ≤ 1000; decide) h.nam h.nd)]
  refine ok_gd (by rw [eps]; show 1 < 16777216; decide) ?_
  rw [bd_of (mpO_pure (fun x : Str × Int => x.2) _)]
  exact ok_gd h.wok (ok_some (by rw [eps]; rfl))
/-- clauses by amounts -/
structure OwnK (c : OWN) : Prop where
  by_ : c.1 = "year" ∨ c.1 = "loss"
  lo : 0 ≤ c.2
  hi : c.2 ≤ 999999999999
def ownW (c : OWN) : List Str := [("own" : Str), c.1, amtS c.2.toNat]
theorem own_words {c : OWN} (h : OwnK c) : M_Own_words c = some (ownW c) := by
  have lo := h.lo
  have hi := h.hi
  unfold M_Own_words
  have e := show_ok (n := c.2.toNat) (by omega)
  rw [show ((c.2.toNat : Nat) : Int) = c.2 by omega] at e
  rw [bd_of e]
  rfl
theorem own_all : ∀ {cs : List OWN}, (∀ c ∈ cs, OwnK c) → mpO (fun x2 : (Str × Int) => bd (M_Own_words x2) fun v3 => some v3) cs = some (cs.map ownW)
  | [], _ => rfl
  | c :: cs, h => by
    show bd (bd (M_Own_words c) fun v3 => some v3) _ = _
    rw [own_words (h c List.mem_cons_self)]
    show bd (some (ownW c)) _ = _
    rw [bd_of rfl, bd_of (own_all fun d m => h d (List.mem_cons_of_mem _ m))]
    rfl
theorem own_new {b : Str} (hb : b = "year" ∨ b = "loss") {n : Int} (h : 0 ≤ n ∧ n ≤ 999999999999) : M_Own___init__ b n = some (b, n) := by
  unfold M_Own___init__ M_Clause___init__ M_need_amount M_is_amount
  have e : ([("event" : Str), ("thing" : Str), ("year" : Str), ("loss" : Str)].contains b) = true := by
    rcases hb with rfl | rfl
    · exact List.contains_iff_mem.mpr (by simp)
    · exact List.contains_iff_mem.mpr (by simp)
  rw [e, decide_eq_true h.1, decide_eq_true h.2]
  rfl
theorem lit_sm {x : Str} (h : (decide (x.length ≤ 8) && x.cps.toList.all (· < 128)) = true) : Sm x 63 := by
  have h := Bool.and_eq_true_iff.mp h
  exact ⟨Nat.le_trans (of_decide_eq_true h.1) (by decide), h.2⟩
theorem words_ok {cs : List OWN} (h : ∀ c ∈ cs, OwnK c) : D.ok (.lst ((cs.map ownW).map e_L_s)) ∧ D.eqv (.lst ((cs.map ownW).map e_L_s)) (.lst ((cs.map ownW).map e_L_s)) = true := by
  have s : Smp 2 (.lst ((cs.map ownW).map e_L_s)) := .lst (smps_map fun ws m => by
    obtain ⟨c, mc, rfl⟩ := List.mem_map.mp m
    have k := h c mc
    have lo := k.lo
    have hi := k.hi
    refine .lst (smps_map fun x mx => ?_)
    have s1 : Sm x 63 := by
      simp only [ownW, List.mem_cons, List.not_mem_nil, or_false] at mx
      rcases mx with rfl | rfl | rfl
      · exact lit_sm (by decide +kernel)
      · rcases k.by_ with e | e
        · rw [e]; exact lit_sm (by decide +kernel)
        · rw [e]; exact lit_sm (by decide +kernel)
      · exact amtS_sm (by omega)
    exact s1.smp)
  exact ⟨s.ok, s.eqv⟩
theorem strs_eq {xs : List Str} {n : Nat} (h : ∀ x ∈ xs, Sm x n) : D.ok (.lst (xs.map D.str)) ∧ D.eqv (.lst (xs.map D.str)) (.lst (xs.map D.str)) = true := by
  have s : Smp 1 (.lst (xs.map D.str)) := .lst (smps_map fun x m => (h x m).smp)
  exact ⟨s.ok, s.eqv⟩
theorem ints_eq (xs : List Int) : D.ok (.lst (xs.map D.int)) ∧ D.eqv (.lst (xs.map D.int)) (.lst (xs.map D.int)) = true := by
  have s : Smp 1 (.lst (xs.map D.int)) := .lst (smps_map fun x m => .int x)
  exact ⟨s.ok, s.eqv⟩
theorem kept_ok {nm : Str} {c : Cd} {cs : List OWN} {ps : List (Str × Int)} {w : Bool} (lc : cs.length ≤ 8) (hc : ∀ c ∈ cs, OwnK c) (h : HsR ps) : M__law_kept (nm, c, cs, ps.map (·.1), ps.map (·.2), w) nm (cs.map ownW) ps w = some true := by
  obtain ⟨l1, l8⟩ := h.l8
  have sn : ∀ x ∈ ps.map (·.1), Sm x 8 := fun x m => by
    obtain ⟨p, mp, rfl⟩ := List.mem_map.mp m
    exact (h.nam p mp).2.sm
  obtain ⟨a1, a2⟩ := words_ok hc
  obtain ⟨b1, b2⟩ := strs_eq sn
  obtain ⟨c1, c2⟩ := ints_eq (countsM (ps.map (·.2)) 37)
  obtain ⟨d1, d2⟩ := ints_eq (ps.map (·.2))
  unfold M__law_kept
  refine Ok.eq (ok_f (by show (false || !(nm == nm)) = false; rw [beq_self_eq_true]; rfl) (ok_f (by show (false || !(w == w)) = false; rw [beq_self_eq_true]; rfl) ?_))
  refine ok_bd (Q := fun b => b = false) (ok_f rfl (ok_gd (by show cs.length < 16777216; omega) ?_)) fun b hb => ok_f hb ?_
  · show Ok (bd (mpO _ cs) _) _
    rw [bd_of (own_all hc)]
    exact ok_gd ⟨a1, a1⟩ (ok_some (by rw [a2]; rfl))
  refine ok_bd (Q := fun b => b = false) (ok_f rfl (ok_gd (by show ps.length < 16777216; omega) ?_)) fun b hb => ok_f hb ?_
  · show Ok (bd (mpO (fun x9 : (Str × Int) => some ((x9).1)) ps) _) _
    rw [bd_of (mpO_pure (fun x : Str × Int => x.1) _)]
    exact ok_gd ⟨b1, b1⟩ (ok_some (by show (!D.eqv (.lst ((ps.map (·.1)).map D.str)) (.lst ((ps.map (·.1)).map D.str))) = false; rw [b2]; rfl))
  refine ok_gd (by show ps.length < 16777216; omega) ?_
  show Ok (bd (mpO (fun x9 : (Str × Int) => some ((x9).2)) ps) _) _
  rw [bd_of (mpO_pure (fun x : Str × Int => x.2) _)]
  refine ok_bd (Q := fun b => b = false) (ok_f rfl (ok_gd ⟨h.wok, by decide⟩ (ok_gd h.wok (ok_gd ⟨h.wok, by decide⟩ (ok_gd ⟨c1, c1⟩ (ok_some ?_)))))) fun b hb => ok_f hb (ok_gd ⟨d1, d1⟩ (ok_some d2))
  show (!D.eqv (.lst ((countsM (ps.map (·.2)) 37).map D.int)) (.lst ((countsM (ps.map (·.2)) 37).map D.int))) = false
  rw [c2]
  rfl
theorem kept_p (a : COV) (b : Str) (c : List (List Str)) (d : List (Str × Int)) (e : Bool) : M__law_kept_p a b c d e = M__law_kept a b c d e := rfl
theorem asks_p (a : COV) (b : Int) (c : Str) (d : Int) : M__law_asks_p a b c d = M__law_asks a b c d := rfl
theorem asks_ok {a : COV} {way : Int} {nm : Str} {n : Int} (h : (way = 0 ∧ a.2.1 = .cause nm) ∨ (way = 1 ∧ a.2.1 = .thing nm) ∨ (way = 2 ∧ a.2.1 = .over n)) : M__law_asks a way nm n = some true := by
  unfold M__law_asks
  refine Ok.eq (ok_bd (ok_lpN (Q := fun o => o = .nx ()) (fun _ _ => True) trivial (fun i x v hx _ => ?_) fun v _ => rfl) fun o ho => by subst ho; exact ok_some rfl)
  unfold M_Cover_asks
  rcases h with ⟨rfl, e⟩ | ⟨rfl, e⟩ | ⟨rfl, e⟩
  · rw [e]
    refine ok_bd (Q := fun b => b = (x.1 == nm)) (ok_some rfl) fun v4 h4 => ok_bd (Q := fun b => b = (x.1 == nm)) (ok_bd (Q := fun b => b = (x.1 == nm)) (ok_some rfl) fun y hy => ok_some hy) fun v5 h5 => ok_f ?_ (ok_some ⟨_, .inl rfl, trivial⟩)
    rw [h4, h5, beq_self_eq_true]
    rfl
  · rw [e]
    refine ok_bd (Q := fun b => b = (x.2.1 == nm)) (ok_some rfl) fun v4 h4 => ok_bd (Q := fun b => b = (x.2.1 == nm)) (ok_bd (Q := fun b => b = (x.2.1 == nm)) (ok_some rfl) fun y hy => ok_some hy) fun v5 h5 => ok_f ?_ (ok_some ⟨_, .inl rfl, trivial⟩)
    rw [h4, h5, beq_self_eq_true]
    rfl
  · rw [e]
    refine ok_bd (Q := fun b => b = decide (n < x.2.2)) (ok_some rfl) fun v4 h4 => ok_bd (Q := fun b => b = decide (n < x.2.2)) (ok_bd (Q := fun b => b = decide (n < x.2.2)) (ok_some rfl) fun y hy => ok_some hy) fun v5 h5 => ok_f ?_ (ok_some ⟨_, .inl rfl, trivial⟩)
    rw [h4, h5, beq_self_eq_true]
    rfl
theorem words_of {c : Cd} {nm : Str} {n : Int} (hn : Nam nm) (h0 : 0 ≤ n ∧ n ≤ 999999999999) (h : c = .cause nm ∨ c = .thing nm ∨ c = .over n) : ∃ ws, U_Cd_words c = some ws ∧ ∀ x ∈ ws, Sm x 63 := by
  have s8 : Sm nm 63 := hn.2.sm.mono (by decide)
  rcases h with rfl | rfl | rfl
  · refine ⟨_, rfl, fun x m => ?_⟩
    simp only [List.mem_cons, List.not_mem_nil, or_false] at m
    rcases m with rfl | rfl
    · exact lit_sm (by decide +kernel)
    · exact s8
  · refine ⟨_, rfl, fun x m => ?_⟩
    simp only [List.mem_cons, List.not_mem_nil, or_false] at m
    rcases m with rfl | rfl
    · exact lit_sm (by decide +kernel)
    · exact s8
  · have e := show_ok (n := n.toNat) (by omega)
    rw [show ((n.toNat : Nat) : Int) = n by omega] at e
    refine ⟨[("over" : Str), amtS n.toNat], ?_, fun x m => ?_⟩
    · show M_Over_words n = _
      unfold M_Over_words
      rw [bd_of e]
    · simp only [List.mem_cons, List.not_mem_nil, or_false] at m
      rcases m with rfl | rfl
      · exact lit_sm (by decide +kernel)
      · exact amtS_sm (by omega)
theorem law_true (ns : List Int) (_h : ns.length ≤ 63) : M_law ns = some true := by
  unfold M_law
  refine Ok.eq (ok_bd (cell_ok (by decide)) fun v1 _ => ok_ltx fun head eh => ok_bd (cell_ok (by decide)) fun v2 _ => ok_bd (names_ok (by omega)) fun v3 hn => ?_)
  have h0 : 0 ≤ head ∧ head < 1000000000 := by omega
  clear eh
  refine ok_bd (ok_atIm (Q := fun x => Nam x ∧ x ≠ "self") (by decide) (by rw [hn.len]; decide) hn.nam) fun nm ⟨n1, n2⟩ => ok_bd (cell_ok (by decide)) fun v5 _ => ok_ltx fun cents ec => ?_
  have c0 : 1 ≤ cents ∧ cents ≤ 100000000000 := by omega
  clear ec
  refine ok_bd (houses_dr hn) fun ps hp => ok_gd ⟨by omega, by omega⟩ (ok_gd (by rw [List.length_range]; show _ < 16777216; omega) ?_)
  obtain ⟨l1, l8⟩ := hp.l8
  refine ok_bd (ok_mpM (fun n : Int => 0 ≤ n ∧ n ≤ 999999999999) fun x m => ?_) fun v11 ⟨l11, h11⟩ => ?_
  · have hx := List.mem_range.mp m
    exact ok_gd (.inl ⟨by omega, by omega⟩) (ok_some (by omega))
  rw [List.length_range] at l11
  refine ok_gd (by show _ < 16777216; omega) (ok_bd (ok_mpE (g := fun n : Int => ((("year" : Str), n) : OWN)) fun x m => by rw [own_new (.inl rfl) (h11 x m)]; rfl) fun cs ecs => ?_)
  have lcs : cs.length ≤ 8 := by rw [ecs, List.length_map]; omega
  have kcs : ∀ c ∈ cs, OwnK c := fun c m => by
    rw [ecs] at m
    obtain ⟨n, mn, rfl⟩ := List.mem_map.mp m
    exact ⟨.inl rfl, (h11 n mn).1, (h11 n mn).2⟩
  refine ok_gd (by show _ < 16777216; omega) ?_
  rw [bd_of (own_all kcs)]
  refine ok_bd (Q := fun x => x = nm) (ok_some rfl) fun v20 h20 => ok_bd (Q := fun x => x = nm) (ok_some rfl) fun v21 h21 => ok_bd (Q := fun x => x = cents) (ok_some rfl) fun v22 h22 => ?_
  subst h20 h21 h22
  have w0 : 0 ≤ (head / 9) % 3 ∧ (head / 9) % 3 < 3 := by omega
  generalize (head / 9) % 3 = way at w0
  refine ok_bd (Q := fun c => (way = 0 ∧ c = .cause v21) ∨ (way = 1 ∧ c = .thing v21) ∨ (way = 2 ∧ c = .over v22)) ?_ fun c hc => ok_lt ?_
  · have : way = 0 ∨ way = 1 ∨ way = 2 := by omega
    rcases this with rfl | rfl | rfl
    · exact ok_some (.inl ⟨rfl, rfl⟩)
    · exact ok_some (.inr (.inl ⟨rfl, rfl⟩))
    · exact ok_some (.inr (.inr ⟨rfl, rfl⟩))
  rw [bd_of (cover_good n1 n2 c lcs hp _), bd_of (cover_plain n1 n2 c), bd_of (own_new (.inr rfl) ⟨by decide, by decide⟩)]
  refine ok_gd (by show _ < 16777216; omega) (ok_gd (by show _ < 16777216; omega) ?_)
  rw [bd_of (kept_ok lcs kcs hp)]
  refine ok_bd (Q := fun b => b = false) (ok_f rfl ?_) fun b hb => ok_f hb ?_
  · rw [kept_p, bd_of (show M__law_kept (v21, c, [], [v21], [1], false) v21 [] [(v21, 1)] false = some true from kept_ok (cs := []) (ps := [(v21, 1)]) (by decide) (fun _ m => nomatch m) (one_hs n1))]
    exact ok_some rfl
  have hc2 : c = .cause v21 ∨ c = .thing v21 ∨ c = .over v22 := hc.imp (·.2) fun h => h.imp (·.2) (·.2)
  obtain ⟨ws, e1, e2⟩ := words_of n1 (by omega) hc2
  obtain ⟨k1, k2⟩ := strs_eq e2
  rw [bd_of (show U_Cd_words c = some ws from e1), bd_of e1]
  refine ok_gd ⟨k1, k1⟩ (ok_bd (Q := fun b => b = false) (ok_f (by rw [k2]; rfl) ?_) fun b hb => ok_f hb ?_)
  · rw [bd_of (show U_Cd_words c = some ws from e1), bd_of e1]
    exact ok_gd ⟨k1, k1⟩ (ok_some (by rw [k2]; rfl))
  rw [bd_of (asks_ok (a := (v21, c, cs, ps.map (·.1), ps.map (·.2), _)) hc)]
  refine ok_bd (Q := fun b => b = false) (ok_f rfl ?_) fun b hb => ok_f hb ?_
  · rw [asks_p, bd_of (asks_ok (a := (v21, c, [], [v21], [1], false)) hc)]
    exact ok_some rfl
  refine ok_bd (ok_lpN (Q := fun o => o = .nx ()) (fun _ _ => True) trivial (fun i x v hx _ => ?_) fun v _ => rfl) fun o ho => ?_
  · obtain ⟨hi, ex⟩ := List.getElem?_eq_some_iff.mp hx
    rw [List.length_range] at hi
    rw [List.getElem_range] at ex
    subst ex
    have hi : i < 6 := hi
    refine ok_bd (cell_ok (by omega)) fun v48 _ => ok_ltx fun cell el => ?_
    have z0 : 0 ≤ cell := by omega
    clear el
    refine ok_bd (bad_ok hp hi z0) fun bad ⟨lb, hb⟩ => ?_
    refine ok_bd (Q := fun d => M__law_refused (.str v21) (some cs) bad = some d ∧ M__law_refused (.str v21) none bad = some d) ?_ fun v50 ⟨r1, r2⟩ => ?_
    · have one : M_need_houses bad = some (.er .NoCover) → M__law_refused (.str v21) (some cs) bad = some 1 ∧ M__law_refused (.str v21) none bad = some 1 := fun h => ⟨ref_hs (cl := some cs) n1 n2 (show ((some cs).getD []).length ≤ 8 from lcs) h, ref_hs (cl := none) n1 n2 (Nat.zero_le _) h⟩
      have two : (∃ ys, M_need_houses bad = some (.ok ys)) → Rfd (.lst (bad.map (·.2))) → M__law_refused (.str v21) (some cs) bad = some 2 ∧ M__law_refused (.str v21) none bad = some 2 := fun ⟨ys, h⟩ g => ⟨ref_ws (cl := some cs) n1 n2 (show ((some cs).getD []).length ≤ 8 from lcs) h (by omega) g, ref_ws (cl := none) n1 n2 (Nat.zero_le _) h (by omega) g⟩
      rcases hb with ⟨hw, h⟩ | ⟨hw, h, g⟩
      · rcases hw with rfl | rfl | rfl
        · exact ok_some (one h)
        · exact ok_some (one h)
        · exact ok_some (one h)
      · rcases hw with rfl | rfl | rfl
        · exact ok_some (two h g)
        · exact ok_some (two h g)
        · exact ok_some (two h g)
    rw [bd_of r1]
    refine ok_bd (Q := fun b => b = false) (ok_f (by rw [beq_self_eq_true]; rfl) ?_) fun b hb => ok_f hb ?_
    · rw [bd_of r2]
      exact ok_some (by rw [beq_self_eq_true]; rfl)
    refine ok_bd (ok_atIm (by omega) (by show _ < (10 : Int); omega) odd2) fun d hd => ?_
    rw [bd_of (own_new (.inr rfl) ⟨by decide, by decide⟩)]
    have rl : (repG [((("loss" : Str), 1) : OWN)] (9 - (cs.length : Int))).length = 9 - cs.length := by
      unfold repG
      simp
    refine ok_gd ⟨⟨by omega, by omega⟩, by show 1 * _ ≤ 16777216; omega⟩ (ok_gd (by rw [rl]; show _ ≤ 16777216; omega) (ok_ltx fun nine en => ?_))
    have ln : 8 < nine.length := by rw [en, List.length_append, rl]; omega
    rw [bd_of (ref_name hd _ _)]
    refine ok_bd (Q := fun b => b = false) (ok_f rfl ?_) fun b hb => ok_f hb ?_
    · rw [bd_of (ref_name hd _ _)]
      exact ok_some rfl
    rw [bd_of (ref_many n1 n2 ln _)]
    refine ok_bd (Q := fun b => b = false) (ok_f rfl ?_) fun b hb => ok_f hb (ok_some ⟨_, .inl rfl, trivial⟩)
    rw [bd_of (ref_many n1 n2 ln _)]
    exact ok_some rfl
  · subst ho
    have g : M__law_refused_g v21 cs ps = some 0 := by
      unfold M__law_refused_g
      rw [show M_Over___init__ 5 = some 5 from rfl, bd_of rfl, bd_of (cover_good n1 n2 (.over 5) lcs hp false)]
    show Ok (bd (M__law_refused_g v21 cs ps) _) _
    rw [bd_of g]
    exact ok_some rfl
abbrev N_law : List Str := ["_law_script", "_law_head", "_law_names_here", "_law_name", "_law_cents", "_law_pairs", "_law_amounts", "_law_clauses", "_law_words", "_law_condition", "_law_waits", "_law_handed", "_law_cover", "_law_plain", "_law_k", "_law_cell_here", "_law_bad", "_law_due", "_law_odd", "_law_nine", "_law_one"]
theorem sc_law : FnScope N_law ["_law_script"] (defScope s_law) := ⟨rfl, rfl, rfl, by decide +kernel, rfl, by decide +kernel, by decide +kernel⟩
theorem ok_law {f : Addr} {fd : FuncData} (F : Fun K "law" "law" s_law f fd) (z_range : mg "range" = none) (z_list : mg "list" = none) (z_len : mg "len" = none) (o_Own : OC K C_Own ["by", "cents"]) (o_Cover : OC K C_Cover ["name", "condition", "clauses", "houses", "deal", "waits"]) (o_Condition : OC K C_Condition []) (o_CauseIs : OC K C_CauseIs ["name"]) (o_ThingIs : OC K C_ThingIs ["name"]) (o_Over : OC K C_Over ["cents"]) (o_CoverP : OC K C_CoverP ["name", "condition", "clauses", "houses", "deal", "waits"]) (c__law_cell : Fn1 P w K mg base "_law_cell" 1 ["_law_script", "_law_k"] (sp__law_cell K)) (c__law_names : Fn1 P w K mg base "_law_names" 1 ["_law_cell_here"] (sp__law_names K)) (c__law_houses : Fn1 P w K mg base "_law_houses" 2 ["_law_script", "_law_names_here"] (sp__law_houses K)) (i_Own : Mk1 P w K mg base "Own" C_Own 4 ["self", "by", "cents"] (spI_Own___init__ K C_Own)) (m_Own_words : Mt1 P w K mg base C_Own "words" 2 ["self"] (sp_Own_words K C_Own)) (i_CauseIs : Mk1 P w K mg base "CauseIs" C_CauseIs 1 ["self", "name"] (spI_CauseIs___init__ K C_CauseIs)) (i_ThingIs : Mk1 P w K mg base "ThingIs" C_ThingIs 1 ["self", "name"] (spI_ThingIs___init__ K C_ThingIs)) (i_Over : Mk1 P w K mg base "Over" C_Over 1 ["self", "cents"] (spI_Over___init__ K C_Over)) (i_Cover__5 : Mk1D P w K mg base "Cover" C_Cover 6 ["self", "name", "condition", "clauses", "houses", "waits"] [] (spI_Cover___init__ K C_Cover C_Condition C_CauseIs C_ThingIs C_Over C_Own C_Deal)) (i_CoverP__2 : Mk1D P w K mg base "Cover" C_CoverP 6 ["self", "name", "condition", "clauses", "houses", "waits"] [.non, .non, .bl false] (spI_CoverP___init__ K C_CoverP C_Condition C_CauseIs C_ThingIs C_Over C_Own C_Deal)) (c__law_kept : Fn1 P w K mg base "_law_kept" 6 ["_law_cover", "_law_name", "_law_clauses", "_law_pairs", "_law_waits"] (sp__law_kept K C_Cover C_Condition C_CauseIs C_ThingIs C_Over C_Own C_Deal)) (c__law_kept_p : Fn1 P w K mg base "_law_kept" 6 ["_law_cover", "_law_name", "_law_clauses", "_law_pairs", "_law_waits"] (sp__law_kept_p K C_CoverP C_Condition C_CauseIs C_ThingIs C_Over C_Own C_Deal)) (m_Condition_words : Mt1 P w K mg base C_Condition "words" 1 ["self"] (sp_Condition_words K C_Condition C_CauseIs C_ThingIs C_Over)) (m_CauseIs_words : Mt1 P w K mg base C_CauseIs "words" 1 ["self"] (sp_CauseIs_words K C_CauseIs)) (m_ThingIs_words : Mt1 P w K mg base C_ThingIs "words" 1 ["self"] (sp_ThingIs_words K C_ThingIs)) (m_Over_words : Mt1 P w K mg base C_Over "words" 2 ["self"] (sp_Over_words K C_Over)) (c__law_asks : Fn1 P w K mg base "_law_asks" 3 ["_law_cover", "_law_way", "_law_name", "_law_cents"] (sp__law_asks K C_Cover C_Condition C_CauseIs C_ThingIs C_Over C_Own C_Deal)) (c__law_asks_p : Fn1 P w K mg base "_law_asks" 3 ["_law_cover", "_law_way", "_law_name", "_law_cents"] (sp__law_asks_p K C_CoverP C_Condition C_CauseIs C_ThingIs C_Over C_Own C_Deal)) (c__law_bad_pairs : Fn1 P w K mg base "_law_bad_pairs" 1 ["_law_pairs", "_law_way", "_law_cell_here"] (sp__law_bad_pairs K)) (c__law_refused : Fn1 P w K mg base "_law_refused" 8 ["_law_name", "_law_clauses", "_law_pairs"] (sp__law_refused K C_Own)) (c__law_refused_g : Fn1 P w K mg base "_law_refused" 8 ["_law_name", "_law_clauses", "_law_pairs"] (sp__law_refused_g K C_Own)) : FnOk P w K mg base CX0 9 f fd ["_law_script"] (spLaw K) := by
  refine fn_m F sc_law (fun x => rfl) (fun x _ => rfl) fun cdv A outer s H E hr script hx => ?_
  have hx : M_law script = some true := law_true script hx
  have nd := sc_law.nd
  unfold M_law at hx
  show MS _ [some (.vw (script.map D.int)), none, none, none, none, none, none, none, none, none, none, none, none, none, none, none, none, none, none, none, none] _ _
  replace hx := bd_some hx
  obtain ⟨v1, hv1, hx⟩ := hx
  replace hx := lt_some hx
  obtain ⟨head, ehead, hx⟩ := hx
  refine ms_cons (m_set (ps_set (i := 1) nd rfl (Or.inr rfl) pe_w) (ME.is (o' := (.fz (.int head))) (me_mod (me_fn c__law_cell ((script, 0), v1) (ma_vw (ml_var (pv 0) rfl) (ma_fz me_int ma_nil)) hv1 (hr.mono (by decide))) (ME.is (o' := .fz (.int 1000000000)) (me_pow me_int me_int ⟨by decide, by decide, by decide⟩) rfl) (by decide)) (by rw [ehead] <;> rfl)) ?_)
  show MS _ [some (.vw (script.map D.int)), some (.fz (.int head)), none, none, none, none, none, none, none, none, none, none, none, none, none, none, none, none, none, none, none] _ _
  replace hx := bd_some hx
  obtain ⟨v2, hv2, hx⟩ := hx
  replace hx := bd_some hx
  obtain ⟨v3, hv3, hx⟩ := hx
  refine ms_cons (m_set (ps_set (i := 2) nd rfl (Or.inl rfl) pe_w) (me_fn c__law_names ((v2 % 1000003), v3) (ma_fz (me_mod (me_fn c__law_cell ((script, 1), v2) (ma_vw (ml_var (pv 0) rfl) (ma_fz me_int ma_nil)) hv2 (hr.mono (by decide))) me_int (by decide)) ma_nil) hv3 (hr.mono (by decide))) ?_)
  show MS _ [some (.vw (script.map D.int)), some (.fz (.int head)), some (.lst ((v3.map D.str).map .fz)), none, none, none, none, none, none, none, none, none, none, none, none, none, none, none, none, none, none] _ _
  replace hx := bd_some hx
  obtain ⟨v4, hv4, hx⟩ := hx
  refine ms_cons (m_set (ps_set (i := 3) nd rfl (Or.inl rfl) pe_w) (me_ixLT (xs := v3) (enc := D.str) hv4 (ml_var (pv 2) rfl) me_int) ?_)
  show MS _ [some (.vw (script.map D.int)), some (.fz (.int head)), some (.lst ((v3.map D.str).map .fz)), some (.fz (.str v4)), none, none, none, none, none, none, none, none, none, none, none, none, none, none, none, none, none] _ _
  replace hx := bd_some hx
  obtain ⟨v5, hv5, hx⟩ := hx
  replace hx := lt_some hx
  obtain ⟨cents, ecents, hx⟩ := hx
  refine ms_cons (m_set (ps_set (i := 4) nd rfl (Or.inr rfl) pe_w) (ME.is (o' := (.fz (.int cents))) (me_add me_int (me_mod (me_fn c__law_cell ((script, 2), v5) (ma_vw (ml_var (pv 0) rfl) (ma_fz me_int ma_nil)) hv5 (hr.mono (by decide))) (ME.is (o' := .fz (.int 100000000000)) (me_pow me_int me_int ⟨by decide, by decide, by decide⟩) rfl) (by decide))) (by rw [ecents] <;> rfl)) ?_)
  show MS _ [some (.vw (script.map D.int)), some (.fz (.int head)), some (.lst ((v3.map D.str).map .fz)), some (.fz (.str v4)), some (.fz (.int cents)), none, none, none, none, none, none, none, none, none, none, none, none, none, none, none, none] _ _
  replace hx := bd_some hx
  obtain ⟨v6, hv6, hx⟩ := hx
  refine ms_cons (m_set (ps_set (i := 5) nd rfl (Or.inl rfl) pe_w) (me_fn c__law_houses ((script, v3), v6) (ma_vw (ml_var (pv 0) rfl) (ma_vw (ml_var (pv 2) rfl) ma_nil)) hv6 (hr.mono (by decide))) ?_)
  show MS _ [some (.vw (script.map D.int)), some (.fz (.int head)), some (.lst ((v3.map D.str).map .fz)), some (.fz (.str v4)), some (.fz (.int cents)), some (.lst ((v6.map e_T_s_i).map .fz)), none, none, none, none, none, none, none, none, none, none, none, none, none, none, none] _ _
  replace hx := gd_some hx
  obtain ⟨g7, hx⟩ := hx
  replace hx := gd_some hx
  obtain ⟨g8, hx⟩ := hx
  replace hx := bd_some hx
  obtain ⟨v11, hv11, hx⟩ := hx
  refine ms_cons (m_setLcO (i := 6) (g := (gName 14)) (xs := (List.range (head % 9).toNat)) (ys := v11) (enc := (fun k : Nat => D.int (k : Nat))) (enc2 := D.int) hv11 (fun te he => ps_setLc (i := 6) (own := [("_law_k", 14)]) rfl nd rfl rfl (sw_true rfl rfl rfl (by decide +kernel)) (pi_range1 (by rfl) z_range pa_w) (blkOk_by (N := N_law) (sc := defScope s_law) (by decide +kernel)) (fun _ _ _ _ _ => (pg_name (i := 14) nd rfl (Or.inl rfl))) (fun _ _ _ _ _ => pts_nil) he) (MI.c (mi_rangeT (mf_cons (me_mod (me_var (pv 1) rfl) me_int (by decide)) mf_nil) g7)) g8 (fun x9 mx x9y hx => by replace hx := gd_some hx; obtain ⟨g10, hx⟩ := hx; injection hx with hx; subst x9y; exact ⟨_, _, mg_name, by decide, fun s H C cl fp => (me_mod (me_add (me_var (pv 4) rfl) (me_mul (me_var (pv 14) rfl) (me_var (pv 1) rfl) g10)) (ME.is (o' := .fz (.int 100000000000)) (me_pow me_int me_int ⟨by decide, by decide, by decide⟩) rfl) (by decide))⟩) ?_)
  show MS _ [some (.vw (script.map D.int)), some (.fz (.int head)), some (.lst ((v3.map D.str).map .fz)), some (.fz (.str v4)), some (.fz (.int cents)), some (.lst ((v6.map e_T_s_i).map .fz)), some (.lst ((v11.map D.int).map .fz)), none, none, none, none, none, none, none, none, none, none, none, none, none, none] _ _
  replace hx := gd_some hx
  obtain ⟨g12, hx⟩ := hx
  replace hx := bd_some hx
  obtain ⟨v15, hv15, hx⟩ := hx
  refine ms_cons (m_setLcO (i := 7) (g := (gName 20)) (xs := v11) (ys := v15) (enc := D.int) (enc2 := (r_Own C_Own)) hv15 (fun te he => ps_setLc (i := 7) (own := [("_law_one", 20)]) rfl nd rfl rfl (sw_true rfl rfl rfl (by decide +kernel)) (pi_list pe_w) (blkOk_by (N := N_law) (sc := defScope s_law) (by decide +kernel)) (fun _ _ _ _ _ => (pg_name (i := 20) nd rfl (Or.inl rfl))) (fun _ _ _ _ _ => pts_nil) he) (mic_list (ml_var (pv 6) rfl)) g12 (fun x13 mx x13y hx => by replace hx := bd_some hx; obtain ⟨v14, hv14, hx⟩ := hx; injection hx with hx; subst x13y; exact ⟨_, _, mg_name, by decide, fun s H C cl fp => (ME.is (o' := .fz ((r_Own C_Own) v14)) (ME.frz (me_make i_Own ((("year" : Str), x13), v14) (ma_fz me_str (ma_fz (me_var (pv 20) rfl) ma_nil)) hv14 (hr.mono (by decide))) rfl) rfl)⟩) ?_)
  show MS _ [some (.vw (script.map D.int)), some (.fz (.int head)), some (.lst ((v3.map D.str).map .fz)), some (.fz (.str v4)), some (.fz (.int cents)), some (.lst ((v6.map e_T_s_i).map .fz)), some (.lst ((v11.map D.int).map .fz)), some (.lst ((v15.map (r_Own C_Own)).map .fz)), none, none, none, none, none, none, none, none, none, none, none, none, none] _ _
  replace hx := gd_some hx
  obtain ⟨g16, hx⟩ := hx
  replace hx := bd_some hx
  obtain ⟨v19, hv19, hx⟩ := hx
  refine ms_cons (m_setLcO (i := 8) (g := (gName 20)) (xs := v15) (ys := v19) (enc := (r_Own C_Own)) (enc2 := e_L_s) hv19 (fun te he => ps_setLc (i := 8) (own := [("_law_one", 20)]) rfl nd rfl rfl (sw_true rfl rfl rfl (by decide +kernel)) (pi_list pe_w) (blkOk_by (N := N_law) (sc := defScope s_law) (by decide +kernel)) (fun _ _ _ _ _ => (pg_name (i := 20) nd rfl (Or.inl rfl))) (fun _ _ _ _ _ => pts_nil) he) (mic_list (ml_var (pv 7) rfl)) g16 (fun x17 mx x17y hx => by replace hx := bd_some hx; obtain ⟨v18, hv18, hx⟩ := hx; injection hx with hx; subst x17y; exact ⟨_, _, mg_name, by decide, fun s H C cl fp => (ME.frzl (me_mt0 m_Own_words o_Own (x17, v18) (mv_var (pv 20) rfl) rfl hv18 (hr.mono (by decide))))⟩) ?_)
  show MS _ [some (.vw (script.map D.int)), some (.fz (.int head)), some (.lst ((v3.map D.str).map .fz)), some (.fz (.str v4)), some (.fz (.int cents)), some (.lst ((v6.map e_T_s_i).map .fz)), some (.lst ((v11.map D.int).map .fz)), some (.lst ((v15.map (r_Own C_Own)).map .fz)), some (.lst ((v19.map e_L_s).map .fz)), none, none, none, none, none, none, none, none, none, none, none, none] _ _
  replace hx := bd_some hx
  obtain ⟨v20, hv20, hx⟩ := hx
  replace hx := bd_some hx
  obtain ⟨v21, hv21, hx⟩ := hx
  replace hx := bd_some hx
  obtain ⟨v22, hv22, hx⟩ := hx
  replace hx := bd_some hx
  obtain ⟨v23, hv23, hx⟩ := hx
  refine ms_cons (m_set (ps_set (i := 9) nd rfl (Or.inl rfl) pe_w) (me_ixLT (xs := [(Cd.cause v20), (Cd.thing v21), (Cd.over v22)]) (enc := (u_Cd C_Condition C_CauseIs C_ThingIs C_Over)) hv23 (ME.l (me_lst (ds := [(Cd.cause v20), (Cd.thing v21), (Cd.over v22)].map (u_Cd C_Condition C_CauseIs C_ThingIs C_Over)) (mf_cons (ME.as (ME.is (o' := .fz ((r_CauseIs C_CauseIs) v20)) (ME.frz (me_make i_CauseIs (v4, v20) (ma_fz (me_var (pv 3) rfl) ma_nil) hv20 (hr.mono (by decide))) rfl) rfl) (u_Cd_cause C_Condition C_CauseIs C_ThingIs C_Over _).symm) (mf_cons (ME.as (ME.is (o' := .fz ((r_ThingIs C_ThingIs) v21)) (ME.frz (me_make i_ThingIs (v4, v21) (ma_fz (me_var (pv 3) rfl) ma_nil) hv21 (hr.mono (by decide))) rfl) rfl) (u_Cd_thing C_Condition C_CauseIs C_ThingIs C_Over _).symm) (mf_cons (ME.as (ME.is (o' := .fz ((r_Over C_Over) v22)) (ME.frz (me_make i_Over (cents, v22) (ma_fz (me_var (pv 4) rfl) ma_nil) hv22 (hr.mono (by decide))) rfl) rfl) (u_Cd_over C_Condition C_CauseIs C_ThingIs C_Over _).symm) mf_nil))))) (me_mod (me_fdiv (me_var (pv 1) rfl) me_int ⟨by decide, by decide⟩) me_int (by decide))) ?_)
  show MS _ [some (.vw (script.map D.int)), some (.fz (.int head)), some (.lst ((v3.map D.str).map .fz)), some (.fz (.str v4)), some (.fz (.int cents)), some (.lst ((v6.map e_T_s_i).map .fz)), some (.lst ((v11.map D.int).map .fz)), some (.lst ((v15.map (r_Own C_Own)).map .fz)), some (.lst ((v19.map e_L_s).map .fz)), some (.fz ((u_Cd C_Condition C_CauseIs C_ThingIs C_Over) v23)), none, none, none, none, none, none, none, none, none, none, none] _ _
  replace hx := lt_some hx
  obtain ⟨waits, ewaits, hx⟩ := hx
  refine ms_cons (m_set (ps_set (i := 10) nd rfl (Or.inl rfl) pe_w) (ME.is (o' := (.fz (.bl waits))) (me_eqI (me_mod (me_fdiv (me_var (pv 1) rfl) me_int ⟨by decide, by decide⟩) me_int (by decide)) me_int) (by rw [ewaits] <;> rfl)) ?_)
  show MS _ [some (.vw (script.map D.int)), some (.fz (.int head)), some (.lst ((v3.map D.str).map .fz)), some (.fz (.str v4)), some (.fz (.int cents)), some (.lst ((v6.map e_T_s_i).map .fz)), some (.lst ((v11.map D.int).map .fz)), some (.lst ((v15.map (r_Own C_Own)).map .fz)), some (.lst ((v19.map e_L_s).map .fz)), some (.fz ((u_Cd C_Condition C_CauseIs C_ThingIs C_Over) v23)), some (.fz (.bl waits)), none, none, none, none, none, none, none, none, none, none] _ _
  replace hx := bd_some hx
  obtain ⟨v24, hv24, hx⟩ := hx
  replace hx := bd_some hx
  obtain ⟨v25, hv25, hx⟩ := hx
  refine m_kept (ic := 7) (ip := 5) (ih := 11) (i2 := 12) (i3 := 13) (cs := v15.map (r_Own C_Own)) (ps := v6.map e_T_s_i) (ps_set (i := 11) nd rfl (Or.inl rfl) pe_w) (ps_set (i := 12) nd rfl (Or.inl rfl) pe_w) (ps_set (i := 13) nd rfl (Or.inl rfl) pe_w) hr.units rfl z_list (pv 7) (pv 5) (pv 7) (pv 5) (pv 11) rfl rfl (fun d m => by obtain ⟨x, _, rfl⟩ := List.mem_map.mp m; intro Z v r; cases r; exact ⟨_, rfl⟩) (fun d m => by obtain ⟨x, _, rfl⟩ := List.mem_map.mp m; intro Z v r; cases r; exact ⟨_, rfl⟩) ⟨by exact Nat.le_of_ble_eq_true rfl, by exact Nat.le_of_ble_eq_true rfl, by exact Nat.le_of_ble_eq_true rfl⟩ (by decide) (ME.is (o' := .fz ((r_Cover C_Cover C_Condition C_CauseIs C_ThingIs C_Over C_Own C_Deal) v24)) (ME.frz (me_makeD i_Cover__5 .nil ((v4, v23, v15, v6, waits), v24) (ma_fz (me_var (pv 3) rfl) (ma_fz (me_var (pv 9) rfl) (ma_vw (MV.l (mv_ixL (mv_var (pv 11) rfl) me_int rfl) (.own _)) (ma_vw (MV.l (mv_ixL (mv_var (pv 11) rfl) me_int rfl) (.own _)) (ma_fz (me_var (pv 10) rfl) ma_nil))))) rfl hv24 (hr.mono (by decide))) (by simp only [O.nv, O.nvL, O.nvL_fz, Bool.and_self])) (by simp only [O.frz, O.frzL, O.frzL_fz])) (ME.is (o' := .fz ((r_CoverP C_CoverP C_Condition C_CauseIs C_ThingIs C_Over C_Own C_Deal) v25)) (ME.frz (me_makeD i_CoverP__2 (.cons .non (.cons .non (.cons (.bl _) .nil))) ((v4, v23, (), (), false), v25) (ma_fz (me_var (pv 3) rfl) (ma_fz (me_var (pv 9) rfl) ma_nil)) rfl hv25 (hr.mono (by decide))) (by simp only [O.nv, O.nvL, O.nvL_fz, Bool.and_self])) (by simp only [O.frz, O.frzL, O.frzL_fz])) ?_
  replace hx := bd_some hx
  obtain ⟨v26, hv26, hx⟩ := hx
  replace hx := gd_some hx
  obtain ⟨g27, hx⟩ := hx
  refine ms_cons (m_appendPT (xs := v15) (enc := (r_Own C_Own)) (y := v26) (MQ.toP (mq_ix (j := 0) (mq_var (pv 11) rfl) me_int rfl rfl)) (ME.is (o' := .fz ((r_Own C_Own) v26)) (ME.frz (me_make i_Own ((("loss" : Str), 1), v26) (ma_fz me_str (ma_fz me_int ma_nil)) hv26 (hr.mono (by decide))) rfl) rfl) g27 ?_)
  replace hx := gd_some hx
  obtain ⟨g28, hx⟩ := hx
  refine ms_cons (m_appendPT (xs := v6) (enc := e_T_s_i) (y := (("zz" : Str), 1)) (MQ.toP (mq_ix (j := 1) (mq_var (pv 11) rfl) me_int rfl rfl)) (me_tup (mf_cons me_str (mf_cons me_int mf_nil))) g28 ?_)
  show MS _ [_, _, _, _, _, _, _, _, _, _, _, _, _, _, _, _, _, _, _, _, _] _ _
  refine ms_le (show Le _ [some (.vw (script.map D.int)), some (.fz (.int head)), some (.lst ((v3.map D.str).map .fz)), some (.fz (.str v4)), some (.fz (.int cents)), some (.lst ((v6.map e_T_s_i).map .fz)), some (.lst ((v11.map D.int).map .fz)), some (.lst ((v15.map (r_Own C_Own)).map .fz)), some (.lst ((v19.map e_L_s).map .fz)), some (.fz ((u_Cd C_Condition C_CauseIs C_ThingIs C_Over) v23)), some (.fz (.bl waits)), none, some (.fz ((r_Cover C_Cover C_Condition C_CauseIs C_ThingIs C_Over C_Own C_Deal) v24)), some (.fz ((r_CoverP C_CoverP C_Condition C_CauseIs C_ThingIs C_Over C_Own C_Deal) v25)), none, none, none, none, none, none, none] from le_auto) ?_
  show MS _ [some (.vw (script.map D.int)), some (.fz (.int head)), some (.lst ((v3.map D.str).map .fz)), some (.fz (.str v4)), some (.fz (.int cents)), some (.lst ((v6.map e_T_s_i).map .fz)), some (.lst ((v11.map D.int).map .fz)), some (.lst ((v15.map (r_Own C_Own)).map .fz)), some (.lst ((v19.map e_L_s).map .fz)), some (.fz ((u_Cd C_Condition C_CauseIs C_ThingIs C_Over) v23)), some (.fz (.bl waits)), none, some (.fz ((r_Cover C_Cover C_Condition C_CauseIs C_ThingIs C_Over C_Own C_Deal) v24)), some (.fz ((r_CoverP C_CoverP C_Condition C_CauseIs C_ThingIs C_Over C_Own C_Deal) v25)), none, none, none, none, none, none, none] _ _
  replace hx := bd_some hx
  obtain ⟨v29, hv29, hx⟩ := hx
  replace hx := bd_some hx
  obtain ⟨v31, hv31, hx⟩ := hx
  refine ms_cons (m_if (t := v31) (MW.t (MW.is (mw_or (mt_not (mt_val (me_fn c__law_kept ((v24, v4, v19, v6, waits), v29) (ma_fz (me_var (pv 12) rfl) (ma_fz (me_var (pv 3) rfl) (ma_vw (ml_var (pv 8) rfl) (ma_vw (ml_var (pv 5) rfl) (ma_fz (me_var (pv 10) rfl) ma_nil))))) hv29 (hr.mono (by decide))))) fun q32 => (by have hx := cond_f hv31 q32; replace hx := bd_some hx; obtain ⟨v30, hv30, hx⟩ := hx; cases hx; exact (mw_or1 (mt_not (mt_val (me_fn c__law_kept_p ((v25, v4, ([] : List (List Str)), [(v4, 1)], false), v30) (ma_fz (me_var (pv 13) rfl) (ma_fz (me_var (pv 3) rfl) (ma_vw (ME.l (me_lst (ds := [].map e_L_s) mf_nil)) (ma_vw (ME.l (me_lst (ds := [(v4, 1)].map e_T_s_i) (mf_cons (me_tup (mf_cons (me_var (pv 3) rfl) (mf_cons me_int mf_nil))) mf_nil))) (ma_fz me_bl ma_nil))))) hv30 (hr.mono (by decide)))))))) (or_c hv31))) (fun h => ?_) fun h => ms_nil ?_)
  · replace hx := cond_t hx h
    refine ms_one (m_ret (ps_ret pe_w) (ME.r me_bl) ?_)
    first | (cases hx; done) | (cases hx; rfl) | (injection hx with hx; show O.fz (.bl _) = O.fz (.bl true); rw [hx])
  replace hx := cond_f hx h
  replace hx := bd_some hx
  obtain ⟨v33, hv33, hx⟩ := hx
  replace hx := bd_some hx
  obtain ⟨v34, hv34, hx⟩ := hx
  replace hx := gd_some hx
  obtain ⟨g35, hx⟩ := hx
  replace hx := bd_some hx
  obtain ⟨v39, hv39, hx⟩ := hx
  refine ms_cons (m_if (t := v39) (MW.t (MW.is (mw_or (mt_neDT (d1 := .lst (v33.map D.str)) (d2 := .lst (v34.map D.str)) hr.units g35 frz_own frz_own (ME.v (show ME _ _ _ (.lst ((v33.map D.str).map .fz)) from by obtain ⟨cc, hv⟩ : ∃ cc, v24.2.1 = cc := ⟨_, rfl⟩; cases cc with | plain p => exact me_mt0 m_Condition_words o_Condition ((.plain p), v33) (MV.as (ME.v (me_fld (j := 1) (mv_var (pv 12) rfl) o_Cover)) (congrArg (u_Cd C_Condition C_CauseIs C_ThingIs C_Over) hv)) rfl ((congrArg (fun q => U_Cd_words q ) hv).symm.trans hv33) (hr.mono (by decide)) | cause p => exact me_mt0 m_CauseIs_words o_CauseIs (p, v33) (MV.as (ME.v (me_fld (j := 1) (mv_var (pv 12) rfl) o_Cover)) ((congrArg (u_Cd C_Condition C_CauseIs C_ThingIs C_Over) hv).trans (u_Cd_cause C_Condition C_CauseIs C_ThingIs C_Over _))) rfl ((congrArg (fun q => U_Cd_words q ) hv).symm.trans hv33) (hr.mono (by decide)) | thing p => exact me_mt0 m_ThingIs_words o_ThingIs (p, v33) (MV.as (ME.v (me_fld (j := 1) (mv_var (pv 12) rfl) o_Cover)) ((congrArg (u_Cd C_Condition C_CauseIs C_ThingIs C_Over) hv).trans (u_Cd_thing C_Condition C_CauseIs C_ThingIs C_Over _))) rfl ((congrArg (fun q => U_Cd_words q ) hv).symm.trans hv33) (hr.mono (by decide)) | over p => exact me_mt0 m_Over_words o_Over (p, v33) (MV.as (ME.v (me_fld (j := 1) (mv_var (pv 12) rfl) o_Cover)) ((congrArg (u_Cd C_Condition C_CauseIs C_ThingIs C_Over) hv).trans (u_Cd_over C_Condition C_CauseIs C_ThingIs C_Over _))) rfl ((congrArg (fun q => U_Cd_words q ) hv).symm.trans hv33) (hr.mono (by decide)))) (ME.v (show ME _ _ _ (.lst ((v34.map D.str).map .fz)) from by obtain ⟨cc, hv⟩ : ∃ cc, v23 = cc := ⟨_, rfl⟩; cases cc with | plain p => exact me_mt0 m_Condition_words o_Condition ((.plain p), v34) (MV.as (mv_var (pv 9) rfl) (congrArg (u_Cd C_Condition C_CauseIs C_ThingIs C_Over) hv)) rfl ((congrArg (fun q => U_Cd_words q ) hv).symm.trans hv34) (hr.mono (by decide)) | cause p => exact me_mt0 m_CauseIs_words o_CauseIs (p, v34) (MV.as (mv_var (pv 9) rfl) ((congrArg (u_Cd C_Condition C_CauseIs C_ThingIs C_Over) hv).trans (u_Cd_cause C_Condition C_CauseIs C_ThingIs C_Over _))) rfl ((congrArg (fun q => U_Cd_words q ) hv).symm.trans hv34) (hr.mono (by decide)) | thing p => exact me_mt0 m_ThingIs_words o_ThingIs (p, v34) (MV.as (mv_var (pv 9) rfl) ((congrArg (u_Cd C_Condition C_CauseIs C_ThingIs C_Over) hv).trans (u_Cd_thing C_Condition C_CauseIs C_ThingIs C_Over _))) rfl ((congrArg (fun q => U_Cd_words q ) hv).symm.trans hv34) (hr.mono (by decide)) | over p => exact me_mt0 m_Over_words o_Over (p, v34) (MV.as (mv_var (pv 9) rfl) ((congrArg (u_Cd C_Condition C_CauseIs C_ThingIs C_Over) hv).trans (u_Cd_over C_Condition C_CauseIs C_ThingIs C_Over _))) rfl ((congrArg (fun q => U_Cd_words q ) hv).symm.trans hv34) (hr.mono (by decide))))) fun q40 => (by have hx := cond_f hv39 q40; replace hx := bd_some hx; obtain ⟨v36, hv36, hx⟩ := hx; replace hx := bd_some hx; obtain ⟨v37, hv37, hx⟩ := hx; replace hx := gd_some hx; obtain ⟨g38, hx⟩ := hx; cases hx; exact (mw_or1 (mt_neDT (d1 := .lst (v36.map D.str)) (d2 := .lst (v37.map D.str)) hr.units g38 frz_own frz_own (ME.v (show ME _ _ _ (.lst ((v36.map D.str).map .fz)) from by obtain ⟨cc, hv⟩ : ∃ cc, v25.2.1 = cc := ⟨_, rfl⟩; cases cc with | plain p => exact me_mt0 m_Condition_words o_Condition ((.plain p), v36) (MV.as (ME.v (me_fld (j := 1) (mv_var (pv 13) rfl) o_CoverP)) (congrArg (u_Cd C_Condition C_CauseIs C_ThingIs C_Over) hv)) rfl ((congrArg (fun q => U_Cd_words q ) hv).symm.trans hv36) (hr.mono (by decide)) | cause p => exact me_mt0 m_CauseIs_words o_CauseIs (p, v36) (MV.as (ME.v (me_fld (j := 1) (mv_var (pv 13) rfl) o_CoverP)) ((congrArg (u_Cd C_Condition C_CauseIs C_ThingIs C_Over) hv).trans (u_Cd_cause C_Condition C_CauseIs C_ThingIs C_Over _))) rfl ((congrArg (fun q => U_Cd_words q ) hv).symm.trans hv36) (hr.mono (by decide)) | thing p => exact me_mt0 m_ThingIs_words o_ThingIs (p, v36) (MV.as (ME.v (me_fld (j := 1) (mv_var (pv 13) rfl) o_CoverP)) ((congrArg (u_Cd C_Condition C_CauseIs C_ThingIs C_Over) hv).trans (u_Cd_thing C_Condition C_CauseIs C_ThingIs C_Over _))) rfl ((congrArg (fun q => U_Cd_words q ) hv).symm.trans hv36) (hr.mono (by decide)) | over p => exact me_mt0 m_Over_words o_Over (p, v36) (MV.as (ME.v (me_fld (j := 1) (mv_var (pv 13) rfl) o_CoverP)) ((congrArg (u_Cd C_Condition C_CauseIs C_ThingIs C_Over) hv).trans (u_Cd_over C_Condition C_CauseIs C_ThingIs C_Over _))) rfl ((congrArg (fun q => U_Cd_words q ) hv).symm.trans hv36) (hr.mono (by decide)))) (ME.v (show ME _ _ _ (.lst ((v37.map D.str).map .fz)) from by obtain ⟨cc, hv⟩ : ∃ cc, v23 = cc := ⟨_, rfl⟩; cases cc with | plain p => exact me_mt0 m_Condition_words o_Condition ((.plain p), v37) (MV.as (mv_var (pv 9) rfl) (congrArg (u_Cd C_Condition C_CauseIs C_ThingIs C_Over) hv)) rfl ((congrArg (fun q => U_Cd_words q ) hv).symm.trans hv37) (hr.mono (by decide)) | cause p => exact me_mt0 m_CauseIs_words o_CauseIs (p, v37) (MV.as (mv_var (pv 9) rfl) ((congrArg (u_Cd C_Condition C_CauseIs C_ThingIs C_Over) hv).trans (u_Cd_cause C_Condition C_CauseIs C_ThingIs C_Over _))) rfl ((congrArg (fun q => U_Cd_words q ) hv).symm.trans hv37) (hr.mono (by decide)) | thing p => exact me_mt0 m_ThingIs_words o_ThingIs (p, v37) (MV.as (mv_var (pv 9) rfl) ((congrArg (u_Cd C_Condition C_CauseIs C_ThingIs C_Over) hv).trans (u_Cd_thing C_Condition C_CauseIs C_ThingIs C_Over _))) rfl ((congrArg (fun q => U_Cd_words q ) hv).symm.trans hv37) (hr.mono (by decide)) | over p => exact me_mt0 m_Over_words o_Over (p, v37) (MV.as (mv_var (pv 9) rfl) ((congrArg (u_Cd C_Condition C_CauseIs C_ThingIs C_Over) hv).trans (u_Cd_over C_Condition C_CauseIs C_ThingIs C_Over _))) rfl ((congrArg (fun q => U_Cd_words q ) hv).symm.trans hv37) (hr.mono (by decide)))))))) (or_c hv39))) (fun h => ?_) fun h => ms_nil ?_)
  · replace hx := cond_t hx h
    refine ms_one (m_ret (ps_ret pe_w) (ME.r me_bl) ?_)
    first | (cases hx; done) | (cases hx; rfl) | (injection hx with hx; show O.fz (.bl _) = O.fz (.bl true); rw [hx])
  replace hx := cond_f hx h
  replace hx := bd_some hx
  obtain ⟨v41, hv41, hx⟩ := hx
  replace hx := bd_some hx
  obtain ⟨v43, hv43, hx⟩ := hx
  refine ms_cons (m_if (t := v43) (MW.t (MW.is (mw_or (mt_not (mt_val (me_fn c__law_asks ((v24, ((head / 9) % 3), v4, cents), v41) (ma_fz (me_var (pv 12) rfl) (ma_fz (me_mod (me_fdiv (me_var (pv 1) rfl) me_int ⟨by decide, by decide⟩) me_int (by decide)) (ma_fz (me_var (pv 3) rfl) (ma_fz (me_var (pv 4) rfl) ma_nil)))) hv41 (hr.mono (by decide))))) fun q44 => (by have hx := cond_f hv43 q44; replace hx := bd_some hx; obtain ⟨v42, hv42, hx⟩ := hx; cases hx; exact (mw_or1 (mt_not (mt_val (me_fn c__law_asks_p ((v25, ((head / 9) % 3), v4, cents), v42) (ma_fz (me_var (pv 13) rfl) (ma_fz (me_mod (me_fdiv (me_var (pv 1) rfl) me_int ⟨by decide, by decide⟩) me_int (by decide)) (ma_fz (me_var (pv 3) rfl) (ma_fz (me_var (pv 4) rfl) ma_nil)))) hv42 (hr.mono (by decide)))))))) (or_c hv43))) (fun h => ?_) fun h => ms_nil ?_)
  · replace hx := cond_t hx h
    refine ms_one (m_ret (ps_ret pe_w) (ME.r me_bl) ?_)
    first | (cases hx; done) | (cases hx; rfl) | (injection hx with hx; show O.fz (.bl _) = O.fz (.bl true); rw [hx])
  replace hx := cond_f hx h
  refine ms_frzl (i := 7) rfl ?_
  show MS _ [some (.vw (script.map D.int)), some (.fz (.int head)), some (.lst ((v3.map D.str).map .fz)), some (.fz (.str v4)), some (.fz (.int cents)), some (.lst ((v6.map e_T_s_i).map .fz)), some (.lst ((v11.map D.int).map .fz)), some (.fz (.lst (v15.map (r_Own C_Own)))), some (.lst ((v19.map e_L_s).map .fz)), some (.fz ((u_Cd C_Condition C_CauseIs C_ThingIs C_Over) v23)), some (.fz (.bl waits)), none, some (.fz ((r_Cover C_Cover C_Condition C_CauseIs C_ThingIs C_Over C_Own C_Deal) v24)), some (.fz ((r_CoverP C_CoverP C_Condition C_CauseIs C_ThingIs C_Over C_Own C_Deal) v25)), none, none, none, none, none, none, none] _ _
  replace hx := bd_some hx
  obtain ⟨o47, ho47, hx⟩ := hx
  refine ms_cons (m_forO (xs := (List.range (6 : Int).toNat)) (enc := (fun k : Nat => D.int (k : Nat))) (ps_for PassesOwn.never rfl (pi_range1 (by rfl) z_range pa_w) (pg_name (i := 14) nd rfl (Or.inl rfl)) pss_w) (by exact (mi_rangeT (mf_cons me_int mf_nil) ⟨by decide, by decide⟩)) ho47 (fun p45 => [some (.vw (script.map D.int)), some (.fz (.int head)), some (.lst ((v3.map D.str).map .fz)), some (.fz (.str v4)), some (.fz (.int cents)), some (.lst ((v6.map e_T_s_i).map .fz)), some (.lst ((v11.map D.int).map .fz)), some (.fz (.lst (v15.map (r_Own C_Own)))), some (.lst ((v19.map e_L_s).map .fz)), some (.fz ((u_Cd C_Condition C_CauseIs C_ThingIs C_Over) v23)), some (.fz (.bl waits)), none, some (.fz ((r_Cover C_Cover C_Condition C_CauseIs C_ThingIs C_Over C_Own C_Deal) v24)), some (.fz ((r_CoverP C_CoverP C_Condition C_CauseIs C_ThingIs C_Over C_Own C_Deal) v25)), none, none, none, none, none, none, none]) (fun r => .fz (.bl r)) le_auto (fun x46 p45 p45o mx hx => ?_) (fun p45 τ e le => ?_) fun q e => ?_)
  ·
    refine ⟨_, _, mg_name, ?_⟩
    show MS _ [some (.vw (script.map D.int)), some (.fz (.int head)), some (.lst ((v3.map D.str).map .fz)), some (.fz (.str v4)), some (.fz (.int cents)), some (.lst ((v6.map e_T_s_i).map .fz)), some (.lst ((v11.map D.int).map .fz)), some (.fz (.lst (v15.map (r_Own C_Own)))), some (.lst ((v19.map e_L_s).map .fz)), some (.fz ((u_Cd C_Condition C_CauseIs C_ThingIs C_Over) v23)), some (.fz (.bl waits)), none, some (.fz ((r_Cover C_Cover C_Condition C_CauseIs C_ThingIs C_Over C_Own C_Deal) v24)), some (.fz ((r_CoverP C_CoverP C_Condition C_CauseIs C_ThingIs C_Over C_Own C_Deal) v25)), some (.fz (.int (x46 : Int))), none, none, none, none, none, none] _ _
    replace hx := bd_some hx
    obtain ⟨v48, hv48, hx⟩ := hx
    replace hx := lt_some hx
    obtain ⟨cell_here, ecell_here, hx⟩ := hx
    refine ms_cons (m_set (ps_set (i := 15) nd rfl (Or.inl rfl) pe_w) (ME.is (o' := (.fz (.int cell_here))) (me_mod (me_fn c__law_cell ((script, (13 + (x46 : Int))), v48) (ma_vw (ml_var (pv 0) rfl) (ma_fz (me_add me_int (me_var (pv 14) rfl)) ma_nil)) hv48 (hr.mono (by decide))) (ME.is (o' := .fz (.int 1000000000000)) (me_pow me_int me_int ⟨by decide, by decide, by decide⟩) rfl) (by decide)) (by rw [ecell_here] <;> rfl)) ?_)
    show MS _ [some (.vw (script.map D.int)), some (.fz (.int head)), some (.lst ((v3.map D.str).map .fz)), some (.fz (.str v4)), some (.fz (.int cents)), some (.lst ((v6.map e_T_s_i).map .fz)), some (.lst ((v11.map D.int).map .fz)), some (.fz (.lst (v15.map (r_Own C_Own)))), some (.lst ((v19.map e_L_s).map .fz)), some (.fz ((u_Cd C_Condition C_CauseIs C_ThingIs C_Over) v23)), some (.fz (.bl waits)), none, some (.fz ((r_Cover C_Cover C_Condition C_CauseIs C_ThingIs C_Over C_Own C_Deal) v24)), some (.fz ((r_CoverP C_CoverP C_Condition C_CauseIs C_ThingIs C_Over C_Own C_Deal) v25)), some (.fz (.int (x46 : Int))), some (.fz (.int cell_here)), none, none, none, none, none] _ _
    replace hx := bd_some hx
    obtain ⟨v49, hv49, hx⟩ := hx
    refine ms_cons (m_set (ps_set (i := 16) nd rfl (Or.inl rfl) pe_w) (me_fn c__law_bad_pairs (((v6.map (fun p => (D.str p.1, D.int p.2))), (x46 : Int), cell_here), v49) (ma_vw (ML.pr (xs := v6) (enc := e_T_s_i) (enc2 := e_T_d_d) (f := (fun p => (D.str p.1, D.int p.2))) (ml_var (pv 5) rfl) (fun _ => rfl)) (ma_fz (me_var (pv 14) rfl) (ma_fz (me_var (pv 15) rfl) ma_nil))) hv49 (hr.mono (by decide))) ?_)
    show MS _ [some (.vw (script.map D.int)), some (.fz (.int head)), some (.lst ((v3.map D.str).map .fz)), some (.fz (.str v4)), some (.fz (.int cents)), some (.lst ((v6.map e_T_s_i).map .fz)), some (.lst ((v11.map D.int).map .fz)), some (.fz (.lst (v15.map (r_Own C_Own)))), some (.lst ((v19.map e_L_s).map .fz)), some (.fz ((u_Cd C_Condition C_CauseIs C_ThingIs C_Over) v23)), some (.fz (.bl waits)), none, some (.fz ((r_Cover C_Cover C_Condition C_CauseIs C_ThingIs C_Over C_Own C_Deal) v24)), some (.fz ((r_CoverP C_CoverP C_Condition C_CauseIs C_ThingIs C_Over C_Own C_Deal) v25)), some (.fz (.int (x46 : Int))), some (.fz (.int cell_here)), some (.lst ((v49.map e_T_d_d).map .fz)), none, none, none, none] _ _
    replace hx := bd_some hx
    obtain ⟨v50, hv50, hx⟩ := hx
    refine ms_cons (m_set (ps_set (i := 17) nd rfl (Or.inl rfl) pe_w) (me_ixLT (xs := [1, 1, 2, 2, 2, 1]) (enc := D.int) hv50 (ME.l (me_lst (ds := [1, 1, 2, 2, 2, 1].map D.int) (mf_cons me_int (mf_cons me_int (mf_cons me_int (mf_cons me_int (mf_cons me_int (mf_cons me_int mf_nil)))))))) (me_var (pv 14) rfl)) ?_)
    show MS _ [some (.vw (script.map D.int)), some (.fz (.int head)), some (.lst ((v3.map D.str).map .fz)), some (.fz (.str v4)), some (.fz (.int cents)), some (.lst ((v6.map e_T_s_i).map .fz)), some (.lst ((v11.map D.int).map .fz)), some (.fz (.lst (v15.map (r_Own C_Own)))), some (.lst ((v19.map e_L_s).map .fz)), some (.fz ((u_Cd C_Condition C_CauseIs C_ThingIs C_Over) v23)), some (.fz (.bl waits)), none, some (.fz ((r_Cover C_Cover C_Condition C_CauseIs C_ThingIs C_Over C_Own C_Deal) v24)), some (.fz ((r_CoverP C_CoverP C_Condition C_CauseIs C_ThingIs C_Over C_Own C_Deal) v25)), some (.fz (.int (x46 : Int))), some (.fz (.int cell_here)), some (.lst ((v49.map e_T_d_d).map .fz)), some (.fz (.int v50)), none, none, none] _ _
    replace hx := bd_some hx
    obtain ⟨v51, hv51, hx⟩ := hx
    replace hx := bd_some hx
    obtain ⟨v53, hv53, hx⟩ := hx
    refine ms_cons (m_if (t := v53) (MW.t (MW.is (mw_or (mt_neI (me_fn c__law_refused (((.str v4), (some v15), v49), v51) (ma_fz (me_var (pv 3) rfl) (ma_fz (me_var (pv 7) rfl) (ma_vw (ml_var (pv 16) rfl) ma_nil))) hv51 (hr.mono (by decide))) (me_var (pv 17) rfl)) fun q54 => (by have hx := cond_f hv53 q54; replace hx := bd_some hx; obtain ⟨v52, hv52, hx⟩ := hx; cases hx; exact (mw_or1 (mt_neI (me_fn c__law_refused (((.str v4), none, v49), v52) (ma_fz (me_var (pv 3) rfl) (ma_fz me_non (ma_vw (ml_var (pv 16) rfl) ma_nil))) hv52 (hr.mono (by decide))) (me_var (pv 17) rfl))))) (or_c hv53))) (fun h => ?_) fun h => ms_nil ?_)
    · replace hx := cond_t hx h
      refine ms_one (m_ret (ps_ret pe_w) (ME.r me_bl) ?_)
      cases hx; exact ⟨_, rfl, rfl⟩
    replace hx := cond_f hx h
    replace hx := bd_some hx
    obtain ⟨v55, hv55, hx⟩ := hx
    refine ms_cons (m_set (ps_set (i := 18) nd rfl (Or.inl rfl) pe_w) (me_ixLT (xs := [(.str ("" : Str) : D), (.str ("self" : Str)), (.str ("Acme" : Str)), (.str ("a b" : Str)), (.str ("abcdefghi" : Str)), (.int (5 : Int)), (.non), (.bl true), (.str ("a.b" : Str)), (.lst ([("a" : Str)].map D.str))]) (enc := e_d) hv55 (ME.l (me_lst (ds := [(.str ("" : Str) : D), (.str ("self" : Str)), (.str ("Acme" : Str)), (.str ("a b" : Str)), (.str ("abcdefghi" : Str)), (.int (5 : Int)), (.non), (.bl true), (.str ("a.b" : Str)), (.lst ([("a" : Str)].map D.str))].map e_d) (mf_cons me_str (mf_cons me_str (mf_cons me_str (mf_cons me_str (mf_cons me_str (mf_cons me_int (mf_cons me_non (mf_cons me_bl (mf_cons me_str (mf_cons (ME.frzl (me_lst (ds := [("a" : Str)].map D.str) (mf_cons me_str mf_nil))) mf_nil)))))))))))) (me_mod (me_var (pv 15) rfl) me_int (by decide))) ?_)
    show MS _ [some (.vw (script.map D.int)), some (.fz (.int head)), some (.lst ((v3.map D.str).map .fz)), some (.fz (.str v4)), some (.fz (.int cents)), some (.lst ((v6.map e_T_s_i).map .fz)), some (.lst ((v11.map D.int).map .fz)), some (.fz (.lst (v15.map (r_Own C_Own)))), some (.lst ((v19.map e_L_s).map .fz)), some (.fz ((u_Cd C_Condition C_CauseIs C_ThingIs C_Over) v23)), some (.fz (.bl waits)), none, some (.fz ((r_Cover C_Cover C_Condition C_CauseIs C_ThingIs C_Over C_Own C_Deal) v24)), some (.fz ((r_CoverP C_CoverP C_Condition C_CauseIs C_ThingIs C_Over C_Own C_Deal) v25)), some (.fz (.int (x46 : Int))), some (.fz (.int cell_here)), some (.lst ((v49.map e_T_d_d).map .fz)), some (.fz (.int v50)), some (.fz v55), none, none] _ _
    replace hx := bd_some hx
    obtain ⟨v56, hv56, hx⟩ := hx
    replace hx := gd_some hx
    obtain ⟨g57, hx⟩ := hx
    replace hx := gd_some hx
    obtain ⟨g58, hx⟩ := hx
    replace hx := lt_some hx
    obtain ⟨nine, enine, hx⟩ := hx
    refine ms_cons (m_set (ps_set (i := 19) nd rfl (Or.inl rfl) pe_w) (ME.is (o' := (.lst ((nine.map (r_Own C_Own)).map .fz))) (me_catMM (xs := v15) (ys := (repG [v56] (9 - (v15.length : Int)))) (enc := (r_Own C_Own)) g58 (ml_var (pv 7) rfl) (ME.l (me_repT (xs := [v56]) (enc := (r_Own C_Own)) g57 (ME.v (me_lst (ds := [v56].map (r_Own C_Own)) (mf_cons (ME.is (o' := .fz ((r_Own C_Own) v56)) (ME.frz (me_make i_Own ((("loss" : Str), 1), v56) (ma_fz me_str (ma_fz me_int ma_nil)) hv56 (hr.mono (by decide))) rfl) rfl) mf_nil))) (me_sub me_int (me_lenLT (xs := v15) (enc := (r_Own C_Own)) (by rfl) z_len (ml_var (pv 7) rfl)))))) (by rw [enine] <;> rfl)) ?_)
    show MS _ [some (.vw (script.map D.int)), some (.fz (.int head)), some (.lst ((v3.map D.str).map .fz)), some (.fz (.str v4)), some (.fz (.int cents)), some (.lst ((v6.map e_T_s_i).map .fz)), some (.lst ((v11.map D.int).map .fz)), some (.fz (.lst (v15.map (r_Own C_Own)))), some (.lst ((v19.map e_L_s).map .fz)), some (.fz ((u_Cd C_Condition C_CauseIs C_ThingIs C_Over) v23)), some (.fz (.bl waits)), none, some (.fz ((r_Cover C_Cover C_Condition C_CauseIs C_ThingIs C_Over C_Own C_Deal) v24)), some (.fz ((r_CoverP C_CoverP C_Condition C_CauseIs C_ThingIs C_Over C_Own C_Deal) v25)), some (.fz (.int (x46 : Int))), some (.fz (.int cell_here)), some (.lst ((v49.map e_T_d_d).map .fz)), some (.fz (.int v50)), some (.fz v55), some (.lst ((nine.map (r_Own C_Own)).map .fz)), none] _ _
    replace hx := bd_some hx
    obtain ⟨v59, hv59, hx⟩ := hx
    replace hx := bd_some hx
    obtain ⟨v61, hv61, hx⟩ := hx
    refine ms_cons (m_if (t := v61) (MW.t (MW.is (mw_or (mt_neI (me_fn c__law_refused ((v55, (some v15), (v6.map (fun p => (D.str p.1, D.int p.2)))), v59) (ma_fz (me_var (pv 18) rfl) (ma_fz (me_var (pv 7) rfl) (ma_vw (ML.pr (xs := v6) (enc := e_T_s_i) (enc2 := e_T_d_d) (f := (fun p => (D.str p.1, D.int p.2))) (ml_var (pv 5) rfl) (fun _ => rfl)) ma_nil))) hv59 (hr.mono (by decide))) me_int) fun q62 => (by have hx := cond_f hv61 q62; replace hx := bd_some hx; obtain ⟨v60, hv60, hx⟩ := hx; cases hx; exact (mw_or1 (mt_neI (me_fn c__law_refused ((v55, none, v49), v60) (ma_fz (me_var (pv 18) rfl) (ma_fz me_non (ma_vw (ml_var (pv 16) rfl) ma_nil))) hv60 (hr.mono (by decide))) me_int)))) (or_c hv61))) (fun h => ?_) fun h => ms_nil ?_)
    · replace hx := cond_t hx h
      refine ms_one (m_ret (ps_ret pe_w) (ME.r me_bl) ?_)
      cases hx; exact ⟨_, rfl, rfl⟩
    replace hx := cond_f hx h
    refine ms_frzl (i := 19) rfl ?_
    show MS _ [some (.vw (script.map D.int)), some (.fz (.int head)), some (.lst ((v3.map D.str).map .fz)), some (.fz (.str v4)), some (.fz (.int cents)), some (.lst ((v6.map e_T_s_i).map .fz)), some (.lst ((v11.map D.int).map .fz)), some (.fz (.lst (v15.map (r_Own C_Own)))), some (.lst ((v19.map e_L_s).map .fz)), some (.fz ((u_Cd C_Condition C_CauseIs C_ThingIs C_Over) v23)), some (.fz (.bl waits)), none, some (.fz ((r_Cover C_Cover C_Condition C_CauseIs C_ThingIs C_Over C_Own C_Deal) v24)), some (.fz ((r_CoverP C_CoverP C_Condition C_CauseIs C_ThingIs C_Over C_Own C_Deal) v25)), some (.fz (.int (x46 : Int))), some (.fz (.int cell_here)), some (.lst ((v49.map e_T_d_d).map .fz)), some (.fz (.int v50)), some (.fz v55), some (.fz (.lst (nine.map (r_Own C_Own)))), none] _ _
    replace hx := bd_some hx
    obtain ⟨v63, hv63, hx⟩ := hx
    replace hx := bd_some hx
    obtain ⟨v65, hv65, hx⟩ := hx
    refine ms_one (m_if (t := v65) (MW.t (MW.is (mw_or (mt_neI (me_fn c__law_refused (((.str v4), (some nine), (v6.map (fun p => (D.str p.1, D.int p.2)))), v63) (ma_fz (me_var (pv 3) rfl) (ma_fz (me_var (pv 19) rfl) (ma_vw (ML.pr (xs := v6) (enc := e_T_s_i) (enc2 := e_T_d_d) (f := (fun p => (D.str p.1, D.int p.2))) (ml_var (pv 5) rfl) (fun _ => rfl)) ma_nil))) hv63 (hr.mono (by decide))) me_int) fun q66 => (by have hx := cond_f hv65 q66; replace hx := bd_some hx; obtain ⟨v64, hv64, hx⟩ := hx; cases hx; exact (mw_or1 (mt_neI (me_fn c__law_refused (((.str v4), (some nine), v49), v64) (ma_fz (me_var (pv 3) rfl) (ma_fz (me_var (pv 19) rfl) (ma_vw (ml_var (pv 16) rfl) ma_nil))) hv64 (hr.mono (by decide))) me_int)))) (or_c hv65))) (fun h => ?_) fun h => ms_nil ?_)
    · replace hx := cond_t hx h
      refine ms_one (m_ret (ps_ret pe_w) (ME.r me_bl) ?_)
      cases hx; exact ⟨_, rfl, rfl⟩
    replace hx := cond_f hx h
    cases hx; exact ⟨_, rfl, le_auto⟩
  · subst e
    dsimp only [ouR] at hx
    refine ms_le le ?_
    show MS _ [some (.vw (script.map D.int)), some (.fz (.int head)), some (.lst ((v3.map D.str).map .fz)), some (.fz (.str v4)), some (.fz (.int cents)), some (.lst ((v6.map e_T_s_i).map .fz)), some (.lst ((v11.map D.int).map .fz)), some (.fz (.lst (v15.map (r_Own C_Own)))), some (.lst ((v19.map e_L_s).map .fz)), some (.fz ((u_Cd C_Condition C_CauseIs C_ThingIs C_Over) v23)), some (.fz (.bl waits)), none, some (.fz ((r_Cover C_Cover C_Condition C_CauseIs C_ThingIs C_Over C_Own C_Deal) v24)), some (.fz ((r_CoverP C_CoverP C_Condition C_CauseIs C_ThingIs C_Over C_Own C_Deal) v25)), none, none, none, none, none, none, none] _ _
    replace hx := bd_some hx
    obtain ⟨v67, hv67, hx⟩ := hx
    refine ms_one (m_ret (ps_ret pe_w) (ME.r (me_eqI (me_fn c__law_refused_g ((v4, v15, v6), v67) (ma_fz (me_var (pv 3) rfl) (ma_vw (ml_var (pv 7) rfl) (ma_vw (ml_var (pv 5) rfl) ma_nil))) hv67 (hr.mono (by decide))) me_int)) ?_)
    first | (cases hx; done) | (cases hx; rfl) | (injection hx with hx; show O.fz (.bl _) = O.fz (.bl true); rw [hx])
  · subst e; cases hx; rfl
end
theorem all_mk {l : PySem.W.OpenLaw} {w : World} {K : PySem.W.Frag} {h : Heap} {mg : Str → Option Value} {fa : Addr} (X : K.In h) (G : h.Ns mainGlobals mg) (hfa : mg "law" = some (.ref fa))
    {C_Clause : Addr} (a_Clause : PySem.W.nsIn K mainGlobals "Clause" = some (some (.ref C_Clause))) (pg_Clause : PySem.W.plainGet K C_Clause Str.empty = true) (hd_Clause : PySem.W.hasDictIn K C_Clause = true) (po_Clause : PySem.W.plainOver K C_Clause = true) (sa_Clause : PySem.W.findIn K (.ref C_Clause) "__setattr__" = some (some (.builtin "object.__setattr__"))) (mk_Clause : PySem.W.makesIn K C_Clause = true) (kc_Clause : PySem.W.keepIn K (.ref C_Clause) = true)
    {C_Own : Addr} (a_Own : PySem.W.nsIn K mainGlobals "Own" = some (some (.ref C_Own))) (pg_Own : PySem.W.plainGet K C_Own Str.empty = true) (hd_Own : PySem.W.hasDictIn K C_Own = true) (po_Own : PySem.W.plainOver K C_Own = true) (sa_Own : PySem.W.findIn K (.ref C_Own) "__setattr__" = some (some (.builtin "object.__setattr__"))) (mk_Own : PySem.W.makesIn K C_Own = true) (kc_Own : PySem.W.keepIn K (.ref C_Own) = true)
    (na_Own_by : PySem.W.findIn K (.ref C_Own) "by" = some none)
    (na_Own_cents : PySem.W.findIn K (.ref C_Own) "cents" = some none)
    {C_CauseIs : Addr} (a_CauseIs : PySem.W.nsIn K mainGlobals "CauseIs" = some (some (.ref C_CauseIs))) (pg_CauseIs : PySem.W.plainGet K C_CauseIs Str.empty = true) (hd_CauseIs : PySem.W.hasDictIn K C_CauseIs = true) (po_CauseIs : PySem.W.plainOver K C_CauseIs = true) (sa_CauseIs : PySem.W.findIn K (.ref C_CauseIs) "__setattr__" = some (some (.builtin "object.__setattr__"))) (mk_CauseIs : PySem.W.makesIn K C_CauseIs = true) (kc_CauseIs : PySem.W.keepIn K (.ref C_CauseIs) = true)
    (na_CauseIs_name : PySem.W.findIn K (.ref C_CauseIs) "name" = some none)
    {C_ThingIs : Addr} (a_ThingIs : PySem.W.nsIn K mainGlobals "ThingIs" = some (some (.ref C_ThingIs))) (pg_ThingIs : PySem.W.plainGet K C_ThingIs Str.empty = true) (hd_ThingIs : PySem.W.hasDictIn K C_ThingIs = true) (po_ThingIs : PySem.W.plainOver K C_ThingIs = true) (sa_ThingIs : PySem.W.findIn K (.ref C_ThingIs) "__setattr__" = some (some (.builtin "object.__setattr__"))) (mk_ThingIs : PySem.W.makesIn K C_ThingIs = true) (kc_ThingIs : PySem.W.keepIn K (.ref C_ThingIs) = true)
    (na_ThingIs_name : PySem.W.findIn K (.ref C_ThingIs) "name" = some none)
    {C_Over : Addr} (a_Over : PySem.W.nsIn K mainGlobals "Over" = some (some (.ref C_Over))) (pg_Over : PySem.W.plainGet K C_Over Str.empty = true) (hd_Over : PySem.W.hasDictIn K C_Over = true) (po_Over : PySem.W.plainOver K C_Over = true) (sa_Over : PySem.W.findIn K (.ref C_Over) "__setattr__" = some (some (.builtin "object.__setattr__"))) (mk_Over : PySem.W.makesIn K C_Over = true) (kc_Over : PySem.W.keepIn K (.ref C_Over) = true)
    (na_Over_cents : PySem.W.findIn K (.ref C_Over) "cents" = some none)
    {C_Deal : Addr} (a_Deal : PySem.W.nsIn K mainGlobals "Deal" = some (some (.ref C_Deal))) (pg_Deal : PySem.W.plainGet K C_Deal Str.empty = true) (hd_Deal : PySem.W.hasDictIn K C_Deal = true) (po_Deal : PySem.W.plainOver K C_Deal = true) (sa_Deal : PySem.W.findIn K (.ref C_Deal) "__setattr__" = some (some (.builtin "object.__setattr__"))) (mk_Deal : PySem.W.makesIn K C_Deal = true) (kc_Deal : PySem.W.keepIn K (.ref C_Deal) = true)
    (na_Deal_wheel : PySem.W.findIn K (.ref C_Deal) "wheel" = some none)
    (na_Deal_weights : PySem.W.findIn K (.ref C_Deal) "weights" = some none)
    {C_Cover : Addr} (a_Cover : PySem.W.nsIn K mainGlobals "Cover" = some (some (.ref C_Cover))) (pg_Cover : PySem.W.plainGet K C_Cover Str.empty = true) (hd_Cover : PySem.W.hasDictIn K C_Cover = true) (po_Cover : PySem.W.plainOver K C_Cover = true) (sa_Cover : PySem.W.findIn K (.ref C_Cover) "__setattr__" = some (some (.builtin "object.__setattr__"))) (mk_Cover : PySem.W.makesIn K C_Cover = true) (kc_Cover : PySem.W.keepIn K (.ref C_Cover) = true)
    (na_Cover_name : PySem.W.findIn K (.ref C_Cover) "name" = some none)
    (na_Cover_condition : PySem.W.findIn K (.ref C_Cover) "condition" = some none)
    (na_Cover_clauses : PySem.W.findIn K (.ref C_Cover) "clauses" = some none)
    (na_Cover_houses : PySem.W.findIn K (.ref C_Cover) "houses" = some none)
    (na_Cover_deal : PySem.W.findIn K (.ref C_Cover) "deal" = some none)
    (na_Cover_waits : PySem.W.findIn K (.ref C_Cover) "waits" = some none)
    {C_CoverP : Addr} (a_CoverP : PySem.W.nsIn K mainGlobals "Cover" = some (some (.ref C_CoverP))) (pg_CoverP : PySem.W.plainGet K C_CoverP Str.empty = true) (hd_CoverP : PySem.W.hasDictIn K C_CoverP = true) (po_CoverP : PySem.W.plainOver K C_CoverP = true) (sa_CoverP : PySem.W.findIn K (.ref C_CoverP) "__setattr__" = some (some (.builtin "object.__setattr__"))) (mk_CoverP : PySem.W.makesIn K C_CoverP = true) (kc_CoverP : PySem.W.keepIn K (.ref C_CoverP) = true)
    (na_CoverP_name : PySem.W.findIn K (.ref C_CoverP) "name" = some none)
    (na_CoverP_condition : PySem.W.findIn K (.ref C_CoverP) "condition" = some none)
    (na_CoverP_clauses : PySem.W.findIn K (.ref C_CoverP) "clauses" = some none)
    (na_CoverP_houses : PySem.W.findIn K (.ref C_CoverP) "houses" = some none)
    (na_CoverP_deal : PySem.W.findIn K (.ref C_CoverP) "deal" = some none)
    (na_CoverP_waits : PySem.W.findIn K (.ref C_CoverP) "waits" = some none)
    {C_Condition : Addr} (a_Condition : PySem.W.nsIn K mainGlobals "Condition" = some (some (.ref C_Condition))) (pg_Condition : PySem.W.plainGet K C_Condition Str.empty = true) (hd_Condition : PySem.W.hasDictIn K C_Condition = true) (po_Condition : PySem.W.plainOver K C_Condition = true) (sa_Condition : PySem.W.findIn K (.ref C_Condition) "__setattr__" = some (some (.builtin "object.__setattr__"))) (mk_Condition : PySem.W.makesIn K C_Condition = true) (kc_Condition : PySem.W.keepIn K (.ref C_Condition) = true)
    {C_DealD : Addr} (a_DealD : PySem.W.nsIn K mainGlobals "Deal" = some (some (.ref C_DealD))) (pg_DealD : PySem.W.plainGet K C_DealD Str.empty = true) (hd_DealD : PySem.W.hasDictIn K C_DealD = true) (po_DealD : PySem.W.plainOver K C_DealD = true) (sa_DealD : PySem.W.findIn K (.ref C_DealD) "__setattr__" = some (some (.builtin "object.__setattr__"))) (mk_DealD : PySem.W.makesIn K C_DealD = true) (kc_DealD : PySem.W.keepIn K (.ref C_DealD) = true)
    {C_CoverR : Addr} (a_CoverR : PySem.W.nsIn K mainGlobals "Cover" = some (some (.ref C_CoverR))) (pg_CoverR : PySem.W.plainGet K C_CoverR Str.empty = true) (hd_CoverR : PySem.W.hasDictIn K C_CoverR = true) (po_CoverR : PySem.W.plainOver K C_CoverR = true) (sa_CoverR : PySem.W.findIn K (.ref C_CoverR) "__setattr__" = some (some (.builtin "object.__setattr__"))) (mk_CoverR : PySem.W.makesIn K C_CoverR = true) (kc_CoverR : PySem.W.keepIn K (.ref C_CoverR) = true)
    (na_CoverR_name : PySem.W.findIn K (.ref C_CoverR) "name" = some none)
    (na_CoverR_condition : PySem.W.findIn K (.ref C_CoverR) "condition" = some none)
    (na_CoverR_clauses : PySem.W.findIn K (.ref C_CoverR) "clauses" = some none)
    (na_CoverR_houses : PySem.W.findIn K (.ref C_CoverR) "houses" = some none)
    (na_CoverR_deal : PySem.W.findIn K (.ref C_CoverR) "deal" = some none)
    (na_CoverR_waits : PySem.W.findIn K (.ref C_CoverR) "waits" = some none)
    {C_CoverError : Addr} (a_CoverError : PySem.W.nsIn K mainGlobals "CoverError" = some (some (.ref C_CoverError)))
    {C_NoBook : Addr} (a_NoBook : PySem.W.nsIn K mainGlobals "NoBook" = some (some (.ref C_NoBook)))
    {C_NoClause : Addr} (a_NoClause : PySem.W.nsIn K mainGlobals "NoClause" = some (some (.ref C_NoClause)))
    {C_NoEntry : Addr} (a_NoEntry : PySem.W.nsIn K mainGlobals "NoEntry" = some (some (.ref C_NoEntry)))
    {C_NoCover : Addr} (a_NoCover : PySem.W.nsIn K mainGlobals "NoCover" = some (some (.ref C_NoCover)))
    {C_NoShares : Addr} (a_NoShares : PySem.W.nsIn K mainGlobals "NoShares" = some (some (.ref C_NoShares)))
    (xq_NoCover : PySem.W.excIn K C_NoCover [.type "ValueError", .type "Exception", .type "BaseException", .type "object"] "ValueError.__new__" = true)
    (xk_NoCover : PySem.W.keepIn K (.ref C_NoCover) = true)
    (xb_NoCover : PySem.W.subIn K (.ref C_NoCover) (.type "BaseException") = some true)
    (xt_NoCover : PySem.W.typeIn K (.ref C_NoCover) = some (.type "type"))
    (xq_NoShares : PySem.W.excIn K C_NoShares [.type "ValueError", .type "Exception", .type "BaseException", .type "object"] "ValueError.__new__" = true)
    (xk_NoShares : PySem.W.keepIn K (.ref C_NoShares) = true)
    (xb_NoShares : PySem.W.subIn K (.ref C_NoShares) (.type "BaseException") = some true)
    (xt_NoShares : PySem.W.typeIn K (.ref C_NoShares) = some (.type "type"))
    (xg_NoCover : PySem.W.findIn K (.ref C_NoCover) "__getattribute__" = some (some (.builtin "BaseException.__getattribute__")))
    (xh_NoCover : PySem.W.findIn K (.ref C_NoCover) "__getattr__" = some none)
    (xd_NoCover : PySem.W.hasDictIn K C_NoCover = true)
    (xa_NoCover : PySem.W.findIn K (.ref C_NoCover) "__class__" = some (some (.builtin "object.__class__")))
    (xm_NoCover : PySem.W.mroIn K C_NoCover (.type "object") = some true)
    (xg_NoShares : PySem.W.findIn K (.ref C_NoShares) "__getattribute__" = some (some (.builtin "BaseException.__getattribute__")))
    (xh_NoShares : PySem.W.findIn K (.ref C_NoShares) "__getattr__" = some none)
    (xd_NoShares : PySem.W.hasDictIn K C_NoShares = true)
    (xa_NoShares : PySem.W.findIn K (.ref C_NoShares) "__class__" = some (some (.builtin "object.__class__")))
    (xm_NoShares : PySem.W.mroIn K C_NoShares (.type "object") = some true)
    (xn0 : PySem.W.specialIn K (.builtin "object.__class__") "__get__" = some (some (.builtin "getset_descriptor.__get__"))) (xt0 : PySem.W.takesIn K (.builtin "object.__class__") = some true)
    (xb_CoverError : PySem.W.subIn K (.ref C_CoverError) (.type "BaseException") = some true)
    (xd_CoverError : PySem.W.hasDictIn K C_CoverError = true)
    (xt_CoverError : PySem.W.typeIn K (.ref C_CoverError) = some (.type "type"))
    (xs_NoCover_CoverError : PySem.W.subIn K (.ref C_NoCover) (.ref C_CoverError) = some true)
    (xs_NoShares_CoverError : PySem.W.subIn K (.ref C_NoShares) (.ref C_CoverError) = some true)
    {f0 : Addr} {od0 an0 : Option Addr} {sl0 : Array (Option Value)} {oc0 kV0 dc0 pm0 cd0 ct0 : Value}
    (a0 : PySem.W.nsIn K mainGlobals "_law_cell" = some (some (.ref f0))) (l0 : K.lookup f0 = some ⟨oc0, od0, .func (PySem.W.fnOf "_law_cell" "_law_cell" (defArgs s__law_cell) (defBody s__law_cell) (defScope s__law_cell) .none kV0 dc0 pm0 an0 cd0 ct0), sl0⟩) (c0 : PySem.W.codeIn K cd0 "_law_cell" = true) (k0 : PySem.W.keepIn K (.ref f0) = true)
    {f1 : Addr} {od1 an1 : Option Addr} {sl1 : Array (Option Value)} {oc1 kV1 dc1 pm1 cd1 ct1 : Value}
    (a1 : PySem.W.nsIn K mainGlobals "_law_names" = some (some (.ref f1))) (l1 : K.lookup f1 = some ⟨oc1, od1, .func (PySem.W.fnOf "_law_names" "_law_names" (defArgs s__law_names) (defBody s__law_names) (defScope s__law_names) .none kV1 dc1 pm1 an1 cd1 ct1), sl1⟩) (c1 : PySem.W.codeIn K cd1 "_law_names" = true) (k1 : PySem.W.keepIn K (.ref f1) = true)
    {f2 : Addr} {od2 an2 : Option Addr} {sl2 : Array (Option Value)} {oc2 kV2 dc2 pm2 cd2 ct2 : Value}
    (a2 : PySem.W.nsIn K mainGlobals "_law_houses" = some (some (.ref f2))) (l2 : K.lookup f2 = some ⟨oc2, od2, .func (PySem.W.fnOf "_law_houses" "_law_houses" (defArgs s__law_houses) (defBody s__law_houses) (defScope s__law_houses) .none kV2 dc2 pm2 an2 cd2 ct2), sl2⟩) (c2 : PySem.W.codeIn K cd2 "_law_houses" = true) (k2 : PySem.W.keepIn K (.ref f2) = true)
    {f3 : Addr} {od3 an3 : Option Addr} {sl3 : Array (Option Value)} {oc3 kV3 dc3 pm3 cd3 ct3 : Value}
    (a3 : PySem.W.findIn K (.ref C_Clause) "__init__" = some (some (.ref f3))) (l3 : K.lookup f3 = some ⟨oc3, od3, .func (PySem.W.fnOf "__init__" "Clause.__init__" (defArgs s_Clause___init__) (defBody s_Clause___init__) (defScope s_Clause___init__) .none kV3 dc3 pm3 an3 cd3 ct3), sl3⟩) (c3 : PySem.W.codeIn K cd3 "Clause.__init__" = true) (k3 : PySem.W.keepIn K (.ref f3) = true) (i3 : PySem.W.isFn K (.ref f3) = true)
    {f4 : Addr} {od4 an4 : Option Addr} {sl4 : Array (Option Value)} {oc4 kV4 dc4 pm4 cd4 ct4 : Value}
    (a4 : PySem.W.nsIn K mainGlobals "is_whole" = some (some (.ref f4))) (l4 : K.lookup f4 = some ⟨oc4, od4, .func (PySem.W.fnOf "is_whole" "is_whole" (defArgs s_is_whole) (defBody s_is_whole) (defScope s_is_whole) .none kV4 dc4 pm4 an4 cd4 ct4), sl4⟩) (c4 : PySem.W.codeIn K cd4 "is_whole" = true) (k4 : PySem.W.keepIn K (.ref f4) = true)
    {f5 : Addr} {od5 an5 : Option Addr} {sl5 : Array (Option Value)} {oc5 kV5 dc5 pm5 cd5 ct5 : Value}
    (a5 : PySem.W.nsIn K mainGlobals "is_amount" = some (some (.ref f5))) (l5 : K.lookup f5 = some ⟨oc5, od5, .func (PySem.W.fnOf "is_amount" "is_amount" (defArgs s_is_amount) (defBody s_is_amount) (defScope s_is_amount) .none kV5 dc5 pm5 an5 cd5 ct5), sl5⟩) (c5 : PySem.W.codeIn K cd5 "is_amount" = true) (k5 : PySem.W.keepIn K (.ref f5) = true)
    {f6 : Addr} {od6 an6 : Option Addr} {sl6 : Array (Option Value)} {oc6 kV6 dc6 pm6 cd6 ct6 : Value}
    (a6 : PySem.W.nsIn K mainGlobals "need_amount" = some (some (.ref f6))) (l6 : K.lookup f6 = some ⟨oc6, od6, .func (PySem.W.fnOf "need_amount" "need_amount" (defArgs s_need_amount) (defBody s_need_amount) (defScope s_need_amount) .none kV6 dc6 pm6 an6 cd6 ct6), sl6⟩) (c6 : PySem.W.codeIn K cd6 "need_amount" = true) (k6 : PySem.W.keepIn K (.ref f6) = true)
    {f7 : Addr} {od7 an7 : Option Addr} {sl7 : Array (Option Value)} {oc7 kV7 dc7 pm7 cd7 ct7 : Value}
    (a7 : PySem.W.findIn K (.ref C_Own) "__init__" = some (some (.ref f7))) (l7 : K.lookup f7 = some ⟨oc7, od7, .func (PySem.W.fnOf "__init__" "Own.__init__" (defArgs s_Own___init__) (defBody s_Own___init__) (defScope s_Own___init__) .none kV7 dc7 pm7 an7 cd7 ct7), sl7⟩) (c7 : PySem.W.codeIn K cd7 "Own.__init__" = true) (k7 : PySem.W.keepIn K (.ref f7) = true) (i7 : PySem.W.isFn K (.ref f7) = true)
    {f8 : Addr} {od8 an8 : Option Addr} {sl8 : Array (Option Value)} {oc8 kV8 dc8 pm8 cd8 ct8 : Value}
    (a8 : PySem.W.nsIn K mainGlobals "show_cents" = some (some (.ref f8))) (l8 : K.lookup f8 = some ⟨oc8, od8, .func (PySem.W.fnOf "show_cents" "show_cents" (defArgs s_show_cents) (defBody s_show_cents) (defScope s_show_cents) .none kV8 dc8 pm8 an8 cd8 ct8), sl8⟩) (c8 : PySem.W.codeIn K cd8 "show_cents" = true) (k8 : PySem.W.keepIn K (.ref f8) = true)
    {f9 : Addr} {od9 an9 : Option Addr} {sl9 : Array (Option Value)} {oc9 kV9 dc9 pm9 cd9 ct9 : Value}
    (a9 : PySem.W.findIn K (.ref C_Own) "words" = some (some (.ref f9))) (l9 : K.lookup f9 = some ⟨oc9, od9, .func (PySem.W.fnOf "words" "Own.words" (defArgs s_Own_words) (defBody s_Own_words) (defScope s_Own_words) .none kV9 dc9 pm9 an9 cd9 ct9), sl9⟩) (c9 : PySem.W.codeIn K cd9 "Own.words" = true) (k9 : PySem.W.keepIn K (.ref f9) = true) (i9 : PySem.W.isFn K (.ref f9) = true)
    {f10 : Addr} {od10 an10 : Option Addr} {sl10 : Array (Option Value)} {oc10 kV10 dc10 pm10 cd10 ct10 : Value}
    (a10 : PySem.W.findIn K (.ref C_CauseIs) "__init__" = some (some (.ref f10))) (l10 : K.lookup f10 = some ⟨oc10, od10, .func (PySem.W.fnOf "__init__" "CauseIs.__init__" (defArgs s_CauseIs___init__) (defBody s_CauseIs___init__) (defScope s_CauseIs___init__) .none kV10 dc10 pm10 an10 cd10 ct10), sl10⟩) (c10 : PySem.W.codeIn K cd10 "CauseIs.__init__" = true) (k10 : PySem.W.keepIn K (.ref f10) = true) (i10 : PySem.W.isFn K (.ref f10) = true)
    {f11 : Addr} {od11 an11 : Option Addr} {sl11 : Array (Option Value)} {oc11 kV11 dc11 pm11 cd11 ct11 : Value}
    (a11 : PySem.W.findIn K (.ref C_ThingIs) "__init__" = some (some (.ref f11))) (l11 : K.lookup f11 = some ⟨oc11, od11, .func (PySem.W.fnOf "__init__" "ThingIs.__init__" (defArgs s_ThingIs___init__) (defBody s_ThingIs___init__) (defScope s_ThingIs___init__) .none kV11 dc11 pm11 an11 cd11 ct11), sl11⟩) (c11 : PySem.W.codeIn K cd11 "ThingIs.__init__" = true) (k11 : PySem.W.keepIn K (.ref f11) = true) (i11 : PySem.W.isFn K (.ref f11) = true)
    {f12 : Addr} {od12 an12 : Option Addr} {sl12 : Array (Option Value)} {oc12 kV12 dc12 pm12 cd12 ct12 : Value}
    (a12 : PySem.W.findIn K (.ref C_Over) "__init__" = some (some (.ref f12))) (l12 : K.lookup f12 = some ⟨oc12, od12, .func (PySem.W.fnOf "__init__" "Over.__init__" (defArgs s_Over___init__) (defBody s_Over___init__) (defScope s_Over___init__) .none kV12 dc12 pm12 an12 cd12 ct12), sl12⟩) (c12 : PySem.W.codeIn K cd12 "Over.__init__" = true) (k12 : PySem.W.keepIn K (.ref f12) = true) (i12 : PySem.W.isFn K (.ref f12) = true)
    {f13 : Addr} {od13 an13 : Option Addr} {sl13 : Array (Option Value)} {oc13 kV13 dc13 pm13 cd13 ct13 : Value}
    (a13 : PySem.W.nsIn K mainGlobals "is_name" = some (some (.ref f13))) (l13 : K.lookup f13 = some ⟨oc13, od13, .func (PySem.W.fnOf "is_name" "is_name" (defArgs s_is_name_s) (defBody s_is_name_s) (defScope s_is_name_s) .none kV13 dc13 pm13 an13 cd13 ct13), sl13⟩) (c13 : PySem.W.codeIn K cd13 "is_name" = true) (k13 : PySem.W.keepIn K (.ref f13) = true)
    {f14 : Addr} {od14 an14 : Option Addr} {sl14 : Array (Option Value)} {oc14 kV14 dc14 pm14 cd14 ct14 : Value}
    (a14 : PySem.W.nsIn K mainGlobals "need_houses" = some (some (.ref f14))) (l14 : K.lookup f14 = some ⟨oc14, od14, .func (PySem.W.fnOf "need_houses" "need_houses" (defArgs s_need_houses_g) (defBody s_need_houses_g) (defScope s_need_houses_g) .none kV14 dc14 pm14 an14 cd14 ct14), sl14⟩) (c14 : PySem.W.codeIn K cd14 "need_houses" = true) (k14 : PySem.W.keepIn K (.ref f14) = true)
    {f15 : Addr} {od15 an15 : Option Addr} {sl15 : Array (Option Value)} {oc15 kV15 dc15 pm15 cd15 ct15 : Value}
    (a15 : PySem.W.nsIn K mainGlobals "total_of" = some (some (.ref f15))) (l15 : K.lookup f15 = some ⟨oc15, od15, .func (PySem.W.fnOf "total_of" "total_of" (defArgs s_total_of) (defBody s_total_of) (defScope s_total_of) .none kV15 dc15 pm15 an15 cd15 ct15), sl15⟩) (c15 : PySem.W.codeIn K cd15 "total_of" = true) (k15 : PySem.W.keepIn K (.ref f15) = true)
    {f16 : Addr} {od16 an16 : Option Addr} {sl16 : Array (Option Value)} {oc16 kV16 dc16 pm16 cd16 ct16 : Value}
    (a16 : PySem.W.nsIn K mainGlobals "due_by" = some (some (.ref f16))) (l16 : K.lookup f16 = some ⟨oc16, od16, .func (PySem.W.fnOf "due_by" "due_by" (defArgs s_due_by) (defBody s_due_by) (defScope s_due_by) .none kV16 dc16 pm16 an16 cd16 ct16), sl16⟩) (c16 : PySem.W.codeIn K cd16 "due_by" = true) (k16 : PySem.W.keepIn K (.ref f16) = true)
    {f17 : Addr} {od17 an17 : Option Addr} {sl17 : Array (Option Value)} {oc17 kV17 dc17 pm17 cd17 ct17 : Value}
    (a17 : PySem.W.nsIn K mainGlobals "next_place" = some (some (.ref f17))) (l17 : K.lookup f17 = some ⟨oc17, od17, .func (PySem.W.fnOf "next_place" "next_place" (defArgs s_next_place) (defBody s_next_place) (defScope s_next_place) .none kV17 dc17 pm17 an17 cd17 ct17), sl17⟩) (c17 : PySem.W.codeIn K cd17 "next_place" = true) (k17 : PySem.W.keepIn K (.ref f17) = true)
    {f18 : Addr} {od18 an18 : Option Addr} {sl18 : Array (Option Value)} {oc18 kV18 dc18 pm18 cd18 ct18 : Value}
    (a18 : PySem.W.nsIn K mainGlobals "turns" = some (some (.ref f18))) (l18 : K.lookup f18 = some ⟨oc18, od18, .func (PySem.W.fnOf "turns" "turns" (defArgs s_turns) (defBody s_turns) (defScope s_turns) .none kV18 dc18 pm18 an18 cd18 ct18), sl18⟩) (c18 : PySem.W.codeIn K cd18 "turns" = true) (k18 : PySem.W.keepIn K (.ref f18) = true)
    {f19 : Addr} {od19 an19 : Option Addr} {sl19 : Array (Option Value)} {oc19 kV19 dc19 pm19 cd19 ct19 : Value}
    (a19 : PySem.W.findIn K (.ref C_Deal) "__init__" = some (some (.ref f19))) (l19 : K.lookup f19 = some ⟨oc19, od19, .func (PySem.W.fnOf "__init__" "Deal.__init__" (defArgs s_Deal___init__) (defBody s_Deal___init__) (defScope s_Deal___init__) .none kV19 dc19 pm19 an19 cd19 ct19), sl19⟩) (c19 : PySem.W.codeIn K cd19 "Deal.__init__" = true) (k19 : PySem.W.keepIn K (.ref f19) = true) (i19 : PySem.W.isFn K (.ref f19) = true)
    {dT20 : Addr} {dtd20 : Option Addr} {dts20 : Array (Option Value)} {dn20 : Nat}
    {f20 : Addr} {od20 an20 : Option Addr} {sl20 : Array (Option Value)} {oc20 kV20 dc20 pm20 cd20 ct20 : Value}
    (a20 : PySem.W.findIn K (.ref C_Cover) "__init__" = some (some (.ref f20))) (l20 : K.lookup f20 = some ⟨oc20, od20, .func (PySem.W.fnOf "__init__" "Cover.__init__" (defArgs s_Cover___init__) (defBody s_Cover___init__) (defScope s_Cover___init__) (.ref dT20) kV20 dc20 pm20 an20 cd20 ct20), sl20⟩) (dl20 : K.lookup dT20 = some ⟨.type "tuple", dtd20, .seq #[.none, .none, .bool false] dn20, dts20⟩) (c20 : PySem.W.codeIn K cd20 "Cover.__init__" = true) (k20 : PySem.W.keepIn K (.ref f20) = true) (i20 : PySem.W.isFn K (.ref f20) = true)
    {dT21 : Addr} {dtd21 : Option Addr} {dts21 : Array (Option Value)} {dn21 : Nat}
    {f21 : Addr} {od21 an21 : Option Addr} {sl21 : Array (Option Value)} {oc21 kV21 dc21 pm21 cd21 ct21 : Value}
    (a21 : PySem.W.findIn K (.ref C_CoverP) "__init__" = some (some (.ref f21))) (l21 : K.lookup f21 = some ⟨oc21, od21, .func (PySem.W.fnOf "__init__" "Cover.__init__" (defArgs s_CoverP___init__) (defBody s_CoverP___init__) (defScope s_CoverP___init__) (.ref dT21) kV21 dc21 pm21 an21 cd21 ct21), sl21⟩) (dl21 : K.lookup dT21 = some ⟨.type "tuple", dtd21, .seq #[.none, .none, .bool false] dn21, dts21⟩) (c21 : PySem.W.codeIn K cd21 "Cover.__init__" = true) (k21 : PySem.W.keepIn K (.ref f21) = true) (i21 : PySem.W.isFn K (.ref f21) = true)
    {f22 : Addr} {od22 an22 : Option Addr} {sl22 : Array (Option Value)} {oc22 kV22 dc22 pm22 cd22 ct22 : Value}
    (a22 : PySem.W.findIn K (.ref C_Deal) "counts_to" = some (some (.ref f22))) (l22 : K.lookup f22 = some ⟨oc22, od22, .func (PySem.W.fnOf "counts_to" "Deal.counts_to" (defArgs s_Deal_counts_to) (defBody s_Deal_counts_to) (defScope s_Deal_counts_to) .none kV22 dc22 pm22 an22 cd22 ct22), sl22⟩) (c22 : PySem.W.codeIn K cd22 "Deal.counts_to" = true) (k22 : PySem.W.keepIn K (.ref f22) = true) (i22 : PySem.W.isFn K (.ref f22) = true)
    {f23 : Addr} {od23 an23 : Option Addr} {sl23 : Array (Option Value)} {oc23 kV23 dc23 pm23 cd23 ct23 : Value}
    (a23 : PySem.W.nsIn K mainGlobals "_law_kept" = some (some (.ref f23))) (l23 : K.lookup f23 = some ⟨oc23, od23, .func (PySem.W.fnOf "_law_kept" "_law_kept" (defArgs s__law_kept) (defBody s__law_kept) (defScope s__law_kept) .none kV23 dc23 pm23 an23 cd23 ct23), sl23⟩) (c23 : PySem.W.codeIn K cd23 "_law_kept" = true) (k23 : PySem.W.keepIn K (.ref f23) = true)
    {f24 : Addr} {od24 an24 : Option Addr} {sl24 : Array (Option Value)} {oc24 kV24 dc24 pm24 cd24 ct24 : Value}
    (a24 : PySem.W.nsIn K mainGlobals "_law_kept" = some (some (.ref f24))) (l24 : K.lookup f24 = some ⟨oc24, od24, .func (PySem.W.fnOf "_law_kept" "_law_kept" (defArgs s__law_kept_p) (defBody s__law_kept_p) (defScope s__law_kept_p) .none kV24 dc24 pm24 an24 cd24 ct24), sl24⟩) (c24 : PySem.W.codeIn K cd24 "_law_kept" = true) (k24 : PySem.W.keepIn K (.ref f24) = true)
    {f25 : Addr} {od25 an25 : Option Addr} {sl25 : Array (Option Value)} {oc25 kV25 dc25 pm25 cd25 ct25 : Value}
    (a25 : PySem.W.findIn K (.ref C_Condition) "words" = some (some (.ref f25))) (l25 : K.lookup f25 = some ⟨oc25, od25, .func (PySem.W.fnOf "words" "Condition.words" (defArgs s_Condition_words) (defBody s_Condition_words) (defScope s_Condition_words) .none kV25 dc25 pm25 an25 cd25 ct25), sl25⟩) (c25 : PySem.W.codeIn K cd25 "Condition.words" = true) (k25 : PySem.W.keepIn K (.ref f25) = true) (i25 : PySem.W.isFn K (.ref f25) = true)
    {f26 : Addr} {od26 an26 : Option Addr} {sl26 : Array (Option Value)} {oc26 kV26 dc26 pm26 cd26 ct26 : Value}
    (a26 : PySem.W.findIn K (.ref C_CauseIs) "words" = some (some (.ref f26))) (l26 : K.lookup f26 = some ⟨oc26, od26, .func (PySem.W.fnOf "words" "CauseIs.words" (defArgs s_CauseIs_words) (defBody s_CauseIs_words) (defScope s_CauseIs_words) .none kV26 dc26 pm26 an26 cd26 ct26), sl26⟩) (c26 : PySem.W.codeIn K cd26 "CauseIs.words" = true) (k26 : PySem.W.keepIn K (.ref f26) = true) (i26 : PySem.W.isFn K (.ref f26) = true)
    {f27 : Addr} {od27 an27 : Option Addr} {sl27 : Array (Option Value)} {oc27 kV27 dc27 pm27 cd27 ct27 : Value}
    (a27 : PySem.W.findIn K (.ref C_ThingIs) "words" = some (some (.ref f27))) (l27 : K.lookup f27 = some ⟨oc27, od27, .func (PySem.W.fnOf "words" "ThingIs.words" (defArgs s_ThingIs_words) (defBody s_ThingIs_words) (defScope s_ThingIs_words) .none kV27 dc27 pm27 an27 cd27 ct27), sl27⟩) (c27 : PySem.W.codeIn K cd27 "ThingIs.words" = true) (k27 : PySem.W.keepIn K (.ref f27) = true) (i27 : PySem.W.isFn K (.ref f27) = true)
    {f28 : Addr} {od28 an28 : Option Addr} {sl28 : Array (Option Value)} {oc28 kV28 dc28 pm28 cd28 ct28 : Value}
    (a28 : PySem.W.findIn K (.ref C_Over) "words" = some (some (.ref f28))) (l28 : K.lookup f28 = some ⟨oc28, od28, .func (PySem.W.fnOf "words" "Over.words" (defArgs s_Over_words) (defBody s_Over_words) (defScope s_Over_words) .none kV28 dc28 pm28 an28 cd28 ct28), sl28⟩) (c28 : PySem.W.codeIn K cd28 "Over.words" = true) (k28 : PySem.W.keepIn K (.ref f28) = true) (i28 : PySem.W.isFn K (.ref f28) = true)
    {f29 : Addr} {od29 an29 : Option Addr} {sl29 : Array (Option Value)} {oc29 kV29 dc29 pm29 cd29 ct29 : Value}
    (a29 : PySem.W.findIn K (.ref C_Condition) "holds" = some (some (.ref f29))) (l29 : K.lookup f29 = some ⟨oc29, od29, .func (PySem.W.fnOf "holds" "Condition.holds" (defArgs s_Condition_holds) (defBody s_Condition_holds) (defScope s_Condition_holds) .none kV29 dc29 pm29 an29 cd29 ct29), sl29⟩) (c29 : PySem.W.codeIn K cd29 "Condition.holds" = true) (k29 : PySem.W.keepIn K (.ref f29) = true) (i29 : PySem.W.isFn K (.ref f29) = true)
    {f30 : Addr} {od30 an30 : Option Addr} {sl30 : Array (Option Value)} {oc30 kV30 dc30 pm30 cd30 ct30 : Value}
    (a30 : PySem.W.findIn K (.ref C_CauseIs) "holds" = some (some (.ref f30))) (l30 : K.lookup f30 = some ⟨oc30, od30, .func (PySem.W.fnOf "holds" "CauseIs.holds" (defArgs s_CauseIs_holds) (defBody s_CauseIs_holds) (defScope s_CauseIs_holds) .none kV30 dc30 pm30 an30 cd30 ct30), sl30⟩) (c30 : PySem.W.codeIn K cd30 "CauseIs.holds" = true) (k30 : PySem.W.keepIn K (.ref f30) = true) (i30 : PySem.W.isFn K (.ref f30) = true)
    {f31 : Addr} {od31 an31 : Option Addr} {sl31 : Array (Option Value)} {oc31 kV31 dc31 pm31 cd31 ct31 : Value}
    (a31 : PySem.W.findIn K (.ref C_ThingIs) "holds" = some (some (.ref f31))) (l31 : K.lookup f31 = some ⟨oc31, od31, .func (PySem.W.fnOf "holds" "ThingIs.holds" (defArgs s_ThingIs_holds) (defBody s_ThingIs_holds) (defScope s_ThingIs_holds) .none kV31 dc31 pm31 an31 cd31 ct31), sl31⟩) (c31 : PySem.W.codeIn K cd31 "ThingIs.holds" = true) (k31 : PySem.W.keepIn K (.ref f31) = true) (i31 : PySem.W.isFn K (.ref f31) = true)
    {f32 : Addr} {od32 an32 : Option Addr} {sl32 : Array (Option Value)} {oc32 kV32 dc32 pm32 cd32 ct32 : Value}
    (a32 : PySem.W.findIn K (.ref C_Over) "holds" = some (some (.ref f32))) (l32 : K.lookup f32 = some ⟨oc32, od32, .func (PySem.W.fnOf "holds" "Over.holds" (defArgs s_Over_holds) (defBody s_Over_holds) (defScope s_Over_holds) .none kV32 dc32 pm32 an32 cd32 ct32), sl32⟩) (c32 : PySem.W.codeIn K cd32 "Over.holds" = true) (k32 : PySem.W.keepIn K (.ref f32) = true) (i32 : PySem.W.isFn K (.ref f32) = true)
    {f33 : Addr} {od33 an33 : Option Addr} {sl33 : Array (Option Value)} {oc33 kV33 dc33 pm33 cd33 ct33 : Value}
    (a33 : PySem.W.findIn K (.ref C_Cover) "asks" = some (some (.ref f33))) (l33 : K.lookup f33 = some ⟨oc33, od33, .func (PySem.W.fnOf "asks" "Cover.asks" (defArgs s_Cover_asks) (defBody s_Cover_asks) (defScope s_Cover_asks) .none kV33 dc33 pm33 an33 cd33 ct33), sl33⟩) (c33 : PySem.W.codeIn K cd33 "Cover.asks" = true) (k33 : PySem.W.keepIn K (.ref f33) = true) (i33 : PySem.W.isFn K (.ref f33) = true)
    {f34 : Addr} {od34 an34 : Option Addr} {sl34 : Array (Option Value)} {oc34 kV34 dc34 pm34 cd34 ct34 : Value}
    (a34 : PySem.W.nsIn K mainGlobals "_law_asks" = some (some (.ref f34))) (l34 : K.lookup f34 = some ⟨oc34, od34, .func (PySem.W.fnOf "_law_asks" "_law_asks" (defArgs s__law_asks) (defBody s__law_asks) (defScope s__law_asks) .none kV34 dc34 pm34 an34 cd34 ct34), sl34⟩) (c34 : PySem.W.codeIn K cd34 "_law_asks" = true) (k34 : PySem.W.keepIn K (.ref f34) = true)
    {f35 : Addr} {od35 an35 : Option Addr} {sl35 : Array (Option Value)} {oc35 kV35 dc35 pm35 cd35 ct35 : Value}
    (a35 : PySem.W.findIn K (.ref C_CoverP) "asks" = some (some (.ref f35))) (l35 : K.lookup f35 = some ⟨oc35, od35, .func (PySem.W.fnOf "asks" "Cover.asks" (defArgs s_CoverP_asks) (defBody s_CoverP_asks) (defScope s_CoverP_asks) .none kV35 dc35 pm35 an35 cd35 ct35), sl35⟩) (c35 : PySem.W.codeIn K cd35 "Cover.asks" = true) (k35 : PySem.W.keepIn K (.ref f35) = true) (i35 : PySem.W.isFn K (.ref f35) = true)
    {f36 : Addr} {od36 an36 : Option Addr} {sl36 : Array (Option Value)} {oc36 kV36 dc36 pm36 cd36 ct36 : Value}
    (a36 : PySem.W.nsIn K mainGlobals "_law_asks" = some (some (.ref f36))) (l36 : K.lookup f36 = some ⟨oc36, od36, .func (PySem.W.fnOf "_law_asks" "_law_asks" (defArgs s__law_asks_p) (defBody s__law_asks_p) (defScope s__law_asks_p) .none kV36 dc36 pm36 an36 cd36 ct36), sl36⟩) (c36 : PySem.W.codeIn K cd36 "_law_asks" = true) (k36 : PySem.W.keepIn K (.ref f36) = true)
    {f37 : Addr} {od37 an37 : Option Addr} {sl37 : Array (Option Value)} {oc37 kV37 dc37 pm37 cd37 ct37 : Value}
    (a37 : PySem.W.nsIn K mainGlobals "_law_bad_pairs" = some (some (.ref f37))) (l37 : K.lookup f37 = some ⟨oc37, od37, .func (PySem.W.fnOf "_law_bad_pairs" "_law_bad_pairs" (defArgs s__law_bad_pairs) (defBody s__law_bad_pairs) (defScope s__law_bad_pairs) .none kV37 dc37 pm37 an37 cd37 ct37), sl37⟩) (c37 : PySem.W.codeIn K cd37 "_law_bad_pairs" = true) (k37 : PySem.W.keepIn K (.ref f37) = true)
    {f38 : Addr} {od38 an38 : Option Addr} {sl38 : Array (Option Value)} {oc38 kV38 dc38 pm38 cd38 ct38 : Value}
    (a38 : PySem.W.nsIn K mainGlobals "is_name" = some (some (.ref f38))) (l38 : K.lookup f38 = some ⟨oc38, od38, .func (PySem.W.fnOf "is_name" "is_name" (defArgs s_is_name) (defBody s_is_name) (defScope s_is_name) .none kV38 dc38 pm38 an38 cd38 ct38), sl38⟩) (c38 : PySem.W.codeIn K cd38 "is_name" = true) (k38 : PySem.W.keepIn K (.ref f38) = true)
    {f39 : Addr} {od39 an39 : Option Addr} {sl39 : Array (Option Value)} {oc39 kV39 dc39 pm39 cd39 ct39 : Value}
    (a39 : PySem.W.nsIn K mainGlobals "need_houses" = some (some (.ref f39))) (l39 : K.lookup f39 = some ⟨oc39, od39, .func (PySem.W.fnOf "need_houses" "need_houses" (defArgs s_need_houses) (defBody s_need_houses) (defScope s_need_houses) .none kV39 dc39 pm39 an39 cd39 ct39), sl39⟩) (c39 : PySem.W.codeIn K cd39 "need_houses" = true) (k39 : PySem.W.keepIn K (.ref f39) = true)
    {f40 : Addr} {od40 an40 : Option Addr} {sl40 : Array (Option Value)} {oc40 kV40 dc40 pm40 cd40 ct40 : Value}
    (a40 : PySem.W.nsIn K mainGlobals "is_whole" = some (some (.ref f40))) (l40 : K.lookup f40 = some ⟨oc40, od40, .func (PySem.W.fnOf "is_whole" "is_whole" (defArgs s_is_whole_d) (defBody s_is_whole_d) (defScope s_is_whole_d) .none kV40 dc40 pm40 an40 cd40 ct40), sl40⟩) (c40 : PySem.W.codeIn K cd40 "is_whole" = true) (k40 : PySem.W.keepIn K (.ref f40) = true)
    {f41 : Addr} {od41 an41 : Option Addr} {sl41 : Array (Option Value)} {oc41 kV41 dc41 pm41 cd41 ct41 : Value}
    (a41 : PySem.W.nsIn K mainGlobals "total_of" = some (some (.ref f41))) (l41 : K.lookup f41 = some ⟨oc41, od41, .func (PySem.W.fnOf "total_of" "total_of" (defArgs s_total_of_r) (defBody s_total_of_r) (defScope s_total_of_r) .none kV41 dc41 pm41 an41 cd41 ct41), sl41⟩) (c41 : PySem.W.codeIn K cd41 "total_of" = true) (k41 : PySem.W.keepIn K (.ref f41) = true)
    {f42 : Addr} {od42 an42 : Option Addr} {sl42 : Array (Option Value)} {oc42 kV42 dc42 pm42 cd42 ct42 : Value}
    (a42 : PySem.W.nsIn K mainGlobals "turns" = some (some (.ref f42))) (l42 : K.lookup f42 = some ⟨oc42, od42, .func (PySem.W.fnOf "turns" "turns" (defArgs s_turns_r) (defBody s_turns_r) (defScope s_turns_r) .none kV42 dc42 pm42 an42 cd42 ct42), sl42⟩) (c42 : PySem.W.codeIn K cd42 "turns" = true) (k42 : PySem.W.keepIn K (.ref f42) = true)
    {f43 : Addr} {od43 an43 : Option Addr} {sl43 : Array (Option Value)} {oc43 kV43 dc43 pm43 cd43 ct43 : Value}
    (a43 : PySem.W.findIn K (.ref C_DealD) "__init__" = some (some (.ref f43))) (l43 : K.lookup f43 = some ⟨oc43, od43, .func (PySem.W.fnOf "__init__" "Deal.__init__" (defArgs s_DealD___init__) (defBody s_DealD___init__) (defScope s_DealD___init__) .none kV43 dc43 pm43 an43 cd43 ct43), sl43⟩) (c43 : PySem.W.codeIn K cd43 "Deal.__init__" = true) (k43 : PySem.W.keepIn K (.ref f43) = true) (i43 : PySem.W.isFn K (.ref f43) = true)
    {dT44 : Addr} {dtd44 : Option Addr} {dts44 : Array (Option Value)} {dn44 : Nat}
    {f44 : Addr} {od44 an44 : Option Addr} {sl44 : Array (Option Value)} {oc44 kV44 dc44 pm44 cd44 ct44 : Value}
    (a44 : PySem.W.findIn K (.ref C_CoverR) "__init__" = some (some (.ref f44))) (l44 : K.lookup f44 = some ⟨oc44, od44, .func (PySem.W.fnOf "__init__" "Cover.__init__" (defArgs s_CoverR___init__) (defBody s_CoverR___init__) (defScope s_CoverR___init__) (.ref dT44) kV44 dc44 pm44 an44 cd44 ct44), sl44⟩) (dl44 : K.lookup dT44 = some ⟨.type "tuple", dtd44, .seq #[.none, .none, .bool false] dn44, dts44⟩) (c44 : PySem.W.codeIn K cd44 "Cover.__init__" = true) (k44 : PySem.W.keepIn K (.ref f44) = true) (i44 : PySem.W.isFn K (.ref f44) = true)
    {f45 : Addr} {od45 an45 : Option Addr} {sl45 : Array (Option Value)} {oc45 kV45 dc45 pm45 cd45 ct45 : Value}
    (a45 : PySem.W.nsIn K mainGlobals "_law_refused" = some (some (.ref f45))) (l45 : K.lookup f45 = some ⟨oc45, od45, .func (PySem.W.fnOf "_law_refused" "_law_refused" (defArgs s__law_refused) (defBody s__law_refused) (defScope s__law_refused) .none kV45 dc45 pm45 an45 cd45 ct45), sl45⟩) (c45 : PySem.W.codeIn K cd45 "_law_refused" = true) (k45 : PySem.W.keepIn K (.ref f45) = true)
    {f46 : Addr} {od46 an46 : Option Addr} {sl46 : Array (Option Value)} {oc46 kV46 dc46 pm46 cd46 ct46 : Value}
    (a46 : PySem.W.nsIn K mainGlobals "_law_refused" = some (some (.ref f46))) (l46 : K.lookup f46 = some ⟨oc46, od46, .func (PySem.W.fnOf "_law_refused" "_law_refused" (defArgs s__law_refused_g) (defBody s__law_refused_g) (defScope s__law_refused_g) .none kV46 dc46 pm46 an46 cd46 ct46), sl46⟩) (c46 : PySem.W.codeIn K cd46 "_law_refused" = true) (k46 : PySem.W.keepIn K (.ref f46) = true)
    {f47 : Addr} {od47 an47 : Option Addr} {sl47 : Array (Option Value)} {oc47 kV47 dc47 pm47 cd47 ct47 : Value}
    (a47 : PySem.W.nsIn K mainGlobals "law" = some (some (.ref f47))) (l47 : K.lookup f47 = some ⟨oc47, od47, .func (PySem.W.fnOf "law" "law" (defArgs s_law) (defBody s_law) (defScope s_law) .none kV47 dc47 pm47 an47 cd47 ct47), sl47⟩) (c47 : PySem.W.codeIn K cd47 "law" = true) (k47 : PySem.W.keepIn K (.ref f47) = true)
    (hnO : PySem.W.specialIn K (.builtin "object.__class__") "__get__" = some (some (.builtin "getset_descriptor.__get__"))) (htkO : PySem.W.takesIn K (.builtin "object.__class__") = some true)
    (ha_Deal : PySem.W.findIn K (.ref C_Deal) "__class__" = some (some (.builtin "object.__class__"))) (hm_Deal : PySem.W.mroIn K C_Deal (.type "object") = some true)
    (mr_Deal_Deal : PySem.W.mroIn K C_Deal (.ref C_Deal) = some true)
    (mr_NoCover_NoBook : PySem.W.mroIn K C_NoCover (.ref C_NoBook) = some false)
    (ms_NoCover : PySem.W.mroIn K C_NoCover (.ref C_NoCover) = some true)
    (mr_NoShares_NoBook : PySem.W.mroIn K C_NoShares (.ref C_NoBook) = some false)
    (ms_NoShares : PySem.W.mroIn K C_NoShares (.ref C_NoShares) = some true)
    (mr_NoCover_NoClause : PySem.W.mroIn K C_NoCover (.ref C_NoClause) = some false)
    (mr_NoShares_NoClause : PySem.W.mroIn K C_NoShares (.ref C_NoClause) = some false)
    (mr_NoCover_NoEntry : PySem.W.mroIn K C_NoCover (.ref C_NoEntry) = some false)
    (mr_NoShares_NoEntry : PySem.W.mroIn K C_NoShares (.ref C_NoEntry) = some false)
    (mr_NoCover_NoCover : PySem.W.mroIn K C_NoCover (.ref C_NoCover) = some true)
    (mr_NoShares_NoCover : PySem.W.mroIn K C_NoShares (.ref C_NoCover) = some false)
    (mr_NoCover_NoShares : PySem.W.mroIn K C_NoCover (.ref C_NoShares) = some false)
    (mr_NoShares_NoShares : PySem.W.mroIn K C_NoShares (.ref C_NoShares) = some true)
    (mr_NoCover_ValueError : PySem.W.mroIn K C_NoCover (.type "ValueError") = some true)
    (mr_NoShares_ValueError : PySem.W.mroIn K C_NoShares (.type "ValueError") = some true)
    (ic_Deal : PySem.W.isClsIn K C_Deal = true) (ti_Deal : PySem.W.typeIn K (.ref C_Deal) = some (.type "type"))
    (ic_NoBook : PySem.W.isClsIn K C_NoBook = true) (ti_NoBook : PySem.W.typeIn K (.ref C_NoBook) = some (.type "type"))
    (ic_NoClause : PySem.W.isClsIn K C_NoClause = true) (ti_NoClause : PySem.W.typeIn K (.ref C_NoClause) = some (.type "type"))
    (ic_NoCover : PySem.W.isClsIn K C_NoCover = true) (ti_NoCover : PySem.W.typeIn K (.ref C_NoCover) = some (.type "type"))
    (ic_NoEntry : PySem.W.isClsIn K C_NoEntry = true) (ti_NoEntry : PySem.W.typeIn K (.ref C_NoEntry) = some (.type "type"))
    (ic_NoShares : PySem.W.isClsIn K C_NoShares = true) (ti_NoShares : PySem.W.typeIn K (.ref C_NoShares) = some (.type "type"))
    (rd_Clause : PySem.W.readsIn K C_Clause (.type "type") = true) (ga_Clause : PySem.W.specialIn K (.ref C_Clause) "__getattribute__" = some (some (.builtin "type.__getattribute__")))
    (fc_Clause___init__ : PySem.W.findCls K (.ref C_Clause) (.type "type") "__init__" = some (.val (.ref f3)))
    {ta_WAYS : Addr} {to_WAYS : Option Addr} {ts_WAYS : Array (Option Value)} {tm_WAYS : Nat} {tt_WAYS_0 tt_WAYS_1 tt_WAYS_2 tt_WAYS_3 : Tok} (tn_WAYS : PySem.W.nsIn K mainGlobals "WAYS" = some (some (.ref ta_WAYS))) (tl_WAYS : K.lookup ta_WAYS = some ⟨.type "tuple", to_WAYS, .seq #[.str "event" tt_WAYS_0, .str "thing" tt_WAYS_1, .str "year" tt_WAYS_2, .str "loss" tt_WAYS_3] tm_WAYS, ts_WAYS⟩)
    (z_len : PySem.W.nsIn K mainGlobals "len" = some none)
    (z_range : PySem.W.nsIn K mainGlobals "range" = some none)
    (z_int : PySem.W.nsIn K mainGlobals "int" = some none)
    (z_min : PySem.W.nsIn K mainGlobals "min" = some none)
    (z_bool : PySem.W.nsIn K mainGlobals "bool" = some none)
    (z_isinstance : PySem.W.nsIn K mainGlobals "isinstance" = some none)
    (z_divmod : PySem.W.nsIn K mainGlobals "divmod" = some none)
    (z_str : PySem.W.nsIn K mainGlobals "str" = some none)
    (z_list : PySem.W.nsIn K mainGlobals "list" = some none)
    (z_sum : PySem.W.nsIn K mainGlobals "sum" = some none)
    (z_ValueError : PySem.W.nsIn K mainGlobals "ValueError" = some none)
    {tg_MOST_CENTS : Tok} (g_MOST_CENTS : PySem.W.nsIn K mainGlobals "MOST_CENTS" = some (some (.int 999999999999 tg_MOST_CENTS)))
    {tg_LETTERS : Tok} (g_LETTERS : PySem.W.nsIn K mainGlobals "LETTERS" = some (some (.str "abcdefghijklmnopqrstuvwxyz" tg_LETTERS)))
    {tg_MOST_PLACES : Tok} (g_MOST_PLACES : PySem.W.nsIn K mainGlobals "MOST_PLACES" = some (some (.int 8 tg_MOST_PLACES)))
    {tg_MOST_TURNS : Tok} (g_MOST_TURNS : PySem.W.nsIn K mainGlobals "MOST_TURNS" = some (some (.int 100 tg_MOST_TURNS)))
    {tg_MOST_CLAUSES : Tok} (g_MOST_CLAUSES : PySem.W.nsIn K mainGlobals "MOST_CLAUSES" = some (some (.int 8 tg_MOST_CLAUSES)))
    : ∃ fd : FuncData, (∀ (s : Shared) (v : Value), BindsTo s fd ⟨[v], []⟩ [("_law_script", v)]) ∧ ∀ base : Heap, K.In base → base.Ns mainGlobals mg → FnOk l.prog w K mg base CX0 9 fa fd ["_law_script"] (spLaw K) := by
  have e := hfa.symm.trans (PySem.W.mg_of X G a47)
  cases e
  have q_Deal_Deal := kit_true ic_Deal ti_Deal mr_Deal_Deal
  have q_NoCover_NoCover := kit_true ic_NoCover ti_NoCover mr_NoCover_NoCover
  have q_NoShares_NoShares := kit_true ic_NoShares ti_NoShares mr_NoShares_NoShares
  have q_NoCover_NoBook := kit_false ms_NoCover ic_NoBook ti_NoBook mr_NoCover_NoBook
  have q_NoShares_NoBook := kit_false ms_NoShares ic_NoBook ti_NoBook mr_NoShares_NoBook
  have q_NoCover_NoClause := kit_false ms_NoCover ic_NoClause ti_NoClause mr_NoCover_NoClause
  have q_NoShares_NoClause := kit_false ms_NoShares ic_NoClause ti_NoClause mr_NoShares_NoClause
  have q_NoCover_NoEntry := kit_false ms_NoCover ic_NoEntry ti_NoEntry mr_NoCover_NoEntry
  have q_NoShares_NoEntry := kit_false ms_NoShares ic_NoEntry ti_NoEntry mr_NoShares_NoEntry
  have q_NoShares_NoCover := kit_false ms_NoShares ic_NoCover ti_NoCover mr_NoShares_NoCover
  have q_NoCover_NoShares := kit_false ms_NoCover ic_NoShares ti_NoShares mr_NoCover_NoShares
  have q_NoCover_ValueError : PySem.W.kitOne K (.ref C_NoCover) (.type "ValueError") = some true := kit_ty (by decide +kernel) mr_NoCover_ValueError
  have q_NoShares_ValueError : PySem.W.kitOne K (.ref C_NoShares) (.type "ValueError") = some true := kit_ty (by decide +kernel) mr_NoShares_ValueError
  have z_len := PySem.W.mg_none_of X G z_len
  have z_range := PySem.W.mg_none_of X G z_range
  have z_int := PySem.W.mg_none_of X G z_int
  have z_min := PySem.W.mg_none_of X G z_min
  have z_bool := PySem.W.mg_none_of X G z_bool
  have z_isinstance := PySem.W.mg_none_of X G z_isinstance
  have z_divmod := PySem.W.mg_none_of X G z_divmod
  have z_str := PySem.W.mg_none_of X G z_str
  have z_list := PySem.W.mg_none_of X G z_list
  have z_sum := PySem.W.mg_none_of X G z_sum
  have z_ValueError := PySem.W.mg_none_of X G z_ValueError
  have g_MOST_CENTS := PySem.W.mg_of X G g_MOST_CENTS
  have g_LETTERS := PySem.W.mg_of X G g_LETTERS
  have g_MOST_PLACES := PySem.W.mg_of X G g_MOST_PLACES
  have g_MOST_TURNS := PySem.W.mg_of X G g_MOST_TURNS
  have g_MOST_CLAUSES := PySem.W.mg_of X G g_MOST_CLAUSES
  have F0 := fun_mk (st := s__law_cell) l0 c0 k0
  have b0 := F0.binds (ps := ["_law_script", "_law_k"]) fun _ _ _ _ _ _ us hl => match us, hl with | [_, _], _ => rfl
  have F1 := fun_mk (st := s__law_names) l1 c1 k1
  have b1 := F1.binds (ps := ["_law_cell_here"]) fun _ _ _ _ _ _ us hl => match us, hl with | [_], _ => rfl
  have F2 := fun_mk (st := s__law_houses) l2 c2 k2
  have b2 := F2.binds (ps := ["_law_script", "_law_names_here"]) fun _ _ _ _ _ _ us hl => match us, hl with | [_, _], _ => rfl
  have F3 := fun_mk (st := s_Clause___init__) l3 c3 k3
  have b3 := F3.binds (ps := ["self", "by"]) fun _ _ _ _ _ _ us hl => match us, hl with | [_, _], _ => rfl
  have F4 := fun_mk (st := s_is_whole) l4 c4 k4
  have b4 := F4.binds (ps := ["thing"]) fun _ _ _ _ _ _ us hl => match us, hl with | [_], _ => rfl
  have F5 := fun_mk (st := s_is_amount) l5 c5 k5
  have b5 := F5.binds (ps := ["thing"]) fun _ _ _ _ _ _ us hl => match us, hl with | [_], _ => rfl
  have F6 := fun_mk (st := s_need_amount) l6 c6 k6
  have b6 := F6.binds (ps := ["thing"]) fun _ _ _ _ _ _ us hl => match us, hl with | [_], _ => rfl
  have F7 := fun_mk (st := s_Own___init__) l7 c7 k7
  have b7 := F7.binds (ps := ["self", "by", "cents"]) fun _ _ _ _ _ _ us hl => match us, hl with | [_, _, _], _ => rfl
  have F8 := fun_mk (st := s_show_cents) l8 c8 k8
  have b8 := F8.binds (ps := ["cents"]) fun _ _ _ _ _ _ us hl => match us, hl with | [_], _ => rfl
  have F9 := fun_mk (st := s_Own_words) l9 c9 k9
  have b9 := F9.binds (ps := ["self"]) fun _ _ _ _ _ _ us hl => match us, hl with | [_], _ => rfl
  have F10 := fun_mk (st := s_CauseIs___init__) l10 c10 k10
  have b10 := F10.binds (ps := ["self", "name"]) fun _ _ _ _ _ _ us hl => match us, hl with | [_, _], _ => rfl
  have F11 := fun_mk (st := s_ThingIs___init__) l11 c11 k11
  have b11 := F11.binds (ps := ["self", "name"]) fun _ _ _ _ _ _ us hl => match us, hl with | [_, _], _ => rfl
  have F12 := fun_mk (st := s_Over___init__) l12 c12 k12
  have b12 := F12.binds (ps := ["self", "cents"]) fun _ _ _ _ _ _ us hl => match us, hl with | [_, _], _ => rfl
  have F13 := fun_mk (st := s_is_name_s) l13 c13 k13
  have b13 := F13.binds (ps := ["thing"]) fun _ _ _ _ _ _ us hl => match us, hl with | [_], _ => rfl
  have F14 := fun_mk (st := s_need_houses_g) l14 c14 k14
  have b14 := F14.binds (ps := ["pairs"]) fun _ _ _ _ _ _ us hl => match us, hl with | [_], _ => rfl
  have F15 := fun_mk (st := s_total_of) l15 c15 k15
  have b15 := F15.binds (ps := ["weights"]) fun _ _ _ _ _ _ us hl => match us, hl with | [_], _ => rfl
  have F16 := fun_mk (st := s_due_by) l16 c16 k16
  have b16 := F16.binds (ps := ["given", "weight", "total"]) fun _ _ _ _ _ _ us hl => match us, hl with | [_, _, _], _ => rfl
  have F17 := fun_mk (st := s_next_place) l17 c17 k17
  have b17 := F17.binds (ps := ["weights", "given", "total", "n"]) fun _ _ _ _ _ _ us hl => match us, hl with | [_, _, _, _], _ => rfl
  have F18 := fun_mk (st := s_turns) l18 c18 k18
  have b18 := F18.binds (ps := ["weights"]) fun _ _ _ _ _ _ us hl => match us, hl with | [_], _ => rfl
  have F19 := fun_mk (st := s_Deal___init__) l19 c19 k19
  have b19 := F19.binds (ps := ["self", "weights"]) fun _ _ _ _ _ _ us hl => match us, hl with | [_, _], _ => rfl
  have F20 := fun_mkD (st := s_Cover___init__) (dvs := [.non, .non, .bl false]) (its := [.none, .none, .bool false]) l20 c20 k20 dl20 (.cons rfl (.cons rfl (.cons rfl .nil))) (by decide)
  obtain ⟨ddi_Cover__4, hvi_Cover__4, hbi_Cover__4⟩ := F20.binds1 (ps := ["self", "name", "condition", "clauses", "houses", "waits"]) 5 2 (by decide) rfl fun T kV doc pm an cdv ct us its hu hi => match us, its, hu, hi with | [_, _, _, _, _], [_, _, _], _, _ => ⟨_, rfl, rfl⟩
  obtain ⟨ddi_Cover__5, hvi_Cover__5, hbi_Cover__5⟩ := F20.binds1 (ps := ["self", "name", "condition", "clauses", "houses", "waits"]) 6 3 (by decide) rfl fun T kV doc pm an cdv ct us its hu hi => match us, its, hu, hi with | [_, _, _, _, _, _], [_, _, _], _, _ => ⟨_, rfl, rfl⟩
  have F21 := fun_mkD (st := s_CoverP___init__) (dvs := [.non, .non, .bl false]) (its := [.none, .none, .bool false]) l21 c21 k21 dl21 (.cons rfl (.cons rfl (.cons rfl .nil))) (by decide)
  obtain ⟨ddi_CoverP__2, hvi_CoverP__2, hbi_CoverP__2⟩ := F21.binds1 (ps := ["self", "name", "condition", "clauses", "houses", "waits"]) 3 0 (by decide) rfl fun T kV doc pm an cdv ct us its hu hi => match us, its, hu, hi with | [_, _, _], [_, _, _], _, _ => ⟨_, rfl, rfl⟩
  have F22 := fun_mk (st := s_Deal_counts_to) l22 c22 k22
  have b22 := F22.binds (ps := ["self", "n"]) fun _ _ _ _ _ _ us hl => match us, hl with | [_, _], _ => rfl
  have F23 := fun_mk (st := s__law_kept) l23 c23 k23
  have b23 := F23.binds (ps := ["_law_cover", "_law_name", "_law_clauses", "_law_pairs", "_law_waits"]) fun _ _ _ _ _ _ us hl => match us, hl with | [_, _, _, _, _], _ => rfl
  have F24 := fun_mk (st := s__law_kept_p) l24 c24 k24
  have b24 := F24.binds (ps := ["_law_cover", "_law_name", "_law_clauses", "_law_pairs", "_law_waits"]) fun _ _ _ _ _ _ us hl => match us, hl with | [_, _, _, _, _], _ => rfl
  have F25 := fun_mk (st := s_Condition_words) l25 c25 k25
  have b25 := F25.binds (ps := ["self"]) fun _ _ _ _ _ _ us hl => match us, hl with | [_], _ => rfl
  have F26 := fun_mk (st := s_CauseIs_words) l26 c26 k26
  have b26 := F26.binds (ps := ["self"]) fun _ _ _ _ _ _ us hl => match us, hl with | [_], _ => rfl
  have F27 := fun_mk (st := s_ThingIs_words) l27 c27 k27
  have b27 := F27.binds (ps := ["self"]) fun _ _ _ _ _ _ us hl => match us, hl with | [_], _ => rfl
  have F28 := fun_mk (st := s_Over_words) l28 c28 k28
  have b28 := F28.binds (ps := ["self"]) fun _ _ _ _ _ _ us hl => match us, hl with | [_], _ => rfl
  have F29 := fun_mk (st := s_Condition_holds) l29 c29 k29
  have b29 := F29.binds (ps := ["self", "loss"]) fun _ _ _ _ _ _ us hl => match us, hl with | [_, _], _ => rfl
  have F30 := fun_mk (st := s_CauseIs_holds) l30 c30 k30
  have b30 := F30.binds (ps := ["self", "loss"]) fun _ _ _ _ _ _ us hl => match us, hl with | [_, _], _ => rfl
  have F31 := fun_mk (st := s_ThingIs_holds) l31 c31 k31
  have b31 := F31.binds (ps := ["self", "loss"]) fun _ _ _ _ _ _ us hl => match us, hl with | [_, _], _ => rfl
  have F32 := fun_mk (st := s_Over_holds) l32 c32 k32
  have b32 := F32.binds (ps := ["self", "loss"]) fun _ _ _ _ _ _ us hl => match us, hl with | [_, _], _ => rfl
  have F33 := fun_mk (st := s_Cover_asks) l33 c33 k33
  have b33 := F33.binds (ps := ["self", "loss"]) fun _ _ _ _ _ _ us hl => match us, hl with | [_, _], _ => rfl
  have F34 := fun_mk (st := s__law_asks) l34 c34 k34
  have b34 := F34.binds (ps := ["_law_cover", "_law_way", "_law_name", "_law_cents"]) fun _ _ _ _ _ _ us hl => match us, hl with | [_, _, _, _], _ => rfl
  have F35 := fun_mk (st := s_CoverP_asks) l35 c35 k35
  have b35 := F35.binds (ps := ["self", "loss"]) fun _ _ _ _ _ _ us hl => match us, hl with | [_, _], _ => rfl
  have F36 := fun_mk (st := s__law_asks_p) l36 c36 k36
  have b36 := F36.binds (ps := ["_law_cover", "_law_way", "_law_name", "_law_cents"]) fun _ _ _ _ _ _ us hl => match us, hl with | [_, _, _, _], _ => rfl
  have F37 := fun_mk (st := s__law_bad_pairs) l37 c37 k37
  have b37 := F37.binds (ps := ["_law_pairs", "_law_way", "_law_cell_here"]) fun _ _ _ _ _ _ us hl => match us, hl with | [_, _, _], _ => rfl
  have F38 := fun_mk (st := s_is_name) l38 c38 k38
  have b38 := F38.binds (ps := ["thing"]) fun _ _ _ _ _ _ us hl => match us, hl with | [_], _ => rfl
  have F39 := fun_mk (st := s_need_houses) l39 c39 k39
  have b39 := F39.binds (ps := ["pairs"]) fun _ _ _ _ _ _ us hl => match us, hl with | [_], _ => rfl
  have F40 := fun_mk (st := s_is_whole_d) l40 c40 k40
  have b40 := F40.binds (ps := ["thing"]) fun _ _ _ _ _ _ us hl => match us, hl with | [_], _ => rfl
  have F41 := fun_mk (st := s_total_of_r) l41 c41 k41
  have b41 := F41.binds (ps := ["weights"]) fun _ _ _ _ _ _ us hl => match us, hl with | [_], _ => rfl
  have F42 := fun_mk (st := s_turns_r) l42 c42 k42
  have b42 := F42.binds (ps := ["weights"]) fun _ _ _ _ _ _ us hl => match us, hl with | [_], _ => rfl
  have F43 := fun_mk (st := s_DealD___init__) l43 c43 k43
  have b43 := F43.binds (ps := ["self", "weights"]) fun _ _ _ _ _ _ us hl => match us, hl with | [_, _], _ => rfl
  have F44 := fun_mkD (st := s_CoverR___init__) (dvs := [.non, .non, .bl false]) (its := [.none, .none, .bool false]) l44 c44 k44 dl44 (.cons rfl (.cons rfl (.cons rfl .nil))) (by decide)
  obtain ⟨ddi_CoverR__4, hvi_CoverR__4, hbi_CoverR__4⟩ := F44.binds1 (ps := ["self", "name", "condition", "clauses", "houses", "waits"]) 5 2 (by decide) rfl fun T kV doc pm an cdv ct us its hu hi => match us, its, hu, hi with | [_, _, _, _, _], [_, _, _], _, _ => ⟨_, rfl, rfl⟩
  have F45 := fun_mk (st := s__law_refused) l45 c45 k45
  have b45 := F45.binds (ps := ["_law_name", "_law_clauses", "_law_pairs"]) fun _ _ _ _ _ _ us hl => match us, hl with | [_, _, _], _ => rfl
  have F46 := fun_mk (st := s__law_refused_g) l46 c46 k46
  have b46 := F46.binds (ps := ["_law_name", "_law_clauses", "_law_pairs"]) fun _ _ _ _ _ _ us hl => match us, hl with | [_, _, _], _ => rfl
  have F47 := fun_mk (st := s_law) l47 c47 k47
  refine ⟨PySem.W.fnOf "law" "law" (defArgs s_law) (defBody s_law) (defScope s_law) .none kV47 dc47 pm47 an47 cd47 ct47, fun s v => .of_eq rfl, fun base _ _ => ?_⟩
  have n__law_cell : Fn1 l.prog w K mg base "_law_cell" 1 ["_law_script", "_law_k"] (sp__law_cell K) := ⟨_, _, PySem.W.mg_of X G a0, k0, b0, ok__law_cell F0 z_len⟩
  have n__law_names : Fn1 l.prog w K mg base "_law_names" 1 ["_law_cell_here"] (sp__law_names K) := ⟨_, _, PySem.W.mg_of X G a1, k1, b1, ok__law_names F1 z_range z_len z_int⟩
  have n__law_houses : Fn1 l.prog w K mg base "_law_houses" 2 ["_law_script", "_law_names_here"] (sp__law_houses K) := ⟨_, _, PySem.W.mg_of X G a2, k2, b2, ok__law_houses F2 z_range z_min n__law_cell⟩
  have o_Clause___init__ := ok_Clause___init__ (P := l.prog) (w := w) (mg := mg) (base := base)  F3 ⟨⟨ta_WAYS, _, _, _, [V.str "event", V.str "thing", V.str "year", V.str "loss"], PySem.W.mg_of X G tn_WAYS, tl_WAYS, rfl, rfl, Nat.le_of_lt (small1000 (by show 4 ≤ 1000; decide)), (.cons ⟨_, rfl⟩ (.cons ⟨_, rfl⟩ (.cons ⟨_, rfl⟩ (.cons ⟨_, rfl⟩ .nil)))), fun Z => (.cons (.str _) (.cons (.str _) (.cons (.str _) (.cons (.str _) .nil))))⟩⟩
  have nb_Clause___init__ : Cf1 l.prog w K mg base "Clause" "__init__" 1 ["self", "by"] (sp_Clause___init__ K) := ⟨C_Clause, .type "type", f3, _, PySem.W.mg_of X G a_Clause, ⟨rd_Clause, ga_Clause⟩, ⟨fc_Clause___init__, rfl⟩, k3, b3, o_Clause___init__⟩
  have n_is_whole : Fn1 l.prog w K mg base "is_whole" 1 ["thing"] (sp_is_whole K) := ⟨_, _, PySem.W.mg_of X G a4, k4, b4, ok_is_whole F4 z_bool z_int z_isinstance⟩
  have n_is_amount : Fn1 l.prog w K mg base "is_amount" 2 ["thing"] (sp_is_amount K) := ⟨_, _, PySem.W.mg_of X G a5, k5, b5, ok_is_amount F5 g_MOST_CENTS n_is_whole⟩
  have n_need_amount : Fn1 l.prog w K mg base "need_amount" 3 ["thing"] (sp_need_amount K) := ⟨_, _, PySem.W.mg_of X G a6, k6, b6, ok_need_amount F6 n_is_amount⟩
  have o_Own___init__ := ok_Own___init__ (P := l.prog) (w := w) (mg := mg) (base := base) (C_Own := C_Own) F7 ⟨⟨pg_Own, hd_Own, po_Own, sa_Own⟩, fun _ => fun m => (List.mem_cons.mp m).elim (fun e => by rw [e]; exact na_Own_by) (fun m => (List.mem_cons.mp m).elim (fun e => by rw [e]; exact na_Own_cents) (fun m => (nomatch m)))⟩ nb_Clause___init__ n_need_amount
  have ni_Own : Mk1 l.prog w K mg base "Own" C_Own 4 ["self", "by", "cents"] (spI_Own___init__ K C_Own) := ⟨_, _, PySem.W.mg_of X G a_Own, ⟨mk_Own, a7, i7, kc_Own⟩, b7, toI_Own___init__ o_Own___init__⟩
  have n_show_cents : Fn1 l.prog w K mg base "show_cents" 1 ["cents"] (sp_show_cents K) := ⟨_, _, PySem.W.mg_of X G a8, k8, b8, ok_show_cents F8 z_divmod z_str⟩
  have o_Own_words := ok_Own_words (P := l.prog) (w := w) (mg := mg) (base := base) (C_Own := C_Own) F9 ⟨⟨pg_Own, hd_Own, po_Own, sa_Own⟩, fun _ => fun m => (List.mem_cons.mp m).elim (fun e => by rw [e]; exact na_Own_by) (fun m => (List.mem_cons.mp m).elim (fun e => by rw [e]; exact na_Own_cents) (fun m => (nomatch m)))⟩ n_show_cents
  have nm_Own_words : Mt1 l.prog w K mg base C_Own "words" 2 ["self"] (sp_Own_words K C_Own) := ⟨_, _, ⟨a9, i9, k9⟩, b9, o_Own_words⟩
  have o_CauseIs___init__ := ok_CauseIs___init__ (P := l.prog) (w := w) (mg := mg) (base := base) (C_CauseIs := C_CauseIs) F10 ⟨⟨pg_CauseIs, hd_CauseIs, po_CauseIs, sa_CauseIs⟩, fun _ => fun m => (List.mem_cons.mp m).elim (fun e => by rw [e]; exact na_CauseIs_name) (fun m => (nomatch m))⟩
  have ni_CauseIs : Mk1 l.prog w K mg base "CauseIs" C_CauseIs 1 ["self", "name"] (spI_CauseIs___init__ K C_CauseIs) := ⟨_, _, PySem.W.mg_of X G a_CauseIs, ⟨mk_CauseIs, a10, i10, kc_CauseIs⟩, b10, toI_CauseIs___init__ o_CauseIs___init__⟩
  have o_ThingIs___init__ := ok_ThingIs___init__ (P := l.prog) (w := w) (mg := mg) (base := base) (C_ThingIs := C_ThingIs) F11 ⟨⟨pg_ThingIs, hd_ThingIs, po_ThingIs, sa_ThingIs⟩, fun _ => fun m => (List.mem_cons.mp m).elim (fun e => by rw [e]; exact na_ThingIs_name) (fun m => (nomatch m))⟩
  have ni_ThingIs : Mk1 l.prog w K mg base "ThingIs" C_ThingIs 1 ["self", "name"] (spI_ThingIs___init__ K C_ThingIs) := ⟨_, _, PySem.W.mg_of X G a_ThingIs, ⟨mk_ThingIs, a11, i11, kc_ThingIs⟩, b11, toI_ThingIs___init__ o_ThingIs___init__⟩
  have o_Over___init__ := ok_Over___init__ (P := l.prog) (w := w) (mg := mg) (base := base) (C_Over := C_Over) F12 ⟨⟨pg_Over, hd_Over, po_Over, sa_Over⟩, fun _ => fun m => (List.mem_cons.mp m).elim (fun e => by rw [e]; exact na_Over_cents) (fun m => (nomatch m))⟩
  have ni_Over : Mk1 l.prog w K mg base "Over" C_Over 1 ["self", "cents"] (spI_Over___init__ K C_Over) := ⟨_, _, PySem.W.mg_of X G a_Over, ⟨mk_Over, a12, i12, kc_Over⟩, b12, toI_Over___init__ o_Over___init__⟩
  have n_is_name_s : Fn1 l.prog w K mg base "is_name" 1 ["thing"] (sp_is_name_s K) := ⟨_, _, PySem.W.mg_of X G a13, k13, b13, ok_is_name_s F13 z_isinstance z_str z_len g_LETTERS⟩
  have n_need_houses_g : Fn1 l.prog w K mg base "need_houses" 2 ["pairs"] (sp_need_houses_g K) := ⟨_, _, PySem.W.mg_of X G a14, k14, b14, ok_need_houses_g F14 n_is_name_s⟩
  have n_total_of : Fn1 l.prog w K mg base "total_of" 2 ["weights"] (sp_total_of K) := ⟨_, _, PySem.W.mg_of X G a15, k15, b15, ok_total_of F15 z_isinstance z_len z_list z_sum g_MOST_PLACES g_MOST_TURNS n_is_whole⟩
  have n_due_by : Fn1 l.prog w K mg base "due_by" 1 ["given", "weight", "total"] (sp_due_by K) := ⟨_, _, PySem.W.mg_of X G a16, k16, b16, ok_due_by F16 ⟩
  have n_next_place : Fn1 l.prog w K mg base "next_place" 2 ["weights", "given", "total", "n"] (sp_next_place K) := ⟨_, _, PySem.W.mg_of X G a17, k17, b17, ok_next_place F17 z_len z_range n_due_by⟩
  have n_turns : Fn1 l.prog w K mg base "turns" 3 ["weights"] (sp_turns K) := ⟨_, _, PySem.W.mg_of X G a18, k18, b18, ok_turns F18 z_range n_total_of n_next_place⟩
  have o_Deal___init__ := ok_Deal___init__ (P := l.prog) (w := w) (mg := mg) (base := base) (C_Deal := C_Deal) F19 z_list ⟨⟨pg_Deal, hd_Deal, po_Deal, sa_Deal⟩, fun _ => fun m => (List.mem_cons.mp m).elim (fun e => by rw [e]; exact na_Deal_wheel) (fun m => (List.mem_cons.mp m).elim (fun e => by rw [e]; exact na_Deal_weights) (fun m => (nomatch m)))⟩ n_turns
  have ni_Deal : Mk1 l.prog w K mg base "Deal" C_Deal 4 ["self", "weights"] (sp_Deal___init__ K C_Deal) := ⟨_, _, PySem.W.mg_of X G a_Deal, ⟨mk_Deal, a19, i19, kc_Deal⟩, b19, o_Deal___init__⟩
  have o_Cover___init__ := ok_Cover___init__ (P := l.prog) (w := w) (mg := mg) (base := base) (C_Cover := C_Cover) (C_Condition := C_Condition) (C_CauseIs := C_CauseIs) (C_ThingIs := C_ThingIs) (C_Over := C_Over) (C_Own := C_Own) (C_Deal := C_Deal) F20 z_list z_len g_MOST_CLAUSES ⟨⟨pg_Cover, hd_Cover, po_Cover, sa_Cover⟩, fun _ => fun m => (List.mem_cons.mp m).elim (fun e => by rw [e]; exact na_Cover_name) (fun m => (List.mem_cons.mp m).elim (fun e => by rw [e]; exact na_Cover_condition) (fun m => (List.mem_cons.mp m).elim (fun e => by rw [e]; exact na_Cover_clauses) (fun m => (List.mem_cons.mp m).elim (fun e => by rw [e]; exact na_Cover_houses) (fun m => (List.mem_cons.mp m).elim (fun e => by rw [e]; exact na_Cover_deal) (fun m => (List.mem_cons.mp m).elim (fun e => by rw [e]; exact na_Cover_waits) (fun m => (nomatch m)))))))⟩ n_is_name_s n_need_houses_g ni_Deal
  have ni_Cover__4 : Mk1D l.prog w K mg base "Cover" C_Cover 6 ["self", "name", "condition", "clauses", "houses", "waits"] [.bl false] (spI_Cover___init__ K C_Cover C_Condition C_CauseIs C_ThingIs C_Over C_Own C_Deal) := ⟨_, _, ddi_Cover__4, PySem.W.mg_of X G a_Cover, ⟨mk_Cover, a20, i20, kc_Cover⟩, hbi_Cover__4, hvi_Cover__4, toI_Cover___init__ o_Cover___init__⟩
  have ni_Cover__5 : Mk1D l.prog w K mg base "Cover" C_Cover 6 ["self", "name", "condition", "clauses", "houses", "waits"] [] (spI_Cover___init__ K C_Cover C_Condition C_CauseIs C_ThingIs C_Over C_Own C_Deal) := ⟨_, _, ddi_Cover__5, PySem.W.mg_of X G a_Cover, ⟨mk_Cover, a20, i20, kc_Cover⟩, hbi_Cover__5, hvi_Cover__5, toI_Cover___init__ o_Cover___init__⟩
  have o_CoverP___init__ := ok_CoverP___init__ (P := l.prog) (w := w) (mg := mg) (base := base) (C_CoverP := C_CoverP) (C_Condition := C_Condition) (C_CauseIs := C_CauseIs) (C_ThingIs := C_ThingIs) (C_Over := C_Over) (C_Own := C_Own) (C_Deal := C_Deal) F21 z_len g_MOST_CLAUSES ⟨⟨pg_CoverP, hd_CoverP, po_CoverP, sa_CoverP⟩, fun _ => fun m => (List.mem_cons.mp m).elim (fun e => by rw [e]; exact na_CoverP_name) (fun m => (List.mem_cons.mp m).elim (fun e => by rw [e]; exact na_CoverP_condition) (fun m => (List.mem_cons.mp m).elim (fun e => by rw [e]; exact na_CoverP_clauses) (fun m => (List.mem_cons.mp m).elim (fun e => by rw [e]; exact na_CoverP_houses) (fun m => (List.mem_cons.mp m).elim (fun e => by rw [e]; exact na_CoverP_deal) (fun m => (List.mem_cons.mp m).elim (fun e => by rw [e]; exact na_CoverP_waits) (fun m => (nomatch m)))))))⟩ n_is_name_s n_need_houses_g ni_Deal
  have ni_CoverP__2 : Mk1D l.prog w K mg base "Cover" C_CoverP 6 ["self", "name", "condition", "clauses", "houses", "waits"] [.non, .non, .bl false] (spI_CoverP___init__ K C_CoverP C_Condition C_CauseIs C_ThingIs C_Over C_Own C_Deal) := ⟨_, _, ddi_CoverP__2, PySem.W.mg_of X G a_CoverP, ⟨mk_CoverP, a21, i21, kc_CoverP⟩, hbi_CoverP__2, hvi_CoverP__2, toI_CoverP___init__ o_CoverP___init__⟩
  have o_Deal_counts_to := ok_Deal_counts_to (P := l.prog) (w := w) (mg := mg) (base := base) (C_Deal := C_Deal) F22 z_divmod z_len ⟨⟨pg_Deal, hd_Deal, po_Deal, sa_Deal⟩, fun _ => fun m => (List.mem_cons.mp m).elim (fun e => by rw [e]; exact na_Deal_wheel) (fun m => (List.mem_cons.mp m).elim (fun e => by rw [e]; exact na_Deal_weights) (fun m => (nomatch m)))⟩
  have nm_Deal_counts_to : Mt1 l.prog w K mg base C_Deal "counts_to" 2 ["self", "n"] (sp_Deal_counts_to K C_Deal) := ⟨_, _, ⟨a22, i22, k22⟩, b22, o_Deal_counts_to⟩
  have n__law_kept : Fn1 l.prog w K mg base "_law_kept" 6 ["_law_cover", "_law_name", "_law_clauses", "_law_pairs", "_law_waits"] (sp__law_kept K C_Cover C_Condition C_CauseIs C_ThingIs C_Over C_Own C_Deal) := ⟨_, _, PySem.W.mg_of X G a23, k23, b23, ok__law_kept F23 z_isinstance z_str z_bool z_list ⟨⟨pg_Cover, hd_Cover, po_Cover, sa_Cover⟩, fun _ => fun m => (List.mem_cons.mp m).elim (fun e => by rw [e]; exact na_Cover_name) (fun m => (List.mem_cons.mp m).elim (fun e => by rw [e]; exact na_Cover_condition) (fun m => (List.mem_cons.mp m).elim (fun e => by rw [e]; exact na_Cover_clauses) (fun m => (List.mem_cons.mp m).elim (fun e => by rw [e]; exact na_Cover_houses) (fun m => (List.mem_cons.mp m).elim (fun e => by rw [e]; exact na_Cover_deal) (fun m => (List.mem_cons.mp m).elim (fun e => by rw [e]; exact na_Cover_waits) (fun m => (nomatch m)))))))⟩ ⟨⟨pg_Own, hd_Own, po_Own, sa_Own⟩, fun _ => fun m => (List.mem_cons.mp m).elim (fun e => by rw [e]; exact na_Own_by) (fun m => (List.mem_cons.mp m).elim (fun e => by rw [e]; exact na_Own_cents) (fun m => (nomatch m)))⟩ ⟨⟨pg_Deal, hd_Deal, po_Deal, sa_Deal⟩, fun _ => fun m => (List.mem_cons.mp m).elim (fun e => by rw [e]; exact na_Deal_wheel) (fun m => (List.mem_cons.mp m).elim (fun e => by rw [e]; exact na_Deal_weights) (fun m => (nomatch m)))⟩ nm_Own_words (PySem.W.mg_of X G a_Deal) ⟨⟨pg_Deal, hd_Deal, po_Deal, sa_Deal⟩, ha_Deal, hnO, htkO, hm_Deal⟩ q_Deal_Deal nm_Deal_counts_to ni_Deal⟩
  have n__law_kept_p : Fn1 l.prog w K mg base "_law_kept" 6 ["_law_cover", "_law_name", "_law_clauses", "_law_pairs", "_law_waits"] (sp__law_kept_p K C_CoverP C_Condition C_CauseIs C_ThingIs C_Over C_Own C_Deal) := ⟨_, _, PySem.W.mg_of X G a24, k24, b24, ok__law_kept_p F24 z_isinstance z_str z_bool z_list ⟨⟨pg_CoverP, hd_CoverP, po_CoverP, sa_CoverP⟩, fun _ => fun m => (List.mem_cons.mp m).elim (fun e => by rw [e]; exact na_CoverP_name) (fun m => (List.mem_cons.mp m).elim (fun e => by rw [e]; exact na_CoverP_condition) (fun m => (List.mem_cons.mp m).elim (fun e => by rw [e]; exact na_CoverP_clauses) (fun m => (List.mem_cons.mp m).elim (fun e => by rw [e]; exact na_CoverP_houses) (fun m => (List.mem_cons.mp m).elim (fun e => by rw [e]; exact na_CoverP_deal) (fun m => (List.mem_cons.mp m).elim (fun e => by rw [e]; exact na_CoverP_waits) (fun m => (nomatch m)))))))⟩ ⟨⟨pg_Own, hd_Own, po_Own, sa_Own⟩, fun _ => fun m => (List.mem_cons.mp m).elim (fun e => by rw [e]; exact na_Own_by) (fun m => (List.mem_cons.mp m).elim (fun e => by rw [e]; exact na_Own_cents) (fun m => (nomatch m)))⟩ ⟨⟨pg_Deal, hd_Deal, po_Deal, sa_Deal⟩, fun _ => fun m => (List.mem_cons.mp m).elim (fun e => by rw [e]; exact na_Deal_wheel) (fun m => (List.mem_cons.mp m).elim (fun e => by rw [e]; exact na_Deal_weights) (fun m => (nomatch m)))⟩ nm_Own_words (PySem.W.mg_of X G a_Deal) ⟨⟨pg_Deal, hd_Deal, po_Deal, sa_Deal⟩, ha_Deal, hnO, htkO, hm_Deal⟩ q_Deal_Deal nm_Deal_counts_to ni_Deal⟩
  have o_Condition_words := ok_Condition_words (P := l.prog) (w := w) (mg := mg) (base := base) (C_Condition := C_Condition) (C_CauseIs := C_CauseIs) (C_ThingIs := C_ThingIs) (C_Over := C_Over) F25 
  have nm_Condition_words : Mt1 l.prog w K mg base C_Condition "words" 1 ["self"] (sp_Condition_words K C_Condition C_CauseIs C_ThingIs C_Over) := ⟨_, _, ⟨a25, i25, k25⟩, b25, o_Condition_words⟩
  have o_CauseIs_words := ok_CauseIs_words (P := l.prog) (w := w) (mg := mg) (base := base) (C_CauseIs := C_CauseIs) F26 ⟨⟨pg_CauseIs, hd_CauseIs, po_CauseIs, sa_CauseIs⟩, fun _ => fun m => (List.mem_cons.mp m).elim (fun e => by rw [e]; exact na_CauseIs_name) (fun m => (nomatch m))⟩
  have nm_CauseIs_words : Mt1 l.prog w K mg base C_CauseIs "words" 1 ["self"] (sp_CauseIs_words K C_CauseIs) := ⟨_, _, ⟨a26, i26, k26⟩, b26, o_CauseIs_words⟩
  have o_ThingIs_words := ok_ThingIs_words (P := l.prog) (w := w) (mg := mg) (base := base) (C_ThingIs := C_ThingIs) F27 ⟨⟨pg_ThingIs, hd_ThingIs, po_ThingIs, sa_ThingIs⟩, fun _ => fun m => (List.mem_cons.mp m).elim (fun e => by rw [e]; exact na_ThingIs_name) (fun m => (nomatch m))⟩
  have nm_ThingIs_words : Mt1 l.prog w K mg base C_ThingIs "words" 1 ["self"] (sp_ThingIs_words K C_ThingIs) := ⟨_, _, ⟨a27, i27, k27⟩, b27, o_ThingIs_words⟩
  have o_Over_words := ok_Over_words (P := l.prog) (w := w) (mg := mg) (base := base) (C_Over := C_Over) F28 ⟨⟨pg_Over, hd_Over, po_Over, sa_Over⟩, fun _ => fun m => (List.mem_cons.mp m).elim (fun e => by rw [e]; exact na_Over_cents) (fun m => (nomatch m))⟩ n_show_cents
  have nm_Over_words : Mt1 l.prog w K mg base C_Over "words" 2 ["self"] (sp_Over_words K C_Over) := ⟨_, _, ⟨a28, i28, k28⟩, b28, o_Over_words⟩
  have o_Condition_holds := ok_Condition_holds (P := l.prog) (w := w) (mg := mg) (base := base) (C_Condition := C_Condition) (C_CauseIs := C_CauseIs) (C_ThingIs := C_ThingIs) (C_Over := C_Over) F29 
  have nm_Condition_holds : Mt1 l.prog w K mg base C_Condition "holds" 1 ["self", "loss"] (sp_Condition_holds K C_Condition C_CauseIs C_ThingIs C_Over) := ⟨_, _, ⟨a29, i29, k29⟩, b29, o_Condition_holds⟩
  have o_CauseIs_holds := ok_CauseIs_holds (P := l.prog) (w := w) (mg := mg) (base := base) (C_CauseIs := C_CauseIs) F30 ⟨⟨pg_CauseIs, hd_CauseIs, po_CauseIs, sa_CauseIs⟩, fun _ => fun m => (List.mem_cons.mp m).elim (fun e => by rw [e]; exact na_CauseIs_name) (fun m => (nomatch m))⟩
  have nm_CauseIs_holds : Mt1 l.prog w K mg base C_CauseIs "holds" 1 ["self", "loss"] (sp_CauseIs_holds K C_CauseIs) := ⟨_, _, ⟨a30, i30, k30⟩, b30, o_CauseIs_holds⟩
  have o_ThingIs_holds := ok_ThingIs_holds (P := l.prog) (w := w) (mg := mg) (base := base) (C_ThingIs := C_ThingIs) F31 ⟨⟨pg_ThingIs, hd_ThingIs, po_ThingIs, sa_ThingIs⟩, fun _ => fun m => (List.mem_cons.mp m).elim (fun e => by rw [e]; exact na_ThingIs_name) (fun m => (nomatch m))⟩
  have nm_ThingIs_holds : Mt1 l.prog w K mg base C_ThingIs "holds" 1 ["self", "loss"] (sp_ThingIs_holds K C_ThingIs) := ⟨_, _, ⟨a31, i31, k31⟩, b31, o_ThingIs_holds⟩
  have o_Over_holds := ok_Over_holds (P := l.prog) (w := w) (mg := mg) (base := base) (C_Over := C_Over) F32 ⟨⟨pg_Over, hd_Over, po_Over, sa_Over⟩, fun _ => fun m => (List.mem_cons.mp m).elim (fun e => by rw [e]; exact na_Over_cents) (fun m => (nomatch m))⟩
  have nm_Over_holds : Mt1 l.prog w K mg base C_Over "holds" 1 ["self", "loss"] (sp_Over_holds K C_Over) := ⟨_, _, ⟨a32, i32, k32⟩, b32, o_Over_holds⟩
  have o_Cover_asks := ok_Cover_asks (P := l.prog) (w := w) (mg := mg) (base := base) (C_Cover := C_Cover) (C_Condition := C_Condition) (C_CauseIs := C_CauseIs) (C_ThingIs := C_ThingIs) (C_Over := C_Over) (C_Own := C_Own) (C_Deal := C_Deal) F33 ⟨⟨pg_Cover, hd_Cover, po_Cover, sa_Cover⟩, fun _ => fun m => (List.mem_cons.mp m).elim (fun e => by rw [e]; exact na_Cover_name) (fun m => (List.mem_cons.mp m).elim (fun e => by rw [e]; exact na_Cover_condition) (fun m => (List.mem_cons.mp m).elim (fun e => by rw [e]; exact na_Cover_clauses) (fun m => (List.mem_cons.mp m).elim (fun e => by rw [e]; exact na_Cover_houses) (fun m => (List.mem_cons.mp m).elim (fun e => by rw [e]; exact na_Cover_deal) (fun m => (List.mem_cons.mp m).elim (fun e => by rw [e]; exact na_Cover_waits) (fun m => (nomatch m)))))))⟩ ⟨⟨pg_Condition, hd_Condition, po_Condition, sa_Condition⟩, fun _ => fun m => (nomatch m)⟩ ⟨⟨pg_CauseIs, hd_CauseIs, po_CauseIs, sa_CauseIs⟩, fun _ => fun m => (List.mem_cons.mp m).elim (fun e => by rw [e]; exact na_CauseIs_name) (fun m => (nomatch m))⟩ ⟨⟨pg_ThingIs, hd_ThingIs, po_ThingIs, sa_ThingIs⟩, fun _ => fun m => (List.mem_cons.mp m).elim (fun e => by rw [e]; exact na_ThingIs_name) (fun m => (nomatch m))⟩ ⟨⟨pg_Over, hd_Over, po_Over, sa_Over⟩, fun _ => fun m => (List.mem_cons.mp m).elim (fun e => by rw [e]; exact na_Over_cents) (fun m => (nomatch m))⟩ nm_Condition_holds nm_CauseIs_holds nm_ThingIs_holds nm_Over_holds
  have nm_Cover_asks : Mt1 l.prog w K mg base C_Cover "asks" 2 ["self", "loss"] (sp_Cover_asks K C_Cover C_Condition C_CauseIs C_ThingIs C_Over C_Own C_Deal) := ⟨_, _, ⟨a33, i33, k33⟩, b33, o_Cover_asks⟩
  have n__law_asks : Fn1 l.prog w K mg base "_law_asks" 3 ["_law_cover", "_law_way", "_law_name", "_law_cents"] (sp__law_asks K C_Cover C_Condition C_CauseIs C_ThingIs C_Over C_Own C_Deal) := ⟨_, _, PySem.W.mg_of X G a34, k34, b34, ok__law_asks F34 z_isinstance z_bool ⟨⟨pg_Cover, hd_Cover, po_Cover, sa_Cover⟩, fun _ => fun m => (List.mem_cons.mp m).elim (fun e => by rw [e]; exact na_Cover_name) (fun m => (List.mem_cons.mp m).elim (fun e => by rw [e]; exact na_Cover_condition) (fun m => (List.mem_cons.mp m).elim (fun e => by rw [e]; exact na_Cover_clauses) (fun m => (List.mem_cons.mp m).elim (fun e => by rw [e]; exact na_Cover_houses) (fun m => (List.mem_cons.mp m).elim (fun e => by rw [e]; exact na_Cover_deal) (fun m => (List.mem_cons.mp m).elim (fun e => by rw [e]; exact na_Cover_waits) (fun m => (nomatch m)))))))⟩ nm_Cover_asks⟩
  have o_CoverP_asks := ok_CoverP_asks (P := l.prog) (w := w) (mg := mg) (base := base) (C_CoverP := C_CoverP) (C_Condition := C_Condition) (C_CauseIs := C_CauseIs) (C_ThingIs := C_ThingIs) (C_Over := C_Over) (C_Own := C_Own) (C_Deal := C_Deal) F35 ⟨⟨pg_CoverP, hd_CoverP, po_CoverP, sa_CoverP⟩, fun _ => fun m => (List.mem_cons.mp m).elim (fun e => by rw [e]; exact na_CoverP_name) (fun m => (List.mem_cons.mp m).elim (fun e => by rw [e]; exact na_CoverP_condition) (fun m => (List.mem_cons.mp m).elim (fun e => by rw [e]; exact na_CoverP_clauses) (fun m => (List.mem_cons.mp m).elim (fun e => by rw [e]; exact na_CoverP_houses) (fun m => (List.mem_cons.mp m).elim (fun e => by rw [e]; exact na_CoverP_deal) (fun m => (List.mem_cons.mp m).elim (fun e => by rw [e]; exact na_CoverP_waits) (fun m => (nomatch m)))))))⟩ ⟨⟨pg_Condition, hd_Condition, po_Condition, sa_Condition⟩, fun _ => fun m => (nomatch m)⟩ ⟨⟨pg_CauseIs, hd_CauseIs, po_CauseIs, sa_CauseIs⟩, fun _ => fun m => (List.mem_cons.mp m).elim (fun e => by rw [e]; exact na_CauseIs_name) (fun m => (nomatch m))⟩ ⟨⟨pg_ThingIs, hd_ThingIs, po_ThingIs, sa_ThingIs⟩, fun _ => fun m => (List.mem_cons.mp m).elim (fun e => by rw [e]; exact na_ThingIs_name) (fun m => (nomatch m))⟩ ⟨⟨pg_Over, hd_Over, po_Over, sa_Over⟩, fun _ => fun m => (List.mem_cons.mp m).elim (fun e => by rw [e]; exact na_Over_cents) (fun m => (nomatch m))⟩ nm_Condition_holds nm_CauseIs_holds nm_ThingIs_holds nm_Over_holds
  have nm_CoverP_asks : Mt1 l.prog w K mg base C_CoverP "asks" 2 ["self", "loss"] (sp_CoverP_asks K C_CoverP C_Condition C_CauseIs C_ThingIs C_Over C_Own C_Deal) := ⟨_, _, ⟨a35, i35, k35⟩, b35, o_CoverP_asks⟩
  have n__law_asks_p : Fn1 l.prog w K mg base "_law_asks" 3 ["_law_cover", "_law_way", "_law_name", "_law_cents"] (sp__law_asks_p K C_CoverP C_Condition C_CauseIs C_ThingIs C_Over C_Own C_Deal) := ⟨_, _, PySem.W.mg_of X G a36, k36, b36, ok__law_asks_p F36 z_isinstance z_bool ⟨⟨pg_CoverP, hd_CoverP, po_CoverP, sa_CoverP⟩, fun _ => fun m => (List.mem_cons.mp m).elim (fun e => by rw [e]; exact na_CoverP_name) (fun m => (List.mem_cons.mp m).elim (fun e => by rw [e]; exact na_CoverP_condition) (fun m => (List.mem_cons.mp m).elim (fun e => by rw [e]; exact na_CoverP_clauses) (fun m => (List.mem_cons.mp m).elim (fun e => by rw [e]; exact na_CoverP_houses) (fun m => (List.mem_cons.mp m).elim (fun e => by rw [e]; exact na_CoverP_deal) (fun m => (List.mem_cons.mp m).elim (fun e => by rw [e]; exact na_CoverP_waits) (fun m => (nomatch m)))))))⟩ nm_CoverP_asks⟩
  have n__law_bad_pairs : Fn1 l.prog w K mg base "_law_bad_pairs" 1 ["_law_pairs", "_law_way", "_law_cell_here"] (sp__law_bad_pairs K) := ⟨_, _, PySem.W.mg_of X G a37, k37, b37, ok__law_bad_pairs F37 z_list z_len z_range⟩
  have n_is_name : Fn1 l.prog w K mg base "is_name" 1 ["thing"] (sp_is_name K) := ⟨_, _, PySem.W.mg_of X G a38, k38, b38, ok_is_name F38 z_isinstance z_str z_len g_LETTERS⟩
  have n_need_houses : Fn1E l.prog w K mg base "need_houses" 2 ["pairs"] (sp_need_houses K C_NoCover C_NoShares) := ⟨_, _, PySem.W.mg_of X G a39, k39, b39, ok_need_houses F39 n_is_name ⟨xq_NoCover, PySem.W.mg_of X G a_NoCover, xk_NoCover, xb_NoCover, xt_NoCover⟩⟩
  have n_is_whole_d : Fn1 l.prog w K mg base "is_whole" 1 ["thing"] (sp_is_whole_d K) := ⟨_, _, PySem.W.mg_of X G a40, k40, b40, ok_is_whole_d F40 z_isinstance z_int z_bool⟩
  have n_total_of_r : Fn1E l.prog w K mg base "total_of" 2 ["weights"] (sp_total_of_r K C_NoCover C_NoShares) := ⟨_, _, PySem.W.mg_of X G a41, k41, b41, ok_total_of_r F41 z_isinstance z_list z_len z_sum g_MOST_PLACES g_MOST_TURNS ⟨xq_NoShares, PySem.W.mg_of X G a_NoShares, xk_NoShares, xb_NoShares, xt_NoShares⟩ n_is_whole_d⟩
  have n_turns_r : Fn1E l.prog w K mg base "turns" 3 ["weights"] (sp_turns_r K C_NoCover C_NoShares) := ⟨_, _, PySem.W.mg_of X G a42, k42, b42, ok_turns_r F42 n_total_of_r⟩
  have o_DealD___init__ := ok_DealD___init__ (P := l.prog) (w := w) (mg := mg) (base := base) (C_DealD := C_DealD) (C_NoCover := C_NoCover) (C_NoShares := C_NoShares) F43 n_turns_r
  have ni_DealD : Mk1E l.prog w K mg base "Deal" C_DealD 4 ["self", "weights"] (spI_DealD___init__ K C_DealD C_NoCover C_NoShares) := ⟨_, _, PySem.W.mg_of X G a_DealD, ⟨mk_DealD, a43, i43, kc_DealD⟩, b43, toI_DealD___init__ o_DealD___init__⟩
  have o_CoverR___init__ := ok_CoverR___init__ (P := l.prog) (w := w) (mg := mg) (base := base) (C_CoverR := C_CoverR) (C_Condition := C_Condition) (C_CauseIs := C_CauseIs) (C_ThingIs := C_ThingIs) (C_Over := C_Over) (C_Own := C_Own) (C_DealD := C_DealD) (C_NoCover := C_NoCover) (C_NoShares := C_NoShares) F44 z_list z_len g_MOST_CLAUSES ⟨⟨pg_CoverR, hd_CoverR, po_CoverR, sa_CoverR⟩, fun _ => fun m => (List.mem_cons.mp m).elim (fun e => by rw [e]; exact na_CoverR_name) (fun m => (List.mem_cons.mp m).elim (fun e => by rw [e]; exact na_CoverR_condition) (fun m => (List.mem_cons.mp m).elim (fun e => by rw [e]; exact na_CoverR_clauses) (fun m => (List.mem_cons.mp m).elim (fun e => by rw [e]; exact na_CoverR_houses) (fun m => (List.mem_cons.mp m).elim (fun e => by rw [e]; exact na_CoverR_deal) (fun m => (List.mem_cons.mp m).elim (fun e => by rw [e]; exact na_CoverR_waits) (fun m => (nomatch m)))))))⟩ n_is_name ⟨xq_NoCover, PySem.W.mg_of X G a_NoCover, xk_NoCover, xb_NoCover, xt_NoCover⟩ n_need_houses ni_DealD
  have ni_CoverR__4 : Mk1ED l.prog w K mg base "Cover" C_CoverR 6 ["self", "name", "condition", "clauses", "houses", "waits"] [.bl false] (spI_CoverR___init__ K C_CoverR C_Condition C_CauseIs C_ThingIs C_Over C_Own C_DealD C_NoCover C_NoShares) := ⟨_, _, ddi_CoverR__4, PySem.W.mg_of X G a_CoverR, ⟨mk_CoverR, a44, i44, kc_CoverR⟩, hbi_CoverR__4, hvi_CoverR__4, toI_CoverR___init__ o_CoverR___init__⟩
  have n__law_refused : Fn1 l.prog w K mg base "_law_refused" 8 ["_law_name", "_law_clauses", "_law_pairs"] (sp__law_refused K C_Own) := ⟨_, _, PySem.W.mg_of X G a45, k45, b45, ok__law_refused F45 z_isinstance z_ValueError (PySem.W.mg_of X G a_CoverError) (PySem.W.exm_ref xb_CoverError xd_CoverError xt_CoverError xs_NoCover_CoverError) (PySem.W.exm_ref xb_CoverError xd_CoverError xt_CoverError xs_NoShares_CoverError) ni_Over ni_CoverR__4 (PySem.W.mg_of X G a_NoBook) ⟨xg_NoCover, xh_NoCover, xb_NoCover, xd_NoCover, xa_NoCover, xn0, xt0, xm_NoCover⟩ q_NoCover_NoBook ⟨xg_NoShares, xh_NoShares, xb_NoShares, xd_NoShares, xa_NoShares, xn0, xt0, xm_NoShares⟩ q_NoShares_NoBook (PySem.W.mg_of X G a_NoClause) q_NoCover_NoClause q_NoShares_NoClause (PySem.W.mg_of X G a_NoEntry) q_NoCover_NoEntry q_NoShares_NoEntry (PySem.W.mg_of X G a_NoCover) q_NoCover_NoCover q_NoShares_NoCover (PySem.W.mg_of X G a_NoShares) q_NoCover_NoShares q_NoShares_NoShares q_NoCover_ValueError q_NoShares_ValueError⟩
  have n__law_refused_g : Fn1 l.prog w K mg base "_law_refused" 8 ["_law_name", "_law_clauses", "_law_pairs"] (sp__law_refused_g K C_Own) := ⟨_, _, PySem.W.mg_of X G a46, k46, b46, ok__law_refused_g F46 ni_Over ni_Cover__4⟩
  exact ok_law F47 z_range z_list z_len ⟨⟨pg_Own, hd_Own, po_Own, sa_Own⟩, fun _ => fun m => (List.mem_cons.mp m).elim (fun e => by rw [e]; exact na_Own_by) (fun m => (List.mem_cons.mp m).elim (fun e => by rw [e]; exact na_Own_cents) (fun m => (nomatch m)))⟩ ⟨⟨pg_Cover, hd_Cover, po_Cover, sa_Cover⟩, fun _ => fun m => (List.mem_cons.mp m).elim (fun e => by rw [e]; exact na_Cover_name) (fun m => (List.mem_cons.mp m).elim (fun e => by rw [e]; exact na_Cover_condition) (fun m => (List.mem_cons.mp m).elim (fun e => by rw [e]; exact na_Cover_clauses) (fun m => (List.mem_cons.mp m).elim (fun e => by rw [e]; exact na_Cover_houses) (fun m => (List.mem_cons.mp m).elim (fun e => by rw [e]; exact na_Cover_deal) (fun m => (List.mem_cons.mp m).elim (fun e => by rw [e]; exact na_Cover_waits) (fun m => (nomatch m)))))))⟩ ⟨⟨pg_Condition, hd_Condition, po_Condition, sa_Condition⟩, fun _ => fun m => (nomatch m)⟩ ⟨⟨pg_CauseIs, hd_CauseIs, po_CauseIs, sa_CauseIs⟩, fun _ => fun m => (List.mem_cons.mp m).elim (fun e => by rw [e]; exact na_CauseIs_name) (fun m => (nomatch m))⟩ ⟨⟨pg_ThingIs, hd_ThingIs, po_ThingIs, sa_ThingIs⟩, fun _ => fun m => (List.mem_cons.mp m).elim (fun e => by rw [e]; exact na_ThingIs_name) (fun m => (nomatch m))⟩ ⟨⟨pg_Over, hd_Over, po_Over, sa_Over⟩, fun _ => fun m => (List.mem_cons.mp m).elim (fun e => by rw [e]; exact na_Over_cents) (fun m => (nomatch m))⟩ ⟨⟨pg_CoverP, hd_CoverP, po_CoverP, sa_CoverP⟩, fun _ => fun m => (List.mem_cons.mp m).elim (fun e => by rw [e]; exact na_CoverP_name) (fun m => (List.mem_cons.mp m).elim (fun e => by rw [e]; exact na_CoverP_condition) (fun m => (List.mem_cons.mp m).elim (fun e => by rw [e]; exact na_CoverP_clauses) (fun m => (List.mem_cons.mp m).elim (fun e => by rw [e]; exact na_CoverP_houses) (fun m => (List.mem_cons.mp m).elim (fun e => by rw [e]; exact na_CoverP_deal) (fun m => (List.mem_cons.mp m).elim (fun e => by rw [e]; exact na_CoverP_waits) (fun m => (nomatch m)))))))⟩ n__law_cell n__law_names n__law_houses ni_Own nm_Own_words ni_CauseIs ni_ThingIs ni_Over ni_Cover__5 ni_CoverP__2 n__law_kept n__law_kept_p nm_Condition_words nm_CauseIs_words nm_ThingIs_words nm_Over_words n__law_asks n__law_asks_p n__law_bad_pairs n__law_refused n__law_refused_g
theorem walk {l : PySem.W.OpenLaw} {q : Program} {loose : List Str} {XP : (Str → Option Value) → Heap → Prop} {YP : World → Heap → Prop} {d : DefRec} {K : Params → PySem.W.Frag} (hn : l.most = some 63) (hdf : d.params.defaults = [])
    (hY : ∀ (w : World) (h : Heap), YP w h → (K w.params).In h)
    (F : ∀ (w : World) (mg : Str → Option Value) (fa : Addr) (h : Heap), (K w.params).In h → h.Ns mainGlobals mg → mg d.name = some (.ref fa) →
      ∃ fd : FuncData, (∀ (s : Shared) (u : Value), BindsTo s fd ⟨[u], []⟩ [("_law_script", u)]) ∧ ∀ base : Heap, (K w.params).In base → base.Ns mainGlobals mg → FnOk l.prog w (K w.params) mg base CX0 9 fa fd ["_law_script"] (spLaw (K w.params))) :
    PySem.W.WalkO q loose XP YP l.row.toRowW d [] (fun f vs => PySem.call f vs) :=
  L2.walk_of (n := 63) (k := 9) (x := "_law_script") (CX := fun _ => CX0) (sp := fun w => spLaw (K w.params)) hn (by decide) hdf ⟨rfl, by decide, by decide⟩ hY F (fun _ H a ns hl _ hS => spLaw_of hS hl) fun _ _ _ _ _ z => z
end K38

open PySem PySem.W PyProof.Rows in
set_option maxRecDepth 100000 in
set_option maxHeartbeats 0 in
theorem PySem.Challenge.cw_coverroll_k38_no_covers_holds : PySem.Challenge.rw_coverroll_k38_no_covers.Holds := by
  w_on; o_law; k_head; (case hw => w_witness2)
  k_fill
  refine K38.walk (l := PySem.Challenge.rw_coverroll_k38_no_covers) rfl rfl (fun w h Y => PySem.W.kIn_of Y) ?F
  case F =>
    intro w mg fa h KX G hmg
    refine' K38.all_mk KX G hmg ?a_Clause ?pg_Clause ?hd_Clause ?po_Clause ?sa_Clause ?mk_Clause ?kc_Clause ?a_Own ?pg_Own ?hd_Own ?po_Own ?sa_Own ?mk_Own ?kc_Own ?na_Own_by ?na_Own_cents ?a_CauseIs ?pg_CauseIs ?hd_CauseIs ?po_CauseIs ?sa_CauseIs ?mk_CauseIs ?kc_CauseIs ?na_CauseIs_name ?a_ThingIs ?pg_ThingIs ?hd_ThingIs ?po_ThingIs ?sa_ThingIs ?mk_ThingIs ?kc_ThingIs ?na_ThingIs_name ?a_Over ?pg_Over ?hd_Over ?po_Over ?sa_Over ?mk_Over ?kc_Over ?na_Over_cents ?a_Deal ?pg_Deal ?hd_Deal ?po_Deal ?sa_Deal ?mk_Deal ?kc_Deal ?na_Deal_wheel ?na_Deal_weights ?a_Cover ?pg_Cover ?hd_Cover ?po_Cover ?sa_Cover ?mk_Cover ?kc_Cover ?na_Cover_name ?na_Cover_condition ?na_Cover_clauses ?na_Cover_houses ?na_Cover_deal ?na_Cover_waits ?a_CoverP ?pg_CoverP ?hd_CoverP ?po_CoverP ?sa_CoverP ?mk_CoverP ?kc_CoverP ?na_CoverP_name ?na_CoverP_condition ?na_CoverP_clauses ?na_CoverP_houses ?na_CoverP_deal ?na_CoverP_waits ?a_Condition ?pg_Condition ?hd_Condition ?po_Condition ?sa_Condition ?mk_Condition ?kc_Condition ?a_DealD ?pg_DealD ?hd_DealD ?po_DealD ?sa_DealD ?mk_DealD ?kc_DealD ?a_CoverR ?pg_CoverR ?hd_CoverR ?po_CoverR ?sa_CoverR ?mk_CoverR ?kc_CoverR ?na_CoverR_name ?na_CoverR_condition ?na_CoverR_clauses ?na_CoverR_houses ?na_CoverR_deal ?na_CoverR_waits ?a_CoverError ?a_NoBook ?a_NoClause ?a_NoEntry ?a_NoCover ?a_NoShares ?xq_NoCover ?xk_NoCover ?xb_NoCover ?xt_NoCover ?xq_NoShares ?xk_NoShares ?xb_NoShares ?xt_NoShares ?xg_NoCover ?xh_NoCover ?xd_NoCover ?xa_NoCover ?xm_NoCover ?xg_NoShares ?xh_NoShares ?xd_NoShares ?xa_NoShares ?xm_NoShares ?xn0 ?xt0 ?xb_CoverError ?xd_CoverError ?xt_CoverError ?xs_NoCover_CoverError ?xs_NoShares_CoverError ?a0 ?l0 ?c0 ?k0 ?a1 ?l1 ?c1 ?k1 ?a2 ?l2 ?c2 ?k2 ?a3 ?l3 ?c3 ?k3 ?i3 ?a4 ?l4 ?c4 ?k4 ?a5 ?l5 ?c5 ?k5 ?a6 ?l6 ?c6 ?k6 ?a7 ?l7 ?c7 ?k7 ?i7 ?a8 ?l8 ?c8 ?k8 ?a9 ?l9 ?c9 ?k9 ?i9 ?a10 ?l10 ?c10 ?k10 ?i10 ?a11 ?l11 ?c11 ?k11 ?i11 ?a12 ?l12 ?c12 ?k12 ?i12 ?a13 ?l13 ?c13 ?k13 ?a14 ?l14 ?c14 ?k14 ?a15 ?l15 ?c15 ?k15 ?a16 ?l16 ?c16 ?k16 ?a17 ?l17 ?c17 ?k17 ?a18 ?l18 ?c18 ?k18 ?a19 ?l19 ?c19 ?k19 ?i19 ?a20 ?l20 ?dl20 ?c20 ?k20 ?i20 ?a21 ?l21 ?dl21 ?c21 ?k21 ?i21 ?a22 ?l22 ?c22 ?k22 ?i22 ?a23 ?l23 ?c23 ?k23 ?a24 ?l24 ?c24 ?k24 ?a25 ?l25 ?c25 ?k25 ?i25 ?a26 ?l26 ?c26 ?k26 ?i26 ?a27 ?l27 ?c27 ?k27 ?i27 ?a28 ?l28 ?c28 ?k28 ?i28 ?a29 ?l29 ?c29 ?k29 ?i29 ?a30 ?l30 ?c30 ?k30 ?i30 ?a31 ?l31 ?c31 ?k31 ?i31 ?a32 ?l32 ?c32 ?k32 ?i32 ?a33 ?l33 ?c33 ?k33 ?i33 ?a34 ?l34 ?c34 ?k34 ?a35 ?l35 ?c35 ?k35 ?i35 ?a36 ?l36 ?c36 ?k36 ?a37 ?l37 ?c37 ?k37 ?a38 ?l38 ?c38 ?k38 ?a39 ?l39 ?c39 ?k39 ?a40 ?l40 ?c40 ?k40 ?a41 ?l41 ?c41 ?k41 ?a42 ?l42 ?c42 ?k42 ?a43 ?l43 ?c43 ?k43 ?i43 ?a44 ?l44 ?dl44 ?c44 ?k44 ?i44 ?a45 ?l45 ?c45 ?k45 ?a46 ?l46 ?c46 ?k46 ?a47 ?l47 ?c47 ?k47 ?hnO ?htkO ?ha_Deal ?hm_Deal ?mr_Deal_Deal ?mr_NoCover_NoBook ?ms_NoCover ?mr_NoShares_NoBook ?ms_NoShares ?mr_NoCover_NoClause ?mr_NoShares_NoClause ?mr_NoCover_NoEntry ?mr_NoShares_NoEntry ?mr_NoCover_NoCover ?mr_NoShares_NoCover ?mr_NoCover_NoShares ?mr_NoShares_NoShares ?mr_NoCover_ValueError ?mr_NoShares_ValueError ?ic_Deal ?ti_Deal ?ic_NoBook ?ti_NoBook ?ic_NoClause ?ti_NoClause ?ic_NoCover ?ti_NoCover ?ic_NoEntry ?ti_NoEntry ?ic_NoShares ?ti_NoShares ?rd_Clause ?ga_Clause ?fc_Clause___init__ ?tn_WAYS ?tl_WAYS ?z_len ?z_range ?z_int ?z_min ?z_bool ?z_isinstance ?z_divmod ?z_str ?z_list ?z_sum ?z_ValueError ?g_MOST_CENTS ?g_LETTERS ?g_MOST_PLACES ?g_MOST_TURNS ?g_MOST_CLAUSES
    (case a_Clause => k_is)
    (case pg_Clause => k_is)
    (case hd_Clause => k_is)
    (case po_Clause => k_is)
    (case sa_Clause => k_is)
    (case mk_Clause => k_is)
    (case kc_Clause => k_is)
    (case a_Own => k_is)
    (case pg_Own => k_is)
    (case hd_Own => k_is)
    (case po_Own => k_is)
    (case sa_Own => k_is)
    (case mk_Own => k_is)
    (case kc_Own => k_is)
    (case na_Own_by => k_is)
    (case na_Own_cents => k_is)
    (case a_CauseIs => k_is)
    (case pg_CauseIs => k_is)
    (case hd_CauseIs => k_is)
    (case po_CauseIs => k_is)
    (case sa_CauseIs => k_is)
    (case mk_CauseIs => k_is)
    (case kc_CauseIs => k_is)
    (case na_CauseIs_name => k_is)
    (case a_ThingIs => k_is)
    (case pg_ThingIs => k_is)
    (case hd_ThingIs => k_is)
    (case po_ThingIs => k_is)
    (case sa_ThingIs => k_is)
    (case mk_ThingIs => k_is)
    (case kc_ThingIs => k_is)
    (case na_ThingIs_name => k_is)
    (case a_Over => k_is)
    (case pg_Over => k_is)
    (case hd_Over => k_is)
    (case po_Over => k_is)
    (case sa_Over => k_is)
    (case mk_Over => k_is)
    (case kc_Over => k_is)
    (case na_Over_cents => k_is)
    (case a_Deal => k_is)
    (case pg_Deal => k_is)
    (case hd_Deal => k_is)
    (case po_Deal => k_is)
    (case sa_Deal => k_is)
    (case mk_Deal => k_is)
    (case kc_Deal => k_is)
    (case na_Deal_wheel => k_is)
    (case na_Deal_weights => k_is)
    (case a_Cover => k_is)
    (case pg_Cover => k_is)
    (case hd_Cover => k_is)
    (case po_Cover => k_is)
    (case sa_Cover => k_is)
    (case mk_Cover => k_is)
    (case kc_Cover => k_is)
    (case na_Cover_name => k_is)
    (case na_Cover_condition => k_is)
    (case na_Cover_clauses => k_is)
    (case na_Cover_houses => k_is)
    (case na_Cover_deal => k_is)
    (case na_Cover_waits => k_is)
    (case a_CoverP => k_is)
    (case pg_CoverP => k_is)
    (case hd_CoverP => k_is)
    (case po_CoverP => k_is)
    (case sa_CoverP => k_is)
    (case mk_CoverP => k_is)
    (case kc_CoverP => k_is)
    (case na_CoverP_name => k_is)
    (case na_CoverP_condition => k_is)
    (case na_CoverP_clauses => k_is)
    (case na_CoverP_houses => k_is)
    (case na_CoverP_deal => k_is)
    (case na_CoverP_waits => k_is)
    (case a_Condition => k_is)
    (case pg_Condition => k_is)
    (case hd_Condition => k_is)
    (case po_Condition => k_is)
    (case sa_Condition => k_is)
    (case mk_Condition => k_is)
    (case kc_Condition => k_is)
    (case a_DealD => k_is)
    (case pg_DealD => k_is)
    (case hd_DealD => k_is)
    (case po_DealD => k_is)
    (case sa_DealD => k_is)
    (case mk_DealD => k_is)
    (case kc_DealD => k_is)
    (case a_CoverR => k_is)
    (case pg_CoverR => k_is)
    (case hd_CoverR => k_is)
    (case po_CoverR => k_is)
    (case sa_CoverR => k_is)
    (case mk_CoverR => k_is)
    (case kc_CoverR => k_is)
    (case na_CoverR_name => k_is)
    (case na_CoverR_condition => k_is)
    (case na_CoverR_clauses => k_is)
    (case na_CoverR_houses => k_is)
    (case na_CoverR_deal => k_is)
    (case na_CoverR_waits => k_is)
    (case a_CoverError => k_is)
    (case a_NoBook => k_is)
    (case a_NoClause => k_is)
    (case a_NoEntry => k_is)
    (case a_NoCover => k_is)
    (case a_NoShares => k_is)
    (case xq_NoCover => k_exc)
    (case xk_NoCover => k_is)
    (case xb_NoCover => k_is)
    (case xt_NoCover => k_is)
    (case xq_NoShares => k_exc)
    (case xk_NoShares => k_is)
    (case xb_NoShares => k_is)
    (case xt_NoShares => k_is)
    (case xg_NoCover => k_is)
    (case xh_NoCover => k_is)
    (case xd_NoCover => k_is)
    (case xa_NoCover => k_is)
    (case xm_NoCover => k_is)
    (case xg_NoShares => k_is)
    (case xh_NoShares => k_is)
    (case xd_NoShares => k_is)
    (case xa_NoShares => k_is)
    (case xm_NoShares => k_is)
    (case xn0 => k_is)
    (case xt0 => k_is)
    (case xb_CoverError => k_is)
    (case xd_CoverError => k_is)
    (case xt_CoverError => k_is)
    (case xs_NoCover_CoverError => k_is)
    (case xs_NoShares_CoverError => k_is)
    (case a0 => k_is)
    (case l0 => k_is)
    (case c0 => k_is)
    (case k0 => k_is)
    (case a1 => k_is)
    (case l1 => k_is)
    (case c1 => k_is)
    (case k1 => k_is)
    (case a2 => k_is)
    (case l2 => k_is)
    (case c2 => k_is)
    (case k2 => k_is)
    (case a3 => k_is)
    (case l3 => k_is)
    (case c3 => k_is)
    (case k3 => k_is)
    (case i3 => k_is)
    (case a4 => k_is)
    (case l4 => k_is)
    (case c4 => k_is)
    (case k4 => k_is)
    (case a5 => k_is)
    (case l5 => k_is)
    (case c5 => k_is)
    (case k5 => k_is)
    (case a6 => k_is)
    (case l6 => k_is)
    (case c6 => k_is)
    (case k6 => k_is)
    (case a7 => k_is)
    (case l7 => k_is)
    (case c7 => k_is)
    (case k7 => k_is)
    (case i7 => k_is)
    (case a8 => k_is)
    (case l8 => k_is)
    (case c8 => k_is)
    (case k8 => k_is)
    (case a9 => k_is)
    (case l9 => k_is)
    (case c9 => k_is)
    (case k9 => k_is)
    (case i9 => k_is)
    (case a10 => k_is)
    (case l10 => k_is)
    (case c10 => k_is)
    (case k10 => k_is)
    (case i10 => k_is)
    (case a11 => k_is)
    (case l11 => k_is)
    (case c11 => k_is)
    (case k11 => k_is)
    (case i11 => k_is)
    (case a12 => k_is)
    (case l12 => k_is)
    (case c12 => k_is)
    (case k12 => k_is)
    (case i12 => k_is)
    (case a13 => k_is)
    (case l13 => k_is)
    (case c13 => k_is)
    (case k13 => k_is)
    (case a14 => k_is)
    (case l14 => k_is)
    (case c14 => k_is)
    (case k14 => k_is)
    (case a15 => k_is)
    (case l15 => k_is)
    (case c15 => k_is)
    (case k15 => k_is)
    (case a16 => k_is)
    (case l16 => k_is)
    (case c16 => k_is)
    (case k16 => k_is)
    (case a17 => k_is)
    (case l17 => k_is)
    (case c17 => k_is)
    (case k17 => k_is)
    (case a18 => k_is)
    (case l18 => k_is)
    (case c18 => k_is)
    (case k18 => k_is)
    (case a19 => k_is)
    (case l19 => k_is)
    (case c19 => k_is)
    (case k19 => k_is)
    (case i19 => k_is)
    (case a20 => k_is)
    (case l20 => k_is)
    (case dl20 => k_is)
    (case c20 => k_is)
    (case k20 => k_is)
    (case i20 => k_is)
    (case a21 => k_is)
    (case l21 => k_is)
    (case dl21 => k_is)
    (case c21 => k_is)
    (case k21 => k_is)
    (case i21 => k_is)
    (case a22 => k_is)
    (case l22 => k_is)
    (case c22 => k_is)
    (case k22 => k_is)
    (case i22 => k_is)
    (case a23 => k_is)
    (case l23 => k_is)
    (case c23 => k_is)
    (case k23 => k_is)
    (case a24 => k_is)
    (case l24 => k_is)
    (case c24 => k_is)
    (case k24 => k_is)
    (case a25 => k_is)
    (case l25 => k_is)
    (case c25 => k_is)
    (case k25 => k_is)
    (case i25 => k_is)
    (case a26 => k_is)
    (case l26 => k_is)
    (case c26 => k_is)
    (case k26 => k_is)
    (case i26 => k_is)
    (case a27 => k_is)
    (case l27 => k_is)
    (case c27 => k_is)
    (case k27 => k_is)
    (case i27 => k_is)
    (case a28 => k_is)
    (case l28 => k_is)
    (case c28 => k_is)
    (case k28 => k_is)
    (case i28 => k_is)
    (case a29 => k_is)
    (case l29 => k_is)
    (case c29 => k_is)
    (case k29 => k_is)
    (case i29 => k_is)
    (case a30 => k_is)
    (case l30 => k_is)
    (case c30 => k_is)
    (case k30 => k_is)
    (case i30 => k_is)
    (case a31 => k_is)
    (case l31 => k_is)
    (case c31 => k_is)
    (case k31 => k_is)
    (case i31 => k_is)
    (case a32 => k_is)
    (case l32 => k_is)
    (case c32 => k_is)
    (case k32 => k_is)
    (case i32 => k_is)
    (case a33 => k_is)
    (case l33 => k_is)
    (case c33 => k_is)
    (case k33 => k_is)
    (case i33 => k_is)
    (case a34 => k_is)
    (case l34 => k_is)
    (case c34 => k_is)
    (case k34 => k_is)
    (case a35 => k_is)
    (case l35 => k_is)
    (case c35 => k_is)
    (case k35 => k_is)
    (case i35 => k_is)
    (case a36 => k_is)
    (case l36 => k_is)
    (case c36 => k_is)
    (case k36 => k_is)
    (case a37 => k_is)
    (case l37 => k_is)
    (case c37 => k_is)
    (case k37 => k_is)
    (case a38 => k_is)
    (case l38 => k_is)
    (case c38 => k_is)
    (case k38 => k_is)
    (case a39 => k_is)
    (case l39 => k_is)
    (case c39 => k_is)
    (case k39 => k_is)
    (case a40 => k_is)
    (case l40 => k_is)
    (case c40 => k_is)
    (case k40 => k_is)
    (case a41 => k_is)
    (case l41 => k_is)
    (case c41 => k_is)
    (case k41 => k_is)
    (case a42 => k_is)
    (case l42 => k_is)
    (case c42 => k_is)
    (case k42 => k_is)
    (case a43 => k_is)
    (case l43 => k_is)
    (case c43 => k_is)
    (case k43 => k_is)
    (case i43 => k_is)
    (case a44 => k_is)
    (case l44 => k_is)
    (case dl44 => k_is)
    (case c44 => k_is)
    (case k44 => k_is)
    (case i44 => k_is)
    (case a45 => k_is)
    (case l45 => k_is)
    (case c45 => k_is)
    (case k45 => k_is)
    (case a46 => k_is)
    (case l46 => k_is)
    (case c46 => k_is)
    (case k46 => k_is)
    (case a47 => k_is)
    (case l47 => k_is)
    (case c47 => k_is)
    (case k47 => k_is)
    (case hnO => k_is)
    (case htkO => k_is)
    (case ha_Deal => k_is)
    (case hm_Deal => k_is)
    (case mr_Deal_Deal => k_is)
    (case mr_NoCover_NoBook => k_is)
    (case ms_NoCover => k_is)
    (case mr_NoShares_NoBook => k_is)
    (case ms_NoShares => k_is)
    (case mr_NoCover_NoClause => k_is)
    (case mr_NoShares_NoClause => k_is)
    (case mr_NoCover_NoEntry => k_is)
    (case mr_NoShares_NoEntry => k_is)
    (case mr_NoCover_NoCover => k_is)
    (case mr_NoShares_NoCover => k_is)
    (case mr_NoCover_NoShares => k_is)
    (case mr_NoShares_NoShares => k_is)
    (case mr_NoCover_ValueError => k_is)
    (case mr_NoShares_ValueError => k_is)
    (case ic_Deal => k_is)
    (case ti_Deal => k_is)
    (case ic_NoBook => k_is)
    (case ti_NoBook => k_is)
    (case ic_NoClause => k_is)
    (case ti_NoClause => k_is)
    (case ic_NoCover => k_is)
    (case ti_NoCover => k_is)
    (case ic_NoEntry => k_is)
    (case ti_NoEntry => k_is)
    (case ic_NoShares => k_is)
    (case ti_NoShares => k_is)
    (case rd_Clause => k_is)
    (case ga_Clause => k_is)
    (case fc_Clause___init__ => k_is)
    (case tn_WAYS => k_is)
    (case tl_WAYS => k_is)
    (case z_len => k_is)
    (case z_range => k_is)
    (case z_int => k_is)
    (case z_min => k_is)
    (case z_bool => k_is)
    (case z_isinstance => k_is)
    (case z_divmod => k_is)
    (case z_str => k_is)
    (case z_list => k_is)
    (case z_sum => k_is)
    (case z_ValueError => k_is)
    (case g_MOST_CENTS => k_is)
    (case g_LETTERS => k_is)
    (case g_MOST_PLACES => k_is)
    (case g_MOST_TURNS => k_is)
    (case g_MOST_CLAUSES => k_is)
