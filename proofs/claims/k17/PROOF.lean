import PyProof.Rows.All
import Wide.All
import OpenK.AllK
import Wide.FinOn
import HandS.ForMost
import HandS.IsInst
import HandS.Exc
import HandS.ExcCtx
import HandS.Style
import HandS.Wide
import HandS.StrMore
import HandS.SetFor
import PyProof.LongRange
import HandS.Codes
import KE.SortData
import HandS.ClsMeth
import PyProof.Rows.StrRev
import PyProof.StrOps2
import HandS.Defaults
import HandS.More
import HandS.ExcOwn
import HandS.WordsExc
import HandS.TryOnly
import HandS.ExcIs
import HandS.Deep
import HandS.Text
import PyProof.EqKinds
import PyProof.P3In
import HandS.Dict
import PyProof.DictMoreH
import HandS.SetKeys
import KE.KDictWalk
import HandS.Iter
import HandS.Strs
import PyProof.Rows.SetFrom
import HandS.Head0
import HandS.Head1
import HandS.Head2
import HandS.HeadEnd
import HandS.HeadHook1
import HandS.HeadHook2
import HandS.List
import HandS.HotCalls
import HandS.DictEq
import HandS.DeepEq
import PySem.Challenge.RW_coverroll_k17_no_shares
set_option Elab.async false
set_option linter.all false
set_option maxRecDepth 100000
set_option maxHeartbeats 4000000
namespace M
open PySem L2

/-- data that no one changes any more -/
inductive D where
  | non | bl (b : Bool) | int (i : Int) | str (x : Str) | ty (n : String) | opq (a : Addr)
  | tup (ds : List D) | lst (ds : List D) | ins (C : Addr) (ns : List Str) (ds : List D)
  | dct (ks : List Key) (ds : List D) | dctT (ks : List (List Key)) (ds : List D)
/-- an error: its class, its attribute -/
structure Er where
  C : Addr
  fld : Option (Str × D) := none
/-- things of the def's own, that may be changed; rs: nothing comes back, an error is raised; vw: a list that stays as it is while the def runs -/
inductive O where
  | fz (d : D) | vw (ds : List D) | lst (os : List O) | tup (os : List O) | ins (C : Addr) (ns : List Str) (os : List O)
  | dct (ks : List Key) (os : List O) | dctT (ks : List (List Key)) (os : List O)
  | at (a : Addr) (C : Addr) (ns : List Str) (os : List O)
  | vwa (a : Addr) (ds : List D)
  | loc (a : Addr) (o : O)
  | pt (a : Addr)
  | rs (e : Er)
  | lk (o : O)

def Ex (H H' : Hp) : Prop := ∀ a o, H a = some o → H' a = some o
theorem Ex.refl (H : Hp) : Ex H H := fun _ _ h => h
theorem Ex.trans {H H1 H2 : Hp} (a : Ex H H1) (b : Ex H1 H2) : Ex H H2 := fun x o h => b x o (a x o h)
theorem Ex.new {H : Hp} {p : Addr} {o : HO} (h : H p = none) : Ex H (upd H p o) := fun a u e => by
  rw [upd_ne (ne_of_none e h)]
  exact e
theorem Ex.free {H H' : Hp} {p : Addr} (e : Ex H H') (h : H' p = none) : H p = none := by
  cases h1 : H p with
  | none => rfl
  | some o =>
    rw [e p o h1] at h
    cases h
theorem Ex.mut {H H' : Hp} {p : Addr} {o : HO} (e : Ex H H') (h : H p = none) : Ex H (upd H' p o) := fun a u ha => by
  rw [upd_ne (ne_of_none ha h)]
  exact e a u ha
theorem ex_rd {H H' : Hp} {a : Addr} {u : HO} (e : Ex H H') (h : Rd H a u) : Rd H' a u := by
  rcases h with h | ⟨o, h⟩
  · exact .inl (e a _ h)
  · exact .inr ⟨o, e a _ h⟩
theorem ex_l {K : PySem.W.Frag} {H H' : Hp} {a : Addr} {xs : List V} (e : Ex H H') (h : SqL K H a xs) : SqL K H' a xs := by
  rcases h with h | h
  · exact .inl (ex_rd e h)
  · exact .inr h
theorem ex_t {K : PySem.W.Frag} {H H' : Hp} {a : Addr} {xs : List V} (e : Ex H H') (h : SqT K H a xs) : SqT K H' a xs := by
  rcases h with h | h
  · exact .inl (ex_rd e h)
  · exact .inr h

mutual
inductive Rep (K : PySem.W.Frag) (Z : Hp) : V → D → Prop where
  | non : Rep K Z .non .non
  | bl (b : Bool) : Rep K Z (.bl b) (.bl b)
  | int (i : Int) : Rep K Z (.int i) (.int i)
  | str (x : Str) : Rep K Z (.str x) (.str x)
  | ty (n : String) : Rep K Z (.ty n) (.ty n)
  | opq (a : Addr) : Rep K Z (.ref a) (.opq a)
  | tup {a : Addr} {vs : List V} {ds : List D} : SqT K Z a vs → RepL K Z vs ds → Rep K Z (.ref a) (.tup ds)
  | lst {a : Addr} {vs : List V} {ds : List D} : SqL K Z a vs → RepL K Z vs ds → Rep K Z (.ref a) (.lst ds)
  | ins {a C dx : Addr} {ns : List Str} {vs : List V} {ds : List D} : Z a = some (.ins C dx (ns.zip vs)) → RepL K Z vs ds → Rep K Z (.ref a) (.ins C ns ds)
  | dct {a : Addr} {ks : List Key} {vs : List V} {ds : List D} : Z a = some (.dK (ks.zip vs)) → RepL K Z vs ds → Rep K Z (.ref a) (.dct ks ds)
  | dctT {a : Addr} {ks : List (List Key)} {vs : List V} {ds : List D} : Z a = some (.dT (ks.zip vs)) → RepL K Z vs ds → Rep K Z (.ref a) (.dctT ks ds)
inductive RepL (K : PySem.W.Frag) (Z : Hp) : List V → List D → Prop where
  | nil : RepL K Z [] []
  | cons {v : V} {vs : List V} {d : D} {ds : List D} : Rep K Z v d → RepL K Z vs ds → RepL K Z (v :: vs) (d :: ds)
end
mutual
/-- a thing that is looked at: its cells lie in F -/
inductive RepK (K : PySem.W.Frag) (Z F : Hp) : V → O → Prop where
  | fz {v : V} {d : D} : Rep K Z v d → RepK K Z F v (.fz d)
  | vw {a : Addr} {vs : List V} {ds : List D} : SqL K F a vs → RepL K Z vs ds → RepK K Z F (.ref a) (.vw ds)
  | vwa {a : Addr} {vs : List V} {ds : List D} : SqL K F a vs → RepL K Z vs ds → RepK K Z F (.ref a) (.vwa a ds)
  | lst {a : Addr} {vs : List V} {os : List O} : F a = some (.lst vs) → RepKL K Z F vs os → RepK K Z F (.ref a) (.lst os)
  | tup {a : Addr} {vs : List V} {os : List O} : F a = some (.tup vs) → RepKL K Z F vs os → RepK K Z F (.ref a) (.tup os)
  | ins {a C dx : Addr} {ns : List Str} {vs : List V} {os : List O} : F a = some (.ins C dx (ns.zip vs)) → RepKL K Z F vs os → RepK K Z F (.ref a) (.ins C ns os)
  | at {a C dx : Addr} {ns : List Str} {vs : List V} {os : List O} : F a = some (.ins C dx (ns.zip vs)) → RepKL K Z F vs os → RepK K Z F (.ref a) (.at a C ns os)
  | dct {a : Addr} {ks : List Key} {vs : List V} {os : List O} : F a = some (.dK (ks.zip vs)) → RepKL K Z F vs os → RepK K Z F (.ref a) (.dct ks os)
  | dctT {a : Addr} {ks : List (List Key)} {vs : List V} {os : List O} : F a = some (.dT (ks.zip vs)) → RepKL K Z F vs os → RepK K Z F (.ref a) (.dctT ks os)
  | loc {a : Addr} {o : O} : RepK K Z F (.ref a) o → RepK K Z F (.ref a) (.loc a o)
  | pt {a : Addr} : RepK K Z F (.ref a) (.pt a)
  | lk {v : V} {o : O} : RepK K Z F v o → RepK K Z F v (.lk o)
inductive RepKL (K : PySem.W.Frag) (Z F : Hp) : List V → List O → Prop where
  | nil : RepKL K Z F [] []
  | cons {v : V} {vs : List V} {o : O} {os : List O} : RepK K Z F v o → RepKL K Z F vs os → RepKL K Z F (v :: vs) (o :: os)
end
mutual
inductive RepO (K : PySem.W.Frag) (Z F H : Hp) : V → O → List Addr → Prop where
  | fz {v : V} {d : D} : Rep K Z v d → RepO K Z F H v (.fz d) []
  | vw {a : Addr} {vs : List V} {ds : List D} : SqL K F a vs → RepL K Z vs ds → RepO K Z F H (.ref a) (.vw ds) []
  | vwa {a : Addr} {vs : List V} {ds : List D} : SqL K F a vs → RepL K Z vs ds → RepO K Z F H (.ref a) (.vwa a ds) []
  | lst {a : Addr} {vs : List V} {os : List O} {A : List Addr} : H a = some (.lst vs) → RepOL K Z F H vs os A → RepO K Z F H (.ref a) (.lst os) (a :: A)
  | tup {a : Addr} {vs : List V} {os : List O} {A : List Addr} : H a = some (.tup vs) → RepOL K Z F H vs os A → RepO K Z F H (.ref a) (.tup os) (a :: A)
  | ins {a C dx : Addr} {ns : List Str} {vs : List V} {os : List O} {A : List Addr} : H a = some (.ins C dx (ns.zip vs)) → RepOL K Z F H vs os A → RepO K Z F H (.ref a) (.ins C ns os) (a :: A)
  | at {a C dx : Addr} {ns : List Str} {vs : List V} {os : List O} {A : List Addr} : H a = some (.ins C dx (ns.zip vs)) → RepOL K Z F H vs os A → RepO K Z F H (.ref a) (.at a C ns os) (a :: A)
  | dct {a : Addr} {ks : List Key} {vs : List V} {os : List O} {A : List Addr} : H a = some (.dK (ks.zip vs)) → RepOL K Z F H vs os A → RepO K Z F H (.ref a) (.dct ks os) (a :: A)
  | dctT {a : Addr} {ks : List (List Key)} {vs : List V} {os : List O} {A : List Addr} : H a = some (.dT (ks.zip vs)) → RepOL K Z F H vs os A → RepO K Z F H (.ref a) (.dctT ks os) (a :: A)
  | loc {a : Addr} {o : O} {A : List Addr} : RepO K Z F H (.ref a) o A → RepO K Z F H (.ref a) (.loc a o) A
  | pt {a : Addr} : RepO K Z F H (.ref a) (.pt a) []
  | lk {v : V} {o : O} : RepK K Z F v o → RepO K Z F H v (.lk o) []
inductive RepOL (K : PySem.W.Frag) (Z F H : Hp) : List V → List O → List Addr → Prop where
  | nil : RepOL K Z F H [] [] []
  | cons {v : V} {vs : List V} {o : O} {os : List O} {A B : List Addr} : RepO K Z F H v o A → RepOL K Z F H vs os B → RepOL K Z F H (v :: vs) (o :: os) (A ++ B)
end

section
variable {K : PySem.W.Frag} {Z Z' F F' H H' : Hp}
mutual
theorem Rep.mono (e : Ex Z Z') : ∀ {v : V} {d : D}, Rep K Z v d → Rep K Z' v d
  | _, _, .non => .non
  | _, _, .bl b => .bl b
  | _, _, .int i => .int i
  | _, _, .str x => .str x
  | _, _, .ty n => .ty n
  | _, _, .opq a => .opq a
  | _, _, .tup h r => .tup (ex_t e h) (RepL.mono e r)
  | _, _, .lst h r => .lst (ex_l e h) (RepL.mono e r)
  | _, _, .ins h r => .ins (e _ _ h) (RepL.mono e r)
  | _, _, .dct h r => .dct (e _ _ h) (RepL.mono e r)
  | _, _, .dctT h r => .dctT (e _ _ h) (RepL.mono e r)
theorem RepL.mono (e : Ex Z Z') : ∀ {vs : List V} {ds : List D}, RepL K Z vs ds → RepL K Z' vs ds
  | _, _, .nil => .nil
  | _, _, .cons h r => .cons (Rep.mono e h) (RepL.mono e r)
end
mutual
theorem RepK.mono (e : Ex Z Z') (f : Ex F F') : ∀ {v : V} {o : O}, RepK K Z F v o → RepK K Z' F' v o
  | _, _, .fz h => .fz (h.mono e)
  | _, _, .vw h r => .vw (ex_l f h) (r.mono e)
  | _, _, .vwa h r => .vwa (ex_l f h) (r.mono e)
  | _, _, .lst h r => .lst (f _ _ h) (RepKL.mono e f r)
  | _, _, .tup h r => .tup (f _ _ h) (RepKL.mono e f r)
  | _, _, .ins h r => .ins (f _ _ h) (RepKL.mono e f r)
  | _, _, .at h r => .at (f _ _ h) (RepKL.mono e f r)
  | _, _, .dct h r => .dct (f _ _ h) (RepKL.mono e f r)
  | _, _, .dctT h r => .dctT (f _ _ h) (RepKL.mono e f r)
  | _, .loc _ o, .loc h => .loc (RepK.mono (o := o) e f h)
  | _, _, .pt => .pt
  | _, .lk o, .lk h => .lk (RepK.mono (o := o) e f h)
theorem RepKL.mono (e : Ex Z Z') (f : Ex F F') : ∀ {vs : List V} {os : List O}, RepKL K Z F vs os → RepKL K Z' F' vs os
  | _, _, .nil => .nil
  | _, _, .cons h r => .cons (RepK.mono e f h) (RepKL.mono e f r)
end
mutual
theorem RepO.mono (e : Ex Z Z') (f : Ex F F') : ∀ {v : V} {o : O} {A : List Addr}, RepO K Z F H v o A → (∀ a ∈ A, ∀ u, H a = some u → H' a = some u) → RepO K Z' F' H' v o A
  | _, _, _, .fz h, _ => .fz (h.mono e)
  | _, _, _, .vw h r, _ => .vw (ex_l f h) (r.mono e)
  | _, _, _, .vwa h r, _ => .vwa (ex_l f h) (r.mono e)
  | _, _, _, .lk h, _ => .lk (h.mono e f)
  | _, _, _, .lst h r, k => .lst (k _ List.mem_cons_self _ h) (RepOL.mono e f r fun a m => k a (List.mem_cons_of_mem _ m))
  | _, _, _, .tup h r, k => .tup (k _ List.mem_cons_self _ h) (RepOL.mono e f r fun a m => k a (List.mem_cons_of_mem _ m))
  | _, _, _, .ins h r, k => .ins (k _ List.mem_cons_self _ h) (RepOL.mono e f r fun a m => k a (List.mem_cons_of_mem _ m))
  | _, _, _, .loc h, k => .loc (RepO.mono e f h k)
  | _, _, _, .pt, _ => .pt
  | _, _, _, .at h r, k => .at (k _ List.mem_cons_self _ h) (RepOL.mono e f r fun a m => k a (List.mem_cons_of_mem _ m))
  | _, _, _, .dct h r, k => .dct (k _ List.mem_cons_self _ h) (RepOL.mono e f r fun a m => k a (List.mem_cons_of_mem _ m))
  | _, _, _, .dctT h r, k => .dctT (k _ List.mem_cons_self _ h) (RepOL.mono e f r fun a m => k a (List.mem_cons_of_mem _ m))
theorem RepOL.mono (e : Ex Z Z') (f : Ex F F') : ∀ {vs : List V} {os : List O} {A : List Addr}, RepOL K Z F H vs os A → (∀ a ∈ A, ∀ u, H a = some u → H' a = some u) → RepOL K Z' F' H' vs os A
  | _, _, _, .nil, _ => .nil
  | _, _, _, .cons h r, k => .cons (RepO.mono e f h fun a m => k a (List.mem_append_left _ m)) (RepOL.mono e f r fun a m => k a (List.mem_append_right _ m))
end
mutual
theorem RepO.there : ∀ {v : V} {o : O} {A : List Addr}, RepO K Z F H v o A → ∀ a ∈ A, ∃ u, H a = some u
  | _, _, _, .fz _, _, m => nomatch m
  | _, _, _, .vw _ _, _, m => nomatch m
  | _, _, _, .vwa _ _, _, m => nomatch m
  | _, _, _, .lk _, _, m => nomatch m
  | _, _, _, .lst h r, a, m => (List.mem_cons.mp m).elim (fun e => ⟨_, e ▸ h⟩) fun m => RepOL.there r a m
  | _, _, _, .tup h r, a, m => (List.mem_cons.mp m).elim (fun e => ⟨_, e ▸ h⟩) fun m => RepOL.there r a m
  | _, _, _, .ins h r, a, m => (List.mem_cons.mp m).elim (fun e => ⟨_, e ▸ h⟩) fun m => RepOL.there r a m
  | _, _, _, .loc h, a, m => RepO.there h a m
  | _, _, _, .pt, _, m => nomatch m
  | _, _, _, .at h r, a, m => (List.mem_cons.mp m).elim (fun e => ⟨_, e ▸ h⟩) fun m => RepOL.there r a m
  | _, _, _, .dct h r, a, m => (List.mem_cons.mp m).elim (fun e => ⟨_, e ▸ h⟩) fun m => RepOL.there r a m
  | _, _, _, .dctT h r, a, m => (List.mem_cons.mp m).elim (fun e => ⟨_, e ▸ h⟩) fun m => RepOL.there r a m
theorem RepOL.there : ∀ {vs : List V} {os : List O} {A : List Addr}, RepOL K Z F H vs os A → ∀ a ∈ A, ∃ u, H a = some u
  | _, _, _, .nil, _, m => nomatch m
  | _, _, _, .cons h r, a, m => (List.mem_append.mp m).elim (fun m => RepO.there h a m) fun m => RepOL.there r a m
end
theorem RepO.ex {v : V} {o : O} {A : List Addr} (e : Ex Z Z') (g : Ex H H') (r : RepO K Z F H v o A) : RepO K Z' F H' v o A := r.mono e (Ex.refl _) fun a _ u h => g a u h
theorem RepO.frame {v : V} {o : O} {A : List Addr} (r : RepO K Z F H v o A) (k : ∀ a ∈ A, H' a = H a) : RepO K Z F H' v o A := r.mono (Ex.refl _) (Ex.refl _) fun a m u h => (k a m).trans h
theorem RepKL.length : ∀ {vs : List V} {os : List O}, RepKL K Z F vs os → vs.length = os.length
  | _, _, .nil => rfl
  | _, _, .cons _ r => congrArg (· + 1) r.length
theorem RepKL.get : ∀ {vs : List V} {os : List O} {i : Nat} {o : O}, RepKL K Z F vs os → os[i]? = some o → ∃ v, vs[i]? = some v ∧ RepK K Z F v o
  | _, _, _, _, .nil, e => by simp at e
  | _, _, 0, _, .cons h _, e => by
    simp at e
    subst e
    exact ⟨_, rfl, h⟩
  | _, _, i + 1, o, .cons _ r, e => by
    obtain ⟨v, h1, h2⟩ := RepKL.get (i := i) (o := o) r (by simpa using e)
    exact ⟨v, by simpa using h1, h2⟩
theorem RepKL.fzs : ∀ {ds : List D} {vs : List V}, RepKL K Z F vs (ds.map .fz) → RepL K Z vs ds
  | [], _, .nil => .nil
  | _ :: _, _, .cons (.fz h) r => .cons h r.fzs
theorem RepL.length : ∀ {vs : List V} {ds : List D}, RepL K Z vs ds → vs.length = ds.length
  | _, _, .nil => rfl
  | _, _, .cons _ r => congrArg (· + 1) r.length
theorem RepL.get : ∀ {vs : List V} {ds : List D} {i : Nat} {d : D}, RepL K Z vs ds → ds[i]? = some d → ∃ v, vs[i]? = some v ∧ Rep K Z v d
  | _, _, _, _, .nil, e => by simp at e
  | _, _, 0, _, .cons h _, e => by
    simp at e
    subst e
    exact ⟨_, rfl, h⟩
  | _, _, i + 1, d, .cons _ r, e => by
    obtain ⟨v, h1, h2⟩ := RepL.get (i := i) (d := d) r (by simpa using e)
    exact ⟨v, by simpa using h1, h2⟩
theorem RepL.append : ∀ {vs ws : List V} {ds es : List D}, RepL K Z vs ds → RepL K Z ws es → RepL K Z (vs ++ ws) (ds ++ es)
  | _, _, _, _, .nil, s => s
  | _, _, _, _, .cons h r, s => .cons h (r.append s)
theorem RepL.set {v : V} {d : D} (h : Rep K Z v d) : ∀ {vs : List V} {ds : List D} (i : Nat), RepL K Z vs ds → RepL K Z (vs.set i v) (ds.set i d)
  | _, _, _, .nil => .nil
  | _, _, 0, .cons _ r => .cons h r
  | _, _, i + 1, .cons g r => .cons g (RepL.set h i r)
theorem RepL.take : ∀ {vs : List V} {ds : List D} (n : Nat), RepL K Z vs ds → RepL K Z (vs.take n) (ds.take n)
  | _, _, 0, _ => .nil
  | _, _, _ + 1, .nil => .nil
  | _, _, n + 1, .cons h r => .cons h (RepL.take n r)
theorem RepL.drop : ∀ {vs : List V} {ds : List D} (n : Nat), RepL K Z vs ds → RepL K Z (vs.drop n) (ds.drop n)
  | _, _, 0, r => r
  | _, _, _ + 1, .nil => .nil
  | _, _, n + 1, .cons _ r => RepL.drop n r
theorem RepL.reverse : ∀ {vs : List V} {ds : List D}, RepL K Z vs ds → RepL K Z vs.reverse ds.reverse
  | _, _, .nil => .nil
  | _, _, .cons h r => by
    rw [List.reverse_cons, List.reverse_cons]
    exact r.reverse.append (.cons h .nil)
/-- a list of frozen things -/
theorem RepOL.fzs : ∀ {ds : List D} {vs : List V} {A : List Addr}, RepOL K Z F H vs (ds.map .fz) A → A = [] ∧ RepL K Z vs ds
  | [], _, _, .nil => ⟨rfl, .nil⟩
  | _ :: _, _, _, .cons (.fz h) r => by
    obtain ⟨e, q⟩ := RepOL.fzs r
    exact ⟨by rw [e]; rfl, .cons h q⟩
theorem RepL.own : ∀ {vs : List V} {ds : List D}, RepL K Z vs ds → RepOL K Z F H vs (ds.map .fz) []
  | _, _, .nil => .nil
  | _, _, .cons h r => .cons (A := []) (B := []) (.fz h) r.own
theorem RepL.ints : ∀ {ns : List Int} {vs : List V}, RepL K Z vs (ns.map .int) → vs = ns.map V.int
  | [], _, .nil => rfl
  | _ :: _, _, .cons (.int _) r => by rw [r.ints]; rfl
theorem RepL.ofInts : ∀ {ns : List Int}, RepL K Z (ns.map V.int) (ns.map .int)
  | [] => .nil
  | n :: r => .cons (.int n) (RepL.ofInts (ns := r))
end

mutual
def O.frz : O → D
  | .fz d => d
  | .vw ds => .lst ds
  | .vwa _ ds => .lst ds
  | .lk o => o.frz
  | .lst os => .lst (O.frzL os)
  | .tup os => .tup (O.frzL os)
  | .ins C ns os => .ins C ns (O.frzL os)
  | .at _ C ns os => .ins C ns (O.frzL os)
  | .loc _ o => o.frz
  | .pt a => .opq a
  | .rs _ => .non
  | .dct ks os => .dct ks (O.frzL os)
  | .dctT ks os => .dctT ks (O.frzL os)
def O.frzL : List O → List D
  | [] => []
  | o :: r => o.frz :: O.frzL r
end
mutual
def O.nv : O → Bool
  | .fz _ => true
  | .vw _ => false
  | .vwa _ _ => false
  | .lk _ => false
  | .lst os => O.nvL os
  | .tup os => O.nvL os
  | .ins _ _ os => O.nvL os
  | .at _ _ _ os => O.nvL os
  | .loc _ o => o.nv
  | .pt _ => true
  | .rs _ => false
  | .dct _ os => O.nvL os
  | .dctT _ os => O.nvL os
def O.nvL : List O → Bool
  | [] => true
  | o :: r => o.nv && O.nvL r
end
theorem O.frzL_fz : ∀ ds : List D, O.frzL (ds.map .fz) = ds
  | [] => rfl
  | d :: r => by
    show O.frz (.fz d) :: O.frzL (r.map .fz) = d :: r
    rw [O.frzL_fz r]
    rfl
theorem O.nvL_fz : ∀ ds : List D, O.nvL (ds.map .fz) = true
  | [] => rfl
  | d :: r => by
    show (O.nv (.fz d) && O.nvL (r.map .fz)) = true
    rw [O.nvL_fz r]
    rfl
section
variable {K : PySem.W.Frag} {Z Z' F H : Hp}
mutual
theorem RepO.frz (e : Ex Z Z') : ∀ {v : V} {o : O} {A : List Addr}, RepO K Z F H v o A → (∀ a ∈ A, Z' a = H a) → o.nv = true → Rep K Z' v o.frz
  | _, _, _, .fz h, _, _ => h.mono e
  | _, _, _, .vw _ _, _, n => nomatch n
  | _, _, _, .vwa _ _, _, n => nomatch n
  | _, _, _, .lk _, _, n => nomatch n
  | _, _, _, .lst h r, k, n => .lst (SqL.of ((k _ List.mem_cons_self).trans h)) (RepOL.frz e r (fun a m => k a (List.mem_cons_of_mem _ m)) n)
  | _, _, _, .tup h r, k, n => .tup (SqT.of ((k _ List.mem_cons_self).trans h)) (RepOL.frz e r (fun a m => k a (List.mem_cons_of_mem _ m)) n)
  | _, _, _, .ins h r, k, n => .ins ((k _ List.mem_cons_self).trans h) (RepOL.frz e r (fun a m => k a (List.mem_cons_of_mem _ m)) n)
  | _, .loc _ o, _, .loc h, k, n => by
    have h : RepO K Z F H _ o _ := h
    exact (show Rep K Z' _ o.frz from RepO.frz (o := o) e h k n)
  | _, _, _, .pt, _, _ => .opq _
  | _, _, _, .at h r, k, n => .ins ((k _ List.mem_cons_self).trans h) (RepOL.frz e r (fun a m => k a (List.mem_cons_of_mem _ m)) n)
  | _, _, _, .dct h r, k, n => .dct ((k _ List.mem_cons_self).trans h) (RepOL.frz e r (fun a m => k a (List.mem_cons_of_mem _ m)) n)
  | _, _, _, .dctT h r, k, n => .dctT ((k _ List.mem_cons_self).trans h) (RepOL.frz e r (fun a m => k a (List.mem_cons_of_mem _ m)) n)
theorem RepOL.frz (e : Ex Z Z') : ∀ {vs : List V} {os : List O} {A : List Addr}, RepOL K Z F H vs os A → (∀ a ∈ A, Z' a = H a) → O.nvL os = true → RepL K Z' vs (O.frzL os)
  | _, _, _, .nil, _, _ => .nil
  | _, _, _, .cons h r, k, n => .cons (RepO.frz e h (fun a m => k a (List.mem_append_left _ m)) (Bool.and_eq_true_iff.mp n).1) (RepOL.frz e r (fun a m => k a (List.mem_append_right _ m)) (Bool.and_eq_true_iff.mp n).2)
end
end
/-- Z and the cells at A -/
def frzAt (Z H : Hp) (A : List Addr) : Hp := fun a => if a ∈ A then H a else Z a
theorem frzAt_in {Z H : Hp} {A : List Addr} {a : Addr} (h : a ∈ A) : frzAt Z H A a = H a := if_pos h
theorem frzAt_out {Z H : Hp} {A : List Addr} {a : Addr} (h : a ∉ A) : frzAt Z H A a = Z a := if_neg h
theorem ex_frzAt {Z H : Hp} {A : List Addr} (e : Ex Z H) : Ex Z (frzAt Z H A) := fun a u h => by
  by_cases m : a ∈ A
  · rw [frzAt_in m]
    exact e a u h
  · rw [frzAt_out m]
    exact h
theorem frzAt_ex {Z H : Hp} {A : List Addr} (e : Ex Z H) : Ex (frzAt Z H A) H := fun a u h => by
  by_cases m : a ∈ A
  · rw [frzAt_in m] at h
    exact h
  · rw [frzAt_out m] at h
    exact e a u h

/-- the heap grows: frozen part Z, all H -/
structure Gr (Z H Z' H' : Hp) : Prop where
  zz : Ex Z Z'
  hh : Ex H H'
  zh : Ex Z' H'
  nw : ∀ a o, H a = some o → Z' a = Z a
theorem Gr.trans {Z H Z1 H1 Z2 H2 : Hp} (a : Gr Z H Z1 H1) (b : Gr Z1 H1 Z2 H2) : Gr Z H Z2 H2 :=
  ⟨a.zz.trans b.zz, a.hh.trans b.hh, b.zh, fun x o h => (b.nw x o (a.hh x o h)).trans (a.nw x o h)⟩
theorem Gr.refl {Z H : Hp} (h : Ex Z H) : Gr Z H Z H := ⟨Ex.refl _, Ex.refl _, h, fun _ _ _ => rfl⟩
/-- a new object that is not frozen -/
theorem Gr.new {Z H : Hp} {p : Addr} {o : HO} (h : Ex Z H) (hp : H p = none) : Gr Z H Z (upd H p o) := ⟨Ex.refl _, Ex.new hp, h.trans (Ex.new hp), fun _ _ _ => rfl⟩
/-- .. frozen at once -/
theorem Gr.newz {Z H : Hp} {p : Addr} {o : HO} (h : Ex Z H) (hp : H p = none) : Gr Z H (upd Z p o) (upd H p o) :=
  ⟨Ex.new (h.free hp), Ex.new hp, fun a u e => by
    by_cases ha : a = p
    · subst ha
      rw [upd_same] at e ⊢
      exact e
    · rw [upd_ne ha] at e ⊢
      exact h a u e, fun a u e => upd_ne (ne_of_none e hp)⟩

abbrev Slots := List (Option O)
inductive StL (K : PySem.W.Frag) (Z F H : Hp) : Slots → L2.St → List Addr → Prop where
  | nil : StL K Z F H [] [] []
  | no {s : Option V} {ρ : Slots} {σ : L2.St} {A : List Addr} : StL K Z F H ρ σ A → StL K Z F H (none :: ρ) (s :: σ) A
  | so {v : V} {o : O} {ρ : Slots} {σ : L2.St} {A B : List Addr} : RepO K Z F H v o A → StL K Z F H ρ σ B → StL K Z F H (some o :: ρ) (some v :: σ) (A ++ B)
structure StR (K : PySem.W.Frag) (ρ : Slots) (Z0 F Z : Hp) (σ : L2.St) (H : Hp) : Prop where
  gr : Gr Z0 F Z H
  st : ∃ A, StL K Z F H ρ σ A ∧ A.Nodup ∧ ∀ a ∈ A, Z a = none ∧ F a = none
section
variable {K : PySem.W.Frag} {Z0 Z Z' F H H' : Hp} {ρ : Slots} {σ : L2.St}
theorem StL.mono (e : Ex Z Z') : ∀ {ρ : Slots} {σ : L2.St} {A : List Addr}, StL K Z F H ρ σ A → (∀ a ∈ A, ∀ u, H a = some u → H' a = some u) → StL K Z' F H' ρ σ A
  | _, _, _, .nil, _ => .nil
  | _, _, _, .no h, k => .no (h.mono e k)
  | _, _, _, .so r h, k => .so (r.mono e (Ex.refl _) fun a m => k a (List.mem_append_left _ m)) (h.mono e fun a m => k a (List.mem_append_right _ m))
theorem StL.there : ∀ {ρ : Slots} {σ : L2.St} {A : List Addr}, StL K Z F H ρ σ A → ∀ a ∈ A, ∃ u, H a = some u
  | _, _, _, .nil, _, m => nomatch m
  | _, _, _, .no h, a, m => h.there a m
  | _, _, _, .so r h, a, m => (List.mem_append.mp m).elim (fun m => r.there a m) fun m => h.there a m
theorem StL.length : ∀ {ρ : Slots} {σ : L2.St} {A : List Addr}, StL K Z F H ρ σ A → σ.length = ρ.length
  | _, _, _, .nil => rfl
  | _, _, _, .no h => congrArg (· + 1) h.length
  | _, _, _, .so _ h => congrArg (· + 1) h.length
theorem StL.get : ∀ {ρ : Slots} {σ : L2.St} {A : List Addr} {i : Nat} {o : O}, StL K Z F H ρ σ A → ρ[i]? = some (some o) → ∃ v B, σ[i]? = some (some v) ∧ RepO K Z F H v o B ∧ ∀ a ∈ B, a ∈ A
  | _, _, _, _, _, .nil, e => by simp at e
  | _, _, _, 0, _, .no h, e => by simp at e
  | _, _, _, i + 1, _, .no h, e => by
    obtain ⟨v, B, h1, h2, h3⟩ := h.get (i := i) (by simpa using e)
    exact ⟨v, B, by simpa using h1, h2, h3⟩
  | _, _, _, 0, _, .so r h, e => by
    simp at e
    subst e
    exact ⟨_, _, rfl, r, fun a m => List.mem_append_left _ m⟩
  | _, _, _, i + 1, _, .so r h, e => by
    obtain ⟨v, B, h1, h2, h3⟩ := h.get (i := i) (by simpa using e)
    exact ⟨v, B, by simpa using h1, h2, fun a m => List.mem_append_right _ (h3 a m)⟩
/-- a slot is stored anew -/
theorem StL.put {v : V} {o : O} {B : List Addr} (r : RepO K Z F H v o B) : ∀ {ρ : Slots} {σ : L2.St} {A : List Addr} {i : Nat}, StL K Z F H ρ σ A → i < ρ.length → A.Nodup → B.Nodup → (∀ a ∈ B, a ∉ A) →
    ∃ A', StL K Z F H (ρ.set i (some o)) (σ.set i (some v)) A' ∧ A'.Nodup ∧ ∀ a ∈ A', a ∈ A ∨ a ∈ B
  | _, _, _, _, .nil, hi, _, _, _ => by simp at hi
  | _, _, _, 0, .no h, _, nA, nB, d => ⟨_, .so r h, by
      refine List.nodup_append.mpr ⟨nB, nA, fun a ha b hb e => ?_⟩
      subst e
      exact d a ha hb, fun a m => (List.mem_append.mp m).symm⟩
  | _, _, _, i + 1, .no h, hi, nA, nB, d => by
    obtain ⟨A', h1, h2, h3⟩ := StL.put r (i := i) h (by simpa using hi) nA nB d
    exact ⟨A', .no h1, h2, h3⟩
  | _, _, _, 0, .so (A := A1) (B := A2) _ h, _, nA, nB, d => ⟨_, .so r h, by
      refine List.nodup_append.mpr ⟨nB, (List.nodup_append.mp nA).2.1, fun a ha b hb e => ?_⟩
      subst e
      exact d a ha (List.mem_append_right _ hb), fun a m => (List.mem_append.mp m).elim .inr fun m => .inl (List.mem_append_right _ m)⟩
  | _, _, _, i + 1, .so (A := A1) (B := A2) q h, hi, nA, nB, d => by
    obtain ⟨n1, n2, n3⟩ := List.nodup_append.mp nA
    obtain ⟨A', h1, h2, h3⟩ := StL.put r (i := i) h (by simpa using hi) n2 nB fun a ha hb => d a ha (List.mem_append_right _ hb)
    refine ⟨_, .so q h1, List.nodup_append.mpr ⟨n1, h2, fun a ha b hb e => ?_⟩, fun a m => ?_⟩
    · subst e
      rcases h3 a hb with z | z
      · exact n3 a ha a z rfl
      · exact d a z (List.mem_append_left _ ha)
    · rcases List.mem_append.mp m with m | m
      · exact .inl (List.mem_append_left _ m)
      · exact (h3 a m).imp (List.mem_append_right _) id
/-- a slot's own thing is changed in place -/
theorem StL.at : ∀ {ρ : Slots} {σ : L2.St} {A : List Addr} {i : Nat} {o : O}, StL K Z F H ρ σ A → ρ[i]? = some (some o) → A.Nodup →
    ∃ v B, σ[i]? = some (some v) ∧ RepO K Z F H v o B ∧ B.Nodup ∧ (∀ a ∈ B, a ∈ A) ∧ ∀ {Z' H' : Hp} {v' : V} {o' : O} {B' : List Addr}, Ex Z Z' → (∀ a ∈ A, a ∉ B → ∀ u, H a = some u → H' a = some u) → RepO K Z' F H' v' o' B' → B'.Nodup → (∀ a ∈ B', a ∈ A → a ∈ B) →
      ∃ A', StL K Z' F H' (ρ.set i (some o')) (σ.set i (some v')) A' ∧ A'.Nodup ∧ ∀ a ∈ A', (a ∈ A ∧ a ∉ B) ∨ a ∈ B'
  | _, _, _, _, _, .nil, e, _ => by simp at e
  | _, _, _, 0, _, .no h, e, _ => by simp at e
  | _, _, _, i + 1, _, .no h, e, nA => by
    obtain ⟨v, B, h1, h2, h3, h4, h5⟩ := StL.at (i := i) h (by simpa using e) nA
    refine ⟨v, B, by simpa using h1, h2, h3, h4, fun ez k r n d => ?_⟩
    obtain ⟨A', q1, q2, q3⟩ := h5 ez k r n d
    exact ⟨A', .no q1, q2, q3⟩
  | _, _, _, 0, _, .so (A := A1) (B := A2) q h, e, nA => by
    simp at e
    subst e
    obtain ⟨n1, n2, n3⟩ := List.nodup_append.mp nA
    refine ⟨_, A1, rfl, q, n1, fun a m => List.mem_append_left _ m, fun ez k r n d => ?_⟩
    refine ⟨_, .so r (h.mono ez fun a m => k a (List.mem_append_right _ m) fun z => n3 a z a m rfl), List.nodup_append.mpr ⟨n, n2, fun a ha b hb e => ?_⟩, fun a m => ?_⟩
    · subst e
      exact n3 a (d a ha (List.mem_append_right _ hb)) a hb rfl
    · rcases List.mem_append.mp m with m | m
      · exact .inr m
      · exact .inl ⟨List.mem_append_right _ m, fun z => n3 a z a m rfl⟩
  | _, _, _, i + 1, _, .so (A := A1) (B := A2) q h, e, nA => by
    obtain ⟨n1, n2, n3⟩ := List.nodup_append.mp nA
    obtain ⟨v, B, h1, h2, h3, h4, h5⟩ := StL.at (i := i) h (by simpa using e) n2
    refine ⟨v, B, by simpa using h1, h2, h3, fun a m => List.mem_append_right _ (h4 a m), fun ez k r n d => ?_⟩
    obtain ⟨A', q1, q2, q3⟩ := h5 ez (fun a m nb => k a (List.mem_append_right _ m) nb) r n fun a m z => d a m (List.mem_append_right _ z)
    refine ⟨_, .so (q.mono ez (Ex.refl _) fun a m => k a (List.mem_append_left _ m) fun z => n3 a m a (h4 a z) rfl) q1, List.nodup_append.mpr ⟨n1, q2, fun a ha b hb e => ?_⟩, fun a m => ?_⟩
    · subst e
      rcases q3 a hb with z | z
      · exact n3 a ha a z.1 rfl
      · exact n3 a ha a (h4 a (d a z (List.mem_append_left _ ha))) rfl
    · rcases List.mem_append.mp m with m | m
      · exact .inl ⟨List.mem_append_left _ m, fun z => n3 a m a (h4 a z) rfl⟩
      · exact (q3 a m).imp (fun z => ⟨List.mem_append_right _ z.1, z.2⟩) id

theorem StR.ex (s : StR K ρ Z0 F Z σ H) : Ex Z H := s.gr.zh
theorem StR.grow (s : StR K ρ Z0 F Z σ H) (g : Gr Z H Z' H') : StR K ρ Z0 F Z' σ H' := by
  obtain ⟨A, h1, h2, h3⟩ := s.st
  refine ⟨s.gr.trans g, A, h1.mono g.zz fun a _ u e => g.hh a u e, h2, fun a m => ⟨?_, (h3 a m).2⟩⟩
  obtain ⟨u, e⟩ := h1.there a m
  rw [g.nw a u e]
  exact (h3 a m).1
theorem StR.len (s : StR K ρ Z0 F Z σ H) : σ.length = ρ.length := let ⟨_, h, _⟩ := s.st; h.length
/-- what is new: not there ahead, not frozen -/
def New (H Z' : Hp) (A : List Addr) : Prop := A.Nodup ∧ ∀ a ∈ A, H a = none ∧ Z' a = none
theorem New.nil {H Z' : Hp} : New H Z' [] := ⟨List.nodup_nil, fun _ m => nomatch m⟩
theorem StR.put {v : V} {o : O} {B : List Addr} {i : Nat} (s : StR K ρ Z0 F Z σ H) (g : Gr Z H Z' H') (r : RepO K Z' F H' v o B) (n : New H Z' B) (hi : i < ρ.length) : StR K (ρ.set i (some o)) Z0 F Z' (σ.set i (some v)) H' := by
  have s' := s.grow g
  obtain ⟨A, h1, h2, h3⟩ := s.st
  have m1 : StL K Z' F H' ρ σ A := h1.mono g.zz fun a _ u e => g.hh a u e
  obtain ⟨A', q1, q2, q3⟩ := StL.put r m1 hi h2 n.1 fun a ha hb => by
    obtain ⟨u, e⟩ := h1.there a hb
    rw [(n.2 a ha).1] at e
    cases e
  refine ⟨s'.gr, A', q1, q2, fun a m => ?_⟩
  rcases q3 a m with z | z
  · obtain ⟨u, e⟩ := h1.there a z
    exact ⟨(g.nw a u e).trans (h3 a z).1, (h3 a z).2⟩
  · exact ⟨(n.2 a z).2, s.gr.hh.free (n.2 a z).1⟩
/-- a slot's own thing is frozen -/
theorem StR.freeze {i : Nat} {o : O} (s : StR K ρ Z0 F Z σ H) (hi : ρ[i]? = some (some o)) (hn : o.nv = true) : ∃ Z', Gr Z0 F Z' H ∧ Ex Z Z' ∧ StR K (ρ.set i (some (.fz o.frz))) Z0 F Z' σ H := by
  obtain ⟨A, h1, h2, h3⟩ := s.st
  obtain ⟨v, B, q1, q2, q3, q4, q5⟩ := h1.at hi h2
  have hr : Rep K (frzAt Z H B) v o.frz := q2.frz (ex_frzAt s.ex) (fun a m => frzAt_in m) hn
  have g : Gr Z0 F (frzAt Z H B) H := ⟨s.gr.zz.trans (ex_frzAt s.ex), s.gr.hh, frzAt_ex s.ex, fun a u e => by
    have nb : a ∉ B := fun m => by
      rw [(h3 a (q4 a m)).2] at e
      cases e
    rw [frzAt_out nb]
    exact s.gr.nw a u e⟩
  obtain ⟨A', r1, r2, r3⟩ := q5 (Z' := frzAt Z H B) (H' := H) (v' := v) (o' := .fz o.frz) (B' := []) (ex_frzAt s.ex) (fun _ _ _ _ e => e) (.fz hr) List.nodup_nil fun _ m => nomatch m
  have eσ : σ.set i (some v) = σ := by
    apply List.ext_getElem?
    intro j
    by_cases hj : i = j
    · subst hj
      rw [List.getElem?_set_self (List.getElem?_eq_some_iff.mp q1).1, q1]
    · rw [List.getElem?_set_ne hj]
  rw [eσ] at r1
  refine ⟨frzAt Z H B, g, ex_frzAt s.ex, g, A', r1, r2, fun a m => ?_⟩
  rcases r3 a m with z | z
  · rw [frzAt_out z.2]
    exact h3 a z.1
  · exact nomatch z
theorem set_same {σ : L2.St} {i : Nat} {v : V} (q : σ[i]? = some (some v)) : σ.set i (some v) = σ := by
  apply List.ext_getElem?
  intro j
  by_cases hj : i = j
  · subst hj
    rw [List.getElem?_set_self (List.getElem?_eq_some_iff.mp q).1, q]
  · rw [List.getElem?_set_ne hj]
/-- a slot's own thing changes -/
theorem StR.upd {i : Nat} {o : O} (s : StR K ρ Z0 F Z σ H) (hi : ρ[i]? = some (some o)) : ∃ v A, σ[i]? = some (some v) ∧ RepO K Z F H v o A ∧ A.Nodup ∧ (∀ a ∈ A, Z a = none ∧ F a = none) ∧
    ∀ {Z' H' : Hp} {o' : O} {A' : List Addr}, Ex Z Z' → (∀ a u, H a = some u → Z' a = Z a) → Ex Z' H' → (∀ a, a ∉ A → ∀ u, H a = some u → H' a = some u) → RepO K Z' F H' v o' A' → A'.Nodup → (∀ a ∈ A', a ∈ A ∨ (H a = none ∧ Z' a = none)) →
      StR K (ρ.set i (some o')) Z0 F Z' σ H' := by
  obtain ⟨A, h1, h2, h3⟩ := s.st
  obtain ⟨v, B, q1, q2, q3, q4, q5⟩ := h1.at hi h2
  refine ⟨v, B, q1, q2, q3, fun a m => h3 a (q4 a m), fun {Z' H' o' A'} ez nz zh k r n d => ?_⟩
  obtain ⟨A2, r1, r2, r3⟩ := q5 (v' := v) ez (fun a _ nb u e => k a nb u e) r n fun a m ma => by
    rcases d a m with z | z
    · exact z
    · obtain ⟨u, e⟩ := h1.there a ma
      rw [z.1] at e
      cases e
  rw [set_same q1] at r1
  have hF : ∀ a u, F a = some u → a ∉ B := fun a u e m => by
    rw [(h3 a (q4 a m)).2] at e
    cases e
  refine ⟨⟨s.gr.zz.trans ez, fun a u e => k a (hF a u e) u (s.gr.hh a u e), zh, fun a u e => (nz a u (s.gr.hh a u e)).trans (s.gr.nw a u e)⟩, A2, r1, r2, fun a m => ?_⟩
  have old : ∀ a ∈ A, Z' a = none ∧ F a = none := fun a m => by
    obtain ⟨u, e⟩ := h1.there a m
    exact ⟨(nz a u e).trans (h3 a m).1, (h3 a m).2⟩
  rcases r3 a m with z | z
  · exact old a z.1
  · rcases d a z with y | y
    · exact old a (q4 a y)
    · exact ⟨y.2, s.gr.hh.free y.1⟩
/-- slots are forgotten -/
inductive Le : Slots → Slots → Prop where
  | nil : Le [] []
  | no {x : Option O} {ρ τ : Slots} : Le ρ τ → Le (x :: ρ) (none :: τ)
  | eq {x : Option O} {ρ τ : Slots} : Le ρ τ → Le (x :: ρ) (x :: τ)
theorem Le.refl : ∀ ρ : Slots, Le ρ ρ
  | [] => .nil
  | _ :: r => .eq (Le.refl r)
theorem StL.le : ∀ {ρ τ : Slots} {σ : L2.St} {A : List Addr}, Le ρ τ → StL K Z F H ρ σ A → A.Nodup → ∃ A', StL K Z F H τ σ A' ∧ A'.Nodup ∧ ∀ a ∈ A', a ∈ A
  | _, _, _, _, .nil, .nil, n => ⟨_, .nil, n, fun _ m => m⟩
  | _, _, _, _, .no l, .no h, n => by
    obtain ⟨A', q1, q2, q3⟩ := StL.le l h n
    exact ⟨A', .no q1, q2, q3⟩
  | _, _, _, _, .no l, .so _ h, n => by
    obtain ⟨A', q1, q2, q3⟩ := StL.le l h (List.nodup_append.mp n).2.1
    exact ⟨A', .no q1, q2, fun a m => List.mem_append_right _ (q3 a m)⟩
  | _, _, _, _, .eq l, .no h, n => by
    obtain ⟨A', q1, q2, q3⟩ := StL.le l h n
    exact ⟨A', .no q1, q2, q3⟩
  | _, _, _, _, .eq l, .so r h, n => by
    obtain ⟨n1, n2, n3⟩ := List.nodup_append.mp n
    obtain ⟨A', q1, q2, q3⟩ := StL.le l h n2
    refine ⟨_, .so r q1, List.nodup_append.mpr ⟨n1, q2, fun a ha b hb => n3 a ha b (q3 b hb)⟩, fun a m => ?_⟩
    rcases List.mem_append.mp m with m | m
    · exact List.mem_append_left _ m
    · exact List.mem_append_right _ (q3 a m)
theorem StR.le {τ : Slots} (s : StR K ρ Z0 F Z σ H) (l : Le ρ τ) : StR K τ Z0 F Z σ H := by
  obtain ⟨A, h1, h2, h3⟩ := s.st
  obtain ⟨A', q1, q2, q3⟩ := h1.le l h2
  exact ⟨s.gr, A', q1, q2, fun a m => h3 a (q3 a m)⟩
end
end M
namespace M
open PySem L2

def wE (X : Cx) (e : Expr) : TE := fun σ H Q => ∀ (pins : List (Addr × Obj)) (s : Shared), Inv X pins σ H s → wpAny (model X.prog X.w) X.A (eval e X.env) (EP X pins σ Q) X.xe s
def wT (X : Cx) (e : Expr) : TT := fun σ H Q => ∀ (pins : List (Addr × Obj)) (s : Shared), Inv X pins σ H s → wpAny (model X.prog X.w) X.A (isTrue e X.env (eval e X.env)) (TP X pins σ Q) X.xe s
def wA (X : Cx) (es : List Expr) : TA := fun σ H Q => ∀ (pos : Pos) (pins : List (Addr × Obj)) (s : Shared), Inv X pins σ H s → wpAny (model X.prog X.w) X.A (spliced (backTo pos (starEach es X.env))) (AP X pins σ Q) X.xe s
def wS1 (X : Cx) (st : Stmt) : TS := fun D σ H => ∀ (pins : List (Addr × Obj)) (s : Shared), Inv X pins σ H s → wpAny (model X.prog X.w) X.A (exec st X.env) (SP X pins D) X.xe s
def wS (X : Cx) (st : List Stmt) : TS := fun D σ H => ∀ (pins : List (Addr × Obj)) (s : Shared), Inv X pins σ H s → wpAny (model X.prog X.w) X.A (execs st X.env) (SP X pins D) X.xe s
section
variable {X : Cx} {e : Expr} {es : List Expr} {st : Stmt} {sts : List Stmt}
theorem pe_w : PE X e (wE X e) := ⟨fun pins s _ _ _ I h => h pins s I⟩
theorem pt_w : PT X e (wT X e) := ⟨fun pins s _ _ _ I h => h pins s I⟩
theorem pa_w : PA X es (wA X es) := ⟨fun pos pins s _ _ _ I h => h pos pins s I⟩
theorem ps_w : PS X st (wS1 X st) := ⟨fun pins s _ _ _ I h => h pins s I⟩
theorem pss_w : PSs X sts (wS X sts) := ⟨fun pins s _ _ _ I h => h pins s I⟩
theorem PE_w {t : TE} (p : PE X e t) {σ : L2.St} {H : Hp} {Q : VK} (h : t σ H Q) : wE X e σ H Q := fun pins s I => p.run pins s σ H Q I h
theorem PT_w {t : TT} (p : PT X e t) {σ : L2.St} {H : Hp} {Q : Bool → Hp → Prop} (h : t σ H Q) : wT X e σ H Q := fun pins s I => p.run pins s σ H Q I h
theorem PA_w {t : TA} (p : PA X es t) {σ : L2.St} {H : Hp} {Q : List V → Hp → Prop} (h : t σ H Q) : wA X es σ H Q := fun pos pins s I => p.run pos pins s σ H Q I h
theorem PS_w {t : TS} (p : PS X st t) {σ : L2.St} {H : Hp} {D : Ends} (h : t D σ H) : wS1 X st D σ H := fun pins s I => p.run pins s σ H D I h
theorem PSs_w {t : TS} (p : PSs X sts t) {σ : L2.St} {H : Hp} {D : Ends} (h : t D σ H) : wS X sts D σ H := fun pins s I => p.run pins s σ H D I h
end

/-- a new thing (or a frozen one) -/
structure ME (X : Cx) (ρ : Slots) (e : Expr) (o : O) : Prop where
  run : ∀ (Z0 F Z : Hp) (σ : L2.St) (H : Hp), StR X.K ρ Z0 F Z σ H → ∀ Q : VK,
  (∀ v Z' H' A, Gr Z H Z' H' → RepO X.K Z' F H' v o A → New H Z' A → Q v H') → wE X e σ H Q
/-- a thing that is looked at -/
structure MV (X : Cx) (ρ : Slots) (e : Expr) (o : O) : Prop where
  run : ∀ (Z0 F Z : Hp) (σ : L2.St) (H : Hp), StR X.K ρ Z0 F Z σ H → ∀ Q : VK,
  (∀ v Z' H' A, Gr Z H Z' H' → RepO X.K Z' F H' v o A → Q v H') → wE X e σ H Q
/-- a list that is looked at -/
structure ML (X : Cx) (ρ : Slots) (e : Expr) (ds : List D) : Prop where
  run : ∀ (Z0 F Z : Hp) (σ : L2.St) (H : Hp), StR X.K ρ Z0 F Z σ H → ∀ Q : VK,
  (∀ a vs Z' H', Gr Z H Z' H' → SqL X.K H' a vs → RepL X.K Z' vs ds → Q (.ref a) H') → wE X e σ H Q
/-- a tuple that is looked at -/
structure MU (X : Cx) (ρ : Slots) (e : Expr) (ds : List D) : Prop where
  run : ∀ (Z0 F Z : Hp) (σ : L2.St) (H : Hp), StR X.K ρ Z0 F Z σ H → ∀ Q : VK,
  (∀ a vs Z' H', Gr Z H Z' H' → SqT X.K H' a vs → RepL X.K Z' vs ds → Q (.ref a) H') → wE X e σ H Q
structure MT (X : Cx) (ρ : Slots) (e : Expr) (b : Bool) : Prop where
  run : ∀ (Z0 F Z : Hp) (σ : L2.St) (H : Hp), StR X.K ρ Z0 F Z σ H → ∀ Q : Bool → Hp → Prop,
  (∀ Z' H', Gr Z H Z' H' → Q b H') → wT X e σ H Q
/-- arguments: frozen things, lists that are looked at -/
structure MA (X : Cx) (ρ : Slots) (es : List Expr) (os : List O) : Prop where
  run : ∀ (Z0 F Z : Hp) (σ : L2.St) (H : Hp), StR X.K ρ Z0 F Z σ H → ∀ Q : List V → Hp → Prop,
  (∀ vs Z' H', Gr Z H Z' H' → RepOL X.K Z' H' H' vs os [] → Q vs H') → wA X es σ H Q
/-- what is handed back: own slots may go with it -/
structure MR (X : Cx) (ρ : Slots) (e : Expr) (o : O) : Prop where
  run : ∀ (Z0 F Z : Hp) (σ : L2.St) (H : Hp), StR X.K ρ Z0 F Z σ H → ∀ Q : VK,
  (∀ v Z' H' A, Gr Z H Z' H' → RepO X.K Z' F H' v o A → A.Nodup → (∀ a ∈ A, Z' a = none ∧ F a = none) → Q v H') → wE X e σ H Q

structure Go where
  nx : Slots → Prop := fun _ => False
  rt : O → Prop := fun _ => False
  bk : Slots → Prop := fun _ => False
  ct : Slots → Prop := fun _ => False
  rs : O → Slots → Prop := fun _ _ => False
/-- the error e is taken -/
def Thrown (K : PySem.W.Frag) (W : WX) (e : Er) (Z : Hp) (σ : L2.St) (H : Hp) : Prop := match e.fld with
  | none => W (.ref e.C) none σ H
  | some (f, d) => ∀ (a : Addr) (v : V), H a = none → Rep K Z v d → W (.ref e.C) (some a) σ (upd H a (.xd [(f, v)]))
/-- the errors r are taken -/
def GX (X : Cx) (Z0 F : Hp) (r : O → Prop) : Prop := ∃ W : WX, L2N.Takes X W ∧ ∀ (e : Er) (ρ : Slots) (Z : Hp) (σ : L2.St) (H : Hp), r (.rs e) → StR X.K ρ Z0 F Z σ H → Thrown X.K W e Z σ H
theorem GX.never {X : Cx} {Z0 F : Hp} {r : O → Prop} (n : ∀ e, ¬ r (.rs e)) : GX X Z0 F r := ⟨fun _ _ _ _ => False, fun _ _ ⟨_, _, _, _, _, _, _, _, _, _, _, _, _, _, _, _, w⟩ => w.elim, fun e _ _ _ _ k _ => (n e k).elim⟩
theorem GX.imp {X : Cx} {Z0 F : Hp} {r r' : O → Prop} (g : GX X Z0 F r) (h : ∀ o, r' o → r o) : GX X Z0 F r' := by
  obtain ⟨W, t, k⟩ := g
  exact ⟨W, t, fun e ρ Z σ H q s => k e ρ Z σ H (h _ q) s⟩
structure GD (X : Cx) (Z0 F : Hp) (G : Go) (D : Ends) : Prop where
  nx : ∀ ρ Z σ H, G.nx ρ → StR X.K ρ Z0 F Z σ H → D.nx σ H
  bk : ∀ ρ Z σ H, G.bk ρ → StR X.K ρ Z0 F Z σ H → D.bk σ H
  ct : ∀ ρ Z σ H, G.ct ρ → StR X.K ρ Z0 F Z σ H → D.ct σ H
  rt : ∀ o v Z H A, G.rt o → Gr Z0 F Z H → RepO X.K Z F H v o A → New F Z A → D.rt v H
  rs : ∀ o ρ v Z σ H, G.rs o ρ → StR X.K (ρ ++ [some o]) Z0 F Z (σ ++ [some v]) H → D.rt v H
  ex : GX X Z0 F G.rt
structure MS1 (X : Cx) (ρ : Slots) (st : Stmt) (G : Go) : Prop where
  run : ∀ (Z0 F Z : Hp) (σ : L2.St) (H : Hp) (D : Ends), StR X.K ρ Z0 F Z σ H → GD X Z0 F G D → wS1 X st D σ H
structure MS (X : Cx) (ρ : Slots) (sts : List Stmt) (G : Go) : Prop where
  run : ∀ (Z0 F Z : Hp) (σ : L2.St) (H : Hp) (D : Ends), StR X.K ρ Z0 F Z σ H → GD X Z0 F G D → wS X sts D σ H
/-- then the rest -/
def Go.th (G : Go) (X : Cx) (sts : List Stmt) : Go := { G with nx := fun ρ => MS X ρ sts G }

section
variable {X : Cx} {ρ : Slots} {e : Expr} {es : List Expr} {st : Stmt} {sts : List Stmt} {G : Go} {o : O} {d : D} {ds : List D} {pos : Pos}
theorem ms_nil (h : G.nx ρ) : MS X ρ [] G := .mk fun Z0 F Z σ H D s g => PSs_w pss_nil (g.nx ρ Z σ H h s)
theorem ms_cons (h : MS1 X ρ st (G.th X sts)) : MS X ρ (st :: sts) G := .mk fun Z0 F Z σ H D s g =>
  PSs_w (pss_cons ps_w pss_w) (h.run Z0 F Z σ H _ s ⟨fun ρ' Z' σ' H' m s' => m.run Z0 F Z' σ' H' D s' g, g.bk, g.ct, g.rt, g.rs, g.ex⟩)
theorem ms_one (h : MS1 X ρ st G) : MS X ρ [st] G := .mk fun Z0 F Z σ H D s g => PSs_w (pss_one ps_w) (h.run Z0 F Z σ H _ s g)

theorem ME.v (h : ME X ρ e o) : MV X ρ e o := .mk fun Z0 F Z σ H s Q q => h.run Z0 F Z σ H s Q fun v Z' H' A g r _ => q v Z' H' A g r
theorem MV.em (h : MV X ρ e (.fz d)) : ME X ρ e (.fz d) := .mk fun Z0 F Z σ H s Q q => h.run Z0 F Z σ H s Q fun v Z' H' A g r => by
  cases r with
  | fz r => exact q v Z' H' [] g (.fz r) .nil
theorem ME.r (h : ME X ρ e o) : MR X ρ e o := .mk fun Z0 F Z σ H s Q q => h.run Z0 F Z σ H s Q fun v Z' H' A g r n => q v Z' H' A g r n.1 fun a m => ⟨(n.2 a m).2, s.gr.hh.free (n.2 a m).1⟩
/-- the lists that can be looked at -/
inductive IsLst : O → List D → Prop where
  | fz (ds : List D) : IsLst (.fz (.lst ds)) ds
  | vw (ds : List D) : IsLst (.vw ds) ds
  | vwa (a : Addr) (ds : List D) : IsLst (.vwa a ds) ds
  | own (ds : List D) : IsLst (.lst (ds.map .fz)) ds
inductive IsTp : O → List D → Prop where
  | fz (ds : List D) : IsTp (.fz (.tup ds)) ds
  | own (ds : List D) : IsTp (.tup (ds.map .fz)) ds
theorem MV.l (h : MV X ρ e o) (i : IsLst o ds) : ML X ρ e ds := .mk fun Z0 F Z σ H s Q q => h.run Z0 F Z σ H s Q fun v Z' H' A g r => by
  cases i with
  | fz ds =>
    cases r with
    | fz r =>
      cases r with
      | lst a b => exact q _ _ Z' H' g (ex_l g.zh a) b
  | vw ds =>
    cases r with
    | vw a b => exact q _ _ Z' H' g (ex_l (s.gr.hh.trans g.hh) a) b
  | vwa a ds =>
    cases r with
    | vwa a b => exact q _ _ Z' H' g (ex_l (s.gr.hh.trans g.hh) a) b
  | own ds =>
    cases r with
    | lst a b => exact q _ _ Z' H' g (.of a) (RepOL.fzs b).2
theorem MV.u (h : MV X ρ e o) (i : IsTp o ds) : MU X ρ e ds := .mk fun Z0 F Z σ H s Q q => h.run Z0 F Z σ H s Q fun v Z' H' A g r => by
  cases i with
  | fz ds =>
    cases r with
    | fz r =>
      cases r with
      | tup a b => exact q _ _ Z' H' g (ex_t g.zh a) b
  | own ds =>
    cases r with
    | tup a b => exact q _ _ Z' H' g (.of a) (RepOL.fzs b).2





/-- a new thing is frozen at once -/
theorem ME.frz (h : ME X ρ e o) (n : o.nv = true) : ME X ρ e (.fz o.frz) := .mk fun Z0 F Z σ H s Q q => h.run Z0 F Z σ H s Q fun v Z' H' A g r w => by
  refine q v (frzAt Z' H' A) H' [] ⟨g.zz.trans (ex_frzAt g.zh), g.hh, frzAt_ex g.zh, fun a u e => ?_⟩ (.fz (r.frz (ex_frzAt g.zh) (fun a m => frzAt_in m) n)) .nil
  have na : a ∉ A := fun m => by
    rw [(w.2 a m).1] at e
    cases e
  rw [frzAt_out na]
  exact g.nw a u e
theorem ME.frzl (h : ME X ρ e (.lst (ds.map .fz))) : ME X ρ e (.fz (.lst ds)) := by
  have q := h.frz (O.nvL_fz ds)
  rw [show (O.lst (ds.map .fz)).frz = .lst ds from congrArg D.lst (O.frzL_fz ds)] at q
  exact q
theorem ME.l (h : ME X ρ e (.lst (ds.map .fz))) : ML X ρ e ds := MV.l h.v (.own ds)

theorem mv_var {i : Nat} {x : Str} (p : PE X (.Name x pos) (tVar i)) (h : ρ[i]? = some (some o)) : MV X ρ (.Name x pos) o := .mk fun Z0 F Z σ H s Q q => by
  obtain ⟨A, h1, h2, h3⟩ := s.st
  obtain ⟨v, B, e, r, _⟩ := h1.get h
  exact PE_w p ⟨v, e, q v Z H B (Gr.refl s.ex) r⟩
theorem me_var {i : Nat} {x : Str} (p : PE X (.Name x pos) (tVar i)) (h : ρ[i]? = some (some (.fz d))) : ME X ρ (.Name x pos) (.fz d) := MV.em (mv_var p h)
theorem mr_var {i : Nat} {x : Str} (p : PE X (.Name x pos) (tVar i)) (h : ρ[i]? = some (some o)) : MR X ρ (.Name x pos) o := .mk fun Z0 F Z σ H s Q q => by
  obtain ⟨A, h1, h2, h3⟩ := s.st
  obtain ⟨v, B, e, r, n, m, _⟩ := h1.at h h2
  exact PE_w p ⟨v, e, q v Z H B (Gr.refl s.ex) r n fun a z => h3 a (m a z)⟩
/-- a value that is what it is -/
inductive Sc : D → V → Prop where
  | non : Sc .non .non
  | bl (b : Bool) : Sc (.bl b) (.bl b)
  | int (i : Int) : Sc (.int i) (.int i)
  | str (x : Str) : Sc (.str x) (.str x)
  | ty (n : String) : Sc (.ty n) (.ty n)
  | opq (a : Addr) : Sc (.opq a) (.ref a)
theorem Sc.rep {K : PySem.W.Frag} {Z : Hp} {v : V} (h : Sc d v) : Rep K Z v d := by
  cases h <;> constructor
theorem Sc.eq {K : PySem.W.Frag} {Z : Hp} {v w : V} (h : Sc d v) (r : Rep K Z w d) : w = v := by
  cases h <;> cases r <;> rfl
theorem me_c {v : V} (p : PE X e (tC v)) (h : Sc d v) : ME X ρ e (.fz d) := .mk fun Z0 F Z σ H s Q q => PE_w p (q v Z H [] (Gr.refl s.ex) (.fz h.rep) .nil)
theorem me_int {i : Int} {j : Nat} : ME X ρ (.Constant (.int i) j pos) (.fz (.int i)) := me_c pe_int (.int i)
theorem me_bl {b : Bool} {j : Nat} : ME X ρ (.Constant (.bool b) j pos) (.fz (.bl b)) := me_c pe_bl (.bl b)
theorem me_non {j : Nat} : ME X ρ (.Constant .none j pos) (.fz .non) := me_c pe_non .non
theorem me_str {x : Str} {j : Nat} : ME X ρ (.Constant (.str x) j pos) (.fz (.str x)) := me_c pe_str (.str x)

variable {a b : Expr} {d1 d2 d3 : D} {x y z : V}
theorem me_r2 {r : R2} {t : TE} (p : PE X e (tOp r (wE X a) (wE X b))) (ha : ME X ρ a (.fz d1)) (hb : ME X ρ b (.fz d2)) (s1 : Sc d1 x) (s2 : Sc d2 y) (s3 : Sc d3 z) (h : ∀ H (Q : VK), Q z H → r x y H Q) : ME X ρ e (.fz d3) := .mk fun Z0 F Z σ H s Q q => by
  refine PE_w p (ha.run Z0 F Z σ H s _ fun v Z1 H1 A1 g1 r1 n1 => ?_)
  refine hb.run Z0 F Z1 σ H1 (s.grow g1) _ fun w Z2 H2 A2 g2 r2 n2 => ?_
  cases r1 with
  | fz r1 =>
    cases r2 with
    | fz r2 =>
      rw [s1.eq r1, s2.eq r2]
      exact h H2 Q (q z Z2 H2 [] (g1.trans g2) (.fz s3.rep) .nil)
theorem me_op {op : Operator} {r : R2} (ho : OpR X (binaryOp op) r) (ha : ME X ρ a (.fz d1)) (hb : ME X ρ b (.fz d2)) (s1 : Sc d1 x) (s2 : Sc d2 y) (s3 : Sc d3 z) (h : ∀ H (Q : VK), Q z H → r x y H Q) : ME X ρ (.BinOp a op b pos) (.fz d3) :=
  me_r2 (t := tOp r (wE X a) (wE X b)) (pe_op ho pe_w pe_w) ha hb s1 s2 s3 h
variable {i j : Int}
theorem me_add (ha : ME X ρ a (.fz (.int i))) (hb : ME X ρ b (.fz (.int j))) : ME X ρ (.BinOp a .Add b pos) (.fz (.int (i + j))) := me_op op_add ha hb (.int i) (.int j) (.int _) fun _ _ q => ⟨i, j, rfl, rfl, q⟩
theorem me_sub (ha : ME X ρ a (.fz (.int i))) (hb : ME X ρ b (.fz (.int j))) : ME X ρ (.BinOp a .Sub b pos) (.fz (.int (i - j))) := me_op op_sub ha hb (.int i) (.int j) (.int _) fun _ _ q => ⟨i, j, rfl, rfl, q⟩
theorem me_mul (ha : ME X ρ a (.fz (.int i))) (hb : ME X ρ b (.fz (.int j))) (c : CMul i j := by first | exact Or.inr (by decide) | exact Or.inl (by decide)) : ME X ρ (.BinOp a .Mult b pos) (.fz (.int (i * j))) := me_op op_mul ha hb (.int i) (.int j) (.int _) fun _ _ q => ⟨i, j, rfl, rfl, c, q⟩
theorem me_fdiv (ha : ME X ρ a (.fz (.int i))) (hb : ME X ρ b (.fz (.int j))) (c : CDiv i j := by exact ⟨by decide, by decide⟩) : ME X ρ (.BinOp a .FloorDiv b pos) (.fz (.int (i / j))) := me_op op_fdiv ha hb (.int i) (.int j) (.int _) fun _ _ q => ⟨i, j, rfl, rfl, c, q⟩
theorem me_mod (ha : ME X ρ a (.fz (.int i))) (hb : ME X ρ b (.fz (.int j))) (c : 0 < j := by decide) : ME X ρ (.BinOp a .Mod b pos) (.fz (.int (i % j))) := me_op op_mod ha hb (.int i) (.int j) (.int _) fun _ _ q => ⟨i, j, rfl, rfl, c, q⟩
theorem me_pow (ha : ME X ρ a (.fz (.int i))) (hb : ME X ρ b (.fz (.int j))) (c : CPow i j := by exact ⟨by decide, by decide, by decide⟩) : ME X ρ (.BinOp a .Pow b pos) (.fz (.int (i ^ j.toNat))) := me_op op_pow ha hb (.int i) (.int j) (.int _) fun _ _ q => ⟨i, j, rfl, rfl, c, q⟩
variable {p q : Str}
theorem me_neg (ha : ME X ρ a (.fz (.int i))) : ME X ρ (.UnaryOp .USub a pos) (.fz (.int (-i))) := .mk fun Z0 F Z σ H s Q q => by
  refine PE_w (pe_un un_neg pe_w) (ha.run Z0 F Z σ H s _ fun v Z1 H1 A1 g1 r1 n1 => ?_)
  cases r1 with
  | fz r1 =>
    cases r1
    exact ⟨i, rfl, q _ Z1 H1 [] g1 (.fz (.int _)) .nil⟩

theorem me_cmp {op : CmpOp} {r : R2} {k : Bool} (ho : OpR X (compareOp op) r) (ha : ME X ρ a (.fz d1)) (hb : ME X ρ b (.fz d2)) (s1 : Sc d1 x) (s2 : Sc d2 y) (h : ∀ H (Q : VK), Q (.bl k) H → r x y H Q) (hm : behindInMarks op b = false) : ME X ρ (.Compare a [op] [b] pos) (.fz (.bl k)) :=
  me_r2 (t := tOp r (wE X a) (wE X b)) (pe_cmpR ho pe_w pe_w hm) ha hb s1 s2 (.bl k) h
theorem mt_cmp {op : CmpOp} {r : R2} {k : Bool} (ho : OpR X (compareOp op) r) (ha : ME X ρ a (.fz d1)) (hb : ME X ρ b (.fz d2)) (s1 : Sc d1 x) (s2 : Sc d2 y) (h : ∀ H (Q : VK), Q (.bl k) H → r x y H Q) (hm : behindInMarks op b = false) : MT X ρ (.Compare a [op] [b] pos) k := .mk fun Z0 F Z σ H s Q q => by
  refine PT_w (pt_cmpR ho pe_w pe_w hm) (ha.run Z0 F Z σ H s _ fun v Z1 H1 A1 g1 r1 n1 => ?_)
  refine hb.run Z0 F Z1 σ H1 (s.grow g1) _ fun w Z2 H2 A2 g2 r2 n2 => ?_
  cases r1 with
  | fz r1 =>
    cases r2 with
    | fz r2 =>
      rw [s1.eq r1, s2.eq r2]
      exact h H2 _ ⟨k, rfl, q Z2 H2 (g1.trans g2)⟩
theorem mt_lt (ha : ME X ρ a (.fz (.int i))) (hb : ME X ρ b (.fz (.int j))) : MT X ρ (.Compare a [.Lt] [b] pos) (decide (i < j)) := mt_cmp op_lt ha hb (.int i) (.int j) (fun _ _ k => ⟨i, j, rfl, rfl, k⟩) (nomark _)
theorem mt_gt (ha : ME X ρ a (.fz (.int i))) (hb : ME X ρ b (.fz (.int j))) : MT X ρ (.Compare a [.Gt] [b] pos) (decide (j < i)) := mt_cmp op_gt ha hb (.int i) (.int j) (fun _ _ k => ⟨i, j, rfl, rfl, k⟩) (nomark _)
theorem me_eqI (ha : ME X ρ a (.fz (.int i))) (hb : ME X ρ b (.fz (.int j))) : ME X ρ (.Compare a [.Eq] [b] pos) (.fz (.bl (i == j))) := me_cmp op_eq ha hb (.int i) (.int j) (fun _ _ k => ⟨rfl, by rw [dec_int]; exact k⟩) (nomark _)
theorem mt_eqI (ha : ME X ρ a (.fz (.int i))) (hb : ME X ρ b (.fz (.int j))) : MT X ρ (.Compare a [.Eq] [b] pos) (i == j) := mt_cmp op_eq ha hb (.int i) (.int j) (fun _ _ k => ⟨rfl, by rw [dec_int]; exact k⟩) (nomark _)
def D.isNon : D → Bool
  | .non => true
  | _ => false
def O.isNon : O → Bool
  | .fz d => d.isNon
  | .lk o => o.isNon
  | _ => false
theorem Rep.isNon {K : PySem.W.Frag} {Z : Hp} {v : V} (r : Rep K Z v d) : decide (v = .non) = d.isNon := by
  cases r <;> rfl
theorem RepK.isNon {K : PySem.W.Frag} {Z F : Hp} : ∀ {v : V} {o : O}, RepK K Z F v o → decide (v = .non) = o.isNon
  | _, _, .fz r => r.isNon
  | _, .lk o, .lk r => RepK.isNon (o := o) r
  | _, _, .vw _ _ => rfl
  | _, _, .vwa _ _ => rfl
  | _, _, .lst _ _ => rfl
  | _, _, .tup _ _ => rfl
  | _, _, .ins _ _ => rfl
  | _, _, .at _ _ => rfl
  | _, _, .dct _ _ => rfl
  | _, _, .dctT _ _ => rfl
  | _, _, .loc _ => rfl
  | _, _, .pt => rfl
theorem RepO.isNon {K : PySem.W.Frag} {Z F H : Hp} {v : V} {A : List Addr} (r : RepO K Z F H v o A) : decide (v = .non) = o.isNon := by
  cases r with
  | fz r => exact r.isNon
  | lk r => exact r.isNon
  | _ => rfl
theorem mt_isN {k2 : Nat} {p2 : Pos} (ha : MV X ρ a o) : MT X ρ (.Compare a [.Is] [.Constant .none k2 p2] pos) o.isNon := .mk fun Z0 F Z σ H s Q q => by
  refine PT_w (pt_cmpR op_isN pe_w pe_non (nomark _)) (ha.run Z0 F Z σ H s _ fun v Z1 H1 A1 g1 r1 => ?_)
  exact ⟨rfl, o.isNon, by rw [r1.isNon], q Z1 H1 g1⟩
/-- a value that is a bool, as a test -/
theorem mt_val {k : Bool} (ha : ME X ρ e (.fz (.bl k))) (he : ∀ whole, isTrue e X.env whole = (do let v ← whole; standAt e.pos; holding [v] (truthy v)) := by intro _; rfl) : MT X ρ e k := .mk fun Z0 F Z σ H s Q q => by
  refine PT_w (pt_val pe_w he) (ha.run Z0 F Z σ H s _ fun v Z1 H1 A1 g1 r1 n1 => ?_)
  cases r1 with
  | fz r1 =>
    cases r1
    exact ⟨k, rfl, q Z1 H1 g1⟩

def wW (X : Cx) (e : Expr) : TT := fun σ H Q => ∀ (whole : Sem Value) (pins : List (Addr × Obj)) (s : Shared), Inv X pins σ H s → wpAny (model X.prog X.w) X.A (isTrue e X.env whole) (TP X pins σ Q) X.xe s
theorem pw_w : PW X e (wW X e) := ⟨fun whole pins s _ _ _ I h => h whole pins s I⟩
theorem PW_w {t : TT} (p : PW X e t) {σ : L2.St} {H : Hp} {Q : Bool → Hp → Prop} (h : t σ H Q) : wW X e σ H Q := fun whole pins s I => p.run whole pins s σ H Q I h
structure MW (X : Cx) (ρ : Slots) (e : Expr) (b : Bool) : Prop where
  run : ∀ (Z0 F Z : Hp) (σ : L2.St) (H : Hp), StR X.K ρ Z0 F Z σ H → ∀ Q : Bool → Hp → Prop,
  (∀ Z' H', Gr Z H Z' H' → Q b H') → wW X e σ H Q
variable {k l : Bool} {rest : List Expr}
theorem MW.t (h : MW X ρ e k) : MT X ρ e k := .mk fun Z0 F Z σ H s Q q => PT_w (PW.pt pw_w) (h.run Z0 F Z σ H s Q q)
theorem mw_or1 (h : MT X ρ a k) : MW X ρ (.BoolOp .Or [a] pos) k := .mk fun Z0 F Z σ H s Q q => PW_w (pw_or1 pt_w) (h.run Z0 F Z σ H s Q q)
theorem mw_or (h : MT X ρ a k) (h2 : k = false → MW X ρ (.BoolOp .Or (b :: rest) pos) l) : MW X ρ (.BoolOp .Or (a :: b :: rest) pos) (k || l) := .mk fun Z0 F Z σ H s Q q =>
  PW_w (pw_or pt_w pw_w) (h.run Z0 F Z σ H s _ fun Z1 H1 g1 => by
    cases k with
    | true => exact q Z1 H1 g1
    | false => exact (h2 rfl).run Z0 F Z1 σ H1 (s.grow g1) Q fun Z2 H2 g2 => q Z2 H2 (g1.trans g2))
theorem mt_not (h : MT X ρ a k) : MT X ρ (.UnaryOp .Not a pos) (!k) := .mk fun Z0 F Z σ H s Q q => PT_w (pt_not pt_w) (h.run Z0 F Z σ H s _ fun Z1 H1 g1 => q Z1 H1 g1)
theorem me_one {op : BoolOp} (h : ME X ρ a o) : ME X ρ (.BoolOp op [a] pos) o := .mk fun Z0 F Z σ H s Q q => PE_w (pe_one pe_w) (h.run Z0 F Z σ H s Q q)
theorem me_and (h : ME X ρ a (.fz (.bl k))) (h2 : k = true → ME X ρ (.BoolOp .And (b :: rest) pos) (.fz (.bl l))) : ME X ρ (.BoolOp .And (a :: b :: rest) pos) (.fz (.bl (k && l))) := .mk fun Z0 F Z σ H s Q q =>
  PE_w (pe_and pe_w pe_w) (h.run Z0 F Z σ H s _ fun v Z1 H1 A1 g1 r1 n1 => by
    cases r1 with
    | fz r1 =>
      cases r1
      refine ⟨k, rfl, ?_⟩
      cases k with
      | true =>
        refine (h2 rfl).run Z0 F Z1 σ H1 (s.grow g1) Q fun w Z2 H2 A2 g2 r2 n2 => ?_
        cases r2 with
        | fz r2 => exact q w Z2 H2 [] (g1.trans g2) (.fz r2) .nil
      | false => exact q _ Z1 H1 [] g1 (.fz (.bl false)) .nil)
theorem me_not (h : ME X ρ a (.fz (.bl k))) : ME X ρ (.UnaryOp .Not a pos) (.fz (.bl (!k))) := .mk fun Z0 F Z σ H s Q q =>
  PE_w (pe_not pe_w) (h.run Z0 F Z σ H s _ fun v Z1 H1 A1 g1 r1 n1 => by
    cases r1 with
    | fz r1 =>
      cases r1
      exact ⟨k, rfl, q _ Z1 H1 [] g1 (.fz (.bl _)) .nil⟩)
/-- not starred -/
abbrev NS (X : Cx) (e : Expr) : Prop := ∀ es, starEach (e :: es) X.env = (false, eval e X.env) :: starEach es X.env
/-- frozen things -/
structure MF (X : Cx) (ρ : Slots) (es : List Expr) (ds : List D) : Prop where
  run : ∀ (Z0 F Z : Hp) (σ : L2.St) (H : Hp), StR X.K ρ Z0 F Z σ H → ∀ Q : List V → Hp → Prop,
  (∀ vs Z' H', Gr Z H Z' H' → RepL X.K Z' vs ds → Q vs H') → wA X es σ H Q
theorem mf_nil : MF X ρ [] [] := .mk fun Z0 F Z σ H s Q q => PA_w pa_nil (q [] Z H (Gr.refl s.ex) .nil)
theorem mf_cons (h : ME X ρ e (.fz d)) (h2 : MF X ρ es ds) (hs : starEach (e :: es) X.env = (false, eval e X.env) :: starEach es X.env := by rfl) : MF X ρ (e :: es) (d :: ds) := .mk fun Z0 F Z σ H s Q q =>
  PA_w (pa_cons pe_w pa_w hs) (h.run Z0 F Z σ H s _ fun v Z1 H1 A1 g1 r1 n1 => by
    cases r1 with
    | fz r1 => exact h2.run Z0 F Z1 σ H1 (s.grow g1) _ fun vs Z2 H2 g2 r2 => q _ Z2 H2 (g1.trans g2) (.cons (r1.mono g2.zz) r2))
theorem ma_nil : MA X ρ [] [] := .mk fun Z0 F Z σ H s Q q => PA_w pa_nil (q [] Z H (Gr.refl s.ex) .nil)
theorem ma_fz {os : List O} (h : ME X ρ e (.fz d)) (h2 : MA X ρ es os) (hs : starEach (e :: es) X.env = (false, eval e X.env) :: starEach es X.env := by rfl) : MA X ρ (e :: es) (.fz d :: os) := .mk fun Z0 F Z σ H s Q q =>
  PA_w (pa_cons pe_w pa_w hs) (h.run Z0 F Z σ H s _ fun v Z1 H1 A1 g1 r1 n1 => by
    cases r1 with
    | fz r1 => exact h2.run Z0 F Z1 σ H1 (s.grow g1) _ fun vs Z2 H2 g2 r2 => q _ Z2 H2 (g1.trans g2) (.cons (A := []) (B := []) (.fz (r1.mono g2.zz)) r2))
theorem ma_vw {os : List O} (h : ML X ρ e ds) (h2 : MA X ρ es os) (hs : starEach (e :: es) X.env = (false, eval e X.env) :: starEach es X.env := by rfl) : MA X ρ (e :: es) (.vw ds :: os) := .mk fun Z0 F Z σ H s Q q =>
  PA_w (pa_cons pe_w pa_w hs) (h.run Z0 F Z σ H s _ fun a vs Z1 H1 g1 l1 r1 =>
    h2.run Z0 F Z1 σ H1 (s.grow g1) _ fun ws Z2 H2 g2 r2 => q _ Z2 H2 (g1.trans g2) (.cons (A := []) (B := []) (.vw (ex_l g2.hh l1) (r1.mono g2.zz)) r2))
theorem new_one {H Z : Hp} {p : Addr} (h : H p = none) (h2 : Z p = none) : New H Z [p] := ⟨List.nodup_cons.mpr ⟨(fun m => nomatch m), List.nodup_nil⟩, fun a m => by
  cases List.mem_singleton.mp m
  exact ⟨h, h2⟩⟩
theorem me_tup {n : Nat} (h : MF X ρ es ds) (hl : ds.length ≤ 1000 := by first | decide | (simp; done)) : ME X ρ (.Tuple es n pos) (.fz (.tup ds)) := .mk fun Z0 F Z σ H s Q q =>
  PE_w (pe_tup pa_w) (h.run Z0 F Z σ H s _ fun vs Z1 H1 g1 r1 => ⟨(by rw [r1.length]; exact Nat.le_of_lt (small1000 hl)), fun p hp => by
    exact q _ (upd Z1 p (.tup vs)) _ [] (g1.trans (Gr.newz g1.zh hp)) (.fz (.tup (.of upd_same) (r1.mono (Ex.new (g1.zh.free hp))))) .nil⟩)
theorem me_lst (h : MF X ρ es ds) (hl : ds.length ≤ 1000 := by first | decide | (simp; done)) : ME X ρ (.List es pos) (.lst (ds.map .fz)) := .mk fun Z0 F Z σ H s Q q =>
  PE_w (pe_lst pa_w) (h.run Z0 F Z σ H s _ fun vs Z1 H1 g1 r1 => ⟨(by rw [r1.length]; exact Nat.le_of_lt (small1000 hl)), fun p hp => by
    refine q _ Z1 _ [p] (g1.trans (Gr.new g1.zh hp)) (.lst upd_same r1.own) (new_one (g1.hh.free hp) (g1.zh.free hp))⟩)

theorem RepL.atI {K : PySem.W.Frag} {Z : Hp} {vs : List V} {ds : List D} {i : Int} {d : D} (r : RepL K Z vs ds) (h : L2.atI ds i = some d) : ∃ v, L2.atI vs i = some v ∧ Rep K Z v d := by
  unfold L2.atI at h ⊢
  rw [r.length]
  cases e : ixN ds.length i with
  | none =>
    rw [e] at h
    cases h
  | some n =>
    rw [e] at h
    exact r.get h
theorem me_ixL (ha : ML X ρ a ds) (hb : ME X ρ b (.fz (.int i))) (h : L2.atI ds i = some d) (hp : PlainIx b := by exact fun _ _ => rfl) : ME X ρ (.Subscript a b pos) (.fz d) := .mk fun Z0 F Z σ H s Q q =>
  PE_w (pe_ix ix_list pe_w pe_w hp) (ha.run Z0 F Z σ H s _ fun l vs Z1 H1 g1 l1 r1 => hb.run Z0 F Z1 σ H1 (s.grow g1) _ fun w Z2 H2 A2 g2 r2 n2 => by
    cases r2 with
    | fz r2 =>
      cases r2
      obtain ⟨v, e, rv⟩ := (r1.mono g2.zz).atI h
      exact ⟨l, vs, i, v, rfl, rfl, ex_l g2.hh l1, e, q v Z2 H2 [] (g1.trans g2) (.fz rv) .nil⟩)
theorem me_ixT (ha : MU X ρ a ds) (hb : ME X ρ b (.fz (.int i))) (h : L2.atI ds i = some d) (hp : PlainIx b := by exact fun _ _ => rfl) : ME X ρ (.Subscript a b pos) (.fz d) := .mk fun Z0 F Z σ H s Q q =>
  PE_w (pe_ix ix_tup pe_w pe_w hp) (ha.run Z0 F Z σ H s _ fun l vs Z1 H1 g1 l1 r1 => hb.run Z0 F Z1 σ H1 (s.grow g1) _ fun w Z2 H2 A2 g2 r2 n2 => by
    cases r2 with
    | fz r2 =>
      cases r2
      obtain ⟨v, e, rv⟩ := (r1.mono g2.zz).atI h
      exact ⟨l, vs, i, v, rfl, rfl, ex_t g2.hh l1, e, q v Z2 H2 [] (g1.trans g2) (.fz rv) .nil⟩)
theorem RepOL.get {K : PySem.W.Frag} {Z F H : Hp} : ∀ {vs : List V} {os : List O} {A : List Addr} {i : Nat} {o : O}, RepOL K Z F H vs os A → os[i]? = some o → ∃ v B, vs[i]? = some v ∧ RepO K Z F H v o B
  | _, _, _, _, _, .nil, e => by simp at e
  | _, _, _, 0, _, .cons h _, e => by
    simp at e
    subst e
    exact ⟨_, _, rfl, h⟩
  | _, _, _, i + 1, _, .cons _ r, e => by
    obtain ⟨v, B, h1, h2⟩ := RepOL.get (i := i) r (by simpa using e)
    exact ⟨v, B, by simpa using h1, h2⟩
theorem RepOL.length {K : PySem.W.Frag} {Z F H : Hp} : ∀ {vs : List V} {os : List O} {A : List Addr}, RepOL K Z F H vs os A → vs.length = os.length
  | _, _, _, .nil => rfl
  | _, _, _, .cons _ r => congrArg (· + 1) r.length
theorem RepOL.atI {K : PySem.W.Frag} {Z F H : Hp} {vs : List V} {os : List O} {A : List Addr} {i : Int} {o : O} (r : RepOL K Z F H vs os A) (h : L2.atI os i = some o) : ∃ v B, L2.atI vs i = some v ∧ RepO K Z F H v o B := by
  unfold L2.atI at h ⊢
  rw [r.length]
  cases e : ixN os.length i with
  | none =>
    rw [e] at h
    cases h
  | some n =>
    rw [e] at h
    exact r.get h
variable {nm T id : Str} {p0 p1 p2 : Pos}
theorem me_len (hg : Gl X "len") (hm : X.mg "len" = none) (ha : ML X ρ a ds) (n1 : NS X a := by exact fun _ => rfl) : ME X ρ (.Call (.Name "len" p0) [a] [] pos) (.fz (.int (ds.length : Int))) := .mk fun Z0 F Z σ H s Q q =>
  PE_w (pe_callB call_len_seq hg hm boot_len (pa_cons pe_w pa_nil (n1 _)) (he := n1 _)) (ha.run Z0 F Z σ H s _ fun l vs Z1 H1 g1 l1 r1 => ⟨l, vs, rfl, .inl l1, by rw [r1.length]; exact q _ Z1 H1 [] g1 (.fz (.int _)) .nil⟩)
theorem me_list (hg : Gl X "list") (hm : X.mg "list" = none) (ha : ML X ρ a ds) (n1 : NS X a := by exact fun _ => rfl) : ME X ρ (.Call (.Name "list" p0) [a] [] pos) (.lst (ds.map .fz)) := .mk fun Z0 F Z σ H s Q q =>
  PE_w (pe_callTy call_list_of hg hm (by decide +kernel) (pa_cons pe_w pa_nil (n1 _)) (he := n1 _)) (ha.run Z0 F Z σ H s _ fun l vs Z1 H1 g1 l1 r1 => ⟨l, vs, rfl, .inl l1, fun p hp =>
    q _ Z1 _ [p] (g1.trans (Gr.new g1.zh hp)) (.lst upd_same r1.own) (new_one (g1.hh.free hp) (g1.zh.free hp))⟩)
theorem me_sum {ns : List Int} (hc : X.calm = true) (hg : Gl X "sum") (hm : X.mg "sum" = none) (ha : ML X ρ a (ns.map .int)) (n1 : NS X a := by exact fun _ => rfl) : ME X ρ (.Call (.Name "sum" p0) [a] [] pos) (.fz (.int ns.sum)) := .mk fun Z0 F Z σ H s Q q =>
  PE_w (pe_callB (cr_sum hc) hg hm (by decide +kernel) (pa_cons pe_w pa_nil (n1 _)) (he := n1 _)) (ha.run Z0 F Z σ H s _ fun l vs Z1 H1 g1 l1 r1 => by
    have e := r1.ints
    subst e
    exact ⟨l, ns, rfl, l1, q _ Z1 H1 [] g1 (.fz (.int _)) .nil⟩)
theorem me_min (hc : X.calm = true) (hg : Gl X "min") (hm : X.mg "min" = none) (ha : ME X ρ a (.fz (.int i))) (hb : ME X ρ b (.fz (.int j))) (n1 : NS X a := by exact fun _ => rfl) (n2 : NS X b := by exact fun _ => rfl) : ME X ρ (.Call (.Name "min" p0) [a, b] [] pos) (.fz (.int (min i j))) := .mk fun Z0 F Z σ H s Q q =>
  PE_w (pe_callB (call_min2 hc) hg hm (by decide +kernel) (pa_cons pe_w (pa_cons pe_w pa_nil (n2 _)) (n1 _)) (he := n1 _) (hpl := by rw [n2 []]; rfl)) (ha.run Z0 F Z σ H s _ fun v Z1 H1 A1 g1 r1 n1 => hb.run Z0 F Z1 σ H1 (s.grow g1) _ fun w Z2 H2 A2 g2 r2 n2 => by
    cases r1 with
    | fz r1 =>
      cases r2 with
      | fz r2 =>
        cases r1
        cases r2
        refine ⟨i, j, rfl, ?_⟩
        have e : (if j < i then j else i) = min i j := by omega
        rw [e]
        exact q _ Z2 H2 [] (g1.trans g2) (.fz (.int _)) .nil)
inductive MO (X : Cx) (ρ : Slots) : Option Expr → Option Int → Prop where
  | none : MO X ρ none none
  | some {e : Expr} {i : Int} (h : ME X ρ e (.fz (.int i))) : MO X ρ (some e) (some i)
theorem MO.run {eo : Option Expr} {io : Option Int} (h : MO X ρ eo io) : ∃ t, PO X eo t ∧ ∀ (Z0 F Z : Hp) (σ : L2.St) (H : Hp), StR X.K ρ Z0 F Z σ H → ∀ Q : Option Int → Hp → Prop, (∀ Z' H', Gr Z H Z' H' → Q io H') → t σ H Q := by
  cases h with
  | none => exact ⟨_, po_none, fun Z0 F Z σ H s Q q => q Z H (Gr.refl s.ex)⟩
  | @some e i h => exact ⟨_, po_some pe_w, fun Z0 F Z σ H s Q q => h.run Z0 F Z σ H s _ fun v Z1 H1 A1 g1 r1 n1 => by
      cases r1 with
      | fz r1 =>
        cases r1
        exact ⟨i, rfl, q Z1 H1 g1⟩⟩
def cutG {α : Type} (xs : List α) (lo hi : Option Int) : List α := (xs.drop (HT.sIx xs.length 0 lo)).take (HT.sIx xs.length xs.length hi - HT.sIx xs.length 0 lo)
theorem RepL.cut {K : PySem.W.Frag} {Z : Hp} {vs : List V} {ds : List D} (r : RepL K Z vs ds) (lo hi : Option Int) : RepL K Z (cutV vs lo hi) (cutG ds lo hi) := by
  unfold cutV cutG
  rw [r.length]
  exact (r.drop _).take _
def D.tyN : D → Option String
  | .non => some "NoneType"
  | .bl _ => some "bool"
  | .int _ => some "int"
  | .str _ => some "str"
  | .tup _ => some "tuple"
  | .lst _ => some "list"
  | .dct _ _ => some "dict"
  | .dctT _ _ => some "dict"
  | _ => none
def O.tyN : O → Option String
  | .fz d => d.tyN
  | .vw _ => some "list"
  | .vwa _ _ => some "list"
  | .lk o => o.tyN
  | .lst _ => some "list"
  | .tup _ => some "tuple"
  | .dct _ _ => some "dict"
  | .dctT _ _ => some "dict"
  | .ins _ _ _ => none
  | .at _ _ _ _ => none
  | .loc _ o => o.tyN
  | .pt _ => none
  | .rs _ => none
theorem sql_ty {K : PySem.W.Frag} {H : Hp} {l : Addr} {vs : List V} (h : SqL K H l vs) : TyX K H (.ref l) (.type "list") := by
  rcases h with (h | ⟨o, h⟩) | ⟨o, its, n, h, c, _⟩
  · exact .base (.lst h)
  · exact .base (.frz h)
  · exact .kList h c
theorem sqt_ty {K : PySem.W.Frag} {H : Hp} {l : Addr} {vs : List V} (h : SqT K H l vs) : TyX K H (.ref l) (.type "tuple") := by
  rcases h with (h | ⟨o, h⟩) | ⟨o, its, n, h, c, _⟩
  · exact .base (.tup h)
  · exact .fTuple h
  · exact .kTuple h c
theorem Rep.ty' {K : PySem.W.Frag} {Z H : Hp} {v : V} {d : D} {t : String} (e : Ex Z H) (r : Rep K Z v d) (h : d.tyN = some t) : TyX K H v (.type t) := by
  cases r with
  | non => cases h; exact .base .non
  | bl b => cases h; exact .base (.bl b)
  | int i => cases h; exact .base (.int i)
  | str x => cases h; exact .base (.str x)
  | ty n => cases h
  | opq a => cases h
  | tup a b => cases h; exact sqt_ty (ex_t e a)
  | lst a b => cases h; exact sql_ty (ex_l e a)
  | ins a b => cases h
  | dct a b => cases h; exact .base (.dK (e _ _ a))
  | dctT a b => cases h; exact .base (.dT (e _ _ a))
theorem RepK.ty' {K : PySem.W.Frag} {Z F H : Hp} {t : String} (e : Ex Z H) (f : Ex F H) : ∀ {v : V} {o : O}, RepK K Z F v o → o.tyN = some t → TyX K H v (.type t)
  | _, _, .fz r, h => r.ty' e h
  | _, _, .vw a b, h => by cases h; exact sql_ty (ex_l f a)
  | _, _, .vwa a b, h => by cases h; exact sql_ty (ex_l f a)
  | _, .lk o, .lk r, h => RepK.ty' (o := o) e f r h
  | _, _, .lst a b, h => by cases h; exact .base (.lst (f _ _ a))
  | _, _, .tup a b, h => by cases h; exact .base (.tup (f _ _ a))
  | _, _, .ins a b, h => by cases h
  | _, _, .at a b, h => by cases h
  | _, _, .dct a b, h => by cases h; exact .base (.dK (f _ _ a))
  | _, _, .dctT a b, h => by cases h; exact .base (.dT (f _ _ a))
  | _, .loc _ o, .loc r, h => RepK.ty' (o := o) e f r h
  | _, _, .pt, h => by cases h
theorem RepO.ty' {K : PySem.W.Frag} {Z F H : Hp} {t : String} (e : Ex Z H) (f : Ex F H) : ∀ {v : V} {o : O} {A : List Addr}, RepO K Z F H v o A → o.tyN = some t → TyX K H v (.type t)
  | _, _, _, .fz r, h => r.ty' e h
  | _, _, _, .vw a b, h => by cases h; exact sql_ty (ex_l f a)
  | _, _, _, .vwa a b, h => by cases h; exact sql_ty (ex_l f a)
  | _, .lk o, _, .lk r, h => RepK.ty' (o := o) e f r h
  | _, _, _, .lst a b, h => by cases h; exact .base (.lst a)
  | _, _, _, .tup a b, h => by cases h; exact .base (.tup a)
  | _, _, _, .ins a b, h => by cases h
  | _, _, _, .at a b, h => by cases h
  | _, _, _, .dct a b, h => by cases h; exact .base (.dK a)
  | _, _, _, .dctT a b, h => by cases h; exact .base (.dT a)
  | _, _, _, .loc r, h => RepO.ty' e f r h
  | _, _, _, .pt, h => by cases h
theorem me_isi {T t : String} {TS : Str} {k : Bool} (hg : Gl X "isinstance") (hm : X.mg "isinstance" = none) (hT : PE X (.Name TS p1) (tC (.ty T))) (ha : MV X ρ a o) (ht : o.tyN = some t) (hk : kitB t T = some k) (n1 : NS X a := by exact fun _ => rfl) :
    ME X ρ (.Call (.Name "isinstance" p0) [a, .Name TS p1] [] pos) (.fz (.bl k)) := .mk fun Z0 F Z σ H s Q q =>
  PE_w (pe_callB call_isi hg hm (by decide +kernel) (pa_cons pe_w (pa_cons hT pa_nil) (n1 _)) (he := n1 _)) (ha.run Z0 F Z σ H s _ fun v Z1 H1 A1 g1 r1 =>
    ⟨v, .ty T, .type t, .type T, k, rfl, .ty T, r1.ty' g1.zh (s.gr.hh.trans g1.hh) ht, kit_ty hk, q _ Z1 H1 [] g1 (.fz (.bl k)) .nil⟩)
end
end M
namespace M
open PySem L2

theorem RepOL.snoc {K : PySem.W.Frag} {Z F H : Hp} {w : V} {o : O} {B : List Addr} (h : RepO K Z F H w o B) : ∀ {vs : List V} {os : List O} {A : List Addr}, RepOL K Z F H vs os A → RepOL K Z F H (vs ++ [w]) (os ++ [o]) (A ++ B)
  | _, _, _, .nil => by
    have q := RepOL.cons h (RepOL.nil (K := K) (Z := Z) (F := F) (H := H))
    rw [List.append_nil] at q
    exact q
  | _, _, _, .cons g r => by
    rw [List.append_assoc]
    exact .cons g (r.snoc h)
section
variable {X : Cx} {ρ : Slots} {e : Expr} {es : List Expr} {st : Stmt} {sts : List Stmt} {G : Go} {o : O} {d : D} {ds : List D} {pos : Pos} {i : Nat}

theorem m_set (p : PS X st (tAsg (wE X e) (gName i))) (h : ME X ρ e o) (k : G.nx (ρ.set i (some o))) (hi : i < ρ.length := by exact Nat.le_of_ble_eq_true rfl) : MS1 X ρ st G := .mk fun Z0 F Z σ H D s g =>
  PS_w p (h.run Z0 F Z σ H s _ fun v Z1 H1 A g1 r n => g.nx _ Z1 _ H1 k (s.put g1 r n hi))
theorem m_expr (p : PS X st (tDrop (wE X e))) (h : ME X ρ e o) (k : G.nx ρ) : MS1 X ρ st G := .mk fun Z0 F Z σ H D s g =>
  PS_w p (h.run Z0 F Z σ H s _ fun v Z1 H1 A g1 r n => g.nx _ Z1 _ H1 k (s.grow g1))
theorem m_ret (p : PS X st (tRet (wE X e))) (h : MR X ρ e o) (k : G.rt o) : MS1 X ρ st G := .mk fun Z0 F Z σ H D s g =>
  PS_w p (h.run Z0 F Z σ H s _ fun v Z1 H1 A g1 r n d => g.rt o v Z1 H1 A k (s.gr.trans g1) r ⟨n, fun a m => ⟨(d a m).2, (d a m).1⟩⟩)
theorem m_if {c : Expr} {a b : List Stmt} {t : Bool} (hc : MT X ρ c t) (h1 : t = true → MS X ρ a G) (h2 : t = false → MS X ρ b G) : MS1 X ρ (.If c a b pos) G := .mk fun Z0 F Z σ H D s g =>
  PS_w (ps_if pt_w pss_w pss_w) (hc.run Z0 F Z σ H s _ fun Z1 H1 g1 => by
    cases t with
    | true => exact (h1 rfl).run Z0 F Z1 σ H1 D (s.grow g1) g
    | false => exact (h2 rfl).run Z0 F Z1 σ H1 D (s.grow g1) g)
/-- a slot's thing is frozen from here on -/
theorem ms_frz (hi : ρ[i]? = some (some o)) (hn : o.nv = true) (h : MS X (ρ.set i (some (.fz o.frz))) sts G) : MS X ρ sts G := .mk fun Z0 F Z σ H D s g => by
  obtain ⟨Z', _, _, s'⟩ := s.freeze hi hn
  exact h.run Z0 F Z' σ H D s' g
theorem ms_frzl (hi : ρ[i]? = some (some (.lst (ds.map .fz)))) (h : MS X (ρ.set i (some (.fz (.lst ds)))) sts G) : MS X ρ sts G := by
  refine ms_frz hi (O.nvL_fz ds) ?_
  rw [show (O.lst (ds.map .fz)).frz = .lst ds from congrArg D.lst (O.frzL_fz ds)]
  exact h
theorem ms_le {τ : Slots} (l : Le ρ τ) (h : MS X τ sts G) : MS X ρ sts G := .mk fun Z0 F Z σ H D s g => h.run Z0 F Z σ H D (s.le l) g
theorem Go.le {τ : Slots} (h : MS X τ sts G) : ∀ ρ, Le ρ τ → MS X ρ sts G := fun _ l => ms_le l h
/-- another end -/
theorem ms_imp {G' : Go} (h : MS X ρ sts G) (n : ∀ ρ, G.nx ρ → G'.nx ρ) (r : ∀ o, G.rt o → G'.rt o) (b : ∀ ρ, G.bk ρ → G'.bk ρ) (c : ∀ ρ, G.ct ρ → G'.ct ρ) (rs : ∀ o ρ, G.rs o ρ → G'.rs o ρ := by exact fun _ _ h => h) : MS X ρ sts G' := .mk fun Z0 F Z σ H D s g =>
  h.run Z0 F Z σ H D s ⟨fun ρ Z σ H k => g.nx ρ Z σ H (n ρ k), fun ρ Z σ H k => g.bk ρ Z σ H (b ρ k), fun ρ Z σ H k => g.ct ρ Z σ H (c ρ k), fun o v Z H A k => g.rt o v Z H A (r o k), fun o ρ v Z σ H k => g.rs o ρ v Z σ H (rs o ρ k), g.ex.imp r⟩
/-- x.append(e), x a slot with an own list -/
theorem m_append {x : Str} {p1 p2 p3 p4 : Pos} {os : List O} {o : O} (p : PE X (.Name x p1) (tVar i)) (hi : ρ[i]? = some (some (.lst os))) (he : ME X ρ e o) (hl : os.length < sizeLine) (k : G.nx (ρ.set i (some (.lst (os ++ [o])))))
    (q : ∀ t, PE X (.Call (.Attribute (.Name x p1) "append" p2) [e] [] p3) t → PS X (.Expr (.Call (.Attribute (.Name x p1) "append" p2) [e] [] p3) p4) (tDrop t) := by exact fun _ h => ps_expr h)
    (pm : PE X (.Call (.Attribute (.Name x p1) "append" p2) [e] [] p3) (tBM X.K "list" rAppend (tVar i) (tCons (wE X e) tNil)) := by exact pe_bm PySem.F.plainAttrs_list PySem.F.slot_list_append PySem.F.type_list_append mt_append (pv _) (pa_cons pe_w pa_nil)) : MS1 X ρ (.Expr (.Call (.Attribute (.Name x p1) "append" p2) [e] [] p3) p4) G := .mk fun Z0 F Z σ H D s g => by
  obtain ⟨v, A, e1, r1, nA, dA, k1⟩ := s.upd hi
  cases r1 with
  | @lst a vs _ A h0 r1 =>
    refine PS_w (q _ pm) ⟨_, e1, .inl ⟨rfl, _, SqL.of h0⟩, ?_⟩
    refine he.run Z0 F Z σ H s _ fun w Z1 H1 B g1 r2 n2 => ?_
    refine ⟨a, vs, w, rfl, rfl, g1.hh _ _ h0, by rw [r1.length]; exact hl, ?_⟩
    have za : Z1 a = none := by
      rw [g1.nw a _ h0]
      exact (dA a List.mem_cons_self).1
    obtain ⟨na, nA'⟩ := List.nodup_cons.mp nA
    have nB : ∀ b ∈ B, b ≠ a ∧ b ∉ A := fun b m => by
      refine ⟨fun q => ?_, fun q => ?_⟩
      · have z := (n2.2 b m).1
        rw [q, h0] at z
        cases z
      · obtain ⟨u, hu⟩ := r1.there b q
        rw [(n2.2 b m).1] at hu
        cases hu
    have r1' : RepOL X.K Z1 F (upd H1 a (.lst (vs ++ [w]))) vs os A := r1.mono g1.zz (Ex.refl _) fun b m u hu => by
      have ne : b ≠ a := fun q => na (by rw [← q]; exact m)
      rw [upd_ne ne]
      exact g1.hh b u hu
    have r2' : RepO X.K Z1 F (upd H1 a (.lst (vs ++ [w]))) w o B := r2.mono (Ex.refl _) (Ex.refl _) fun b m u hu => by
      rw [upd_ne (nB b m).1]
      exact hu
    refine g.nx _ Z1 σ _ k (k1 g1.zz g1.nw (g1.zh.mut za) (fun b nb u hu => ?_) (.lst upd_same (r1'.snoc r2')) ?_ fun b m => ?_)
    · have ne : b ≠ a := fun q => nb (by rw [q]; exact List.mem_cons_self)
      rw [upd_ne ne]
      exact g1.hh b u hu
    · refine List.nodup_cons.mpr ⟨fun m => ?_, List.nodup_append.mpr ⟨nA', n2.1, fun b hb c hc q => (nB c hc).2 (by rw [← q]; exact hb)⟩⟩
      rcases List.mem_append.mp m with m | m
      · exact na m
      · exact (nB a m).1 rfl
    · rcases List.mem_cons.mp m with m | m
      · exact .inl (by rw [m]; exact List.mem_cons_self)
      · rcases List.mem_append.mp m with m | m
        · exact .inl (List.mem_cons_of_mem _ m)
        · exact .inr (n2.2 b m)
end
end M
namespace M
open PySem L2 PySem.Spec PyProof.Rows

section
variable {K : PySem.W.Frag} {Z0 Z Z' F H H' : Hp} {ρ : Slots} {σ : L2.St} {G : Go} {D : Ends}
/-- from a later beginning -/
theorem StR.rebase {H1 : Hp} (s : StR K ρ Z0 F Z σ H) : StR K ρ Z F Z σ H := ⟨⟨Ex.refl _, s.gr.hh, s.gr.zh, fun _ _ _ => rfl⟩, s.st⟩
theorem Gr.base {Z1 H1 : Hp} (g0 : Gr Z0 F Z1 H1) (g : Gr Z1 F Z H) : Gr Z0 F Z H := ⟨g0.zz.trans g.zz, g.hh, g.zh, fun a u e => (g.nw a u e).trans (g0.nw a u e)⟩
theorem StR.unbase {Z1 H1 : Hp} (g0 : Gr Z0 F Z1 H1) (s : StR K ρ Z1 F Z σ H) : StR K ρ Z0 F Z σ H := ⟨g0.base s.gr, s.st⟩
theorem GX.rebase {X : Cx} {Z1 H1 : Hp} {r : O → Prop} (g0 : Gr Z0 F Z1 H1) (g : GX X Z0 F r) : GX X Z1 F r := by
  obtain ⟨W, t, k⟩ := g
  exact ⟨W, t, fun e ρ Z σ H q s => k e ρ Z σ H q (s.unbase g0)⟩
theorem GD.rebase {X : Cx} {Z1 H1 : Hp} (g0 : Gr Z0 F Z1 H1) (g : GD X Z0 F G D) : GD X Z1 F G D :=
  ⟨fun ρ Z σ H k s => g.nx ρ Z σ H k (s.unbase g0), fun ρ Z σ H k s => g.bk ρ Z σ H k (s.unbase g0), fun ρ Z σ H k s => g.ct ρ Z σ H k (s.unbase g0), fun o v Z H A k r => g.rt o v Z H A k (g0.base r), fun o ρ v Z σ H k s => g.rs o ρ v Z σ H k (s.unbase g0), g.ex.rebase g0⟩
end

/-- a list that stands still -/
structure MK (X : Cx) (ρ : Slots) (e : Expr) (ds : List D) : Prop where
  run : ∀ (Z0 F Z : Hp) (σ : L2.St) (H : Hp), StR X.K ρ Z0 F Z σ H → ∀ Q : VK,
  (∀ a vs Z' H', Gr Z H Z' H' → (SqL X.K Z' a vs ∨ SqL X.K F a vs) → RepL X.K Z' vs ds → Q (.ref a) H') → wE X e σ H Q
/-- what is walked: n items, from the heap Zs (frozen) and F on -/
structure Wk (K : PySem.W.Frag) (Zs F : Hp) (J : It) (ds : List D) : Prop where
  go : ∀ (i : Nat) (d : D) (Z H : Hp), ds[i]? = some d → Ex Zs Z → Ex F H → Ex Z H → J.go i H ∧ ∀ x H', J.yld i H x H' → ∃ Z', Gr Z H Z' H' ∧ Rep K Z' x d
  stop : ∀ (Z H : Hp), Ex Zs Z → Ex F H → Ex Z H → J.stop ds.length H
structure MI (X : Cx) (ρ : Slots) (wi : TI) (ds : List D) : Prop where
  run : ∀ (Z0 F Z : Hp) (σ : L2.St) (H : Hp), StR X.K ρ Z0 F Z σ H → ∀ R : It → Hp → Prop,
  (∀ J Z' H', Gr Z H Z' H' → Wk X.K Z' F J ds → R J H') → wi σ H R
/-- a target: d is stored; the slots at ws change alone -/
structure MTg (g : TG) (K : PySem.W.Frag) (ρ : Slots) (d : D) (ρ' : Slots) (ws : List Nat) : Prop where
  run : ∀ (Z0 F Z : Hp) (σ : L2.St) (H : Hp) (v : V), StR K ρ Z0 F Z σ H → Rep K Z v d → ∀ Q : L2.St → Hp → Prop,
  (∀ σ', StR K ρ' Z0 F Z σ' H → (∀ vs : List Nat, (∀ w ∈ ws, w ∈ vs) → wipe σ' vs = wipe σ vs) → Q σ' H) → g v σ H Q
theorem wipe_get (σ : L2.St) : ∀ (vs : List Nat) (j : Nat), (wipe σ vs)[j]? = if j ∈ vs then (if j < σ.length then some none else none) else σ[j]?
  | [], j => by simp [wipe]
  | v :: vs, j => by
    unfold wipe
    rw [List.getElem?_set, wipe_length, wipe_get σ vs j]
    by_cases h : v = j
    · subst h
      by_cases hl : v < σ.length
      · simp [hl]
      · simp [hl]
    · have h2 : ¬ j = v := fun q => h q.symm
      simp [h, h2]
theorem wipe_set {σ : L2.St} {vs : List Nat} {i : Nat} {x : Option V} (h : i ∈ vs) : wipe (σ.set i x) vs = wipe σ vs := by
  apply List.ext_getElem?
  intro j
  rw [wipe_get, wipe_get, List.length_set]
  by_cases hj : j ∈ vs
  · rw [if_pos hj, if_pos hj]
  · rw [if_neg hj, if_neg hj]
    exact List.getElem?_set_ne (fun q => hj (by rw [← q]; exact h))
theorem wipe_wipe {σ : L2.St} {vs : List Nat} : wipe (wipe σ vs) vs = wipe σ vs := by
  apply List.ext_getElem?
  intro j
  rw [wipe_get, wipe_length, wipe_get]
  by_cases hj : j ∈ vs
  · rw [if_pos hj, if_pos hj]
  · rw [if_neg hj, if_neg hj]
section
variable {K : PySem.W.Frag} {ρ ρ' ρ2 : Slots} {d : D} {ds : List D} {i : Nat} {ws ws2 : List Nat}
theorem mg_name (hi : i < ρ.length := by exact Nat.le_of_ble_eq_true rfl) : MTg (gName i) K ρ d (ρ.set i (some (.fz d))) [i] := .mk fun Z0 F Z σ H v s r Q q =>
  q _ (s.put (Gr.refl s.ex) (.fz r) .nil hi) fun vs h => wipe_set (h i List.mem_cons_self)
end

section
variable {X : Cx} {ρ : Slots} {e : Expr} {es : List Expr} {st : Stmt} {sts : List Stmt} {G : Go} {o : O} {d : D} {ds : List D} {pos : Pos} {i : Nat}
theorem ME.k (h : ME X ρ e (.fz (.lst ds))) : MK X ρ e ds := .mk fun Z0 F Z σ H s Q q => h.run Z0 F Z σ H s Q fun v Z' H' A g r n => by
  cases r with
  | fz r =>
    cases r with
    | lst a b => exact q _ _ Z' H' g (.inl a) b
theorem MV.k (h : MV X ρ e (.vw ds)) : MK X ρ e ds := .mk fun Z0 F Z σ H s Q q => h.run Z0 F Z σ H s Q fun v Z' H' A g r => by
  cases r with
  | vw a b => exact q _ _ Z' H' g (.inr a) b
theorem MV.ka {a : Addr} (h : MV X ρ e (.vwa a ds)) : MK X ρ e ds := .mk fun Z0 F Z σ H s Q q => h.run Z0 F Z σ H s Q fun v Z' H' A g r => by
  cases r with
  | vwa a b => exact q _ _ Z' H' g (.inr a) b
theorem MK.l (h : MK X ρ e ds) : ML X ρ e ds := .mk fun Z0 F Z σ H s Q q => h.run Z0 F Z σ H s Q fun a vs Z' H' g l r => q a vs Z' H' g (l.elim (ex_l g.zh) (ex_l (s.gr.hh.trans g.hh))) r
theorem mi_list (h : MK X ρ e ds) : MI X ρ (iList X.K (wE X e)) ds := .mk fun Z0 F Z σ H s R q => h.run Z0 F Z σ H s _ fun a vs Z' H' g l r => by
  have lv : ∀ {Z2 H2 : Hp}, Ex Z' Z2 → Ex F H2 → Ex Z2 H2 → SqL X.K H2 a vs := fun e f z => l.elim (fun l => ex_l (e.trans z) l) fun l => ex_l f l
  refine ⟨a, rfl, ⟨vs, lv (Ex.refl _) (s.gr.hh.trans g.hh) g.zh⟩, q _ Z' H' g ⟨fun j d Z2 H2 hd ez ef zh => ?_, fun Z2 H2 ez ef zh => ⟨vs, lv ez ef zh, Nat.le_of_eq r.length⟩⟩⟩
  obtain ⟨x, hx, rx⟩ := r.get hd
  refine ⟨⟨vs, x, lv ez ef zh, hx⟩, fun y H3 hy => ?_⟩
  obtain ⟨e3, hy⟩ := hy
  subst e3
  have e4 := hy vs (lv ez ef zh)
  rw [hx] at e4
  cases e4
  exact ⟨Z2, Gr.refl zh, rx.mono ez⟩
def rng (lo : Int) (n : Nat) : List D := (List.range n).map fun k => .int (lo + (k : Nat))
theorem rng_len (lo : Int) (n : Nat) : (rng lo n).length = n := by simp [rng]
theorem rng_get {lo : Int} {n i : Nat} {d : D} (h : (rng lo n)[i]? = some d) : i < n ∧ d = .int (lo + (i : Nat)) := by
  unfold rng at h
  rw [List.getElem?_map] at h
  by_cases hi : i < n
  · rw [List.getElem?_range hi] at h
    exact ⟨hi, (Option.some.inj h).symm⟩
  · rw [List.getElem?_eq_none (by simpa using hi)] at h
    cases h
theorem wk_rng {K : PySem.W.Frag} {Zs F : Hp} (lo : Int) (n : Nat) : Wk K Zs F (Itr lo n) (rng lo n) := ⟨fun i d Z H h _ _ zh => by
    obtain ⟨hi, e⟩ := rng_get h
    subst e
    refine ⟨hi, fun x H' hy => ?_⟩
    obtain ⟨e, ex⟩ := hy
    subst e ex
    exact ⟨Z, Gr.refl zh, .int _⟩, fun Z H _ _ _ => Nat.le_of_eq (rng_len lo n).symm⟩
theorem mi_range1 {j : Int} (h : MF X ρ es [.int j]) (h1 : -(2 ^ 62) ≤ j) (h2 : j < 2 ^ 62) : MI X ρ (iRng1 (wA X es)) (rng 0 j.toNat) := .mk fun Z0 F Z σ H s R q => h.run Z0 F Z σ H s _ fun vs Z' H' g r => by
  cases r with
  | cons a r =>
    cases a
    cases r
    exact ⟨j, rfl, h1, h2, q _ Z' H' g (wk_rng 0 _)⟩
/-- for: I i holds ahead of turn i -/
theorem m_for {wi : TI} {g : TG} {body : List Stmt} (p : PS X st (tFor wi g (wS X body))) (h : MI X ρ wi ds) (I : Nat → Slots → Prop) (h0 : I 0 ρ)
    (hs : ∀ (j : Nat) (d : D) (τ : Slots), ds[j]? = some d → I j τ → ∃ τ' ws, MTg g X.K τ d τ' ws ∧ MS X τ' body { nx := I (j + 1), ct := I (j + 1), bk := G.nx, rt := G.rt, rs := G.rs })
    (hd : ∀ τ, I ds.length τ → G.nx τ) : MS1 X ρ st G := .mk fun Z0 F Z σ H D s gd => by
  refine PS_w p (h.run Z0 F Z σ H s _ fun J Z1 H1 g1 wk => ?_)
  have s1 := s.grow g1
  have g0 : Gr Z0 F Z1 H1 := s1.gr
  refine ⟨fun j m σ H => m = ds.length - j ∧ j ≤ ds.length ∧ ∃ τ Z2, I j τ ∧ StR X.K τ Z1 F Z2 σ H, ⟨ds.length, by simp, Nat.zero_le _, ρ, Z1, h0, ⟨⟨Ex.refl _, g0.hh, g0.zh, fun _ _ _ => rfl⟩, s1.st⟩⟩, ?_⟩
  rintro j m σ2 H2 ⟨rfl, hj, τ, Z2, hI, s2⟩
  by_cases hlt : j < ds.length
  · obtain ⟨d, ed⟩ : ∃ d, ds[j]? = some d := ⟨ds[j], by simp [hlt]⟩
    obtain ⟨w1, w2⟩ := wk.go j d Z2 H2 ed s2.gr.zz s2.gr.hh s2.gr.zh
    refine .inr ⟨w1, fun σ' H' => ∃ τ Z2, I (j + 1) τ ∧ StR X.K τ Z1 F Z2 σ' H', fun σ' H' q => ⟨ds.length - (j + 1), by omega, rfl, hlt, q⟩, fun x H3 hy => ?_⟩
    obtain ⟨Z3, g3, r3⟩ := w2 x H3 hy
    have s3 := s2.grow g3
    obtain ⟨τ', ws, t1, t2⟩ := hs j d τ ed hI
    refine t1.run Z1 F Z3 σ2 H3 x s3 r3 _ fun σ4 s4 _ => ?_
    exact t2.run Z1 F Z3 σ4 H3 _ s4 ⟨fun τ Z σ H k s => ⟨τ, Z, k, s⟩, fun τ Z σ H k s => gd.nx τ Z σ H k (s.unbase g0), fun τ Z σ H k s => ⟨τ, Z, k, s⟩, fun o v Z H A k gr r n => gd.rt o v Z H A k (g0.base gr) r n, fun o ρ v Z σ H k s => gd.rs o ρ v Z σ H k (s.unbase g0), gd.ex.rebase g0⟩
  · have e : j = ds.length := by omega
    subst e
    exact .inl ⟨wk.stop Z2 H2 s2.gr.zz s2.gr.hh s2.gr.zh, gd.nx τ Z2 σ2 H2 (hd τ hI) (s2.unbase g0)⟩
/-- the promise of a def: the arguments (frozen things, lists that stay as they are), what is handed back -/
def SpM {α : Type} (K : PySem.W.Frag) (ar : α → List O) (pre : α → Prop) (res : α → O) : Sp := fun vs H Q _ => ∃ (x : α) (Z : Hp), Ex Z H ∧ RepOL K Z H H vs (ar x) [] ∧ pre x ∧
  ∀ v Z' H' A, Gr Z H Z' H' → RepO K Z' (fun _ => none) H' v (res x) A → New H Z' A → Q v H'
theorem me_call {α : Type} {ar : α → List O} {pre : α → Prop} {res : α → O} {E : XK} (p : PE X e (tCall (SpM X.K ar pre res) [] E (wA X es))) (x : α) (ha : MA X ρ es (ar x)) (hp : pre x) : ME X ρ e (res x) := .mk fun Z0 F Z σ H s Q q =>
  PE_w p (ha.run Z0 F Z σ H s _ fun vs Z1 H1 g1 r1 => ⟨x, Z1, g1.zh, by rw [List.append_nil]; exact r1, hp, fun v Z2 H2 A g2 r2 n2 =>
    q v Z2 H2 A (g1.trans g2) (r2.mono (Ex.refl _) (fun _ _ z => by cases z) fun _ _ _ z => z) ⟨n2.1, fun a m => ⟨g1.hh.free (n2.2 a m).1, (n2.2 a m).2⟩⟩⟩)
mutual
theorem RepO.unF {K : PySem.W.Frag} {Z F F' H : Hp} : ∀ {v : V} {o : O} {A : List Addr}, RepO K Z F H v o A → o.nv = true → RepO K Z F' H v o A
  | _, _, _, .fz h, _ => .fz h
  | _, _, _, .vw _ _, n => nomatch n
  | _, _, _, .vwa _ _, n => nomatch n
  | _, _, _, .lk _, n => nomatch n
  | _, _, _, .lst h r, n => .lst h (RepOL.unF r n)
  | _, _, _, .tup h r, n => .tup h (RepOL.unF r n)
  | _, _, _, .ins h r, n => .ins h (RepOL.unF r n)
  | _, _, _, .at h r, n => .at h (RepOL.unF r n)
  | _, _, _, .loc h, n => .loc (RepO.unF h n)
  | _, _, _, .pt, _ => .pt
  | _, _, _, .dct h r, n => .dct h (RepOL.unF r n)
  | _, _, _, .dctT h r, n => .dctT h (RepOL.unF r n)
theorem RepOL.unF {K : PySem.W.Frag} {Z F F' H : Hp} : ∀ {vs : List V} {os : List O} {A : List Addr}, RepOL K Z F H vs os A → O.nvL os = true → RepOL K Z F' H vs os A
  | _, _, _, .nil, _ => .nil
  | _, _, _, .cons h r, n => .cons (RepO.unF h (Bool.and_eq_true_iff.mp n).1) (RepOL.unF r (Bool.and_eq_true_iff.mp n).2)
end
theorem stL_args {K : PySem.W.Frag} {Z F H : Hp} : ∀ {vs : List V} {os : List O} {A : List Addr}, RepOL K Z F H vs os A → StL K Z F H (os.map some) (vs.map some) A
  | _, _, _, .nil => .nil
  | _, _, _, .cons h r => .so h (stL_args r)
theorem stL_more {K : PySem.W.Frag} {Z F H : Hp} (n : Nat) : ∀ {ρ : Slots} {σ : L2.St} {A : List Addr}, StL K Z F H ρ σ A → StL K Z F H (ρ ++ List.replicate n none) (σ ++ List.replicate n none) A
  | _, _, _, .nil => by
    rw [List.nil_append, List.nil_append]
    induction n with
    | zero => exact .nil
    | succ n ih => exact .no ih
  | _, _, _, .no h => .no (stL_more n h)
  | _, _, _, .so r h => .so r (stL_more n h)
/-- a def's body keeps its promise -/
theorem fn_m {α : Type} {P : Program} {w : World} {K : PySem.W.Frag} {mg : Str → Option Value} {base : Heap} {x qual : Str} {st : Stmt} {f : Addr} {fd : FuncData} {N ps : List Str} {k : Nat} {ar : α → List O} {pre : α → Prop} {res : α → O}
    (F : Fun K x qual st f fd) (S : FnScope N ps (defScope st)) (hl : ∀ x, (ar x).length = ps.length) (hn : ∀ x, pre x → (res x).nv = true)
    (hb : ∀ (cdv : Value) (A : Around) (outer : List Env) (s : Shared) (H : Hp) (E : XK), Room k (A.deeper (envOfC qual (defScope st) s.heap.objs.size f cdv)) → ∀ x, pre x →
      MS (cxOf CX0 P w K mg base N qual (defScope st) f cdv A outer s H E).nox ((ar x).map some ++ List.replicate (N.length - ps.length) none) (defBody st) { nx := fun _ => res x = .fz .non, rt := fun o => o = res x }) :
    FnOk P w K mg base CX0 (k + 1) f fd ps (SpM K ar pre res) := by
  refine F.ok S (fun vs H Q E h => ?_) (fun cdv A outer s H vs Q E hr h => ?_)
  · obtain ⟨x, Z, _, r, _⟩ := h
    rw [r.length, hl]
  · obtain ⟨x, Z, ez, r, hp, q⟩ := h
    refine ⟨_, pss_w, (hb cdv A outer s H E hr x hp).run Z H Z _ H _ ⟨Gr.refl ez, [], ?_, List.nodup_nil, fun _ m => nomatch m⟩ ⟨fun ρ Z' σ H' e s' => ?_, fun _ _ _ _ z => z.elim, fun _ _ _ _ z => z.elim, fun o v Z' H' A e g r n => ?_, fun _ _ _ _ _ _ z => z.elim, GX.never fun e z => by
      have n := hn x hp
      rw [← show O.rs e = res x from z] at n
      cases n⟩⟩
    · have e : L2.start N vs = vs.map some ++ List.replicate (N.length - ps.length) none := by
        unfold L2.start
        rw [r.length, hl]
      rw [e]
      exact stL_more _ (stL_args r)
    · refine q _ Z' H' [] s'.gr ?_ .nil
      rw [e]
      exact .fz .non
    · subst e
      exact q _ Z' H' A g (r.unF (hn x hp)) n
end
end M
namespace M
open PySem L2 PySem.Spec PyProof.Rows

mutual
def D.py : D → PyData
  | .bl b => .bool b
  | .int i => .int i
  | .str x => .str x
  | .tup ds => .tuple (D.pyL ds)
  | .lst ds => .list (D.pyL ds)
  | _ => .none
def D.pyL : List D → List PyData
  | [] => []
  | d :: r => d.py :: D.pyL r
end
mutual
def D.pl : D → Bool
  | .non => true
  | .bl _ => true
  | .int _ => true
  | .str _ => true
  | .tup ds => D.plL ds
  | .lst ds => D.plL ds
  | _ => false
def D.plL : List D → Bool
  | [] => true
  | d :: r => d.pl && D.plL r
end
section
variable {K : PySem.W.Frag} {Z F H : Hp}
mutual
theorem Rep.dp (e : Ex Z H) : ∀ {v : V} {d : D}, Rep K Z v d → d.pl = true → Dp K H v d.py
  | _, _, .non, _ => .non
  | _, _, .bl b, _ => .bl b
  | _, _, .int i, _ => .int i
  | _, _, .str x, _ => .str x
  | _, _, .ty _, h => nomatch h
  | _, _, .opq _, h => nomatch h
  | _, _, .tup a r, h => .tup (ex_t e a) (RepL.dp e r h)
  | _, _, .lst a r, h => .lst (ex_l e a) (RepL.dp e r h)
  | _, _, .ins _ _, h => nomatch h
  | _, _, .dct _ _, h => nomatch h
  | _, _, .dctT _ _, h => nomatch h
theorem RepL.dp (e : Ex Z H) : ∀ {vs : List V} {ds : List D}, RepL K Z vs ds → D.plL ds = true → DpAll K H vs (D.pyL ds)
  | _, _, .nil, _ => .nil
  | _, _, .cons a r, h => .cons (Rep.dp e a (Bool.and_eq_true_iff.mp h).1) (RepL.dp e r (Bool.and_eq_true_iff.mp h).2)
end
mutual
theorem RepK.dp (e : Ex Z H) (f : Ex F H) : ∀ {v : V} {o : O}, RepK K Z F v o → o.frz.pl = true → Dp K H v o.frz.py
  | _, _, .fz r, h => r.dp e h
  | _, _, .vw a r, h => .lst (ex_l f a) (r.dp e h)
  | _, _, .vwa a r, h => .lst (ex_l f a) (r.dp e h)
  | _, .lk o, .lk r, h => RepK.dp (o := o) e f r h
  | _, _, .lst a r, h => .lst (.of (f _ _ a)) (RepKL.dp e f r h)
  | _, _, .tup a r, h => .tup (.of (f _ _ a)) (RepKL.dp e f r h)
  | _, .loc _ o, .loc r, h => RepK.dp (o := o) e f r h
  | _, _, .pt, h => nomatch h
  | _, _, .ins _ _, h => nomatch h
  | _, _, .at _ _, h => nomatch h
  | _, _, .dct _ _, h => nomatch h
  | _, _, .dctT _ _, h => nomatch h
theorem RepKL.dp (e : Ex Z H) (f : Ex F H) : ∀ {vs : List V} {os : List O}, RepKL K Z F vs os → D.plL (O.frzL os) = true → DpAll K H vs (D.pyL (O.frzL os))
  | _, _, .nil, _ => .nil
  | _, _, .cons a r, h => .cons (RepK.dp e f a (Bool.and_eq_true_iff.mp h).1) (RepKL.dp e f r (Bool.and_eq_true_iff.mp h).2)
end
mutual
theorem RepO.dp (e : Ex Z H) (f : Ex F H) : ∀ {v : V} {o : O} {A : List Addr}, RepO K Z F H v o A → o.frz.pl = true → Dp K H v o.frz.py
  | _, _, _, .fz r, h => r.dp e h
  | _, _, _, .vw a r, h => .lst (ex_l f a) (r.dp e h)
  | _, _, _, .vwa a r, h => .lst (ex_l f a) (r.dp e h)
  | _, .lk o, _, .lk r, h => RepK.dp (o := o) e f r h
  | _, _, _, .lst a r, h => .lst (.of a) (RepOL.dp e f r h)
  | _, _, _, .tup a r, h => .tup (.of a) (RepOL.dp e f r h)
  | _, .loc _ o, _, .loc r, h => RepO.dp (o := o) e f r h
  | _, _, _, .pt, h => nomatch h
  | _, _, _, .ins _ _, h => nomatch h
  | _, _, _, .dct _ _, h => nomatch h
  | _, _, _, .dctT _ _, h => nomatch h
theorem RepOL.dp (e : Ex Z H) (f : Ex F H) : ∀ {vs : List V} {os : List O} {A : List Addr}, RepOL K Z F H vs os A → D.plL (O.frzL os) = true → DpAll K H vs (D.pyL (O.frzL os))
  | _, _, _, .nil, _ => .nil
  | _, _, _, .cons a r, h => .cons (RepO.dp e f a (Bool.and_eq_true_iff.mp h).1) (RepOL.dp e f r (Bool.and_eq_true_iff.mp h).2)
end
end
/-- data that can be compared -/
def D.ok (d : D) : Prop := d.pl = true ∧ SeqAt.shaped d.py = true
def D.eqv (d e : D) : Bool := PyData.eqv d.py e.py
section
variable {X : Cx} {ρ : Slots} {e a b elt : Expr} {es : List Expr} {st : Stmt} {sts : List Stmt} {G : Go} {o o1 o2 : O} {d : D} {ds : List D} {pos : Pos} {i : Nat}
theorem me_rD {r : R2} {t : TE} {k : Bool} (p : PE X e (tOp r (wE X a) (wE X b))) (ha : MV X ρ a o1) (hb : MV X ρ b o2) (h1 : o1.frz.pl = true) (h2 : o2.frz.pl = true)
    (h : ∀ x y H (Q : VK), Dp X.K H x o1.frz.py → Dp X.K H y o2.frz.py → Q (.bl k) H → r x y H Q) : ME X ρ e (.fz (.bl k)) := .mk fun Z0 F Z σ H s Q q => by
  refine PE_w p (ha.run Z0 F Z σ H s _ fun v Z1 H1 A1 g1 r1 => ?_)
  refine hb.run Z0 F Z1 σ H1 (s.grow g1) _ fun w Z2 H2 A2 g2 r2 => ?_
  have g := g1.trans g2
  exact h v w H2 Q ((r1.ex g2.zz g2.hh).dp g2.zh (s.gr.hh.trans g.hh) h1) (r2.dp g2.zh (s.gr.hh.trans g.hh) h2) (q _ Z2 H2 [] g (.fz (.bl k)) .nil)
theorem me_eqD (hu : X.A.units + 64 < cLine) (ha : MV X ρ a o1) (hb : MV X ρ b o2) (h1 : o1.frz.ok) (h2 : o2.frz.ok) : ME X ρ (.Compare a [.Eq] [b] pos) (.fz (.bl (o1.frz.eqv o2.frz))) :=
  me_rD (t := tOp (rEqD X.K) (wE X a) (wE X b)) (pe_cmpR (op_eqD hu) pe_w pe_w (nomark _)) ha hb h1.1 h2.1 fun x y H Q p1 p2 q => ⟨_, _, p1, p2, h1.2, h2.2, q⟩
/-- what is walked while nothing that stands changes -/
structure MIc (X : Cx) (ρ : Slots) (wi : TI) (ds : List D) : Prop where
  run : ∀ (Z0 F Z : Hp) (σ : L2.St) (H : Hp), StR X.K ρ Z0 F Z σ H → ∀ R : It → Hp → Prop,
  (∀ J Z' H', Gr Z H Z' H' → Wk X.K Z' H' J ds → R J H') → wi σ H R
theorem MI.c {wi : TI} (h : MI X ρ wi ds) : MIc X ρ wi ds := .mk fun Z0 F Z σ H s R q => h.run Z0 F Z σ H s R fun J Z' H' g wk =>
  q J Z' H' g ⟨fun i d Z2 H2 hd e f z => wk.go i d Z2 H2 hd e ((s.gr.hh.trans g.hh).trans f) z, fun Z2 H2 e f z => wk.stop Z2 H2 e ((s.gr.hh.trans g.hh).trans f) z⟩
theorem mic_list (h : ML X ρ e ds) : MIc X ρ (iList X.K (wE X e)) ds := .mk fun Z0 F Z σ H s R q => h.run Z0 F Z σ H s _ fun a vs Z' H' g l r => by
  refine ⟨a, rfl, ⟨vs, l⟩, q _ Z' H' g ⟨fun j d Z2 H2 hd ez ef zh => ?_, fun Z2 H2 ez ef zh => ⟨vs, ex_l ef l, Nat.le_of_eq r.length⟩⟩⟩
  obtain ⟨x, hx, rx⟩ := r.get hd
  refine ⟨⟨vs, x, ex_l ef l, hx⟩, fun y H3 hy => ?_⟩
  obtain ⟨e3, hy⟩ := hy
  subst e3
  have e4 := hy vs (ex_l ef l)
  rw [hx] at e4
  cases e4
  exact ⟨Z2, Gr.refl zh, rx.mono ez⟩
def wipeS (ρ : Slots) : List Nat → Slots
  | [] => ρ
  | v :: vs => (wipeS ρ vs).set v none
theorem StL.none {K : PySem.W.Frag} {Z F H : Hp} (x : Option V) : ∀ {ρ : Slots} {σ : L2.St} {A : List Addr} (i : Nat), StL K Z F H ρ σ A → A.Nodup → ∃ A', StL K Z F H (ρ.set i Option.none) (σ.set i x) A' ∧ A'.Nodup ∧ ∀ a ∈ A', a ∈ A
  | _, _, _, _, .nil, n => ⟨_, .nil, n, fun _ m => m⟩
  | _, _, _, 0, .no h, n => ⟨_, .no h, n, fun _ m => m⟩
  | _, _, _, i + 1, .no h, n => by
    obtain ⟨A', q1, q2, q3⟩ := StL.none x i h n
    exact ⟨A', .no q1, q2, q3⟩
  | _, _, _, 0, .so _ h, n => ⟨_, .no h, (List.nodup_append.mp n).2.1, fun _ m => List.mem_append_right _ m⟩
  | _, _, _, i + 1, .so r h, n => by
    obtain ⟨n1, n2, n3⟩ := List.nodup_append.mp n
    obtain ⟨A', q1, q2, q3⟩ := StL.none x i h n2
    refine ⟨_, .so r q1, List.nodup_append.mpr ⟨n1, q2, fun a ha b hb => n3 a ha b (q3 b hb)⟩, fun a m => ?_⟩
    rcases List.mem_append.mp m with m | m
    · exact List.mem_append_left _ m
    · exact List.mem_append_right _ (q3 a m)
theorem StR.wipe {K : PySem.W.Frag} {Z0 F Z H : Hp} {σ : L2.St} (s : StR K ρ Z0 F Z σ H) : ∀ vs : List Nat, StR K (wipeS ρ vs) Z0 F Z (L2.wipe σ vs) H
  | [] => s
  | v :: vs => by
    obtain ⟨g, A, h1, h2, h3⟩ := StR.wipe s vs
    obtain ⟨A', q1, q2, q3⟩ := h1.none none v h2
    exact ⟨g, A', q1, q2, fun a m => h3 a (q3 a m)⟩
/-- the list that a comprehension makes -/
theorem lc_run {α : Type} {xs : List α} {enc : α → D} {wi : TI} {g : TG} {tt : TT} {te : TE} {vs : List Nat} (h : MIc X ρ wi (xs.map enc)) (pb : α → Bool) (f : α → D) (hz : xs.length < sizeLine)
    (hs : ∀ d ∈ xs, ∃ τ ws, MTg g X.K (wipeS ρ vs) (enc d) τ ws ∧ (∀ w ∈ ws, w ∈ vs) ∧
      (∀ (Z0 F Z : Hp) (σ : L2.St) (H : Hp), StR X.K τ Z0 F Z σ H → ∀ Q : Bool → Hp → Prop, (∀ Z' H', Gr Z H Z' H' → Q (pb d) H') → tt σ H Q) ∧
      (pb d = true → ∀ (Z0 F Z : Hp) (σ : L2.St) (H : Hp), StR X.K τ Z0 F Z σ H → ∀ Q : VK, (∀ v Z' H', Gr Z H Z' H' → Rep X.K Z' v (f d) → Q v H') → te σ H Q))
    {Z0 F Z : Hp} {σ : L2.St} {H : Hp} (s : StR X.K ρ Z0 F Z σ H) {Q : VK} (q : ∀ v Z' H' A, Gr Z H Z' H' → RepO X.K Z' F H' v (.lst (((xs.filter pb).map f).map .fz)) A → New H Z' A → Q v H') : tLc wi g tt te vs σ H Q := by
  refine h.run Z0 F Z σ H s _ fun J Z1 H1 g1 wk => ?_
  intro L hL
  have s1 := (s.grow g1).wipe vs
  refine ⟨fun j m H2 => m = xs.length - j ∧ j ≤ xs.length ∧ ∃ Z2 acc, Gr Z1 H1 Z2 H2 ∧ H2 L = some (.lst acc) ∧ Z2 L = none ∧ RepL X.K Z2 acc (((xs.take j).filter pb).map f),
    ⟨xs.length, by simp, Nat.zero_le _, Z1, [], Gr.new g1.zh hL, upd_same, g1.zh.free hL, .nil⟩, ?_⟩
  rintro j m H2 ⟨rfl, hj, Z2, acc, g2, hacc, zL, racc⟩
  by_cases hlt : j < xs.length
  · have ed : (xs.map enc)[j]? = some (enc xs[j]) := by simp [hlt]
    obtain ⟨w1, w2⟩ := wk.go j _ Z2 H2 ed g2.zz g2.hh g2.zh
    refine .inr ⟨w1, fun H3 => j + 1 ≤ xs.length ∧ ∃ Z2 acc, Gr Z1 H1 Z2 H3 ∧ H3 L = some (.lst acc) ∧ Z2 L = none ∧ RepL X.K Z2 acc (((xs.take (j + 1)).filter pb).map f), fun H3 q => ⟨xs.length - (j + 1), by omega, rfl, q⟩, fun x H3 hy => ?_⟩
    obtain ⟨Z3, g3, r3⟩ := w2 x H3 hy
    obtain ⟨τ, ws, t1, t2, t3, t4⟩ := hs _ (List.getElem_mem hlt)
    have g13 := g2.trans g3
    have etake : xs.take (j + 1) = xs.take j ++ [xs[j]] := (List.take_append_getElem hlt).symm
    refine t1.run Z0 F Z3 _ H3 x (s1.grow g13) r3 _ fun σ4 s4 w4 => ⟨by rw [w4 vs t2, wipe_wipe], ?_⟩
    refine t3 Z0 F Z3 σ4 H3 s4 _ fun Z5 H5 g5 => ?_
    have hL5 : H5 L = some (.lst acc) := g5.hh _ _ (g3.hh _ _ hacc)
    have zL5 : Z5 L = none := by rw [g5.nw L _ (g3.hh _ _ hacc), g3.nw L _ hacc, zL]
    have r5 := racc.mono (g3.zz.trans g5.zz)
    cases hp : pb xs[j] with
    | true =>
      rw [if_pos rfl]
      refine t4 hp Z0 F Z5 σ4 H5 (s4.grow g5) _ fun y Z6 H6 g6 r6 => ?_
      have hL6 := g6.hh _ _ hL5
      have zL6 : Z6 L = none := by rw [g6.nw L _ hL5, zL5]
      have hlen : acc.length < sizeLine := by
        rw [racc.length, List.length_map]
        exact Nat.lt_of_le_of_lt (Nat.le_trans (List.length_filter_le _ _) (by rw [List.length_take]; exact Nat.min_le_right _ _)) hz
      refine ⟨acc, hL6, hlen, hlt, Z6, acc ++ [y], ?_, upd_same, zL6, ?_⟩
      · have g16 := g13.trans (g5.trans g6)
        exact ⟨g16.zz, g16.hh.mut hL, g16.zh.mut zL6, g16.nw⟩
      · rw [etake, List.filter_append, List.map_append]
        have e1 : [xs[j]].filter pb = [xs[j]] := by simp [hp]
        rw [e1]
        exact (r5.mono g6.zz).append (.cons r6 .nil)
    | false =>
      rw [if_neg Bool.false_ne_true]
      refine ⟨hlt, Z5, acc, g13.trans g5, hL5, zL5, ?_⟩
      rw [etake, List.filter_append, List.map_append]
      have e1 : [xs[j]].filter pb = [] := by simp [hp]
      rw [e1, List.map_nil, List.append_nil]
      exact r5
  · have e : j = xs.length := by omega
    subst e
    have st := wk.stop Z2 H2 g2.zz g2.hh g2.zh
    rw [List.length_map] at st
    refine .inl ⟨st, q _ Z2 H2 [L] (g1.trans g2) (.lst hacc ?_) (new_one (g1.hh.free hL) zL)⟩
    rw [List.take_length] at racc
    exact racc.own
/-- (.., x, ..): a tuple of frozen things and one own slot's thing -/
structure MRs (X : Cx) (ρ : Slots) (es : List Expr) (os : List O) : Prop where
  run : ∀ (Z0 F Z : Hp) (σ : L2.St) (H : Hp), StR X.K ρ Z0 F Z σ H → ∀ Q : List V → Hp → Prop,
  (∀ vs Z' H' A, Gr Z H Z' H' → RepOL X.K Z' F H' vs os A → A.Nodup → (∀ a ∈ A, Z' a = none ∧ F a = none) → Q vs H') → wA X es σ H Q
theorem MF.rs (h : MF X ρ es ds) : MRs X ρ es (ds.map .fz) := .mk fun Z0 F Z σ H s Q q => h.run Z0 F Z σ H s Q fun vs Z' H' g r => q vs Z' H' [] g r.own List.nodup_nil fun _ m => nomatch m
end
end M
namespace M
open PySem L2 PySem.Spec PyProof.Rows
section
variable {X : Cx} {ρ : Slots} {e a b elt : Expr} {es : List Expr} {st : Stmt} {sts : List Stmt} {G : Go} {o o1 o2 : O} {d : D} {ds : List D} {pos p0 p1 : Pos} {i : Nat} {x nm : Str}
theorem ml_var (p : PE X (.Name x pos) (tVar i)) (h : ρ[i]? = some (some o)) (hl : IsLst o ds := by first | exact .vw _ | exact .fz _ | exact .own _ | exact .vwa _ _) : ML X ρ (.Name x pos) ds := MV.l (mv_var p h) hl
theorem mk_var (p : PE X (.Name x pos) (tVar i)) (h : ρ[i]? = some (some o)) (hl : o = .vw ds ∨ o = .fz (.lst ds) ∨ ∃ a, o = .vwa a ds := by first | exact .inl rfl | exact .inr (.inl rfl) | exact .inr (.inr ⟨_, rfl⟩)) : MK X ρ (.Name x pos) ds := by
  rcases hl with rfl | rfl | ⟨a, rfl⟩
  · exact MV.k (mv_var p h)
  · exact ME.k (me_var p h)
  · exact MV.ka (mv_var p h)
theorem le_auto {ρ τ : Slots} (l : Le ρ τ := by repeat (first | exact Le.nil | refine Le.no ?_ | refine Le.eq ?_)) : Le ρ τ := l
/-- for: R j holds ahead of turn j -/
theorem m_forR {wi : TI} {g : TG} {body : List Stmt} (p : PS X st (tFor wi g (wS X body))) (h : MI X ρ wi ds) (R : Nat → Slots) (h0 : Le ρ (R 0))
    (hs : ∀ (j : Nat) (d : D), ds[j]? = some d → ∃ τ' ws, MTg g X.K (R j) d τ' ws ∧ MS X τ' body { nx := fun τ => Le τ (R (j + 1)), ct := fun τ => Le τ (R (j + 1)), bk := G.nx, rt := G.rt, rs := G.rs })
    (hd : ∀ τ, Le τ (R ds.length) → G.nx τ) : MS1 X ρ st G := by
  refine m_for p h (fun j τ => Le τ (R j)) h0 (fun j d τ hj l => ?_) hd
  obtain ⟨τ', ws, t1, t2⟩ := hs j d hj
  exact ⟨τ', ws, .mk fun Z0 F Z σ H v s r Q q => t1.run Z0 F Z σ H v (s.le l) r Q q, t2⟩
/-- .. by a state: S j x holds ahead of turn j -/
theorem m_forS {α : Type} {wi : TI} {g : TG} {body : List Stmt} (p : PS X st (tFor wi g (wS X body))) (h : MI X ρ wi ds) (R : α → Slots) (S : Nat → α → Prop) (h0 : ∃ x, S 0 x ∧ Le ρ (R x))
    (hs : ∀ (j : Nat) (d : D) (x : α), ds[j]? = some d → S j x → ∃ τ' ws, MTg g X.K (R x) d τ' ws ∧ MS X τ' body { nx := fun τ => ∃ y, S (j + 1) y ∧ Le τ (R y), ct := fun τ => ∃ y, S (j + 1) y ∧ Le τ (R y), bk := G.nx, rt := G.rt, rs := G.rs })
    (hd : ∀ τ x, S ds.length x → Le τ (R x) → G.nx τ) : MS1 X ρ st G := by
  refine m_for p h (fun j τ => ∃ x, S j x ∧ Le τ (R x)) h0 (fun j d τ hj l => ?_) fun τ ⟨x, h1, h2⟩ => hd τ x h1 h2
  obtain ⟨x, l1, l2⟩ := l
  obtain ⟨τ', ws, t1, t2⟩ := hs j d x hj l1
  exact ⟨τ', ws, .mk fun Z0 F Z σ H v s r Q q => t1.run Z0 F Z σ H v (s.le l2) r Q q, t2⟩
/-- if, both ways go on -/
theorem m_ifJ {c : Expr} {a b : List Stmt} {t : Bool} {p : Pos} (hc : MT X ρ c t) (τ : Slots) (h1 : t = true → MS X ρ a { G with nx := fun ρ => Le ρ τ }) (h2 : t = false → MS X ρ b { G with nx := fun ρ => Le ρ τ }) (k : ∀ ρ, Le ρ τ → G.nx ρ) : MS1 X ρ (.If c a b p) G :=
  m_if hc (fun h => ms_imp (h1 h) k (fun _ h => h) (fun _ h => h) fun _ h => h) fun h => ms_imp (h2 h) k (fun _ h => h) (fun _ h => h) fun _ h => h
/-- an own def, as it is called by its name -/
structure Fn1 (P : Program) (w : World) (K : PySem.W.Frag) (mg : Str → Option Value) (base : Heap) (name : Str) (k : Nat) (ps : List Str) (sp : Sp) : Prop where
  ex : ∃ (f : Addr) (fd : FuncData), mg name = some (.ref f) ∧ PySem.W.keepIn K (.ref f) = true ∧ Binds K fd ps [] ∧ FnOk P w K mg base CX0 k f fd ps sp
theorem me_fn {α : Type} {ar : α → List O} {pre : α → Prop} {res : α → O} {k : Nat} {ps : List Str} (c : Fn1 X.prog X.w X.K X.mg X.base nm k ps (SpM X.K ar pre res)) (x : α) (ha : MA X ρ (e :: es) (ar x)) (hp : pre x) (hr : Room k X.A) {o : O} (hres : res x = o := by first | (dsimp only; done) | (dsimp only; rfl) | rfl) (hg : Gl X nm := by rfl)
    (hdb : (nm == ("__debug__" : Str)) = false := by decide) (he : starEach (e :: es) X.env = (false, eval e X.env) :: starEach es X.env := by rfl) (hpl : (backTo pos (starEach es X.env)).any (·.1) = false := by rfl) : ME X ρ (.Call (.Name nm p0) (e :: es) [] pos) o := by
  subst hres
  obtain ⟨f, fd, hm, hk, hb, F⟩ := c.ex
  exact me_call (pe_call F hr hg hm hk hb .nil pass0 pa_w hdb he hpl) x ha hp
end
end M
namespace M
open PySem L2 PySem.Spec PyProof.Rows
inductive Smp : Nat → D → Prop where
  | non {n : Nat} : Smp n .non
  | bl {n : Nat} (b : Bool) : Smp n (.bl b)
  | int {n : Nat} (i : Int) : Smp n (.int i)
  | str {n : Nat} {x : Str} (h : (PyData.str x).canLay0 = true) : Smp n (.str x)
  | tup {n : Nat} {ds : List D} (h : ∀ d ∈ ds, Smp n d) : Smp (n + 1) (.tup ds)
  | lst {n : Nat} {ds : List D} (h : ∀ d ∈ ds, Smp n d) : Smp (n + 1) (.lst ds)
theorem D.plL_all : ∀ {ds : List D}, (∀ d ∈ ds, d.pl = true) → D.plL ds = true
  | [], _ => rfl
  | d :: r, h => by
    show (d.pl && D.plL r) = true
    rw [h d List.mem_cons_self, D.plL_all fun e m => h e (List.mem_cons_of_mem _ m)]
    rfl
theorem canL_all : ∀ {ds : List D}, (∀ d ∈ ds, d.py.canLay0 = true) → PyData.canLayAll0 (D.pyL ds) = true
  | [], _ => rfl
  | d :: r, h => by
    show (d.py.canLay0 && PyData.canLayAll0 (D.pyL r)) = true
    rw [h d List.mem_cons_self, canL_all fun e m => h e (List.mem_cons_of_mem _ m)]
    rfl
theorem depL_all {n : Nat} : ∀ {ds : List D}, (∀ d ∈ ds, d.py.depth ≤ n) → PyData.depthAll (D.pyL ds) ≤ n
  | [], _ => Nat.zero_le _
  | d :: r, h => Nat.max_le.mpr ⟨h d List.mem_cons_self, depL_all fun e m => h e (List.mem_cons_of_mem _ m)⟩
theorem Smp.all {n : Nat} {d : D} (h : Smp n d) : d.pl = true ∧ d.py.canLay0 = true ∧ d.py.depth ≤ n := by
  induction h with
  | non => exact ⟨rfl, rfl, Nat.zero_le _⟩
  | bl b => exact ⟨rfl, rfl, Nat.zero_le _⟩
  | int i => exact ⟨rfl, rfl, Nat.zero_le _⟩
  | str h => exact ⟨rfl, h, Nat.zero_le _⟩
  | tup h ih => exact ⟨D.plL_all fun d m => (ih d m).1, canL_all fun d m => (ih d m).2.1, Nat.succ_le_succ (depL_all fun d m => (ih d m).2.2)⟩
  | lst h ih => exact ⟨D.plL_all fun d m => (ih d m).1, canL_all fun d m => (ih d m).2.1, Nat.succ_le_succ (depL_all fun d m => (ih d m).2.2)⟩
theorem Smp.ok {n : Nat} {d : D} (h : Smp n d) (hn : n ≤ 64 := by decide) : d.ok := by
  obtain ⟨h1, h2, h3⟩ := h.all
  refine ⟨h1, ?_⟩
  unfold SeqAt.shaped
  rw [h2, decide_eq_true (Nat.le_trans h3 hn)]
  rfl
theorem eqvL_refl : ∀ {ds : List D}, (∀ d ∈ ds, d.eqv d = true) → PyData.eqvAll (D.pyL ds) (D.pyL ds) = true
  | [], _ => rfl
  | d :: r, h => by
    show (PyData.eqv d.py d.py && PyData.eqvAll (D.pyL r) (D.pyL r)) = true
    rw [show PyData.eqv d.py d.py = true from h d List.mem_cons_self, eqvL_refl fun e m => h e (List.mem_cons_of_mem _ m)]
    rfl
theorem Smp.eqv {n : Nat} {d : D} (h : Smp n d) : d.eqv d = true := by
  induction h with
  | non => rfl
  | bl b => exact beq_self_eq_true b
  | int i => exact beq_self_eq_true i
  | str h => exact beq_self_eq_true _
  | tup h ih => exact eqvL_refl ih
  | lst h ih => exact eqvL_refl ih
theorem smps_map {α : Type} {n : Nat} {f : α → D} {xs : List α} (h : ∀ x ∈ xs, Smp n (f x)) : ∀ d ∈ xs.map f, Smp n d := fun d m => by
  obtain ⟨x, hx, rfl⟩ := List.mem_map.mp m
  exact h x hx
section
variable {X : Cx} {ρ : Slots} {e a b elt : Expr} {es : List Expr} {st : Stmt} {sts : List Stmt} {G : Go} {o o1 o2 : O} {d : D} {ds : List D} {pos p0 p1 : Pos} {i : Nat} {x nm : Str}
end
section
variable {K : PySem.W.Frag} {Z0 Z Z' F H H' : Hp} {ρ : Slots} {σ : L2.St}
end
section
variable {X : Cx} {ρ : Slots} {e a b elt : Expr} {es : List Expr} {st : Stmt} {sts : List Stmt} {G : Go} {o o1 o2 : O} {d : D} {ds : List D} {pos p0 p1 : Pos} {i : Nat} {x nm : Str}
theorem mi_rangeN {n : Nat} (h : MF X ρ es [.int (n : Int)]) (hn : n < 2 ^ 62) : MI X ρ (iRng1 (wA X es)) (rng 0 n) := by
  have q := mi_range1 h (by omega) (by omega)
  rw [Int.toNat_natCast] at q
  exact q
theorem ME.is {o' : O} (h : ME X ρ e o) (q : o = o') : ME X ρ e o' := q ▸ h
/-- for over typed items -/
theorem m_forT {α : Type} {xs : List α} {enc : α → D} {wi : TI} {g : TG} {body : List Stmt} (p : PS X st (tFor wi g (wS X body))) (h : MI X ρ wi (xs.map enc)) (R : Nat → Slots) (h0 : Le ρ (R 0))
    (hs : ∀ (j : Nat) (x : α), xs[j]? = some x → ∃ τ' ws, MTg g X.K (R j) (enc x) τ' ws ∧ MS X τ' body { nx := fun τ => Le τ (R (j + 1)), ct := fun τ => Le τ (R (j + 1)), bk := G.nx, rt := G.rt, rs := G.rs })
    (hd : ∀ τ, Le τ (R xs.length) → G.nx τ) : MS1 X ρ st G := by
  refine m_forR p h R h0 (fun j d hj => ?_) fun τ l => hd τ (by rw [List.length_map] at l; exact l)
  rw [List.getElem?_map] at hj
  obtain ⟨x, hx, rfl⟩ := Option.map_eq_some_iff.mp hj
  exact hs j x hx
theorem m_forTS {α β : Type} {xs : List α} {enc : α → D} {wi : TI} {g : TG} {body : List Stmt} (p : PS X st (tFor wi g (wS X body))) (h : MI X ρ wi (xs.map enc)) (R : β → Slots) (S : Nat → β → Prop) (h0 : ∃ y, S 0 y ∧ Le ρ (R y))
    (hs : ∀ (j : Nat) (x : α) (y : β), xs[j]? = some x → S j y → ∃ τ' ws, MTg g X.K (R y) (enc x) τ' ws ∧ MS X τ' body { nx := fun τ => ∃ y, S (j + 1) y ∧ Le τ (R y), ct := fun τ => ∃ y, S (j + 1) y ∧ Le τ (R y), bk := G.nx, rt := G.rt, rs := G.rs })
    (hd : ∀ τ y, S xs.length y → Le τ (R y) → G.nx τ) : MS1 X ρ st G := by
  refine m_forS p h R S h0 (fun j d y hj => ?_) fun τ y h1 l => hd τ y (by rw [List.length_map] at h1; exact h1) l
  rw [List.getElem?_map] at hj
  obtain ⟨x, hx, rfl⟩ := Option.map_eq_some_iff.mp hj
  exact hs j x y hx
/-- for over a range -/
theorem m_forN {lo : Int} {n : Nat} {wi : TI} {g : TG} {body : List Stmt} (p : PS X st (tFor wi g (wS X body))) (h : MI X ρ wi (rng lo n)) (R : Nat → Slots) (h0 : Le ρ (R 0))
    (hs : ∀ (j : Nat), j < n → ∃ τ' ws, MTg g X.K (R j) (.int (lo + (j : Nat))) τ' ws ∧ MS X τ' body { nx := fun τ => Le τ (R (j + 1)), ct := fun τ => Le τ (R (j + 1)), bk := G.nx, rt := G.rt, rs := G.rs })
    (hd : ∀ τ, Le τ (R n) → G.nx τ) : MS1 X ρ st G := by
  refine m_forR p h R h0 (fun j d hj => ?_) fun τ l => hd τ (by rw [rng_len] at l; exact l)
  obtain ⟨h1, rfl⟩ := rng_get hj
  exact hs j h1
end
/-- a law's promise -/
def spLaw (K : PySem.W.Frag) : Sp := SpM K (fun ns : List Int => [.vw (ns.map .int)]) (fun ns => ns.length ≤ 63) (fun _ => .fz (.bl true))
theorem spLaw_of {K : PySem.W.Frag} {H : Hp} {a : Addr} {ns : List Int} {E : XK} (hS : SqL K H a (ns.map V.int)) (hl : ns.length ≤ 63) : spLaw K [.ref a] H (fun v _ => v = .bl true) E := by
  refine ⟨ns, fun _ => none, fun _ _ z => (by cases z), RepOL.cons (A := []) (B := []) (RepO.vw hS RepL.ofInts) RepOL.nil, hl, fun v Z' H' A g r n => ?_⟩
  cases r with
  | fz r =>
    cases r
    rfl
end M
namespace M
open PySem L2 PySem.Spec PyProof.Rows
theorem RepOL.set {K : PySem.W.Frag} {Z F H : Hp} {w : V} {d : D} (h : Rep K Z w d) : ∀ {vs : List V} {ds : List D} {A : List Addr} (j : Nat), RepOL K Z F H vs (ds.map .fz) A → RepOL K Z F H (vs.set j w) ((ds.set j d).map .fz) A
  | _, [], _, _, .nil => .nil
  | _, _ :: _, _, 0, .cons (.fz _) r => .cons (A := []) (.fz h) r
  | _, _ :: _, _, j + 1, .cons (.fz g) r => .cons (A := []) (.fz g) (RepOL.set h j r)
section
variable {X : Cx} {ρ : Slots} {e a b c elt : Expr} {es rest : List Expr} {st : Stmt} {sts : List Stmt} {G : Go} {o o1 o2 : O} {d : D} {ds : List D} {pos p0 p1 p2 p3 p4 p5 p6 : Pos} {i : Nat} {x nm : Str} {m n k : Int} {p q : Str}
/-- x[e1] = e2, x a slot with an own list of frozen things -/
theorem m_setItem {j : Nat} (pn : PE X (.Name x p1) (tVar i)) (hi : ρ[i]? = some (some (.lst (ds.map .fz)))) (h1 : ME X ρ a (.fz (.int k))) (h2 : ME X ρ b (.fz d)) (hj : ixN ds.length k = some j) (kk : G.nx (ρ.set i (some (.lst ((ds.set j d).map .fz)))))
    (pm : PS X (.Assign [.Subscript (.Name x p1) a p2] b p3) (tAsg (wE X b) (gSub (tVar i) (wE X a) rSetL)) := by exact ps_asg pe_w (pg_sub (pv _) pe_w set_list)) : MS1 X ρ (.Assign [.Subscript (.Name x p1) a p2] b p3) G := .mk fun Z0 F Z σ H D s g => by
  obtain ⟨v, A, e1, r1, nA, dA, k1⟩ := s.upd hi
  cases r1 with
  | @lst l vs _ A h0 r1 =>
    refine PS_w pm (h2.run Z0 F Z σ H s _ fun w Z1 H1 B g1 r2 n2 => ?_)
    refine ⟨_, e1, h1.run Z0 F Z1 σ H1 (s.grow g1) _ fun y Z2 H2 B2 g2 r3 n3 => ?_⟩
    cases r3 with
    | fz r3 =>
      cases r3
      cases r2 with
      | fz r2 =>
        have g12 := g1.trans g2
        have hl : ixN vs.length k = some j := by rw [r1.length, List.length_map]; exact hj
        refine ⟨l, vs, k, j, rfl, rfl, g12.hh _ _ h0, hl, ?_⟩
        have zl : Z2 l = none := by
          rw [g12.nw l _ h0]
          exact (dA l List.mem_cons_self).1
        obtain ⟨na, nA'⟩ := List.nodup_cons.mp nA
        have r1' : RepOL X.K Z2 F (upd H2 l (.lst (vs.set j w))) vs (ds.map .fz) A := r1.mono g12.zz (Ex.refl _) fun b m u hu => by
          have ne : b ≠ l := fun q => na (by rw [← q]; exact m)
          rw [upd_ne ne]
          exact g12.hh b u hu
        refine g.nx _ Z2 σ _ kk ?_
        refine k1 g12.zz g12.nw (g12.zh.mut zl) (fun b nb u hu => ?_) (.lst upd_same (r1'.set (r2.mono g2.zz) j)) nA fun b m => .inl m
        have ne : b ≠ l := fun q => nb (by rw [q]; exact List.mem_cons_self)
        rw [upd_ne ne]
        exact g12.hh b u hu

/-- [..] * n, a list of its own -/
def repG {α : Type} (xs : List α) (k : Int) : List α := (List.replicate k.toNat xs).flatten
theorem RepL.rep {K : PySem.W.Frag} {Z : Hp} {vs : List V} {ds : List D} (r : RepL K Z vs ds) : ∀ k : Nat, RepL K Z (List.replicate k vs).flatten (List.replicate k ds).flatten
  | 0 => .nil
  | k + 1 => by
    rw [List.replicate_succ, List.replicate_succ, List.flatten_cons, List.flatten_cons]
    exact r.append (r.rep k)
theorem me_rep (ha : MV X ρ a (.lst (ds.map .fz))) (hb : ME X ρ b (.fz (.int k))) (hk : -(2 ^ 63) ≤ k ∧ k < 2 ^ 63) (hl : ds.length * k.toNat ≤ sizeLine) : ME X ρ (.BinOp a .Mult b pos) (.lst ((repG ds k).map .fz)) := .mk fun Z0 F Z σ H s Q q =>
  PE_w (pe_op op_rep pe_w pe_w) (ha.run Z0 F Z σ H s _ fun v Z1 H1 A1 g1 r1 => hb.run Z0 F Z1 σ H1 (s.grow g1) _ fun w Z2 H2 A2 g2 r2 n2 => by
    cases r2 with
    | fz r2 =>
      cases r2
      cases r1 with
      | @lst l vs _ A h0 r1 =>
        have g := g1.trans g2
        obtain ⟨_, r1⟩ := r1.fzs
        refine ⟨l, k, vs, rfl, rfl, g2.hh _ _ h0, hk.1, hk.2, by rw [r1.length]; exact hl, fun p hp => ?_⟩
        exact q _ Z2 _ [p] (g.trans (Gr.new g.zh hp)) (.lst upd_same ((r1.mono g2.zz).rep _).own) (new_one (g.hh.free hp) (g.zh.free hp)))
/-- xs + ys, lists of its own -/
theorem me_catL {es1 : List D} (ha : MV X ρ a (.lst (ds.map .fz))) (hb : MV X ρ b (.lst (es1.map .fz))) (hl : ds.length + es1.length ≤ sizeLine) : ME X ρ (.BinOp a .Add b pos) (.lst ((ds ++ es1).map .fz)) := .mk fun Z0 F Z σ H s Q q =>
  PE_w (pe_op op_cat pe_w pe_w) (ha.run Z0 F Z σ H s _ fun v Z1 H1 A1 g1 r1 => hb.run Z0 F Z1 σ H1 (s.grow g1) _ fun w Z2 H2 A2 g2 r2 => by
    cases r2 with
    | @lst l2 us _ A2 h2 r2 =>
      cases r1 with
      | @lst l vs _ A h0 r1 =>
        have g := g1.trans g2
        obtain ⟨_, r1⟩ := r1.fzs
        obtain ⟨_, r2⟩ := r2.fzs
        refine ⟨l, l2, vs, us, rfl, rfl, g2.hh _ _ h0, h2, by rw [r1.length, r2.length]; exact hl, fun p hp => ?_⟩
        exact q _ Z2 _ [p] (g.trans (Gr.new g.zh hp)) (.lst upd_same ((r1.mono g2.zz).append r2).own) (new_one (g.hh.free hp) (g.zh.free hp)))
/-- xs[::-1] -/
theorem me_revL {kk : Nat} (ha : ML X ρ a ds) : ME X ρ (.Subscript a (.Slice none none (some (.UnaryOp .USub (.Constant (.int 1) kk p1) p2)) p3) pos) (.lst (ds.reverse.map .fz)) := .mk fun Z0 F Z σ H s Q q =>
  PE_w (L2.pe_revL pe_w) (ha.run Z0 F Z σ H s _ fun l vs Z1 H1 g1 l1 r1 => ⟨l, vs, rfl, l1, fun p hp =>
    q _ Z1 _ [p] (g1.trans (Gr.new g1.zh hp)) (.lst upd_same r1.reverse.own) (new_one (g1.hh.free hp) (g1.zh.free hp))⟩)
/-- x = [elt for target in source], on one line -/
theorem m_setLc {α : Type} {xs : List α} {enc : α → D} {wi : TI} {g : TG} {scope : Scope} {vs : List Nat} (p : ∀ te : TE, (∀ (s : Shared) (H : Hp) (C : Addr) (cl : List (Str × Addr)) (fp : List Addr), PE (X.blk s H scope (compEnvC scope cl C X.env) fp) elt te) → PS X st (tAsg (tLc wi g tYes te vs) (gName i)))
    (h : MIc X ρ wi (xs.map enc)) (f : α → D) (hz : xs.length < sizeLine)
    (hs : ∀ d ∈ xs, ∃ τ ws, MTg g X.K (wipeS ρ vs) (enc d) τ ws ∧ (∀ w ∈ ws, w ∈ vs) ∧ ∀ (s : Shared) (H : Hp) (C : Addr) (cl : List (Str × Addr)) (fp : List Addr), ME (X.blk s H scope (compEnvC scope cl C X.env) fp) τ elt (.fz (f d)))
    (k : G.nx (ρ.set i (some (.lst ((xs.map f).map .fz))))) (hi : i < ρ.length := by exact Nat.le_of_ble_eq_true rfl) : MS1 X ρ st G := .mk fun Z0 F Z σ H D s gd => by
  refine PS_w (p (fun σ H Q => ∀ (s : Shared) (H' : Hp) (C : Addr) (cl : List (Str × Addr)) (fp : List Addr), wE (X.blk s H' scope (compEnvC scope cl C X.env) fp) elt σ H Q) fun s H' C cl fp => ⟨fun pins s' σ H Q I k => k s H' C cl fp pins s' I⟩) ?_
  refine lc_run h (fun _ => true) f hz (fun d m => ?_) s fun v Z' H' A g' r n => ?_
  · obtain ⟨τ, ws, t1, t2, t3⟩ := hs d m
    refine ⟨τ, ws, t1, t2, fun Z0 F Z σ H s Q q => q Z H (Gr.refl s.ex), fun _ Z0 F Z σ H s Q q s' H' C cl fp => (t3 s' H' C cl fp).run Z0 F Z σ H s Q fun v Z' H' A g r n => ?_⟩
    cases r with
    | fz r => exact q v Z' H' g r
  · rw [List.filter_eq_self.mpr fun _ _ => rfl] at r
    exact gd.nx _ Z' _ H' k (s.put g' r n hi)
theorem me_gI {t : Tok} (hm : X.mg nm = some (.int m t)) (hg : Gl X nm := by rfl) (hd : (nm == ("__debug__" : Str)) = false := by decide) : ME X ρ (.Name nm pos) (.fz (.int m)) := me_c (pe_glob (v := .int m) hg hm ⟨t, rfl⟩ hd) (.int m)
end
end M
namespace M
open PySem L2 PySem.Spec PyProof.Rows
theorem Le.trans : ∀ {ρ τ υ : Slots}, Le ρ τ → Le τ υ → Le ρ υ
  | _, _, _, .nil, h => h
  | _, _, _, .no l, .no r => .no (l.trans r)
  | _, _, _, .no l, .eq r => .no (l.trans r)
  | _, _, _, .eq l, .no r => .no (l.trans r)
  | _, _, _, .eq l, .eq r => .eq (l.trans r)
/-- what the text tells of a class: its attributes' names are no names of the class -/
structure OC (K : PySem.W.Frag) (C : Addr) (ns : List Str) : Prop where
  cl : Cls K C
  na : ∀ f ∈ ns, NoAttr K C f
def nmAt : List Str → Str → Option Nat
  | [], _ => none
  | n :: r, f => if f = n then some 0 else (nmAt r f).map (· + 1)
theorem nmAt_mem : ∀ {ns : List Str} {f : Str} {j : Nat}, nmAt ns f = some j → f ∈ ns
  | n :: r, f, j, h => by
    unfold nmAt at h
    by_cases e : f = n
    · subst e
      exact List.mem_cons_self
    · rw [if_neg e] at h
      cases h1 : nmAt r f with
      | none =>
        rw [h1] at h
        cases h
      | some i => exact List.mem_cons_of_mem _ (nmAt_mem h1)
theorem look_zip : ∀ {ns : List Str} {f : Str} {j : Nat} {vs : List V} {v : V}, nmAt ns f = some j → vs[j]? = some v → (ns.zip vs).lookup f = some v
  | n :: r, f, j, vs, v, h, hv => by
    unfold nmAt at h
    cases vs with
    | nil => simp at hv
    | cons u us =>
      by_cases e : f = n
      · rw [if_pos e] at h
        cases h
        simp at hv
        subst hv
        show List.lookup f ((n, u) :: r.zip us) = _
        simp only [List.lookup, beq_iff_eq.mpr e]
      · rw [if_neg e] at h
        cases h1 : nmAt r f with
        | none =>
          rw [h1] at h
          cases h
        | some i =>
          rw [h1] at h
          cases h
          show List.lookup f ((n, u) :: r.zip us) = _
          simp only [List.lookup, beq_eq_false_iff_ne.mpr e]
          exact look_zip h1 (by simpa using hv)
/-- a name is put: it stands there, or comes behind -/
def nsPut : List Str → Str → List Str
  | [], f => [f]
  | n :: r, f => if n = f then n :: r else n :: nsPut r f
def xsPut {α : Type} : List Str → Str → List α → α → List α
  | n :: r, f, u :: us, v => if n = f then v :: us else u :: xsPut r f us v
  | _, _, _, v => [v]
theorem put_zip : ∀ {ns : List Str} {f : Str} {vs : List V} {v : V}, vs.length = ns.length → putF f v (ns.zip vs) = (nsPut ns f).zip (xsPut ns f vs v)
  | [], f, [], v, _ => rfl
  | n :: r, f, u :: us, v, h => by
    show putF f v ((n, u) :: r.zip us) = _
    unfold putF nsPut xsPut
    by_cases e : n = f
    · rw [if_pos e, if_pos e, if_pos e]
      rfl
    · rw [if_neg e, if_neg e, if_neg e, put_zip (by simpa using h)]
      rfl
section
variable {K : PySem.W.Frag} {Z Z' F F' H H' : Hp}
theorem RepOL.put {w : V} {o : O} {B : List Addr} (r : RepO K Z F H w o B) (nB : B.Nodup) : ∀ {ns : List Str} {f : Str} {vs : List V} {os : List O} {A : List Addr}, vs.length = ns.length → RepOL K Z F H vs os A → A.Nodup → (∀ a ∈ A, a ∉ B) →
    ∃ A', RepOL K Z F H (xsPut ns f vs w) (xsPut ns f os o) A' ∧ A'.Nodup ∧ ∀ a ∈ A', a ∈ A ∨ a ∈ B
  | [], f, [], [], _, _, .nil, _, _ => ⟨B ++ [], .cons r .nil, by rw [List.append_nil]; exact nB, fun a m => .inr (by rw [List.append_nil] at m; exact m)⟩
  | n :: ns, f, v :: vs, o1 :: os, _, hl, .cons (A := A1) (B := A2) h1 h2, nA, d => by
    obtain ⟨n1, n2, n3⟩ := List.nodup_append.mp nA
    unfold xsPut
    by_cases e : n = f
    · rw [if_pos e, if_pos e]
      refine ⟨B ++ A2, .cons r h2, List.nodup_append.mpr ⟨nB, n2, fun a ha b hb e => ?_⟩, fun a m => ?_⟩
      · subst e
        exact d a (List.mem_append_right _ hb) ha
      · rcases List.mem_append.mp m with m | m
        · exact .inr m
        · exact .inl (List.mem_append_right _ m)
    · rw [if_neg e, if_neg e]
      obtain ⟨A', q1, q2, q3⟩ := RepOL.put r nB (ns := ns) (f := f) (vs := vs) (os := os) (by simpa using hl) h2 n2 fun a m => d a (List.mem_append_right _ m)
      refine ⟨A1 ++ A', .cons h1 q1, List.nodup_append.mpr ⟨n1, q2, fun a ha b hb e => ?_⟩, fun a m => ?_⟩
      · subst e
        rcases q3 a hb with z | z
        · exact n3 a ha a z rfl
        · exact d a (List.mem_append_left _ ha) z
      · rcases List.mem_append.mp m with m | m
        · exact .inl (List.mem_append_left _ m)
        · exact (q3 a m).imp (List.mem_append_right _) id
theorem RepO.unAt {v : V} {a C : Addr} {ns : List Str} {os : List O} {A : List Addr} (r : RepO K Z F H v (.at a C ns os) A) : RepO K Z F H v (.ins C ns os) A := by
  cases r with
  | «at» h q => exact .ins h q
end
section
variable {X : Cx} {ρ : Slots} {e a b c elt : Expr} {es rest : List Expr} {st : Stmt} {sts : List Stmt} {G : Go} {o o1 o2 : O} {d : D} {ds : List D} {os : List O} {pos p0 p1 p2 p3 p4 p5 p6 : Pos} {i : Nat} {x nm f : Str} {m n k : Int} {p q : Str} {C : Addr} {ns : List Str}
/-- e.f of a frozen instance -/
theorem me_fld {j : Nat} (h : MV X ρ e (.fz (.ins C ns ds))) (cc : OC X.K C ns) (hd : ds[j]? = some d := by rfl) (hj : nmAt ns f = some j := by decide +kernel) (hb : attributeBase e f X.env (eval e X.env) = eval e X.env := by rfl) : ME X ρ (.Attribute e f pos) (.fz d) := .mk fun Z0 F Z σ H s Q q =>
  PE_w (pe_fld pe_w hb) (h.run Z0 F Z σ H s _ fun v Z1 H1 A g1 r1 => by
    cases r1 with
    | fz r1 =>
      cases r1 with
      | @ins a C dx ns vs ds hz rl =>
        obtain ⟨v, hv, rv⟩ := rl.get hd
        exact ⟨a, C, dx, _, v, rfl, g1.zh _ _ hz, cc.cl, cc.na f (nmAt_mem hj), look_zip hj hv, q v Z1 H1 [] g1 (.fz rv) .nil⟩)
theorem MV.unAt {l : Addr} (h : MV X ρ e (.at l C ns os)) : MV X ρ e (.ins C ns os) := .mk fun Z0 F Z σ H s Q q => h.run Z0 F Z σ H s Q fun v Z1 H1 A g r => q v Z1 H1 A g r.unAt
theorem ME.unAt {l : Addr} (h : ME X ρ e (.at l C ns os)) : ME X ρ e (.ins C ns os) := .mk fun Z0 F Z σ H s Q q => h.run Z0 F Z σ H s Q fun v Z1 H1 A g r => q v Z1 H1 A g r.unAt
/-- x.f = e, x a slot with an own instance at a known place; all: every attribute's name that the class has -/
theorem m_setFld {l : Addr} {all : List Str} (pn : PE X (.Name x p1) (tVar i)) (hi : ρ[i]? = some (some (.at l C ns os))) (hl : os.length = ns.length := by rfl) (h1000 : ns.length < 1000 := by decide) (cc : OC X.K C all) (hm : f ∈ all := by decide +kernel) (he : ME X ρ e o)
    (kk : G.nx (ρ.set i (some (.at l C (nsPut ns f) (xsPut ns f os o)))))
    (hs : swapsWith e (some (.Attribute (.Name x p1) f p2)) p3.line X.env = pure false := by rfl) : MS1 X ρ (.Assign [.Attribute (.Name x p1) f p2] e p3) G := .mk fun Z0 F Z σ H D s g => by
  obtain ⟨v, A, e1, r1, nA, dA, k1⟩ := s.upd hi
  cases r1 with
  | @«at» l C dx ns vs os A h0 r1 =>
    have hlv : vs.length = ns.length := by rw [r1.length]; exact hl
    refine PS_w (ps_fld pn pe_w hs) (he.run Z0 F Z σ H s _ fun w Z1 H1 B g1 r2 n2 => ?_)
    refine ⟨_, e1, l, C, dx, _, rfl, g1.hh _ _ h0, cc.cl, cc.na f hm, by rw [List.length_zip, hlv]; omega, ?_⟩
    rw [put_zip hlv]
    obtain ⟨na, nA'⟩ := List.nodup_cons.mp nA
    have zl : Z1 l = none := by
      rw [g1.nw l _ h0]
      exact (dA l List.mem_cons_self).1
    have there : ∀ b ∈ l :: A, ∃ u, H b = some u := (RepO.at (Z := Z) (F := F) (H := H) h0 r1).there
    have nb : ∀ b ∈ B, b ≠ l := fun b m q => by
      have := (n2.2 b m).1
      rw [q, h0] at this
      cases this
    have r1' : RepOL X.K Z1 F (upd H1 l (.ins C dx ((nsPut ns f).zip (xsPut ns f vs w)))) vs os A := r1.mono g1.zz (Ex.refl _) fun b m u hu => by
      have ne : b ≠ l := fun q => na (by rw [← q]; exact m)
      rw [upd_ne ne]
      exact g1.hh b u hu
    have r2' : RepO X.K Z1 F (upd H1 l (.ins C dx ((nsPut ns f).zip (xsPut ns f vs w)))) w o B := r2.frame fun b m => upd_ne (nb b m)
    obtain ⟨A', q1, q2, q3⟩ := RepOL.put r2' n2.1 hlv r1' nA' fun b m mb => by
      obtain ⟨u, hu⟩ := there b (List.mem_cons_of_mem _ m)
      rw [(n2.2 b mb).1] at hu
      cases hu
    refine g.nx _ Z1 σ _ kk ?_
    refine k1 g1.zz g1.nw (g1.zh.mut zl) (fun b nb u hu => ?_) (.at upd_same q1) (List.nodup_cons.mpr ⟨fun m => ?_, q2⟩) fun b m => ?_
    · have ne : b ≠ l := fun q => nb (by rw [q]; exact List.mem_cons_self)
      rw [upd_ne ne]
      exact g1.hh b u hu
    · rcases q3 _ m with z | z
      · exact na z
      · exact nb _ z rfl
    · rcases List.mem_cons.mp m with z | z
      · exact .inl (by rw [z]; exact List.mem_cons_self)
      · rcases q3 _ z with z | z
        · exact .inl (List.mem_cons_of_mem _ z)
        · exact .inr (n2.2 b z)
/-- the promise of an __init__: of a new instance it makes one with the attributes ns -/
def SpI {α : Type} (K : PySem.W.Frag) (C : Addr) (ns : List Str) (ar : α → List O) (pre : α → Prop) (res : α → List O) : Sp := fun vs H Q _ => ∃ (x : α) (Z F : Hp) (l dx : Addr) (vs' : List V), vs = .ref l :: vs' ∧ Ex Z F ∧ Ex F H ∧ F l = none ∧ H l = some (.ins C dx []) ∧ RepOL K Z F F vs' (ar x) [] ∧ pre x ∧
  ∀ Z' H' A, Gr Z F Z' H' → RepO K Z' (fun _ => none) H' (.ref l) (.at l C ns (res x)) A → New F Z' A → Q .non H'
structure Mk1 (P : Program) (w : World) (K : PySem.W.Frag) (mg : Str → Option Value) (base : Heap) (name : Str) (C : Addr) (k : Nat) (ps : List Str) (sp : Sp) : Prop where
  ex : ∃ (f : Addr) (fd : FuncData), mg name = some (.ref C) ∧ Mk K C f ∧ Binds K fd ps [] ∧ FnOk P w K mg base CX0 k f fd ps sp
theorem me_make {α : Type} {ar : α → List O} {pre : α → Prop} {res : α → List O} {k : Nat} {ps : List Str} (c : Mk1 X.prog X.w X.K X.mg X.base nm C k ps (SpI X.K C ns ar pre res)) (x : α) (ha : MA X ρ (e :: es) (ar x)) (hp : pre x) (hr : Room (k + 1) X.A) {os : List O} (hres : res x = os := by first | (dsimp only; done) | (dsimp only; rfl) | rfl) (hg : Gl X nm := by rfl)
    (hdb : (nm == ("__debug__" : Str)) = false := by decide) (he : starEach (e :: es) X.env = (false, eval e X.env) :: starEach es X.env := by rfl) (hpl : (backTo pos (starEach es X.env)).any (·.1) = false := by rfl) : ME X ρ (.Call (.Name nm p0) (e :: es) [] pos) (.ins C ns os) := by
  subst hres
  obtain ⟨f, fd, hm, M, hb, F⟩ := c.ex
  exact .mk fun Z0 F0 Z σ H s Q q => PE_w (pe_make M F hr hg hm hb .nil pass0 pa_w hdb he hpl) (ha.run Z0 F0 Z σ H s _ fun vs Z1 H1 g1 r1 l dx nl ndx ne =>
    ⟨x, Z1, H1, l, dx, vs, by rw [List.append_nil], g1.zh, (Ex.new ndx).trans (Ex.new (by rw [upd_ne ne.symm]; exact nl)), nl, upd_same, r1, hp, fun Z2 H2 A g2 r2 n2 =>
      ⟨rfl, q (.ref l) Z2 H2 A (g1.trans g2) (r2.unAt.mono (Ex.refl _) (fun _ _ z => by cases z) fun _ _ _ z => z) ⟨n2.1, fun a m => ⟨g1.hh.free (n2.2 a m).1, (n2.2 a m).2⟩⟩⟩⟩)
/-- an __init__'s body keeps its promise -/
theorem fn_mI {α : Type} {P : Program} {w : World} {K : PySem.W.Frag} {mg : Str → Option Value} {base : Heap} {x qual : Str} {st : Stmt} {f : Addr} {fd : FuncData} {N ps : List Str} {k : Nat} {ar : α → List O} {pre : α → Prop} {res : α → List O} {C : Addr} {ns : List Str}
    (F : Fun K x qual st f fd) (S : FnScope N ps (defScope st)) (hl : ∀ x, (ar x).length + 1 = ps.length) (hn : ∀ x, pre x → O.nvL (res x) = true)
    (hb : ∀ (cdv : Value) (A : Around) (outer : List Env) (s : Shared) (H : Hp) (E : XK), Room k (A.deeper (envOfC qual (defScope st) s.heap.objs.size f cdv)) → ∀ (l : Addr) x, pre x →
      MS (cxOf CX0 P w K mg base N qual (defScope st) f cdv A outer s H E).nox (some (.at l C [] []) :: (ar x).map some ++ List.replicate (N.length - ps.length) none) (defBody st) { nx := fun ρ => ρ[0]? = some (some (.at l C ns (res x))) }) :
    FnOk P w K mg base CX0 (k + 1) f fd ps (SpI K C ns ar pre res) := by
  refine F.ok S (fun vs H Q E h => ?_) (fun cdv A outer s H vs Q E hr h => ?_)
  · obtain ⟨x, Z, F, l, dx, vs', rfl, _, _, _, _, r, _⟩ := h
    rw [List.length_cons, r.length, hl]
  · obtain ⟨x, Z, F0, l, dx, vs', rfl, ez, ef, nl, hi, r, hp, q⟩ := h
    have zl : Z l = none := ez.free nl
    have st0 : StL K Z F0 H (some (.at l C [] []) :: (ar x).map some) (some (.ref l) :: vs'.map some) ([l] ++ []) := .so (.at (dx := dx) hi .nil) (stL_args (r.mono (Ex.refl _) (Ex.refl _) fun _ m => nomatch m))
    refine ⟨_, pss_w, (hb cdv A outer s H E hr l x hp).run Z F0 Z _ H _ ⟨⟨Ex.refl _, ef, ez.trans ef, fun _ _ _ => rfl⟩, [l] ++ [], ?_, by simp, fun a m => ?_⟩ ⟨fun ρ Z' σ H' e s' => ?_, fun _ _ _ _ z => z.elim, fun _ _ _ _ z => z.elim, fun _ _ _ _ _ z => z.elim, fun _ _ _ _ _ _ z => z.elim, GX.never fun _ z => z⟩⟩
    · have e : L2.start N (.ref l :: vs') = (some (.ref l) :: vs'.map some) ++ List.replicate (N.length - ps.length) none := by
        unfold L2.start
        rw [List.length_cons, r.length, hl]
        rfl
      rw [e]
      exact stL_more _ st0
    · have : a = l := by simpa using m
      subst this
      exact ⟨zl, nl⟩
    · obtain ⟨A1, t1, t2, t3⟩ := s'.st
      obtain ⟨v, B, u1, u2, u3, u4, _⟩ := t1.at e t2
      cases u2 with
      | «at» h0 rl => exact q Z' H' _ s'.gr ((RepO.at h0 rl).unF (show O.nvL (res x) = true from hn x hp)) ⟨u3, fun a m => ⟨(t3 a (u4 a m)).2, (t3 a (u4 a m)).1⟩⟩
end
end M
namespace M
open PySem L2 PySem.Spec PyProof.Rows
section
variable {X : Cx} {ρ : Slots} {e a b c elt : Expr} {es rest : List Expr} {st : Stmt} {sts : List Stmt} {G : Go} {o o1 o2 : O} {d : D} {ds : List D} {os : List O} {pos p0 p1 p2 p3 p4 p5 p6 : Pos} {i : Nat} {x nm f : Str} {m n k : Int} {p q : Str} {C : Addr} {ns : List Int}
end
end M
namespace M
open PySem L2 PySem.Spec PyProof.Rows
section
variable {X : Cx} {tg : Expr}
end
section
variable {X : Cx} {ρ : Slots} {es : List Expr} {k j : Int}
end
end M
namespace M
open PySem L2 PySem.Spec PyProof.Rows
section
variable {X : Cx} {ρ : Slots} {a b : Expr} {pos : Pos} {k l : Bool}
end
end M
namespace M
open PySem L2 PySem.Spec PyProof.Rows
section
variable {β : Type} {K : PySem.W.Frag} {Z : Hp} {enc : β → D}
end
section
variable {X : Cx} {ρ : Slots} {a : Expr} {pos p0 p1 p2 p3 p4 : Pos} {β : Type} {enc : β → D} {bs : List β}
end
section
variable {X : Cx} {ρ : Slots} {a b e : Expr} {G : Go} {pos p0 p1 p2 p3 p4 : Pos} {k l : Bool} {i : Nat} {x : Str} {d : D} {ds : List D}
end
end M
namespace M
open PySem L2 PySem.Spec PyProof.Rows
section
variable {X : Cx} {ρ : Slots} {a : Expr} {pos p0 p1 : Pos} {C E : Addr} {ns : List Str} {ds : List D} {os : List O} {nm : Str} {k : Bool} {o : O}
end
section
variable {K : PySem.W.Frag} {Z0 Z Z' F F' H H' : Hp} {ρ : Slots} {σ : L2.St}
theorem StL.push {v : V} {o : O} {B : List Addr} (r : RepO K Z F H v o B) : ∀ {ρ : Slots} {σ : L2.St} {A : List Addr}, StL K Z F H ρ σ A → StL K Z F H (ρ ++ [some o]) (σ ++ [some v]) (A ++ B)
  | _, _, _, .nil => by
    have := StL.so r (.nil (K := K) (Z := Z) (F := F) (H := H))
    rw [List.append_nil] at this
    exact this
  | _, _, _, .no h => .no (h.push r)
  | _, _, _, .so q h => by
    rw [List.append_assoc]
    exact .so q (h.push r)
theorem StR.push {v : V} {o : O} {B : List Addr} (s : StR K ρ Z0 F Z σ H) (g : Gr Z H Z' H') (r : RepO K Z' F H' v o B) (n : New H Z' B) : StR K (ρ ++ [some o]) Z0 F Z' (σ ++ [some v]) H' := by
  have s' := s.grow g
  obtain ⟨A, h1, h2, h3⟩ := s.st
  have m1 : StL K Z' F H' ρ σ A := h1.mono g.zz fun a _ u e => g.hh a u e
  refine ⟨s'.gr, A ++ B, m1.push r, List.nodup_append.mpr ⟨h2, n.1, fun a ha b hb e => ?_⟩, fun a m => ?_⟩
  · subst e
    obtain ⟨u, e⟩ := h1.there a ha
    rw [(n.2 a hb).1] at e
    cases e
  · rcases List.mem_append.mp m with z | z
    · obtain ⟨u, e⟩ := h1.there a z
      exact ⟨(g.nw a u e).trans (h3 a z).1, (h3 a z).2⟩
    · exact ⟨(n.2 a z).2, s.gr.hh.free (n.2 a z).1⟩
theorem StL.last' : ∀ {τ : Slots} {υ : L2.St} {A : List Addr}, StL K Z F H τ υ A → A.Nodup → ∀ {ρ : Slots} {o : O} {σ : L2.St} {v : V}, τ = ρ ++ [some o] → υ = σ ++ [some v] → ∃ B C, StL K Z F H ρ σ B ∧ RepO K Z F H v o C ∧ (B ++ C).Nodup ∧ (∀ a ∈ B ++ C, a ∈ A)
  | _, _, _, .nil, _, ρ, o, σ, v, e1, e2 => by simp at e1
  | _, _, _, .no h, n, ρ, o, σ, v, e1, e2 => by
    cases ρ with
    | nil => simp at e1
    | cons x ρ =>
      cases σ with
      | nil =>
        have l := h.length
        simp at e1 e2
        rw [e1.2, e2.2] at l
        simp at l
      | cons y σ =>
        simp at e1 e2
        obtain ⟨e1a, e1b⟩ := e1
        obtain ⟨e2a, e2b⟩ := e2
        obtain ⟨B, C, q1, q2, q3, q4⟩ := h.last' n e1b e2b
        subst e1a
        exact ⟨B, C, .no q1, q2, q3, q4⟩
  | _, _, _, .so (A := A1) (B := A2) r h, n, ρ, o, σ, v, e1, e2 => by
    obtain ⟨n1, n2, n3⟩ := List.nodup_append.mp n
    cases ρ with
    | nil =>
      cases σ with
      | nil =>
        simp at e1 e2
        obtain ⟨e1a, e1b⟩ := e1
        obtain ⟨e2a, e2b⟩ := e2
        subst e1a e1b e2a e2b
        cases h
        exact ⟨[], A1, .nil, r, by simpa using n, fun a m => by simpa using m⟩
      | cons y σ =>
        have l := h.length
        simp at e1 e2
        rw [e1.2, e2.2] at l
        simp at l
    | cons x ρ =>
      cases σ with
      | nil =>
        have l := h.length
        simp at e1 e2
        rw [e1.2, e2.2] at l
        simp at l
      | cons y σ =>
        simp at e1 e2
        obtain ⟨e1a, e1b⟩ := e1
        obtain ⟨e2a, e2b⟩ := e2
        obtain ⟨B, C, q1, q2, q3, q4⟩ := h.last' n2 e1b e2b
        subst e1a e2a
        refine ⟨A1 ++ B, C, .so r q1, q2, ?_, fun a m => ?_⟩
        · rw [List.append_assoc]
          exact List.nodup_append.mpr ⟨n1, q3, fun a ha b hb => n3 a ha b (q4 b hb)⟩
        · rw [List.append_assoc] at m
          rcases List.mem_append.mp m with m | m
          · exact List.mem_append_left _ m
          · exact List.mem_append_right _ (q4 a m)
theorem StL.last {ρ : Slots} {o : O} {σ : L2.St} {v : V} {A : List Addr} (h : StL K Z F H (ρ ++ [some o]) (σ ++ [some v]) A) (n : A.Nodup) : ∃ B C, StL K Z F H ρ σ B ∧ RepO K Z F H v o C ∧ (B ++ C).Nodup ∧ (∀ a ∈ B ++ C, a ∈ A) := h.last' n rfl rfl
theorem StR.pop {v : V} {o : O} (s : StR K (ρ ++ [some o]) Z0 F Z (σ ++ [some v]) H) : StR K ρ Z0 F Z σ H := by
  obtain ⟨A, h1, h2, h3⟩ := s.st
  obtain ⟨B, C, q1, q2, q3, q4⟩ := h1.last h2
  exact ⟨s.gr, B, q1, (List.nodup_append.mp q3).1, fun a m => h3 a (q4 a (List.mem_append_left _ m))⟩
/-- what is behind comes to a slot -/
theorem StR.take {v : V} {o : O} {i : Nat} (s : StR K (ρ ++ [some o]) Z0 F Z (σ ++ [some v]) H) (hi : i < ρ.length) : StR K (ρ.set i (some o)) Z0 F Z (σ.set i (some v)) H := by
  obtain ⟨A, h1, h2, h3⟩ := s.st
  obtain ⟨B, C, q1, q2, q3, q4⟩ := h1.last h2
  obtain ⟨n1, n2, n3⟩ := List.nodup_append.mp q3
  obtain ⟨A', r1, r2, r3⟩ := StL.put q2 q1 hi n1 n2 fun a ha hb => n3 a hb a ha rfl
  refine ⟨s.gr, A', r1, r2, fun a m => h3 a (q4 a ?_)⟩
  rcases r3 a m with z | z
  · exact List.mem_append_left _ z
  · exact List.mem_append_right _ z
end
structure MX (X : Cx) (ρ : Slots) (e : Expr) (o : O) (ρ' : Slots) : Prop where
  run : ∀ (Z0 F Z : Hp) (σ : L2.St) (H : Hp), StR X.K ρ Z0 F Z σ H → ∀ Q : VK, (∀ v Z' H', StR X.K (ρ' ++ [some o]) Z0 F Z' (σ ++ [some v]) H' → Q v H') → wE X e σ H Q
section
variable {X : Cx} {ρ ρ' : Slots} {e : Expr} {st : Stmt} {G : Go} {o : O} {i : Nat}
theorem ME.x (h : ME X ρ e o) : MX X ρ e o ρ := .mk fun Z0 F Z σ H s Q q => h.run Z0 F Z σ H s Q fun v Z' H' A g r n => q v Z' H' (s.push g r n)
end
end M
namespace M
open PySem L2 PySem.Spec PyProof.Rows
def SpX {α : Type} (K : PySem.W.Frag) (ar : α → List O) (pre : α → Prop) (s0 s1 : Addr → α → O) (res : α → O) : Sp := fun vs H Q _ => ∃ (x : α) (Z F : Hp) (l : Addr) (vs' : List V) (A : List Addr), vs = .ref l :: vs' ∧ Ex Z F ∧ Ex F H ∧ A.Nodup ∧ (∀ a ∈ A, F a = none) ∧ RepO K Z F H (.ref l) (s0 l x) A ∧ RepOL K Z F F vs' (ar x) [] ∧ pre x ∧
  ∀ v Z' H' B, Gr Z F Z' H' → RepOL K Z' (fun _ => none) H' [.ref l, v] [s1 l x, res x] B → B.Nodup → (∀ a ∈ B, F a = none ∧ Z' a = none) → Q v H'
/-- an __init__ that is such a def makes a new instance -/
theorem SpX.init {α : Type} {P : Program} {w : World} {K : PySem.W.Frag} {mg : Str → Option Value} {base : Heap} {CX : CXT} {k : Nat} {f : Addr} {fd : FuncData} {ps : List Str} {ar : α → List O} {pre : α → Prop} {s0 s1 : Addr → α → O} {β : Type} {arb : β → List O} {preb : β → Prop} {resb : β → List O} {C : Addr} {ns : List Str} (g : β → α)
    (h : FnOk P w K mg base CX k f fd ps (SpX K ar pre s0 s1 fun _ => .fz .non)) (har : ∀ y, ar (g y) = arb y) (hp : ∀ y, preb y → pre (g y)) (h0 : ∀ l y, s0 l (g y) = .at l C [] []) (h1 : ∀ l y, s1 l (g y) = .at l C ns (resb y)) :
    FnOk P w K mg base CX k f fd ps (SpI K C ns arb preb resb) := h.imp fun vs H Q E hh => by
  obtain ⟨y, Z, F, l, dx, vs', rfl, ez, ef, nl, hi, r, hpr, q⟩ := hh
  have fl : ∀ a ∈ [l], F a = none := fun a m => by
    have e : a = l := by simpa using m
    rw [e]
    exact nl
  refine ⟨g y, Z, F, l, vs', [l], rfl, ez, ef, by simp, fl, ?_, by rw [har]; exact r, hp y hpr, fun v Z' H' B gg rr nB dB => ?_⟩
  · rw [h0]
    exact .at (dx := dx) hi .nil
  · cases rr with
    | @cons _ _ _ _ A1 B1 ra rb =>
      cases rb with
      | @cons _ _ _ _ A2 B2 rb rc =>
        cases rc
        cases rb with
        | fz rb =>
          cases rb
          rw [h1] at ra
          rw [List.append_nil, List.append_nil] at nB dB
          exact q Z' H' _ gg ra ⟨nB, dB⟩
section
variable {X : Cx} {ρ : Slots} {e a b : Expr} {es : List Expr} {pos p0 p1 p2 : Pos} {i : Nat} {xx nm : Str} {C : Addr} {ns ns' all : List Str} {os os' : List O} {ds : List D} {o o' : O}
structure Cf1 (P : Program) (w : World) (K : PySem.W.Frag) (mg : Str → Option Value) (base : Heap) (nmC m : Str) (k : Nat) (ps : List Str) (sp : Sp) : Prop where
  ex : ∃ (C : Addr) (mc : Value) (f : Addr) (fd : FuncData), mg nmC = some (.ref C) ∧ ClX.CRead K C mc ∧ ClX.CVal K C mc m (.ref f) (.ref f) ∧ PySem.W.keepIn K (.ref f) = true ∧ Binds K fd ps [] ∧ FnOk P w K mg base CX0 k f fd ps sp
end
end M
namespace M
open PySem L2 PySem.Spec PyProof.Rows
def D.flat : D → Bool
  | .non => true
  | .bl _ => true
  | .int _ => true
  | .str _ => true
  | _ => false
def D.v : D → V
  | .bl b => .bl b
  | .int i => .int i
  | .str x => .str x
  | _ => .non
theorem Rep.flat {K : PySem.W.Frag} {Z : Hp} {v : V} {d : D} (r : Rep K Z v d) (h : d.flat = true) : v = d.v := by
  cases r with
  | non => rfl
  | bl b => rfl
  | int i => rfl
  | str x => rfl
  | _ => cases h
theorem RepL.flat {K : PySem.W.Frag} {Z : Hp} : ∀ {vs : List V} {ds : List D}, RepL K Z vs ds → ds.all D.flat = true → vs = ds.map D.v
  | _, _, .nil, _ => rfl
  | _, _, .cons a r, h => by
    rw [List.all_cons, Bool.and_eq_true] at h
    rw [List.map_cons, a.flat h.1, r.flat h.2]
theorem D.flat_v : ∀ {d : D}, d.flat = true → flatV d.v = true
  | .non, _ => rfl
  | .bl _, _ => rfl
  | .int _, _ => rfl
  | .str _, _ => rfl
theorem D.flat_vs : ∀ {ds : List D}, ds.all D.flat = true → (ds.map D.v).all flatV = true
  | [], _ => rfl
  | d :: r, h => by
    rw [List.all_cons, Bool.and_eq_true] at h
    rw [List.map_cons, List.all_cons, D.flat_v h.1, D.flat_vs h.2]
    rfl
/-- d stands among ds -/
def D.among (d : D) (ds : List D) : Bool := inV d.v (ds.map D.v)
section
variable {X : Cx} {ρ : Slots} {a b : Expr} {pos : Pos} {d : D} {ds : List D}
theorem inL_core {neg : Bool} {op : CmpOp} (ho : OpR X (compareOp op) (rIn X.K neg)) (ha : ME X ρ a (.fz d)) (hb : ML X ρ b ds) (hf : d.flat = true) (hfs : ds.all D.flat = true) {Z0 F Z : Hp} {σ : L2.St} {H : Hp} (s : StR X.K ρ Z0 F Z σ H) {Q : VK} (q : ∀ Z' H', Gr Z H Z' H' → Q (.bl (if neg then !(d.among ds) else d.among ds)) H') : tOp (rIn X.K neg) (wE X a) (wE X b) σ H Q :=
  ha.run Z0 F Z σ H s _ fun v Z1 H1 A1 g1 r1 n1 => by
    cases r1 with
    | fz r1 =>
      have e1 := r1.flat hf
      subst e1
      refine hb.run Z0 F Z1 σ H1 (s.grow g1) _ fun l vs Z2 H2 g2 l2 r2 => ?_
      have e2 := r2.flat hfs
      subst e2
      exact ⟨l, _, rfl, .inl l2, D.flat_v hf, D.flat_vs hfs, q Z2 H2 (g1.trans g2)⟩
end
end M
namespace M
open PySem L2 PySem.Spec PyProof.Rows
section
variable {X : Cx} {ρ : Slots} {a b c d : Expr} {ta tb tc td : TE} {pos : Pos} {m n k l : Int}
end
theorem kit_true {K : PySem.W.Frag} {C E : Addr} (h1 : PySem.W.isClsIn K E = true) (h2 : PySem.W.typeIn K (.ref E) = some (.type "type")) (h3 : PySem.W.mroIn K C (.ref E) = some true) : PySem.W.kitOne K (.ref C) (.ref E) = some true := by
  unfold PySem.W.kitOne
  split
  · rfl
  · show PySem.W.kitCls K (.ref C) (.ref E) = some true
    have e : PySem.W.kitCls K (.ref C) (.ref E) = if ((PySem.W.clsIn K E).isSome && PySem.W.typeIn K (.ref E) == some (.type "type")) = true then PySem.W.mroIn K C (.ref E) else none := rfl
    rw [e, if_pos, h3]
    rw [h2]
    show ((PySem.W.clsIn K E).isSome && _) = true
    rw [show (PySem.W.clsIn K E).isSome = true from h1]
    decide
end M
namespace M
open PySem L2 PySem.Spec PyProof.Rows
section
variable {X : Cx} {ρ : Slots} {a b c e : Expr} {es : List Expr} {pos p0 p1 : Pos} {p q : Str} {k : Bool} {ys : List Str}
end
end M
namespace M
open PySem L2 PySem.Spec PyProof.Rows
noncomputable def gd {α : Type} (p : Prop) (k : Option α) : Option α := @ite _ p (Classical.propDecidable p) k none
def bd {α β : Type} (o : Option α) (k : α → Option β) : Option β := o.bind k
def lt {α β : Type} (a : α) (k : α → Option β) : Option β := k a
section
variable {α β γ : Type}
theorem gd_some {p : Prop} {k : Option α} {r : α} (h : gd p k = some r) : p ∧ k = some r := by
  unfold gd at h
  by_cases hp : p
  · rw [if_pos hp] at h
    exact ⟨hp, h⟩
  · rw [if_neg hp] at h
    cases h
theorem gd_pos {p : Prop} {k : Option α} (h : p) : gd p k = k := if_pos h
theorem bd_some {o : Option α} {k : α → Option β} {r : β} (h : bd o k = some r) : ∃ a, o = some a ∧ k a = some r := Option.bind_eq_some_iff.mp h
theorem bd_of {o : Option α} {k : α → Option β} {a : α} (h : o = some a) : bd o k = k a := by rw [h]; rfl
theorem lt_some {a : α} {k : α → Option β} {r : β} (h : lt a k = some r) : ∃ x, x = a ∧ k x = some r := ⟨a, rfl, h⟩
theorem cond_t {c : Bool} {a b : α} {r : α} (h : cond c a b = r) (hc : c = true) : a = r := by rw [hc] at h; exact h
theorem cond_f {c : Bool} {a b : α} {r : α} (h : cond c a b = r) (hc : c = false) : b = r := by rw [hc] at h; exact h
theorem and_c {k c : Bool} {b : Option Bool} (h : cond k b (some false) = some c) : (k && c) = c := by
  cases k with
  | true => rfl
  | false => cases h; rfl
theorem or_c {k c : Bool} {b : Option Bool} (h : cond k (some true) b = some c) : (k || c) = c := by
  cases k with
  | true => cases h; rfl
  | false => rfl
end
/-- how a block ends: on, out of the loop, to its next turn, out of the def -/
inductive Ou (V W R : Type) where
  | nx (v : V) | bk (w : W) | ct (w : W) | rt (r : R)
def ouR {V W R : Type} : Ou V W R → (V → Option R) → Option R
  | .nx v, k => k v
  | .rt r, _ => some r
  | _, _ => none
def lp {α V : Type} (f : α → V → Option V) : List α → V → Option V
  | [], v => some v
  | x :: xs, v => bd (f x v) fun v' => lp f xs v'
def lpO {α V R : Type} (f : α → V → Option (Ou V V R)) : List α → V → Option (Ou V V R)
  | [], v => some (.nx v)
  | x :: xs, v => bd (f x v) fun o => match o with
    | .nx v' => lpO f xs v'
    | .ct v' => lpO f xs v'
    | .bk v' => some (.nx v')
    | .rt r => some (.rt r)
def mpO {α β : Type} (f : α → Option β) : List α → Option (List β)
  | [] => some []
  | x :: xs => bd (f x) fun y => bd (mpO f xs) fun ys => some (y :: ys)
/-- a loop that runs to its end -/
theorem lpO_inv {α V R : Type} {f : α → V → Option (Ou V V R)} (I : Nat → V → Prop) {xs : List α} {v : V} (h0 : I 0 v) (h : ∀ (i : Nat) (x : α) (v : V), xs[i]? = some x → I i v → ∃ v', (f x v = some (.nx v') ∨ f x v = some (.ct v')) ∧ I (i + 1) v') : ∃ v', lpO f xs v = some (.nx v') ∧ I xs.length v' := by
  induction xs generalizing v I with
  | nil => exact ⟨v, rfl, h0⟩
  | cons x xs ih =>
    obtain ⟨v1, e, i1⟩ := h 0 x v rfl h0
    obtain ⟨v2, e2, i2⟩ := ih (fun i => I (i + 1)) i1 fun i y w hy hw => h (i + 1) y w (by simpa using hy) hw
    refine ⟨v2, ?_, i2⟩
    show bd (f x v) _ = _
    rcases e with e | e <;> rw [e] <;> exact e2
def goO {V W R : Type} (Rn : V → Slots) (Rw : W → Slots) (er : R → O) (o : Ou V W R) : Go :=
  { nx := fun τ => ∃ v, o = .nx v ∧ Le τ (Rn v), bk := fun τ => ∃ w, o = .bk w ∧ Le τ (Rw w), ct := fun τ => ∃ w, o = .ct w ∧ Le τ (Rw w), rt := fun q => ∃ r, o = .rt r ∧ q = er r }
section
variable {X : Cx} {ρ : Slots} {e a b c elt : Expr} {es : List Expr} {st : Stmt} {sts : List Stmt} {G : Go} {o o1 o2 : O} {d : D} {ds : List D} {pos p0 p1 p2 p3 p4 : Pos} {i : Nat} {x nm : Str} {α β V W R : Type}
/-- for, no way out but the end -/
theorem m_forP {xs : List α} {enc : α → D} {wi : TI} {g : TG} {body : List Stmt} (p : PS X st (tFor wi g (wS X body))) (h : MI X ρ wi (xs.map enc)) {f : α → V → Option V} {v0 v1 : V} (hx : lp f xs v0 = some v1) (Rn : V → Slots) (h0 : Le ρ (Rn v0))
    (hs : ∀ (x : α) (v v' : V), x ∈ xs → f x v = some v' → ∃ τ' ws, MTg g X.K (Rn v) (enc x) τ' ws ∧ MS X τ' body { nx := fun τ => Le τ (Rn v') })
    (hd : ∀ τ, Le τ (Rn v1) → G.nx τ) : MS1 X ρ st G := by
  refine m_forTS (xs := xs) (enc := enc) p h (fun v : V => Rn v) (fun j v => lp f (xs.drop j) v = some v1) ⟨v0, hx, h0⟩ (fun j y v hj hv => ?_) fun τ v hv l => hd τ ?_
  · obtain ⟨hi, ey⟩ := List.getElem?_eq_some_iff.mp hj
    rw [← List.getElem_cons_drop (h := hi), ey] at hv
    obtain ⟨v', e1, e2⟩ := bd_some hv
    obtain ⟨τ', ws, t1, t2⟩ := hs y v v' (List.mem_of_getElem? hj) e1
    exact ⟨τ', ws, t1, ms_imp t2 (fun τ l => ⟨v', e2, l⟩) (fun _ z => z.elim) (fun _ z => z.elim) (fun _ z => z.elim) fun _ _ z => z.elim⟩
  · rw [List.drop_length] at hv
    cases hv
    exact l
/-- for with ways out -/
theorem m_forO {xs : List α} {enc : α → D} {wi : TI} {g : TG} {body : List Stmt} (p : PS X st (tFor wi g (wS X body))) (h : MI X ρ wi (xs.map enc)) {f : α → V → Option (Ou V V R)} {v0 : V} {out : Ou V V R} (hx : lpO f xs v0 = some out) (Rn : V → Slots) (er : R → O) (h0 : Le ρ (Rn v0))
    (hs : ∀ (x : α) (v : V) (o : Ou V V R), x ∈ xs → f x v = some o → ∃ τ' ws, MTg g X.K (Rn v) (enc x) τ' ws ∧ MS X τ' body (goO Rn Rn er o))
    (hd : ∀ v τ, out = .nx v → Le τ (Rn v) → G.nx τ) (hr : ∀ r, out = .rt r → G.rt (er r)) : MS1 X ρ st G := by
  refine m_forTS (xs := xs) (enc := enc) p h (fun v : V => Rn v) (fun j v => lpO f (xs.drop j) v = some out) ⟨v0, hx, h0⟩ (fun j y v hj hv => ?_) fun τ v hv l => ?_
  · obtain ⟨hi, ey⟩ := List.getElem?_eq_some_iff.mp hj
    rw [← List.getElem_cons_drop (h := hi), ey] at hv
    obtain ⟨o, e1, e2⟩ := bd_some hv
    obtain ⟨τ', ws, t1, t2⟩ := hs y v o (List.mem_of_getElem? hj) e1
    refine ⟨τ', ws, t1, ms_imp t2 (fun τ l => ?_) (fun q l => ?_) (fun τ l => ?_) (fun τ l => ?_) fun _ _ z => z.elim⟩
    · obtain ⟨v', rfl, l⟩ := l
      exact ⟨v', e2, l⟩
    · obtain ⟨r, rfl, rfl⟩ := l
      cases e2
      exact hr r rfl
    · obtain ⟨v', rfl, l⟩ := l
      cases e2
      exact hd v' τ rfl l
    · obtain ⟨v', rfl, l⟩ := l
      exact ⟨v', e2, l⟩
  · rw [List.drop_length] at hv
    cases hv
    exact hd v τ rfl l
/-- if whose ways come together, none leaves -/
theorem m_ifP {c : Expr} {a b : List Stmt} {t : Bool} {p : Pos} {out : V} (Rn : V → Slots) (hc : MT X ρ c t) (h1 : t = true → MS X ρ a { nx := fun τ => Le τ (Rn out) }) (h2 : t = false → MS X ρ b { nx := fun τ => Le τ (Rn out) })
    (kn : ∀ τ, Le τ (Rn out) → G.nx τ) : MS1 X ρ (.If c a b p) G := by
  have im : ∀ {s : List Stmt}, MS X ρ s { nx := fun τ => Le τ (Rn out) } → MS X ρ s G := fun h => ms_imp h (fun τ l => kn τ l) (fun q z => z.elim) (fun τ z => z.elim) (fun τ z => z.elim) fun _ _ z => z.elim
  exact m_if hc (fun h => im (h1 h)) fun h => im (h2 h)
theorem atI_map {enc : α → D} {xs : List α} {k : Int} {y : α} (h : L2.atI xs k = some y) : L2.atI (xs.map enc) k = some (enc y) := by
  unfold L2.atI at h ⊢
  rw [List.length_map]
  cases e : ixN xs.length k with
  | none => rw [e] at h; cases h
  | some n =>
    rw [e] at h
    have h : xs[n]? = some y := h
    show (xs.map enc)[n]? = some (enc y)
    rw [List.getElem?_map, h]
    rfl
theorem me_ixLT {xs : List α} {enc : α → D} {k : Int} {y : α} (h : L2.atI xs k = some y) (ha : ML X ρ a (xs.map enc)) (hb : ME X ρ b (.fz (.int k))) (hp : PlainIx b := by exact fun _ _ => rfl) : ME X ρ (.Subscript a b pos) (.fz (enc y)) := me_ixL ha hb (atI_map h) hp
theorem me_catLT {xs ys : List α} {enc : α → D} (hl : xs.length + ys.length ≤ sizeLine) (ha : MV X ρ a (.lst ((xs.map enc).map .fz))) (hb : MV X ρ b (.lst ((ys.map enc).map .fz))) : ME X ρ (.BinOp a .Add b pos) (.lst (((xs ++ ys).map enc).map .fz)) := ME.is (me_catL ha hb (by rw [List.length_map, List.length_map]; exact hl)) (congrArg (fun z => O.lst (List.map O.fz z)) List.map_append.symm)
theorem m_appendT {xs : List α} {enc : α → D} {y : α} {p1 p2 p3 p4 : Pos} (hl : xs.length < sizeLine) (p : PE X (.Name x p1) (tVar i)) (hi : ρ[i]? = some (some (.lst ((xs.map enc).map .fz)))) (he : ME X ρ e (.fz (enc y))) (k : G.nx (ρ.set i (some (.lst (((xs ++ [y]).map enc).map .fz)))))
    (q : ∀ t, PE X (.Call (.Attribute (.Name x p1) "append" p2) [e] [] p3) t → PS X (.Expr (.Call (.Attribute (.Name x p1) "append" p2) [e] [] p3) p4) (tDrop t) := by exact fun _ h => ps_expr h)
    (pm : PE X (.Call (.Attribute (.Name x p1) "append" p2) [e] [] p3) (tBM X.K "list" rAppend (tVar i) (tCons (wE X e) tNil)) := by exact pe_bm PySem.F.plainAttrs_list PySem.F.slot_list_append PySem.F.type_list_append mt_append (pv _) (pa_cons pe_w pa_nil)) : MS1 X ρ (.Expr (.Call (.Attribute (.Name x p1) "append" p2) [e] [] p3) p4) G :=
  m_append p hi he (by rw [List.length_map, List.length_map]; exact hl) (by rw [List.map_append, List.map_append] at k; exact k) q pm
theorem m_setItemT {xs : List α} {enc : α → D} {y : α} {k : Int} {j : Nat} (hj : ixN xs.length k = some j) (pn : PE X (.Name x p1) (tVar i)) (hi : ρ[i]? = some (some (.lst ((xs.map enc).map .fz)))) (h1 : ME X ρ a (.fz (.int k))) (h2 : ME X ρ b (.fz (enc y))) (kk : G.nx (ρ.set i (some (.lst (((xs.set j y).map enc).map .fz)))))
    (pm : PS X (.Assign [.Subscript (.Name x p1) a p2] b p3) (tAsg (wE X b) (gSub (tVar i) (wE X a) rSetL)) := by exact ps_asg pe_w (pg_sub (pv _) pe_w set_list)) : MS1 X ρ (.Assign [.Subscript (.Name x p1) a p2] b p3) G :=
  m_setItem pn hi h1 h2 (by rw [List.length_map]; exact hj) (by rw [List.map_set] at kk; exact kk) pm
theorem mi_rangeT {j : Int} (h : MF X ρ es [.int j]) (h1 : -(2 ^ 62) ≤ j ∧ j < 2 ^ 62) : MI X ρ (iRng1 (wA X es)) ((List.range j.toNat).map fun k : Nat => D.int (k : Nat)) := by
  have q := mi_range1 h h1.1 h1.2
  unfold rng at q
  simp only [Int.zero_add] at q
  exact q
theorem mpO_get {f : α → Option β} : ∀ {xs : List α} {ys : List β}, mpO f xs = some ys → (∀ x ∈ xs, ∃ y, f x = some y) ∧ ys = xs.filterMap f
  | [], _, h => by cases h; exact ⟨fun _ m => (nomatch m), rfl⟩
  | x :: xs, _, h => by
    obtain ⟨y, e1, h⟩ := bd_some h
    obtain ⟨ys, e2, h⟩ := bd_some h
    cases h
    obtain ⟨q1, q2⟩ := mpO_get e2
    refine ⟨fun z m => (List.mem_cons.mp m).elim (fun e => by rw [e]; exact ⟨y, e1⟩) (q1 z), ?_⟩
    rw [List.filterMap_cons, e1, q2]
noncomputable def ofO (enc : β → D) (f : α → Option β) (x : α) : D := match f x with
  | some y => enc y
  | none => .non
theorem mpO_map {enc : β → D} {f : α → Option β} : ∀ {xs : List α} {ys : List β}, mpO f xs = some ys → xs.map (ofO enc f) = ys.map enc
  | [], _, h => by cases h; rfl
  | x :: xs, _, h => by
    obtain ⟨y, e1, h⟩ := bd_some h
    obtain ⟨ys, e2, h⟩ := bd_some h
    cases h
    rw [List.map_cons, List.map_cons, mpO_map e2]
    unfold ofO
    rw [e1]
theorem m_setLcO {xs : List α} {ys : List β} {enc : α → D} {enc2 : β → D} {f : α → Option β} (hy : mpO f xs = some ys) {wi : TI} {g : TG} {scope : Scope} {vs : List Nat} (p : ∀ te : TE, (∀ (s : Shared) (H : Hp) (C : Addr) (cl : List (Str × Addr)) (fp : List Addr), PE (X.blk s H scope (compEnvC scope cl C X.env) fp) elt te) → PS X st (tAsg (tLc wi g tYes te vs) (gName i)))
    (h : MIc X ρ wi (xs.map enc)) (hz : xs.length < sizeLine)
    (hs : ∀ d ∈ xs, ∀ y, f d = some y → ∃ τ ws, MTg g X.K (wipeS ρ vs) (enc d) τ ws ∧ (∀ w ∈ ws, w ∈ vs) ∧ ∀ (s : Shared) (H : Hp) (C : Addr) (cl : List (Str × Addr)) (fp : List Addr), ME (X.blk s H scope (compEnvC scope cl C X.env) fp) τ elt (.fz (enc2 y)))
    (k : G.nx (ρ.set i (some (.lst ((ys.map enc2).map .fz))))) (hi : i < ρ.length := by exact Nat.le_of_ble_eq_true rfl) : MS1 X ρ st G := m_setLc p h (ofO enc2 f) hz (fun d m => by
    obtain ⟨y, ey⟩ := (mpO_get hy).1 d m
    obtain ⟨τ, ws, t1, t2, t3⟩ := hs d m y ey
    exact ⟨τ, ws, t1, t2, fun s H C cl fp => ME.is (t3 s H C cl fp) (by unfold ofO; rw [ey])⟩) (by rw [mpO_map hy]; exact k) hi
end
/-- the promise of a def by its mirror -/
def SpF {A R : Type} (K : PySem.W.Frag) (ar : A → List O) (f : A → Option R) (er : R → O) : Sp := SpM K (fun x : A × R => ar x.1) (fun x => f x.1 = some x.2) (fun x => er x.2)
end M
namespace M
open PySem L2 PySem.Spec PyProof.Rows
abbrev e_d (d : D) : D := d
def Ok {α : Type} (o : Option α) (P : α → Prop) : Prop := ∃ r, o = some r ∧ P r
section
variable {α β V W R : Type} {P : β → Prop}
theorem ok_gd {p : Prop} {k : Option β} (h : p) (hk : Ok k P) : Ok (gd p k) P := by rw [gd_pos h]; exact hk
theorem ok_bd {o : Option α} {k : α → Option β} {Q : α → Prop} (h : Ok o Q) (hk : ∀ a, Q a → Ok (k a) P) : Ok (bd o k) P := by
  obtain ⟨a, e, q⟩ := h
  rw [bd_of e]
  exact hk a q
theorem ok_lt {a : α} {k : α → Option β} (hk : Ok (k a) P) : Ok (lt a k) P := hk
theorem ok_some {b : β} (h : P b) : Ok (some b) P := ⟨b, rfl, h⟩
theorem ok_cond {c : Bool} {a b : Option β} (h1 : c = true → Ok a P) (h2 : c = false → Ok b P) : Ok (cond c a b) P := by
  cases c with
  | true => exact h1 rfl
  | false => exact h2 rfl
theorem ok_t {c : Bool} {a b : Option β} (hc : c = true) (h : Ok a P) : Ok (cond c a b) P := by rw [hc]; exact h
theorem ok_f {c : Bool} {a b : Option β} (hc : c = false) (h : Ok b P) : Ok (cond c a b) P := by rw [hc]; exact h
theorem Ok.imp {Q : β → Prop} {o : Option β} (h : Ok o Q) (f : ∀ r, Q r → P r) : Ok o P := let ⟨r, e, q⟩ := h; ⟨r, e, f r q⟩
theorem Ok.eq {o : Option β} {b : β} (h : Ok o (· = b)) : o = some b := by obtain ⟨r, e, rfl⟩ := h; exact e
theorem Ok.of {o : Option β} {b : β} (h : o = some b) : Ok o (· = b) := ⟨b, h, rfl⟩
theorem ok_atI {xs : List α} {k : Int} {Q : α → Prop} (h0 : 0 ≤ k) (h1 : k < xs.length) (q : ∀ y, xs[k.toNat]? = some y → Q y) : Ok (L2.atI xs k) Q := by
  have hk : k.toNat < xs.length := by omega
  refine ⟨xs[k.toNat], ?_, q _ (List.getElem?_eq_getElem hk)⟩
  obtain ⟨n, rfl⟩ := Int.eq_ofNat_of_zero_le h0
  exact atI_nat (List.getElem?_eq_getElem (by simpa using hk))
theorem ok_atIm {xs : List α} {k : Int} {Q : α → Prop} (h0 : 0 ≤ k) (h1 : k < xs.length) (q : ∀ y ∈ xs, Q y) : Ok (L2.atI xs k) Q := ok_atI h0 h1 fun y e => q y (List.mem_of_getElem? e)
theorem ok_lpN {f : α → V → Option (Ou V V R)} {xs : List α} {v : V} {Q : Ou V V R → Prop} (I : Nat → V → Prop) (h0 : I 0 v) (h : ∀ (i : Nat) (x : α) (v : V), xs[i]? = some x → I i v → Ok (f x v) fun o => ∃ v', (o = .nx v' ∨ o = .ct v') ∧ I (i + 1) v') (hd : ∀ v, I xs.length v → Q (.nx v)) : Ok (lpO f xs v) Q := by
  obtain ⟨v', e, i⟩ := lpO_inv (f := f) I h0 fun i x v hx hv => by
    obtain ⟨o, e, v', e2, q⟩ := h i x v hx hv
    exact ⟨v', e2.imp (fun z => by rw [e, z]) (fun z => by rw [e, z]), q⟩
  exact ⟨_, e, hd v' i⟩
end
section
variable {X : Cx} {ρ : Slots} {e a b c elt : Expr} {es : List Expr} {st : Stmt} {sts : List Stmt} {G : Go} {o o1 o2 : O} {d : D} {ds : List D} {pos p0 p1 p2 p3 p4 : Pos} {i : Nat} {x nm : Str} {α β : Type} {p q : Str} {k l : Bool} {m n : Int}
theorem MT.is (h : MT X ρ e k) (q : k = l) : MT X ρ e l := q ▸ h
theorem MW.is (h : MW X ρ e k) (q : k = l) : MW X ρ e l := q ▸ h
theorem ME.isB (h : ME X ρ e (.fz (.bl k))) (q : k = l) : ME X ρ e (.fz (.bl l)) := q ▸ h
theorem frz_own {enc : α → D} {xs : List α} : (O.lst ((xs.map enc).map .fz)).frz = .lst (xs.map enc) := congrArg D.lst (O.frzL_fz _)
theorem me_lenLT {xs : List α} {enc : α → D} (hg : Gl X "len") (hm : X.mg "len" = none) (ha : ML X ρ a (xs.map enc)) (n1 : NS X a := by exact fun _ => rfl) : ME X ρ (.Call (.Name "len" p0) [a] [] pos) (.fz (.int (xs.length : Int))) := ME.is (me_len hg hm ha n1) (by rw [List.length_map])
theorem repG_map {enc : α → β} {xs : List α} {k : Int} : repG (xs.map enc) k = (repG xs k).map enc := by
  unfold repG
  rw [List.map_flatten, List.map_replicate]
theorem me_repT {xs : List α} {enc : α → D} {kk : Int} (h : (-(2 ^ 63) ≤ kk ∧ kk < 2 ^ 63) ∧ xs.length * kk.toNat ≤ sizeLine) (ha : MV X ρ a (.lst ((xs.map enc).map .fz))) (hb : ME X ρ b (.fz (.int kk))) : ME X ρ (.BinOp a .Mult b pos) (.lst (((repG xs kk).map enc).map .fz)) :=
  ME.is (me_rep ha hb h.1 (by rw [List.length_map]; exact h.2)) (by rw [repG_map])
theorem me_eqDT {d1 d2 : D} (hu : X.A.units + 64 < cLine) (h : d1.ok ∧ d2.ok) (e1 : o1.frz = d1) (e2 : o2.frz = d2) (ha : MV X ρ a o1) (hb : MV X ρ b o2) : ME X ρ (.Compare a [.Eq] [b] pos) (.fz (.bl (D.eqv d1 d2))) := by
  subst e1 e2
  exact me_eqD hu ha hb h.1 h.2
theorem among_b {k : Bool} {xs : List Bool} : D.among (.bl k) (xs.map .bl) = xs.contains k := by
  unfold D.among inV
  rw [List.map_map, List.any_map]
  induction xs with
  | nil => rfl
  | cons y xs ih =>
    rw [List.any_cons, List.contains_cons, ih]
    congr 1
    exact BEq.comm
theorem flat_b {xs : List Bool} : (xs.map D.bl).all D.flat = true := by
  rw [List.all_map]
  exact List.all_eq_true.mpr fun _ _ => rfl
theorem me_inL (ha : ME X ρ a (.fz d)) (hb : ML X ρ b ds) (hf : d.flat = true := by rfl) (hfs : ds.all D.flat = true := by rfl) (hm : behindInMarks .In b = false := by rfl) : ME X ρ (.Compare a [.In] [b] pos) (.fz (.bl (d.among ds))) := .mk fun Z0 F Z σ H s Q q =>
  PE_w (pe_cmpR op_in_seq pe_w pe_w hm) (inL_core op_in_seq ha hb hf hfs s fun Z' H' g => q _ Z' H' [] g (.fz (.bl _)) .nil)
section
variable {xi : List Int} {xs : List Str} {xb : List Bool}
theorem me_inLT_b (ha : ME X ρ a (.fz (.bl k))) (hb : ML X ρ b (xb.map .bl)) (hm : behindInMarks .In b = false := by rfl) : ME X ρ (.Compare a [.In] [b] pos) (.fz (.bl (xb.contains k))) := (me_inL ha hb rfl flat_b hm).isB among_b
end
end
end M
namespace M
open PySem L2 PySem.Spec PyProof.Rows
section
variable {X : Cx} {ρ : Slots} {e a b c elt : Expr} {es : List Expr} {st : Stmt} {sts : List Stmt} {G : Go} {o o1 o2 : O} {d : D} {ds : List D} {pos p0 p1 p2 p3 p4 : Pos} {i : Nat} {x nm : Str} {α β γ : Type} {p q : Str} {k l : Bool} {m n : Int} {te : TE}
end
end M
namespace M
open PySem L2 PySem.Spec PyProof.Rows
theorem nsPut_new : ∀ {ns : List Str} {f : Str}, nmAt ns f = none → nsPut ns f = ns ++ [f]
  | [], _, _ => rfl
  | n :: r, f, h => by
    unfold nmAt at h
    unfold nsPut
    by_cases e : n = f
    · rw [if_pos e.symm] at h; cases h
    · rw [if_neg fun q => e q.symm] at h
      rw [if_neg e, nsPut_new (Option.map_eq_none_iff.mp h)]
      rfl
theorem xsPut_new {α : Type} : ∀ {ns : List Str} {f : Str} {xs : List α} {y : α}, nmAt ns f = none → xs.length = ns.length → xsPut ns f xs y = xs ++ [y]
  | [], _, [], _, _, _ => rfl
  | n :: r, f, x :: xs, y, h, l => by
    unfold nmAt at h
    unfold xsPut
    by_cases e : n = f
    · rw [if_pos e.symm] at h; cases h
    · rw [if_neg fun q => e q.symm] at h
      rw [if_neg e, xsPut_new (Option.map_eq_none_iff.mp h) (by simpa using l)]
      rfl
section
variable {X : Cx} {ρ : Slots} {e a b c elt : Expr} {es : List Expr} {st : Stmt} {sts : List Stmt} {G : Go} {o o1 o2 : O} {d : D} {ds : List D} {os : List O} {pos p0 p1 p2 p3 p4 : Pos} {i : Nat} {x nm f : Str} {C : Addr} {ns : List Str}
theorem OC.take {K : PySem.W.Frag} {all : List Str} (n : Nat) (h : OC K C all) : OC K C (all.take n) := ⟨h.cl, fun f m => h.na f (List.mem_of_mem_take m)⟩
/-- x.f = e, an attribute that isn't there yet -/
theorem m_setFldN {l : Addr} {all : List Str} (pn : PE X (.Name x p1) (tVar i)) (hi : ρ[i]? = some (some (.at l C ns os))) (cc : OC X.K C all) (he : ME X ρ e o)
    (kk : G.nx (ρ.set i (some (.at l C (ns ++ [f]) (os ++ [o]))))) (hl : os.length = ns.length := by rfl) (h1000 : ns.length < 1000 := by decide) (hm : f ∈ all := by decide +kernel) (hn : nmAt ns f = none := by decide +kernel)
    (hs : swapsWith e (some (.Attribute (.Name x p1) f p2)) p3.line X.env = pure false := by rfl) : MS1 X ρ (.Assign [.Attribute (.Name x p1) f p2] e p3) G :=
  m_setFld pn hi hl h1000 cc hm he (by rw [nsPut_new hn, xsPut_new hn hl]; exact kk) hs
end
end M
namespace M
open PySem L2 PySem.Spec PyProof.Rows
/-- slots that are fit for what follows: gone, of one's own, or a view at a known place that stands as it stood -/
inductive Kp : Slots → Slots → Prop where
  | nil : Kp [] []
  | no {x : Option O} {ρ τ : Slots} : Kp ρ τ → Kp (x :: ρ) (none :: τ)
  | nv {x : Option O} {o : O} {ρ τ : Slots} : o.nv = true → Kp ρ τ → Kp (x :: ρ) (some o :: τ)
  | va {a : Addr} {ds : List D} {ρ τ : Slots} : Kp ρ τ → Kp (some (.vwa a ds) :: ρ) (some (.vwa a ds) :: τ)
  | lk {a : Addr} {o : O} {ρ τ : Slots} : Kp ρ τ → Kp (some (.lk (.loc a o)) :: ρ) (some (.lk (.loc a o)) :: τ)
section
variable {K : PySem.W.Frag} {Z0 Z Z1 F F' H H1 : Hp}
theorem StL.monoF (f : Ex F F') : ∀ {ρ : Slots} {σ : L2.St} {A : List Addr}, StL K Z F H ρ σ A → StL K Z F' H ρ σ A
  | _, _, _, .nil => .nil
  | _, _, _, .no h => .no (h.monoF f)
  | _, _, _, .so r h => .so (r.mono (Ex.refl _) f fun _ _ _ e => e) (h.monoF f)
theorem RepO.lkAt {v : V} {a : Addr} {o : O} {A : List Addr} (r : RepO K Z F H v (.lk (.loc a o)) A) : v = .ref a ∧ A = [] ∧ RepK K Z F (.ref a) o := by
  cases r with
  | lk r =>
    cases r with
    | loc r => exact ⟨rfl, rfl, r⟩
theorem StL.kp (ef : Ex F F') (ez : Ex Z Z1) : ∀ {ρ τ : Slots} {σ0 σ : L2.St} {A0 A : List Addr}, Kp ρ τ → StL K Z F H ρ σ0 A0 → StL K Z1 F' H1 τ σ A → StL K Z1 F H1 τ σ A
  | _, _, _, _, _, _, .nil, .nil, .nil => .nil
  | _, _, _, _, _, _, .no k, .no h0, .no h => .no (StL.kp ef ez k h0 h)
  | _, _, _, _, _, _, .no k, .so _ h0, .no h => .no (StL.kp ef ez k h0 h)
  | _, _, _, _, _, _, .nv n k, .no h0, .so r h => .so (r.unF n) (StL.kp ef ez k h0 h)
  | _, _, _, _, _, _, .nv n k, .so _ h0, .so r h => .so (r.unF n) (StL.kp ef ez k h0 h)
  | _, _, _, _, _, _, .va k, .so r0 h0, .so r h => by
    cases r with
    | vwa r2 r3 =>
      cases r0 with
      | vwa r4 r5 => exact .so (.vwa r4 (r5.mono ez)) (StL.kp ef ez k h0 h)
  | _, _, _, _, _, _, .lk (a := a) (o := o) k, .so r0 h0, .so r h => by
    have e0 := RepO.lkAt r0
    have e1 := RepO.lkAt r
    rw [e1.1, e1.2.1]
    exact .so (.lk (.loc (e0.2.2.mono ez (Ex.refl _)))) (StL.kp ef ez k h0 h)
end
section
variable {X : Cx} {ρ : Slots} {st : Stmt} {sts : List Stmt} {G : Go} {o : O} {d : D} {ds : List D} {i : Nat}
end
end M
namespace M
open PySem L2 PySem.Spec PyProof.Rows
section
variable {X : Cx} {ρ : Slots} {a b : Expr} {pos : Pos} {p : Str} {m : Int} {k : Bool}
end
end M
namespace M
open PySem L2 PySem.Spec PyProof.Rows
def isiD (T : String) (d : D) : Option Bool := d.tyN.bind fun t => kitB t T
def asI : D → Option Int
  | .int i => some i
  | _ => none
theorem asI_is {d : D} {i : Int} (h : asI d = some i) : O.fz d = .fz (.int i) := by
  cases d <;> cases h
  rfl
section
variable {X : Cx} {ρ : Slots} {a b c e : Expr} {pos p0 p1 : Pos} {d : D} {k : Bool}
theorem me_isiD {T : String} {TS : Str} (hk : isiD T d = some k) (hg : Gl X "isinstance") (hm : X.mg "isinstance" = none) (hT : PE X (.Name TS p1) (tC (.ty T))) (ha : MV X ρ a (.fz d)) (n1 : NS X a := by exact fun _ => rfl) :
    ME X ρ (.Call (.Name "isinstance" p0) [a, .Name TS p1] [] pos) (.fz (.bl k)) := by
  obtain ⟨t, h1, h2⟩ := Option.bind_eq_some_iff.mp hk
  exact me_isi hg hm hT ha (o := .fz d) h1 h2 n1
end
end M
namespace M
open PySem L2 PySem.Spec PyProof.Rows
section
variable {X : Cx} {ρ : Slots} {e a b : Expr} {es : List Expr} {pos p0 p1 : Pos} {nm : Str} {C : Addr} {ns : List Str} {ds : List D} {o : O} {d : D}
/-- a default is a plain value -/
inductive Dfl : List V → List D → Prop where
  | nil : Dfl [] []
  | cons {v : V} {d : D} {vs : List V} {ds : List D} : Sc d v → Dfl vs ds → Dfl (v :: vs) (d :: ds)
theorem Dfl.own {K : PySem.W.Frag} {Z F H : Hp} : ∀ {vs : List V} {ds : List D}, Dfl vs ds → RepOL K Z F H vs (ds.map .fz) []
  | _, _, .nil => .nil
  | _, _, .cons h r => .cons (A := []) (B := []) (.fz h.rep) r.own
end
end M
namespace M
open PySem L2 PySem.Spec PyProof.Rows
section
variable {K : PySem.W.Frag} {Z0 Z Z' Z1 F F' H H' H1 : Hp} {ρ ρ' : Slots} {σ : L2.St}
theorem RepOL.foc : ∀ {vs : List V} {os : List O} {A : List Addr} {j : Nat} {o : O}, RepOL K Z F H vs os A → os[j]? = some o → A.Nodup →
    ∃ v B, vs[j]? = some v ∧ RepO K Z F H v o B ∧ B.Nodup ∧ (∀ a ∈ B, a ∈ A) ∧ ∀ {Z' H' : Hp} {o' : O} {B' : List Addr}, Ex Z Z' → (∀ a ∈ A, a ∉ B → ∀ u, H a = some u → H' a = some u) → RepO K Z' F H' v o' B' → B'.Nodup → (∀ a ∈ B', a ∈ A → a ∈ B) →
      ∃ A', RepOL K Z' F H' vs (os.set j o') A' ∧ A'.Nodup ∧ ∀ a ∈ A', (a ∈ A ∧ a ∉ B) ∨ a ∈ B'
  | _, _, _, _, _, .nil, e, _ => by simp at e
  | _, _, _, 0, _, .cons (A := A1) (B := A2) q h, e, nA => by
    simp at e
    subst e
    obtain ⟨n1, n2, n3⟩ := List.nodup_append.mp nA
    refine ⟨_, A1, rfl, q, n1, fun a m => List.mem_append_left _ m, fun ez k r n d => ?_⟩
    refine ⟨_, .cons r (RepOL.mono ez (Ex.refl _) h fun a m => k a (List.mem_append_right _ m) fun z => n3 a z a m rfl), List.nodup_append.mpr ⟨n, n2, fun a ha b hb e => ?_⟩, fun a m => ?_⟩
    · subst e
      exact n3 a (d a ha (List.mem_append_right _ hb)) a hb rfl
    · rcases List.mem_append.mp m with m | m
      · exact .inr m
      · exact .inl ⟨List.mem_append_right _ m, fun z => n3 a z a m rfl⟩
  | _, _, _, j + 1, _, .cons (A := A1) (B := A2) q h, e, nA => by
    obtain ⟨n1, n2, n3⟩ := List.nodup_append.mp nA
    obtain ⟨v, B, h1, h2, h3, h4, h5⟩ := RepOL.foc (j := j) h (by simpa using e) n2
    refine ⟨v, B, by simpa using h1, h2, h3, fun a m => List.mem_append_right _ (h4 a m), fun ez k r n d => ?_⟩
    obtain ⟨A', q1, q2, q3⟩ := h5 ez (fun a m nb => k a (List.mem_append_right _ m) nb) r n fun a m z => d a m (List.mem_append_right _ z)
    refine ⟨_, .cons (q.mono ez (Ex.refl _) fun a m => k a (List.mem_append_left _ m) fun z => n3 a m a (h4 a z) rfl) q1, List.nodup_append.mpr ⟨n1, q2, fun a ha b hb e => ?_⟩, fun a m => ?_⟩
    · subst e
      rcases q3 a hb with z | z
      · exact n3 a ha a z.1 rfl
      · exact n3 a ha a (h4 a (d a z (List.mem_append_left _ ha))) rfl
    · rcases List.mem_append.mp m with m | m
      · exact .inl ⟨List.mem_append_left _ m, fun z => n3 a m a (h4 a z) rfl⟩
      · exact (q3 a m).imp (fun z => ⟨List.mem_append_right _ z.1, z.2⟩) id
/-- a state with what it owns -/
structure StA (K : PySem.W.Frag) (ρ : Slots) (Z0 F Z : Hp) (σ : L2.St) (H : Hp) (A : List Addr) : Prop where
  gr : Gr Z0 F Z H
  st : StL K Z F H ρ σ A
  nd : A.Nodup
  ds : ∀ a ∈ A, Z a = none ∧ F a = none
theorem StA.r {A : List Addr} (s : StA K ρ Z0 F Z σ H A) : StR K ρ Z0 F Z σ H := ⟨s.gr, A, s.st, s.nd, s.ds⟩
theorem StR.a (s : StR K ρ Z0 F Z σ H) : ∃ A, StA K ρ Z0 F Z σ H A := let ⟨A, h1, h2, h3⟩ := s.st; ⟨A, s.gr, h1, h2, h3⟩
theorem StA.grow {A : List Addr} (s : StA K ρ Z0 F Z σ H A) (g : Gr Z H Z' H') : StA K ρ Z0 F Z' σ H' A := by
  refine ⟨s.gr.trans g, s.st.mono g.zz fun a _ u e => g.hh a u e, s.nd, fun a m => ⟨?_, (s.ds a m).2⟩⟩
  obtain ⟨u, e⟩ := s.st.there a m
  rw [g.nw a u e]
  exact (s.ds a m).1
/-- what a change at A must leave as it is -/
def Kept (F : Hp) (T A : List Addr) (a : Addr) : Prop := a ∉ A ∧ (a ∈ T ∨ ∃ u, F a = some u)
/-- the part at a place: what is there, and what comes of it where it is changed -/
structure FocA (K : PySem.W.Frag) (F Z : Hp) (Z0 : Hp) (σ : L2.St) (H : Hp) (T : List Addr) (v : V) (o : O) (R : O → Slots) (A : List Addr) : Prop where
  rp : RepO K Z F H v o A
  nd : A.Nodup
  ds : ∀ a ∈ A, a ∈ T ∧ Z a = none ∧ F a = none
  th : ∀ a ∈ T, ∃ u, H a = some u
  fh : Ex F H
  k : ∀ {Z' H' : Hp} {w : V} {o' p : O} {B : List Addr}, Ex Z Z' → (∀ a, Kept F T A a → Z' a = Z a) → Ex Z' H' → (∀ a, Kept F T A a → ∀ u, H a = some u → H' a = some u) → RepOL K Z' F H' [v, w] [o', p] B → B.Nodup → (∀ a ∈ B, (a ∈ A ∨ a ∉ T ∧ F a = none) ∧ Z' a = none) →
    StR K (R o' ++ [some p]) Z0 F Z' (σ ++ [some w]) H'
def Foc (K : PySem.W.Frag) (Z0 F Z : Hp) (σ : L2.St) (H : Hp) (T : List Addr) (v : V) (o : O) (R : O → Slots) : Prop := ∃ A, FocA K F Z Z0 σ H T v o R A
theorem StA.foc {T : List Addr} {i : Nat} {o : O} (s : StA K ρ Z0 F Z σ H T) (hi : ρ[i]? = some (some o)) : ∃ v, σ[i]? = some (some v) ∧ Foc K Z0 F Z σ H T v o (fun o' => ρ.set i (some o')) := by
  obtain ⟨v, B0, q1, q2, q3, q4, q5⟩ := s.st.at hi s.nd
  refine ⟨v, q1, B0, q2, q3, fun a m => ⟨q4 a m, s.ds a (q4 a m)⟩, s.st.there, s.gr.hh, fun {Z' H' w o' p B} ez nz zh k r n d => ?_⟩
  cases r with
  | @cons _ _ _ _ A1 B1 ra r =>
    cases r with
    | @cons _ _ _ _ A2 B2 rb r =>
      cases r
      rw [List.append_nil] at n d
      obtain ⟨n1, n2, n3⟩ := List.nodup_append.mp n
      have apart : ∀ a ∈ A1 ++ A2, a ∈ T → a ∈ B0 := fun a m ma => (d a m).1.elim id fun z => absurd ma z.1
      obtain ⟨A', r1, r2, r3⟩ := q5 (v' := v) ez (fun a m nb u e => k a ⟨nb, .inl m⟩ u e) ra n1 fun a m ma => apart a (List.mem_append_left _ m) ma
      rw [set_same q1] at r1
      have hF : ∀ a u, F a = some u → a ∉ B0 := fun a u e m => by
        rw [(s.ds a (q4 a m)).2] at e
        cases e
      refine ⟨⟨s.gr.zz.trans ez, fun a u e => k a ⟨hF a u e, .inr ⟨u, e⟩⟩ u (s.gr.hh a u e), zh, fun a u e => (nz a ⟨hF a u e, .inr ⟨u, e⟩⟩).trans (s.gr.nw a u e)⟩, A' ++ A2, r1.push rb, List.nodup_append.mpr ⟨r2, n2, fun a ha b hb e => ?_⟩, fun a m => ?_⟩
      · subst e
        rcases r3 a ha with z | z
        · exact z.2 (apart a (List.mem_append_right _ hb) z.1)
        · exact n3 a z a hb rfl
      · have new : a ∈ A1 ++ A2 → Z' a = none ∧ F a = none := fun y => by
          refine ⟨(d a y).2, ?_⟩
          rcases (d a y).1 with z | z
          · exact (s.ds a (q4 a z)).2
          · exact z.2
        rcases List.mem_append.mp m with m | m
        · rcases r3 a m with z | z
          · exact ⟨(nz a ⟨z.2, .inl z.1⟩).trans (s.ds a z.1).1, (s.ds a z.1).2⟩
          · exact new (List.mem_append_left _ z)
        · exact new (List.mem_append_right _ m)
theorem Foc.grow {T : List Addr} {v : V} {o : O} {R : O → Slots} (f : Foc K Z0 F Z σ H T v o R) (g : Gr Z H Z1 H1) : Foc K Z0 F Z1 σ H1 T v o R := by
  obtain ⟨A, f⟩ := f
  refine ⟨A, f.rp.ex g.zz g.hh, f.nd, fun a m => ⟨(f.ds a m).1, ?_, (f.ds a m).2.2⟩, fun a m => ?_, f.fh.trans g.hh, fun {Z' H' w o' p B} ez nz zh k r n d => ?_⟩
  · obtain ⟨u, e⟩ := f.rp.there a m
    exact (g.nw a u e).trans (f.ds a m).2.1
  · obtain ⟨u, e⟩ := f.th a m
    exact ⟨u, g.hh a u e⟩
  · refine f.k (g.zz.trans ez) (fun a ka => ?_) zh (fun a ka u e => k a ka u (g.hh a u e)) r n d
    have : ∃ u, H a = some u := ka.2.elim (f.th a) fun ⟨u, e⟩ => ⟨u, f.fh a u e⟩
    obtain ⟨u, e⟩ := this
    exact (nz a ka).trans (g.nw a u e)
theorem FocA.chg {T A : List Addr} {v : V} {o : O} {R : O → Slots} (f : FocA K F Z Z0 σ H T v o R A) {o' : O} {B : List Addr} (ez : Ex Z Z') (nz : ∀ a, Kept F T A a → Z' a = Z a) (zh : Ex Z' H') (k : ∀ a, Kept F T A a → ∀ u, H a = some u → H' a = some u) (r : RepO K Z' F H' v o' B) (n : B.Nodup) (d : ∀ a ∈ B, (a ∈ A ∨ a ∉ T ∧ F a = none) ∧ Z' a = none) : StR K (R o') Z0 F Z' σ H' := by
  have := f.k (w := .non) (p := .fz .non) ez nz zh k (.cons r (.cons (A := []) (.fz .non) .nil)) (by simpa using n) (fun a m => d a (by simpa using m))
  exact this.pop
/-- one step down -/
theorem FocA.down {X : Type} {T A : List Addr} {v : V} {mk : List O → O} {cell : X → List V → HO} {P : Addr → Prop} {R : O → Slots} {os : List O} {j : Nat} {o : O}
    (hmk : ∀ {Z H : Hp} {v : V} {os : List O} {A : List Addr}, RepO K Z F H v (mk os) A ↔ ∃ a x vs A1, P a ∧ v = .ref a ∧ A = a :: A1 ∧ H a = some (cell x vs) ∧ RepOL K Z F H vs os A1)
    (f : FocA K F Z Z0 σ H T v (mk os) R A) (hj : os[j]? = some o) : ∃ a x vs v', v = .ref a ∧ H a = some (cell x vs) ∧ vs.length = os.length ∧ vs[j]? = some v' ∧ Foc K Z0 F Z σ H T v' o (fun o' => R (mk (os.set j o'))) := by
  obtain ⟨a, x, vs, A1, pa, rfl, rfl, ha, rl⟩ := hmk.mp f.rp
  obtain ⟨na, nA⟩ := List.nodup_cons.mp f.nd
  obtain ⟨v', B, q1, q2, q3, q4, q5⟩ := rl.foc hj nA
  have lenL : ∀ {vs : List V} {os : List O} {A : List Addr}, RepOL K Z F H vs os A → vs.length = os.length := fun r => r.length
  refine ⟨a, x, vs, v', rfl, ha, lenL rl, q1, B, q2, q3, fun b m => f.ds b (List.mem_cons_of_mem _ (q4 b m)), f.th, f.fh, fun {Z' H' w o' p B2} ez nz zh k r n d => ?_⟩
  cases r with
  | @cons _ _ _ _ B3 _ ra r =>
    cases r with
    | @cons _ _ _ _ B4 _ rb r =>
      cases r
      rw [List.append_nil] at n d
      obtain ⟨n1, n2, n3⟩ := List.nodup_append.mp n
      have aB : a ∉ B := fun m => na (q4 a m)
      have kA : ∀ b ∈ A1, b ∉ B → Kept F T B b := fun b m nb => ⟨nb, .inl (f.ds b (List.mem_cons_of_mem _ m)).1⟩
      have kT : ∀ b, Kept F T (a :: A1) b → Kept F T B b := fun b kb => ⟨fun m => kb.1 (List.mem_cons_of_mem _ (q4 b m)), kb.2⟩
      have ka : Kept F T B a := ⟨aB, .inl (f.ds a List.mem_cons_self).1⟩
      have apart : ∀ b ∈ B3 ++ B4, b ∈ a :: A1 → b ∈ B := fun b m mb => (d b m).1.elim id fun z => absurd (f.ds b mb).1 z.1
      obtain ⟨A', t1, t2, t3⟩ := q5 ez (fun b m nb u e => k b (kA b m nb) u e) ra n1 fun b m mb => apart b (List.mem_append_left _ m) (List.mem_cons_of_mem _ mb)
      have rm : RepO K Z' F H' (.ref a) (mk (os.set j o')) (a :: A') := hmk.mpr ⟨a, x, vs, A', pa, rfl, rfl, k a ka _ ha, t1⟩
      have aA' : a ∉ A' := fun m => by
        rcases t3 a m with z | z
        · exact na z.1
        · exact aB (apart a (List.mem_append_left _ z) List.mem_cons_self)
      refine f.k ez (fun b kb => nz b (kT b kb)) zh (fun b kb u e => k b (kT b kb) u e) (.cons rm (.cons rb .nil)) ?_ fun b m => ?_
      · rw [List.append_nil]
        refine List.nodup_append.mpr ⟨List.nodup_cons.mpr ⟨aA', t2⟩, n2, fun b hb c hc e => ?_⟩
        subst e
        rcases List.mem_cons.mp hb with z | z
        · subst z
          exact aB (apart b (List.mem_append_right _ hc) List.mem_cons_self)
        · rcases t3 b z with y | y
          · exact y.2 (apart b (List.mem_append_right _ hc) (List.mem_cons_of_mem _ y.1))
          · exact n3 b y b hc rfl
      · rw [List.append_nil] at m
        have new : b ∈ B3 ++ B4 → (b ∈ a :: A1 ∨ b ∉ T ∧ F b = none) ∧ Z' b = none := fun y => ⟨(d b y).1.imp (fun z => List.mem_cons_of_mem _ (q4 b z)) id, (d b y).2⟩
        rcases List.mem_append.mp m with m | m
        · rcases List.mem_cons.mp m with z | z
          · subst z
            exact ⟨.inl List.mem_cons_self, (nz b ka).trans (f.ds b List.mem_cons_self).2.1⟩
          · rcases t3 b z with y | y
            · exact ⟨.inl (List.mem_cons_of_mem _ y.1), (nz b (kA b y.1 y.2)).trans (f.ds b (List.mem_cons_of_mem _ y.1)).2.1⟩
            · exact new (List.mem_append_left _ y)
        · exact new (List.mem_append_right _ m)
theorem hm_lst : ∀ {Z H : Hp} {v : V} {os : List O} {A : List Addr}, RepO K Z F H v (.lst os) A ↔ ∃ a, ∃ _ : Unit, ∃ vs A1, True ∧ v = .ref a ∧ A = a :: A1 ∧ H a = some (.lst vs) ∧ RepOL K Z F H vs os A1 := by
  intro Z H v os A
  constructor
  · intro r
    cases r with
    | lst h r => exact ⟨_, (), _, _, trivial, rfl, rfl, h, r⟩
  · rintro ⟨a, _, vs, A1, _, rfl, rfl, h, r⟩
    exact .lst h r
theorem hm_ins {C : Addr} {ns : List Str} : ∀ {Z H : Hp} {v : V} {os : List O} {A : List Addr}, RepO K Z F H v (.ins C ns os) A ↔ ∃ a, ∃ dx : Addr, ∃ vs A1, True ∧ v = .ref a ∧ A = a :: A1 ∧ H a = some (.ins C dx (ns.zip vs)) ∧ RepOL K Z F H vs os A1 := by
  intro Z H v os A
  constructor
  · intro r
    cases r with
    | ins h r => exact ⟨_, _, _, _, trivial, rfl, rfl, h, r⟩
  · rintro ⟨a, _, vs, A1, _, rfl, rfl, h, r⟩
    exact .ins h r
end
end M
namespace M
open PySem L2 PySem.Spec PyProof.Rows
section
variable {X : Cx} {ρ ρ' : Slots} {R : O → Slots} {e a b c elt : Expr} {es rest : List Expr} {st : Stmt} {sts : List Stmt} {G : Go} {o o1 o2 : O} {d : D} {ds : List D} {os : List O} {pos p0 p1 p2 p3 p4 p5 p6 : Pos} {i j : Nat} {x nm f : Str} {m n k : Int} {p q : Str} {C : Addr} {ns : List Str}
theorem Foc.unloc {K : PySem.W.Frag} {Z0 F Z H : Hp} {σ : L2.St} {T : List Addr} {v : V} {l : Addr} (f : Foc K Z0 F Z σ H T v (.loc l o) R) : v = .ref l ∧ Foc K Z0 F Z σ H T v o (fun o' => R (.loc l o')) := by
  obtain ⟨A, f⟩ := f
  have ev : v = .ref l := by
    cases f.rp with
    | loc r => rfl
  subst ev
  refine ⟨rfl, A, ?_, f.nd, f.ds, f.th, f.fh, fun ez nz zh k r n d => f.k ez nz zh k ?_ n d⟩
  · cases f.rp with
    | loc r => exact r
  · cases r with
    | cons r1 r2 => exact .cons (.loc r1) r2
theorem MV.unloc {l : Addr} (h : MV X ρ e (.loc l o)) : MV X ρ e o := .mk fun Z0 F Z σ H s Q q => h.run Z0 F Z σ H s Q fun v Z' H' A g r => by
  cases r with
  | loc r => exact q _ Z' H' A g r
/-- a cell is changed in place -/
theorem FocA.mut {K : PySem.W.Frag} {Z0 F Z H : Hp} {σ : L2.St} {T A : List Addr} {v : V} (f : FocA K F Z Z0 σ H T v o R A) (zh : Ex Z H) {a : Addr} (ha : a ∈ A) {c : HO} {o' : O} {B : List Addr} (r : RepO K Z F (upd H a c) v o' B) (n : B.Nodup) (d : ∀ b ∈ B, b ∈ A ∨ (b ∉ T ∧ Z b = none ∧ F b = none)) : StR K (R o') Z0 F Z σ (upd H a c) := by
  refine f.chg (Ex.refl _) (fun _ _ => rfl) (zh.mut (f.ds a ha).2.1) (fun b kb u e => ?_) r n fun b m => ?_
  · rw [upd_ne fun q => kb.1 (by rw [q]; exact ha)]
    exact e
  · rcases d b m with z | z
    · exact ⟨.inl z, (f.ds b z).2.1⟩
    · exact ⟨.inr ⟨z.1, z.2.2⟩, z.2.1⟩
end
end M
namespace M
open PySem L2 PySem.Spec PyProof.Rows
section
variable {X : Cx} {ρ ρ' : Slots} {R : O → Slots} {e a b c elt : Expr} {es rest : List Expr} {st : Stmt} {sts : List Stmt} {G : Go} {o o1 o2 : O} {d : D} {ds : List D} {os : List O} {pos p0 p1 p2 p3 p4 p5 p6 : Pos} {i j : Nat} {x nm f : Str} {m n k : Int} {C : Addr} {ns : List Str}
end
end M
namespace M
open PySem L2 PySem.Spec PyProof.Rows
section
variable {X : Cx} {ρ ρ' : Slots} {R : O → Slots} {e a b c elt : Expr} {es rest : List Expr} {st : Stmt} {sts : List Stmt} {G : Go} {o o1 o2 : O} {d : D} {ds ds1 ds2 : List D} {os : List O} {pos p0 p1 p2 p3 p4 p5 p6 : Pos} {i j : Nat} {nm : Str} {C : Addr} {ns : List Str}
end
end M
namespace M
open PySem L2 PySem.Spec PyProof.Rows
section
variable {V W R : Type}
def wlN (c : V → Option Bool) (b : V → Option (Ou V V R)) : Nat → V → Option (Ou V V R)
  | 0, _ => none
  | n + 1, v => bd (c v) fun k => cond k (bd (b v) fun o => match o with
    | .nx v' => wlN c b n v'
    | .ct v' => wlN c b n v'
    | .bk v' => some (.nx v')
    | .rt r => some (.rt r)) (some (.nx v))
open Classical in
noncomputable def wl (c : V → Option Bool) (b : V → Option (Ou V V R)) (v : V) : Option (Ou V V R) := if h : ∃ n o, wlN c b n v = some o then some h.choose_spec.choose else none
variable {X : Cx} {ρ ρ' : Slots} {e a c elt : Expr} {st : Stmt} {sts : List Stmt} {G : Go} {pos p0 : Pos}
end
end M
namespace M
open PySem L2 PySem.Spec PyProof.Rows
section
variable {X : Cx} {ρ ρ' : Slots} {R' : O → Slots} {e a b c elt : Expr} {es : List Expr} {st : Stmt} {sts : List Stmt} {G : Go} {o o1 o2 : O} {d : D} {ds : List D} {os : List O} {pos p0 p1 p2 p3 p4 : Pos} {i n : Nat} {x nm : Str} {α β V W R : Type}
theorem Le.get : ∀ {ρ τ : Slots} {n : Nat} {o : O}, Le ρ τ → τ[n]? = some (some o) → ρ[n]? = some (some o)
  | _, _, _, _, .nil, h => h
  | _, _, 0, _, .no _, h => by simp at h
  | _, _, 0, _, .eq _, h => h
  | _, _, n + 1, _, .no l, h => by
    simp only [List.getElem?_cons_succ] at h ⊢
    exact Le.get l h
  | _, _, n + 1, _, .eq l, h => by
    simp only [List.getElem?_cons_succ] at h ⊢
    exact Le.get l h
end
end M
namespace M
open PySem L2 PySem.Spec PyProof.Rows
/-- a def by its body, what is raised without a context -/
theorem okXN {P : Program} {w : World} {K : PySem.W.Frag} {mg : Str → Option Value} {base : Heap} {x qual : Str} {st : Stmt} {f : Addr} {fd : FuncData} {N ps : List Str} {k : Nat} {sp : Sp} (F : Fun K x qual st f fd) (S : FnScope N ps (defScope st)) (len : ∀ vs H Q E, sp vs H Q E → vs.length = ps.length)
    (hbody : ∀ (cdv : Value) (A : Around) (outer : List Env) (s : Shared) (H : Hp) (vs : List V) (Q : VK) (E : XK), Room k (A.deeper (envOfC qual (defScope st) s.heap.objs.size f cdv)) → sp vs H Q E →
      ∃ t, PSs (cxOf (L2N.CX P w) P w K mg base N qual (defScope st) f cdv A outer s H E) (defBody st) t ∧ t { nx := fun _ H' => Q .non H', rt := Q } (start N vs) H) : FnOk P w K mg base (L2N.CX P w) (k + 1) f fd ps sp := by
  obtain ⟨oc, od, kV, doc, pm, an, cdv, ct, osl, rfl, lk, hcd⟩ := F.ex
  exact fn_of lk hcd S len fun A outer s H vs Q E hr hsp => hbody cdv A outer s H vs Q E hr hsp
/-- what a def tells: a result or an error -/
inductive Xr (E R : Type) where
  | ok (r : R) | er (e : E)
def exO {E R : Type} (te : E → Er) (er : R → O) : Xr E R → O
  | .ok r => er r
  | .er e => .rs (te e)
def ThrE (K : PySem.W.Frag) (E : XK) (e : Er) (Z H : Hp) : Prop := Thrown K (fun c d _ H => E c d H) e Z [] H
theorem thrown_of {K : PySem.W.Frag} {E : XK} {e : Er} {Z H : Hp} {σ : L2.St} (h : ThrE K E e Z H) : Thrown K (fun c d _ H => E c d H) e Z σ H := by
  unfold ThrE Thrown at h
  unfold Thrown
  cases hf : e.fld with
  | none => rw [hf] at h; exact h
  | some p => rw [hf] at h; exact h
def EW (W : WX) : XK := fun c d H => ∀ σ, W c d σ H
theorem thrE_of {K : PySem.W.Frag} {W : WX} {e : Er} {Z H : Hp} (h : ∀ σ, Thrown K W e Z σ H) : ThrE K (EW W) e Z H := by
  unfold Thrown at h
  unfold ThrE Thrown
  cases hf : e.fld with
  | none => intro σ; have := h σ; rw [hf] at this; exact this
  | some p => intro a v na r σ; have := h σ; rw [hf] at this; exact this a v na r
theorem stL_blank {K : PySem.W.Frag} {Z F H : Hp} : ∀ σ : L2.St, StL K Z F H (List.replicate σ.length none) σ []
  | [] => .nil
  | _ :: σ => .no (stL_blank σ)
theorem StR.blank {K : PySem.W.Frag} {Z0 F Z' H' : Hp} (g : Gr Z0 F Z' H') (σ : L2.St) : StR K (List.replicate σ.length none) Z0 F Z' σ H' := ⟨g, [], stL_blank σ, List.nodup_nil, fun _ m => nomatch m⟩
theorem pass_ew {X : Cx} {W : WX} (tk : L2N.Takes X W) : Passes (L2N.CX X.prog X.w) X (EW W) := L2N.passes_call tk fun _ _ σ _ h => h σ
/-- a def that is known to refuse nothing -/
theorem _root_.L2.FnOk.known {P : Program} {w : World} {K : PySem.W.Frag} {mg : Str → Option Value} {base : Heap} {k : Nat} {f : Addr} {fd : FuncData} {ps : List Str} {sp sp' : Sp} (F : FnOk P w K mg base (L2N.CX P w) k f fd ps sp)
    (h : ∀ vs H Q E, sp' vs H Q E → sp vs H Q (fun _ _ _ => False)) : FnOk P w K mg base CX0 k f fd ps sp' :=
  ⟨fun vs H Q E q => F.len vs H Q _ (h _ _ _ _ q), fun A outer s H args us vs Q E hr he hb hv hs => codeAny_mono (F.run A outer s H args us vs Q _ hr he hb hv (h _ _ _ _ hs)) fun r s' q => by
    cases r with
    | ok r => cases r <;> exact q
    | error e =>
      obtain ⟨_, _, _, _, _, _, _, _, _, _, _, _, z⟩ := q
      exact z.elim⟩
def SpE {α : Type} (K : PySem.W.Frag) (ar : α → List O) (pre : α → Prop) (res : α → O) : Sp := fun vs H Q E => ∃ (x : α) (Z : Hp), Ex Z H ∧ RepOL K Z H H vs (ar x) [] ∧ pre x ∧
  (∀ v Z' H' A, Gr Z H Z' H' → RepO K Z' (fun _ => none) H' v (res x) A → New H Z' A → Q v H') ∧ ∀ e Z' H', res x = .rs e → Gr Z H Z' H' → ThrE K E e Z' H'
/-- its body keeps its promise -/
theorem fn_mE {α : Type} {P : Program} {w : World} {K : PySem.W.Frag} {mg : Str → Option Value} {base : Heap} {x qual : Str} {st : Stmt} {f : Addr} {fd : FuncData} {N ps : List Str} {k : Nat} {ar : α → List O} {pre : α → Prop} {res : α → O}
    (F : Fun K x qual st f fd) (S : FnScope N ps (defScope st)) (hl : ∀ x, (ar x).length = ps.length) (hn : ∀ x, pre x → (res x).nv = true ∨ ∃ e, res x = .rs e)
    (hb : ∀ (cdv : Value) (A : Around) (outer : List Env) (s : Shared) (H : Hp) (E : XK), Room k (A.deeper (envOfC qual (defScope st) s.heap.objs.size f cdv)) →
      PassesOwn (model P w) (A.deeper (envOfC qual (defScope st) s.heap.objs.size f cdv)) (cxOf (L2N.CX P w) P w K mg base N qual (defScope st) f cdv A outer s H E).env (cxOf (L2N.CX P w) P w K mg base N qual (defScope st) f cdv A outer s H E).xe → ∀ x, pre x →
      MS (cxOf (L2N.CX P w) P w K mg base N qual (defScope st) f cdv A outer s H E) ((ar x).map some ++ List.replicate (N.length - ps.length) none) (defBody st) { nx := fun _ => res x = .fz .non, rt := fun o => o = res x }) :
    FnOk P w K mg base (L2N.CX P w) (k + 1) f fd ps (SpE K ar pre res) := by
  refine okXN F S (fun vs H Q E h => ?_) (fun cdv A outer s H vs Q E hr h => ?_)
  · obtain ⟨x, Z, _, r, _⟩ := h
    rw [r.length, hl]
  · obtain ⟨x, Z, ez, r, hp, q, qx⟩ := h
    refine ⟨_, pss_w, (hb cdv A outer s H E hr (passes_of rfl) x hp).run Z H Z _ H _ ⟨Gr.refl ez, [], ?_, List.nodup_nil, fun _ m => nomatch m⟩ ⟨fun ρ Z' σ H' e s' => ?_, fun _ _ _ _ z => z.elim, fun _ _ _ _ z => z.elim, fun o v Z' H' A e g r n => ?_, fun _ _ _ _ _ _ z => z.elim, ⟨_, L2N.takes_of rfl rfl rfl rfl, fun e ρ Z' σ H' k s' => thrown_of (qx e Z' H' k.symm s'.gr)⟩⟩⟩
    · have e : L2.start N vs = vs.map some ++ List.replicate (N.length - ps.length) none := by
        unfold L2.start
        rw [r.length, hl]
      rw [e]
      exact stL_more _ (stL_args r)
    · refine q _ Z' H' [] s'.gr ?_ .nil
      rw [e]
      exact .fz .non
    · subst e
      rcases hn x hp with hn | ⟨e, hn⟩
      · exact q _ Z' H' A g (r.unF hn) n
      · rw [hn] at r
        cases r
structure Fn1E (P : Program) (w : World) (K : PySem.W.Frag) (mg : Str → Option Value) (base : Heap) (name : Str) (k : Nat) (ps : List Str) (sp : Sp) : Prop where
  ex : ∃ (f : Addr) (fd : FuncData), mg name = some (.ref f) ∧ PySem.W.keepIn K (.ref f) = true ∧ Binds K fd ps [] ∧ FnOk P w K mg base (L2N.CX P w) k f fd ps sp
theorem Fn1E.ok {P : Program} {w : World} {K : PySem.W.Frag} {mg : Str → Option Value} {base : Heap} {name : Str} {k : Nat} {ps : List Str} {α : Type} {ar : α → List O} {pre : α → Prop} {res : α → O} (c : Fn1E P w K mg base name k ps (SpE K ar pre res)) : Fn1 P w K mg base name k ps (SpM K ar (fun x => pre x ∧ ∀ e, res x ≠ .rs e) res) := by
  obtain ⟨f, fd, hm, hk, hb, F⟩ := c.ex
  exact ⟨f, fd, hm, hk, hb, F.known fun vs H Q E ⟨x, Z, ez, r, ⟨hp, hn⟩, q⟩ => ⟨x, Z, ez, r, hp, q, fun e _ _ z => absurd z (hn e)⟩⟩
/-- an expression that raises -/
structure MRz (X : Cx) (ρ : Slots) (e : Expr) (er : Er) : Prop where
  run : ∀ (Z0 F Z : Hp) (σ : L2.St) (H : Hp), StR X.K ρ Z0 F Z σ H → ∀ (W : WX), L2N.Takes X W → (∀ σ' Z' H', Gr Z0 F Z' H' → Thrown X.K W er Z' σ' H') → ∀ Q : VK, wE X e σ H Q
section
variable {X : Cx} {ρ : Slots} {e a b elt : Expr} {es : List Expr} {st : Stmt} {sts : List Stmt} {G : Go} {o o1 o2 : O} {d : D} {ds : List D} {pos p0 p1 p2 p3 : Pos} {i : Nat} {x nm f : Str} {er : Er}
/-- a call that raises -/
theorem mz_fn {α : Type} {ar : α → List O} {pre : α → Prop} {res : α → O} {k : Nat} {ps : List Str} (c : Fn1E X.prog X.w X.K X.mg X.base nm k ps (SpE X.K ar pre res)) (x : α) (ha : MA X ρ (e :: es) (ar x)) (hp : pre x) (hr : Room k X.A) (hres : res x = .rs er := by first | (dsimp only; done) | (dsimp only; rfl) | rfl) (hg : Gl X nm := by rfl)
    (hdb : (nm == ("__debug__" : Str)) = false := by decide) (he : starEach (e :: es) X.env = (false, eval e X.env) :: starEach es X.env := by rfl) (hpl : (backTo pos (starEach es X.env)).any (·.1) = false := by rfl) : MRz X ρ (.Call (.Name nm p0) (e :: es) [] pos) er := by
  obtain ⟨f, fd, hm, hk, hb, F⟩ := c.ex
  exact .mk fun Z0 F0 Z σ H s W tk qx Q => PE_w (pe_call F hr hg hm hk hb .nil (pass_ew tk) pa_w hdb he hpl) (ha.run Z0 F0 Z σ H s _ fun vs Z1 H1 g1 r1 =>
    ⟨x, Z1, g1.zh, by rw [List.append_nil]; exact r1, hp, (fun v Z2 H2 A g2 r2 n2 => by
      rw [hres] at r2
      cases r2), (fun e Z2 H2 z g2 => by
      rw [hres] at z
      cases z
      exact thrE_of fun σ' => qx σ' Z2 H2 (s.gr.trans (g1.trans g2)))⟩)
theorem gx_thrown {Z0 F : Hp} {r : O → Prop} (g : GX X Z0 F r) (k : r (.rs er)) : ∃ W : WX, L2N.Takes X W ∧ ∀ σ' Z' H', Gr Z0 F Z' H' → Thrown X.K W er Z' σ' H' := by
  obtain ⟨W, tk, kk⟩ := g
  exact ⟨W, tk, fun σ' Z' H' g => kk er _ Z' σ' H' k (StR.blank g σ')⟩
theorem m_rzAsg {g : TG} (p : PS X st (tAsg (wE X e) g)) (h : MRz X ρ e er) (k : G.rt (.rs er)) : MS1 X ρ st G := .mk fun Z0 F Z σ H D s gd => by
  obtain ⟨W, tk, kk⟩ := gx_thrown gd.ex k
  exact PS_w p (h.run Z0 F Z σ H s W tk kk _)
theorem m_rzDrop (p : PS X st (tDrop (wE X e))) (h : MRz X ρ e er) (k : G.rt (.rs er)) : MS1 X ρ st G := .mk fun Z0 F Z σ H D s gd => by
  obtain ⟨W, tk, kk⟩ := gx_thrown gd.ex k
  exact PS_w p (h.run Z0 F Z σ H s W tk kk _)
theorem m_rzFld (pn : PE X (.Name x p1) (tVar i)) (h : MRz X ρ e er) (k : G.rt (.rs er)) (hs : swapsWith e (some (.Attribute (.Name x p1) f p2)) p3.line X.env = pure false := by rfl) : MS1 X ρ (.Assign [.Attribute (.Name x p1) f p2] e p3) G := .mk fun Z0 F Z σ H D s gd => by
  obtain ⟨W, tk, kk⟩ := gx_thrown gd.ex k
  exact PS_w (ps_fld pn pe_w hs) (h.run Z0 F Z σ H s W tk kk _)
/-- raise C('m') -/
theorem m_raise {C : Addr} (pm : L2N.PMk X e (fun _ H Q => Q (.ref C) none H)) (k : G.rt (.rs ⟨C, none⟩)) (hc : X.calm = true := by rfl) : MS1 X ρ (.Raise (some e) none pos) G := .mk fun Z0 F Z σ H D s gd => by
  obtain ⟨W, tk, kk⟩ := gd.ex
  exact PS_w (L2N.ps_raise hc tk pm) (kk ⟨C, none⟩ ρ Z σ H k s)
end
/-- a class of errors without an __init__ of its own -/
structure XcC (K : PySem.W.Frag) (mg : Str → Option Value) (nm : Str) (C : Addr) : Prop where
  q : PySem.W.excIn K C [.type "ValueError", .type "Exception", .type "BaseException", .type "object"] "ValueError.__new__" = true
  g : mg nm = some (.ref C)
  k : PySem.W.keepIn K (.ref C) = true
  b : PySem.W.subIn K (.ref C) (.type "BaseException") = some true
  t : PySem.W.typeIn K (.ref C) = some (.type "type")
theorem pm_own {X : Cx} {nm m : Str} {C : Addr} {j : Nat} {p p2 pos : Pos} (c : XcC X.K X.mg nm C) (hg : Gl X nm := by rfl) (hdb : (nm == ("__debug__" : Str)) = false := by decide) : L2N.PMk X (.Call (.Name nm p) [.Constant (.str m) j p2] [] pos) (fun _ H Q => Q (.ref C) none H) :=
  L2N.pmk_own PySem.F.excBase_ValueError c.q c.g c.k (raises_own c.b c.t) hg hdb
def SpXE {α : Type} (K : PySem.W.Frag) (ar : α → List O) (pre : α → Prop) (s0 s1 : Addr → α → O) (res : α → O) : Sp := fun vs H Q E => ∃ (x : α) (Z F : Hp) (l : Addr) (vs' : List V) (A : List Addr), vs = .ref l :: vs' ∧ Ex Z F ∧ Ex F H ∧ A.Nodup ∧ (∀ a ∈ A, F a = none) ∧ RepO K Z F H (.ref l) (s0 l x) A ∧ RepOL K Z F F vs' (ar x) [] ∧ pre x ∧
  (∀ v Z' H' B, Gr Z F Z' H' → RepOL K Z' (fun _ => none) H' [.ref l, v] [s1 l x, res x] B → B.Nodup → (∀ a ∈ B, F a = none ∧ Z' a = none) → Q v H') ∧ ∀ e Z' H', res x = .rs e → Gr Z F Z' H' → ThrE K E e Z' H'
theorem fn_mXE {α : Type} {P : Program} {w : World} {K : PySem.W.Frag} {mg : Str → Option Value} {base : Heap} {x qual : Str} {st : Stmt} {f : Addr} {fd : FuncData} {N ps : List Str} {k : Nat} {ar : α → List O} {pre : α → Prop} {s0 s1 : Addr → α → O} {res : α → O}
    (F : Fun K x qual st f fd) (S : FnScope N ps (defScope st)) (hl : ∀ x, (ar x).length + 1 = ps.length) (hn1 : ∀ l x, pre x → (s1 l x).nv = true) (hn2 : ∀ x, pre x → (res x).nv = true ∨ ∃ e, res x = .rs e) (hat : ∀ l x, ∃ C ns os, s1 l x = .at l C ns os)
    (hb : ∀ (cdv : Value) (A : Around) (outer : List Env) (s : Shared) (H : Hp) (E : XK), Room k (A.deeper (envOfC qual (defScope st) s.heap.objs.size f cdv)) →
      PassesOwn (model P w) (A.deeper (envOfC qual (defScope st) s.heap.objs.size f cdv)) (cxOf (L2N.CX P w) P w K mg base N qual (defScope st) f cdv A outer s H E).env (cxOf (L2N.CX P w) P w K mg base N qual (defScope st) f cdv A outer s H E).xe → ∀ (l : Addr) x, pre x →
      MS (cxOf (L2N.CX P w) P w K mg base N qual (defScope st) f cdv A outer s H E) (some (s0 l x) :: (ar x).map some ++ List.replicate (N.length - ps.length) none) (defBody st) { nx := fun ρ => res x = .fz .non ∧ ρ[0]? = some (some (s1 l x)), rs := fun o ρ => o = res x ∧ ρ[0]? = some (some (s1 l x)), rt := fun o => o = res x ∧ ∃ e, o = .rs e }) :
    FnOk P w K mg base (L2N.CX P w) (k + 1) f fd ps (SpXE K ar pre s0 s1 res) := by
  refine okXN F S (fun vs H Q E h => ?_) (fun cdv A outer s H vs Q E hr h => ?_)
  · obtain ⟨x, Z, F, l, vs', A, rfl, _, _, _, _, _, r, _⟩ := h
    rw [List.length_cons, r.length, hl]
  · obtain ⟨x, Z, F0, l, vs', A0, rfl, ez, ef, nA, fA, rs, r, hp, q, qx⟩ := h
    obtain ⟨C, ns, os, hs1⟩ := hat l x
    have st0 : StL K Z F0 H (some (s0 l x) :: (ar x).map some) (some (.ref l) :: vs'.map some) (A0 ++ []) := .so rs (stL_args (r.mono (Ex.refl _) (Ex.refl _) fun _ m => nomatch m))
    refine ⟨_, pss_w, (hb cdv A outer s H E hr (passes_of rfl) l x hp).run Z F0 Z _ H _ ⟨⟨Ex.refl _, ef, ez.trans ef, fun _ _ _ => rfl⟩, A0 ++ [], ?_, by rw [List.append_nil]; exact nA, fun a m => ?_⟩ ⟨fun ρ Z' σ H' e s' => ?_, fun _ _ _ _ z => z.elim, fun _ _ _ _ z => z.elim, fun o v Z' H' A k g r n => ?_, fun o ρ v Z' σ H' e s' => ?_, ⟨_, L2N.takes_of rfl rfl rfl rfl, fun e ρ Z' σ H' k s' => thrown_of (qx e Z' H' k.1.symm s'.gr)⟩⟩⟩
    · have e : L2.start N (.ref l :: vs') = (some (.ref l) :: vs'.map some) ++ List.replicate (N.length - ps.length) none := by
        unfold L2.start
        rw [List.length_cons, r.length, hl]
        rfl
      rw [e]
      exact stL_more _ st0
    · rw [List.append_nil] at m
      exact ⟨ez.free (fA a m), fA a m⟩
    · obtain ⟨en, e⟩ := e
      obtain ⟨A1, t1, t2, t3⟩ := s'.st
      obtain ⟨v, B, u1, u2, u3, u4, _⟩ := t1.at e t2
      have hn := hn1 l x hp
      rw [hs1] at u2 hn
      cases u2 with
      | @«at» _ _ dx _ vs1 _ B1 h0 rl =>
        refine q .non Z' H' ((l :: B1) ++ ([] ++ [])) s'.gr (.cons ?_ (.cons (A := []) ?_ .nil)) (by simpa using u3) fun a m => ?_
        · rw [hs1]
          exact (RepO.at h0 rl).unF hn
        · rw [en]
          exact .fz .non
        · have m : a ∈ l :: B1 := by simpa using m
          exact ⟨(t3 a (u4 a m)).2, (t3 a (u4 a m)).1⟩
    · obtain ⟨_, e, rfl⟩ := k
      cases r
    · obtain ⟨en, e⟩ := e
      subst en
      obtain ⟨A1, t1, t2, t3⟩ := s'.st
      obtain ⟨B, Cc, w1, w2, w3, w4⟩ := t1.last t2
      obtain ⟨n1, n2, n3⟩ := List.nodup_append.mp w3
      obtain ⟨v0, B0, u1, u2, u3, u4, _⟩ := w1.at e n1
      have hn := hn1 l x hp
      rw [hs1] at u2 hn
      cases u2 with
      | @«at» _ _ dx _ vs1 _ B1 h0 rl =>
        rcases hn2 x hp with hn2 | ⟨ee, hn2⟩
        · refine q v Z' H' ((l :: B1) ++ (Cc ++ [])) s'.gr (.cons ?_ (.cons (w2.unF hn2) .nil)) ?_ fun a m => ?_
          · rw [hs1]
            exact (RepO.at h0 rl).unF hn
          · rw [List.append_nil]
            exact List.nodup_append.mpr ⟨u3, n2, fun a ha b hb => n3 a (u4 a ha) b hb⟩
          · rw [List.append_nil] at m
            have m2 : a ∈ B ++ Cc := by
              rcases List.mem_append.mp m with z | z
              · exact List.mem_append_left _ (u4 a z)
              · exact List.mem_append_right _ z
            exact ⟨(t3 a (w4 a m2)).2, (t3 a (w4 a m2)).1⟩
        · rw [hn2] at w2
          cases w2
/-- of a new instance -/
def SpIE {α : Type} (K : PySem.W.Frag) (C : Addr) (ns : List Str) (ar : α → List O) (pre : α → Prop) (res : α → List O) (er : α → Option Er) : Sp := fun vs H Q E => ∃ (x : α) (Z F : Hp) (l dx : Addr) (vs' : List V), vs = .ref l :: vs' ∧ Ex Z F ∧ Ex F H ∧ F l = none ∧ H l = some (.ins C dx []) ∧ RepOL K Z F F vs' (ar x) [] ∧ pre x ∧
  (er x = none → ∀ Z' H' A, Gr Z F Z' H' → RepO K Z' (fun _ => none) H' (.ref l) (.at l C ns (res x)) A → New F Z' A → Q .non H') ∧ ∀ e Z' H', er x = some e → Gr Z F Z' H' → ThrE K E e Z' H'
theorem SpXE.init {α : Type} {P : Program} {w : World} {K : PySem.W.Frag} {mg : Str → Option Value} {base : Heap} {CX : CXT} {k : Nat} {f : Addr} {fd : FuncData} {ps : List Str} {ar : α → List O} {pre : α → Prop} {s0 s1 : Addr → α → O} {res : α → O} {β : Type} {arb : β → List O} {preb : β → Prop} {resb : β → List O} {erb : β → Option Er} {C : Addr} {ns : List Str} (g : β → α)
    (h : FnOk P w K mg base CX k f fd ps (SpXE K ar pre s0 s1 res)) (har : ∀ y, ar (g y) = arb y) (hp : ∀ y, preb y → pre (g y)) (h0 : ∀ l y, s0 l (g y) = .at l C [] []) (h1 : ∀ l y, erb y = none → s1 l (g y) = .at l C ns (resb y)) (h2 : ∀ y, (erb y = none ∧ res (g y) = .fz .non) ∨ ∃ e, erb y = some e ∧ res (g y) = .rs e) :
    FnOk P w K mg base CX k f fd ps (SpIE K C ns arb preb resb erb) := h.imp fun vs H Q E hh => by
  obtain ⟨y, Z, F, l, dx, vs', rfl, ez, ef, nl, hi, r, hpr, q, qx⟩ := hh
  have fl : ∀ a ∈ [l], F a = none := fun a m => by
    have e : a = l := by simpa using m
    rw [e]
    exact nl
  refine ⟨g y, Z, F, l, vs', [l], rfl, ez, ef, by simp, fl, ?_, by rw [har]; exact r, hp y hpr, fun v Z' H' B gg rr nB dB => ?_, fun e Z' H' z gg => ?_⟩
  · rw [h0]
    exact .at (dx := dx) hi .nil
  · rcases h2 y with ⟨en, er⟩ | ⟨e, en, er⟩
    · rw [er, h1 l y en] at rr
      cases rr with
      | @cons _ _ _ _ A1 B1 ra rb =>
        cases rb with
        | @cons _ _ _ _ A2 B2 rb rc =>
          cases rb with
          | fz rb =>
            cases rb
            cases rc
            rw [List.append_nil, List.append_nil] at nB dB
            exact q en Z' H' A1 gg ra ⟨nB, dB⟩
    · rw [er] at rr
      cases rr with
      | cons ra rb =>
        cases rb with
        | cons rb rc => cases rb
  · rcases h2 y with ⟨en, er⟩ | ⟨e', en, er⟩
    · rw [er] at z
      cases z
    · rw [er] at z
      cases z
      exact qx e Z' H' en gg
structure Mk1E (P : Program) (w : World) (K : PySem.W.Frag) (mg : Str → Option Value) (base : Heap) (name : Str) (C : Addr) (k : Nat) (ps : List Str) (sp : Sp) : Prop where
  ex : ∃ (f : Addr) (fd : FuncData), mg name = some (.ref C) ∧ Mk K C f ∧ Binds K fd ps [] ∧ FnOk P w K mg base (L2N.CX P w) k f fd ps sp
structure Cf1E (P : Program) (w : World) (K : PySem.W.Frag) (mg : Str → Option Value) (base : Heap) (nmC m : Str) (k : Nat) (ps : List Str) (sp : Sp) : Prop where
  ex : ∃ (C : Addr) (mc : Value) (f : Addr) (fd : FuncData), mg nmC = some (.ref C) ∧ ClX.CRead K C mc ∧ ClX.CVal K C mc m (.ref f) (.ref f) ∧ PySem.W.keepIn K (.ref f) = true ∧ Binds K fd ps [] ∧ FnOk P w K mg base (L2N.CX P w) k f fd ps sp
section
variable {P : Program} {w : World} {K : PySem.W.Frag} {mg : Str → Option Value} {base : Heap} {name m : Str} {k : Nat} {ps : List Str} {α : Type} {C : Addr} {ns : List Str} {ar : α → List O} {pre : α → Prop}
theorem Mk1E.ok {res : α → List O} {er : α → Option Er} (c : Mk1E P w K mg base name C k ps (SpIE K C ns ar pre res er)) : Mk1 P w K mg base name C k ps (SpI K C ns ar (fun x => pre x ∧ er x = none) res) := by
  obtain ⟨f, fd, hm, hk, hb, F⟩ := c.ex
  exact ⟨f, fd, hm, hk, hb, F.known fun vs H Q E ⟨x, Z, F, l, dx, vs', e, ez, ef, nl, hi, r, ⟨hp, hn⟩, q⟩ => ⟨x, Z, F, l, dx, vs', e, ez, ef, nl, hi, r, hp, fun _ => q, fun e _ _ z => by rw [hn] at z; cases z⟩⟩
theorem Cf1E.ok {s0 s1 : Addr → α → O} {res : α → O} (c : Cf1E P w K mg base name m k ps (SpXE K ar pre s0 s1 res)) : Cf1 P w K mg base name m k ps (SpX K ar (fun x => pre x ∧ ∀ e, res x ≠ .rs e) s0 s1 res) := by
  obtain ⟨C, mc, f, fd, hm, h1, h2, hk, hb, F⟩ := c.ex
  exact ⟨C, mc, f, fd, hm, h1, h2, hk, hb, F.known fun vs H Q E ⟨x, Z, F, l, vs', A, e, ez, ef, nA, fA, rs, r, ⟨hp, hn⟩, q⟩ => ⟨x, Z, F, l, vs', A, e, ez, ef, nA, fA, rs, r, hp, q, fun e _ _ z => absurd z (hn e)⟩⟩
end
section
variable {X : Cx} {ρ : Slots} {e : Expr} {es : List Expr} {pos p0 p1 p2 : Pos} {i : Nat} {xx nm : Str} {C : Addr} {ns all : List Str} {os : List O} {ds : List D} {er : Er}
/-- C(..) that raises -/
theorem mz_make {α : Type} {ar : α → List O} {pre : α → Prop} {res : α → List O} {err : α → Option Er} {k : Nat} {ps : List Str} (c : Mk1E X.prog X.w X.K X.mg X.base nm C k ps (SpIE X.K C ns ar pre res err)) (x : α) (ha : MA X ρ (e :: es) (ar x)) (hp : pre x) (hr : Room (k + 1) X.A) (hres : err x = some er := by first | (dsimp only; done) | (dsimp only; rfl) | rfl) (hg : Gl X nm := by rfl)
    (hdb : (nm == ("__debug__" : Str)) = false := by decide) (he : starEach (e :: es) X.env = (false, eval e X.env) :: starEach es X.env := by rfl) (hpl : (backTo pos (starEach es X.env)).any (·.1) = false := by rfl) : MRz X ρ (.Call (.Name nm p0) (e :: es) [] pos) er := by
  obtain ⟨f, fd, hm, M, hb, F⟩ := c.ex
  exact .mk fun Z0 F0 Z σ H s W tk qx Q => PE_w (pe_make M F hr hg hm hb .nil (pass_ew tk) pa_w hdb he hpl) (ha.run Z0 F0 Z σ H s _ fun vs Z1 H1 g1 r1 l dx nl ndx ne =>
    ⟨x, Z1, H1, l, dx, vs, by rw [List.append_nil], g1.zh, (Ex.new ndx).trans (Ex.new (by rw [upd_ne ne.symm]; exact nl)), nl, upd_same, r1, hp, (fun z => by
      rw [hres] at z
      cases z), (fun e Z2 H2 z g2 => by
      rw [hres] at z
      cases z
      exact thrE_of fun σ' => qx σ' Z2 H2 (s.gr.trans (g1.trans g2)))⟩)
end
def SpFE {A E R : Type} (K : PySem.W.Frag) (ar : A → List O) (f : A → Option (Xr E R)) (te : E → Er) (er : R → O) : Sp := SpE K (fun x : A × Xr E R => ar x.1) (fun x => f x.1 = some x.2) (fun x => exO te er x.2)
def bdx {E R S : Type} : Option (Xr E R) → (R → Option (Xr E S)) → Option (Xr E S)
  | some (.ok r), k => k r
  | some (.er e), _ => some (.er e)
  | none, _ => none
theorem bdx_some {E R S : Type} {m : Option (Xr E R)} {k : R → Option (Xr E S)} {y : Xr E S} (h : bdx m k = some y) : (∃ e, m = some (.er e) ∧ (some (.er e) : Option (Xr E S)) = some y) ∨ ∃ v, m = some (.ok v) ∧ k v = some y := by
  cases m with
  | none => cases h
  | some m =>
    cases m with
    | ok x => exact .inr ⟨x, rfl, h⟩
    | er x => exact .inl ⟨x, rfl, h⟩
def bdo {E R S V W : Type} : Option (Xr E R) → (R → Option (Ou V W (Xr E S))) → Option (Ou V W (Xr E S))
  | some (.ok r), k => k r
  | some (.er e), _ => some (.rt (.er e))
  | none, _ => none
theorem bdo_some {E R S V W : Type} {m : Option (Xr E R)} {k : R → Option (Ou V W (Xr E S))} {y : Ou V W (Xr E S)} (h : bdo m k = some y) : (∃ e, m = some (.er e) ∧ (some (.rt (.er e)) : Option (Ou V W (Xr E S))) = some y) ∨ ∃ v, m = some (.ok v) ∧ k v = some y := by
  cases m with
  | none => cases h
  | some m =>
    cases m with
    | ok x => exact .inr ⟨x, rfl, h⟩
    | er x => exact .inl ⟨x, rfl, h⟩
theorem exO_nv {E R : Type} {te : E → Er} {er : R → O} (h : ∀ r, (er r).nv = true) : ∀ y : Xr E R, (exO te er y).nv = true ∨ ∃ e, exO te er y = .rs e
  | .ok r => .inl (h r)
  | .er e => .inr ⟨_, rfl⟩
def atX {E T : Type} (l C : Addr) (ns : List Str) (os : T → List O) : Xr E T → O
  | .ok t => .at l C ns (os t)
  | .er _ => .at l C [] []
def osX {E T : Type} (os : T → List O) : Xr E T → List O
  | .ok t => os t
  | .er _ => []
def erX {E T : Type} (te : E → Er) : Xr E T → Option Er
  | .ok _ => none
  | .er e => some (te e)
theorem atX_nv {E T : Type} {l C : Addr} {ns : List Str} {os : T → List O} (h : ∀ t, O.nvL (os t) = true) : ∀ y : Xr E T, (atX l C ns os y).nv = true
  | .ok t => h t
  | .er _ => rfl
theorem atX_at {E T : Type} {l C : Addr} {ns : List Str} {os : T → List O} : ∀ y : Xr E T, ∃ C' ns' os', atX l C ns os y = .at l C' ns' os'
  | .ok t => ⟨_, _, _, rfl⟩
  | .er _ => ⟨_, _, _, rfl⟩
theorem atX_ok {E T : Type} {te : E → Er} {l C : Addr} {ns : List Str} {os : T → List O} : ∀ y : Xr E T, erX te y = none → atX l C ns os y = .at l C ns (osX os y)
  | .ok _, _ => rfl
  | .er _, h => nomatch h
theorem erX_ex {E T : Type} {te : E → Er} : ∀ y : Xr E T, (erX te y = none ∧ exO te (fun _ => .fz .non) y = .fz .non) ∨ ∃ e, erX te y = some e ∧ exO te (fun _ => .fz .non) y = .rs e
  | .ok _ => .inl ⟨rfl, rfl⟩
  | .er _ => .inr ⟨_, rfl, rfl⟩
end M
namespace M
open PySem L2 PySem.Spec PyProof.Rows
def tryR {V E R S : Type} : Ou V Unit (Xr E R) → (V → Option S) → (R → Option S) → (E → Option S) → Option S
  | .nx v, k, _, _ => k v
  | .rt (.ok r), _, kr, _ => kr r
  | .rt (.er e), _, _, kx => kx e
  | _, _, _, _ => none
theorem le_none : ∀ ρ : Slots, Le ρ (List.replicate ρ.length none)
  | [] => .nil
  | _ :: ρ => .no (le_none ρ)
theorem le_blank {x : Option O} : ∀ (ρ : Slots) (i : Nat), Le (ρ.set i x) ((List.replicate ρ.length none).set i x)
  | [], _ => .nil
  | _ :: ρ, 0 => .eq (le_none ρ)
  | _ :: ρ, i + 1 => .no (le_blank ρ i)
section
variable {X : Cx} {ρ : Slots} {G : Go}
theorem m_tryO {E R V : Type} {xc n : Str} {C : Addr} {i : Nat} {body suite : List Stmt} {b0 : Stmt} {np pos pos' : Pos} {out : Ou V Unit (Xr E R)} (Rn : V → Slots) (te : E → Er) (er : R → O)
    (hN : X.N.Nodup) (hi : X.N[i]? = some n) (hln : X.env.kindOf n = some .local) (hc : Names X xc (.ref C)) (hne : ∀ r e, er r ≠ .rs e) (hnf : ∀ e, (te e).fld = none)
    (hb : ∀ (pn : List (Addr × Obj)) (xe : Value → Shared → Prop), PassesOwn (model X.prog X.w) X.A X.env xe → MS (X.tr pn xe) ρ body (goO Rn (fun _ : Unit => []) (exO te er) out))
    (kb : ∀ w, out ≠ .bk w) (kc : ∀ w, out ≠ .ct w) (kr : ∀ r, out = .rt (.ok r) → G.rt (er r))
    (hm : ∀ e, out = .rt (.er e) → PySem.W.exmOne X.K (.ref (te e).C) (.ref C) = some true)
    (hs : ∀ e, out = .rt (.er e) → ∀ (a : Addr) (oe : Obj) (pn : List (Addr × Obj)), L2N.Zn (.ref (te e).C) none oe → (∃ vs, oe.data = .fields vs) → MS (X.suite a ((a, oe) :: pn)) ((List.replicate X.N.length none).set i (some (.pt a))) (b0 :: suite) { rt := fun o => G.rt o ∧ ∀ e, o ≠ .rs e })
    (kn : ∀ v τ, out = .nx v → Le τ (Rn v) → G.nx τ)
    (e1 : X.stack = X.env :: X.outer := by rfl) (e2 : X.env.frame = some X.env.locals := by rfl) : MS1 X ρ (.Try body [.ExceptHandler (some (.Name xc np)) (some n) (b0 :: suite) pos'] [] [] pos) G := .mk fun Z0 F Z σ H D s g => by
  obtain ⟨Wout, tk, kk⟩ := g.ex
  refine PS_w (L2N.ps_try_as (i := i) (tb := fun W => fun D σ H => ∀ pn xe, L2N.Takes (X.tr pn xe) W → PassesOwn (model X.prog X.w) X.A X.env xe → wS (X.tr pn xe) body D σ H)
    (ts := fun a cls d => fun D σ H => ∀ (oe : Obj) (pn : List (Addr × Obj)), L2N.Zn cls d oe → (∃ vs, oe.data = .fields vs) → wS (X.suite a ((a, oe) :: pn)) (b0 :: suite) D σ H) e1 e2 hN hi hln hc tk
    (fun W pn xe t po => ⟨fun pins s σ H D I h => h pn xe t po pins s I⟩) (fun a oe cls d pn hz hf => ⟨fun pins s σ H D I h => h oe pn hz hf pins s I⟩)) ?_
  intro pn xe t po
  refine (hb pn xe po).run Z0 F Z σ H D s ⟨fun τ Z σ H ⟨v, e, l⟩ s' => g.nx τ Z σ H (kn v τ e l) s', fun _ _ _ _ ⟨w, e, _⟩ => absurd e (kb w), fun _ _ _ _ ⟨w, e, _⟩ => absurd e (kc w), fun o v Z' H' A k g' r n => ?_, fun _ _ _ _ _ _ z => z.elim, ⟨_, t, fun e ρ' Z' σ' H' k s' => ?_⟩⟩
  · obtain ⟨x, e, rfl⟩ := k
    cases x with
    | ok x => exact g.rt _ v Z' H' A (kr x e) g' r n
    | er x => cases r
  · obtain ⟨x, eo, ex⟩ := k
    cases x with
    | ok x => exact absurd ex.symm (hne x e)
    | er x =>
      cases ex
      unfold Thrown
      rw [hnf x]
      refine ⟨true, hm x eo, fun _ a na oe pn' hz hf => ?_, fun z => nomatch z⟩
      intro pins s2 I2
      have ln : σ'.length = X.N.length := by
        have := I2.len
        rw [List.length_set] at this
        exact this
      have lr : ρ'.length = X.N.length := by rw [← s'.len, ln]
      have hl : i < ρ'.length := by
        rw [lr]
        exact (List.getElem?_eq_some_iff.mp hi).1
      have s3 := s'.put (v := .ref a) (Gr.refl s'.ex) (RepO.pt (a := a)) .nil hl
      have le := le_blank (x := some (O.pt a)) ρ' i
      rw [lr] at le
      exact (hs x eo a oe pn' hz hf).run Z0 F Z' _ H' { nx := fun σ' H' => D.nx (σ'.set i none) H', rt := D.rt, bk := fun σ' H' => D.bk (σ'.set i none) H', ct := fun σ' H' => D.ct (σ'.set i none) H' } (s3.le le) ⟨fun _ _ _ _ z => z.elim, fun _ _ _ _ z => z.elim, fun _ _ _ _ z => z.elim, fun o v Z H A k g' r n => g.rt o v Z H A k.1 g' r n, fun _ _ _ _ _ _ z => z.elim, GX.never fun e z => z.2 e rfl⟩ pins s2 I2
end
section
variable {X : Cx} {ρ : Slots} {a C E : Addr} {oe : Obj} {pn : List (Addr × Obj)} {i : Nat} {n nm : Str} {p0 p1 p2 pos : Pos} {b : Bool} {T : String}
theorem me_isiE (c : ExcC X.K C) (hz : L2N.Zn (.ref C) none oe) (hf : ∃ vs, oe.data = .fields vs) (hg : Gl X "isinstance") (hm : X.mg "isinstance" = none) (hE : X.mg nm = some (.ref E)) (p : PE (X.suite a ((a, oe) :: pn)) (.Name n p2) (tVar i)) (hi : ρ[i]? = some (some (.pt a))) (hk : PySem.W.kitOne X.K (.ref C) (.ref E) = some b) (hgE : Gl X nm := by rfl) (hd : (nm == ("__debug__" : Str)) = false := by decide) :
    ME (X.suite a ((a, oe) :: pn)) ρ (.Call (.Name "isinstance" p0) [.Name n p2, .Name nm p1] [] pos) (.fz (.bl b)) := .mk fun Z0 F Z σ H s Q q =>
  PE_w (pe_callB (call_isE c hz.zc hf) hg hm (by decide +kernel) (pa_cons pe_w (pa_cons (pe_glob (v := .ref E) hgE hE rfl hd) pa_nil) rfl) (he := rfl)) ((mv_var p hi).run Z0 F Z σ H s _ fun v Z1 H1 A1 g1 r1 => by
    cases r1
    exact ⟨.ref E, .ref E, b, rfl, fun u r => r, hk, q _ Z1 H1 [] g1 (.fz (.bl b)) .nil⟩)
theorem me_isiEB (c : ExcC X.K C) (hz : L2N.Zn (.ref C) none oe) (hf : ∃ vs, oe.data = .fields vs) (hg : Gl X "isinstance") (hm : X.mg "isinstance" = none) (hT : PE (X.suite a ((a, oe) :: pn)) (.Name nm p1) (tC (.ty T))) (p : PE (X.suite a ((a, oe) :: pn)) (.Name n p2) (tVar i)) (hi : ρ[i]? = some (some (.pt a))) (hk : PySem.W.kitOne X.K (.ref C) (.type T) = some b) :
    ME (X.suite a ((a, oe) :: pn)) ρ (.Call (.Name "isinstance" p0) [.Name n p2, .Name nm p1] [] pos) (.fz (.bl b)) := .mk fun Z0 F Z σ H s Q q =>
  PE_w (pe_callB (call_isE c hz.zc hf) hg hm (by decide +kernel) (pa_cons pe_w (pa_cons hT pa_nil) rfl) (he := rfl)) ((mv_var p hi).run Z0 F Z σ H s _ fun v Z1 H1 A1 g1 r1 => by
    cases r1
    exact ⟨.ty T, .type T, b, rfl, fun u r => r, hk, q _ Z1 H1 [] g1 (.fz (.bl b)) .nil⟩)
end
end M
namespace M
open PySem L2 PySem.Spec PyProof.Rows
section
open PySem.SeqAt
open PySem.AutoSeq1 (wpAny_loadPart')
open PySem.MeetsSeq PySem.MeetsSeq2 PySem.MeetsSeq3
end
section
variable {X : Cx} {pins : List (Addr × Obj)} {σ : L2.St} {H Z : Hp} {s : Shared}
end
section
variable {X : Cx} {ρ : Slots} {a b : Expr} {d : D} {xs : List Str} {pos p1 p2 p3 : Pos} {x : Str}
/-- {}, frozen -/
theorem me_dict0 : ME X ρ (.Dict [] [] pos) (.fz (.dct [] [])) := .mk fun Z0 F Z σ H s Q q => PE_w pe_dnewK fun p hp => by
  refine q (.ref p) _ _ [] (Gr.newz (o := .dK []) s.ex hp) (.fz (.dct (ks := []) (vs := []) upd_same .nil)) .nil
end
theorem kit_false {K : PySem.W.Frag} {C E : Addr} (h0 : PySem.W.mroIn K C (.ref C) = some true) (h1 : PySem.W.isClsIn K E = true) (h2 : PySem.W.typeIn K (.ref E) = some (.type "type")) (h3 : PySem.W.mroIn K C (.ref E) = some false) : PySem.W.kitOne K (.ref C) (.ref E) = some false := by
  unfold PySem.W.kitOne
  split
  · rename_i h
    have h := eq_of_beq h
    cases h
    rw [h0] at h3
    cases h3
  · have e : PySem.W.kitCls K (.ref C) (.ref E) = if ((PySem.W.clsIn K E).isSome && PySem.W.typeIn K (.ref E) == some (.type "type")) = true then PySem.W.mroIn K C (.ref E) else none := rfl
    rw [e, if_pos, h3]
    rw [h2]
    show ((PySem.W.clsIn K E).isSome && _) = true
    rw [show (PySem.W.clsIn K E).isSome = true from h1]
    decide
theorem kit_ty {K : PySem.W.Frag} {C : Addr} {T : String} {b : Bool} (h1 : PySem.W.kitMeta T = true) (h3 : PySem.W.mroIn K C (.type T) = some b) : PySem.W.kitOne K (.ref C) (.type T) = some b := by
  unfold PySem.W.kitOne
  split
  · rename_i h
    have h := eq_of_beq h
    cases h
  · have e : PySem.W.kitCls K (.ref C) (.type T) = if PySem.W.kitMeta T = true then PySem.W.mroIn K C (.type T) else none := rfl
    rw [e, if_pos h1, h3]
end M
namespace M
open PySem L2 PySem.Spec PyProof.Rows
def ixD : D → Int → Option D
  | .lst ds, k => L2.atI ds k
  | .tup ds, k => L2.atI ds k
  | _, _ => none
section
variable {X : Cx} {ρ : Slots} {a b : Expr} {d y : D} {ds : List D} {k : Int} {pos p0 p1 : Pos} {x z : Str}
theorem me_ixD (h : ixD d k = some y) (ha : ME X ρ a (.fz d)) (hb : ME X ρ b (.fz (.int k))) (hp : PlainIx b := by exact fun _ _ => rfl) : ME X ρ (.Subscript a b pos) (.fz y) := by
  cases d with
  | lst ds => exact me_ixL (MV.l (ME.v ha) (.fz _)) hb h hp
  | tup ds => exact me_ixT (MV.u (ME.v ha) (.fz _)) hb h hp
  | _ => cases h
end
end M
namespace M
open PySem L2 PySem.Spec PyProof.Rows
section
variable {X : Cx} {ρ : Slots} {a b c : Expr} {o : O} {os : List O} {sts : List Stmt} {G : Go} {k : Bool} {pos : Pos} {x : Str} {i j : Nat} {l : Addr}
end
end M
namespace M
open PySem L2 PySem.Spec PyProof.Rows
section
variable {X : Cx}
variable {ρ : Slots} {a : Expr} {α : Type}
end
section
variable {X : Cx}
variable {ρ : Slots} {a b : Expr} {α : Type} {pos : Pos}
end
end M
namespace M
open PySem L2 PySem.Spec PyProof.Rows
section
variable {X : Cx} {ρ : Slots} {e : Expr} {d d' : D}
theorem MV.as (h : MV X ρ e (.fz d)) (q : d = d') : MV X ρ e (.fz d') := q ▸ h
theorem ME.as (h : ME X ρ e (.fz d)) (q : d = d') : ME X ρ e (.fz d') := q ▸ h
end
section
variable {X : Cx} {ρ : Slots} {e f : Expr} {pos dpos apos cpos : Pos} {s : Str} {d : Int} {keys : List (Option Expr)} {values : List Expr} {kvs : List (Str × Int)}
end
def asLD : D → Option (List D)
  | .lst ds => some ds
  | _ => none
theorem asLD_is {d : D} {l : List D} (h : asLD d = some l) : O.fz d = .fz (.lst (l.map e_d)) := by
  cases d with
  | lst ds => injection h with h; subst h; exact congrArg (fun z => O.fz (.lst z)) (List.map_id ds).symm
  | non => nomatch h
  | bl _ => nomatch h
  | int _ => nomatch h
  | str _ => nomatch h
  | ty _ => nomatch h
  | opq _ => nomatch h
  | tup _ => nomatch h
  | ins _ _ _ => nomatch h
  | dct _ _ => nomatch h
  | dctT _ _ => nomatch h
end M
namespace M
open PySem L2 PySem.Spec PyProof.Rows
section
variable {X : Cx} {ρ : Slots} {a b : Expr} {o2 : O} {d : D} {ds : List D} {pos : Pos}
variable {α : Type} {enc : α → D} {xs : List α}
end
end M
namespace M
open PySem L2 PySem.Spec PyProof.Rows
section
variable {X : Cx} {ρ : Slots} {G : Go}
end
section
variable {X : Cx} {ρ : Slots} {e : Expr} {pos dpos : Pos} {s v : Str} {keys : List (Option Expr)} {values : List Expr} {kvs : List (Str × Str)}
end
section
variable {X : Cx} {ρ : Slots} {e : Expr} {pos dpos : Pos} {s : Str} {v : Int} {keys : List (Option Expr)} {values : List Expr} {kvs : List (Str × Int)}
end
end M
namespace M
open PySem L2 PySem.Spec PyProof.Rows
section
variable {K : PySem.W.Frag} {Z F H : Hp}
mutual
theorem RepK.rep (e : Ex Z H) (f : Ex F H) : ∀ {v : V} {o : O}, RepK K Z F v o → Rep K H v o.frz
  | _, _, .fz h => h.mono e
  | _, _, .vw h r => .lst (ex_l f h) (r.mono e)
  | _, _, .vwa h r => .lst (ex_l f h) (r.mono e)
  | _, .lk o, .lk h => RepK.rep (o := o) e f h
  | _, _, .lst h r => .lst (SqL.of (f _ _ h)) (RepKL.rep e f r)
  | _, _, .tup h r => .tup (SqT.of (f _ _ h)) (RepKL.rep e f r)
  | _, _, .ins h r => .ins (f _ _ h) (RepKL.rep e f r)
  | _, .loc _ o, .loc h => RepK.rep (o := o) e f h
  | _, _, .pt => .opq _
  | _, _, .at h r => .ins (f _ _ h) (RepKL.rep e f r)
  | _, _, .dct h r => .dct (f _ _ h) (RepKL.rep e f r)
  | _, _, .dctT h r => .dctT (f _ _ h) (RepKL.rep e f r)
theorem RepKL.rep (e : Ex Z H) (f : Ex F H) : ∀ {vs : List V} {os : List O}, RepKL K Z F vs os → RepL K H vs (O.frzL os)
  | _, _, .nil => .nil
  | _, _, .cons h r => .cons (RepK.rep e f h) (RepKL.rep e f r)
end
mutual
theorem RepO.rep (e : Ex Z H) (f : Ex F H) : ∀ {v : V} {o : O} {A : List Addr}, RepO K Z F H v o A → Rep K H v o.frz
  | _, _, _, .fz h => h.mono e
  | _, _, _, .vw h r => .lst (ex_l f h) (r.mono e)
  | _, _, _, .vwa h r => .lst (ex_l f h) (r.mono e)
  | _, .lk o, _, .lk h => RepK.rep (o := o) e f h
  | _, _, _, .lst h r => .lst (SqL.of h) (RepOL.rep e f r)
  | _, _, _, .tup h r => .tup (SqT.of h) (RepOL.rep e f r)
  | _, _, _, .ins h r => .ins h (RepOL.rep e f r)
  | _, .loc _ o, _, .loc h => RepO.rep (o := o) e f h
  | _, _, _, .pt => .opq _
  | _, _, _, .at h r => .ins h (RepOL.rep e f r)
  | _, _, _, .dct h r => .dct h (RepOL.rep e f r)
  | _, _, _, .dctT h r => .dctT h (RepOL.rep e f r)
theorem RepOL.rep (e : Ex Z H) (f : Ex F H) : ∀ {vs : List V} {os : List O} {A : List Addr}, RepOL K Z F H vs os A → RepL K H vs (O.frzL os)
  | _, _, _, .nil => .nil
  | _, _, _, .cons h r => .cons (RepO.rep e f h) (RepOL.rep e f r)
end
end
/-- an expression that tells a thing, which is d now -/
structure MD (X : Cx) (ρ : Slots) (e : Expr) (d : D) : Prop where
  run : ∀ (Z0 F Z : Hp) (σ : L2.St) (H : Hp), StR X.K ρ Z0 F Z σ H → ∀ Q : VK, (∀ v Z' H', Gr Z H Z' H' → Rep X.K H' v d → Q v H') → wE X e σ H Q
section
variable {κ : Type} [DecidableEq κ] {β γ : Type}
/-- tables alike: entry by entry -/
def Tb (P : β → γ → Prop) : List (κ × β) → List (κ × γ) → Prop
  | [], [] => True
  | p :: r, q :: t => p.1 = q.1 ∧ P p.2 q.2 ∧ Tb P r t
  | _, _ => False
end
theorem RepL.tb {K : PySem.W.Frag} {Z : Hp} {κ : Type} [DecidableEq κ] : ∀ {m : List (κ × D)} {vs : List V}, RepL K Z vs (m.map (·.2)) → Tb (fun d v => Rep K Z v d) m ((m.map (·.1)).zip vs)
  | [], _, .nil => trivial
  | p :: r, _, .cons h t => ⟨rfl, h, RepL.tb t⟩
section
variable {X : Cx} {ρ : Slots} {R : O → Slots} {e e1 e2 f o a : Expr} {es : List Expr} {d y : D} {ds vs : List D} {pos p1 p2 p3 apos cpos : Pos} {C : Addr} {ns : List Str} {nm : Str} {oo : O} {G : Go}
theorem MV.now (h : MV X ρ e oo) : MD X ρ e oo.frz := .mk fun Z0 F Z σ H s Q q => h.run Z0 F Z σ H s Q fun v Z' H' A g r => q v Z' H' g (r.rep g.zh (s.gr.hh.trans g.hh))
end
end M
namespace M
open PySem L2 PySem.Spec PyProof.Rows
section
variable {X : Cx} {pins : List (Addr × Obj)} {σ : L2.St} {H : Hp} {s : Shared} {a b : Addr} {r : Value} {d : V} {k : List Key} {A : Around} {E : Value → Shared → Prop}
end
section
variable {κ : Type} [DecidableEq κ] {β : Type}
end
section
variable {X : Cx} {ρ ρ' : Slots} {R R' : O → Slots} {e a f call : Expr} {d y : D} {ds : List D} {pos p1 p2 p3 apos cpos dpos : Pos} {i : Nat} {st : Stmt} {sts : List Stmt} {G : Go} {oo o' : O} {nm : Str}
structure FP (X : Cx) (ρ : Slots) (b : Addr) (o : O) (R : O → Slots) : Prop where
  run : ∀ (Z0 F Z : Hp) (σ : L2.St) (H : Hp) (T : List Addr), StA X.K ρ Z0 F Z σ H T → Foc X.K Z0 F Z σ H T (.ref b) o R
end
end M
namespace M
open PySem L2 PySem.Spec PyProof.Rows
section
variable {X : Cx} {ρ ρ' : Slots} {R R' : O → Slots} {e a b f call : Expr} {es : List Expr} {d y : D} {ds : List D} {pos p0 p1 p2 p3 apos cpos dpos : Pos} {i j : Nat} {st : Stmt} {sts : List Stmt} {G : Go} {oo o o' : O} {nm : Str} {C : Addr} {ns : List Str} {os : List O} {k : Int}
end
class Nv (o : O) : Prop where
  nv : o.nv = true
instance {d : D} : Nv (.fz d) := ⟨rfl⟩
instance {ds : List D} : Nv (.lst (ds.map .fz)) := ⟨O.nvL_fz ds⟩
instance {a : Addr} {o : O} [h : Nv o] : Nv (.loc a o) := ⟨h.nv⟩
instance {a : Addr} : Nv (.pt a) := ⟨rfl⟩
class NvL (os : List O) : Prop where
  nv : O.nvL os = true
instance : NvL [] := ⟨rfl⟩
instance {o : O} {os : List O} [h : Nv o] [t : NvL os] : NvL (o :: os) := ⟨by show (o.nv && O.nvL os) = true; rw [h.nv, t.nv]; rfl⟩
instance (priority := low) {β : Type} {g : β → O} {xs : List β} [h : ∀ x, Nv (g x)] : NvL (xs.map g) := ⟨by
  induction xs with
  | nil => rfl
  | cons x r ih => show ((g x).nv && O.nvL (r.map g)) = true; rw [(h x).nv, ih]; rfl⟩
instance {os : List O} [h : NvL os] : Nv (.lst os) := ⟨h.nv⟩
instance {os : List O} [h : NvL os] : Nv (.tup os) := ⟨h.nv⟩
instance {C : Addr} {ns : List Str} {os : List O} [h : NvL os] : Nv (.ins C ns os) := ⟨h.nv⟩
instance {ks : List Key} {os : List O} [h : NvL os] : Nv (.dct ks os) := ⟨h.nv⟩
instance {ks : List (List Key)} {os : List O} [h : NvL os] : Nv (.dctT ks os) := ⟨h.nv⟩
instance {a C : Addr} {ns : List Str} {os : List O} [h : NvL os] : Nv (.at a C ns os) := ⟨h.nv⟩
theorem Nv.is (o : O) [h : Nv o] : o.nv = true := h.nv
end M
namespace M
open PySem L2 PySem.Spec PyProof.Rows
section
variable {β : Type}
end
section
variable {X : Cx} {ρ ρ' : Slots} {R R' : O → Slots} {e a b f call o : Expr} {es : List Expr} {d y dk : D} {ds : List D} {pos p0 p1 p2 p3 p4 apos cpos dpos : Pos} {i j : Nat} {st : Stmt} {sts : List Stmt} {G : Go} {oo o' : O} {nm : Str} {C : Addr} {ns : List Str} {os : List O} {β : Type} {g : β → O} {enc : β → D} {k : Key} {ks : List Key} {y0 y1 : β}
end
section
variable {K : PySem.W.Frag} {Z0 F Z Z' H H' : Hp} {σ : L2.St} {T A B : List Addr} {v : V} {o o' : O} {R : O → Slots}
theorem FocA.step (f : FocA K F Z Z0 σ H T v o R A) (ez : Ex Z Z') (nz : ∀ a, Kept F T A a → Z' a = Z a) (zh : Ex Z' H') (k : ∀ a, Kept F T A a → ∀ u, H a = some u → H' a = some u) (th : ∀ a ∈ A, ∃ u, H' a = some u) (fh : Ex F H') (r : RepO K Z' F H' v o' B) (n : B.Nodup) (d : ∀ a ∈ B, (a ∈ A ∨ a ∉ T ∧ F a = none) ∧ Z' a = none) : FocA K F Z' Z0 σ H' (T ++ B) v o' R B := by
  have nB : ∀ a, Kept F T A a → a ∉ B := fun a ka m => by
    rcases (d a m).1 with z | z
    · exact ka.1 z
    · rcases ka.2 with y | ⟨u, y⟩
      · exact z.1 y
      · rw [z.2] at y; cases y
  have kB : ∀ a, Kept F T A a → Kept F (T ++ B) B a := fun a ka => ⟨nB a ka, ka.2.imp (List.mem_append_left _) id⟩
  refine ⟨r, n, fun a m => ⟨List.mem_append_right _ m, (d a m).2, ?_⟩, fun a m => ?_, fh, fun {Z2 H2 w o2 p B2} ez2 nz2 zh2 k2 r2 n2 d2 => ?_⟩
  · rcases (d a m).1 with z | z
    · exact (f.ds a z).2.2
    · exact z.2
  · rcases List.mem_append.mp m with m | m
    · by_cases ma : a ∈ A
      · exact th a ma
      · obtain ⟨u, e⟩ := f.th a m
        exact ⟨u, k a ⟨ma, .inl m⟩ u e⟩
    · exact r.there a m
  · refine f.k (ez.trans ez2) (fun a ka => (nz2 a (kB a ka)).trans (nz a ka)) zh2 (fun a ka u e => k2 a (kB a ka) u (k a ka u e)) r2 n2 fun a m => ⟨?_, (d2 a m).2⟩
    rcases (d2 a m).1 with z | z
    · exact (d a z).1
    · exact .inr ⟨fun y => z.1 (List.mem_append_left _ y), z.2⟩
end
section
variable {κ : Type} [DecidableEq κ] {β : Type}
end
end M
namespace M
open PySem L2 PySem.Spec PyProof.Rows
section
variable {κ : Type} [DecidableEq κ] {β γ : Type}
end
structure FQ (X : Cx) (ρ : Slots) (o : O) (R : O → Slots) : Prop where
  run : ∀ (Z0 F Z : Hp) (σ : L2.St) (H : Hp) (T : List Addr), StA X.K ρ Z0 F Z σ H T → ∃ v, Foc X.K Z0 F Z σ H T v o R
section
variable {X : Cx} {ρ ρ' : Slots} {R R' : O → Slots} {e a f : Expr} {d dk : D} {ds : List D} {pos p0 p1 p2 p3 apos cpos dpos : Pos} {i j : Nat} {st : Stmt} {sts : List Stmt} {G : Go} {oo o o' : O} {nm : Str} {C l b : Addr} {ns : List Str} {os : List O} {β : Type} {g : β → O} {k : Key} {ks : List Key} {y0 : β}
theorem FQ.loc (h : FQ X ρ (.loc l o) R) : FQ X ρ o (fun o' => R (.loc l o')) := .mk fun Z0 F Z σ H T s => by
  obtain ⟨v, f⟩ := h.run Z0 F Z σ H T s
  exact ⟨v, f.unloc.2⟩
theorem FQ.fp (h : FQ X ρ (.loc l o) R) : FP X ρ l o (fun o' => R (.loc l o')) := .mk fun Z0 F Z σ H T s => by
  obtain ⟨v, f⟩ := h.run Z0 F Z σ H T s
  have := f.unloc
  rw [← this.1]
  exact this.2
theorem FQ.fld (h : FQ X ρ (.ins C ns os) R) (hd : os[j]? = some o) : FQ X ρ o (fun o' => R (.ins C ns (os.set j o'))) := .mk fun Z0 F Z σ H T s => by
  obtain ⟨v, A, f⟩ := h.run Z0 F Z σ H T s
  obtain ⟨_, _, _, v', _, _, _, _, f'⟩ := f.down hm_ins hd
  exact ⟨v', f'⟩
theorem FQ.it (h : FQ X ρ (.lst os) R) (hd : os[j]? = some o) : FQ X ρ o (fun o' => R (.lst (os.set j o'))) := .mk fun Z0 F Z σ H T s => by
  obtain ⟨v, A, f⟩ := h.run Z0 F Z σ H T s
  obtain ⟨_, _, _, v', _, _, _, _, f'⟩ := f.down hm_lst hd
  exact ⟨v', f'⟩
theorem FocA.same {K : PySem.W.Frag} {Z0 F Z H : Hp} {σ : L2.St} {T A : List Addr} {v : V} (f : FocA K F Z Z0 σ H T v o R A) (zh : Ex Z H) (hw : RepO K Z F H v o' A) : StR K (R o') Z0 F Z σ H :=
  f.chg (Ex.refl _) (fun _ _ => rfl) zh (fun _ _ _ e => e) hw f.nd fun a m => ⟨.inl m, (f.ds a m).2.1⟩
end
end M
namespace L2
open PySem PySem.Spec PyProof.Rows
section
variable {X : Cx} {pins : List (Addr × Obj)} {σ : St} {H : Hp} {s : Shared} {d : Addr} {o : Obj}
end
end L2
namespace M
open PySem L2 PySem.Spec PyProof.Rows
mutual
def O.nt : O → Bool
  | .lst os => O.ntL os
  | .tup _ => false
  | .ins _ _ os => O.ntL os
  | .at _ _ _ os => O.ntL os
  | .loc _ o => o.nt
  | .dct _ os => O.ntL os
  | .dctT _ os => O.ntL os
  | _ => true
def O.ntL : List O → Bool
  | [] => true
  | o :: r => o.nt && O.ntL r
end
section
variable {K : PySem.W.Frag} {Z F H : Hp}
mutual
theorem RepO.nt : ∀ {v : V} {o : O} {A : List Addr}, RepO K Z F H v o A → o.nt = true → ∀ a ∈ A, ∀ xs, H a ≠ some (.tup xs)
  | _, _, _, .fz _, _, _, m => nomatch m
  | _, _, _, .vw _ _, _, _, m => nomatch m
  | _, _, _, .vwa _ _, _, _, m => nomatch m
  | _, _, _, .lk _, _, _, m => nomatch m
  | _, _, _, .pt, _, _, m => nomatch m
  | _, _, _, .tup _ _, n, _, _ => nomatch n
  | _, .loc _ o, _, .loc h, n, a, m => RepO.nt (o := o) h n a m
  | _, _, _, .lst h r, n, a, m => (List.mem_cons.mp m).elim (fun e xs z => by rw [e, h] at z; cases z) fun m => RepOL.nt r n a m
  | _, _, _, .ins h r, n, a, m => (List.mem_cons.mp m).elim (fun e xs z => by rw [e, h] at z; cases z) fun m => RepOL.nt r n a m
  | _, _, _, .at h r, n, a, m => (List.mem_cons.mp m).elim (fun e xs z => by rw [e, h] at z; cases z) fun m => RepOL.nt r n a m
  | _, _, _, .dct h r, n, a, m => (List.mem_cons.mp m).elim (fun e xs z => by rw [e, h] at z; cases z) fun m => RepOL.nt r n a m
  | _, _, _, .dctT h r, n, a, m => (List.mem_cons.mp m).elim (fun e xs z => by rw [e, h] at z; cases z) fun m => RepOL.nt r n a m
theorem RepOL.nt : ∀ {vs : List V} {os : List O} {A : List Addr}, RepOL K Z F H vs os A → O.ntL os = true → ∀ a ∈ A, ∀ xs, H a ≠ some (.tup xs)
  | _, _, _, .nil, _, _, m => nomatch m
  | _, _, _, .cons h r, n, a, m => (List.mem_append.mp m).elim (fun m => RepO.nt h (Bool.and_eq_true_iff.mp n).1 a m) fun m => RepOL.nt r (Bool.and_eq_true_iff.mp n).2 a m
end
theorem StL.nt : ∀ {ρ : Slots} {σ : L2.St} {A : List Addr}, StL K Z F H ρ σ A → (∀ o, some o ∈ ρ → o.nt = true) → ∀ a ∈ A, ∀ xs, H a ≠ some (.tup xs)
  | _, _, _, .nil, _, _, m => nomatch m
  | _, _, _, .no h, n, a, m => h.nt (fun o z => n o (List.mem_cons_of_mem _ z)) a m
  | _, _, _, .so r h, n, a, m => (List.mem_append.mp m).elim (fun m => r.nt (n _ List.mem_cons_self) a m) fun m => h.nt (fun o z => n o (List.mem_cons_of_mem _ z)) a m
end
class Nt (o : O) : Prop where
  nt : o.nt = true
class NtL (os : List O) : Prop where
  nt : O.ntL os = true
instance {d : D} : Nt (.fz d) := ⟨rfl⟩
instance {o : O} : Nt (.lk o) := ⟨rfl⟩
instance {ds : List D} : Nt (.vw ds) := ⟨rfl⟩
instance {a : Addr} {ds : List D} : Nt (.vwa a ds) := ⟨rfl⟩
instance {a : Addr} : Nt (.pt a) := ⟨rfl⟩
instance {a : Addr} {o : O} [h : Nt o] : Nt (.loc a o) := ⟨h.nt⟩
instance : NtL [] := ⟨rfl⟩
instance {o : O} {os : List O} [h : Nt o] [t : NtL os] : NtL (o :: os) := ⟨by show (o.nt && O.ntL os) = true; rw [h.nt, t.nt]; rfl⟩
instance (priority := low) {β : Type} {g : β → O} {xs : List β} [h : ∀ x, Nt (g x)] : NtL (xs.map g) := ⟨by
  induction xs with
  | nil => rfl
  | cons x r ih => show ((g x).nt && O.ntL (r.map g)) = true; rw [(h x).nt, ih]; rfl⟩
instance {os : List O} [h : NtL os] : Nt (.lst os) := ⟨h.nt⟩
instance {C : Addr} {ns : List Str} {os : List O} [h : NtL os] : Nt (.ins C ns os) := ⟨h.nt⟩
instance {a C : Addr} {ns : List Str} {os : List O} [h : NtL os] : Nt (.at a C ns os) := ⟨h.nt⟩
instance {ks : List Key} {os : List O} [h : NtL os] : Nt (.dct ks os) := ⟨h.nt⟩
instance {ks : List (List Key)} {os : List O} [h : NtL os] : Nt (.dctT ks os) := ⟨h.nt⟩
class NtS (ρ : Slots) : Prop where
  nt : ∀ o, some o ∈ ρ → o.nt = true
instance : NtS [] := ⟨fun _ m => nomatch m⟩
instance {ρ : Slots} [t : NtS ρ] : NtS (none :: ρ) := ⟨fun o m => (List.mem_cons.mp m).elim (fun z => nomatch z) (t.nt o)⟩
instance {o : O} {ρ : Slots} [h : Nt o] [t : NtS ρ] : NtS (some o :: ρ) := ⟨fun o m => (List.mem_cons.mp m).elim (fun z => by cases z; exact h.nt) (t.nt o)⟩
section
variable {K : PySem.W.Frag} {Z0 F Z H : Hp} {ρ τ : Slots} {σ : L2.St} {i : Nat} {l d : Addr} {o : O} {u lu : HO} {qs : List Addr}
def lkF (F H : Hp) (B qs : List Addr) (d : Addr) (lu : HO) : Hp := fun a => if a = d then some lu else if a ∈ B ∨ a ∈ qs then H a else F a
theorem lkF_d {B : List Addr} : lkF F H B qs d lu d = some lu := if_pos rfl
theorem lkF_in {B : List Addr} {a : Addr} (h : a ≠ d) (m : a ∈ B ∨ a ∈ qs) : lkF F H B qs d lu a = H a := by unfold lkF; rw [if_neg h, if_pos m]
theorem lkF_out {B : List Addr} {a : Addr} (h : a ≠ d) (m : ¬ (a ∈ B ∨ a ∈ qs)) : lkF F H B qs d lu a = F a := by unfold lkF; rw [if_neg h, if_neg m]
theorem locked (s : StR K ρ Z0 F Z σ H) (hi : ρ[i]? = some (some (.loc l o))) (nt : ∀ o, some o ∈ ρ → o.nt = true) : σ[i]? = some (some (.ref l)) ∧ ∃ B, RepO K Z F H (.ref l) o B ∧ B.Nodup ∧ (∀ a ∈ B, Z a = none ∧ F a = none) ∧
    ∀ {d : Addr} {u lu : HO} {qs : List Addr}, d ∈ B → H d = some u → (∀ q ∈ qs, ∃ xs, H q = some (.tup xs)) →
      Ex F (lkF F H B qs d lu) ∧ StR K (ρ.set i (some (.pt l))) Z (lkF F H B qs d lu) Z σ (upd H d lu) ∧
      ∀ {τ : Slots} {Zn Hn : Hp} {σn : L2.St}, StR K τ Z (lkF F H B qs d lu) Zn σn Hn → τ[i]? = some (some (.pt l)) → Kp (ρ.set i (some (.pt l))) τ → o.nv = true → StR K (τ.set i (some (.loc l o))) Z0 F Zn σn (upd Hn d u) := by
  obtain ⟨A, h1, h2, h3⟩ := s.st
  obtain ⟨v, B, q1, q2, q3, q4, q5⟩ := h1.at hi h2
  have ev : v = .ref l := by cases q2 with | loc _ => rfl
  subst ev
  have r0 : RepO K Z F H (.ref l) o B := by cases q2 with | loc r => exact r
  refine ⟨q1, B, r0, q3, fun a m => h3 a (q4 a m), fun {d u lu qs} hd hu hq => ?_⟩
  generalize eF : lkF F H B qs d lu = F1
  have zd : Z d = none := (h3 d (q4 d hd)).1
  have fd : F d = none := (h3 d (q4 d hd)).2
  have F1d : F1 d = some lu := by rw [← eF]; exact lkF_d
  have F1i : ∀ a, a ≠ d → (a ∈ B ∨ a ∈ qs) → F1 a = H a := fun a n m => by rw [← eF]; exact lkF_in n m
  have F1o : ∀ a, a ≠ d → ¬ (a ∈ B ∨ a ∈ qs) → F1 a = F a := fun a n m => by rw [← eF]; exact lkF_out n m
  have ef : Ex F F1 := fun a w e => by
    have n : a ≠ d := fun z => by rw [z, fd] at e; cases e
    by_cases m : a ∈ B ∨ a ∈ qs
    · rw [F1i a n m]; exact s.gr.hh a w e
    · rw [F1o a n m]; exact e
  have eh : Ex F1 (upd H d lu) := fun a w e => by
    by_cases n : a = d
    · subst n
      rw [F1d] at e
      rw [upd_same]; exact e
    · rw [upd_ne n]
      by_cases m : a ∈ B ∨ a ∈ qs
      · rw [F1i a n m] at e; exact e
      · rw [F1o a n m] at e; exact s.gr.hh a w e
  have zh : Ex Z (upd H d lu) := fun a w e => by
    rw [upd_ne fun z => by rw [z, zd] at e; cases e]
    exact s.gr.zh a w e
  obtain ⟨A', t1, t2, t3⟩ := q5 (Z' := Z) (H' := upd H d lu) (v' := .ref l) (o' := .pt l) (B' := []) (Ex.refl _) (fun a m nb w e => by
    rw [upd_ne (show a ≠ d from fun z => nb (by rw [z]; exact hd))]; exact e) .pt List.nodup_nil fun _ m => nomatch m
  rw [set_same q1] at t1
  have ntA : ∀ a ∈ A, ∀ xs, H a ≠ some (.tup xs) := h1.nt nt
  have F1A : ∀ a ∈ A, a ∉ B → F1 a = none := fun a m nb => by
    have n : a ≠ d := fun z => nb (by rw [z]; exact hd)
    have nm : ¬ (a ∈ B ∨ a ∈ qs) := fun z => z.elim nb fun z => by
      obtain ⟨xs, e⟩ := hq a z
      exact ntA a m xs e
    rw [F1o a n nm]; exact (h3 a m).2
  refine ⟨ef, ⟨⟨Ex.refl _, eh, zh, fun _ _ _ => rfl⟩, A', t1.monoF ef, t2, fun a m => ?_⟩, fun {τ Zn Hn σn} sn hp hk hv => ?_⟩
  · rcases t3 a m with z | z
    · exact ⟨(h3 a z.1).1, F1A a z.1 z.2⟩
    · exact nomatch z
  · obtain ⟨An, l1, l2, l3⟩ := sn.st
    obtain ⟨w, Bn, u1, u2, u3, u4, u5⟩ := l1.at hp l2
    have ew : w = .ref l := by cases u2; rfl
    subst ew
    have nd : ∀ a ∈ An, a ≠ d := fun a m z => by rw [z] at m; rw [(l3 d m).2] at F1d; cases F1d
    have HnB : ∀ a ∈ B, a ≠ d → Hn a = H a := fun a m n => by
      obtain ⟨w, e⟩ := r0.there a m
      rw [e]
      exact sn.gr.hh a w (by rw [F1i a n (.inl m)]; exact e)
    have rB : RepO K Zn F (upd Hn d u) (.ref l) (.loc l o) B := .loc (r0.mono sn.gr.zz (Ex.refl _) fun a m w e => by
      by_cases n : a = d
      · subst n
        rw [hu] at e
        rw [upd_same]; exact e
      · rw [upd_ne n, HnB a m n]; exact e)
    have ZnB : ∀ a ∈ B, Zn a = none := fun a m => by
      have : ∃ w, F1 a = some w := by
        by_cases n : a = d
        · exact ⟨_, by rw [n]; exact F1d⟩
        · obtain ⟨w, e⟩ := r0.there a m
          exact ⟨w, by rw [F1i a n (.inl m)]; exact e⟩
      obtain ⟨w, e⟩ := this
      rw [sn.gr.nw a w e]
      exact (h3 a (q4 a m)).1
    have l1' : StL K Zn F1 (upd Hn d u) τ σn An := l1.mono (Ex.refl _) fun a m w e => by rw [upd_ne (nd a m)]; exact e
    have l2' : StL K Zn F (upd Hn d u) τ σn An := StL.kp ef sn.gr.zz hk t1 (by
      exact l1')
    obtain ⟨w2, Bn2, y1, y2, y3, y4, y5⟩ := l2'.at hp l2
    have eB2 : Bn2 = [] := by cases y2; rfl
    subst eB2
    have BA : ∀ a ∈ B, a ∉ An := fun a m z => by
      have := (l3 a z).2
      by_cases n : a = d
      · rw [n, F1d] at this; cases this
      · obtain ⟨w, e⟩ := r0.there a m
        rw [F1i a n (.inl m), e] at this; cases this
    obtain ⟨A2, x1, x2, x3⟩ := y5 (Z' := Zn) (H' := upd Hn d u) (v' := .ref l) (o' := .loc l o) (B' := B) (Ex.refl _) (fun _ _ _ _ e => e) rB q3 fun a m z => absurd z (BA a m)
    rw [set_same u1] at x1
    have znd : Zn d = none := ZnB d hd
    refine ⟨⟨s.gr.zz.trans sn.gr.zz, fun a w e => ?_, fun a w e => ?_, fun a w e => (sn.gr.nw a w (ef a w e)).trans (s.gr.nw a w e)⟩, A2, x1, x2, fun a m => ?_⟩
    · rw [upd_ne fun z => by rw [z, fd] at e; cases e]
      exact sn.gr.hh a w (ef a w e)
    · rw [upd_ne fun z => by rw [z, znd] at e; cases e]
      exact sn.gr.zh a w e
    · rcases x3 a m with z | z
      · refine ⟨(l3 a z.1).1, ?_⟩
        have n := nd a z.1
        have := (l3 a z.1).2
        by_cases mm : a ∈ B ∨ a ∈ qs
        · cases e : F a with
          | none => rfl
          | some w =>
            have := ef a w e
            rw [(l3 a z.1).2] at this
            cases this
        · rw [F1o a n mm] at this; exact this
      · exact ⟨ZnB a z, (h3 a (q4 a z)).2⟩
end
end M
namespace M
open PySem L2 PySem.Spec PyProof.Rows
section
variable {X : Cx} {ρ : Slots} {e : Expr} {st : Stmt} {G : Go} {o : O} {pos p0 p1 p2 : Pos} {i i1 i2 j : Nat} {nm x : Str} {C l : Addr} {ns : List Str} {os : List O} {β V : Type} {g : β → O}
end
end M
namespace M
open PySem PySem.Spec PyProof.Rows
section
variable {prog : Program} {w : World} {A : Around}
end
end M
namespace M
open PySem L2 PySem.Spec PyProof.Rows
section
variable {X : Cx} {ρ : Slots} {e : Expr} {p p2 q pos : Pos}
end
end M
namespace M
open PySem L2 PySem.Spec PyProof.Rows
section
variable {X : Cx} {ρ ρ' : Slots} {R R' : O → Slots} {e a b c f : Expr} {es : List Expr} {d d1 dk : D} {ds : List D} {pos p0 p1 p2 p3 p4 : Pos} {i j : Nat} {st : Stmt} {sts : List Stmt} {G : Go} {o o' : O} {nm : Str} {C l : Addr} {ns : List Str} {os : List O} {β : Type} {g : β → O} {enc : β → D} {k : Key} {ks : List Key} {y1 : β} {n : Int}
end
end M
namespace M
open PySem L2 PySem.Spec PyProof.Rows
section
variable {X : Cx} {ρ ρ' : Slots} {R R' : O → Slots} {e a b c f : Expr} {es : List Expr} {d d1 dk : D} {ds : List D} {pos p0 p1 p2 p3 p4 : Pos} {i j : Nat} {st : Stmt} {sts : List Stmt} {G : Go} {o o' : O} {nm x : Str} {C l : Addr} {ns : List Str} {os : List O} {β : Type} {g : β → O} {enc : β → D}
end
end M
namespace L2H
open PySem PySem.Spec PyProof.Rows L2 HotX
theorem RoomH.units {k : Nat} {A : Around} (r : RoomH k A) : A.units + 64 < cLine := by have := r.un; omega
/-- what a def promises there, of the exception that is handled -/
structure FnHP (P : Program) (w : World) (K : PySem.W.Frag) (mg : Str → Option Value) (base : Heap) (CX : CXT) (k : Nat) (f : Addr) (fd : FuncData) (ps : List Str) (sp : Addr × Obj → Sp) : Prop where
  len : ∀ p vs H Q E, sp p vs H Q E → vs.length = ps.length
  run : ∀ (A : Around) (outer : List Env) (s : Shared) (H : Hp) (args : Args) (us : List Value) (vs : List V) (Q : VK) (E : XK) (p : Addr × Obj), RoomH k A → Hot1 A p → PinOk outer H s p → Env0 P w K mg base A outer s H → BindsTo s fd args (ps.zip us) → Vals vs us → sp p vs H Q E →
    codeAny (model P w) A (.call (.ref f) args) (CR CX outer P w H s Q E) s
theorem fn_ofHP {CX : CXT} {P : Program} {w : World} {K : PySem.W.Frag} {mg : Str → Option Value} {base : Heap} {k : Nat} {f : Addr} {name qual : Str} {params : Arguments} {body : List Stmt} {scope : Scope} {dV kV doc pm cdv ct oc : Value} {an od : Option Addr}
    {osl : Array (Option Value)} {N ps : List Str} {sp : Addr × Obj → Sp} (lk : K.lookup f = some ⟨oc, od, .func (PySem.W.fnOf name qual params body scope dV kV doc pm an cdv ct), osl⟩) (hcd : PySem.W.codeIn K cdv qual = true) (S : FnScope N ps scope)
    (len : ∀ p vs H Q E, sp p vs H Q E → vs.length = ps.length)
    (hbody : ∀ (A : Around) (outer : List Env) (s : Shared) (H : Hp) (vs : List V) (Q : VK) (E : XK) (p : Addr × Obj), Hot1 A p → RoomH k (A.deeper (envOfC qual scope s.heap.objs.size f cdv)) → sp p vs H Q E →
      ∃ t, PSs (cxH CX P w K mg base N qual scope f cdv A outer s H E p) body t ∧ t { nx := fun _ H' => Q .non H', rt := Q } (L2.start N vs) H) :
    FnHP P w K mg base CX (k + 1) f (PySem.W.fnOf name qual params body scope dV kV doc pm an cdv ct) ps sp := by
  refine ⟨len, fun A outer s H args us vs Q E p hr hot hpin e0 hb r hsp => ?_⟩
  have hl := len _ _ _ _ _ hsp
  have KX : K.In s.heap := e0.mod.kin.keeps fun b o e => (e0.bs b o e).1
  have lim : s.heap.NoLimit := e0.mod.nolimit.keeps fun b o e => (e0.bs b o e).1
  have hkind : ∀ y ∈ ps.zip us, scope.names.lookup y.1 = some .local ∨ (scope.names.lookup y.1 = some .cell ∧ ((cellsFrom (s.heap.objs.size + 1) scope.names []).lookup y.1).isSome = true) := fun ⟨n, v⟩ hy => by
    rcases S.par n (List.of_mem_zip hy).1 with q | q
    · exact .inl q
    · exact .inr ⟨q, PySem.W.cellsFrom_some _ _ _ (.inl q)⟩
  refine codeAny_call_function hr.depth (KX _ _ lk) rfl S.co S.gen rfl (PySem.W.codeRec_of KX hcd) (hb _ _ _ _ ?_)
  refine wpAny_newFunctionEnv_cells S.kind hkind fun env he s1 x => ?_
  subst he
  refine ⟨lim.keeps x.toInCall.keep, codeAny_func ?_⟩
  obtain ⟨t, ht, hq⟩ := hbody A outer s H vs Q E p hot (hr.deeper _) hsp
  have I : Inv (cxH CX P w K mg base N qual scope f cdv A outer s H E p) [] (L2.start N vs) H s1 := inv_startH S hpin e0 hl r x
  refine wpAny_mono (ht.run [] s1 (L2.start N vs) H _ I hq) (fun fl s' hs => ?_) fun e s' hs => hs
  have fin : ∀ {σ' : St} {H' : Hp} {v : V} {u : Value}, Inv (cxH CX P w K mg base N qual scope f cdv A outer s H E p) [] σ' H' s' → RelV v u → Q v H' → CE outer P w H s Q u s' :=
    fun {σ' H' v u} J rv q => ⟨v, H', J.os, J.bare, J.base, J.hok, rv, q⟩
  cases fl with
  | ret u =>
    obtain ⟨v, σ', H', J, rv, q⟩ := hs
    exact fin J rv q
  | next =>
    obtain ⟨σ', H', J, q⟩ := hs
    exact fin (v := V.non) (u := Value.none) J rfl q
  | brk =>
    obtain ⟨_, _, _, q⟩ := hs
    exact False.elim q
  | cont =>
    obtain ⟨_, _, _, q⟩ := hs
    exact False.elim q
section
variable {X : Cx} {CX : CXT} {k : Nat} {f : Addr} {fd : FuncData} {ps : List Str} {sp : Addr × Obj → Sp} {E : St → XK} {x : Str} {q pos : Pos} {e : Expr} {es : List Expr} {t : TA} {p : Addr × Obj}
theorem run_fnHP {pins : List (Addr × Obj)} {σ : St} {H : Hp} {s : Shared} {Q : VK} {us : List Value} {vs : List V} (F : FnHP X.prog X.w X.K X.mg X.base CX k f fd ps sp) (hr : RoomH k X.A) (hot : Hot1 X.A p) (hp : p ∈ X.pn) (hb : Binds X.K fd ps []) (hx : PassesAt CX X σ (E σ))
    (I : Inv X pins σ H s) (r : Vals vs us) (h : sp p vs H Q (E σ)) : wpAny (model X.prog X.w) X.A (call (.ref f) us) (EP X pins σ Q) X.xe s := by
  have hl : us.length = ps.length := by rw [← r.length]; exact F.len _ _ _ _ _ h
  have b := hb s us I.kIn (by rw [List.append_nil]; exact hl)
  rw [List.append_nil] at b
  have P1 := I.pin p (List.mem_append_left _ hp)
  have hpin : PinOk X.stack H s p := ⟨P1.1, P1.2.1, fun hm => (List.mem_cons.mp (I.stkSub p.1 hm)).elim P1.2.2.1 P1.2.2.2.1, P1.2.2.2.2⟩
  refine wpAny_call (codeAny_mono (F.run X.A X.stack s H ⟨us, []⟩ us vs Q (E σ) p hr hot hpin I.env0 b r h) fun r s' hq => ?_)
  cases r with
  | error e => exact hx pins H s e s' I hq
  | ok fl =>
    cases fl with
    | ret u => exact I.after hq
    | next => exact False.elim hq
    | brk => exact False.elim hq
    | cont => exact False.elim hq
theorem pe_callHP (F : FnHP X.prog X.w X.K X.mg X.base CX k f fd ps sp) (hr : RoomH k X.A) (hot : Hot1 X.A p) (hp : p ∈ X.pn) (hg : Gl X x) (hm : X.mg x = some (.ref f)) (hk : PySem.W.keepIn X.K (.ref f) = true) (hb : Binds X.K fd ps []) (hx : ∀ σ, PassesAt CX X σ (E σ))
    (ha : PA X (e :: es) t) (hdb : (x == ("__debug__" : Str)) = false := by decide) (he : starEach (e :: es) X.env = (false, eval e X.env) :: starEach es X.env := by rfl) (hpl : (backTo pos (starEach es X.env)).any (·.1) = false := by rfl) :
    PE X (.Call (.Name x q) (e :: es) [] pos) (tCallS (sp p) E t) := by
  refine ⟨fun pins s σ H Q I h => ?_⟩
  refine wpAny_Call_Name_kw (ld_glob I hg hm ?_ hdb)
  refine PySem.W.callWith_K (h₀ := X.base) I.ok.mod.kin hk (thn (ha.run pos pins s σ H _ I h) fun us s1 ⟨vs, H1, I1, r, q⟩ => ⟨I1.kIn, ?_⟩) he hpl
  exact run_fnHP F hr hot hp hb (hx σ) I1 r q
/-- isinstance of a pinned exception -/
theorem call_isP {D : Addr} (C : ExcC X.K D) (hp : p ∈ X.pn) (hz : Zc (.ref D) none p.2) (hf : ∃ vs, p.2.data = .fields vs) : CallR X (.builtin "isinstance") (rIsE X.K D p.1) := by
  intro pins s σ H xs us Q I r h
  obtain ⟨c, cv, b, rfl, hcv, e, q⟩ := h
  cases r with
  | cons rx rr =>
    cases rr with
    | cons rt rr =>
      cases rr
      cases rx
      have ec := hcv _ rt
      subst ec
      obtain ⟨hget, _⟩ := I.pin p (List.mem_append.mpr (.inl hp))
      obtain ⟨vs, hv⟩ := hf
      have J : PySem.W.InstAt s.heap p.1 p.2 D none := by
        obtain ⟨a, oc, od, oda, osl⟩ := p
        obtain ⟨h1, h2⟩ := hz
        dsimp only at h1 h2 hv
        subst h1 h2 hv
        exact ⟨hget, rfl, rfl, trivial⟩
      exact PySem.W.kia_one (PySem.W.handS_kitx_exc C.hg C.hk C.hs C.hd C.ha C.hn C.ht C.hm) I.kIn J e (fun z => nomatch z) fun tk => ⟨.bl b, H, I.kept (t' := tk) fun _ _ z => z, rfl, q⟩
end
end L2H
namespace M
open PySem L2 PySem.Spec PyProof.Rows
section
variable {X : Cx} {ρ : Slots} {C E : Addr} {p : Addr × Obj} {i : Nat} {n nm : Str} {p0 p1 p2 pos : Pos} {b : Bool} {T : String}
theorem me_isiP (c : ExcC X.K C) (hp : p ∈ X.pn) (hz : L2N.Zn (.ref C) none p.2) (hf : ∃ vs, p.2.data = .fields vs) (hg : Gl X "isinstance") (hm : X.mg "isinstance" = none) (hE : X.mg nm = some (.ref E)) (q : PE X (.Name n p2) (tVar i)) (hi : ρ[i]? = some (some (.pt p.1))) (hk : PySem.W.kitOne X.K (.ref C) (.ref E) = some b) (hgE : Gl X nm := by rfl) (hd : (nm == ("__debug__" : Str)) = false := by decide) :
    ME X ρ (.Call (.Name "isinstance" p0) [.Name n p2, .Name nm p1] [] pos) (.fz (.bl b)) := .mk fun Z0 F Z σ H s Q qq =>
  PE_w (pe_callB (L2H.call_isP c hp hz.zc hf) hg hm (by decide +kernel) (pa_cons pe_w (pa_cons (pe_glob (v := .ref E) hgE hE rfl hd) pa_nil) rfl) (he := rfl)) ((mv_var q hi).run Z0 F Z σ H s _ fun v Z1 H1 A1 g1 r1 => by
    cases r1
    exact ⟨.ref E, .ref E, b, rfl, fun u r => r, hk, qq _ Z1 H1 [] g1 (.fz (.bl b)) .nil⟩)
end
/-- its body keeps its promise -/
theorem fn_mH {α : Type} {P : Program} {w : World} {K : PySem.W.Frag} {mg : Str → Option Value} {base : Heap} {x qual : Str} {st : Stmt} {f : Addr} {fd : FuncData} {N ps : List Str} {k : Nat} {ar : Addr × Obj → α → List O} {pre : Addr × Obj → α → Prop} {res : α → O}
    (F : Fun K x qual st f fd) (S : FnScope N ps (defScope st)) (hl : ∀ p x, (ar p x).length = ps.length) (hn : ∀ p x, pre p x → (res x).nv = true)
    (hb : ∀ (cdv : Value) (A : Around) (outer : List Env) (s : Shared) (H : Hp) (E : XK) (p : Addr × Obj), L2H.RoomH k (A.deeper (envOfC qual (defScope st) s.heap.objs.size f cdv)) → ∀ x, pre p x →
      MS (L2H.cxH CX0 P w K mg base N qual (defScope st) f cdv A outer s H E p) ((ar p x).map some ++ List.replicate (N.length - ps.length) none) (defBody st) { nx := fun _ => res x = .fz .non, rt := fun o => o = res x }) :
    L2H.FnHP P w K mg base CX0 (k + 1) f fd ps (fun p => SpM K (ar p) (pre p) res) := by
  obtain ⟨oc, od, kV, doc, pm, an, cdv, ct, osl, rfl, lk, hcd⟩ := F.ex
  refine L2H.fn_ofHP lk hcd S (fun p vs H Q E h => ?_) fun A outer s H vs Q E p hot hr h => ?_
  · obtain ⟨x, Z, _, r, _⟩ := h
    rw [r.length, hl]
  · obtain ⟨x, Z, ez, r, hp, q⟩ := h
    refine ⟨_, pss_w, (hb cdv A outer s H E p hr x hp).run Z H Z _ H _ ⟨Gr.refl ez, [], ?_, List.nodup_nil, fun _ m => nomatch m⟩ ⟨fun ρ Z' σ H' e s' => ?_, fun _ _ _ _ z => z.elim, fun _ _ _ _ z => z.elim, fun o v Z' H' A e g r n => ?_, fun _ _ _ _ _ _ z => z.elim, GX.never fun e z => by
      have n := hn p x hp
      rw [← show O.rs e = res x from z] at n
      cases n⟩⟩
    · have e : L2.start N vs = vs.map some ++ List.replicate (N.length - ps.length) none := by
        unfold L2.start
        rw [r.length, hl]
      rw [e]
      exact stL_more _ (stL_args r)
    · refine q _ Z' H' [] s'.gr ?_ .nil
      rw [e]
      exact .fz .non
    · subst e
      exact q _ Z' H' A g (r.unF (hn p x hp)) n
structure Fn1H (P : Program) (w : World) (K : PySem.W.Frag) (mg : Str → Option Value) (base : Heap) (name : Str) (k : Nat) (ps : List Str) (sp : Addr × Obj → Sp) : Prop where
  ex : ∃ (f : Addr) (fd : FuncData), mg name = some (.ref f) ∧ PySem.W.keepIn K (.ref f) = true ∧ Binds K fd ps [] ∧ L2H.FnHP P w K mg base CX0 k f fd ps sp
/-- f(e) within the suite, e the exception that is held -/
theorem me_fnH {α : Type} {X : Cx} {ρ : Slots} {C a : Addr} {oe : Obj} {pn : List (Addr × Obj)} {i k : Nat} {n nm : Str} {p0 p2 pos : Pos} {pre : Addr × Obj → α → Prop} {res : α → O} {ps : List Str} (c : Fn1H X.prog X.w X.K X.mg X.base nm k ps (fun p => SpM X.K (fun _ : α => [.pt p.1]) (pre p) res)) (x : α)
    (hz : L2N.Zn (.ref C) none oe) (hf : ∃ vs, oe.data = .fields vs) (q : PE (X.suite a ((a, oe) :: pn)) (.Name n p2) (tVar i)) (hi : ρ[i]? = some (some (.pt a))) (hp : pre (a, oe) x) (hr : Room k X.A) {o : O} (hres : res x = o := by first | (dsimp only; done) | (dsimp only; rfl) | rfl) (hg : Gl X nm := by rfl)
    (hdb : (nm == ("__debug__" : Str)) = false := by decide) : ME (X.suite a ((a, oe) :: pn)) ρ (.Call (.Name nm p0) [.Name n p2] [] pos) o := by
  subst hres
  obtain ⟨f, fd, hm, hk, hb, F⟩ := c.ex
  obtain ⟨vs, hd⟩ := id hf
  have hot : L2H.Hot1 (X.suite a ((a, oe) :: pn)).A (a, oe) := ⟨rfl, vs, hd, hz.2.2 vs hd⟩
  have hrr : L2H.RoomH k (X.suite a ((a, oe) :: pn)).A := ⟨hr.dp, hr.un⟩
  refine .mk fun Z0 F0 Z σ H s Q qq => PE_w (L2H.pe_callHP (X := X.suite a ((a, oe) :: pn)) (E := fun _ _ _ _ => True) F hrr hot List.mem_cons_self hg hm hk hb (fun _ _ _ _ _ _ _ h => h.elim) (pa_cons q pa_nil) hdb) ?_
  obtain ⟨A0, t1, _, _⟩ := s.st
  obtain ⟨v, B, e1, r1, _⟩ := t1.get hi
  cases r1
  exact ⟨_, e1, x, Z, s.gr.zh, .cons (A := []) (B := []) .pt .nil, hp, fun v Z2 H2 A g2 r2 n2 => qq v Z2 H2 A g2 (r2.mono (Ex.refl _) (fun _ _ z => by cases z) fun _ _ _ z => z) n2⟩
end M
namespace M
open PySem L2 PySem.Spec PyProof.Rows
section
variable {X : Cx} {ρ : Slots} {a e1 e2 : Expr} {ds : List D} {i j : Int} {p0 pos : Pos}
theorem ML.as17 {ds' : List D} (h : ML X ρ a ds) (q : ds = ds') : ML X ρ a ds' := q ▸ h
/-- tuple(xs) -/
theorem me_tupL (hg : Gl X "tuple") (hm : X.mg "tuple" = none) (ha : ML X ρ a ds) (n1 : NS X a := by exact fun _ => rfl) : ME X ρ (.Call (.Name "tuple" p0) [a] [] pos) (.tup (ds.map .fz)) := .mk fun Z0 F Z σ H s Q q =>
  PE_w (pe_callTy call_tuple_of hg hm (by decide +kernel) (pa_cons pe_w pa_nil (n1 _)) (he := n1 _)) (ha.run Z0 F Z σ H s _ fun l vs Z1 H1 g1 l1 r1 => ⟨l, vs, rfl, .inl ⟨l1, fun p hp =>
    q _ Z1 _ [p] (g1.trans (Gr.new g1.zh hp)) (.tup upd_same r1.own) (new_one (g1.hh.free hp) (g1.zh.free hp))⟩⟩)
/-- {i: j} -/
theorem me_dict11 (h1 : ME X ρ e1 (.fz (.int i))) (h2 : ME X ρ e2 (.fz (.int j))) : ME X ρ (.Dict [some e1] [e2] pos) (.dct [.inl i] [.fz (.int j)]) := .mk fun Z0 F Z σ H st Q qq =>
  PE_w (pe_disp (pps_cons pe_w pe_w pps_nil) rfl rfl (by simp) (by show 1 ≤ 15; decide)) fun x hx => by
    have g0 : Gr Z H Z (upd H x (.dK [])) := Gr.new st.ex hx
    refine h1.run Z0 F Z σ _ (st.grow g0) _ fun v1 Z1 H1 A1 g1 r1 n1 => h2.run Z0 F Z1 σ H1 ((st.grow g0).grow g1) _ fun v2 Z2 H2 A2 g2 r2 n2 => ?_
    cases r1 with
    | fz r1 =>
    cases r1
    cases r2 with
    | fz r2 =>
    cases r2
    have g12 := g1.trans g2
    have hx1 : H2 x = some (.dK []) := g12.hh _ _ upd_same
    have zx : Z2 x = none := by
      rw [g12.nw x _ upd_same]
      exact st.gr.zh.free hx
    have gg := g0.trans g12
    refine ⟨hx1, [(.inl i, .int j)], rfl, (by show 1 ≤ 15; decide), ?_⟩
    refine qq (.ref x) Z2 _ [x] ⟨gg.zz, fun b u e => ?_, gg.zh.mut zx, gg.nw⟩ (.dct upd_same (.cons (A := []) (B := []) (.fz (.int j)) .nil)) (new_one hx zx)
    rw [upd_ne fun z => by rw [z, hx] at e; cases e]
    exact gg.hh b u e
end
theorem mpI17 : ∀ {xs : List D} {ys : List Int}, mpO asI xs = some ys → xs.map e_d = ys.map D.int
  | [], ys, h => by cases h; rfl
  | x :: xs, ys, h => by
    obtain ⟨y, h1, h⟩ := bd_some h
    obtain ⟨zs, h2, h⟩ := bd_some h
    cases h
    have e := asI_is h1
    have e : x = .int y := O.fz.inj e
    rw [List.map_cons, List.map_cons, mpI17 h2, e]
theorem own17 (v : List Int) : O.lst ((v.map D.int).map .fz) = .lst (((v.map D.int).map e_d).map .fz) := by
  rw [show (e_d : D → D) = id from rfl, List.map_id]
theorem nv_tup17 (ds : List D) : (O.tup (ds.map .fz)).nv = true := O.nvL_fz _
theorem frz_tup17 (ds : List D) : (O.tup (ds.map .fz)).frz = D.tup ds := by
  show D.tup (O.frzL _) = _
  rw [O.frzL_fz]
end M
namespace L2
open PySem PySem.Spec PyProof.Rows
theorem dict0 {prog prog' : Program} {w w' : World} {h : Heap} {a : Addr} (d : h.DictOf (mixKind prog w) a []) : h.DictOf (mixKind prog' w') a [] := by
  obtain ⟨o, es, ep, ho, hx, hd, hk, hp, hn⟩ := d
  have e : es.toList = [] := by
    generalize es.toList = l at hp
    cases hp
    rfl
  refine ⟨o, es, ep, ho, hx, hd, fun x m => ?_, ?_, List.nodup_nil⟩
  · rw [← Array.mem_toList_iff, e] at m
    cases m
  · rw [e]
    exact .nil
theorem dict0_at {prog : Program} {w : World} {s : Shared} {A : Around} {a b : Addr} (ya : (a == sysModules) = false) (yb : (b == sysModules) = false) (da : s.heap.DictOf (mixKind prog w) a []) (db : s.heap.DictOf (mixKind prog w) b []) (hu : A.units < cLine) : SeqAt.EqAt A s (.ref a) (.ref b) true := by
  by_cases e : a = b
  · subst e
    exact SeqAt.EqAt.same _
  intro prog' w' E Q h
  exact SeqAt.eqP_refs (prog := prog') (w := w') e (fun E Q q => PySem.W.rcP_dicts (knd := mixKind prog' w') (r := true) ya yb (dict0 da) (dict0 db) hu (fun _ => .nil) E Q q) E Q h
theorem items_at {A : Around} {s : Shared} {F : V → V → Prop} (ih : ∀ x y v u, F x y → RelV x v → RelV y u → SeqAt.EqAt A s v u true) {xs ys : List V} (hp : Paired F xs ys) :
    ∀ {us ws : List Value}, Vals xs us → Vals ys ws → ∀ j (h1 : j < us.length) (h2 : j < ws.length), SeqAt.EqAt A s us[j] ws[j] true := by
  induction hp with
  | nil =>
    intro us ws r1 r2 j h1 h2
    cases r1
    exact absurd h1 (Nat.not_lt_zero j)
  | cons h _ k =>
    intro us ws r1 r2 j h1 h2
    cases r1 with
    | cons a1 b1 =>
      cases r2 with
      | cons a2 b2 =>
        cases j with
        | zero => exact ih _ _ _ _ h a1 a2
        | succ j => exact k b1 b2 j (Nat.lt_of_succ_lt_succ h1) (Nat.lt_of_succ_lt_succ h2)
/-- equal, or two empty tables -/
def Mx (K : PySem.W.Frag) (H : Hp) (x y : V) : Prop :=
  (∃ d e, Dp K H x d ∧ Dp K H y e ∧ d.canLay0 = true ∧ e.canLay0 = true ∧ d.depth ≤ 60 ∧ PyData.eqv d e = true) ∨ ∃ a b, x = .ref a ∧ y = .ref b ∧ H a = some (.dK []) ∧ H b = some (.dK [])
section
variable {X : Cx} {pins : List (Addr × Obj)} {σ : St} {H : Hp} {s : Shared}
theorem mx_at (I : Inv X pins σ H s) {A : Around} (hu : A.units + 60 < cLine) {x y : V} {v u : Value} (h : Mx X.K H x y) (rx : RelV x v) (ry : RelV y u) : SeqAt.EqAt A s v u true := by
  rcases h with ⟨d, e, h1, h2, c1, c2, hd, he⟩ | ⟨a, b, rfl, rfl, ha, hb⟩
  · obtain ⟨as, r1⟩ := Dp.reads I d x v h1 rx
    obtain ⟨bs, r2⟩ := Dp.reads I e y u h2 ry
    have k := SeqAt.eqAt_reads d e A s v u as bs r1 r2 c1 c2 (by have := Nat.min_le_left d.depth e.depth; omega)
    rw [he] at k
    exact k
  · cases (show v = Value.ref a from rx)
    cases (show u = Value.ref b from ry)
    obtain ⟨_, ya, va, ra, da⟩ := (show ObjOk X.prog X.w H s.heap a (.dK []) from I.hok a _ ha)
    obtain ⟨_, yb, vb, rb, db⟩ := (show ObjOk X.prog X.w H s.heap b (.dK []) from I.hok b _ hb)
    cases ra
    cases rb
    exact dict0_at ya yb da db (by omega)
end
section
variable {X : Cx}
def rNeM (K : PySem.W.Frag) : R2 := fun x y H Q => ∃ a b xs ys, x = .ref a ∧ y = .ref b ∧ SqL K H a xs ∧ SqL K H b ys ∧ Paired (Mx K H) xs ys ∧ Q (.bl false) H
theorem op_neM (hu : X.A.units + 64 < cLine) : OpR X (compareOp .NotEq) (rNeM X.K) := by
  intro pins s σ H x y v u Q I rx ry h
  obtain ⟨a, b, xs, ys, rfl, rfl, ha, hb, hp, q⟩ := h
  cases (show v = Value.ref a from rx)
  cases (show u = Value.ref b from ry)
  obtain ⟨us, r1, p1, _⟩ := I.list ha
  obtain ⟨ws, r2, p2, _⟩ := I.list hb
  have hsz : us.toArray.size = ws.toArray.size := by
    rw [List.size_toArray, List.size_toArray, ← r1.length, ← r2.length]
    exact Paired.length hp
  have k := SeqAt.RcNeAt.lists (A := X.A) (s := s) (e := fun _ => true) p1.isList p2.isList hsz (by omega) (fun j h1 h2 => by
    have k := items_at (fun x y v u f a b => mx_at I (A := X.A.in1) (by show X.A.units + 1 + 60 < cLine; omega) f a b) hp r1 r2 j (by simpa using h1) (by simpa using h2)
    simpa using k)
  rw [show (!(List.range us.toArray.size).all fun _ => true) = false from by rw [show ((List.range us.toArray.size).all fun _ => true) = true from List.all_eq_true.mpr fun _ _ => rfl]; rfl] at k
  exact k X.prog X.w _ _ ⟨.bl false, H, I, rfl, q⟩
end
end L2
namespace M
open PySem L2 PySem.Spec PyProof.Rows
def MxD (d : D) : Prop := (d.pl = true ∧ d.py.canLay0 = true ∧ d.py.depth ≤ 60 ∧ D.eqv d d = true) ∨ d = .dct [] []
section
variable {K : PySem.W.Frag} {Z H : Hp}
theorem mxd_mx (e : Ex Z H) {x y : V} {d : D} (h : MxD d) (hx : Rep K Z x d) (hy : Rep K Z y d) : Mx K H x y := by
  rcases h with ⟨h1, h2, h3, h4⟩ | rfl
  · exact .inl ⟨_, _, hx.dp e h1, hy.dp e h1, h2, h2, h3, h4⟩
  · cases hx with
    | dct a r =>
      cases hy with
      | dct a' r' => exact .inr ⟨_, _, rfl, rfl, e _ _ a, e _ _ a'⟩
theorem mxd_all (e : Ex Z H) : ∀ {ds : List D} {xs ys : List V}, (∀ d ∈ ds, MxD d) → RepL K Z xs ds → RepL K Z ys ds → Paired (Mx K H) xs ys
  | [], _, _, _, .nil, .nil => .nil
  | d :: ds, _, _, h, .cons a r, .cons b t => .cons (mxd_mx e (h d List.mem_cons_self) a b) (mxd_all e (fun x m => h x (List.mem_cons_of_mem _ m)) r t)
end
section
variable {X : Cx} {ρ : Slots} {a b : Expr} {ds : List D} {pos : Pos}
end
section
variable {X : Cx} {ρ : Slots} {a b : Expr} {ds : List D} {pos : Pos}
theorem mt_neM (hu : X.A.units + 64 < cLine) (ha : ML X ρ a ds) (hb : ML X ρ b ds) (h : ∀ d ∈ ds, MxD d) : MT X ρ (.Compare a [.NotEq] [b] pos) false := .mk fun Z0 F Z σ H s Q q =>
  PT_w (pt_cmpR (op_neM hu) pe_w pe_w (nomark _)) (ha.run Z0 F Z σ H s _ fun v vs Z1 H1 g1 l1 r1 => hb.run Z0 F Z1 σ H1 (s.grow g1) _ fun w ws Z2 H2 g2 l2 r2 =>
    ⟨v, w, vs, ws, rfl, rfl, ex_l g2.hh l1, l2, mxd_all g2.zh h (r1.mono g2.zz) r2, _, rfl, q Z2 H2 (g1.trans g2)⟩)
end
theorem mx17 {ds : List D} (h : ∀ d ∈ ds, MxD d) : ∀ d ∈ ds.map e_d, MxD d := by
  rw [show (e_d : D → D) = id from rfl, List.map_id]
  exact h
end M
namespace K17
open PySem L2 M
def top (i : Nat) : Stmt := PySem.Challenge.pw_coverroll_k17_no_shares.main.body.getD i (.Pass ⟨0, 0, 0, 0⟩)
abbrev s_is_whole : Stmt := top 18
abbrev s_total_of : Stmt := top 22
abbrev s_due_by : Stmt := top 23
abbrev s_next_place : Stmt := top 24
abbrev s_turns : Stmt := top 25
abbrev s_Deal___init__ : Stmt := inClass (top 26) 0
abbrev s__law_cell : Stmt := top 28
abbrev s__law_weights : Stmt := top 29
abbrev s__law_other : Stmt := top 30
abbrev s__law_refused : Stmt := top 31
abbrev s__law_spoilt : Stmt := top 32
abbrev s_law : Stmt := top 33
section
variable {P : Program} {w : World} {K : PySem.W.Frag} {mg : Str → Option Value} {base : Heap} {C_CoverError C_NoAmount C_NoShares C_NoEntry C_NoWords C_TooDeep C_NoClause C_NoCover C_NoBook C_Twice C_Late C_NotTold C_TooWide C_NoText C_NoRow C_Deal : Addr}
def sp_is_whole_h (K : PySem.W.Frag) : Sp := SpM K (fun x : Int => [.fz (.int x)]) (fun _ => True) (fun _ => .fz (.bl true))
abbrev N_is_whole_h : List Str := ["thing"]
theorem sc_is_whole_h : FnScope N_is_whole_h ["thing"] (defScope s_is_whole) := ⟨rfl, rfl, rfl, by decide +kernel, rfl, by decide +kernel, by decide +kernel⟩
theorem ok_is_whole_h {f : Addr} {fd : FuncData} (F : Fun K "is_whole" "is_whole" s_is_whole f fd) (z_bool : mg "bool" = none) (z_int : mg "int" = none) (z_isinstance : mg "isinstance" = none)  : FnOk P w K mg base CX0 1 f fd ["thing"] (sp_is_whole_h K) := by
  refine fn_m F sc_is_whole_h (fun x => rfl) (fun x _ => rfl) fun cdv A outer s H E hr x hx => ?_
  have nd := sc_is_whole_h.nd
  refine ms_one (m_ret (ps_ret pe_w) (ME.r (me_and (me_isi (k := true) (by rfl) z_isinstance (pe_bltn (v := .ty "int") (by rfl) z_int (by decide +kernel) rfl) (mv_var (pv 0) rfl) rfl (by decide +kernel)) fun _ => (me_one (me_not (me_isi (k := false) (by rfl) z_isinstance (pe_bltn (v := .ty "bool") (by rfl) z_bool (by decide +kernel) rfl) (mv_var (pv 0) rfl) rfl (by decide +kernel)))))) ?_)
  rfl

structure WOk (ws : List Int) : Prop where
  l1 : 1 ≤ ws.length
  l8 : ws.length ≤ 8
  w1 : ∀ w ∈ ws, 1 ≤ w
  s100 : ws.sum ≤ 100
theorem sum_ge : ∀ {ws : List Int}, (∀ w ∈ ws, 1 ≤ w) → (ws.length : Int) ≤ ws.sum ∧ ∀ w ∈ ws, w ≤ ws.sum
  | [], _ => ⟨by simp, fun _ m => nomatch m⟩
  | a :: r, h => by
    obtain ⟨h1, h2⟩ := sum_ge (ws := r) fun w m => h w (List.mem_cons_of_mem _ m)
    have ha := h a List.mem_cons_self
    rw [List.sum_cons, List.length_cons]
    refine ⟨by omega, fun w m => ?_⟩
    rcases List.mem_cons.mp m with m | m
    · omega
    · have := h2 w m
      omega
def npStep (ws gs : List Int) (T n : Int) (acc : Option Nat × Int) (k : Nat) : Option Nat × Int :=
  if gs.getD k 0 * T < ws.getD k 0 * (n + 1) then
    if acc.1 = none ∨ -(-(gs.getD k 0 + 1) * T / ws.getD k 0) < acc.2 then (some k, -(-(gs.getD k 0 + 1) * T / ws.getD k 0)) else acc
  else acc
def npM (ws gs : List Int) (T n : Int) : Option Nat × Int := (List.range ws.length).foldl (npStep ws gs T n) (none, 0)
theorem np_lt (ws gs : List Int) (T n : Int) (m : Nat) : ∀ (l : List Nat) (acc : Option Nat × Int), (∀ k ∈ l, k < m) → (∀ p, acc.1 = some p → p < m) → ∀ p, (l.foldl (npStep ws gs T n) acc).1 = some p → p < m
  | [], _, _, h => h
  | k :: r, acc, hl, h => by
    refine np_lt ws gs T n m r _ (fun j m => hl j (List.mem_cons_of_mem _ m)) ?_
    unfold npStep
    split
    · split
      · intro p e
        cases e
        exact hl k List.mem_cons_self
      · exact h
    · exact h
theorem np_some (ws gs : List Int) (T n : Int) : ∀ (l : List Nat) (acc : Option Nat × Int), (acc.1 ≠ none ∨ ∃ k ∈ l, gs.getD k 0 * T < ws.getD k 0 * (n + 1)) → (l.foldl (npStep ws gs T n) acc).1 ≠ none
  | [], acc, h => by
    rcases h with h | ⟨k, m, _⟩
    · exact h
    · cases m
  | k :: r, acc, h => by
    refine np_some ws gs T n r _ ?_
    have keep : acc.1 ≠ none → (npStep ws gs T n acc k).1 ≠ none := fun h => by
      unfold npStep
      split
      · split
        · exact fun q => by cases q
        · exact h
      · exact h
    rcases h with h | ⟨j, m, hj⟩
    · exact .inl (keep h)
    · rcases List.mem_cons.mp m with m | m
      · subst m
        refine .inl ?_
        unfold npStep
        rw [if_pos hj]
        split
        · exact fun q => by cases q
        · rename_i hn
          exact fun q => hn (.inl q)
      · exact .inr ⟨j, m, hj⟩
theorem getD_mem {ws : List Int} {k : Nat} (h : k < ws.length) : ws.getD k 0 ∈ ws := by
  simp [List.getD, h]
theorem sum_getD_lt : ∀ {as bs : List Int}, as.length = bs.length → (∀ k, k < as.length → bs.getD k 0 ≤ as.getD k 0) → bs.sum ≤ as.sum
  | [], [], _, _ => by simp
  | a :: as, b :: bs, hl, h => by
    have ih := sum_getD_lt (as := as) (bs := bs) (by simpa using hl) fun k hk => by
      have := h (k + 1) (by simpa using hk)
      simpa using this
    have h0 := h 0 (by simp)
    simp at h0
    rw [List.sum_cons, List.sum_cons]
    omega
theorem sum_mul (c : Int) : ∀ xs : List Int, (xs.map (· * c)).sum = xs.sum * c
  | [] => by simp
  | a :: r => by rw [List.map_cons, List.sum_cons, List.sum_cons, sum_mul c r, Int.add_mul]
/-- there is a place that may have the turn -/
theorem np_there {ws gs : List Int} {n : Int} (hw : WOk ws) (hl : gs.length = ws.length) (hs : gs.sum = n) (hn : n < ws.sum) : (npM ws gs ws.sum n).1 ≠ none := by
  refine np_some _ _ _ _ _ _ (.inr ?_)
  refine Classical.byContradiction fun hno => ?_
  have hall : ∀ k, k < ws.length → ws.getD k 0 * (n + 1) ≤ gs.getD k 0 * ws.sum := fun k hk => by
    refine Int.not_lt.mp fun q => hno ⟨k, List.mem_range.mpr hk, q⟩
  have h1 := sum_getD_lt (as := gs.map (· * ws.sum)) (bs := ws.map (· * (n + 1))) (by simp [hl]) fun k hk => by
    have hk2 : k < ws.length := by simpa [hl] using hk
    have hk3 : k < gs.length := by omega
    have q := hall k hk2
    simpa [List.getD, hk2, hk3] using q
  rw [sum_mul, sum_mul, hs] at h1
  have hT := (sum_ge hw.w1).1
  have h1' := hw.l1
  have e : ws.sum * (n + 1) = n * ws.sum + ws.sum := by rw [Int.mul_add, Int.mul_one, Int.mul_comm]
  omega
def turnStep (ws : List Int) (acc : List Int × List Int) (n : Nat) : List Int × List Int :=
  match (npM ws acc.1 ws.sum n).1 with
  | some p => (acc.1.set p (acc.1.getD p 0 + 1), acc.2 ++ [(p : Int)])
  | none => acc
def turnsTo (ws : List Int) (n : Nat) : List Int × List Int := (List.range n).foldl (turnStep ws) (ws.map (fun _ => 0), [])
def turnsM (ws : List Int) : List Int := (turnsTo ws ws.sum.toNat).2
theorem turns_succ (ws : List Int) (n : Nat) : turnsTo ws (n + 1) = turnStep ws (turnsTo ws n) n := by
  unfold turnsTo
  rw [List.range_succ, List.foldl_append]
  rfl
theorem sum_set1 : ∀ {gs : List Int} {p : Nat}, p < gs.length → (gs.set p (gs.getD p 0 + 1)).sum = gs.sum + 1
  | a :: r, 0, _ => by
    simp
    omega
  | a :: r, p + 1, h => by
    have ih := sum_set1 (gs := r) (p := p) (by simpa using h)
    simp at ih ⊢
    omega
structure TOk (ws : List Int) (n : Nat) (acc : List Int × List Int) : Prop where
  len : acc.1.length = ws.length
  sum : acc.1.sum = n
  nn : ∀ g ∈ acc.1, 0 ≤ g ∧ g ≤ n
  wl : acc.2.length = n
  pl : ∀ p ∈ acc.2, 0 ≤ p ∧ p < ws.length
theorem mem_set1 {gs : List Int} {p : Nat} {v g : Int} (h : g ∈ gs.set p v) : g ∈ gs ∨ g = v := List.mem_or_eq_of_mem_set h
theorem sum_zero : ∀ ws : List Int, (ws.map fun _ => (0 : Int)).sum = 0
  | [] => rfl
  | _ :: r => by rw [List.map_cons, List.sum_cons, sum_zero r]; rfl
theorem turns_ok {ws : List Int} (hw : WOk ws) : ∀ n : Nat, (n : Int) ≤ ws.sum → TOk ws n (turnsTo ws n) ∧ ∀ m, n = m + 1 → ∃ p, (npM ws (turnsTo ws m).1 ws.sum m).1 = some p ∧ p < ws.length ∧ turnsTo ws n = ((turnsTo ws m).1.set p ((turnsTo ws m).1.getD p 0 + 1), (turnsTo ws m).2 ++ [(p : Int)])
  | 0, _ => by
    refine ⟨⟨by simp [turnsTo], ?_, fun g m => ?_, rfl, fun _ m => nomatch m⟩, fun m e => by cases e⟩
    · exact sum_zero ws
    · have : g = 0 := by
        simp [turnsTo] at m
        exact m.2.symm
      omega
  | n + 1, hn => by
    obtain ⟨ih, _⟩ := turns_ok hw n (by omega)
    have ht := np_there hw ih.len ih.sum (by omega)
    obtain ⟨p, hp⟩ := Option.ne_none_iff_exists'.mp ht
    have hpl : p < ws.length := np_lt ws _ _ _ ws.length _ _ (fun k m => List.mem_range.mp m) (fun _ e => by cases e) p hp
    have e : turnsTo ws (n + 1) = ((turnsTo ws n).1.set p ((turnsTo ws n).1.getD p 0 + 1), (turnsTo ws n).2 ++ [(p : Int)]) := by
      rw [turns_succ]
      unfold turnStep
      rw [hp]
    refine ⟨?_, fun m em => by cases em; exact ⟨p, hp, hpl, e⟩⟩
    rw [e]
    refine ⟨by rw [List.length_set, ih.len], ?_, fun g m => ?_, by rw [List.length_append, ih.wl]; rfl, fun q m => ?_⟩
    · show ((turnsTo ws n).1.set p _).sum = _
      rw [sum_set1 (by rw [ih.len]; exact hpl), ih.sum]
      omega
    · rcases mem_set1 m with m | m
      · have := ih.nn g m
        omega
      · have := ih.nn _ (getD_mem (ws := (turnsTo ws n).1) (k := p) (by rw [ih.len]; exact hpl))
        omega
    · rcases List.mem_append.mp m with m | m
      · exact ih.pl q m
      · have := List.mem_singleton.mp m
        omega
theorem at_ints {ns : List Int} {k : Int} (h0 : 0 ≤ k) (h : k < ns.length) : L2.atI (ns.map D.int) k = some (.int (ns.getD k.toNat 0)) := by
  obtain ⟨n, rfl⟩ := Int.eq_ofNat_of_zero_le h0
  have hn : n < ns.length := by omega
  refine atI_nat ?_
  rw [List.getElem?_map, List.getElem?_eq_getElem hn]
  simp [List.getD, hn]
theorem at_intsN {ns : List Int} {k : Nat} (h : k < ns.length) : L2.atI (ns.map D.int) (k : Int) = some (.int (ns.getD k 0)) := by
  have q := at_ints (ns := ns) (k := (k : Int)) (by omega) (by omega)
  rw [Int.toNat_natCast] at q
  exact q

def sp_total_of_h (K : PySem.W.Frag) : Sp := SpM K (fun x : List Int => [.vw (x.map .int)]) WOk (fun x => .fz (.int x.sum))
abbrev N_total_of_h : List Str := ["weights", "weight", "total"]
theorem sc_total_of_h : FnScope N_total_of_h ["weights"] (defScope s_total_of) := ⟨rfl, rfl, rfl, by decide +kernel, rfl, by decide +kernel, by decide +kernel⟩
theorem ok_total_of_h {f : Addr} {fd : FuncData} (F : Fun K "total_of" "total_of" s_total_of f fd) (z_isinstance : mg "isinstance" = none) (z_len : mg "len" = none) (z_list : mg "list" = none) (z_sum : mg "sum" = none) (g_MOST_PLACES : mg "MOST_PLACES" = some (.int 8 tk1)) (g_MOST_TURNS : mg "MOST_TURNS" = some (.int 100 tk2)) (c_is_whole_h : Fn1 P w K mg base "is_whole" 1 ["thing"] (sp_is_whole_h K)) : FnOk P w K mg base CX0 2 f fd ["weights"] (sp_total_of_h K) := by
  refine fn_m F sc_total_of_h (fun x => rfl) (fun x _ => rfl) fun cdv A outer s H E hr ws hw => ?_
  have nd := sc_total_of_h.nd
  have l1 := hw.l1
  have l8 := hw.l8
  have s1 := hw.s100
  refine ms_cons (m_if (mt_not (mt_val (me_isi (k := true) (by rfl) z_isinstance (pe_bltn (v := .ty "list") (by rfl) z_list (by decide +kernel) rfl) (mv_var (pv 0) rfl) rfl (by decide +kernel)))) (fun h => ?_) fun h => ms_nil ?_)
  · exact (Bool.false_ne_true h).elim
  refine ms_cons (m_if (MW.t (mw_or (mt_lt (me_len (by rfl) z_len (ml_var (pv 0) rfl)) me_int) fun _ => (mw_or1 (mt_gt (me_len (by rfl) z_len (ml_var (pv 0) rfl)) (me_gI g_MOST_PLACES))))) (fun h => ?_) fun h => ms_nil ?_)
  · rw [List.length_map, Bool.or_eq_true, decide_eq_true_iff, decide_eq_true_iff] at h
    omega
  -- for weight in weights
  refine ms_cons (m_forT (xs := ws) (enc := D.int) (ps_for PassesOwn.never rfl (pi_list pe_w) (pg_name (i := 1) nd rfl (Or.inl rfl)) pss_w) (by exact (mi_list (mk_var (pv 0) rfl))) (fun j => [some (.vw (ws.map .int)), none, none]) le_auto (fun j x hx => ?_) fun τ l => ms_le l ?_)
  · refine ⟨_, _, mg_name, ?_⟩
    have h1 := hw.w1 x (List.mem_of_getElem? hx)
    refine ms_one (m_if (MW.t (mw_or (mt_not (mt_val (me_fn c_is_whole_h x (ma_fz (me_var (pv 1) rfl) ma_nil) trivial (hr.mono (by decide))))) fun _ => (mw_or1 (mt_lt (me_var (pv 1) rfl) me_int)))) (fun h => ?_) fun h => ms_nil le_auto)
    rw [Bool.or_eq_true, decide_eq_true_iff] at h
    rcases h with h | h
    · exact (Bool.false_ne_true h).elim
    · omega
  refine ms_cons (m_set (ps_set (i := 2) nd rfl (Or.inl rfl) pe_w) (me_sum rfl (by rfl) z_sum (ml_var (pv 0) rfl)) ?_)
  refine ms_cons (m_if (mt_gt (me_var (pv 2) rfl) (me_gI g_MOST_TURNS)) (fun h => ?_) fun h => ms_nil ?_)
  · have h := of_decide_eq_true h
    omega
  refine ms_one (m_ret (ps_ret pe_w) (mr_var (pv 2) rfl) ?_)
  rfl

def sp_due_by_h (K : PySem.W.Frag) : Sp := SpM K (fun x : Int × Int × Int => [.fz (.int x.1), .fz (.int x.2.1), .fz (.int x.2.2)]) (fun x => 0 ≤ x.1 ∧ x.1 ≤ 1000 ∧ 0 < x.2.1 ∧ x.2.1 ≤ 1000) (fun x => .fz (.int (-(-(x.1 + 1) * x.2.2 / x.2.1))))
abbrev N_due_by_h : List Str := ["given", "weight", "total"]
theorem sc_due_by_h : FnScope N_due_by_h ["given", "weight", "total"] (defScope s_due_by) := ⟨rfl, rfl, rfl, by decide +kernel, rfl, by decide +kernel, by decide +kernel⟩
theorem ok_due_by_h {f : Addr} {fd : FuncData} (F : Fun K "due_by" "due_by" s_due_by f fd)   : FnOk P w K mg base CX0 1 f fd ["given", "weight", "total"] (sp_due_by_h K) := by
  refine fn_m F sc_due_by_h (fun x => rfl) (fun x _ => rfl) fun cdv A outer s H E hr x hx => ?_
  obtain ⟨given, weight, total⟩ := x
  obtain ⟨h0, h1, h2, h3⟩ := hx
  have h0 : 0 ≤ given := h0
  have h1 : given ≤ 1000 := h1
  have h2 : 0 < weight := h2
  have h3 : weight ≤ 1000 := h3
  have nd := sc_due_by_h.nd
  have c1 : CMul (-(given + 1)) total := .inl ⟨by omega, by omega⟩
  have c2 : CDiv (-(given + 1) * total) weight := ⟨h2, by omega⟩
  refine ms_one (m_ret (ps_ret pe_w) (ME.r (me_neg (me_fdiv (me_mul (me_neg (me_add (me_var (pv 0) rfl) me_int)) (me_var (pv 2) rfl) c1) (me_var (pv 1) rfl) c2))) ?_)
  rfl

def encON : Option Nat → D
  | none => .non
  | some p => .int p
def sp_next_place_h (K : PySem.W.Frag) : Sp := SpM K (fun x : List Int × List Int × Int × Int => [.vw (x.1.map .int), .vw (x.2.1.map .int), .fz (.int x.2.2.1), .fz (.int x.2.2.2)])
  (fun x => WOk x.1 ∧ x.2.1.length = x.1.length ∧ (∀ g ∈ x.2.1, 0 ≤ g ∧ g ≤ 100) ∧ 0 ≤ x.2.2.2 ∧ x.2.2.2 ≤ 100) (fun x => .fz (encON (npM x.1 x.2.1 x.2.2.1 x.2.2.2).1))
abbrev N_next_place_h : List Str := ["weights", "given", "total", "n", "best", "soonest", "place", "due"]
theorem sc_next_place_h : FnScope N_next_place_h ["weights", "given", "total", "n"] (defScope s_next_place) := ⟨rfl, rfl, rfl, by decide +kernel, rfl, by decide +kernel, by decide +kernel⟩
theorem ok_next_place_h {f : Addr} {fd : FuncData} (F : Fun K "next_place" "next_place" s_next_place f fd) (z_len : mg "len" = none) (z_range : mg "range" = none) (c_due_by_h : Fn1 P w K mg base "due_by" 1 ["given", "weight", "total"] (sp_due_by_h K)) : FnOk P w K mg base CX0 2 f fd ["weights", "given", "total", "n"] (sp_next_place_h K) := by
  refine fn_m F sc_next_place_h (fun x => rfl) (fun x _ => rfl) fun cdv A outer s H E hr x hx => ?_
  obtain ⟨ws, gs, T, n⟩ := x
  obtain ⟨hw, hl, hg, hn⟩ := hx
  have hw : WOk ws := hw
  have hl : gs.length = ws.length := hl
  have hg : ∀ g ∈ gs, 0 ≤ g ∧ g ≤ 100 := hg
  have hn : 0 ≤ n ∧ n ≤ 100 := hn
  have l8 := hw.l8
  have nd := sc_next_place_h.nd
  refine ms_cons (m_set (ps_set (i := 4) nd rfl (Or.inl rfl) pe_w) me_non ?_)
  refine ms_cons (m_set (ps_set (i := 5) nd rfl (Or.inl rfl) pe_w) me_int ?_)
  -- for place in range(len(weights))
  refine ms_cons (m_forN (lo := 0) (n := (ws.map D.int).length) (ps_for PassesOwn.never rfl (pi_range1 (by rfl) z_range pa_w) (pg_name (i := 6) nd rfl (Or.inl rfl)) pss_w) (by exact (mi_rangeN (mf_cons (me_len (by rfl) z_len (ml_var (pv 0) rfl)) mf_nil) (by rw [List.length_map]; omega)))
    (fun j => [some (.vw (ws.map .int)), some (.vw (gs.map .int)), some (.fz (.int T)), some (.fz (.int n)), some (.fz (encON ((List.range j).foldl (npStep ws gs T n) (none, 0)).1)), some (.fz (.int ((List.range j).foldl (npStep ws gs T n) (none, 0)).2)), none, none]) le_auto (fun j hj => ?_) fun τ l => ms_le l ?_)
  · rw [List.length_map] at hj
    have es : (List.range (j + 1)).foldl (npStep ws gs T n) (none, 0) = npStep ws gs T n ((List.range j).foldl (npStep ws gs T n) (none, 0)) j := by
      rw [List.range_succ, List.foldl_append]
      rfl
    show ∃ τ' ws', MTg _ _ [some (.vw (ws.map .int)), some (.vw (gs.map .int)), some (.fz (.int T)), some (.fz (.int n)), some (.fz (encON ((List.range j).foldl (npStep ws gs T n) (none, 0)).1)), some (.fz (.int ((List.range j).foldl (npStep ws gs T n) (none, 0)).2)), none, none] _ _ _ ∧ _
    generalize (List.range j).foldl (npStep ws gs T n) (none, 0) = acc at es ⊢
    rw [Int.zero_add]
    have a1 := at_intsN (ns := gs) (k := j) (by omega)
    have a2 := at_intsN (ns := ws) (k := j) hj
    have g1 := hg _ (getD_mem (ws := gs) (k := j) (by omega))
    have w1 := hw.w1 _ (getD_mem (ws := ws) (k := j) hj)
    have w2 := (sum_ge hw.w1).2 _ (getD_mem (ws := ws) (k := j) hj)
    have s1 := hw.s100
    have es2 : npStep ws gs T n acc j = npStep ws gs T n acc j := rfl
    conv at es2 => rhs; unfold npStep
    generalize gs.getD j 0 = g at *
    generalize ws.getD j 0 = wj at *
    have c1 : CMul g T := .inl ⟨by omega, by omega⟩
    have c2 : CMul wj (n + 1) := .inl ⟨by omega, by omega⟩
    refine ⟨_, _, mg_name, ?_⟩
    refine ms_one (m_if (mt_lt (me_mul (me_ixL (ml_var (pv 1) rfl) (me_var (pv 6) rfl) a1) (me_var (pv 2) rfl) c1) (me_mul (me_ixL (ml_var (pv 0) rfl) (me_var (pv 6) rfl) a2) (me_add (me_var (pv 3) rfl) me_int) c2)) (fun h => ?_) fun h => ?_)
    · -- if given[place] * total < weights[place] * (n + 1)
      rw [if_pos (of_decide_eq_true h)] at es2
      have pd : 0 ≤ g ∧ g ≤ 1000 ∧ 0 < wj ∧ wj ≤ 1000 := by omega
      refine ms_cons (m_set (ps_set (i := 7) nd rfl (Or.inl rfl) pe_w) (me_fn c_due_by_h (_, _, _) (ma_fz (me_ixL (ml_var (pv 1) rfl) (me_var (pv 6) rfl) a1) (ma_fz (me_ixL (ml_var (pv 0) rfl) (me_var (pv 6) rfl) a2) (ma_fz (me_var (pv 2) rfl) ma_nil))) pd (hr.mono (by decide))) ?_)
      have eN : (O.fz (encON acc.1)).isNon = decide (acc.1 = none) := by
        cases acc.1 with
        | none => rfl
        | some p => rfl
      refine ms_one (m_if (MW.t (mw_or (mt_isN (mv_var (pv 4) rfl)) fun _ => (mw_or1 (mt_lt (me_var (pv 7) rfl) (me_var (pv 5) rfl))))) (fun h => ?_) fun h => ?_)
      · -- if best is None or due < soonest
        rw [eN, Bool.or_eq_true, decide_eq_true_iff, decide_eq_true_iff] at h
        rw [if_pos h] at es2
        refine ms_cons (m_set (ps_set (i := 4) nd rfl (Or.inl rfl) pe_w) (me_var (pv 6) rfl) ?_)
        refine ms_one (m_set (ps_set (i := 5) nd rfl (Or.inl rfl) pe_w) (me_var (pv 7) rfl) ?_)
        rw [es, es2]
        exact le_auto
      · -- else
        rw [eN, Bool.or_eq_false_iff, decide_eq_false_iff_not, decide_eq_false_iff_not] at h
        rw [if_neg (fun q => q.elim h.1 h.2)] at es2
        refine ms_nil ?_
        rw [es, es2]
        exact le_auto
    · -- else
      rw [if_neg (of_decide_eq_false h)] at es2
      refine ms_nil ?_
      rw [es, es2]
      exact le_auto
  refine ms_one (m_ret (ps_ret pe_w) (mr_var (pv 4) rfl) ?_)
  show O.fz (encON _) = O.fz (encON (npM ws gs T n).1)
  rw [List.length_map]
  rfl

def sp_turns_h (K : PySem.W.Frag) : Sp := SpM K (fun x : List Int => [.vw (x.map .int)]) WOk (fun x => .lst (((turnsM x).map .int).map .fz))
abbrev N_turns_h : List Str := ["weights", "total", "given", "wheel", "n", "place", "weight"]
theorem sc_turns_h : FnScope N_turns_h ["weights"] (defScope s_turns) := ⟨rfl, rfl, rfl, by decide +kernel, rfl, by decide +kernel, by decide +kernel⟩
theorem ok_turns_h {f : Addr} {fd : FuncData} (F : Fun K "turns" "turns" s_turns f fd) (z_range : mg "range" = none) (c_total_of_h : Fn1 P w K mg base "total_of" 2 ["weights"] (sp_total_of_h K)) (c_next_place_h : Fn1 P w K mg base "next_place" 2 ["weights", "given", "total", "n"] (sp_next_place_h K)) : FnOk P w K mg base CX0 3 f fd ["weights"] (sp_turns_h K) := by
  refine fn_m F sc_turns_h (fun x => rfl) (fun x _ => O.nvL_fz _) fun cdv A outer s H E hr ws hw => ?_
  have nd := sc_turns_h.nd
  have s1 := hw.s100
  have l8 := hw.l8
  have sg := (sum_ge hw.w1).1
  refine ms_cons (m_set (ps_set (i := 1) nd rfl (Or.inl rfl) pe_w) (me_fn c_total_of_h ws (ma_vw (ml_var (pv 0) rfl) ma_nil) hw (hr.mono (by decide))) ?_)
  -- given = [0 for weight in weights]
  refine ms_cons (m_setLc (i := 2) (xs := ws) (enc := D.int) (fun te he => ps_setLc (i := 2) (own := [("weight", 6)]) rfl nd rfl rfl (sw_true rfl rfl rfl (by decide +kernel)) (pi_list pe_w) (blkOk_by (N := N_turns_h) (sc := defScope s_turns) (by decide +kernel)) (fun _ _ _ _ _ => (pg_name (i := 6) nd rfl (Or.inl rfl))) (fun _ _ _ _ _ => pts_nil) he) (mic_list (ml_var (pv 0) rfl)) (fun _ => D.int 0) (small1000 (by omega)) (fun d md => ⟨_, _, mg_name, by decide, fun s H C cl fp => me_int⟩) ?_)
  rw [show (ws.map fun _ => D.int 0) = (ws.map (fun _ => (0 : Int))).map D.int from by rw [List.map_map]; rfl]
  refine ms_cons (m_set (ps_set (i := 3) nd rfl (Or.inl rfl) pe_w) (me_lst mf_nil) ?_)
  -- for n in range(total)
  refine ms_cons (m_forN (lo := 0) (n := ws.sum.toNat) (ps_for PassesOwn.never rfl (pi_range1 (by rfl) z_range pa_w) (pg_name (i := 4) nd rfl (Or.inl rfl)) pss_w) (by exact (mi_range1 (mf_cons (me_var (pv 1) rfl) mf_nil) (by omega) (by omega)))
    (fun j => [some (.vw (ws.map .int)), some (.fz (.int ws.sum)), some (.lst (((turnsTo ws j).1.map .int).map .fz)), some (.lst (((turnsTo ws j).2.map .int).map .fz)), none, none, none]) le_auto (fun j hj => ?_) fun τ l => ms_le l ?_)
  · have hj : j < ws.sum.toNat := hj
    obtain ⟨ok, _⟩ := turns_ok hw j (by omega)
    obtain ⟨_, nx⟩ := turns_ok hw (j + 1) (by omega)
    obtain ⟨p, hp, hpl, es⟩ := nx j rfl
    rw [es]
    generalize turnsTo ws j = acc at ok hp ⊢
    rw [Int.zero_add]
    refine ⟨_, _, mg_name, ?_⟩
    have pn : WOk ws ∧ acc.1.length = ws.length ∧ (∀ g ∈ acc.1, 0 ≤ g ∧ g ≤ 100) ∧ 0 ≤ (j : Int) ∧ (j : Int) ≤ 100 := ⟨hw, ok.len, fun g m => ⟨(ok.nn g m).1, by have := (ok.nn g m).2; omega⟩, by omega, by omega⟩
    refine ms_cons (m_set (ps_set (i := 5) nd rfl (Or.inl rfl) pe_w) (me_fn c_next_place_h (_, _, _, _) (ma_vw (ml_var (pv 0) rfl) (ma_vw (ml_var (pv 2) rfl) (ma_fz (me_var (pv 1) rfl) (ma_fz (me_var (pv 4) rfl) ma_nil)))) pn (hr.mono (by decide))) ?_)
    show MS _ [some (.vw (ws.map .int)), some (.fz (.int ws.sum)), some (.lst ((acc.1.map D.int).map .fz)), some (.lst ((acc.2.map D.int).map .fz)), some (.fz (.int (j : Int))), some (.fz (encON (npM ws acc.1 ws.sum (j : Int)).1)), none] _ _
    rw [hp, show encON (some p) = .int (p : Int) from rfl]
    have ap := at_intsN (ns := acc.1) (k := p) (by rw [ok.len]; exact hpl)
    have ix : ixN (acc.1.map D.int).length (p : Int) = some p := by
      unfold ixN
      rw [List.length_map, ok.len, if_pos (by omega), if_pos (by omega), Int.toNat_natCast]
    refine ms_cons (m_setItem (i := 2) (pv _) rfl (me_var (pv 5) rfl) (me_add (me_ixL (ml_var (pv 2) rfl) (me_var (pv 5) rfl) ap) me_int) ix ?_)
    rw [show (acc.1.map D.int).set p (.int (acc.1.getD p 0 + 1)) = (acc.1.set p (acc.1.getD p 0 + 1)).map D.int from List.map_set.symm]
    refine ms_one (m_append (i := 3) (pv _) rfl (me_var (pv 5) rfl) ?_ ?_)
    · rw [List.length_map, List.length_map, ok.wl]
      exact small1000 (by omega)
    · rw [List.map_append, List.map_append]
      exact le_auto
  refine ms_one (m_ret (ps_ret pe_w) (mr_var (pv 3) rfl) ?_)
  rfl
def cellM (ns : List Int) (k : Int) : Int := if k < ns.length then ns.getD k.toNat 0 else 0
def sp__law_cell (K : PySem.W.Frag) : Sp := SpM K (fun x : List Int × Int => [.vw (x.1.map .int), .fz (.int x.2)]) (fun x => 0 ≤ x.2) (fun x => .fz (.int (cellM x.1 x.2)))
abbrev N__law_cell : List Str := ["_law_script", "_law_k"]
theorem sc__law_cell : FnScope N__law_cell ["_law_script", "_law_k"] (defScope s__law_cell) := ⟨rfl, rfl, rfl, by decide +kernel, rfl, by decide +kernel, by decide +kernel⟩
theorem ok__law_cell {f : Addr} {fd : FuncData} (F : Fun K "_law_cell" "_law_cell" s__law_cell f fd) (z_len : mg "len" = none)  : FnOk P w K mg base CX0 1 f fd ["_law_script", "_law_k"] (sp__law_cell K) := by
  refine fn_m F sc__law_cell (fun x => rfl) (fun x _ => rfl) fun cdv A outer s H E hr x h0 => ?_
  obtain ⟨ns, k⟩ := x
  have nd := sc__law_cell.nd
  refine ms_cons (m_if (mt_lt (me_var (pv 1) rfl) (me_len (by rfl) z_len (ml_var (pv 0) rfl))) (fun h => ?_) fun h => ms_nil ?_)
  · have h := of_decide_eq_true h
    rw [List.length_map] at h
    refine ms_one (m_ret (ps_ret pe_w) (ME.r (me_ixL (ml_var (pv 0) rfl) (me_var (pv 1) rfl) (at_ints h0 h))) ?_)
    show O.fz (.int _) = O.fz (.int (cellM ns k))
    rw [cellM, if_pos h]
  · have h := of_decide_eq_false h
    rw [List.length_map] at h
    refine ms_one (m_ret (ps_ret pe_w) (ME.r me_int) ?_)
    show O.fz (.int _) = O.fz (.int (cellM ns k))
    rw [cellM, if_neg h]

def wStep (ns : List Int) (a most : Int) (acc : Int × List Int) (k : Nat) : Int × List Int :=
  (acc.1 - cellM ns (a + 1 + (k : Int)) % (min acc.1 most + 1), acc.2 ++ [1 + cellM ns (a + 1 + (k : Int)) % (min acc.1 most + 1)])
def wMenu (r : Int) : Int := ([3, 12, 29, 92] : List Int).getD r.toNat 0
theorem wMenu_at {r : Int} (h0 : 0 ≤ r) (h1 : r < 4) : L2.atI [D.int 3, .int 12, .int 29, .int 92] r = some (.int (wMenu r)) := by
  obtain ⟨n, rfl⟩ := Int.eq_ofNat_of_zero_le h0
  have hn : n < 4 := by omega
  refine atI_nat ?_
  match n, hn with
  | 0, _ => rfl
  | 1, _ => rfl
  | 2, _ => rfl
  | 3, _ => rfl
theorem wMenu_pos {r : Int} (h0 : 0 ≤ r) (h1 : r < 4) : 0 ≤ wMenu r := by
  obtain ⟨n, rfl⟩ := Int.eq_ofNat_of_zero_le h0
  have hn : n < 4 := by omega
  match n, hn with
  | 0, _ => decide
  | 1, _ => decide
  | 2, _ => decide
  | 3, _ => decide
def wLoop (ns : List Int) (a many most : Int) (j : Nat) : Int × List Int := (List.range j).foldl (wStep ns a most) (100 - many, [])
structure LOk (many : Int) (j : Nat) (acc : Int × List Int) : Prop where
  nn : 0 ≤ acc.1
  w1 : ∀ w ∈ acc.2, 1 ≤ w
  sum : acc.2.sum = j + (100 - many - acc.1)
  len : acc.2.length = j
theorem loop_ok (ns : List Int) (a many most : Int) (hm : many ≤ 100) (h0 : 0 ≤ most) : ∀ j : Nat, LOk many j (wLoop ns a many most j)
  | 0 => ⟨by show 0 ≤ 100 - many; omega, (fun _ m => nomatch m), by show (0 : Int) = _; simp only [wLoop, List.range_zero, List.foldl_nil]; omega, rfl⟩
  | j + 1 => by
    have ih := loop_ok ns a many most hm h0 j
    have e : wLoop ns a many most (j + 1) = wStep ns a most (wLoop ns a many most j) j := by
      unfold wLoop
      rw [List.range_succ, List.foldl_append]
      rfl
    rw [e]
    generalize wLoop ns a many most j = acc at ih
    have i1 := ih.nn
    have r0 := Int.emod_nonneg (cellM ns (a + 1 + (j : Int))) (show min acc.1 most + 1 ≠ 0 by omega)
    have r1 := Int.emod_lt_of_pos (cellM ns (a + 1 + (j : Int))) (show 0 < min acc.1 most + 1 by omega)
    refine ⟨?_, fun w m => ?_, ?_, ?_⟩
    · show 0 ≤ acc.1 - _
      omega
    · rcases List.mem_append.mp m with m | m
      · exact ih.w1 w m
      · have := List.mem_singleton.mp m
        omega
    · show (acc.2 ++ [_]).sum = _ + (100 - many - (acc.1 - _))
      rw [List.sum_append, ih.sum, List.sum_cons, List.sum_nil]
      omega
    · show (acc.2 ++ [_]).length = _
      rw [List.length_append, ih.len]
      rfl
def manyM (ns : List Int) (a : Int) : Int := 1 + cellM ns a % 8
def mostM (ns : List Int) (a : Int) : Int := wMenu (cellM ns a / 8 % 4)
def wBase (ns : List Int) (a : Int) : Int × List Int := wLoop ns a (manyM ns a) (mostM ns a) (manyM ns a).toNat
def weightsM (ns : List Int) (a : Int) : List Int :=
  if cellM ns a / 32 % 5 = 1 then repG [min ((wBase ns a).2.getD 0 0) (100 / manyM ns a)] (manyM ns a)
  else if cellM ns a / 32 % 5 = 2 then (wBase ns a).2.reverse
  else if cellM ns a / 32 % 5 = 3 then (wBase ns a).2.set ((wBase ns a).2.length - 1) ((wBase ns a).2.getD ((wBase ns a).2.length - 1) 0 + (wBase ns a).1)
  else (wBase ns a).2
theorem many_b (ns : List Int) (a : Int) : 1 ≤ manyM ns a ∧ manyM ns a ≤ 8 := by
  unfold manyM
  omega
theorem base_ok (ns : List Int) (a : Int) : LOk (manyM ns a) (manyM ns a).toNat (wBase ns a) :=
  loop_ok ns a _ _ (by have := many_b ns a; omega) (wMenu_pos (Int.emod_nonneg _ (by decide)) (Int.emod_lt_of_pos _ (by decide))) _
theorem rep_one {v k : Int} (h : 0 ≤ k) : repG [v] k = List.replicate k.toNat v := by
  unfold repG
  induction k.toNat with
  | zero => rfl
  | succ n ih => rw [List.replicate_succ, List.flatten_cons, ih, List.replicate_succ]; rfl
theorem sum_rep (v : Int) : ∀ n : Nat, (List.replicate n v).sum = n * v
  | 0 => by simp
  | n + 1 => by
    rw [List.replicate_succ, List.sum_cons, sum_rep v n]
    have e : ((n + 1 : Nat) : Int) * v = n * v + v := by rw [Int.natCast_add, Int.add_mul]; simp
    omega
theorem sum_set_last : ∀ {l : List Int} {j : Nat} {v : Int}, j < l.length → (l.set j v).sum = l.sum - l.getD j 0 + v
  | a :: r, 0, v, _ => by
    simp
    omega
  | a :: r, j + 1, v, h => by
    have ih := sum_set_last (l := r) (j := j) (v := v) (by simpa using h)
    simp at ih ⊢
    omega
theorem weights_ok (ns : List Int) (a : Int) : WOk (weightsM ns a) := by
  have hb := base_ok ns a
  have hm := many_b ns a
  unfold weightsM
  have hl : (wBase ns a).2.length = (manyM ns a).toNat := hb.len
  have hs := hb.sum
  have hn := hb.nn
  have g0 := hb.w1 _ (getD_mem (ws := (wBase ns a).2) (k := 0) (by omega))
  have g9 := hb.w1 _ (getD_mem (ws := (wBase ns a).2) (k := (wBase ns a).2.length - 1) (by omega))
  split
  · rw [rep_one (by omega)]
    have d1 : 1 ≤ 100 / manyM ns a := (Int.le_ediv_iff_mul_le (by omega)).mpr (by omega)
    have d2 : manyM ns a * (100 / manyM ns a) ≤ 100 := Int.mul_ediv_self_le (by omega)
    refine ⟨by rw [List.length_replicate]; omega, by rw [List.length_replicate]; omega, fun w m => ?_, ?_⟩
    · have := List.eq_of_mem_replicate m
      omega
    · rw [sum_rep]
      have e : (((manyM ns a).toNat : Nat) : Int) = manyM ns a := by omega
      rw [e]
      exact Int.le_trans (Int.mul_le_mul_of_nonneg_left (Int.min_le_right _ _) (by omega)) d2
  · split
    · refine ⟨by rw [List.length_reverse]; omega, by rw [List.length_reverse]; omega, fun w m => hb.w1 w (List.mem_reverse.mp m), ?_⟩
      have e : (wBase ns a).2.reverse.sum = (wBase ns a).2.sum := List.sum_reverse ..
      rw [e]
      omega
    · split
      · refine ⟨by rw [List.length_set]; omega, by rw [List.length_set]; omega, fun w m => ?_, ?_⟩
        · rcases mem_set1 m with m | m
          · exact hb.w1 w m
          · omega
        · rw [sum_set_last (by omega)]
          omega
      · exact ⟨by omega, by omega, hb.w1, by omega⟩
def sp__law_weights (K : PySem.W.Frag) : Sp := SpM K (fun x : List Int × Int => [.vw (x.1.map .int), .fz (.int x.2)]) (fun x => 0 ≤ x.2) (fun x => .lst (((weightsM x.1 x.2).map .int).map .fz))
abbrev N__law_weights : List Str := ["_law_script", "_law_at", "_law_head", "_law_many", "_law_most", "_law_left", "_law_weights_here", "_law_k", "_law_extra", "_law_way"]
theorem sc__law_weights : FnScope N__law_weights ["_law_script", "_law_at"] (defScope s__law_weights) := ⟨rfl, rfl, rfl, by decide +kernel, rfl, by decide +kernel, by decide +kernel⟩
theorem ok__law_weights {f : Addr} {fd : FuncData} (F : Fun K "_law_weights" "_law_weights" s__law_weights f fd) (z_min : mg "min" = none) (z_range : mg "range" = none) (c__law_cell : Fn1 P w K mg base "_law_cell" 1 ["_law_script", "_law_k"] (sp__law_cell K)) : FnOk P w K mg base CX0 2 f fd ["_law_script", "_law_at"] (sp__law_weights K) := by
  refine fn_m F sc__law_weights (fun x => rfl) (fun x _ => O.nvL_fz _) fun cdv A outer s H E hr x hx => ?_
  obtain ⟨ns, a⟩ := x
  have hx : 0 ≤ a := hx
  have nd := sc__law_weights.nd
  have hb := base_ok ns a
  have hm := many_b ns a
  have ew : weightsM ns a = weightsM ns a := rfl
  conv at ew => rhs; unfold weightsM
  have q0 := Int.emod_nonneg (cellM ns a / 8) (show (4 : Int) ≠ 0 by decide)
  have q1 := Int.emod_lt_of_pos (cellM ns a / 8) (show (0 : Int) < 4 by decide)
  have hmost : 0 ≤ mostM ns a := wMenu_pos q0 q1
  refine ms_cons (m_set (ps_set (i := 2) nd rfl (Or.inl rfl) pe_w) (me_fn c__law_cell (_, _) (ma_vw (ml_var (pv 0) rfl) (ma_fz (me_var (pv 1) rfl) ma_nil)) hx (hr.mono (by decide))) ?_)
  refine ms_cons (m_set (ps_set (i := 3) nd rfl (Or.inl rfl) pe_w) (me_add me_int (me_mod (me_var (pv 2) rfl) me_int)) ?_)
  refine ms_cons (m_set (ps_set (i := 4) nd rfl (Or.inl rfl) pe_w) (me_ixL (ME.l (me_lst (mf_cons me_int (mf_cons me_int (mf_cons me_int (mf_cons me_int mf_nil)))))) (me_mod (me_fdiv (me_var (pv 2) rfl) me_int) me_int) (wMenu_at q0 q1)) ?_)
  refine ms_cons (m_set (ps_set (i := 5) nd rfl (Or.inl rfl) pe_w) (me_sub me_int (me_var (pv 3) rfl)) ?_)
  refine ms_cons (m_set (ps_set (i := 6) nd rfl (Or.inl rfl) pe_w) (me_lst mf_nil) ?_)
  show MS _ [some (.vw (ns.map .int)), some (.fz (.int a)), some (.fz (.int (cellM ns a))), some (.fz (.int (manyM ns a))), some (.fz (.int (mostM ns a))), some (.fz (.int (100 - manyM ns a))), some (.lst []), none, none, none] _ _
  -- for _law_k in range(_law_many)
  refine ms_cons (m_forN (lo := 0) (n := (manyM ns a).toNat) (ps_for PassesOwn.never rfl (pi_range1 (by rfl) z_range pa_w) (pg_name (i := 7) nd rfl (Or.inl rfl)) pss_w) (by exact (mi_range1 (mf_cons (me_var (pv 3) rfl) mf_nil) (by omega) (by omega)))
    (fun j => [some (.vw (ns.map .int)), some (.fz (.int a)), some (.fz (.int (cellM ns a))), some (.fz (.int (manyM ns a))), some (.fz (.int (mostM ns a))), some (.fz (.int (wLoop ns a (manyM ns a) (mostM ns a) j).1)), some (.lst (((wLoop ns a (manyM ns a) (mostM ns a) j).2.map .int).map .fz)), none, none, none]) le_auto (fun j hj => ?_) fun τ l => ms_le l ?_)
  · have hj : j < (manyM ns a).toNat := hj
    have ih := loop_ok ns a (manyM ns a) (mostM ns a) (by omega) hmost j
    have e : wLoop ns a (manyM ns a) (mostM ns a) (j + 1) = wStep ns a (mostM ns a) (wLoop ns a (manyM ns a) (mostM ns a) j) j := by
      unfold wLoop
      rw [List.range_succ, List.foldl_append]
      rfl
    rw [e]
    show ∃ τ' ws, MTg _ _ [some (.vw (ns.map .int)), some (.fz (.int a)), some (.fz (.int (cellM ns a))), some (.fz (.int (manyM ns a))), some (.fz (.int (mostM ns a))), some (.fz (.int (wLoop ns a (manyM ns a) (mostM ns a) j).1)), some (.lst (((wLoop ns a (manyM ns a) (mostM ns a) j).2.map .int).map .fz)), none, none, none] _ _ _ ∧ _
    generalize wLoop ns a (manyM ns a) (mostM ns a) j = acc at ih ⊢
    have i0 := ih.nn
    have i1 := ih.len
    rw [Int.zero_add]
    refine ⟨_, _, mg_name, ?_⟩
    have pc : 0 ≤ a + 1 + (j : Int) := by omega
    have pm : 0 < min acc.1 (mostM ns a) + 1 := by omega
    refine ms_cons (m_set (ps_set (i := 8) nd rfl (Or.inl rfl) pe_w) (me_mod (me_fn c__law_cell (_, _) (ma_vw (ml_var (pv 0) rfl) (ma_fz (me_add (me_add (me_var (pv 1) rfl) me_int) (me_var (pv 7) rfl)) ma_nil)) pc (hr.mono (by decide))) (me_add (me_min rfl (by rfl) z_min (me_var (pv 5) rfl) (me_var (pv 4) rfl)) me_int) pm) ?_)
    refine ms_cons (m_set (ps_set (i := 5) nd rfl (Or.inl rfl) pe_w) (me_sub (me_var (pv 5) rfl) (me_var (pv 8) rfl)) ?_)
    refine ms_one (m_append (i := 6) (pv _) rfl (me_add me_int (me_var (pv 8) rfl)) ?_ ?_)
    · rw [List.length_map, List.length_map]
      exact small1000 (by omega)
    · unfold wStep
      rw [List.map_append, List.map_append]
      exact le_auto
  show MS _ [some (.vw (ns.map .int)), some (.fz (.int a)), some (.fz (.int (cellM ns a))), some (.fz (.int (manyM ns a))), some (.fz (.int (mostM ns a))), some (.fz (.int (wBase ns a).1)), some (.lst (((wBase ns a).2.map .int).map .fz)), none, none, none] _ _
  have hl := hb.len
  generalize mostM ns a = most
  generalize wBase ns a = bs at hb ew hl ⊢
  generalize hmm : manyM ns a = many at hm ew hl ⊢
  generalize hhd : cellM ns a = hd at ew ⊢
  refine ms_cons (m_set (ps_set (i := 9) nd rfl (Or.inl rfl) pe_w) (me_mod (me_fdiv (me_var (pv 2) rfl) me_int) me_int) ?_)
  have d1 : CDiv 100 many := ⟨by omega, by omega⟩
  have b1 : -(2 ^ 63) ≤ many ∧ many < 2 ^ 63 := by omega
  have b2 : 1 * many.toNat ≤ sizeLine := Nat.le_of_lt (small1000 (by omega))
  have a0 : L2.atI (bs.2.map D.int) 0 = some (.int (bs.2.getD 0 0)) := at_ints (by omega) (by omega)
  refine ms_cons (m_ifJ (mt_eqI (me_var (pv 9) rfl) me_int) [some (.vw (ns.map .int)), some (.fz (.int a)), some (.fz (.int hd)), some (.fz (.int many)), none, some (.fz (.int bs.1)), some (.lst (((if hd / 32 % 5 = 1 then repG [min (bs.2.getD 0 0) (100 / many)] many else bs.2).map .int).map .fz)), none, none, some (.fz (.int (hd / 32 % 5)))] (fun h => ?_) (fun h => ?_) fun τ l => ms_le l ?_)
  · -- if _law_way == 1
    refine ms_one (m_set (ps_set (i := 6) nd rfl (Or.inl rfl) pe_w) (me_rep (ME.v (me_lst (mf_cons (me_min rfl (by rfl) z_min (me_ixL (ml_var (pv 6) rfl) me_int a0) (me_fdiv me_int (me_var (pv 3) rfl) d1)) mf_nil))) (me_var (pv 3) rfl) b1 b2) ?_)
    rw [if_pos (beq_iff_eq.mp h), rep_one (by omega), show (List.replicate many.toNat (min (bs.2.getD 0 0) (100 / many))).map D.int = repG [D.int (min (bs.2.getD 0 0) (100 / many))] many from by
      rw [List.map_replicate]
      unfold repG
      induction many.toNat with
      | zero => rfl
      | succ n ih => rw [List.replicate_succ, List.replicate_succ, List.flatten_cons, ← ih]; rfl]
    exact le_auto
  · refine ms_nil ?_
    rw [if_neg (fun q => by rw [beq_iff_eq.mpr q] at h; cases h)]
    exact le_auto
  generalize hx1 : (if hd / 32 % 5 = 1 then repG [min (bs.2.getD 0 0) (100 / many)] many else bs.2) = x1
  refine ms_cons (m_ifJ (mt_eqI (me_var (pv 9) rfl) me_int) [some (.vw (ns.map .int)), some (.fz (.int a)), some (.fz (.int hd)), some (.fz (.int many)), none, some (.fz (.int bs.1)), some (.lst (((if hd / 32 % 5 = 2 then x1.reverse else x1).map .int).map .fz)), none, none, some (.fz (.int (hd / 32 % 5)))] (fun h => ?_) (fun h => ?_) fun τ l => ms_le l ?_)
  · -- if _law_way == 2
    refine ms_one (m_set (ps_set (i := 6) nd rfl (Or.inl rfl) pe_w) (me_revL (ml_var (pv 6) rfl)) ?_)
    rw [if_pos (beq_iff_eq.mp h), List.map_reverse]
    exact le_auto
  · refine ms_nil ?_
    rw [if_neg (fun q => by rw [beq_iff_eq.mpr q] at h; cases h)]
    exact le_auto
  refine ms_cons (m_ifJ (mt_eqI (me_var (pv 9) rfl) me_int) [some (.vw (ns.map .int)), none, none, none, none, none, some (.lst (((weightsM ns a).map .int).map .fz)), none, none, none] (fun h => ?_) (fun h => ?_) fun τ l => ms_le l ?_)
  · -- if _law_way == 3
    have hw := beq_iff_eq.mp h
    rw [if_neg (by omega : ¬ hd / 32 % 5 = 1)] at hx1
    subst hx1
    rw [if_neg (by omega : ¬ hd / 32 % 5 = 2)]
    rw [if_neg (by omega : ¬ hd / 32 % 5 = 1), if_neg (by omega : ¬ hd / 32 % 5 = 2), if_pos hw] at ew
    have al : L2.atI (bs.2.map D.int) (-1) = some (.int (bs.2.getD (bs.2.length - 1) 0)) := by
      unfold L2.atI ixN
      rw [List.length_map, if_neg (by decide), if_pos (by omega)]
      show (bs.2.map D.int)[(-1 + (bs.2.length : Int)).toNat]? = _
      rw [show (-1 + (bs.2.length : Int)).toNat = bs.2.length - 1 from by omega, List.getElem?_map]
      have hlt : bs.2.length - 1 < bs.2.length := by omega
      simp [List.getD, hlt]
    have ix : ixN (bs.2.map D.int).length (-1) = some (bs.2.length - 1) := by
      unfold ixN
      rw [List.length_map, if_neg (by decide), if_pos (by omega)]
      congr 1
      omega
    refine ms_one (m_setItem (i := 6) (pv _) rfl (me_neg me_int) (me_add (me_ixL (ml_var (pv 6) rfl) (me_neg me_int) al) (me_var (pv 5) rfl)) ix ?_)
    rw [ew, List.map_set]
    exact le_auto
  · refine ms_nil ?_
    have hw : ¬ hd / 32 % 5 = 3 := fun q => by rw [beq_iff_eq.mpr q] at h; cases h
    have e : (if hd / 32 % 5 = 2 then x1.reverse else x1) = weightsM ns a := by
      rw [ew, if_neg hw, ← hx1]
      by_cases h1 : hd / 32 % 5 = 1
      · rw [if_pos h1, if_pos h1, if_neg (by omega)]
      · rw [if_neg h1, if_neg h1]
    rw [e]
    exact le_auto
  refine ms_one (m_ret (ps_ret pe_w) (mr_var (pv 6) rfl) ?_)
  rfl
def dealD (C : Addr) (ws : List Int) : D := .ins C ["wheel", "weights"] [.lst ((turnsM ws).map .int), .lst (ws.map .int)]
theorem frz_deal (C : Addr) (ws : List Int) : (O.ins C ["wheel", "weights"] [.lst (((turnsM ws).map .int).map .fz), .lst ((ws.map .int).map .fz)]).frz = dealD C ws := by
  show D.ins C _ [D.lst (O.frzL _), D.lst (O.frzL _)] = _
  rw [O.frzL_fz, O.frzL_fz]
  rfl
theorem nv_deal (C : Addr) (ws : List Int) : (O.ins C ["wheel", "weights"] [.lst (((turnsM ws).map .int).map .fz), .lst ((ws.map .int).map .fz)]).nv = true := by
  show (O.nvL _ && (O.nvL _ && true)) = true
  rw [O.nvL_fz, O.nvL_fz]
  rfl
theorem turnsM_len {ws : List Int} (hw : WOk ws) : ((turnsM ws).length : Int) = ws.sum := by
  have sg := (sum_ge hw.w1).1
  obtain ⟨okT, _⟩ := turns_ok hw ws.sum.toNat (by omega)
  show (((turnsTo ws ws.sum.toNat).2.length : Nat) : Int) = _
  rw [okT.wl]
  omega
def sp_Deal_h___init__ (K : PySem.W.Frag) (C : Addr) : Sp := SpI K C ["wheel", "weights"] (fun x : List Int => [.vw (x.map .int)]) WOk (fun x => [.lst (((turnsM x).map .int).map .fz), .lst ((x.map .int).map .fz)])
abbrev N_Deal_h___init__ : List Str := ["self", "weights"]
theorem sc_Deal_h___init__ : FnScope N_Deal_h___init__ ["self", "weights"] (defScope s_Deal___init__) := ⟨rfl, rfl, rfl, by decide +kernel, rfl, by decide +kernel, by decide +kernel⟩
theorem ok_Deal_h___init__ {f : Addr} {fd : FuncData} (F : Fun K "__init__" "Deal.__init__" s_Deal___init__ f fd) (z_list : mg "list" = none) (o_Deal : OC K C_Deal ["wheel", "weights"]) (c_turns_h : Fn1 P w K mg base "turns" 3 ["weights"] (sp_turns_h K)) : FnOk P w K mg base CX0 4 f fd ["self", "weights"] (sp_Deal_h___init__ K C_Deal) := by
  refine fn_mI F sc_Deal_h___init__ (fun x => rfl) (fun x _ => ?_) fun cdv A outer s H E hr l ws hw => ?_
  · show (O.nvL _ && (O.nvL _ && true)) = true
    rw [O.nvL_fz, O.nvL_fz]
    rfl
  have e2 : nsPut ["wheel"] "weights" = (["wheel", "weights"] : List Str) := by decide +kernel
  have e3 : ∀ a b : O, xsPut ["wheel"] "weights" [a] b = [a, b] := fun a b => by
    unfold xsPut
    rw [if_neg (by decide +kernel)]
    rfl
  refine ms_cons (m_setFld (i := 0) (pv _) rfl (cc := o_Deal) (he := me_fn c_turns_h ws (ma_vw (ml_var (pv 1) rfl) ma_nil) hw (hr.mono (by decide))) (kk := ?_))
  show MS _ [some (.at l C_Deal ["wheel"] [.lst (((turnsM ws).map .int).map .fz)]), some (.vw (ws.map .int))] _ _
  refine ms_one (m_setFld (i := 0) (pv _) rfl (cc := o_Deal) (he := me_list (by rfl) z_list (ml_var (pv 1) rfl)) (kk := ?_))
  rw [e2, e3]
  rfl
inductive Xc where
  | NoShares
abbrev t_Xc (C_NoShares : Addr) : Xc → Er
  | .NoShares => ⟨C_NoShares, none⟩
abbrev r_Deal (C_Deal : Addr) (p : ((List Int) × (List D))) : D := .ins C_Deal ["wheel", "weights"] [.lst (p.1.map D.int), .lst (p.2.map e_d)]
noncomputable def M_is_whole (thing : D) : Option Bool :=
  bd (isiD "int" thing) fun k1 =>
  bd (cond k1 (bd (isiD "bool" thing) fun k2 => some (!k2)) (some false)) fun v3 =>
  some v3
def sp_is_whole (K : PySem.W.Frag) : Sp := SpF K (fun x : D => [.fz x]) (fun x => M_is_whole x) (fun r => .fz (.bl r))
abbrev N_is_whole : List Str := ["thing"]
theorem sc_is_whole : FnScope N_is_whole ["thing"] (defScope s_is_whole) := ⟨rfl, rfl, rfl, by decide +kernel, rfl, by decide +kernel, by decide +kernel⟩
theorem ok_is_whole {f : Addr} {fd : FuncData} (F : Fun K "is_whole" "is_whole" s_is_whole f fd) (z_isinstance : mg "isinstance" = none) (z_int : mg "int" = none) (z_bool : mg "bool" = none) : FnOk P w K mg base CX0 1 f fd ["thing"] (sp_is_whole K) := by
  refine fn_m F sc_is_whole (fun x => rfl) (fun x _ => rfl) fun cdv A outer s H E hr x hx => ?_
  obtain ⟨thing, r⟩ := x
  replace hx : M_is_whole thing = some r := hx
  have nd := sc_is_whole.nd
  unfold M_is_whole at hx
  show MS _ [some (.fz thing)] _ _
  replace hx := bd_some hx
  obtain ⟨k1, hk1, hx⟩ := hx
  replace hx := bd_some hx
  obtain ⟨v3, hv3, hx⟩ := hx
  refine ms_one (m_ret (ps_ret pe_w) (ME.r (ME.isB (me_and (me_isiD (T := "int") hk1 (by rfl) z_isinstance (pe_bltn (v := .ty "int") (by rfl) z_int (by decide +kernel) rfl) (mv_var (pv 0) rfl)) fun q4 => (by have hx := cond_t hv3 q4; replace hx := bd_some hx; obtain ⟨k2, hk2, hx⟩ := hx; cases hx; exact (me_one (me_not (me_isiD (T := "bool") hk2 (by rfl) z_isinstance (pe_bltn (v := .ty "bool") (by rfl) z_bool (by decide +kernel) rfl) (mv_var (pv 0) rfl)))))) (and_c hv3))) ?_)
  cases hx; rfl

noncomputable def M_total_of (weights : D) : Option (Xr Xc Int) :=
  bd (isiD "list" weights) fun k1 =>
  cond (!k1) (some (.er .NoShares)) <|
  bd (asLD weights) fun l2 =>
  bd (cond (decide ((l2.length : Int) < 1)) (some true) (bd (asLD weights) fun l3 => some (decide (8 < (l3.length : Int))))) fun v4 =>
  cond v4 (some (.er .NoShares)) <|
  bd (asLD weights) fun l6 =>
  bd (lpO (fun (x8 : D) (p7 : Unit) => (bd (M_is_whole x8) fun v10 =>
    bd (cond (!v10) (some true) (bd (asI x8) fun v11 => some (decide (v11 < 1)))) fun v12 =>
    cond v12 (some (.rt (.er .NoShares))) <|
    some (.nx ()) : Option (Ou (Unit) (Unit) (Xr Xc Int)))) l6 ()) fun o9 => ouR o9 fun p7 =>
  bd (asLD weights) fun l14 =>
  bd (mpO asI l14) fun v15 =>
  cond (decide (100 < v15.sum)) (some (.er .NoShares)) <|
  some (.ok v15.sum)
def sp_total_of (K : PySem.W.Frag) (C_NoShares : Addr) : Sp := SpFE K (fun x : D => [.fz x]) (fun x => M_total_of x) (t_Xc C_NoShares) (fun r => .fz (.int r))
abbrev N_total_of : List Str := ["weights", "weight", "total"]
theorem sc_total_of : FnScope N_total_of ["weights"] (defScope s_total_of) := ⟨rfl, rfl, rfl, by decide +kernel, rfl, by decide +kernel, by decide +kernel⟩
theorem ok_total_of {f : Addr} {fd : FuncData} (F : Fun K "total_of" "total_of" s_total_of f fd) (z_isinstance : mg "isinstance" = none) (z_list : mg "list" = none) (z_len : mg "len" = none) (z_sum : mg "sum" = none) (g_MOST_PLACES : mg "MOST_PLACES" = some (.int 8 tkMOST_PLACES)) (g_MOST_TURNS : mg "MOST_TURNS" = some (.int 100 tkMOST_TURNS)) (x_NoShares : XcC K mg "NoShares" C_NoShares) (c_is_whole : Fn1 P w K mg base "is_whole" 1 ["thing"] (sp_is_whole K)) : FnOk P w K mg base (L2N.CX P w) 2 f fd ["weights"] (sp_total_of K C_NoShares) := by
  refine fn_mE F sc_total_of (fun x => rfl) (fun x _ => exO_nv (fun _ => rfl) x.2) fun cdv A outer s H E hr po x hx => ?_
  obtain ⟨weights, r⟩ := x
  replace hx : M_total_of weights = some r := hx
  have nd := sc_total_of.nd
  unfold M_total_of at hx
  show MS _ [some (.fz weights), none, none] _ _
  replace hx := bd_some hx
  obtain ⟨k1, hk1, hx⟩ := hx
  refine ms_cons (m_if (t := (!k1)) (mt_not (mt_val (me_isiD (T := "list") hk1 (by rfl) z_isinstance (pe_bltn (v := .ty "list") (by rfl) z_list (by decide +kernel) rfl) (mv_var (pv 0) rfl)))) (fun h => ?_) fun h => ms_nil ?_)
  · replace hx := cond_t hx h
    refine ms_one (m_raise (pm_own x_NoShares) ?_)
    cases hx; rfl
  replace hx := cond_f hx h
  replace hx := bd_some hx
  obtain ⟨l2, hl2, hx⟩ := hx
  replace hx := bd_some hx
  obtain ⟨v4, hv4, hx⟩ := hx
  refine ms_cons (m_if (t := v4) (MW.t (MW.is (mw_or (mt_lt (me_lenLT (xs := l2) (enc := e_d) (by rfl) z_len (MV.l (ME.v (ME.is (o' := .fz (.lst (l2.map e_d))) (me_var (pv 0) rfl) (asLD_is hl2))) (.fz _))) me_int) fun q5 => (by have hx := cond_f hv4 q5; replace hx := bd_some hx; obtain ⟨l3, hl3, hx⟩ := hx; cases hx; exact (mw_or1 (mt_gt (me_lenLT (xs := l3) (enc := e_d) (by rfl) z_len (MV.l (ME.v (ME.is (o' := .fz (.lst (l3.map e_d))) (me_var (pv 0) rfl) (asLD_is hl3))) (.fz _))) (me_gI g_MOST_PLACES))))) (or_c hv4))) (fun h => ?_) fun h => ms_nil ?_)
  · replace hx := cond_t hx h
    refine ms_one (m_raise (pm_own x_NoShares) ?_)
    cases hx; rfl
  replace hx := cond_f hx h
  replace hx := bd_some hx
  obtain ⟨l6, hl6, hx⟩ := hx
  replace hx := bd_some hx
  obtain ⟨o9, ho9, hx⟩ := hx
  refine ms_cons (m_forO (xs := l6) (enc := e_d) (ps_for po rfl (pi_list pe_w) (pg_name (i := 1) nd rfl (Or.inl rfl)) pss_w) (by exact (mi_list (ds := l6.map e_d) (ME.k (ME.is (o' := .fz (.lst (l6.map e_d))) (me_var (pv 0) rfl) (asLD_is hl6))))) ho9 (fun p7 => [some (.fz weights), none, none]) (fun r => exO (t_Xc C_NoShares) (fun r => .fz (.int r)) r) le_auto (fun x8 p7 p7o mx hx => ?_) (fun p7 τ e le => ?_) fun q e => ?_)
  ·
    refine ⟨_, _, mg_name, ?_⟩
    show MS _ [some (.fz weights), some (.fz x8), none] _ _
    replace hx := bd_some hx
    obtain ⟨v10, hv10, hx⟩ := hx
    replace hx := bd_some hx
    obtain ⟨v12, hv12, hx⟩ := hx
    refine ms_one (m_if (t := v12) (MW.t (MW.is (mw_or (mt_not (mt_val (me_fn c_is_whole (x8, v10) (ma_fz (me_var (pv 1) rfl) ma_nil) hv10 (hr.mono (by decide))))) fun q13 => (by have hx := cond_f hv12 q13; replace hx := bd_some hx; obtain ⟨v11, hv11, hx⟩ := hx; cases hx; exact (mw_or1 (mt_lt (ME.is (o' := .fz (.int v11)) (me_var (pv 1) rfl) (asI_is hv11)) me_int)))) (or_c hv12))) (fun h => ?_) fun h => ms_nil ?_)
    · replace hx := cond_t hx h
      refine ms_one (m_raise (pm_own x_NoShares) ?_)
      cases hx; exact ⟨_, rfl, rfl⟩
    replace hx := cond_f hx h
    cases hx; exact ⟨_, rfl, le_auto⟩
  · subst e
    dsimp only [ouR] at hx
    refine ms_le le ?_
    show MS _ [some (.fz weights), none, none] _ _
    replace hx := bd_some hx
    obtain ⟨l14, hl14, hx⟩ := hx
    replace hx := bd_some hx
    obtain ⟨v15, hv15, hx⟩ := hx
    refine ms_cons (m_set (ps_set (i := 2) nd rfl (Or.inl rfl) pe_w) (me_sum (ns := v15) rfl (by rfl) z_sum (ML.as17 (MV.l (ME.v (ME.is (o' := .fz (.lst (l14.map e_d))) (me_var (pv 0) rfl) (asLD_is hl14))) (.fz _)) (mpI17 hv15))) ?_)
    show MS _ [some (.fz weights), none, some (.fz (.int v15.sum))] _ _
    refine ms_cons (m_if (t := (decide (100 < v15.sum))) (mt_gt (me_var (pv 2) rfl) (me_gI g_MOST_TURNS)) (fun h => ?_) fun h => ms_nil ?_)
    · replace hx := cond_t hx h
      refine ms_one (m_raise (pm_own x_NoShares) ?_)
      cases hx; rfl
    replace hx := cond_f hx h
    refine ms_one (m_ret (ps_ret pe_w) (ME.r (me_var (pv 2) rfl)) ?_)
    cases hx; rfl
  · subst e; cases hx; rfl

noncomputable def M_due_by (given : Int) (weight : Int) (total : Int) : Option Int :=
  gd (CMul (-(given + 1)) total) <|
  gd (CDiv ((-(given + 1)) * total) weight) <|
  some (-(((-(given + 1)) * total) / weight))
def sp_due_by (K : PySem.W.Frag) : Sp := SpF K (fun x : Int × Int × Int => [.fz (.int x.1), .fz (.int x.2.1), .fz (.int x.2.2)]) (fun x => M_due_by x.1 x.2.1 x.2.2) (fun r => .fz (.int r))
abbrev N_due_by : List Str := ["given", "weight", "total"]
theorem sc_due_by : FnScope N_due_by ["given", "weight", "total"] (defScope s_due_by) := ⟨rfl, rfl, rfl, by decide +kernel, rfl, by decide +kernel, by decide +kernel⟩
theorem ok_due_by {f : Addr} {fd : FuncData} (F : Fun K "due_by" "due_by" s_due_by f fd)  : FnOk P w K mg base CX0 1 f fd ["given", "weight", "total"] (sp_due_by K) := by
  refine fn_m F sc_due_by (fun x => rfl) (fun x _ => rfl) fun cdv A outer s H E hr x hx => ?_
  obtain ⟨⟨given, weight, total⟩, r⟩ := x
  replace hx : M_due_by given weight total = some r := hx
  have nd := sc_due_by.nd
  unfold M_due_by at hx
  show MS _ [some (.fz (.int given)), some (.fz (.int weight)), some (.fz (.int total))] _ _
  replace hx := gd_some hx
  obtain ⟨g1, hx⟩ := hx
  replace hx := gd_some hx
  obtain ⟨g2, hx⟩ := hx
  refine ms_one (m_ret (ps_ret pe_w) (ME.r (me_neg (me_fdiv (me_mul (me_neg (me_add (me_var (pv 0) rfl) me_int)) (me_var (pv 2) rfl) g1) (me_var (pv 1) rfl) g2))) ?_)
  cases hx; rfl

abbrev e_N_i (p : (Option Int)) : D := match p with
  | some v => .int v
  | none => .non
noncomputable def M_next_place (weights : D) (given : (List Int)) (total : Int) (n_0 : Int) : Option (Option Int) :=
  bd (asLD weights) fun l1 =>
  gd (-(2 ^ 62) ≤ (l1.length : Int) ∧ (l1.length : Int) < 2 ^ 62) <|
  bd (lp (fun (x4 : Nat) (p3 : (Option Int) × Int) => (bd (L2.atI given (x4 : Int)) fun v6 =>
    gd (CMul v6 total) <|
    bd (ixD weights (x4 : Int)) fun v8 =>
    bd (asI v8) fun v9 =>
    gd (CMul v9 (n_0 + 1)) <|
    cond (decide ((v6 * total) < (v9 * (n_0 + 1)))) (bd (L2.atI given (x4 : Int)) fun v11 =>
      bd (ixD weights (x4 : Int)) fun v12 =>
      bd (asI v12) fun v13 =>
      bd (M_due_by v11 v13 total) fun v14 =>
      cond ((p3.1.isNone) || (decide (v14 < p3.2))) (lt (some (x4 : Int)) fun best =>
        some (best, v14)) (some (p3.1, p3.2))) (some (p3.1, p3.2)) : Option ((Option Int) × Int))) (List.range (l1.length : Int).toNat) (none, 0)) fun p5 =>
  some p5.1
def sp_next_place (K : PySem.W.Frag) : Sp := SpF K (fun x : D × (List Int) × Int × Int => [.fz x.1, .vw (x.2.1.map D.int), .fz (.int x.2.2.1), .fz (.int x.2.2.2)]) (fun x => M_next_place x.1 x.2.1 x.2.2.1 x.2.2.2) (fun r => .fz (e_N_i r))
abbrev N_next_place : List Str := ["weights", "given", "total", "n", "best", "soonest", "place", "due"]
theorem sc_next_place : FnScope N_next_place ["weights", "given", "total", "n"] (defScope s_next_place) := ⟨rfl, rfl, rfl, by decide +kernel, rfl, by decide +kernel, by decide +kernel⟩
theorem ok_next_place {f : Addr} {fd : FuncData} (F : Fun K "next_place" "next_place" s_next_place f fd) (z_range : mg "range" = none) (z_len : mg "len" = none) (c_due_by : Fn1 P w K mg base "due_by" 1 ["given", "weight", "total"] (sp_due_by K)) : FnOk P w K mg base CX0 2 f fd ["weights", "given", "total", "n"] (sp_next_place K) := by
  refine fn_m F sc_next_place (fun x => rfl) (fun x _ => rfl) fun cdv A outer s H E hr x hx => ?_
  obtain ⟨⟨weights, given, total, n_0⟩, r⟩ := x
  replace hx : M_next_place weights given total n_0 = some r := hx
  have nd := sc_next_place.nd
  unfold M_next_place at hx
  show MS _ [some (.fz weights), some (.vw (given.map D.int)), some (.fz (.int total)), some (.fz (.int n_0)), none, none, none, none] _ _
  refine ms_cons (m_set (ps_set (i := 4) nd rfl (Or.inl rfl) pe_w) me_non ?_)
  show MS _ [some (.fz weights), some (.vw (given.map D.int)), some (.fz (.int total)), some (.fz (.int n_0)), some (.fz (e_N_i none)), none, none, none] _ _
  refine ms_cons (m_set (ps_set (i := 5) nd rfl (Or.inl rfl) pe_w) me_int ?_)
  show MS _ [some (.fz weights), some (.vw (given.map D.int)), some (.fz (.int total)), some (.fz (.int n_0)), some (.fz (e_N_i none)), some (.fz (.int (0 : Int))), none, none] _ _
  replace hx := bd_some hx
  obtain ⟨l1, hl1, hx⟩ := hx
  replace hx := gd_some hx
  obtain ⟨g2, hx⟩ := hx
  replace hx := bd_some hx
  obtain ⟨p5, hp5, hx⟩ := hx
  refine ms_cons (m_forP (xs := (List.range (l1.length : Int).toNat)) (enc := (fun k : Nat => D.int (k : Nat))) (ps_for PassesOwn.never rfl (pi_range1 (by rfl) z_range pa_w) (pg_name (i := 6) nd rfl (Or.inl rfl)) pss_w) (by exact (mi_rangeT (mf_cons (me_lenLT (xs := l1) (enc := e_d) (by rfl) z_len (MV.l (ME.v (ME.is (o' := .fz (.lst (l1.map e_d))) (me_var (pv 0) rfl) (asLD_is hl1))) (.fz _))) mf_nil) g2)) hp5 (fun p3 => [some (.fz weights), some (.vw (given.map D.int)), some (.fz (.int total)), some (.fz (.int n_0)), some (.fz (e_N_i p3.1)), some (.fz (.int p3.2)), none, none]) le_auto (fun x4 p3 p3o mx hx => ?_) fun τ le => ?_)
  ·
    refine ⟨_, _, mg_name, ?_⟩
    show MS _ [some (.fz weights), some (.vw (given.map D.int)), some (.fz (.int total)), some (.fz (.int n_0)), some (.fz (e_N_i p3.1)), some (.fz (.int p3.2)), some (.fz (.int (x4 : Int))), none] _ _
    replace hx := bd_some hx
    obtain ⟨v6, hv6, hx⟩ := hx
    replace hx := gd_some hx
    obtain ⟨g7, hx⟩ := hx
    replace hx := bd_some hx
    obtain ⟨v8, hv8, hx⟩ := hx
    replace hx := bd_some hx
    obtain ⟨v9, hv9, hx⟩ := hx
    replace hx := gd_some hx
    obtain ⟨g10, hx⟩ := hx
    refine ms_one (m_if (t := (decide ((v6 * total) < (v9 * (n_0 + 1))))) (mt_lt (me_mul (me_ixLT (xs := given) (enc := D.int) hv6 (ml_var (pv 1) rfl) (me_var (pv 6) rfl)) (me_var (pv 2) rfl) g7) (me_mul (ME.is (o' := .fz (.int v9)) (me_ixD hv8 (me_var (pv 0) rfl) (me_var (pv 6) rfl)) (asI_is hv9)) (me_add (me_var (pv 3) rfl) me_int) g10)) (fun h => ?_) fun h => ?_)
    · replace hx := cond_t hx h
      replace hx := bd_some hx
      obtain ⟨v11, hv11, hx⟩ := hx
      replace hx := bd_some hx
      obtain ⟨v12, hv12, hx⟩ := hx
      replace hx := bd_some hx
      obtain ⟨v13, hv13, hx⟩ := hx
      replace hx := bd_some hx
      obtain ⟨v14, hv14, hx⟩ := hx
      refine ms_cons (m_set (ps_set (i := 7) nd rfl (Or.inl rfl) pe_w) (me_fn c_due_by ((v11, v13, total), v14) (ma_fz (me_ixLT (xs := given) (enc := D.int) hv11 (ml_var (pv 1) rfl) (me_var (pv 6) rfl)) (ma_fz (ME.is (o' := .fz (.int v13)) (me_ixD hv12 (me_var (pv 0) rfl) (me_var (pv 6) rfl)) (asI_is hv13)) (ma_fz (me_var (pv 2) rfl) ma_nil))) hv14 (hr.mono (by decide))) ?_)
      show MS _ [some (.fz weights), some (.vw (given.map D.int)), some (.fz (.int total)), some (.fz (.int n_0)), some (.fz (e_N_i p3.1)), some (.fz (.int p3.2)), some (.fz (.int (x4 : Int))), some (.fz (.int v14))] _ _
      refine ms_one (m_if (t := ((p3.1.isNone) || (decide (v14 < p3.2)))) (MW.t (mw_or (MT.is (l := (p3.1.isNone)) (mt_isN (mv_var (pv 4) rfl)) (by cases p3.1 <;> rfl)) fun _ => (mw_or1 (mt_lt (me_var (pv 7) rfl) (me_var (pv 5) rfl))))) (fun h => ?_) fun h => ?_)
      · replace hx := cond_t hx h
        replace hx := lt_some hx
        obtain ⟨best, ebest, hx⟩ := hx
        refine ms_cons (m_set (ps_set (i := 4) nd rfl (Or.inl rfl) pe_w) (ME.is (o' := (.fz (e_N_i best))) (me_var (pv 6) rfl) (by rw [ebest] <;> rfl)) ?_)
        show MS _ [some (.fz weights), some (.vw (given.map D.int)), some (.fz (.int total)), some (.fz (.int n_0)), some (.fz (e_N_i best)), some (.fz (.int p3.2)), some (.fz (.int (x4 : Int))), some (.fz (.int v14))] _ _
        refine ms_one (m_set (ps_set (i := 5) nd rfl (Or.inl rfl) pe_w) (me_var (pv 7) rfl) ?_)
        cases hx; exact le_auto
      · replace hx := cond_f hx h
        refine ms_nil ?_
        cases hx; exact le_auto
    · replace hx := cond_f hx h
      refine ms_nil ?_
      cases hx; exact le_auto
  refine ms_le le ?_
  show MS _ [some (.fz weights), some (.vw (given.map D.int)), some (.fz (.int total)), some (.fz (.int n_0)), some (.fz (e_N_i p5.1)), some (.fz (.int p5.2)), none, none] _ _
  refine ms_one (m_ret (ps_ret pe_w) (ME.r (me_var (pv 4) rfl)) ?_)
  cases hx; rfl

noncomputable def M_turns (weights : D) : Option (Xr Xc (List Int)) :=
  bdx (M_total_of weights) fun v1 =>
  bd (asLD weights) fun l3 =>
  gd (l3.length < sizeLine) <|
  bd (mpO (fun x5 : D => some (0 : Int)) l3) fun v6 =>
  lt ([] : List Int) fun wheel =>
  gd (-(2 ^ 62) ≤ v1 ∧ v1 < 2 ^ 62) <|
  bd (lp (fun (x9 : Nat) (p8 : (List Int) × (List Int)) => (bd (M_next_place weights p8.1 v1 (x9 : Int)) fun v11 =>
    bd v11 fun v12 =>
    bd (L2.atI p8.1 v12) fun v13 =>
    bd v11 fun v14 =>
    bd (ixN p8.1.length v14) fun j15 =>
    lt (p8.1.set j15 (v13 + 1)) fun given =>
    bd v11 fun v16 =>
    gd (p8.2.length < sizeLine) <|
    lt (p8.2 ++ [v16]) fun wheel_1 =>
    some (given, wheel_1) : Option ((List Int) × (List Int)))) (List.range v1.toNat) (v6, wheel)) fun p10 =>
  some (.ok p10.2)
def sp_turns (K : PySem.W.Frag) (C_NoShares : Addr) : Sp := SpFE K (fun x : D => [.fz x]) (fun x => M_turns x) (t_Xc C_NoShares) (fun r => .lst ((r.map D.int).map .fz))
abbrev N_turns : List Str := ["weights", "total", "given", "wheel", "n", "place", "weight"]
theorem sc_turns : FnScope N_turns ["weights"] (defScope s_turns) := ⟨rfl, rfl, rfl, by decide +kernel, rfl, by decide +kernel, by decide +kernel⟩
theorem ok_turns {f : Addr} {fd : FuncData} (F : Fun K "turns" "turns" s_turns f fd) (z_range : mg "range" = none) (c_total_of : Fn1E P w K mg base "total_of" 2 ["weights"] (sp_total_of K C_NoShares)) (c_next_place : Fn1 P w K mg base "next_place" 2 ["weights", "given", "total", "n"] (sp_next_place K)) : FnOk P w K mg base (L2N.CX P w) 3 f fd ["weights"] (sp_turns K C_NoShares) := by
  refine fn_mE F sc_turns (fun x => rfl) (fun x _ => exO_nv (by intro _; exact O.nvL_fz _) x.2) fun cdv A outer s H E hr po x hx => ?_
  obtain ⟨weights, r⟩ := x
  replace hx : M_turns weights = some r := hx
  have nd := sc_turns.nd
  unfold M_turns at hx
  show MS _ [some (.fz weights), none, none, none, none, none, none] _ _
  rcases bdx_some hx with ⟨xe2, hv1, hx⟩ | ⟨v1, hv1, hx⟩
  · refine ms_cons (m_rzAsg (ps_set (i := 1) nd rfl (Or.inl rfl) pe_w) (mz_fn c_total_of (weights, .er xe2) (ma_fz (me_var (pv 0) rfl) ma_nil) hv1 (hr.mono (by decide))) ?_)
    cases hx; rfl
  refine ms_cons (m_set (ps_set (i := 1) nd rfl (Or.inl rfl) pe_w) (me_fn (Fn1E.ok c_total_of) (weights, .ok v1) (ma_fz (me_var (pv 0) rfl) ma_nil) ⟨hv1, (by intro _ z; cases z)⟩ (hr.mono (by decide))) ?_)
  show MS _ [some (.fz weights), some (.fz (.int v1)), none, none, none, none, none] _ _
  replace hx := bd_some hx
  obtain ⟨l3, hl3, hx⟩ := hx
  replace hx := gd_some hx
  obtain ⟨g4, hx⟩ := hx
  replace hx := bd_some hx
  obtain ⟨v6, hv6, hx⟩ := hx
  refine ms_cons (m_setLcO (i := 2) (g := (gName 6)) (xs := l3) (ys := v6) (enc := e_d) (enc2 := D.int) hv6 (fun te he => ps_setLc (i := 2) (own := [("weight", 6)]) rfl nd rfl rfl (sw_true rfl rfl rfl (by decide +kernel)) (pi_list pe_w) (blkOk_by (N := N_turns) (sc := defScope s_turns) (by decide +kernel)) (fun _ _ _ _ _ => (pg_name (i := 6) nd rfl (Or.inl rfl))) (fun _ _ _ _ _ => pts_nil) he) (mic_list (MV.l (ME.v (ME.is (o' := .fz (.lst (l3.map e_d))) (me_var (pv 0) rfl) (asLD_is hl3))) (.fz _))) g4 (fun x5 mx x5y hx => by injection hx with hx; subst x5y; exact ⟨_, _, mg_name, by decide, fun s H C cl fp => me_int⟩) ?_)
  show MS _ [some (.fz weights), some (.fz (.int v1)), some (.lst ((v6.map D.int).map .fz)), none, none, none, none] _ _
  replace hx := lt_some hx
  obtain ⟨wheel, ewheel, hx⟩ := hx
  refine ms_cons (m_set (ps_set (i := 3) nd rfl (Or.inl rfl) pe_w) (ME.is (o' := (.lst ((wheel.map D.int).map .fz))) (me_lst (ds := [].map D.int) mf_nil) (by rw [ewheel] <;> rfl)) ?_)
  show MS _ [some (.fz weights), some (.fz (.int v1)), some (.lst ((v6.map D.int).map .fz)), some (.lst ((wheel.map D.int).map .fz)), none, none, none] _ _
  replace hx := gd_some hx
  obtain ⟨g7, hx⟩ := hx
  replace hx := bd_some hx
  obtain ⟨p10, hp10, hx⟩ := hx
  refine ms_cons (m_forP (xs := (List.range v1.toNat)) (enc := (fun k : Nat => D.int (k : Nat))) (ps_for po rfl (pi_range1 (by rfl) z_range pa_w) (pg_name (i := 4) nd rfl (Or.inl rfl)) pss_w) (by exact (mi_rangeT (mf_cons (me_var (pv 1) rfl) mf_nil) g7)) hp10 (fun p8 => [some (.fz weights), some (.fz (.int v1)), some (.lst ((p8.1.map D.int).map .fz)), some (.lst ((p8.2.map D.int).map .fz)), none, none, none]) le_auto (fun x9 p8 p8o mx hx => ?_) fun τ le => ?_)
  ·
    refine ⟨_, _, mg_name, ?_⟩
    show MS _ [some (.fz weights), some (.fz (.int v1)), some (.lst ((p8.1.map D.int).map .fz)), some (.lst ((p8.2.map D.int).map .fz)), some (.fz (.int (x9 : Int))), none, none] _ _
    replace hx := bd_some hx
    obtain ⟨v11, hv11, hx⟩ := hx
    refine ms_cons (m_set (ps_set (i := 5) nd rfl (Or.inl rfl) pe_w) (me_fn c_next_place ((weights, p8.1, v1, (x9 : Int)), v11) (ma_fz (me_var (pv 0) rfl) (ma_vw (ml_var (pv 2) rfl) (ma_fz (me_var (pv 1) rfl) (ma_fz (me_var (pv 4) rfl) ma_nil)))) hv11 (hr.mono (by decide))) ?_)
    show MS _ [some (.fz weights), some (.fz (.int v1)), some (.lst ((p8.1.map D.int).map .fz)), some (.lst ((p8.2.map D.int).map .fz)), some (.fz (.int (x9 : Int))), some (.fz (e_N_i v11)), none] _ _
    replace hx := bd_some hx
    obtain ⟨v12, hv12, hx⟩ := hx
    replace hx := bd_some hx
    obtain ⟨v13, hv13, hx⟩ := hx
    replace hx := bd_some hx
    obtain ⟨v14, hv14, hx⟩ := hx
    replace hx := bd_some hx
    obtain ⟨j15, hj15, hx⟩ := hx
    replace hx := lt_some hx
    obtain ⟨given, egiven, hx⟩ := hx
    refine ms_cons (m_setItemT (i := 2) (xs := p8.1) (enc := D.int) (y := (v13 + 1)) hj15 (pv _) rfl (ME.is (o' := .fz (.int v14)) (me_var (pv 5) rfl) (by rw [hv14])) (me_add (me_ixLT (xs := p8.1) (enc := D.int) hv13 (ml_var (pv 2) rfl) (ME.is (o' := .fz (.int v12)) (me_var (pv 5) rfl) (by rw [hv12]))) me_int) ?_)
    rw [← egiven]
    show MS _ [some (.fz weights), some (.fz (.int v1)), some (.lst ((given.map D.int).map .fz)), some (.lst ((p8.2.map D.int).map .fz)), some (.fz (.int (x9 : Int))), some (.fz (e_N_i v11)), none] _ _
    replace hx := bd_some hx
    obtain ⟨v16, hv16, hx⟩ := hx
    replace hx := gd_some hx
    obtain ⟨g17, hx⟩ := hx
    replace hx := lt_some hx
    obtain ⟨wheel_1, ewheel_1, hx⟩ := hx
    refine ms_one (m_appendT (i := 3) (xs := p8.2) (enc := D.int) (y := v16) g17 (pv _) rfl (ME.is (o' := .fz (.int v16)) (me_var (pv 5) rfl) (by rw [hv16])) ?_)
    rw [← ewheel_1]
    cases hx; exact le_auto
  refine ms_le le ?_
  show MS _ [some (.fz weights), some (.fz (.int v1)), some (.lst ((p10.1.map D.int).map .fz)), some (.lst ((p10.2.map D.int).map .fz)), none, none, none] _ _
  refine ms_one (m_ret (ps_ret pe_w) (mr_var (pv 3) rfl) ?_)
  cases hx; rfl

noncomputable def M_Deal___init__ (weights : D) : Option (Xr Xc ((List Int) × (List D))) :=
  bdx (M_turns weights) fun v1 =>
  bd (asLD weights) fun l3 =>
  some (.ok (v1, l3))
def sp_Deal___init__ (K : PySem.W.Frag) (C_Deal C_NoShares : Addr) : Sp := SpXE K (fun x : ((D) × Xr Xc ((List Int) × (List D))) => [.fz x.1]) (fun x => M_Deal___init__ x.1 = some x.2) (fun l x => .at l C_Deal [] []) (fun l x => atX l C_Deal ["wheel", "weights"] (fun t => [(.lst ((t.1.map D.int).map .fz)), (.lst ((t.2.map e_d).map .fz))]) x.2) (fun x => exO (t_Xc C_NoShares) (fun _ => .fz .non) x.2)
def spI_Deal___init__ (K : PySem.W.Frag) (C_Deal C_NoShares : Addr) : Sp := SpIE K C_Deal ["wheel", "weights"] (fun x : ((D) × Xr Xc ((List Int) × (List D))) => [.fz x.1]) (fun x => M_Deal___init__ x.1 = some x.2) (fun x => osX (fun t => [(.lst ((t.1.map D.int).map .fz)), (.lst ((t.2.map e_d).map .fz))]) x.2) (fun x => erX (t_Xc C_NoShares) x.2)
theorem toI_Deal___init__ {k : Nat} {f : Addr} {fd : FuncData} {ps : List Str} {C_Deal C_NoShares : Addr} (h : FnOk P w K mg base (L2N.CX P w) k f fd ps (sp_Deal___init__ K C_Deal C_NoShares)) : FnOk P w K mg base (L2N.CX P w) k f fd ps (spI_Deal___init__ K C_Deal C_NoShares) := SpXE.init (fun y => y) h (fun _ => rfl) (fun _ h => h) (fun _ _ => rfl) (fun _ y h => atX_ok y.2 h) (fun y => erX_ex y.2)
abbrev N_Deal___init__ : List Str := ["self", "weights"]
theorem sc_Deal___init__ : FnScope N_Deal___init__ ["self", "weights"] (defScope s_Deal___init__) := ⟨rfl, rfl, rfl, by decide +kernel, rfl, by decide +kernel, by decide +kernel⟩
theorem ok_Deal___init__ {f : Addr} {fd : FuncData} (F : Fun K "__init__" "Deal.__init__" s_Deal___init__ f fd) (z_list : mg "list" = none) (o_Deal : OC K C_Deal ["wheel", "weights"]) (c_turns : Fn1E P w K mg base "turns" 3 ["weights"] (sp_turns K C_NoShares)) : FnOk P w K mg base (L2N.CX P w) 4 f fd ["self", "weights"] (sp_Deal___init__ K C_Deal C_NoShares) := by
  refine fn_mXE F sc_Deal___init__ (fun x => rfl) (fun l x _ => atX_nv (fun _ => by simp only [O.nv, O.nvL, O.nvL_fz, Bool.and_self]) x.2) (fun x _ => exO_nv (fun _ => rfl) x.2) (fun l x => atX_at x.2) fun cdv A outer s H E hr po l x hx => ?_
  obtain ⟨weights, r⟩ := x
  replace hx : M_Deal___init__ weights = some r := hx
  have nd := sc_Deal___init__.nd
  unfold M_Deal___init__ at hx
  show MS _ [some (.at l C_Deal [] []), some (.fz weights)] _ _
  rcases bdx_some hx with ⟨xe2, hv1, hx⟩ | ⟨v1, hv1, hx⟩
  · refine ms_cons (m_rzFld (i := 0) (pv _) (mz_fn c_turns (weights, .er xe2) (ma_fz (me_var (pv 1) rfl) ma_nil) hv1 (hr.mono (by decide))) ?_)
    cases hx; exact ⟨rfl, _, rfl⟩
  refine ms_cons (m_setFldN (i := 0) (pv _) rfl o_Deal (me_fn (Fn1E.ok c_turns) (weights, .ok v1) (ma_fz (me_var (pv 1) rfl) ma_nil) ⟨hv1, (by intro _ z; cases z)⟩ (hr.mono (by decide))) ?_)
  show MS _ [some (.at l C_Deal ["wheel"] [(.lst ((v1.map D.int).map .fz))]), some (.fz weights)] _ _
  replace hx := bd_some hx
  obtain ⟨l3, hl3, hx⟩ := hx
  refine ms_one (m_setFldN (i := 0) (pv _) rfl o_Deal (me_list (ds := l3.map e_d) (by rfl) z_list (MV.l (ME.v (ME.is (o' := .fz (.lst (l3.map e_d))) (me_var (pv 1) rfl) (asLD_is hl3))) (.fz _))) ?_)
  cases hx; exact ⟨rfl, rfl⟩
noncomputable def M__law_other : Option Bool :=
  lt [false, false, false, false] fun some_0 =>
  gd (some_0.length + [false, false, false, false].length ≤ sizeLine) <|
  lt (some_0 ++ [false, false, false, false]) fun some_1 =>
  gd (some_1.length + [false, false, false].length ≤ sizeLine) <|
  lt (some_1 ++ [false, false, false]) fun some_2 =>
  gd (some_2.length + [false, false].length ≤ sizeLine) <|
  some (((some_2 ++ [false, false]).contains true))
def sp__law_other (K : PySem.W.Frag) (C_NoShares : Addr) : Addr × Obj → Sp := fun p => SpM K (fun _ : Bool => [.pt p.1]) (fun r => M__law_other = some r ∧ L2N.Zn (.ref C_NoShares) none p.2 ∧ ∃ vs, p.2.data = .fields vs) (fun r => .fz (.bl r))
abbrev N__law_other : List Str := ["_law_e", "_law_some"]
theorem sc__law_other : FnScope N__law_other ["_law_e"] (defScope s__law_other) := ⟨rfl, rfl, rfl, by decide +kernel, rfl, by decide +kernel, by decide +kernel⟩
theorem ok__law_other {f : Addr} {fd : FuncData} (F : Fun K "_law_other" "_law_other" s__law_other f fd) (z_isinstance : mg "isinstance" = none) (w_NoShares : ExcC K C_NoShares) (e_NoAmount : mg "NoAmount" = some (.ref C_NoAmount)) (q_NoShares_NoAmount : PySem.W.kitOne K (.ref C_NoShares) (.ref C_NoAmount) = some false) (e_NoEntry : mg "NoEntry" = some (.ref C_NoEntry)) (q_NoShares_NoEntry : PySem.W.kitOne K (.ref C_NoShares) (.ref C_NoEntry) = some false) (e_NoWords : mg "NoWords" = some (.ref C_NoWords)) (q_NoShares_NoWords : PySem.W.kitOne K (.ref C_NoShares) (.ref C_NoWords) = some false) (e_TooDeep : mg "TooDeep" = some (.ref C_TooDeep)) (q_NoShares_TooDeep : PySem.W.kitOne K (.ref C_NoShares) (.ref C_TooDeep) = some false) (e_NoClause : mg "NoClause" = some (.ref C_NoClause)) (q_NoShares_NoClause : PySem.W.kitOne K (.ref C_NoShares) (.ref C_NoClause) = some false) (e_NoCover : mg "NoCover" = some (.ref C_NoCover)) (q_NoShares_NoCover : PySem.W.kitOne K (.ref C_NoShares) (.ref C_NoCover) = some false) (e_NoBook : mg "NoBook" = some (.ref C_NoBook)) (q_NoShares_NoBook : PySem.W.kitOne K (.ref C_NoShares) (.ref C_NoBook) = some false) (e_Twice : mg "Twice" = some (.ref C_Twice)) (q_NoShares_Twice : PySem.W.kitOne K (.ref C_NoShares) (.ref C_Twice) = some false) (e_Late : mg "Late" = some (.ref C_Late)) (q_NoShares_Late : PySem.W.kitOne K (.ref C_NoShares) (.ref C_Late) = some false) (e_NotTold : mg "NotTold" = some (.ref C_NotTold)) (q_NoShares_NotTold : PySem.W.kitOne K (.ref C_NoShares) (.ref C_NotTold) = some false) (e_TooWide : mg "TooWide" = some (.ref C_TooWide)) (q_NoShares_TooWide : PySem.W.kitOne K (.ref C_NoShares) (.ref C_TooWide) = some false) (e_NoText : mg "NoText" = some (.ref C_NoText)) (q_NoShares_NoText : PySem.W.kitOne K (.ref C_NoShares) (.ref C_NoText) = some false) (e_NoRow : mg "NoRow" = some (.ref C_NoRow)) (q_NoShares_NoRow : PySem.W.kitOne K (.ref C_NoShares) (.ref C_NoRow) = some false) : L2H.FnHP P w K mg base CX0 1 f fd ["_law_e"] (sp__law_other K C_NoShares) := by
  refine fn_mH F sc__law_other (fun p x => rfl) (fun p x _ => rfl) fun cdv A outer s H E p hr r hx => ?_
  obtain ⟨hx, hz, hf⟩ := hx
  have hin : p ∈ (L2H.cxH CX0 P w K mg base N__law_other "_law_other" (defScope s__law_other) f cdv A outer s H E p).pn := List.mem_cons_self
  have nd := sc__law_other.nd
  unfold M__law_other at hx
  show MS _ [some (.pt p.1), none] _ _
  replace hx := lt_some hx
  obtain ⟨some_0, esome_0, hx⟩ := hx
  refine ms_cons (m_set (ps_set (i := 1) nd rfl (Or.inl rfl) pe_w) (ME.is (o' := (.lst ((some_0.map D.bl).map .fz))) (me_lst (ds := [false, false, false, false].map D.bl) (mf_cons (me_isiP w_NoShares hin hz hf rfl z_isinstance e_NoAmount (pv 0) rfl q_NoShares_NoAmount) (mf_cons (me_isiP w_NoShares hin hz hf rfl z_isinstance e_NoEntry (pv 0) rfl q_NoShares_NoEntry) (mf_cons (me_isiP w_NoShares hin hz hf rfl z_isinstance e_NoWords (pv 0) rfl q_NoShares_NoWords) (mf_cons (me_isiP w_NoShares hin hz hf rfl z_isinstance e_TooDeep (pv 0) rfl q_NoShares_TooDeep) mf_nil))))) (by rw [esome_0] <;> rfl)) ?_)
  show MS _ [some (.pt p.1), some (.lst ((some_0.map D.bl).map .fz))] _ _
  replace hx := gd_some hx
  obtain ⟨g1, hx⟩ := hx
  replace hx := lt_some hx
  obtain ⟨some_1, esome_1, hx⟩ := hx
  refine ms_cons (m_set (ps_set (i := 1) nd rfl (Or.inl rfl) pe_w) (ME.is (o' := (.lst ((some_1.map D.bl).map .fz))) (me_catLT (xs := some_0) (ys := [false, false, false, false]) (enc := D.bl) g1 (mv_var (pv 1) rfl) (ME.v (me_lst (ds := [false, false, false, false].map D.bl) (mf_cons (me_isiP w_NoShares hin hz hf rfl z_isinstance e_NoClause (pv 0) rfl q_NoShares_NoClause) (mf_cons (me_isiP w_NoShares hin hz hf rfl z_isinstance e_NoCover (pv 0) rfl q_NoShares_NoCover) (mf_cons (me_isiP w_NoShares hin hz hf rfl z_isinstance e_NoBook (pv 0) rfl q_NoShares_NoBook) (mf_cons (me_isiP w_NoShares hin hz hf rfl z_isinstance e_Twice (pv 0) rfl q_NoShares_Twice) mf_nil))))))) (by rw [esome_1] <;> rfl)) ?_)
  show MS _ [some (.pt p.1), some (.lst ((some_1.map D.bl).map .fz))] _ _
  replace hx := gd_some hx
  obtain ⟨g2, hx⟩ := hx
  replace hx := lt_some hx
  obtain ⟨some_2, esome_2, hx⟩ := hx
  refine ms_cons (m_set (ps_set (i := 1) nd rfl (Or.inl rfl) pe_w) (ME.is (o' := (.lst ((some_2.map D.bl).map .fz))) (me_catLT (xs := some_1) (ys := [false, false, false]) (enc := D.bl) g2 (mv_var (pv 1) rfl) (ME.v (me_lst (ds := [false, false, false].map D.bl) (mf_cons (me_isiP w_NoShares hin hz hf rfl z_isinstance e_Late (pv 0) rfl q_NoShares_Late) (mf_cons (me_isiP w_NoShares hin hz hf rfl z_isinstance e_NotTold (pv 0) rfl q_NoShares_NotTold) (mf_cons (me_isiP w_NoShares hin hz hf rfl z_isinstance e_TooWide (pv 0) rfl q_NoShares_TooWide) mf_nil)))))) (by rw [esome_2] <;> rfl)) ?_)
  show MS _ [some (.pt p.1), some (.lst ((some_2.map D.bl).map .fz))] _ _
  replace hx := gd_some hx
  obtain ⟨g3, hx⟩ := hx
  refine ms_one (m_ret (ps_ret pe_w) (ME.r (me_inLT_b (xb := (some_2 ++ [false, false])) me_bl (ME.l (me_catLT (xs := some_2) (ys := [false, false]) (enc := D.bl) g3 (mv_var (pv 1) rfl) (ME.v (me_lst (ds := [false, false].map D.bl) (mf_cons (me_isiP w_NoShares hin hz hf rfl z_isinstance e_NoText (pv 0) rfl q_NoShares_NoText) (mf_cons (me_isiP w_NoShares hin hz hf rfl z_isinstance e_NoRow (pv 0) rfl q_NoShares_NoRow) mf_nil)))))))) ?_)
  cases hx; rfl
noncomputable def M__law_refused (way : Int) (thing : D) : Option Bool :=
  bd (cond ((way == 0)) (bdo (M_turns thing) fun v3 =>
      some (.nx ())) (bdo (M_Deal___init__ thing) fun v5 =>
      some (.nx ())) : Option (Ou (Unit) Unit (Xr Xc Bool))) fun o2 => tryR o2 (fun p1 =>
  some false) (fun r => some r) (fun xe => bd (cond true (bd (cond true (bd M__law_other fun v7 => some (!v7)) (some false)) fun v8 => some v8) (some false)) fun v10 =>
    some v10)
def sp__law_refused (K : PySem.W.Frag) : Sp := SpF K (fun x : Int × D => [.fz (.int x.1), .fz x.2]) (fun x => M__law_refused x.1 x.2) (fun r => .fz (.bl r))
abbrev N__law_refused : List Str := ["_law_way", "_law_thing", "_law_e"]
theorem sc__law_refused : FnScope N__law_refused ["_law_way", "_law_thing"] (defScope s__law_refused) := ⟨rfl, rfl, rfl, by decide +kernel, rfl, by decide +kernel, by decide +kernel⟩
theorem ok__law_refused {f : Addr} {fd : FuncData} (F : Fun K "_law_refused" "_law_refused" s__law_refused f fd) (z_isinstance : mg "isinstance" = none) (z_ValueError : mg "ValueError" = none) (e_CoverError : mg "CoverError" = some (.ref C_CoverError)) (v_NoShares_CoverError : PySem.W.exmOne K (.ref C_NoShares) (.ref C_CoverError) = some true) (c_turns : Fn1E P w K mg base "turns" 3 ["weights"] (sp_turns K C_NoShares)) (i_Deal : Mk1E P w K mg base "Deal" C_Deal 4 ["self", "weights"] (spI_Deal___init__ K C_Deal C_NoShares)) (e_NoShares : mg "NoShares" = some (.ref C_NoShares)) (w_NoShares : ExcC K C_NoShares) (q_NoShares_NoShares : PySem.W.kitOne K (.ref C_NoShares) (.ref C_NoShares) = some true) (q_NoShares_ValueError : PySem.W.kitOne K (.ref C_NoShares) (.type "ValueError") = some true) (c__law_other : Fn1H P w K mg base "_law_other" 1 ["_law_e"] (sp__law_other K C_NoShares)) : FnOk P w K mg base CX0 6 f fd ["_law_way", "_law_thing"] (sp__law_refused K) := by
  refine fn_m F sc__law_refused (fun x => rfl) (fun x _ => rfl) fun cdv A outer s H E hr x hx => ?_
  obtain ⟨⟨way, thing⟩, r⟩ := x
  replace hx : M__law_refused way thing = some r := hx
  have nd := sc__law_refused.nd
  unfold M__law_refused at hx
  show MS _ [some (.fz (.int way)), some (.fz thing), none] _ _
  replace hx := bd_some hx
  obtain ⟨o2, ho2, hx⟩ := hx
  refine ms_cons (m_tryO (i := 2) (out := o2) (fun p1 => [some (.fz (.int way)), some (.fz thing), none]) (t_Xc C_NoShares) (fun r => .fz (.bl r)) nd rfl rfl ⟨rfl, by decide, .inl e_CoverError⟩ (by intro _ _ z; cases z) (fun e => by cases e <;> rfl) (fun pn xe po => ?_) (fun _ e => ?_) (fun _ e => ?_) (fun q e => ?_) (fun e _ => (by cases e with | NoShares => exact v_NoShares_CoverError)) (fun xe e a oe pn hz hf => ?_) (fun p1 τ e le => ?_))
  · replace hx := ho2
    show MS _ [some (.fz (.int way)), some (.fz thing), none] _ _
    refine ms_one (m_if (t := ((way == 0))) (mt_eqI (me_var (pv 0) rfl) me_int) (fun h => ?_) fun h => ?_)
    · replace hx := cond_t hx h
      rcases bdo_some hx with ⟨xe4, hv3, hx⟩ | ⟨v3, hv3, hx⟩
      · refine ms_one (m_rzDrop (ps_expr pe_w) (mz_fn c_turns (thing, .er xe4) (ma_fz (me_var (pv 1) rfl) ma_nil) hv3 (hr.mono (by decide))) ?_)
        cases hx; exact ⟨_, rfl, rfl⟩
      refine ms_one (m_expr (ps_expr pe_w) (me_fn (Fn1E.ok c_turns) (thing, .ok v3) (ma_fz (me_var (pv 1) rfl) ma_nil) ⟨hv3, (by intro _ z; cases z)⟩ (hr.mono (by decide))) ?_)
      cases hx; exact ⟨_, rfl, le_auto⟩
    · replace hx := cond_f hx h
      rcases bdo_some hx with ⟨xe6, hv5, hx⟩ | ⟨v5, hv5, hx⟩
      · refine ms_one (m_rzDrop (ps_expr pe_w) (mz_make i_Deal (thing, .er xe6) (ma_fz (me_var (pv 1) rfl) ma_nil) hv5 (hr.mono (by decide))) ?_)
        cases hx; exact ⟨_, rfl, rfl⟩
      refine ms_one (m_expr (ps_expr pe_w) (ME.is (o' := .fz ((r_Deal C_Deal) v5)) (ME.frz (me_make (Mk1E.ok i_Deal) (thing, .ok v5) (ma_fz (me_var (pv 1) rfl) ma_nil) ⟨hv5, rfl⟩ (hr.mono (by decide))) (by simp only [osX, O.nv, O.nvL, O.nvL_fz, Bool.and_self])) (by simp only [osX, O.frz, O.frzL, O.frzL_fz])) ?_)
      cases hx; exact ⟨_, rfl, le_auto⟩
  · subst e; cases hx
  · subst e; cases hx
  · subst e; dsimp only [tryR] at hx; cases hx; rfl
  · subst e
    dsimp only [tryR] at hx
    show MS _ [none, none, some (.pt a)] _ _
    replace hx := bd_some hx
    obtain ⟨v10, hv10, hx⟩ := hx
    refine ms_one (m_ret (ps_ret pe_w) (ME.r (ME.isB (me_and (show ME _ _ _ (.fz (.bl true)) from by cases xe with | NoShares => exact me_isiE w_NoShares hz hf rfl z_isinstance e_NoShares (pv 2) rfl q_NoShares_NoShares) fun q11 => (by have hx := cond_t hv10 q11; replace hx := bd_some hx; obtain ⟨v8, hv8, hx⟩ := hx; first | (cases hx; exact (ME.isB (me_and (show ME _ _ _ (.fz (.bl true)) from by cases xe with | NoShares => exact me_isiEB w_NoShares hz hf rfl z_isinstance (pe_bltn (v := .ty "ValueError") (by rfl) z_ValueError (by decide +kernel) rfl) (pv 2) rfl q_NoShares_ValueError) fun q9 => (by have hx := cond_t hv8 q9; replace hx := bd_some hx; obtain ⟨v7, hv7, hx⟩ := hx; cases hx; exact (me_one (me_not (show ME _ _ _ (.fz (.bl v7)) from by cases xe with | NoShares => exact me_fnH c__law_other v7 hz hf (pv 2) rfl ⟨hv7, hz, hf⟩ (hr.mono (by decide))))))) (and_c hv8))) | (injection hx with hx; subst hx; exact (ME.isB (me_and (show ME _ _ _ (.fz (.bl true)) from by cases xe with | NoShares => exact me_isiEB w_NoShares hz hf rfl z_isinstance (pe_bltn (v := .ty "ValueError") (by rfl) z_ValueError (by decide +kernel) rfl) (pv 2) rfl q_NoShares_ValueError) fun q9 => (by have hx := cond_t hv8 q9; replace hx := bd_some hx; obtain ⟨v7, hv7, hx⟩ := hx; cases hx; exact (me_one (me_not (show ME _ _ _ (.fz (.bl v7)) from by cases xe with | NoShares => exact me_fnH c__law_other v7 hz hf (pv 2) rfl ⟨hv7, hz, hf⟩ (hr.mono (by decide))))))) (and_c hv8))))) (and_c hv10))) ?_)
    cases hx; exact ⟨rfl, fun _ h => nomatch h⟩
  · subst e
    dsimp only [tryR] at hx
    refine ms_le le ?_
    show MS _ [some (.fz (.int way)), some (.fz thing), none] _ _
    refine ms_one (m_ret (ps_ret pe_w) (ME.r me_bl) ?_)
    cases hx; rfl
abbrev e_T_i (p : Int) : D := .tup [.int p]
noncomputable def M__law_spoilt (weights_here : (List Int)) (way : Int) (cell_here : Int) : Option (List D) :=
  gd (0 < (weights_here.length : Int)) <|
  lt (cell_here % (weights_here.length : Int)) fun at_0 =>
  lt (weights_here.map D.int) fun some_0 =>
  bd (cond ((way == 0)) (bd (ixN some_0.length at_0) fun j3 =>
    lt (some_0.set j3 (.int (0 : Int))) fun some_1 =>
    some some_1) (some some_0) : Option ((List D))) fun p2 =>
  bd (cond ((way == 1)) (bd (ixN p2.length at_0) fun j5 =>
    lt (p2.set j5 (.int ((-(1 : Int)) - ((cell_here / 8) % 1000000000000)))) fun some_2 =>
    some some_2) (some p2) : Option ((List D))) fun p4 =>
  bd (cond ((way == 2)) (bd (L2.atI [(.non), (.str ("1" : Str)), (.bl true), (.bl false), (.lst ([1].map D.int)), (e_T_i (2 : Int)), (.str ("" : Str)), (.dct [] [] : D)] ((cell_here / 8) % 8)) fun v7 =>
    bd (ixN p4.length at_0) fun j8 =>
    lt (p4.set j8 v7) fun some_3 =>
    some some_3) (some p4) : Option ((List D))) fun p6 =>
  bd (cond ((way == 3)) (gd ((-(2 ^ 63) ≤ (9 + ((cell_here / 8) % 93)) ∧ (9 + ((cell_here / 8) % 93)) < 2 ^ 63) ∧ [1].length * (9 + ((cell_here / 8) % 93)).toNat ≤ sizeLine) <|
    lt (((repG [1] (9 + ((cell_here / 8) % 93))).map D.int) : (List D)) fun some_4 =>
    bd (ixN some_4.length at_0) fun j11 =>
    lt (some_4.set j11 (.int (1 + ((cell_here / 800) % 3)))) fun some_5 =>
    some some_5) (some p6) : Option ((List D))) fun p9 =>
  bd (cond ((way == 4)) (bd (L2.atI p9 at_0) fun v13 =>
    bd (asI v13) fun v14 =>
    bd (mpO asI p9) fun v15 =>
    bd (L2.atI [0, 0, 1, ((cell_here / 8) % 1000000000000)] ((cell_here / 8) % 4)) fun v16 =>
    bd (ixN p9.length at_0) fun j17 =>
    lt (p9.set j17 (.int (((v14 + 101) - v15.sum) + v16))) fun some_6 =>
    some some_6) (some p9) : Option ((List D))) fun p12 =>
  bd (cond ((way == 5)) (lt ([] : List D) fun some_7 =>
    some some_7) (some p12) : Option ((List D))) fun p18 =>
  some p18
def sp__law_spoilt (K : PySem.W.Frag) : Sp := SpF K (fun x : (List Int) × Int × Int => [.vw (x.1.map D.int), .fz (.int x.2.1), .fz (.int x.2.2)]) (fun x => M__law_spoilt x.1 x.2.1 x.2.2) (fun r => .lst ((r.map e_d).map .fz))
abbrev N__law_spoilt : List Str := ["_law_weights_here", "_law_way", "_law_cell_here", "_law_at", "_law_some"]
theorem sc__law_spoilt : FnScope N__law_spoilt ["_law_weights_here", "_law_way", "_law_cell_here"] (defScope s__law_spoilt) := ⟨rfl, rfl, rfl, by decide +kernel, rfl, by decide +kernel, by decide +kernel⟩
theorem ok__law_spoilt {f : Addr} {fd : FuncData} (F : Fun K "_law_spoilt" "_law_spoilt" s__law_spoilt f fd) (z_len : mg "len" = none) (z_list : mg "list" = none) (z_sum : mg "sum" = none) : FnOk P w K mg base CX0 1 f fd ["_law_weights_here", "_law_way", "_law_cell_here"] (sp__law_spoilt K) := by
  refine fn_m F sc__law_spoilt (fun x => rfl) (fun x _ => O.nvL_fz _) fun cdv A outer s H E hr x hx => ?_
  obtain ⟨⟨weights_here, way, cell_here⟩, r⟩ := x
  replace hx : M__law_spoilt weights_here way cell_here = some r := hx
  have nd := sc__law_spoilt.nd
  unfold M__law_spoilt at hx
  show MS _ [some (.vw (weights_here.map D.int)), some (.fz (.int way)), some (.fz (.int cell_here)), none, none] _ _
  replace hx := gd_some hx
  obtain ⟨g1, hx⟩ := hx
  replace hx := lt_some hx
  obtain ⟨at_0, eat_0, hx⟩ := hx
  refine ms_cons (m_set (ps_set (i := 3) nd rfl (Or.inl rfl) pe_w) (ME.is (o' := (.fz (.int at_0))) (me_mod (me_var (pv 2) rfl) (me_lenLT (xs := weights_here) (enc := D.int) (by rfl) z_len (ml_var (pv 0) rfl)) g1) (by rw [eat_0] <;> rfl)) ?_)
  show MS _ [some (.vw (weights_here.map D.int)), some (.fz (.int way)), some (.fz (.int cell_here)), some (.fz (.int at_0)), none] _ _
  replace hx := lt_some hx
  obtain ⟨some_0, esome_0, hx⟩ := hx
  refine ms_cons (m_set (ps_set (i := 4) nd rfl (Or.inl rfl) pe_w) (ME.is (o' := (.lst ((some_0.map e_d).map .fz))) (ME.is (o' := .lst (((weights_here.map D.int).map e_d).map .fz)) (me_list (ds := weights_here.map D.int) (by rfl) z_list (ml_var (pv 0) rfl)) (own17 _)) (by rw [esome_0] <;> rfl)) ?_)
  show MS _ [some (.vw (weights_here.map D.int)), some (.fz (.int way)), some (.fz (.int cell_here)), some (.fz (.int at_0)), some (.lst ((some_0.map e_d).map .fz))] _ _
  replace hx := bd_some hx
  obtain ⟨p2, hp2, hx⟩ := hx
  refine ms_cons (m_ifP (out := p2) (fun p2 => [some (.vw (weights_here.map D.int)), some (.fz (.int way)), some (.fz (.int cell_here)), some (.fz (.int at_0)), some (.lst ((p2.map e_d).map .fz))]) (t := ((way == 0))) (mt_eqI (me_var (pv 1) rfl) me_int) (fun h => ?_) (fun h => ?_) fun τ le => ?_)
  · replace hx := cond_t hp2 h
    replace hx := bd_some hx
    obtain ⟨j3, hj3, hx⟩ := hx
    replace hx := lt_some hx
    obtain ⟨some_1, esome_1, hx⟩ := hx
    refine ms_one (m_setItemT (i := 4) (xs := some_0) (enc := e_d) (y := (.int (0 : Int))) hj3 (pv _) rfl (me_var (pv 3) rfl) me_int ?_)
    rw [← esome_1]
    cases hx; exact le_auto
  · replace hx := cond_f hp2 h
    refine ms_nil ?_
    cases hx; exact le_auto
  refine ms_le le ?_
  show MS _ [some (.vw (weights_here.map D.int)), some (.fz (.int way)), some (.fz (.int cell_here)), some (.fz (.int at_0)), some (.lst ((p2.map e_d).map .fz))] _ _
  replace hx := bd_some hx
  obtain ⟨p4, hp4, hx⟩ := hx
  refine ms_cons (m_ifP (out := p4) (fun p4 => [some (.vw (weights_here.map D.int)), some (.fz (.int way)), some (.fz (.int cell_here)), some (.fz (.int at_0)), some (.lst ((p4.map e_d).map .fz))]) (t := ((way == 1))) (mt_eqI (me_var (pv 1) rfl) me_int) (fun h => ?_) (fun h => ?_) fun τ le => ?_)
  · replace hx := cond_t hp4 h
    replace hx := bd_some hx
    obtain ⟨j5, hj5, hx⟩ := hx
    replace hx := lt_some hx
    obtain ⟨some_2, esome_2, hx⟩ := hx
    refine ms_one (m_setItemT (i := 4) (xs := p2) (enc := e_d) (y := (.int ((-(1 : Int)) - ((cell_here / 8) % 1000000000000)))) hj5 (pv _) rfl (me_var (pv 3) rfl) (me_sub (me_neg me_int) (me_mod (me_fdiv (me_var (pv 2) rfl) me_int ⟨by decide, by decide⟩) (ME.is (o' := .fz (.int 1000000000000)) (me_pow me_int me_int ⟨by decide, by decide, by decide⟩) rfl) (by decide))) ?_)
    rw [← esome_2]
    cases hx; exact le_auto
  · replace hx := cond_f hp4 h
    refine ms_nil ?_
    cases hx; exact le_auto
  refine ms_le le ?_
  show MS _ [some (.vw (weights_here.map D.int)), some (.fz (.int way)), some (.fz (.int cell_here)), some (.fz (.int at_0)), some (.lst ((p4.map e_d).map .fz))] _ _
  replace hx := bd_some hx
  obtain ⟨p6, hp6, hx⟩ := hx
  refine ms_cons (m_ifP (out := p6) (fun p6 => [some (.vw (weights_here.map D.int)), some (.fz (.int way)), some (.fz (.int cell_here)), some (.fz (.int at_0)), some (.lst ((p6.map e_d).map .fz))]) (t := ((way == 2))) (mt_eqI (me_var (pv 1) rfl) me_int) (fun h => ?_) (fun h => ?_) fun τ le => ?_)
  · replace hx := cond_t hp6 h
    replace hx := bd_some hx
    obtain ⟨v7, hv7, hx⟩ := hx
    replace hx := bd_some hx
    obtain ⟨j8, hj8, hx⟩ := hx
    replace hx := lt_some hx
    obtain ⟨some_3, esome_3, hx⟩ := hx
    refine ms_one (m_setItemT (i := 4) (xs := p4) (enc := e_d) (y := v7) hj8 (pv _) rfl (me_var (pv 3) rfl) (me_ixLT (xs := [(.non), (.str ("1" : Str)), (.bl true), (.bl false), (.lst ([1].map D.int)), (e_T_i (2 : Int)), (.str ("" : Str)), (.dct [] [] : D)]) (enc := e_d) hv7 (ME.l (me_lst (ds := [(.non), (.str ("1" : Str)), (.bl true), (.bl false), (.lst ([1].map D.int)), (e_T_i (2 : Int)), (.str ("" : Str)), (.dct [] [] : D)].map e_d) (mf_cons me_non (mf_cons me_str (mf_cons me_bl (mf_cons me_bl (mf_cons (ME.frzl (me_lst (ds := [1].map D.int) (mf_cons me_int mf_nil))) (mf_cons (me_tup (mf_cons me_int mf_nil)) (mf_cons me_str (mf_cons me_dict0 mf_nil)))))))))) (me_mod (me_fdiv (me_var (pv 2) rfl) me_int ⟨by decide, by decide⟩) me_int (by decide))) ?_)
    rw [← esome_3]
    cases hx; exact le_auto
  · replace hx := cond_f hp6 h
    refine ms_nil ?_
    cases hx; exact le_auto
  refine ms_le le ?_
  show MS _ [some (.vw (weights_here.map D.int)), some (.fz (.int way)), some (.fz (.int cell_here)), some (.fz (.int at_0)), some (.lst ((p6.map e_d).map .fz))] _ _
  replace hx := bd_some hx
  obtain ⟨p9, hp9, hx⟩ := hx
  refine ms_cons (m_ifP (out := p9) (fun p9 => [some (.vw (weights_here.map D.int)), some (.fz (.int way)), some (.fz (.int cell_here)), some (.fz (.int at_0)), some (.lst ((p9.map e_d).map .fz))]) (t := ((way == 3))) (mt_eqI (me_var (pv 1) rfl) me_int) (fun h => ?_) (fun h => ?_) fun τ le => ?_)
  · replace hx := cond_t hp9 h
    replace hx := gd_some hx
    obtain ⟨g10, hx⟩ := hx
    replace hx := lt_some hx
    obtain ⟨some_4, esome_4, hx⟩ := hx
    refine ms_cons (m_set (ps_set (i := 4) nd rfl (Or.inl rfl) pe_w) (ME.is (o' := (.lst ((some_4.map e_d).map .fz))) (ME.is (o' := .lst ((((repG [1] (9 + ((cell_here / 8) % 93))).map D.int).map e_d).map .fz)) (me_repT (xs := [1]) (enc := D.int) g10 (ME.v (me_lst (ds := [1].map D.int) (mf_cons me_int mf_nil))) (me_add me_int (me_mod (me_fdiv (me_var (pv 2) rfl) me_int ⟨by decide, by decide⟩) me_int (by decide)))) (own17 _)) (by rw [esome_4] <;> rfl)) ?_)
    show MS _ [some (.vw (weights_here.map D.int)), some (.fz (.int way)), some (.fz (.int cell_here)), some (.fz (.int at_0)), some (.lst ((some_4.map e_d).map .fz))] _ _
    replace hx := bd_some hx
    obtain ⟨j11, hj11, hx⟩ := hx
    replace hx := lt_some hx
    obtain ⟨some_5, esome_5, hx⟩ := hx
    refine ms_one (m_setItemT (i := 4) (xs := some_4) (enc := e_d) (y := (.int (1 + ((cell_here / 800) % 3)))) hj11 (pv _) rfl (me_var (pv 3) rfl) (me_add me_int (me_mod (me_fdiv (me_var (pv 2) rfl) me_int ⟨by decide, by decide⟩) me_int (by decide))) ?_)
    rw [← esome_5]
    cases hx; exact le_auto
  · replace hx := cond_f hp9 h
    refine ms_nil ?_
    cases hx; exact le_auto
  refine ms_le le ?_
  show MS _ [some (.vw (weights_here.map D.int)), some (.fz (.int way)), some (.fz (.int cell_here)), some (.fz (.int at_0)), some (.lst ((p9.map e_d).map .fz))] _ _
  replace hx := bd_some hx
  obtain ⟨p12, hp12, hx⟩ := hx
  refine ms_cons (m_ifP (out := p12) (fun p12 => [some (.vw (weights_here.map D.int)), some (.fz (.int way)), some (.fz (.int cell_here)), some (.fz (.int at_0)), some (.lst ((p12.map e_d).map .fz))]) (t := ((way == 4))) (mt_eqI (me_var (pv 1) rfl) me_int) (fun h => ?_) (fun h => ?_) fun τ le => ?_)
  · replace hx := cond_t hp12 h
    replace hx := bd_some hx
    obtain ⟨v13, hv13, hx⟩ := hx
    replace hx := bd_some hx
    obtain ⟨v14, hv14, hx⟩ := hx
    replace hx := bd_some hx
    obtain ⟨v15, hv15, hx⟩ := hx
    replace hx := bd_some hx
    obtain ⟨v16, hv16, hx⟩ := hx
    replace hx := bd_some hx
    obtain ⟨j17, hj17, hx⟩ := hx
    replace hx := lt_some hx
    obtain ⟨some_6, esome_6, hx⟩ := hx
    refine ms_one (m_setItemT (i := 4) (xs := p9) (enc := e_d) (y := (.int (((v14 + 101) - v15.sum) + v16))) hj17 (pv _) rfl (me_var (pv 3) rfl) (me_add (me_sub (me_add (ME.is (o' := .fz (.int v14)) (me_ixLT (xs := p9) (enc := e_d) hv13 (ml_var (pv 4) rfl) (me_var (pv 3) rfl)) (asI_is hv14)) me_int) (me_sum (ns := v15) rfl (by rfl) z_sum (ML.as17 (ml_var (pv 4) rfl) (mpI17 hv15)))) (me_ixLT (xs := [0, 0, 1, ((cell_here / 8) % 1000000000000)]) (enc := D.int) hv16 (ME.l (me_lst (ds := [0, 0, 1, ((cell_here / 8) % 1000000000000)].map D.int) (mf_cons me_int (mf_cons me_int (mf_cons me_int (mf_cons (me_mod (me_fdiv (me_var (pv 2) rfl) me_int ⟨by decide, by decide⟩) (ME.is (o' := .fz (.int 1000000000000)) (me_pow me_int me_int ⟨by decide, by decide, by decide⟩) rfl) (by decide)) mf_nil)))))) (me_mod (me_fdiv (me_var (pv 2) rfl) me_int ⟨by decide, by decide⟩) me_int (by decide)))) ?_)
    rw [← esome_6]
    cases hx; exact le_auto
  · replace hx := cond_f hp12 h
    refine ms_nil ?_
    cases hx; exact le_auto
  refine ms_le le ?_
  show MS _ [some (.vw (weights_here.map D.int)), some (.fz (.int way)), some (.fz (.int cell_here)), some (.fz (.int at_0)), some (.lst ((p12.map e_d).map .fz))] _ _
  replace hx := bd_some hx
  obtain ⟨p18, hp18, hx⟩ := hx
  refine ms_cons (m_ifP (out := p18) (fun p18 => [some (.vw (weights_here.map D.int)), some (.fz (.int way)), some (.fz (.int cell_here)), some (.fz (.int at_0)), some (.lst ((p18.map e_d).map .fz))]) (t := ((way == 5))) (mt_eqI (me_var (pv 1) rfl) me_int) (fun h => ?_) (fun h => ?_) fun τ le => ?_)
  · replace hx := cond_t hp18 h
    replace hx := lt_some hx
    obtain ⟨some_7, esome_7, hx⟩ := hx
    refine ms_one (m_set (ps_set (i := 4) nd rfl (Or.inl rfl) pe_w) (ME.is (o' := (.lst ((some_7.map e_d).map .fz))) (me_lst (ds := [].map e_d) mf_nil) (by rw [esome_7] <;> rfl)) ?_)
    cases hx; exact le_auto
  · replace hx := cond_f hp18 h
    refine ms_nil ?_
    cases hx; exact le_auto
  refine ms_le le ?_
  show MS _ [some (.vw (weights_here.map D.int)), some (.fz (.int way)), some (.fz (.int cell_here)), some (.fz (.int at_0)), some (.lst ((p18.map e_d).map .fz))] _ _
  refine ms_one (m_ret (ps_ret pe_w) (mr_var (pv 4) rfl) ?_)
  cases hx; rfl
noncomputable def M_law (script : (List Int)) : Option Bool :=
  gd (0 ≤ (0 : Int)) <|
  lt ((weightsM script (0 : Int)) : (List Int)) fun weights_here =>
  lt ([(.non), (.int (1 : Int)), (.str ("1" : Str)), (.bl true), (e_T_i (1 : Int)), (.tup (weights_here.map D.int) : D), (.dct [.inl (1 : Int)] [.int (1 : Int)] : D), (.str ("12" : Str)), (.int (100 : Int))] : (List D)) fun things =>
  bd (lpO (fun (x3 : Nat) (p2 : Unit) => (gd (0 ≤ (9 + (2 * (x3 : Int)))) <|
    lt ((cellM script (9 + (2 * (x3 : Int)))) % 7) fun way =>
    gd (0 ≤ (10 + (2 * (x3 : Int)))) <|
    lt ((cellM script (10 + (2 * (x3 : Int)))) % 1000000000000000) fun cell_here =>
    lt ((x3 : Int) % 2) fun asked =>
    cond ((way == 6)) (bd (L2.atI things (cell_here % 9)) fun v7 =>
      bd (M__law_refused asked v7) fun v8 =>
      cond (!v8) (some (.rt false)) <|
      some (.nx ())) (bd (M__law_spoilt weights_here way cell_here) fun v9 =>
      bd (M__law_refused asked (.lst (v9.map e_d))) fun v10 =>
      bd (cond (!v10) (some true) (gd (∀ d ∈ v9, MxD d) <| some false)) fun v12 =>
      cond v12 (some (.rt false)) <|
      some (.nx ())) : Option (Ou (Unit) (Unit) Bool))) (List.range (12 : Int).toNat) ()) fun o4 => ouR o4 fun p2 =>
  gd (WOk weights_here) <|
  bd (cond ((((turnsM weights_here).length : Int) == weights_here.sum)) (gd (WOk weights_here) <| gd (D.ok (.lst (weights_here.map D.int)) ∧ D.ok (.lst (weights_here.map D.int))) <| some ((D.eqv (.lst (weights_here.map D.int)) (.lst (weights_here.map D.int))))) (some false)) fun v17 =>
  some v17
theorem eqv_i (a b : Int) : D.eqv (.int a) (.int b) = (a == b) := by
  first | rfl | (show PyData.eqv (.int a) (.int b) = _; simp [PyData.eqv]) 
theorem ixNn {n j : Nat} (hj : j < n) : ixN n (j : Int) = some j := by
  unfold ixN
  rw [if_pos (by omega), if_pos (by omega)]
  rfl
theorem ints_eq (xs : List Int) : D.ok (.lst (xs.map D.int)) ∧ D.eqv (.lst (xs.map D.int)) (.lst (xs.map D.int)) = true := by
  have h : Smp 1 (.lst (xs.map D.int)) := .lst (smps_map fun _ _ => .int _)
  exact ⟨h.ok, h.eqv⟩

abbrev Ref : Option (Xr Xc Int) := some (.er .NoShares)
noncomputable def itF : D → Unit → Option (Ou Unit Unit (Xr Xc Int)) := fun x8 _ => (bd (M_is_whole x8) fun v10 =>
    bd (cond (!v10) (some true) (bd (asI x8) fun v11 => some (decide (v11 < 1)))) fun v12 =>
    cond v12 (some (.rt (.er .NoShares))) <|
    some (.nx ()))
theorem isw_int (x : Int) : M_is_whole (.int x) = some true := rfl
theorem itF_good {x : Int} (h : 1 ≤ x) : itF (.int x) () = some (.nx ()) := by
  show cond (decide (x < 1)) _ _ = _
  rw [decide_eq_false (by omega)]
  rfl
theorem itF_low {x : Int} (h : x < 1) : itF (.int x) () = some (.rt (.er .NoShares)) := by
  show cond (decide (x < 1)) _ _ = _
  rw [decide_eq_true h]
  rfl
theorem itF_odd {d : D} (h : M_is_whole d = some false) : itF d () = some (.rt (.er .NoShares)) := by
  unfold itF
  rw [bd_of h]
  rfl
/-- a thing that is no weight -/
def Bd (d : D) : Prop := M_is_whole d = some false ∨ ∃ x : Int, d = .int x ∧ x < 1
def Gd (d : D) : Prop := ∃ x : Int, d = .int x ∧ 1 ≤ x
theorem itF_bad {d : D} (h : Bd d) : itF d () = some (.rt (.er .NoShares)) := by
  rcases h with h | ⟨x, rfl, h⟩
  · exact itF_odd h
  · exact itF_low h
theorem it_all : ∀ {ds : List D}, (∀ d ∈ ds, Gd d) → lpO itF ds () = some (.nx ())
  | [], _ => rfl
  | d :: ds, h => by
    obtain ⟨x, rfl, hx⟩ := h d List.mem_cons_self
    show bd (itF _ ()) _ = _
    rw [bd_of (itF_good hx)]
    exact it_all fun e m => h e (List.mem_cons_of_mem _ m)
theorem it_bad : ∀ {ds : List D}, (∀ d ∈ ds, Gd d ∨ Bd d) → (∃ d ∈ ds, Bd d) → lpO itF ds () = some (.rt (.er .NoShares))
  | [], _, ⟨_, m, _⟩ => nomatch m
  | d :: ds, h, ⟨e, m, b⟩ => by
    show bd (itF _ ()) _ = _
    rcases h d List.mem_cons_self with ⟨x, rfl, hx⟩ | hb
    · rw [bd_of (itF_good hx)]
      refine it_bad (fun e m => h e (List.mem_cons_of_mem _ m)) ?_
      rcases List.mem_cons.mp m with rfl | m
      · exfalso
        rcases b with b | ⟨y, ey, hy⟩
        · rw [isw_int] at b
          cases b
        · cases ey
          omega
      · exact ⟨e, m, b⟩
    · rw [bd_of (itF_bad hb)]
theorem mpI_all (xs : List Int) : mpO asI (xs.map D.int) = some xs := by
  induction xs with
  | nil => rfl
  | cons x xs ih =>
    show bd (mpO asI _) _ = _
    rw [bd_of ih]
/-- what is refused -/
def Rfd (d : D) : Prop := M_total_of d = Ref
theorem rfd_kind {d : D} (h : isiD "list" d = some false) : Rfd d := by
  show M_total_of d = _
  unfold M_total_of
  rw [bd_of h]
  rfl
theorem rfd_len {ds : List D} (h : ds.length < 1 ∨ 8 < ds.length) : Rfd (.lst ds) := by
  show M_total_of _ = _
  unfold M_total_of
  show bd (cond (decide ((ds.length : Int) < 1)) (some true) (some (decide (8 < (ds.length : Int))))) _ = _
  have e : cond (decide ((ds.length : Int) < 1)) (some true) (some (decide (8 < (ds.length : Int)))) = some true := by
    rcases h with h | h
    · rw [decide_eq_true (by omega)]
      rfl
    · rw [decide_eq_false (by omega), decide_eq_true (by omega)]
      rfl
  rw [bd_of e]
  rfl
theorem tot_len {ds : List D} (h1 : 1 ≤ ds.length) (h8 : ds.length ≤ 8) : M_total_of (.lst ds) = bd (lpO itF ds ()) fun o9 => ouR o9 fun p7 => bd (mpO asI ds) fun v15 => cond (decide (100 < v15.sum)) (some (.er .NoShares)) <| some (.ok v15.sum) := by
  unfold M_total_of
  show bd (cond (decide ((ds.length : Int) < 1)) (some true) (some (decide (8 < (ds.length : Int))))) _ = _
  have e : cond (decide ((ds.length : Int) < 1)) (some true) (some (decide (8 < (ds.length : Int)))) = some false := by
    rw [decide_eq_false (by omega), decide_eq_false (by omega)]
    rfl
  rw [bd_of e]
  rfl
theorem rfd_item {ds : List D} (h1 : 1 ≤ ds.length) (h8 : ds.length ≤ 8) (h : ∀ d ∈ ds, Gd d ∨ Bd d) (b : ∃ d ∈ ds, Bd d) : Rfd (.lst ds) := by
  show M_total_of _ = _
  rw [tot_len h1 h8, bd_of (it_bad h b)]
  rfl
theorem rfd_much {xs : List Int} (h1 : 1 ≤ xs.length) (h8 : xs.length ≤ 8) (h : ∀ x ∈ xs, 1 ≤ x) (hs : 100 < xs.sum) : Rfd (.lst (xs.map D.int)) := by
  show M_total_of _ = _
  rw [tot_len (by rw [List.length_map]; exact h1) (by rw [List.length_map]; exact h8), bd_of (it_all fun d m => by
    obtain ⟨x, mx, rfl⟩ := List.mem_map.mp m
    exact ⟨x, rfl, h x mx⟩)]
  show bd (mpO asI (xs.map D.int)) _ = _
  rw [bd_of (mpI_all xs), decide_eq_true hs]
  rfl
theorem other_no : M__law_other = some false := by
  have g : ∀ n : Nat, n ≤ 20 → n ≤ sizeLine := fun n h => Nat.le_trans h (by decide)
  unfold M__law_other
  exact Ok.eq (ok_lt (ok_gd (g _ (by decide)) (ok_lt (ok_gd (g _ (by decide)) (ok_lt (ok_gd (g _ (by decide)) (ok_some rfl)))))))
theorem refused_ok {d : D} (h : Rfd d) (way : Int) : M__law_refused way d = some true := by
  have h : M_total_of d = some (.er .NoShares) := h
  have t : M_turns d = some (.er .NoShares) := by
    unfold M_turns
    rw [h]
    rfl
  have i : M_Deal___init__ d = some (.er .NoShares) := by
    unfold M_Deal___init__
    rw [t]
    rfl
  unfold M__law_refused
  rw [t, i, other_no]
  cases h : (way == 0) <;> rfl
theorem mx_int (x : Int) : MxD (.int x) := .inl ⟨rfl, rfl, Nat.le_of_ble_eq_true rfl, by rw [eqv_i]; exact beq_self_eq_true x⟩
theorem mx_ints (xs : List Int) : ∀ d ∈ xs.map D.int, MxD d := fun d m => by
  obtain ⟨x, _, rfl⟩ := List.mem_map.mp m
  exact mx_int x
theorem mx_set {xs : List D} {j : Nat} {d : D} (h : ∀ e ∈ xs, MxD e) (hd : MxD d) : ∀ e ∈ xs.set j d, MxD e := fun e m => by
  rcases List.mem_or_eq_of_mem_set m with m | rfl
  · exact h e m
  · exact hd
theorem rfd_set {ws : List Int} (W : WOk ws) {j : Nat} (hj : j < ws.length) {d : D} (b : Bd d) : Rfd (.lst ((ws.map D.int).set j d)) := by
  have l1 := W.l1
  have l8 := W.l8
  refine rfd_item (by rw [List.length_set, List.length_map]; exact l1) (by rw [List.length_set, List.length_map]; exact l8) (fun e m => ?_) ⟨d, List.mem_iff_getElem.mpr ⟨j, by rw [List.length_set, List.length_map]; exact hj, List.getElem_set_self ..⟩, b⟩
  rcases List.mem_or_eq_of_mem_set m with m | rfl
  · obtain ⟨x, mx, rfl⟩ := List.mem_map.mp m
    exact .inl ⟨x, rfl, W.w1 x mx⟩
  · exact .inr b
def Menu : List D := [(.non), (.str ("1" : Str)), (.bl true), (.bl false), (.lst ([1].map D.int)), (e_T_i (2 : Int)), (.str ("" : Str)), (.dct [] [] : D)]
theorem menu_ok : ∀ d ∈ Menu, Bd d ∧ MxD d := by
  intro d m
  simp only [Menu, List.mem_cons, List.not_mem_nil, or_false] at m
  rcases m with rfl | rfl | rfl | rfl | rfl | rfl | rfl | rfl
  · exact ⟨.inl rfl, .inl ⟨rfl, rfl, Nat.le_of_ble_eq_true rfl, rfl⟩⟩
  · exact ⟨.inl rfl, .inl ⟨rfl, by decide +kernel, Nat.le_of_ble_eq_true rfl, by decide +kernel⟩⟩
  · exact ⟨.inl rfl, .inl ⟨rfl, rfl, Nat.le_of_ble_eq_true rfl, rfl⟩⟩
  · exact ⟨.inl rfl, .inl ⟨rfl, rfl, Nat.le_of_ble_eq_true rfl, rfl⟩⟩
  · exact ⟨.inl rfl, .inl ⟨rfl, rfl, by decide +kernel, by decide +kernel⟩⟩
  · exact ⟨.inl rfl, .inl ⟨rfl, rfl, by decide +kernel, by decide +kernel⟩⟩
  · exact ⟨.inl rfl, .inl ⟨rfl, by decide +kernel, Nat.le_of_ble_eq_true rfl, by decide +kernel⟩⟩
  · exact ⟨.inl rfl, .inr rfl⟩
theorem spoilt_ok {ws : List Int} (W : WOk ws) {way c : Int} (w0 : 0 ≤ way) (w5 : way ≤ 5) (c0 : 0 ≤ c) : Ok (M__law_spoilt ws way c) fun v => Rfd (.lst (v.map e_d)) ∧ ∀ d ∈ v, MxD d := by
  rw [show (e_d : D → D) = id from rfl]
  have l1 := W.l1
  have l8 := W.l8
  obtain ⟨j, ej⟩ := Int.eq_ofNat_of_zero_le (Int.emod_nonneg c (show (ws.length : Int) ≠ 0 by omega))
  have hj : j < ws.length := by have := Int.emod_lt_of_pos c (show 0 < (ws.length : Int) by omega); omega
  have lm : (ws.map D.int).length = ws.length := List.length_map ..
  unfold M__law_spoilt
  refine ok_gd (by omega) (ok_lt (ok_lt ?_))
  rw [ej]
  have ix : ixN (ws.map D.int).length (j : Int) = some j := by rw [lm]; exact ixNn hj
  have hw : way = 0 ∨ way = 1 ∨ way = 2 ∨ way = 3 ∨ way = 4 ∨ way = 5 := by omega
  rcases hw with rfl | rfl | rfl | rfl | rfl | rfl
  · refine ok_bd (Q := fun v => v = (ws.map D.int).set j (.int 0)) (ok_t rfl ?_) fun v hv => ?_
    · rw [bd_of ix]
      exact ok_lt (ok_some rfl)
    · subst hv
      refine ok_bd (ok_f rfl (ok_some rfl)) fun v hv => ok_bd (ok_f rfl (ok_some rfl)) fun v2 hv2 => ok_bd (ok_f rfl (ok_some rfl)) fun v3 hv3 => ok_bd (ok_f rfl (ok_some rfl)) fun v4 hv4 => ok_bd (ok_f rfl (ok_some rfl)) fun v5 hv5 => ok_some ?_
      subst hv5 hv4 hv3 hv2 hv
      rw [List.map_id]
      exact ⟨rfd_set W hj (.inr ⟨0, rfl, by decide⟩), mx_set (mx_ints ws) (mx_int 0)⟩
  · refine ok_bd (ok_f rfl (ok_some rfl)) fun v hv => ?_
    subst hv
    refine ok_bd (Q := fun v => v = (ws.map D.int).set j (.int ((-(1 : Int)) - ((c / 8) % 1000000000000)))) (ok_t rfl ?_) fun v hv => ?_
    · rw [bd_of ix]
      exact ok_lt (ok_some rfl)
    · subst hv
      refine ok_bd (ok_f rfl (ok_some rfl)) fun v2 hv2 => ok_bd (ok_f rfl (ok_some rfl)) fun v3 hv3 => ok_bd (ok_f rfl (ok_some rfl)) fun v4 hv4 => ok_bd (ok_f rfl (ok_some rfl)) fun v5 hv5 => ok_some ?_
      subst hv5 hv4 hv3 hv2
      rw [List.map_id]
      exact ⟨rfd_set W hj (.inr ⟨_, rfl, by omega⟩), mx_set (mx_ints ws) (mx_int _)⟩
  · refine ok_bd (ok_f rfl (ok_some rfl)) fun v hv => ok_bd (ok_f rfl (ok_some rfl)) fun v2 hv2 => ?_
    subst hv2 hv
    refine ok_bd (Q := fun v => ∃ d, v = (ws.map D.int).set j d ∧ Bd d ∧ MxD d) (ok_t rfl (ok_bd (ok_atIm (by omega) (by show c / 8 % 8 < (8 : Int); omega) menu_ok) fun d hd => ?_)) fun v ⟨d, hv, hd⟩ => ?_
    · rw [bd_of ix]
      exact ok_lt (ok_some ⟨d, rfl, hd⟩)
    · subst hv
      refine ok_bd (ok_f rfl (ok_some rfl)) fun v3 hv3 => ok_bd (ok_f rfl (ok_some rfl)) fun v4 hv4 => ok_bd (ok_f rfl (ok_some rfl)) fun v5 hv5 => ok_some ?_
      subst hv5 hv4 hv3
      rw [List.map_id]
      exact ⟨rfd_set W hj hd.1, mx_set (mx_ints ws) hd.2⟩
  · refine ok_bd (ok_f rfl (ok_some rfl)) fun v hv => ok_bd (ok_f rfl (ok_some rfl)) fun v2 hv2 => ok_bd (ok_f rfl (ok_some rfl)) fun v3 hv3 => ?_
    subst hv3 hv2 hv
    obtain ⟨m, em⟩ := Int.eq_ofNat_of_zero_le (show 0 ≤ 9 + c / 8 % 93 by omega)
    have hm : 9 ≤ m ∧ m ≤ 101 := by omega
    have lr : ((repG [1] (9 + c / 8 % 93)).map D.int).length = m := by
      rw [rep_one (by omega), List.length_map, List.length_replicate, em]
      rfl
    refine ok_bd (Q := fun v => v = ((repG [1] (9 + c / 8 % 93)).map D.int).set j (.int (1 + ((c / 800) % 3)))) (ok_t rfl (ok_gd ⟨by omega, ?_⟩ (ok_lt ?_))) fun v hv => ?_
    · rw [em]
      show 1 * m ≤ 16777216
      omega
    · rw [bd_of (show ixN ((repG [1] (9 + c / 8 % 93)).map D.int).length (j : Int) = some j by rw [lr]; exact ixNn (by omega))]
      exact ok_lt (ok_some rfl)
    · subst hv
      refine ok_bd (ok_f rfl (ok_some rfl)) fun v4 hv4 => ok_bd (ok_f rfl (ok_some rfl)) fun v5 hv5 => ok_some ?_
      subst hv5 hv4
      rw [List.map_id]
      exact ⟨rfd_len (.inr (by rw [List.length_set, lr]; omega)), mx_set (mx_ints _) (mx_int _)⟩
  · refine ok_bd (ok_f rfl (ok_some rfl)) fun v hv => ok_bd (ok_f rfl (ok_some rfl)) fun v2 hv2 => ok_bd (ok_f rfl (ok_some rfl)) fun v3 hv3 => ok_bd (ok_f rfl (ok_some rfl)) fun v4 hv4 => ?_
    subst hv4 hv3 hv2 hv
    have x1 := W.w1 _ (getD_mem hj)
    have s1 := W.s100
    refine ok_bd (Q := fun v => ∃ y : Int, 0 ≤ y ∧ v = (ws.set j (ws.getD j 0 + 101 - ws.sum + y)).map D.int) (ok_t rfl ?_) fun v ⟨y, y0, hv⟩ => ?_
    · rw [bd_of (at_intsN hj)]
      rw [bd_of (show asI (.int (ws.getD j 0)) = some (ws.getD j 0) from rfl), bd_of (mpI_all ws)]
      refine ok_bd (Q := fun y => 0 ≤ y) (ok_atIm (by omega) (by show c / 8 % 4 < (4 : Int); omega) (fun y m => ?_)) fun y hy => ?_
      · simp only [List.mem_cons, List.not_mem_nil, or_false] at m
        omega
      · rw [bd_of ix]
        refine ok_lt (ok_some ⟨y, hy, ?_⟩)
        rw [List.map_set]
    · subst hv
      refine ok_bd (ok_f rfl (ok_some rfl)) fun v5 hv5 => ok_some ?_
      subst hv5
      rw [List.map_id]
      refine ⟨rfd_much (by rw [List.length_set]; exact l1) (by rw [List.length_set]; exact l8) (fun x m => ?_) ?_, mx_ints _⟩
      · rcases List.mem_or_eq_of_mem_set m with m | rfl
        · exact W.w1 x m
        · omega
      · rw [sum_set_last hj]
        omega
  · refine ok_bd (ok_f rfl (ok_some rfl)) fun v hv => ok_bd (ok_f rfl (ok_some rfl)) fun v2 hv2 => ok_bd (ok_f rfl (ok_some rfl)) fun v3 hv3 => ok_bd (ok_f rfl (ok_some rfl)) fun v4 hv4 => ok_bd (ok_f rfl (ok_some rfl)) fun v5 hv5 => ?_
    refine ok_bd (ok_t rfl (ok_lt (ok_some rfl))) fun v hv => ok_some ?_
    subst hv
    exact ⟨rfd_len (.inl (by decide)), fun _ m => nomatch m⟩
theorem things_ok (ws : List Int) : ∀ d ∈ ([(.non), (.int (1 : Int)), (.str ("1" : Str)), (.bl true), (e_T_i (1 : Int)), (.tup (ws.map D.int) : D), (.dct [.inl (1 : Int)] [.int (1 : Int)] : D), (.str ("12" : Str)), (.int (100 : Int))] : List D), Rfd d := by
  intro d m
  simp only [List.mem_cons, List.not_mem_nil, or_false] at m
  rcases m with rfl | rfl | rfl | rfl | rfl | rfl | rfl | rfl | rfl <;> exact rfd_kind rfl
theorem law_true (ns : List Int) (h : ns.length ≤ 63) : M_law ns = some true := by
  have W := weights_ok ns 0
  unfold M_law
  refine Ok.eq (ok_gd (Int.le_refl 0) (ok_lt (ok_lt ?_)))
  generalize weightsM ns 0 = ws at W
  refine ok_bd (ok_lpN (Q := fun o => o = .nx ()) (fun _ _ => True) trivial (fun i x v hx _ => ?_) fun v _ => rfl) fun o ho => ?_
  · refine ok_gd (by omega) (ok_lt (ok_gd (by omega) (ok_lt (ok_lt (ok_cond (fun c => ?_) fun c => ?_)))))
    · refine ok_bd (ok_atIm (by omega) (by show cellM ns (10 + 2 * (x : Int)) % 1000000000000000 % 9 < (9 : Int); omega) (things_ok ws)) fun d hd => ?_
      rw [bd_of (refused_ok hd _)]
      exact ok_f rfl (ok_some ⟨(), .inl rfl, trivial⟩)
    · have c : ¬ (cellM ns (9 + 2 * (x : Int)) % 7 = 6) := fun z => by rw [z] at c; cases c
      refine ok_bd (spoilt_ok W (way := cellM ns (9 + 2 * (x : Int)) % 7) (by omega) (by omega) (by omega)) fun v ⟨hv, mx⟩ => ?_
      rw [bd_of (refused_ok hv _)]
      refine ok_bd (Q := fun v => v = false) (ok_f rfl (ok_gd mx (ok_some rfl))) fun v hv => ?_
      subst hv
      exact ok_f rfl (ok_some ⟨(), .inl rfl, trivial⟩)
  · subst ho
    refine ok_gd W (ok_bd (Q := fun v => v = true) (ok_t ?_ (ok_gd W (ok_gd ⟨(ints_eq ws).1, (ints_eq ws).1⟩ (ok_some (ints_eq ws).2)))) fun v hv => ok_some hv)
    rw [turnsM_len W]
    exact beq_self_eq_true _
abbrev N_law : List Str := ["_law_script", "_law_weights_here", "_law_things", "_law_k", "_law_way", "_law_cell_here", "_law_asked", "_law_some", "_law_kept"]
theorem sc_law : FnScope N_law ["_law_script"] (defScope s_law) := ⟨rfl, rfl, rfl, by decide +kernel, rfl, by decide +kernel, by decide +kernel⟩
theorem ok_law {f : Addr} {fd : FuncData} (F : Fun K "law" "law" s_law f fd) (z_tuple : mg "tuple" = none) (z_range : mg "range" = none) (z_list : mg "list" = none) (z_len : mg "len" = none) (z_sum : mg "sum" = none) (o_Deal : OC K C_Deal ["wheel", "weights"]) (c__law_weights : Fn1 P w K mg base "_law_weights" 2 ["_law_script", "_law_at"] (sp__law_weights K)) (c__law_cell : Fn1 P w K mg base "_law_cell" 1 ["_law_script", "_law_k"] (sp__law_cell K)) (c__law_refused : Fn1 P w K mg base "_law_refused" 6 ["_law_way", "_law_thing"] (sp__law_refused K)) (c__law_spoilt : Fn1 P w K mg base "_law_spoilt" 1 ["_law_weights_here", "_law_way", "_law_cell_here"] (sp__law_spoilt K)) (c_turns_h : Fn1 P w K mg base "turns" 3 ["weights"] (sp_turns_h K)) (i_Deal_h : Mk1 P w K mg base "Deal" C_Deal 4 ["self", "weights"] (sp_Deal_h___init__ K C_Deal)) : FnOk P w K mg base CX0 7 f fd ["_law_script"] (spLaw K) := by
  refine fn_m F sc_law (fun x => rfl) (fun x _ => rfl) fun cdv A outer s H E hr script hx => ?_
  have hx : M_law script = some true := law_true script hx
  have nd := sc_law.nd
  unfold M_law at hx
  show MS _ [some (.vw (script.map D.int)), none, none, none, none, none, none, none, none] _ _
  replace hx := gd_some hx
  obtain ⟨g1, hx⟩ := hx
  replace hx := lt_some hx
  obtain ⟨weights_here, eweights_here, hx⟩ := hx
  refine ms_cons (m_set (ps_set (i := 1) nd rfl (Or.inl rfl) pe_w) (ME.is (o' := (.lst ((weights_here.map D.int).map .fz))) (me_fn c__law_weights (script, 0) (ma_vw (ml_var (pv 0) rfl) (ma_fz me_int ma_nil)) g1 (hr.mono (by decide))) (by rw [eweights_here] <;> rfl)) ?_)
  show MS _ [some (.vw (script.map D.int)), some (.lst ((weights_here.map D.int).map .fz)), none, none, none, none, none, none, none] _ _
  replace hx := lt_some hx
  obtain ⟨things, ethings, hx⟩ := hx
  refine ms_cons (m_set (ps_set (i := 2) nd rfl (Or.inl rfl) pe_w) (ME.is (o' := (.lst ((things.map e_d).map .fz))) (me_lst (ds := [(.non), (.int (1 : Int)), (.str ("1" : Str)), (.bl true), (e_T_i (1 : Int)), (.tup (weights_here.map D.int) : D), (.dct [.inl (1 : Int)] [.int (1 : Int)] : D), (.str ("12" : Str)), (.int (100 : Int))].map e_d) (mf_cons me_non (mf_cons me_int (mf_cons me_str (mf_cons me_bl (mf_cons (me_tup (mf_cons me_int mf_nil)) (mf_cons (ME.is (o' := .fz (.tup (weights_here.map D.int))) (ME.frz (me_tupL (ds := weights_here.map D.int) (by rfl) z_tuple (ml_var (pv 1) rfl)) (nv_tup17 _)) (congrArg O.fz (frz_tup17 _))) (mf_cons (ME.is (o' := .fz (.dct [.inl (1 : Int)] [.int (1 : Int)])) (ME.frz (me_dict11 me_int me_int) rfl) rfl) (mf_cons me_str (mf_cons me_int mf_nil)))))))))) (by rw [ethings] <;> rfl)) ?_)
  show MS _ [some (.vw (script.map D.int)), some (.lst ((weights_here.map D.int).map .fz)), some (.lst ((things.map e_d).map .fz)), none, none, none, none, none, none] _ _
  replace hx := bd_some hx
  obtain ⟨o4, ho4, hx⟩ := hx
  refine ms_cons (m_forO (xs := (List.range (12 : Int).toNat)) (enc := (fun k : Nat => D.int (k : Nat))) (ps_for PassesOwn.never rfl (pi_range1 (by rfl) z_range pa_w) (pg_name (i := 3) nd rfl (Or.inl rfl)) pss_w) (by exact (mi_rangeT (mf_cons me_int mf_nil) ⟨by decide, by decide⟩)) ho4 (fun p2 => [some (.vw (script.map D.int)), some (.lst ((weights_here.map D.int).map .fz)), some (.lst ((things.map e_d).map .fz)), none, none, none, none, none, none]) (fun r => .fz (.bl r)) le_auto (fun x3 p2 p2o mx hx => ?_) (fun p2 τ e le => ?_) fun q e => ?_)
  ·
    refine ⟨_, _, mg_name, ?_⟩
    show MS _ [some (.vw (script.map D.int)), some (.lst ((weights_here.map D.int).map .fz)), some (.lst ((things.map e_d).map .fz)), some (.fz (.int (x3 : Int))), none, none, none, none, none] _ _
    replace hx := gd_some hx
    obtain ⟨g5, hx⟩ := hx
    replace hx := lt_some hx
    obtain ⟨way, eway, hx⟩ := hx
    refine ms_cons (m_set (ps_set (i := 4) nd rfl (Or.inl rfl) pe_w) (ME.is (o' := (.fz (.int way))) (me_mod (me_fn c__law_cell (script, (9 + (2 * (x3 : Int)))) (ma_vw (ml_var (pv 0) rfl) (ma_fz (me_add me_int (me_mul me_int (me_var (pv 3) rfl) (.inl ⟨by decide, by decide⟩))) ma_nil)) g5 (hr.mono (by decide))) me_int (by decide)) (by rw [eway] <;> rfl)) ?_)
    show MS _ [some (.vw (script.map D.int)), some (.lst ((weights_here.map D.int).map .fz)), some (.lst ((things.map e_d).map .fz)), some (.fz (.int (x3 : Int))), some (.fz (.int way)), none, none, none, none] _ _
    replace hx := gd_some hx
    obtain ⟨g6, hx⟩ := hx
    replace hx := lt_some hx
    obtain ⟨cell_here, ecell_here, hx⟩ := hx
    refine ms_cons (m_set (ps_set (i := 5) nd rfl (Or.inl rfl) pe_w) (ME.is (o' := (.fz (.int cell_here))) (me_mod (me_fn c__law_cell (script, (10 + (2 * (x3 : Int)))) (ma_vw (ml_var (pv 0) rfl) (ma_fz (me_add me_int (me_mul me_int (me_var (pv 3) rfl) (.inl ⟨by decide, by decide⟩))) ma_nil)) g6 (hr.mono (by decide))) (ME.is (o' := .fz (.int 1000000000000000)) (me_pow me_int me_int ⟨by decide, by decide, by decide⟩) rfl) (by decide)) (by rw [ecell_here] <;> rfl)) ?_)
    show MS _ [some (.vw (script.map D.int)), some (.lst ((weights_here.map D.int).map .fz)), some (.lst ((things.map e_d).map .fz)), some (.fz (.int (x3 : Int))), some (.fz (.int way)), some (.fz (.int cell_here)), none, none, none] _ _
    replace hx := lt_some hx
    obtain ⟨asked, easked, hx⟩ := hx
    refine ms_cons (m_set (ps_set (i := 6) nd rfl (Or.inl rfl) pe_w) (ME.is (o' := (.fz (.int asked))) (me_mod (me_var (pv 3) rfl) me_int (by decide)) (by rw [easked] <;> rfl)) ?_)
    show MS _ [some (.vw (script.map D.int)), some (.lst ((weights_here.map D.int).map .fz)), some (.lst ((things.map e_d).map .fz)), some (.fz (.int (x3 : Int))), some (.fz (.int way)), some (.fz (.int cell_here)), some (.fz (.int asked)), none, none] _ _
    refine ms_one (m_if (t := ((way == 6))) (mt_eqI (me_var (pv 4) rfl) me_int) (fun h => ?_) fun h => ?_)
    · replace hx := cond_t hx h
      replace hx := bd_some hx
      obtain ⟨v7, hv7, hx⟩ := hx
      replace hx := bd_some hx
      obtain ⟨v8, hv8, hx⟩ := hx
      refine ms_one (m_if (t := (!v8)) (mt_not (mt_val (me_fn c__law_refused ((asked, v7), v8) (ma_fz (me_var (pv 6) rfl) (ma_fz (me_ixLT (xs := things) (enc := e_d) hv7 (ml_var (pv 2) rfl) (me_mod (me_var (pv 5) rfl) me_int (by decide))) ma_nil)) hv8 (hr.mono (by decide))))) (fun h => ?_) fun h => ms_nil ?_)
      · replace hx := cond_t hx h
        refine ms_one (m_ret (ps_ret pe_w) (ME.r me_bl) ?_)
        cases hx; exact ⟨_, rfl, rfl⟩
      replace hx := cond_f hx h
      cases hx; exact ⟨_, rfl, le_auto⟩
    · replace hx := cond_f hx h
      replace hx := bd_some hx
      obtain ⟨v9, hv9, hx⟩ := hx
      refine ms_cons (m_set (ps_set (i := 7) nd rfl (Or.inl rfl) pe_w) (me_fn c__law_spoilt ((weights_here, way, cell_here), v9) (ma_vw (ml_var (pv 1) rfl) (ma_fz (me_var (pv 4) rfl) (ma_fz (me_var (pv 5) rfl) ma_nil))) hv9 (hr.mono (by decide))) ?_)
      show MS _ [some (.vw (script.map D.int)), some (.lst ((weights_here.map D.int).map .fz)), some (.lst ((things.map e_d).map .fz)), some (.fz (.int (x3 : Int))), some (.fz (.int way)), some (.fz (.int cell_here)), some (.fz (.int asked)), some (.lst ((v9.map e_d).map .fz)), none] _ _
      refine ms_cons (m_set (ps_set (i := 8) nd rfl (Or.inl rfl) pe_w) (me_list (ds := v9.map e_d) (by rfl) z_list (ml_var (pv 7) rfl)) ?_)
      show MS _ [some (.vw (script.map D.int)), some (.lst ((weights_here.map D.int).map .fz)), some (.lst ((things.map e_d).map .fz)), some (.fz (.int (x3 : Int))), some (.fz (.int way)), some (.fz (.int cell_here)), some (.fz (.int asked)), some (.lst ((v9.map e_d).map .fz)), some (.lst ((v9.map e_d).map .fz))] _ _
      refine ms_frzl (i := 7) rfl ?_
      show MS _ [some (.vw (script.map D.int)), some (.lst ((weights_here.map D.int).map .fz)), some (.lst ((things.map e_d).map .fz)), some (.fz (.int (x3 : Int))), some (.fz (.int way)), some (.fz (.int cell_here)), some (.fz (.int asked)), some (.fz (.lst (v9.map e_d))), some (.lst ((v9.map e_d).map .fz))] _ _
      replace hx := bd_some hx
      obtain ⟨v10, hv10, hx⟩ := hx
      replace hx := bd_some hx
      obtain ⟨v12, hv12, hx⟩ := hx
      refine ms_one (m_if (t := v12) (MW.t (MW.is (mw_or (mt_not (mt_val (me_fn c__law_refused ((asked, (.lst (v9.map e_d))), v10) (ma_fz (me_var (pv 6) rfl) (ma_fz (me_var (pv 7) rfl) ma_nil)) hv10 (hr.mono (by decide))))) fun q13 => (by have hx := cond_f hv12 q13; replace hx := gd_some hx; obtain ⟨g11, hx⟩ := hx; cases hx; exact (mw_or1 (mt_neM (ds := v9.map e_d) hr.units (ml_var (pv 7) rfl) (ml_var (pv 8) rfl) (mx17 g11))))) (or_c hv12))) (fun h => ?_) fun h => ms_nil ?_)
      · replace hx := cond_t hx h
        refine ms_one (m_ret (ps_ret pe_w) (ME.r me_bl) ?_)
        cases hx; exact ⟨_, rfl, rfl⟩
      replace hx := cond_f hx h
      cases hx; exact ⟨_, rfl, le_auto⟩
  · subst e
    dsimp only [ouR] at hx
    refine ms_le le ?_
    show MS _ [some (.vw (script.map D.int)), some (.lst ((weights_here.map D.int).map .fz)), some (.lst ((things.map e_d).map .fz)), none, none, none, none, none, none] _ _
    replace hx := gd_some hx
    obtain ⟨g14, hx⟩ := hx
    replace hx := bd_some hx
    obtain ⟨v17, hv17, hx⟩ := hx
    refine ms_one (m_ret (ps_ret pe_w) (ME.r (ME.isB (me_and (me_eqI (me_lenLT (xs := (turnsM weights_here)) (enc := D.int) (by rfl) z_len (ME.l (me_fn c_turns_h weights_here (ma_vw (ME.l (me_list (ds := weights_here.map D.int) (by rfl) z_list (ml_var (pv 1) rfl))) ma_nil) g14 (hr.mono (by decide))))) (me_sum (ns := weights_here) rfl (by rfl) z_sum (ml_var (pv 1) rfl))) fun q18 => (by have hx := cond_t hv17 q18; replace hx := gd_some hx; obtain ⟨g15, hx⟩ := hx; replace hx := gd_some hx; obtain ⟨g16, hx⟩ := hx; cases hx; exact (me_one (me_eqDT (d1 := .lst (weights_here.map D.int)) (d2 := .lst (weights_here.map D.int)) hr.units g16 rfl frz_own (ME.v (me_fld (j := 1) (ME.v (ME.is (o' := .fz (dealD C_Deal weights_here)) (ME.frz (me_make i_Deal_h weights_here (ma_vw (ME.l (me_list (ds := weights_here.map D.int) (by rfl) z_list (ml_var (pv 1) rfl))) ma_nil) g15 (hr.mono (by decide))) (nv_deal _ _)) (congrArg O.fz (frz_deal _ _)))) o_Deal)) (mv_var (pv 1) rfl))))) (and_c hv17))) ?_)
    first | (cases hx; done) | (cases hx; rfl) | (injection hx with hx; show O.fz (.bl _) = O.fz (.bl true); rw [hx])
  · subst e; cases hx; rfl
end
theorem all_mk {l : PySem.W.OpenLaw} {w : World} {K : PySem.W.Frag} {h : Heap} {mg : Str → Option Value} {fa : Addr} (X : K.In h) (G : h.Ns mainGlobals mg) (hfa : mg "law" = some (.ref fa))
    {C_Deal : Addr} (a_Deal : PySem.W.nsIn K mainGlobals "Deal" = some (some (.ref C_Deal))) (pg_Deal : PySem.W.plainGet K C_Deal Str.empty = true) (hd_Deal : PySem.W.hasDictIn K C_Deal = true) (po_Deal : PySem.W.plainOver K C_Deal = true) (sa_Deal : PySem.W.findIn K (.ref C_Deal) "__setattr__" = some (some (.builtin "object.__setattr__"))) (mk_Deal : PySem.W.makesIn K C_Deal = true) (kc_Deal : PySem.W.keepIn K (.ref C_Deal) = true)
    (na_Deal_wheel : PySem.W.findIn K (.ref C_Deal) "wheel" = some none)
    (na_Deal_weights : PySem.W.findIn K (.ref C_Deal) "weights" = some none)
    {C_NoAmount : Addr} (a_NoAmount : PySem.W.nsIn K mainGlobals "NoAmount" = some (some (.ref C_NoAmount)))
    {C_NoEntry : Addr} (a_NoEntry : PySem.W.nsIn K mainGlobals "NoEntry" = some (some (.ref C_NoEntry)))
    {C_NoWords : Addr} (a_NoWords : PySem.W.nsIn K mainGlobals "NoWords" = some (some (.ref C_NoWords)))
    {C_TooDeep : Addr} (a_TooDeep : PySem.W.nsIn K mainGlobals "TooDeep" = some (some (.ref C_TooDeep)))
    {C_NoClause : Addr} (a_NoClause : PySem.W.nsIn K mainGlobals "NoClause" = some (some (.ref C_NoClause)))
    {C_NoCover : Addr} (a_NoCover : PySem.W.nsIn K mainGlobals "NoCover" = some (some (.ref C_NoCover)))
    {C_NoBook : Addr} (a_NoBook : PySem.W.nsIn K mainGlobals "NoBook" = some (some (.ref C_NoBook)))
    {C_Twice : Addr} (a_Twice : PySem.W.nsIn K mainGlobals "Twice" = some (some (.ref C_Twice)))
    {C_Late : Addr} (a_Late : PySem.W.nsIn K mainGlobals "Late" = some (some (.ref C_Late)))
    {C_NotTold : Addr} (a_NotTold : PySem.W.nsIn K mainGlobals "NotTold" = some (some (.ref C_NotTold)))
    {C_TooWide : Addr} (a_TooWide : PySem.W.nsIn K mainGlobals "TooWide" = some (some (.ref C_TooWide)))
    {C_NoText : Addr} (a_NoText : PySem.W.nsIn K mainGlobals "NoText" = some (some (.ref C_NoText)))
    {C_NoRow : Addr} (a_NoRow : PySem.W.nsIn K mainGlobals "NoRow" = some (some (.ref C_NoRow)))
    {C_CoverError : Addr} (a_CoverError : PySem.W.nsIn K mainGlobals "CoverError" = some (some (.ref C_CoverError)))
    {C_NoShares : Addr} (a_NoShares : PySem.W.nsIn K mainGlobals "NoShares" = some (some (.ref C_NoShares)))
    (xq_NoShares : PySem.W.excIn K C_NoShares [.type "ValueError", .type "Exception", .type "BaseException", .type "object"] "ValueError.__new__" = true)
    (xk_NoShares : PySem.W.keepIn K (.ref C_NoShares) = true)
    (xb_NoShares : PySem.W.subIn K (.ref C_NoShares) (.type "BaseException") = some true)
    (xt_NoShares : PySem.W.typeIn K (.ref C_NoShares) = some (.type "type"))
    (xg_NoShares : PySem.W.findIn K (.ref C_NoShares) "__getattribute__" = some (some (.builtin "BaseException.__getattribute__")))
    (xh_NoShares : PySem.W.findIn K (.ref C_NoShares) "__getattr__" = some none)
    (xd_NoShares : PySem.W.hasDictIn K C_NoShares = true)
    (xa_NoShares : PySem.W.findIn K (.ref C_NoShares) "__class__" = some (some (.builtin "object.__class__")))
    (xm_NoShares : PySem.W.mroIn K C_NoShares (.type "object") = some true)
    (xn0 : PySem.W.specialIn K (.builtin "object.__class__") "__get__" = some (some (.builtin "getset_descriptor.__get__"))) (xt0 : PySem.W.takesIn K (.builtin "object.__class__") = some true)
    (xb_CoverError : PySem.W.subIn K (.ref C_CoverError) (.type "BaseException") = some true)
    (xd_CoverError : PySem.W.hasDictIn K C_CoverError = true)
    (xt_CoverError : PySem.W.typeIn K (.ref C_CoverError) = some (.type "type"))
    (xs_NoShares_CoverError : PySem.W.subIn K (.ref C_NoShares) (.ref C_CoverError) = some true)
    {f0 : Addr} {od0 an0 : Option Addr} {sl0 : Array (Option Value)} {oc0 kV0 dc0 pm0 cd0 ct0 : Value}
    (a0 : PySem.W.nsIn K mainGlobals "_law_cell" = some (some (.ref f0))) (l0 : K.lookup f0 = some ⟨oc0, od0, .func (PySem.W.fnOf "_law_cell" "_law_cell" (defArgs s__law_cell) (defBody s__law_cell) (defScope s__law_cell) .none kV0 dc0 pm0 an0 cd0 ct0), sl0⟩) (c0 : PySem.W.codeIn K cd0 "_law_cell" = true) (k0 : PySem.W.keepIn K (.ref f0) = true)
    {f1 : Addr} {od1 an1 : Option Addr} {sl1 : Array (Option Value)} {oc1 kV1 dc1 pm1 cd1 ct1 : Value}
    (a1 : PySem.W.nsIn K mainGlobals "_law_weights" = some (some (.ref f1))) (l1 : K.lookup f1 = some ⟨oc1, od1, .func (PySem.W.fnOf "_law_weights" "_law_weights" (defArgs s__law_weights) (defBody s__law_weights) (defScope s__law_weights) .none kV1 dc1 pm1 an1 cd1 ct1), sl1⟩) (c1 : PySem.W.codeIn K cd1 "_law_weights" = true) (k1 : PySem.W.keepIn K (.ref f1) = true)
    {f2 : Addr} {od2 an2 : Option Addr} {sl2 : Array (Option Value)} {oc2 kV2 dc2 pm2 cd2 ct2 : Value}
    (a2 : PySem.W.nsIn K mainGlobals "is_whole" = some (some (.ref f2))) (l2 : K.lookup f2 = some ⟨oc2, od2, .func (PySem.W.fnOf "is_whole" "is_whole" (defArgs s_is_whole) (defBody s_is_whole) (defScope s_is_whole) .none kV2 dc2 pm2 an2 cd2 ct2), sl2⟩) (c2 : PySem.W.codeIn K cd2 "is_whole" = true) (k2 : PySem.W.keepIn K (.ref f2) = true)
    {f3 : Addr} {od3 an3 : Option Addr} {sl3 : Array (Option Value)} {oc3 kV3 dc3 pm3 cd3 ct3 : Value}
    (a3 : PySem.W.nsIn K mainGlobals "total_of" = some (some (.ref f3))) (l3 : K.lookup f3 = some ⟨oc3, od3, .func (PySem.W.fnOf "total_of" "total_of" (defArgs s_total_of) (defBody s_total_of) (defScope s_total_of) .none kV3 dc3 pm3 an3 cd3 ct3), sl3⟩) (c3 : PySem.W.codeIn K cd3 "total_of" = true) (k3 : PySem.W.keepIn K (.ref f3) = true)
    {f4 : Addr} {od4 an4 : Option Addr} {sl4 : Array (Option Value)} {oc4 kV4 dc4 pm4 cd4 ct4 : Value}
    (a4 : PySem.W.nsIn K mainGlobals "due_by" = some (some (.ref f4))) (l4 : K.lookup f4 = some ⟨oc4, od4, .func (PySem.W.fnOf "due_by" "due_by" (defArgs s_due_by) (defBody s_due_by) (defScope s_due_by) .none kV4 dc4 pm4 an4 cd4 ct4), sl4⟩) (c4 : PySem.W.codeIn K cd4 "due_by" = true) (k4 : PySem.W.keepIn K (.ref f4) = true)
    {f5 : Addr} {od5 an5 : Option Addr} {sl5 : Array (Option Value)} {oc5 kV5 dc5 pm5 cd5 ct5 : Value}
    (a5 : PySem.W.nsIn K mainGlobals "next_place" = some (some (.ref f5))) (l5 : K.lookup f5 = some ⟨oc5, od5, .func (PySem.W.fnOf "next_place" "next_place" (defArgs s_next_place) (defBody s_next_place) (defScope s_next_place) .none kV5 dc5 pm5 an5 cd5 ct5), sl5⟩) (c5 : PySem.W.codeIn K cd5 "next_place" = true) (k5 : PySem.W.keepIn K (.ref f5) = true)
    {f6 : Addr} {od6 an6 : Option Addr} {sl6 : Array (Option Value)} {oc6 kV6 dc6 pm6 cd6 ct6 : Value}
    (a6 : PySem.W.nsIn K mainGlobals "turns" = some (some (.ref f6))) (l6 : K.lookup f6 = some ⟨oc6, od6, .func (PySem.W.fnOf "turns" "turns" (defArgs s_turns) (defBody s_turns) (defScope s_turns) .none kV6 dc6 pm6 an6 cd6 ct6), sl6⟩) (c6 : PySem.W.codeIn K cd6 "turns" = true) (k6 : PySem.W.keepIn K (.ref f6) = true)
    {f7 : Addr} {od7 an7 : Option Addr} {sl7 : Array (Option Value)} {oc7 kV7 dc7 pm7 cd7 ct7 : Value}
    (a7 : PySem.W.findIn K (.ref C_Deal) "__init__" = some (some (.ref f7))) (l7 : K.lookup f7 = some ⟨oc7, od7, .func (PySem.W.fnOf "__init__" "Deal.__init__" (defArgs s_Deal___init__) (defBody s_Deal___init__) (defScope s_Deal___init__) .none kV7 dc7 pm7 an7 cd7 ct7), sl7⟩) (c7 : PySem.W.codeIn K cd7 "Deal.__init__" = true) (k7 : PySem.W.keepIn K (.ref f7) = true) (i7 : PySem.W.isFn K (.ref f7) = true)
    {f8 : Addr} {od8 an8 : Option Addr} {sl8 : Array (Option Value)} {oc8 kV8 dc8 pm8 cd8 ct8 : Value}
    (a8 : PySem.W.nsIn K mainGlobals "_law_other" = some (some (.ref f8))) (l8 : K.lookup f8 = some ⟨oc8, od8, .func (PySem.W.fnOf "_law_other" "_law_other" (defArgs s__law_other) (defBody s__law_other) (defScope s__law_other) .none kV8 dc8 pm8 an8 cd8 ct8), sl8⟩) (c8 : PySem.W.codeIn K cd8 "_law_other" = true) (k8 : PySem.W.keepIn K (.ref f8) = true)
    {f9 : Addr} {od9 an9 : Option Addr} {sl9 : Array (Option Value)} {oc9 kV9 dc9 pm9 cd9 ct9 : Value}
    (a9 : PySem.W.nsIn K mainGlobals "_law_refused" = some (some (.ref f9))) (l9 : K.lookup f9 = some ⟨oc9, od9, .func (PySem.W.fnOf "_law_refused" "_law_refused" (defArgs s__law_refused) (defBody s__law_refused) (defScope s__law_refused) .none kV9 dc9 pm9 an9 cd9 ct9), sl9⟩) (c9 : PySem.W.codeIn K cd9 "_law_refused" = true) (k9 : PySem.W.keepIn K (.ref f9) = true)
    {f10 : Addr} {od10 an10 : Option Addr} {sl10 : Array (Option Value)} {oc10 kV10 dc10 pm10 cd10 ct10 : Value}
    (a10 : PySem.W.nsIn K mainGlobals "_law_spoilt" = some (some (.ref f10))) (l10 : K.lookup f10 = some ⟨oc10, od10, .func (PySem.W.fnOf "_law_spoilt" "_law_spoilt" (defArgs s__law_spoilt) (defBody s__law_spoilt) (defScope s__law_spoilt) .none kV10 dc10 pm10 an10 cd10 ct10), sl10⟩) (c10 : PySem.W.codeIn K cd10 "_law_spoilt" = true) (k10 : PySem.W.keepIn K (.ref f10) = true)
    {f11 : Addr} {od11 an11 : Option Addr} {sl11 : Array (Option Value)} {oc11 kV11 dc11 pm11 cd11 ct11 : Value}
    (a11 : PySem.W.nsIn K mainGlobals "is_whole" = some (some (.ref f11))) (l11 : K.lookup f11 = some ⟨oc11, od11, .func (PySem.W.fnOf "is_whole" "is_whole" (defArgs s_is_whole) (defBody s_is_whole) (defScope s_is_whole) .none kV11 dc11 pm11 an11 cd11 ct11), sl11⟩) (c11 : PySem.W.codeIn K cd11 "is_whole" = true) (k11 : PySem.W.keepIn K (.ref f11) = true)
    {f12 : Addr} {od12 an12 : Option Addr} {sl12 : Array (Option Value)} {oc12 kV12 dc12 pm12 cd12 ct12 : Value}
    (a12 : PySem.W.nsIn K mainGlobals "total_of" = some (some (.ref f12))) (l12 : K.lookup f12 = some ⟨oc12, od12, .func (PySem.W.fnOf "total_of" "total_of" (defArgs s_total_of) (defBody s_total_of) (defScope s_total_of) .none kV12 dc12 pm12 an12 cd12 ct12), sl12⟩) (c12 : PySem.W.codeIn K cd12 "total_of" = true) (k12 : PySem.W.keepIn K (.ref f12) = true)
    {f13 : Addr} {od13 an13 : Option Addr} {sl13 : Array (Option Value)} {oc13 kV13 dc13 pm13 cd13 ct13 : Value}
    (a13 : PySem.W.nsIn K mainGlobals "due_by" = some (some (.ref f13))) (l13 : K.lookup f13 = some ⟨oc13, od13, .func (PySem.W.fnOf "due_by" "due_by" (defArgs s_due_by) (defBody s_due_by) (defScope s_due_by) .none kV13 dc13 pm13 an13 cd13 ct13), sl13⟩) (c13 : PySem.W.codeIn K cd13 "due_by" = true) (k13 : PySem.W.keepIn K (.ref f13) = true)
    {f14 : Addr} {od14 an14 : Option Addr} {sl14 : Array (Option Value)} {oc14 kV14 dc14 pm14 cd14 ct14 : Value}
    (a14 : PySem.W.nsIn K mainGlobals "next_place" = some (some (.ref f14))) (l14 : K.lookup f14 = some ⟨oc14, od14, .func (PySem.W.fnOf "next_place" "next_place" (defArgs s_next_place) (defBody s_next_place) (defScope s_next_place) .none kV14 dc14 pm14 an14 cd14 ct14), sl14⟩) (c14 : PySem.W.codeIn K cd14 "next_place" = true) (k14 : PySem.W.keepIn K (.ref f14) = true)
    {f15 : Addr} {od15 an15 : Option Addr} {sl15 : Array (Option Value)} {oc15 kV15 dc15 pm15 cd15 ct15 : Value}
    (a15 : PySem.W.nsIn K mainGlobals "turns" = some (some (.ref f15))) (l15 : K.lookup f15 = some ⟨oc15, od15, .func (PySem.W.fnOf "turns" "turns" (defArgs s_turns) (defBody s_turns) (defScope s_turns) .none kV15 dc15 pm15 an15 cd15 ct15), sl15⟩) (c15 : PySem.W.codeIn K cd15 "turns" = true) (k15 : PySem.W.keepIn K (.ref f15) = true)
    {f16 : Addr} {od16 an16 : Option Addr} {sl16 : Array (Option Value)} {oc16 kV16 dc16 pm16 cd16 ct16 : Value}
    (a16 : PySem.W.findIn K (.ref C_Deal) "__init__" = some (some (.ref f16))) (l16 : K.lookup f16 = some ⟨oc16, od16, .func (PySem.W.fnOf "__init__" "Deal.__init__" (defArgs s_Deal___init__) (defBody s_Deal___init__) (defScope s_Deal___init__) .none kV16 dc16 pm16 an16 cd16 ct16), sl16⟩) (c16 : PySem.W.codeIn K cd16 "Deal.__init__" = true) (k16 : PySem.W.keepIn K (.ref f16) = true) (i16 : PySem.W.isFn K (.ref f16) = true)
    {f17 : Addr} {od17 an17 : Option Addr} {sl17 : Array (Option Value)} {oc17 kV17 dc17 pm17 cd17 ct17 : Value}
    (a17 : PySem.W.nsIn K mainGlobals "law" = some (some (.ref f17))) (l17 : K.lookup f17 = some ⟨oc17, od17, .func (PySem.W.fnOf "law" "law" (defArgs s_law) (defBody s_law) (defScope s_law) .none kV17 dc17 pm17 an17 cd17 ct17), sl17⟩) (c17 : PySem.W.codeIn K cd17 "law" = true) (k17 : PySem.W.keepIn K (.ref f17) = true)
    (mr_NoShares_NoAmount : PySem.W.mroIn K C_NoShares (.ref C_NoAmount) = some false)
    (ms_NoShares : PySem.W.mroIn K C_NoShares (.ref C_NoShares) = some true)
    (mr_NoShares_NoEntry : PySem.W.mroIn K C_NoShares (.ref C_NoEntry) = some false)
    (mr_NoShares_NoWords : PySem.W.mroIn K C_NoShares (.ref C_NoWords) = some false)
    (mr_NoShares_TooDeep : PySem.W.mroIn K C_NoShares (.ref C_TooDeep) = some false)
    (mr_NoShares_NoClause : PySem.W.mroIn K C_NoShares (.ref C_NoClause) = some false)
    (mr_NoShares_NoCover : PySem.W.mroIn K C_NoShares (.ref C_NoCover) = some false)
    (mr_NoShares_NoBook : PySem.W.mroIn K C_NoShares (.ref C_NoBook) = some false)
    (mr_NoShares_Twice : PySem.W.mroIn K C_NoShares (.ref C_Twice) = some false)
    (mr_NoShares_Late : PySem.W.mroIn K C_NoShares (.ref C_Late) = some false)
    (mr_NoShares_NotTold : PySem.W.mroIn K C_NoShares (.ref C_NotTold) = some false)
    (mr_NoShares_TooWide : PySem.W.mroIn K C_NoShares (.ref C_TooWide) = some false)
    (mr_NoShares_NoText : PySem.W.mroIn K C_NoShares (.ref C_NoText) = some false)
    (mr_NoShares_NoRow : PySem.W.mroIn K C_NoShares (.ref C_NoRow) = some false)
    (mr_NoShares_NoShares : PySem.W.mroIn K C_NoShares (.ref C_NoShares) = some true)
    (mr_NoShares_ValueError : PySem.W.mroIn K C_NoShares (.type "ValueError") = some true)
    (ic_Late : PySem.W.isClsIn K C_Late = true) (ti_Late : PySem.W.typeIn K (.ref C_Late) = some (.type "type"))
    (ic_NoAmount : PySem.W.isClsIn K C_NoAmount = true) (ti_NoAmount : PySem.W.typeIn K (.ref C_NoAmount) = some (.type "type"))
    (ic_NoBook : PySem.W.isClsIn K C_NoBook = true) (ti_NoBook : PySem.W.typeIn K (.ref C_NoBook) = some (.type "type"))
    (ic_NoClause : PySem.W.isClsIn K C_NoClause = true) (ti_NoClause : PySem.W.typeIn K (.ref C_NoClause) = some (.type "type"))
    (ic_NoCover : PySem.W.isClsIn K C_NoCover = true) (ti_NoCover : PySem.W.typeIn K (.ref C_NoCover) = some (.type "type"))
    (ic_NoEntry : PySem.W.isClsIn K C_NoEntry = true) (ti_NoEntry : PySem.W.typeIn K (.ref C_NoEntry) = some (.type "type"))
    (ic_NoRow : PySem.W.isClsIn K C_NoRow = true) (ti_NoRow : PySem.W.typeIn K (.ref C_NoRow) = some (.type "type"))
    (ic_NoShares : PySem.W.isClsIn K C_NoShares = true) (ti_NoShares : PySem.W.typeIn K (.ref C_NoShares) = some (.type "type"))
    (ic_NoText : PySem.W.isClsIn K C_NoText = true) (ti_NoText : PySem.W.typeIn K (.ref C_NoText) = some (.type "type"))
    (ic_NoWords : PySem.W.isClsIn K C_NoWords = true) (ti_NoWords : PySem.W.typeIn K (.ref C_NoWords) = some (.type "type"))
    (ic_NotTold : PySem.W.isClsIn K C_NotTold = true) (ti_NotTold : PySem.W.typeIn K (.ref C_NotTold) = some (.type "type"))
    (ic_TooDeep : PySem.W.isClsIn K C_TooDeep = true) (ti_TooDeep : PySem.W.typeIn K (.ref C_TooDeep) = some (.type "type"))
    (ic_TooWide : PySem.W.isClsIn K C_TooWide = true) (ti_TooWide : PySem.W.typeIn K (.ref C_TooWide) = some (.type "type"))
    (ic_Twice : PySem.W.isClsIn K C_Twice = true) (ti_Twice : PySem.W.typeIn K (.ref C_Twice) = some (.type "type"))
    (z_len : PySem.W.nsIn K mainGlobals "len" = some none)
    (z_min : PySem.W.nsIn K mainGlobals "min" = some none)
    (z_range : PySem.W.nsIn K mainGlobals "range" = some none)
    (z_isinstance : PySem.W.nsIn K mainGlobals "isinstance" = some none)
    (z_int : PySem.W.nsIn K mainGlobals "int" = some none)
    (z_bool : PySem.W.nsIn K mainGlobals "bool" = some none)
    (z_list : PySem.W.nsIn K mainGlobals "list" = some none)
    (z_sum : PySem.W.nsIn K mainGlobals "sum" = some none)
    (z_ValueError : PySem.W.nsIn K mainGlobals "ValueError" = some none)
    (z_tuple : PySem.W.nsIn K mainGlobals "tuple" = some none)
    {tg_MOST_PLACES : Tok} (g_MOST_PLACES : PySem.W.nsIn K mainGlobals "MOST_PLACES" = some (some (.int 8 tg_MOST_PLACES)))
    {tg_MOST_TURNS : Tok} (g_MOST_TURNS : PySem.W.nsIn K mainGlobals "MOST_TURNS" = some (some (.int 100 tg_MOST_TURNS)))
    : ∃ fd : FuncData, (∀ (s : Shared) (v : Value), BindsTo s fd ⟨[v], []⟩ [("_law_script", v)]) ∧ ∀ base : Heap, K.In base → base.Ns mainGlobals mg → FnOk l.prog w K mg base CX0 7 fa fd ["_law_script"] (spLaw K) := by
  have e := hfa.symm.trans (PySem.W.mg_of X G a17)
  cases e
  have q_NoShares_NoShares := kit_true ic_NoShares ti_NoShares mr_NoShares_NoShares
  have q_NoShares_NoAmount := kit_false ms_NoShares ic_NoAmount ti_NoAmount mr_NoShares_NoAmount
  have q_NoShares_NoEntry := kit_false ms_NoShares ic_NoEntry ti_NoEntry mr_NoShares_NoEntry
  have q_NoShares_NoWords := kit_false ms_NoShares ic_NoWords ti_NoWords mr_NoShares_NoWords
  have q_NoShares_TooDeep := kit_false ms_NoShares ic_TooDeep ti_TooDeep mr_NoShares_TooDeep
  have q_NoShares_NoClause := kit_false ms_NoShares ic_NoClause ti_NoClause mr_NoShares_NoClause
  have q_NoShares_NoCover := kit_false ms_NoShares ic_NoCover ti_NoCover mr_NoShares_NoCover
  have q_NoShares_NoBook := kit_false ms_NoShares ic_NoBook ti_NoBook mr_NoShares_NoBook
  have q_NoShares_Twice := kit_false ms_NoShares ic_Twice ti_Twice mr_NoShares_Twice
  have q_NoShares_Late := kit_false ms_NoShares ic_Late ti_Late mr_NoShares_Late
  have q_NoShares_NotTold := kit_false ms_NoShares ic_NotTold ti_NotTold mr_NoShares_NotTold
  have q_NoShares_TooWide := kit_false ms_NoShares ic_TooWide ti_TooWide mr_NoShares_TooWide
  have q_NoShares_NoText := kit_false ms_NoShares ic_NoText ti_NoText mr_NoShares_NoText
  have q_NoShares_NoRow := kit_false ms_NoShares ic_NoRow ti_NoRow mr_NoShares_NoRow
  have q_NoShares_ValueError : PySem.W.kitOne K (.ref C_NoShares) (.type "ValueError") = some true := kit_ty (by decide +kernel) mr_NoShares_ValueError
  have z_len := PySem.W.mg_none_of X G z_len
  have z_min := PySem.W.mg_none_of X G z_min
  have z_range := PySem.W.mg_none_of X G z_range
  have z_isinstance := PySem.W.mg_none_of X G z_isinstance
  have z_int := PySem.W.mg_none_of X G z_int
  have z_bool := PySem.W.mg_none_of X G z_bool
  have z_list := PySem.W.mg_none_of X G z_list
  have z_sum := PySem.W.mg_none_of X G z_sum
  have z_ValueError := PySem.W.mg_none_of X G z_ValueError
  have z_tuple := PySem.W.mg_none_of X G z_tuple
  have g_MOST_PLACES := PySem.W.mg_of X G g_MOST_PLACES
  have g_MOST_TURNS := PySem.W.mg_of X G g_MOST_TURNS
  have F0 := fun_mk (st := s__law_cell) l0 c0 k0
  have b0 := F0.binds (ps := ["_law_script", "_law_k"]) fun _ _ _ _ _ _ us hl => match us, hl with | [_, _], _ => rfl
  have F1 := fun_mk (st := s__law_weights) l1 c1 k1
  have b1 := F1.binds (ps := ["_law_script", "_law_at"]) fun _ _ _ _ _ _ us hl => match us, hl with | [_, _], _ => rfl
  have F2 := fun_mk (st := s_is_whole) l2 c2 k2
  have b2 := F2.binds (ps := ["thing"]) fun _ _ _ _ _ _ us hl => match us, hl with | [_], _ => rfl
  have F3 := fun_mk (st := s_total_of) l3 c3 k3
  have b3 := F3.binds (ps := ["weights"]) fun _ _ _ _ _ _ us hl => match us, hl with | [_], _ => rfl
  have F4 := fun_mk (st := s_due_by) l4 c4 k4
  have b4 := F4.binds (ps := ["given", "weight", "total"]) fun _ _ _ _ _ _ us hl => match us, hl with | [_, _, _], _ => rfl
  have F5 := fun_mk (st := s_next_place) l5 c5 k5
  have b5 := F5.binds (ps := ["weights", "given", "total", "n"]) fun _ _ _ _ _ _ us hl => match us, hl with | [_, _, _, _], _ => rfl
  have F6 := fun_mk (st := s_turns) l6 c6 k6
  have b6 := F6.binds (ps := ["weights"]) fun _ _ _ _ _ _ us hl => match us, hl with | [_], _ => rfl
  have F7 := fun_mk (st := s_Deal___init__) l7 c7 k7
  have b7 := F7.binds (ps := ["self", "weights"]) fun _ _ _ _ _ _ us hl => match us, hl with | [_, _], _ => rfl
  have F8 := fun_mk (st := s__law_other) l8 c8 k8
  have b8 := F8.binds (ps := ["_law_e"]) fun _ _ _ _ _ _ us hl => match us, hl with | [_], _ => rfl
  have F9 := fun_mk (st := s__law_refused) l9 c9 k9
  have b9 := F9.binds (ps := ["_law_way", "_law_thing"]) fun _ _ _ _ _ _ us hl => match us, hl with | [_, _], _ => rfl
  have F10 := fun_mk (st := s__law_spoilt) l10 c10 k10
  have b10 := F10.binds (ps := ["_law_weights_here", "_law_way", "_law_cell_here"]) fun _ _ _ _ _ _ us hl => match us, hl with | [_, _, _], _ => rfl
  have F11 := fun_mk (st := s_is_whole) l11 c11 k11
  have b11 := F11.binds (ps := ["thing"]) fun _ _ _ _ _ _ us hl => match us, hl with | [_], _ => rfl
  have F12 := fun_mk (st := s_total_of) l12 c12 k12
  have b12 := F12.binds (ps := ["weights"]) fun _ _ _ _ _ _ us hl => match us, hl with | [_], _ => rfl
  have F13 := fun_mk (st := s_due_by) l13 c13 k13
  have b13 := F13.binds (ps := ["given", "weight", "total"]) fun _ _ _ _ _ _ us hl => match us, hl with | [_, _, _], _ => rfl
  have F14 := fun_mk (st := s_next_place) l14 c14 k14
  have b14 := F14.binds (ps := ["weights", "given", "total", "n"]) fun _ _ _ _ _ _ us hl => match us, hl with | [_, _, _, _], _ => rfl
  have F15 := fun_mk (st := s_turns) l15 c15 k15
  have b15 := F15.binds (ps := ["weights"]) fun _ _ _ _ _ _ us hl => match us, hl with | [_], _ => rfl
  have F16 := fun_mk (st := s_Deal___init__) l16 c16 k16
  have b16 := F16.binds (ps := ["self", "weights"]) fun _ _ _ _ _ _ us hl => match us, hl with | [_, _], _ => rfl
  have F17 := fun_mk (st := s_law) l17 c17 k17
  refine ⟨PySem.W.fnOf "law" "law" (defArgs s_law) (defBody s_law) (defScope s_law) .none kV17 dc17 pm17 an17 cd17 ct17, fun s v => .of_eq rfl, fun base _ _ => ?_⟩
  have n__law_cell : Fn1 l.prog w K mg base "_law_cell" 1 ["_law_script", "_law_k"] (sp__law_cell K) := ⟨_, _, PySem.W.mg_of X G a0, k0, b0, ok__law_cell F0 z_len⟩
  have n__law_weights : Fn1 l.prog w K mg base "_law_weights" 2 ["_law_script", "_law_at"] (sp__law_weights K) := ⟨_, _, PySem.W.mg_of X G a1, k1, b1, ok__law_weights F1 z_min z_range n__law_cell⟩
  have n_is_whole : Fn1 l.prog w K mg base "is_whole" 1 ["thing"] (sp_is_whole K) := ⟨_, _, PySem.W.mg_of X G a2, k2, b2, ok_is_whole F2 z_isinstance z_int z_bool⟩
  have n_total_of : Fn1E l.prog w K mg base "total_of" 2 ["weights"] (sp_total_of K C_NoShares) := ⟨_, _, PySem.W.mg_of X G a3, k3, b3, ok_total_of F3 z_isinstance z_list z_len z_sum g_MOST_PLACES g_MOST_TURNS ⟨xq_NoShares, PySem.W.mg_of X G a_NoShares, xk_NoShares, xb_NoShares, xt_NoShares⟩ n_is_whole⟩
  have n_due_by : Fn1 l.prog w K mg base "due_by" 1 ["given", "weight", "total"] (sp_due_by K) := ⟨_, _, PySem.W.mg_of X G a4, k4, b4, ok_due_by F4 ⟩
  have n_next_place : Fn1 l.prog w K mg base "next_place" 2 ["weights", "given", "total", "n"] (sp_next_place K) := ⟨_, _, PySem.W.mg_of X G a5, k5, b5, ok_next_place F5 z_range z_len n_due_by⟩
  have n_turns : Fn1E l.prog w K mg base "turns" 3 ["weights"] (sp_turns K C_NoShares) := ⟨_, _, PySem.W.mg_of X G a6, k6, b6, ok_turns F6 z_range n_total_of n_next_place⟩
  have o_Deal___init__ := ok_Deal___init__ (P := l.prog) (w := w) (mg := mg) (base := base) (C_Deal := C_Deal) (C_NoShares := C_NoShares) F7 z_list ⟨⟨pg_Deal, hd_Deal, po_Deal, sa_Deal⟩, fun _ => fun m => (List.mem_cons.mp m).elim (fun e => by rw [e]; exact na_Deal_wheel) (fun m => (List.mem_cons.mp m).elim (fun e => by rw [e]; exact na_Deal_weights) (fun m => (nomatch m)))⟩ n_turns
  have ni_Deal : Mk1E l.prog w K mg base "Deal" C_Deal 4 ["self", "weights"] (spI_Deal___init__ K C_Deal C_NoShares) := ⟨_, _, PySem.W.mg_of X G a_Deal, ⟨mk_Deal, a7, i7, kc_Deal⟩, b7, toI_Deal___init__ o_Deal___init__⟩
  have n__law_other : Fn1H l.prog w K mg base "_law_other" 1 ["_law_e"] (sp__law_other K C_NoShares) := ⟨_, _, PySem.W.mg_of X G a8, k8, b8, ok__law_other F8 z_isinstance ⟨xg_NoShares, xh_NoShares, xb_NoShares, xd_NoShares, xa_NoShares, xn0, xt0, xm_NoShares⟩ (PySem.W.mg_of X G a_NoAmount) q_NoShares_NoAmount (PySem.W.mg_of X G a_NoEntry) q_NoShares_NoEntry (PySem.W.mg_of X G a_NoWords) q_NoShares_NoWords (PySem.W.mg_of X G a_TooDeep) q_NoShares_TooDeep (PySem.W.mg_of X G a_NoClause) q_NoShares_NoClause (PySem.W.mg_of X G a_NoCover) q_NoShares_NoCover (PySem.W.mg_of X G a_NoBook) q_NoShares_NoBook (PySem.W.mg_of X G a_Twice) q_NoShares_Twice (PySem.W.mg_of X G a_Late) q_NoShares_Late (PySem.W.mg_of X G a_NotTold) q_NoShares_NotTold (PySem.W.mg_of X G a_TooWide) q_NoShares_TooWide (PySem.W.mg_of X G a_NoText) q_NoShares_NoText (PySem.W.mg_of X G a_NoRow) q_NoShares_NoRow⟩
  have n__law_refused : Fn1 l.prog w K mg base "_law_refused" 6 ["_law_way", "_law_thing"] (sp__law_refused K) := ⟨_, _, PySem.W.mg_of X G a9, k9, b9, ok__law_refused F9 z_isinstance z_ValueError (PySem.W.mg_of X G a_CoverError) (PySem.W.exm_ref xb_CoverError xd_CoverError xt_CoverError xs_NoShares_CoverError) n_turns ni_Deal (PySem.W.mg_of X G a_NoShares) ⟨xg_NoShares, xh_NoShares, xb_NoShares, xd_NoShares, xa_NoShares, xn0, xt0, xm_NoShares⟩ q_NoShares_NoShares q_NoShares_ValueError n__law_other⟩
  have n__law_spoilt : Fn1 l.prog w K mg base "_law_spoilt" 1 ["_law_weights_here", "_law_way", "_law_cell_here"] (sp__law_spoilt K) := ⟨_, _, PySem.W.mg_of X G a10, k10, b10, ok__law_spoilt F10 z_len z_list z_sum⟩
  have n_is_whole_h : Fn1 l.prog w K mg base "is_whole" 1 ["thing"] (sp_is_whole_h K) := ⟨_, _, PySem.W.mg_of X G a11, k11, b11, ok_is_whole_h F11 z_bool z_int z_isinstance⟩
  have n_total_of_h : Fn1 l.prog w K mg base "total_of" 2 ["weights"] (sp_total_of_h K) := ⟨_, _, PySem.W.mg_of X G a12, k12, b12, ok_total_of_h F12 z_isinstance z_len z_list z_sum g_MOST_PLACES g_MOST_TURNS n_is_whole_h⟩
  have n_due_by_h : Fn1 l.prog w K mg base "due_by" 1 ["given", "weight", "total"] (sp_due_by_h K) := ⟨_, _, PySem.W.mg_of X G a13, k13, b13, ok_due_by_h F13 ⟩
  have n_next_place_h : Fn1 l.prog w K mg base "next_place" 2 ["weights", "given", "total", "n"] (sp_next_place_h K) := ⟨_, _, PySem.W.mg_of X G a14, k14, b14, ok_next_place_h F14 z_len z_range n_due_by_h⟩
  have n_turns_h : Fn1 l.prog w K mg base "turns" 3 ["weights"] (sp_turns_h K) := ⟨_, _, PySem.W.mg_of X G a15, k15, b15, ok_turns_h F15 z_range n_total_of_h n_next_place_h⟩
  have o_Deal_h___init__ := ok_Deal_h___init__ (P := l.prog) (w := w) (mg := mg) (base := base) (C_Deal := C_Deal) F16 z_list ⟨⟨pg_Deal, hd_Deal, po_Deal, sa_Deal⟩, fun _ => fun m => (List.mem_cons.mp m).elim (fun e => by rw [e]; exact na_Deal_wheel) (fun m => (List.mem_cons.mp m).elim (fun e => by rw [e]; exact na_Deal_weights) (fun m => (nomatch m)))⟩ n_turns_h
  have ni_Deal_h : Mk1 l.prog w K mg base "Deal" C_Deal 4 ["self", "weights"] (sp_Deal_h___init__ K C_Deal) := ⟨_, _, PySem.W.mg_of X G a_Deal, ⟨mk_Deal, a16, i16, kc_Deal⟩, b16, o_Deal_h___init__⟩
  exact ok_law F17 z_tuple z_range z_list z_len z_sum ⟨⟨pg_Deal, hd_Deal, po_Deal, sa_Deal⟩, fun _ => fun m => (List.mem_cons.mp m).elim (fun e => by rw [e]; exact na_Deal_wheel) (fun m => (List.mem_cons.mp m).elim (fun e => by rw [e]; exact na_Deal_weights) (fun m => (nomatch m)))⟩ n__law_weights n__law_cell n__law_refused n__law_spoilt n_turns_h ni_Deal_h
theorem walk {l : PySem.W.OpenLaw} {q : Program} {loose : List Str} {XP : (Str → Option Value) → Heap → Prop} {YP : World → Heap → Prop} {d : DefRec} {K : Params → PySem.W.Frag} (hn : l.most = some 63) (hdf : d.params.defaults = [])
    (hY : ∀ (w : World) (h : Heap), YP w h → (K w.params).In h)
    (F : ∀ (w : World) (mg : Str → Option Value) (fa : Addr) (h : Heap), (K w.params).In h → h.Ns mainGlobals mg → mg d.name = some (.ref fa) →
      ∃ fd : FuncData, (∀ (s : Shared) (u : Value), BindsTo s fd ⟨[u], []⟩ [("_law_script", u)]) ∧ ∀ base : Heap, (K w.params).In base → base.Ns mainGlobals mg → FnOk l.prog w (K w.params) mg base CX0 7 fa fd ["_law_script"] (spLaw (K w.params))) :
    PySem.W.WalkO q loose XP YP l.row.toRowW d [] (fun f vs => PySem.call f vs) :=
  L2.walk_of (n := 63) (k := 7) (x := "_law_script") (CX := fun _ => CX0) (sp := fun w => spLaw (K w.params)) hn (by decide) hdf ⟨rfl, by decide, by decide⟩ hY F (fun _ H a ns hl _ hS => spLaw_of hS hl) fun _ _ _ _ _ z => z
end K17

open PySem PySem.W PyProof.Rows in
set_option maxRecDepth 100000 in
set_option maxHeartbeats 0 in
theorem PySem.Challenge.cw_coverroll_k17_no_shares_holds : PySem.Challenge.rw_coverroll_k17_no_shares.Holds := by
  w_on; o_law; k_head; (case hw => w_witness2)
  k_fill
  refine K17.walk (l := PySem.Challenge.rw_coverroll_k17_no_shares) rfl rfl (fun w h Y => PySem.W.kIn_of Y) ?F
  case F =>
    intro w mg fa h KX G hmg
    refine' K17.all_mk KX G hmg ?a_Deal ?pg_Deal ?hd_Deal ?po_Deal ?sa_Deal ?mk_Deal ?kc_Deal ?na_Deal_wheel ?na_Deal_weights ?a_NoAmount ?a_NoEntry ?a_NoWords ?a_TooDeep ?a_NoClause ?a_NoCover ?a_NoBook ?a_Twice ?a_Late ?a_NotTold ?a_TooWide ?a_NoText ?a_NoRow ?a_CoverError ?a_NoShares ?xq_NoShares ?xk_NoShares ?xb_NoShares ?xt_NoShares ?xg_NoShares ?xh_NoShares ?xd_NoShares ?xa_NoShares ?xm_NoShares ?xn0 ?xt0 ?xb_CoverError ?xd_CoverError ?xt_CoverError ?xs_NoShares_CoverError ?a0 ?l0 ?c0 ?k0 ?a1 ?l1 ?c1 ?k1 ?a2 ?l2 ?c2 ?k2 ?a3 ?l3 ?c3 ?k3 ?a4 ?l4 ?c4 ?k4 ?a5 ?l5 ?c5 ?k5 ?a6 ?l6 ?c6 ?k6 ?a7 ?l7 ?c7 ?k7 ?i7 ?a8 ?l8 ?c8 ?k8 ?a9 ?l9 ?c9 ?k9 ?a10 ?l10 ?c10 ?k10 ?a11 ?l11 ?c11 ?k11 ?a12 ?l12 ?c12 ?k12 ?a13 ?l13 ?c13 ?k13 ?a14 ?l14 ?c14 ?k14 ?a15 ?l15 ?c15 ?k15 ?a16 ?l16 ?c16 ?k16 ?i16 ?a17 ?l17 ?c17 ?k17 ?mr_NoShares_NoAmount ?ms_NoShares ?mr_NoShares_NoEntry ?mr_NoShares_NoWords ?mr_NoShares_TooDeep ?mr_NoShares_NoClause ?mr_NoShares_NoCover ?mr_NoShares_NoBook ?mr_NoShares_Twice ?mr_NoShares_Late ?mr_NoShares_NotTold ?mr_NoShares_TooWide ?mr_NoShares_NoText ?mr_NoShares_NoRow ?mr_NoShares_NoShares ?mr_NoShares_ValueError ?ic_Late ?ti_Late ?ic_NoAmount ?ti_NoAmount ?ic_NoBook ?ti_NoBook ?ic_NoClause ?ti_NoClause ?ic_NoCover ?ti_NoCover ?ic_NoEntry ?ti_NoEntry ?ic_NoRow ?ti_NoRow ?ic_NoShares ?ti_NoShares ?ic_NoText ?ti_NoText ?ic_NoWords ?ti_NoWords ?ic_NotTold ?ti_NotTold ?ic_TooDeep ?ti_TooDeep ?ic_TooWide ?ti_TooWide ?ic_Twice ?ti_Twice ?z_len ?z_min ?z_range ?z_isinstance ?z_int ?z_bool ?z_list ?z_sum ?z_ValueError ?z_tuple ?g_MOST_PLACES ?g_MOST_TURNS
    (case a_Deal => k_is)
    (case pg_Deal => k_is)
    (case hd_Deal => k_is)
    (case po_Deal => k_is)
    (case sa_Deal => k_is)
    (case mk_Deal => k_is)
    (case kc_Deal => k_is)
    (case na_Deal_wheel => k_is)
    (case na_Deal_weights => k_is)
    (case a_NoAmount => k_is)
    (case a_NoEntry => k_is)
    (case a_NoWords => k_is)
    (case a_TooDeep => k_is)
    (case a_NoClause => k_is)
    (case a_NoCover => k_is)
    (case a_NoBook => k_is)
    (case a_Twice => k_is)
    (case a_Late => k_is)
    (case a_NotTold => k_is)
    (case a_TooWide => k_is)
    (case a_NoText => k_is)
    (case a_NoRow => k_is)
    (case a_CoverError => k_is)
    (case a_NoShares => k_is)
    (case xq_NoShares => k_exc)
    (case xk_NoShares => k_is)
    (case xb_NoShares => k_is)
    (case xt_NoShares => k_is)
    (case xg_NoShares => k_is)
    (case xh_NoShares => k_is)
    (case xd_NoShares => k_is)
    (case xa_NoShares => k_is)
    (case xm_NoShares => k_is)
    (case xn0 => k_is)
    (case xt0 => k_is)
    (case xb_CoverError => k_is)
    (case xd_CoverError => k_is)
    (case xt_CoverError => k_is)
    (case xs_NoShares_CoverError => k_is)
    (case a0 => k_is)
    (case l0 => k_is)
    (case c0 => k_is)
    (case k0 => k_is)
    (case a1 => k_is)
    (case l1 => k_is)
    (case c1 => k_is)
    (case k1 => k_is)
    (case a2 => k_is)
    (case l2 => k_is)
    (case c2 => k_is)
    (case k2 => k_is)
    (case a3 => k_is)
    (case l3 => k_is)
    (case c3 => k_is)
    (case k3 => k_is)
    (case a4 => k_is)
    (case l4 => k_is)
    (case c4 => k_is)
    (case k4 => k_is)
    (case a5 => k_is)
    (case l5 => k_is)
    (case c5 => k_is)
    (case k5 => k_is)
    (case a6 => k_is)
    (case l6 => k_is)
    (case c6 => k_is)
    (case k6 => k_is)
    (case a7 => k_is)
    (case l7 => k_is)
    (case c7 => k_is)
    (case k7 => k_is)
    (case i7 => k_is)
    (case a8 => k_is)
    (case l8 => k_is)
    (case c8 => k_is)
    (case k8 => k_is)
    (case a9 => k_is)
    (case l9 => k_is)
    (case c9 => k_is)
    (case k9 => k_is)
    (case a10 => k_is)
    (case l10 => k_is)
    (case c10 => k_is)
    (case k10 => k_is)
    (case a11 => k_is)
    (case l11 => k_is)
    (case c11 => k_is)
    (case k11 => k_is)
    (case a12 => k_is)
    (case l12 => k_is)
    (case c12 => k_is)
    (case k12 => k_is)
    (case a13 => k_is)
    (case l13 => k_is)
    (case c13 => k_is)
    (case k13 => k_is)
    (case a14 => k_is)
    (case l14 => k_is)
    (case c14 => k_is)
    (case k14 => k_is)
    (case a15 => k_is)
    (case l15 => k_is)
    (case c15 => k_is)
    (case k15 => k_is)
    (case a16 => k_is)
    (case l16 => k_is)
    (case c16 => k_is)
    (case k16 => k_is)
    (case i16 => k_is)
    (case a17 => k_is)
    (case l17 => k_is)
    (case c17 => k_is)
    (case k17 => k_is)
    (case mr_NoShares_NoAmount => k_is)
    (case ms_NoShares => k_is)
    (case mr_NoShares_NoEntry => k_is)
    (case mr_NoShares_NoWords => k_is)
    (case mr_NoShares_TooDeep => k_is)
    (case mr_NoShares_NoClause => k_is)
    (case mr_NoShares_NoCover => k_is)
    (case mr_NoShares_NoBook => k_is)
    (case mr_NoShares_Twice => k_is)
    (case mr_NoShares_Late => k_is)
    (case mr_NoShares_NotTold => k_is)
    (case mr_NoShares_TooWide => k_is)
    (case mr_NoShares_NoText => k_is)
    (case mr_NoShares_NoRow => k_is)
    (case mr_NoShares_NoShares => k_is)
    (case mr_NoShares_ValueError => k_is)
    (case ic_Late => k_is)
    (case ti_Late => k_is)
    (case ic_NoAmount => k_is)
    (case ti_NoAmount => k_is)
    (case ic_NoBook => k_is)
    (case ti_NoBook => k_is)
    (case ic_NoClause => k_is)
    (case ti_NoClause => k_is)
    (case ic_NoCover => k_is)
    (case ti_NoCover => k_is)
    (case ic_NoEntry => k_is)
    (case ti_NoEntry => k_is)
    (case ic_NoRow => k_is)
    (case ti_NoRow => k_is)
    (case ic_NoShares => k_is)
    (case ti_NoShares => k_is)
    (case ic_NoText => k_is)
    (case ti_NoText => k_is)
    (case ic_NoWords => k_is)
    (case ti_NoWords => k_is)
    (case ic_NotTold => k_is)
    (case ti_NotTold => k_is)
    (case ic_TooDeep => k_is)
    (case ti_TooDeep => k_is)
    (case ic_TooWide => k_is)
    (case ti_TooWide => k_is)
    (case ic_Twice => k_is)
    (case ti_Twice => k_is)
    (case z_len => k_is)
    (case z_min => k_is)
    (case z_range => k_is)
    (case z_isinstance => k_is)
    (case z_int => k_is)
    (case z_bool => k_is)
    (case z_list => k_is)
    (case z_sum => k_is)
    (case z_ValueError => k_is)
    (case z_tuple => k_is)
    (case g_MOST_PLACES => k_is)
    (case g_MOST_TURNS => k_is)
