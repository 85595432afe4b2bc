import PyProof.Rows.All
import Wide.All
import OpenK.AllK
import Wide.FinOn
import HandS.ForMost
import HandS.IsInst
import HandS.Exc
import HandS.Style
import HandS.Wide
import HandS.StrMore
import HandS.SetFor
import PyProof.LongRange
import HandS.Codes
import KE.SortData
import HandS.ClsMeth
import PyProof.Rows.StrRev
import PyProof.StrOps2
import HandS.Defaults
import HandS.More
import HandS.ExcOwn
import HandS.WordsExc
import HandS.TryOnly
import HandS.ExcIs
import HandS.Deep
import HandS.Text
import PyProof.EqKinds
import PyProof.P3In
import HandS.Dict
import PySem.Challenge.RW_coverroll_k26_whole_marks_part_losses
set_option Elab.async false
set_option linter.all false
set_option maxRecDepth 100000
set_option maxHeartbeats 4000000
namespace M
open PySem L2

/-- data that no one changes any more -/
inductive D where
  | non | bl (b : Bool) | int (i : Int) | str (x : Str) | ty (n : String) | opq (a : Addr)
  | tup (ds : List D) | lst (ds : List D) | ins (C : Addr) (ns : List Str) (ds : List D)
  | dct (ks : List Key) (ds : List D) | dctT (ks : List (List Key)) (ds : List D)
/-- an error: its class, its attribute -/
structure Er where
  C : Addr
  fld : Option (Str × D) := none
/-- things of the def's own, that may be changed; rs: nothing comes back, an error is raised; vw: a list that stays as it is while the def runs -/
inductive O where
  | fz (d : D) | vw (ds : List D) | lst (os : List O) | tup (os : List O) | ins (C : Addr) (ns : List Str) (os : List O)
  | dct (ks : List Key) (os : List O) | dctT (ks : List (List Key)) (os : List O)
  | at (a : Addr) (C : Addr) (ns : List Str) (os : List O)
  | vwa (a : Addr) (ds : List D)
  | loc (a : Addr) (o : O)
  | pt (a : Addr)
  | rs (e : Er)

def Ex (H H' : Hp) : Prop := ∀ a o, H a = some o → H' a = some o
theorem Ex.refl (H : Hp) : Ex H H := fun _ _ h => h
theorem Ex.trans {H H1 H2 : Hp} (a : Ex H H1) (b : Ex H1 H2) : Ex H H2 := fun x o h => b x o (a x o h)
theorem Ex.new {H : Hp} {p : Addr} {o : HO} (h : H p = none) : Ex H (upd H p o) := fun a u e => by
  rw [upd_ne (ne_of_none e h)]
  exact e
theorem Ex.free {H H' : Hp} {p : Addr} (e : Ex H H') (h : H' p = none) : H p = none := by
  cases h1 : H p with
  | none => rfl
  | some o =>
    rw [e p o h1] at h
    cases h
theorem Ex.mut {H H' : Hp} {p : Addr} {o : HO} (e : Ex H H') (h : H p = none) : Ex H (upd H' p o) := fun a u ha => by
  rw [upd_ne (ne_of_none ha h)]
  exact e a u ha
theorem ex_rd {H H' : Hp} {a : Addr} {u : HO} (e : Ex H H') (h : Rd H a u) : Rd H' a u := by
  rcases h with h | ⟨o, h⟩
  · exact .inl (e a _ h)
  · exact .inr ⟨o, e a _ h⟩
theorem ex_l {K : PySem.W.Frag} {H H' : Hp} {a : Addr} {xs : List V} (e : Ex H H') (h : SqL K H a xs) : SqL K H' a xs := by
  rcases h with h | h
  · exact .inl (ex_rd e h)
  · exact .inr h
theorem ex_t {K : PySem.W.Frag} {H H' : Hp} {a : Addr} {xs : List V} (e : Ex H H') (h : SqT K H a xs) : SqT K H' a xs := by
  rcases h with h | h
  · exact .inl (ex_rd e h)
  · exact .inr h

mutual
inductive Rep (K : PySem.W.Frag) (Z : Hp) : V → D → Prop where
  | non : Rep K Z .non .non
  | bl (b : Bool) : Rep K Z (.bl b) (.bl b)
  | int (i : Int) : Rep K Z (.int i) (.int i)
  | str (x : Str) : Rep K Z (.str x) (.str x)
  | ty (n : String) : Rep K Z (.ty n) (.ty n)
  | opq (a : Addr) : Rep K Z (.ref a) (.opq a)
  | tup {a : Addr} {vs : List V} {ds : List D} : SqT K Z a vs → RepL K Z vs ds → Rep K Z (.ref a) (.tup ds)
  | lst {a : Addr} {vs : List V} {ds : List D} : SqL K Z a vs → RepL K Z vs ds → Rep K Z (.ref a) (.lst ds)
  | ins {a C dx : Addr} {ns : List Str} {vs : List V} {ds : List D} : Z a = some (.ins C dx (ns.zip vs)) → RepL K Z vs ds → Rep K Z (.ref a) (.ins C ns ds)
  | dct {a : Addr} {ks : List Key} {vs : List V} {ds : List D} : Z a = some (.dK (ks.zip vs)) → RepL K Z vs ds → Rep K Z (.ref a) (.dct ks ds)
  | dctT {a : Addr} {ks : List (List Key)} {vs : List V} {ds : List D} : Z a = some (.dT (ks.zip vs)) → RepL K Z vs ds → Rep K Z (.ref a) (.dctT ks ds)
inductive RepL (K : PySem.W.Frag) (Z : Hp) : List V → List D → Prop where
  | nil : RepL K Z [] []
  | cons {v : V} {vs : List V} {d : D} {ds : List D} : Rep K Z v d → RepL K Z vs ds → RepL K Z (v :: vs) (d :: ds)
end
mutual
inductive RepO (K : PySem.W.Frag) (Z F H : Hp) : V → O → List Addr → Prop where
  | fz {v : V} {d : D} : Rep K Z v d → RepO K Z F H v (.fz d) []
  | vw {a : Addr} {vs : List V} {ds : List D} : SqL K F a vs → RepL K Z vs ds → RepO K Z F H (.ref a) (.vw ds) []
  | vwa {a : Addr} {vs : List V} {ds : List D} : SqL K F a vs → RepL K Z vs ds → RepO K Z F H (.ref a) (.vwa a ds) []
  | lst {a : Addr} {vs : List V} {os : List O} {A : List Addr} : H a = some (.lst vs) → RepOL K Z F H vs os A → RepO K Z F H (.ref a) (.lst os) (a :: A)
  | tup {a : Addr} {vs : List V} {os : List O} {A : List Addr} : H a = some (.tup vs) → RepOL K Z F H vs os A → RepO K Z F H (.ref a) (.tup os) (a :: A)
  | ins {a C dx : Addr} {ns : List Str} {vs : List V} {os : List O} {A : List Addr} : H a = some (.ins C dx (ns.zip vs)) → RepOL K Z F H vs os A → RepO K Z F H (.ref a) (.ins C ns os) (a :: A)
  | at {a C dx : Addr} {ns : List Str} {vs : List V} {os : List O} {A : List Addr} : H a = some (.ins C dx (ns.zip vs)) → RepOL K Z F H vs os A → RepO K Z F H (.ref a) (.at a C ns os) (a :: A)
  | dct {a : Addr} {ks : List Key} {vs : List V} {os : List O} {A : List Addr} : H a = some (.dK (ks.zip vs)) → RepOL K Z F H vs os A → RepO K Z F H (.ref a) (.dct ks os) (a :: A)
  | dctT {a : Addr} {ks : List (List Key)} {vs : List V} {os : List O} {A : List Addr} : H a = some (.dT (ks.zip vs)) → RepOL K Z F H vs os A → RepO K Z F H (.ref a) (.dctT ks os) (a :: A)
  | loc {a : Addr} {o : O} {A : List Addr} : RepO K Z F H (.ref a) o A → RepO K Z F H (.ref a) (.loc a o) A
  | pt {a : Addr} : RepO K Z F H (.ref a) (.pt a) []
inductive RepOL (K : PySem.W.Frag) (Z F H : Hp) : List V → List O → List Addr → Prop where
  | nil : RepOL K Z F H [] [] []
  | cons {v : V} {vs : List V} {o : O} {os : List O} {A B : List Addr} : RepO K Z F H v o A → RepOL K Z F H vs os B → RepOL K Z F H (v :: vs) (o :: os) (A ++ B)
end

section
variable {K : PySem.W.Frag} {Z Z' F F' H H' : Hp}
mutual
theorem Rep.mono (e : Ex Z Z') : ∀ {v : V} {d : D}, Rep K Z v d → Rep K Z' v d
  | _, _, .non => .non
  | _, _, .bl b => .bl b
  | _, _, .int i => .int i
  | _, _, .str x => .str x
  | _, _, .ty n => .ty n
  | _, _, .opq a => .opq a
  | _, _, .tup h r => .tup (ex_t e h) (RepL.mono e r)
  | _, _, .lst h r => .lst (ex_l e h) (RepL.mono e r)
  | _, _, .ins h r => .ins (e _ _ h) (RepL.mono e r)
  | _, _, .dct h r => .dct (e _ _ h) (RepL.mono e r)
  | _, _, .dctT h r => .dctT (e _ _ h) (RepL.mono e r)
theorem RepL.mono (e : Ex Z Z') : ∀ {vs : List V} {ds : List D}, RepL K Z vs ds → RepL K Z' vs ds
  | _, _, .nil => .nil
  | _, _, .cons h r => .cons (Rep.mono e h) (RepL.mono e r)
end
mutual
theorem RepO.mono (e : Ex Z Z') (f : Ex F F') : ∀ {v : V} {o : O} {A : List Addr}, RepO K Z F H v o A → (∀ a ∈ A, ∀ u, H a = some u → H' a = some u) → RepO K Z' F' H' v o A
  | _, _, _, .fz h, _ => .fz (h.mono e)
  | _, _, _, .vw h r, _ => .vw (ex_l f h) (r.mono e)
  | _, _, _, .vwa h r, _ => .vwa (ex_l f h) (r.mono e)
  | _, _, _, .lst h r, k => .lst (k _ List.mem_cons_self _ h) (RepOL.mono e f r fun a m => k a (List.mem_cons_of_mem _ m))
  | _, _, _, .tup h r, k => .tup (k _ List.mem_cons_self _ h) (RepOL.mono e f r fun a m => k a (List.mem_cons_of_mem _ m))
  | _, _, _, .ins h r, k => .ins (k _ List.mem_cons_self _ h) (RepOL.mono e f r fun a m => k a (List.mem_cons_of_mem _ m))
  | _, _, _, .loc h, k => .loc (RepO.mono e f h k)
  | _, _, _, .pt, _ => .pt
  | _, _, _, .at h r, k => .at (k _ List.mem_cons_self _ h) (RepOL.mono e f r fun a m => k a (List.mem_cons_of_mem _ m))
  | _, _, _, .dct h r, k => .dct (k _ List.mem_cons_self _ h) (RepOL.mono e f r fun a m => k a (List.mem_cons_of_mem _ m))
  | _, _, _, .dctT h r, k => .dctT (k _ List.mem_cons_self _ h) (RepOL.mono e f r fun a m => k a (List.mem_cons_of_mem _ m))
theorem RepOL.mono (e : Ex Z Z') (f : Ex F F') : ∀ {vs : List V} {os : List O} {A : List Addr}, RepOL K Z F H vs os A → (∀ a ∈ A, ∀ u, H a = some u → H' a = some u) → RepOL K Z' F' H' vs os A
  | _, _, _, .nil, _ => .nil
  | _, _, _, .cons h r, k => .cons (RepO.mono e f h fun a m => k a (List.mem_append_left _ m)) (RepOL.mono e f r fun a m => k a (List.mem_append_right _ m))
end
mutual
theorem RepO.there : ∀ {v : V} {o : O} {A : List Addr}, RepO K Z F H v o A → ∀ a ∈ A, ∃ u, H a = some u
  | _, _, _, .fz _, _, m => nomatch m
  | _, _, _, .vw _ _, _, m => nomatch m
  | _, _, _, .vwa _ _, _, m => nomatch m
  | _, _, _, .lst h r, a, m => (List.mem_cons.mp m).elim (fun e => ⟨_, e ▸ h⟩) fun m => RepOL.there r a m
  | _, _, _, .tup h r, a, m => (List.mem_cons.mp m).elim (fun e => ⟨_, e ▸ h⟩) fun m => RepOL.there r a m
  | _, _, _, .ins h r, a, m => (List.mem_cons.mp m).elim (fun e => ⟨_, e ▸ h⟩) fun m => RepOL.there r a m
  | _, _, _, .loc h, a, m => RepO.there h a m
  | _, _, _, .pt, _, m => nomatch m
  | _, _, _, .at h r, a, m => (List.mem_cons.mp m).elim (fun e => ⟨_, e ▸ h⟩) fun m => RepOL.there r a m
  | _, _, _, .dct h r, a, m => (List.mem_cons.mp m).elim (fun e => ⟨_, e ▸ h⟩) fun m => RepOL.there r a m
  | _, _, _, .dctT h r, a, m => (List.mem_cons.mp m).elim (fun e => ⟨_, e ▸ h⟩) fun m => RepOL.there r a m
theorem RepOL.there : ∀ {vs : List V} {os : List O} {A : List Addr}, RepOL K Z F H vs os A → ∀ a ∈ A, ∃ u, H a = some u
  | _, _, _, .nil, _, m => nomatch m
  | _, _, _, .cons h r, a, m => (List.mem_append.mp m).elim (fun m => RepO.there h a m) fun m => RepOL.there r a m
end
theorem RepO.ex {v : V} {o : O} {A : List Addr} (e : Ex Z Z') (g : Ex H H') (r : RepO K Z F H v o A) : RepO K Z' F H' v o A := r.mono e (Ex.refl _) fun a _ u h => g a u h
theorem RepO.frame {v : V} {o : O} {A : List Addr} (r : RepO K Z F H v o A) (k : ∀ a ∈ A, H' a = H a) : RepO K Z F H' v o A := r.mono (Ex.refl _) (Ex.refl _) fun a m u h => (k a m).trans h
theorem RepL.length : ∀ {vs : List V} {ds : List D}, RepL K Z vs ds → vs.length = ds.length
  | _, _, .nil => rfl
  | _, _, .cons _ r => congrArg (· + 1) r.length
theorem RepL.get : ∀ {vs : List V} {ds : List D} {i : Nat} {d : D}, RepL K Z vs ds → ds[i]? = some d → ∃ v, vs[i]? = some v ∧ Rep K Z v d
  | _, _, _, _, .nil, e => by simp at e
  | _, _, 0, _, .cons h _, e => by
    simp at e
    subst e
    exact ⟨_, rfl, h⟩
  | _, _, i + 1, d, .cons _ r, e => by
    obtain ⟨v, h1, h2⟩ := RepL.get (i := i) (d := d) r (by simpa using e)
    exact ⟨v, by simpa using h1, h2⟩
theorem RepL.getV : ∀ {vs : List V} {ds : List D} {i : Nat} {v : V}, RepL K Z vs ds → vs[i]? = some v → ∃ d, ds[i]? = some d ∧ Rep K Z v d
  | _, _, _, _, .nil, e => by simp at e
  | _, _, 0, _, .cons h _, e => by
    simp at e
    subst e
    exact ⟨_, rfl, h⟩
  | _, _, i + 1, v, .cons _ r, e => by
    obtain ⟨d, h1, h2⟩ := RepL.getV (i := i) (v := v) r (by simpa using e)
    exact ⟨d, by simpa using h1, h2⟩
theorem RepL.append : ∀ {vs ws : List V} {ds es : List D}, RepL K Z vs ds → RepL K Z ws es → RepL K Z (vs ++ ws) (ds ++ es)
  | _, _, _, _, .nil, s => s
  | _, _, _, _, .cons h r, s => .cons h (r.append s)
theorem RepL.set {v : V} {d : D} (h : Rep K Z v d) : ∀ {vs : List V} {ds : List D} (i : Nat), RepL K Z vs ds → RepL K Z (vs.set i v) (ds.set i d)
  | _, _, _, .nil => .nil
  | _, _, 0, .cons _ r => .cons h r
  | _, _, i + 1, .cons g r => .cons g (RepL.set h i r)
theorem RepL.take : ∀ {vs : List V} {ds : List D} (n : Nat), RepL K Z vs ds → RepL K Z (vs.take n) (ds.take n)
  | _, _, 0, _ => .nil
  | _, _, _ + 1, .nil => .nil
  | _, _, n + 1, .cons h r => .cons h (RepL.take n r)
theorem RepL.drop : ∀ {vs : List V} {ds : List D} (n : Nat), RepL K Z vs ds → RepL K Z (vs.drop n) (ds.drop n)
  | _, _, 0, r => r
  | _, _, _ + 1, .nil => .nil
  | _, _, n + 1, .cons _ r => RepL.drop n r
theorem RepL.reverse : ∀ {vs : List V} {ds : List D}, RepL K Z vs ds → RepL K Z vs.reverse ds.reverse
  | _, _, .nil => .nil
  | _, _, .cons h r => by
    rw [List.reverse_cons, List.reverse_cons]
    exact r.reverse.append (.cons h .nil)
/-- a list of frozen things -/
theorem RepOL.fzs : ∀ {ds : List D} {vs : List V} {A : List Addr}, RepOL K Z F H vs (ds.map .fz) A → A = [] ∧ RepL K Z vs ds
  | [], _, _, .nil => ⟨rfl, .nil⟩
  | _ :: _, _, _, .cons (.fz h) r => by
    obtain ⟨e, q⟩ := RepOL.fzs r
    exact ⟨by rw [e]; rfl, .cons h q⟩
theorem RepL.own : ∀ {vs : List V} {ds : List D}, RepL K Z vs ds → RepOL K Z F H vs (ds.map .fz) []
  | _, _, .nil => .nil
  | _, _, .cons h r => .cons (A := []) (B := []) (.fz h) r.own
theorem RepL.ints : ∀ {ns : List Int} {vs : List V}, RepL K Z vs (ns.map .int) → vs = ns.map V.int
  | [], _, .nil => rfl
  | _ :: _, _, .cons (.int _) r => by rw [r.ints]; rfl
theorem RepL.ofInts : ∀ {ns : List Int}, RepL K Z (ns.map V.int) (ns.map .int)
  | [] => .nil
  | n :: r => .cons (.int n) (RepL.ofInts (ns := r))
end

/-! ### freezing -/
mutual
def O.frz : O → D
  | .fz d => d
  | .vw ds => .lst ds
  | .vwa _ ds => .lst ds
  | .lst os => .lst (O.frzL os)
  | .tup os => .tup (O.frzL os)
  | .ins C ns os => .ins C ns (O.frzL os)
  | .at _ C ns os => .ins C ns (O.frzL os)
  | .loc _ o => o.frz
  | .pt a => .opq a
  | .rs _ => .non
  | .dct ks os => .dct ks (O.frzL os)
  | .dctT ks os => .dctT ks (O.frzL os)
def O.frzL : List O → List D
  | [] => []
  | o :: r => o.frz :: O.frzL r
end
mutual
def O.nv : O → Bool
  | .fz _ => true
  | .vw _ => false
  | .vwa _ _ => false
  | .lst os => O.nvL os
  | .tup os => O.nvL os
  | .ins _ _ os => O.nvL os
  | .at _ _ _ os => O.nvL os
  | .loc _ o => o.nv
  | .pt _ => true
  | .rs _ => false
  | .dct _ os => O.nvL os
  | .dctT _ os => O.nvL os
def O.nvL : List O → Bool
  | [] => true
  | o :: r => o.nv && O.nvL r
end
theorem O.frzL_fz : ∀ ds : List D, O.frzL (ds.map .fz) = ds
  | [] => rfl
  | d :: r => by
    show O.frz (.fz d) :: O.frzL (r.map .fz) = d :: r
    rw [O.frzL_fz r]
    rfl
theorem O.nvL_fz : ∀ ds : List D, O.nvL (ds.map .fz) = true
  | [] => rfl
  | d :: r => by
    show (O.nv (.fz d) && O.nvL (r.map .fz)) = true
    rw [O.nvL_fz r]
    rfl
section
variable {K : PySem.W.Frag} {Z Z' F H : Hp}
mutual
theorem RepO.frz (e : Ex Z Z') : ∀ {v : V} {o : O} {A : List Addr}, RepO K Z F H v o A → (∀ a ∈ A, Z' a = H a) → o.nv = true → Rep K Z' v o.frz
  | _, _, _, .fz h, _, _ => h.mono e
  | _, _, _, .vw _ _, _, n => nomatch n
  | _, _, _, .vwa _ _, _, n => nomatch n
  | _, _, _, .lst h r, k, n => .lst (SqL.of ((k _ List.mem_cons_self).trans h)) (RepOL.frz e r (fun a m => k a (List.mem_cons_of_mem _ m)) n)
  | _, _, _, .tup h r, k, n => .tup (SqT.of ((k _ List.mem_cons_self).trans h)) (RepOL.frz e r (fun a m => k a (List.mem_cons_of_mem _ m)) n)
  | _, _, _, .ins h r, k, n => .ins ((k _ List.mem_cons_self).trans h) (RepOL.frz e r (fun a m => k a (List.mem_cons_of_mem _ m)) n)
  | _, .loc _ o, _, .loc h, k, n => by
    have h : RepO K Z F H _ o _ := h
    exact (show Rep K Z' _ o.frz from RepO.frz (o := o) e h k n)
  | _, _, _, .pt, _, _ => .opq _
  | _, _, _, .at h r, k, n => .ins ((k _ List.mem_cons_self).trans h) (RepOL.frz e r (fun a m => k a (List.mem_cons_of_mem _ m)) n)
  | _, _, _, .dct h r, k, n => .dct ((k _ List.mem_cons_self).trans h) (RepOL.frz e r (fun a m => k a (List.mem_cons_of_mem _ m)) n)
  | _, _, _, .dctT h r, k, n => .dctT ((k _ List.mem_cons_self).trans h) (RepOL.frz e r (fun a m => k a (List.mem_cons_of_mem _ m)) n)
theorem RepOL.frz (e : Ex Z Z') : ∀ {vs : List V} {os : List O} {A : List Addr}, RepOL K Z F H vs os A → (∀ a ∈ A, Z' a = H a) → O.nvL os = true → RepL K Z' vs (O.frzL os)
  | _, _, _, .nil, _, _ => .nil
  | _, _, _, .cons h r, k, n => .cons (RepO.frz e h (fun a m => k a (List.mem_append_left _ m)) (Bool.and_eq_true_iff.mp n).1) (RepOL.frz e r (fun a m => k a (List.mem_append_right _ m)) (Bool.and_eq_true_iff.mp n).2)
end
end
/-- Z and the cells at A -/
def frzAt (Z H : Hp) (A : List Addr) : Hp := fun a => if a ∈ A then H a else Z a
theorem frzAt_in {Z H : Hp} {A : List Addr} {a : Addr} (h : a ∈ A) : frzAt Z H A a = H a := if_pos h
theorem frzAt_out {Z H : Hp} {A : List Addr} {a : Addr} (h : a ∉ A) : frzAt Z H A a = Z a := if_neg h
theorem ex_frzAt {Z H : Hp} {A : List Addr} (e : Ex Z H) : Ex Z (frzAt Z H A) := fun a u h => by
  by_cases m : a ∈ A
  · rw [frzAt_in m]
    exact e a u h
  · rw [frzAt_out m]
    exact h
theorem frzAt_ex {Z H : Hp} {A : List Addr} (e : Ex Z H) : Ex (frzAt Z H A) H := fun a u h => by
  by_cases m : a ∈ A
  · rw [frzAt_in m] at h
    exact h
  · rw [frzAt_out m] at h
    exact e a u h

/-- the heap grows: frozen part Z, all H -/
structure Gr (Z H Z' H' : Hp) : Prop where
  zz : Ex Z Z'
  hh : Ex H H'
  zh : Ex Z' H'
  nw : ∀ a o, H a = some o → Z' a = Z a
theorem Gr.trans {Z H Z1 H1 Z2 H2 : Hp} (a : Gr Z H Z1 H1) (b : Gr Z1 H1 Z2 H2) : Gr Z H Z2 H2 :=
  ⟨a.zz.trans b.zz, a.hh.trans b.hh, b.zh, fun x o h => (b.nw x o (a.hh x o h)).trans (a.nw x o h)⟩
theorem Gr.refl {Z H : Hp} (h : Ex Z H) : Gr Z H Z H := ⟨Ex.refl _, Ex.refl _, h, fun _ _ _ => rfl⟩
/-- a new object that is not frozen -/
theorem Gr.new {Z H : Hp} {p : Addr} {o : HO} (h : Ex Z H) (hp : H p = none) : Gr Z H Z (upd H p o) := ⟨Ex.refl _, Ex.new hp, h.trans (Ex.new hp), fun _ _ _ => rfl⟩
/-- .. frozen at once -/
theorem Gr.newz {Z H : Hp} {p : Addr} {o : HO} (h : Ex Z H) (hp : H p = none) : Gr Z H (upd Z p o) (upd H p o) :=
  ⟨Ex.new (h.free hp), Ex.new hp, fun a u e => by
    by_cases ha : a = p
    · subst ha
      rw [upd_same] at e ⊢
      exact e
    · rw [upd_ne ha] at e ⊢
      exact h a u e, fun a u e => upd_ne (ne_of_none e hp)⟩

abbrev Slots := List (Option O)
inductive StL (K : PySem.W.Frag) (Z F H : Hp) : Slots → L2.St → List Addr → Prop where
  | nil : StL K Z F H [] [] []
  | no {s : Option V} {ρ : Slots} {σ : L2.St} {A : List Addr} : StL K Z F H ρ σ A → StL K Z F H (none :: ρ) (s :: σ) A
  | so {v : V} {o : O} {ρ : Slots} {σ : L2.St} {A B : List Addr} : RepO K Z F H v o A → StL K Z F H ρ σ B → StL K Z F H (some o :: ρ) (some v :: σ) (A ++ B)
structure StR (K : PySem.W.Frag) (ρ : Slots) (Z0 F Z : Hp) (σ : L2.St) (H : Hp) : Prop where
  gr : Gr Z0 F Z H
  st : ∃ A, StL K Z F H ρ σ A ∧ A.Nodup ∧ ∀ a ∈ A, Z a = none ∧ F a = none
section
variable {K : PySem.W.Frag} {Z0 Z Z' F H H' : Hp} {ρ : Slots} {σ : L2.St}
theorem StL.mono (e : Ex Z Z') : ∀ {ρ : Slots} {σ : L2.St} {A : List Addr}, StL K Z F H ρ σ A → (∀ a ∈ A, ∀ u, H a = some u → H' a = some u) → StL K Z' F H' ρ σ A
  | _, _, _, .nil, _ => .nil
  | _, _, _, .no h, k => .no (h.mono e k)
  | _, _, _, .so r h, k => .so (r.mono e (Ex.refl _) fun a m => k a (List.mem_append_left _ m)) (h.mono e fun a m => k a (List.mem_append_right _ m))
theorem StL.there : ∀ {ρ : Slots} {σ : L2.St} {A : List Addr}, StL K Z F H ρ σ A → ∀ a ∈ A, ∃ u, H a = some u
  | _, _, _, .nil, _, m => nomatch m
  | _, _, _, .no h, a, m => h.there a m
  | _, _, _, .so r h, a, m => (List.mem_append.mp m).elim (fun m => r.there a m) fun m => h.there a m
theorem StL.length : ∀ {ρ : Slots} {σ : L2.St} {A : List Addr}, StL K Z F H ρ σ A → σ.length = ρ.length
  | _, _, _, .nil => rfl
  | _, _, _, .no h => congrArg (· + 1) h.length
  | _, _, _, .so _ h => congrArg (· + 1) h.length
theorem StL.get : ∀ {ρ : Slots} {σ : L2.St} {A : List Addr} {i : Nat} {o : O}, StL K Z F H ρ σ A → ρ[i]? = some (some o) → ∃ v B, σ[i]? = some (some v) ∧ RepO K Z F H v o B ∧ ∀ a ∈ B, a ∈ A
  | _, _, _, _, _, .nil, e => by simp at e
  | _, _, _, 0, _, .no h, e => by simp at e
  | _, _, _, i + 1, _, .no h, e => by
    obtain ⟨v, B, h1, h2, h3⟩ := h.get (i := i) (by simpa using e)
    exact ⟨v, B, by simpa using h1, h2, h3⟩
  | _, _, _, 0, _, .so r h, e => by
    simp at e
    subst e
    exact ⟨_, _, rfl, r, fun a m => List.mem_append_left _ m⟩
  | _, _, _, i + 1, _, .so r h, e => by
    obtain ⟨v, B, h1, h2, h3⟩ := h.get (i := i) (by simpa using e)
    exact ⟨v, B, by simpa using h1, h2, fun a m => List.mem_append_right _ (h3 a m)⟩
/-- a slot is stored anew -/
theorem StL.put {v : V} {o : O} {B : List Addr} (r : RepO K Z F H v o B) : ∀ {ρ : Slots} {σ : L2.St} {A : List Addr} {i : Nat}, StL K Z F H ρ σ A → i < ρ.length → A.Nodup → B.Nodup → (∀ a ∈ B, a ∉ A) →
    ∃ A', StL K Z F H (ρ.set i (some o)) (σ.set i (some v)) A' ∧ A'.Nodup ∧ ∀ a ∈ A', a ∈ A ∨ a ∈ B
  | _, _, _, _, .nil, hi, _, _, _ => by simp at hi
  | _, _, _, 0, .no h, _, nA, nB, d => ⟨_, .so r h, by
      refine List.nodup_append.mpr ⟨nB, nA, fun a ha b hb e => ?_⟩
      subst e
      exact d a ha hb, fun a m => (List.mem_append.mp m).symm⟩
  | _, _, _, i + 1, .no h, hi, nA, nB, d => by
    obtain ⟨A', h1, h2, h3⟩ := StL.put r (i := i) h (by simpa using hi) nA nB d
    exact ⟨A', .no h1, h2, h3⟩
  | _, _, _, 0, .so (A := A1) (B := A2) _ h, _, nA, nB, d => ⟨_, .so r h, by
      refine List.nodup_append.mpr ⟨nB, (List.nodup_append.mp nA).2.1, fun a ha b hb e => ?_⟩
      subst e
      exact d a ha (List.mem_append_right _ hb), fun a m => (List.mem_append.mp m).elim .inr fun m => .inl (List.mem_append_right _ m)⟩
  | _, _, _, i + 1, .so (A := A1) (B := A2) q h, hi, nA, nB, d => by
    obtain ⟨n1, n2, n3⟩ := List.nodup_append.mp nA
    obtain ⟨A', h1, h2, h3⟩ := StL.put r (i := i) h (by simpa using hi) n2 nB fun a ha hb => d a ha (List.mem_append_right _ hb)
    refine ⟨_, .so q h1, List.nodup_append.mpr ⟨n1, h2, fun a ha b hb e => ?_⟩, fun a m => ?_⟩
    · subst e
      rcases h3 a hb with z | z
      · exact n3 a ha a z rfl
      · exact d a z (List.mem_append_left _ ha)
    · rcases List.mem_append.mp m with m | m
      · exact .inl (List.mem_append_left _ m)
      · exact (h3 a m).imp (List.mem_append_right _) id
/-- a slot's own thing is changed in place -/
theorem StL.at : ∀ {ρ : Slots} {σ : L2.St} {A : List Addr} {i : Nat} {o : O}, StL K Z F H ρ σ A → ρ[i]? = some (some o) → A.Nodup →
    ∃ v B, σ[i]? = some (some v) ∧ RepO K Z F H v o B ∧ B.Nodup ∧ (∀ a ∈ B, a ∈ A) ∧ ∀ {Z' H' : Hp} {v' : V} {o' : O} {B' : List Addr}, Ex Z Z' → (∀ a ∈ A, a ∉ B → ∀ u, H a = some u → H' a = some u) → RepO K Z' F H' v' o' B' → B'.Nodup → (∀ a ∈ B', a ∈ A → a ∈ B) →
      ∃ A', StL K Z' F H' (ρ.set i (some o')) (σ.set i (some v')) A' ∧ A'.Nodup ∧ ∀ a ∈ A', (a ∈ A ∧ a ∉ B) ∨ a ∈ B'
  | _, _, _, _, _, .nil, e, _ => by simp at e
  | _, _, _, 0, _, .no h, e, _ => by simp at e
  | _, _, _, i + 1, _, .no h, e, nA => by
    obtain ⟨v, B, h1, h2, h3, h4, h5⟩ := StL.at (i := i) h (by simpa using e) nA
    refine ⟨v, B, by simpa using h1, h2, h3, h4, fun ez k r n d => ?_⟩
    obtain ⟨A', q1, q2, q3⟩ := h5 ez k r n d
    exact ⟨A', .no q1, q2, q3⟩
  | _, _, _, 0, _, .so (A := A1) (B := A2) q h, e, nA => by
    simp at e
    subst e
    obtain ⟨n1, n2, n3⟩ := List.nodup_append.mp nA
    refine ⟨_, A1, rfl, q, n1, fun a m => List.mem_append_left _ m, fun ez k r n d => ?_⟩
    refine ⟨_, .so r (h.mono ez fun a m => k a (List.mem_append_right _ m) fun z => n3 a z a m rfl), List.nodup_append.mpr ⟨n, n2, fun a ha b hb e => ?_⟩, fun a m => ?_⟩
    · subst e
      exact n3 a (d a ha (List.mem_append_right _ hb)) a hb rfl
    · rcases List.mem_append.mp m with m | m
      · exact .inr m
      · exact .inl ⟨List.mem_append_right _ m, fun z => n3 a z a m rfl⟩
  | _, _, _, i + 1, _, .so (A := A1) (B := A2) q h, e, nA => by
    obtain ⟨n1, n2, n3⟩ := List.nodup_append.mp nA
    obtain ⟨v, B, h1, h2, h3, h4, h5⟩ := StL.at (i := i) h (by simpa using e) n2
    refine ⟨v, B, by simpa using h1, h2, h3, fun a m => List.mem_append_right _ (h4 a m), fun ez k r n d => ?_⟩
    obtain ⟨A', q1, q2, q3⟩ := h5 ez (fun a m nb => k a (List.mem_append_right _ m) nb) r n fun a m z => d a m (List.mem_append_right _ z)
    refine ⟨_, .so (q.mono ez (Ex.refl _) fun a m => k a (List.mem_append_left _ m) fun z => n3 a m a (h4 a z) rfl) q1, List.nodup_append.mpr ⟨n1, q2, fun a ha b hb e => ?_⟩, fun a m => ?_⟩
    · subst e
      rcases q3 a hb with z | z
      · exact n3 a ha a z.1 rfl
      · exact n3 a ha a (h4 a (d a z (List.mem_append_left _ ha))) rfl
    · rcases List.mem_append.mp m with m | m
      · exact .inl ⟨List.mem_append_left _ m, fun z => n3 a m a (h4 a z) rfl⟩
      · exact (q3 a m).imp (fun z => ⟨List.mem_append_right _ z.1, z.2⟩) id

theorem StR.ex (s : StR K ρ Z0 F Z σ H) : Ex Z H := s.gr.zh
theorem StR.grow (s : StR K ρ Z0 F Z σ H) (g : Gr Z H Z' H') : StR K ρ Z0 F Z' σ H' := by
  obtain ⟨A, h1, h2, h3⟩ := s.st
  refine ⟨s.gr.trans g, A, h1.mono g.zz fun a _ u e => g.hh a u e, h2, fun a m => ⟨?_, (h3 a m).2⟩⟩
  obtain ⟨u, e⟩ := h1.there a m
  rw [g.nw a u e]
  exact (h3 a m).1
theorem StR.len (s : StR K ρ Z0 F Z σ H) : σ.length = ρ.length := let ⟨_, h, _⟩ := s.st; h.length
/-- what is new: not there ahead, not frozen -/
def New (H Z' : Hp) (A : List Addr) : Prop := A.Nodup ∧ ∀ a ∈ A, H a = none ∧ Z' a = none
theorem New.nil {H Z' : Hp} : New H Z' [] := ⟨List.nodup_nil, fun _ m => nomatch m⟩
theorem StR.put {v : V} {o : O} {B : List Addr} {i : Nat} (s : StR K ρ Z0 F Z σ H) (g : Gr Z H Z' H') (r : RepO K Z' F H' v o B) (n : New H Z' B) (hi : i < ρ.length) : StR K (ρ.set i (some o)) Z0 F Z' (σ.set i (some v)) H' := by
  have s' := s.grow g
  obtain ⟨A, h1, h2, h3⟩ := s.st
  have m1 : StL K Z' F H' ρ σ A := h1.mono g.zz fun a _ u e => g.hh a u e
  obtain ⟨A', q1, q2, q3⟩ := StL.put r m1 hi h2 n.1 fun a ha hb => by
    obtain ⟨u, e⟩ := h1.there a hb
    rw [(n.2 a ha).1] at e
    cases e
  refine ⟨s'.gr, A', q1, q2, fun a m => ?_⟩
  rcases q3 a m with z | z
  · obtain ⟨u, e⟩ := h1.there a z
    exact ⟨(g.nw a u e).trans (h3 a z).1, (h3 a z).2⟩
  · exact ⟨(n.2 a z).2, s.gr.hh.free (n.2 a z).1⟩
/-- a slot's own thing is frozen -/
theorem StR.freeze {i : Nat} {o : O} (s : StR K ρ Z0 F Z σ H) (hi : ρ[i]? = some (some o)) (hn : o.nv = true) : ∃ Z', Gr Z0 F Z' H ∧ Ex Z Z' ∧ StR K (ρ.set i (some (.fz o.frz))) Z0 F Z' σ H := by
  obtain ⟨A, h1, h2, h3⟩ := s.st
  obtain ⟨v, B, q1, q2, q3, q4, q5⟩ := h1.at hi h2
  have hr : Rep K (frzAt Z H B) v o.frz := q2.frz (ex_frzAt s.ex) (fun a m => frzAt_in m) hn
  have g : Gr Z0 F (frzAt Z H B) H := ⟨s.gr.zz.trans (ex_frzAt s.ex), s.gr.hh, frzAt_ex s.ex, fun a u e => by
    have nb : a ∉ B := fun m => by
      rw [(h3 a (q4 a m)).2] at e
      cases e
    rw [frzAt_out nb]
    exact s.gr.nw a u e⟩
  obtain ⟨A', r1, r2, r3⟩ := q5 (Z' := frzAt Z H B) (H' := H) (v' := v) (o' := .fz o.frz) (B' := []) (ex_frzAt s.ex) (fun _ _ _ _ e => e) (.fz hr) List.nodup_nil fun _ m => nomatch m
  have eσ : σ.set i (some v) = σ := by
    apply List.ext_getElem?
    intro j
    by_cases hj : i = j
    · subst hj
      rw [List.getElem?_set_self (List.getElem?_eq_some_iff.mp q1).1, q1]
    · rw [List.getElem?_set_ne hj]
  rw [eσ] at r1
  refine ⟨frzAt Z H B, g, ex_frzAt s.ex, g, A', r1, r2, fun a m => ?_⟩
  rcases r3 a m with z | z
  · rw [frzAt_out z.2]
    exact h3 a z.1
  · exact nomatch z
theorem set_same {σ : L2.St} {i : Nat} {v : V} (q : σ[i]? = some (some v)) : σ.set i (some v) = σ := by
  apply List.ext_getElem?
  intro j
  by_cases hj : i = j
  · subst hj
    rw [List.getElem?_set_self (List.getElem?_eq_some_iff.mp q).1, q]
  · rw [List.getElem?_set_ne hj]
/-- a slot's own thing changes -/
theorem StR.upd {i : Nat} {o : O} (s : StR K ρ Z0 F Z σ H) (hi : ρ[i]? = some (some o)) : ∃ v A, σ[i]? = some (some v) ∧ RepO K Z F H v o A ∧ A.Nodup ∧ (∀ a ∈ A, Z a = none ∧ F a = none) ∧
    ∀ {Z' H' : Hp} {o' : O} {A' : List Addr}, Ex Z Z' → (∀ a u, H a = some u → Z' a = Z a) → Ex Z' H' → (∀ a, a ∉ A → ∀ u, H a = some u → H' a = some u) → RepO K Z' F H' v o' A' → A'.Nodup → (∀ a ∈ A', a ∈ A ∨ (H a = none ∧ Z' a = none)) →
      StR K (ρ.set i (some o')) Z0 F Z' σ H' := by
  obtain ⟨A, h1, h2, h3⟩ := s.st
  obtain ⟨v, B, q1, q2, q3, q4, q5⟩ := h1.at hi h2
  refine ⟨v, B, q1, q2, q3, fun a m => h3 a (q4 a m), fun {Z' H' o' A'} ez nz zh k r n d => ?_⟩
  obtain ⟨A2, r1, r2, r3⟩ := q5 (v' := v) ez (fun a _ nb u e => k a nb u e) r n fun a m ma => by
    rcases d a m with z | z
    · exact z
    · obtain ⟨u, e⟩ := h1.there a ma
      rw [z.1] at e
      cases e
  rw [set_same q1] at r1
  have hF : ∀ a u, F a = some u → a ∉ B := fun a u e m => by
    rw [(h3 a (q4 a m)).2] at e
    cases e
  refine ⟨⟨s.gr.zz.trans ez, fun a u e => k a (hF a u e) u (s.gr.hh a u e), zh, fun a u e => (nz a u (s.gr.hh a u e)).trans (s.gr.nw a u e)⟩, A2, r1, r2, fun a m => ?_⟩
  have old : ∀ a ∈ A, Z' a = none ∧ F a = none := fun a m => by
    obtain ⟨u, e⟩ := h1.there a m
    exact ⟨(nz a u e).trans (h3 a m).1, (h3 a m).2⟩
  rcases r3 a m with z | z
  · exact old a z.1
  · rcases d a z with y | y
    · exact old a (q4 a y)
    · exact ⟨y.2, s.gr.hh.free y.1⟩
/-- slots are forgotten -/
inductive Le : Slots → Slots → Prop where
  | nil : Le [] []
  | no {x : Option O} {ρ τ : Slots} : Le ρ τ → Le (x :: ρ) (none :: τ)
  | eq {x : Option O} {ρ τ : Slots} : Le ρ τ → Le (x :: ρ) (x :: τ)
theorem Le.refl : ∀ ρ : Slots, Le ρ ρ
  | [] => .nil
  | _ :: r => .eq (Le.refl r)
theorem StL.le : ∀ {ρ τ : Slots} {σ : L2.St} {A : List Addr}, Le ρ τ → StL K Z F H ρ σ A → A.Nodup → ∃ A', StL K Z F H τ σ A' ∧ A'.Nodup ∧ ∀ a ∈ A', a ∈ A
  | _, _, _, _, .nil, .nil, n => ⟨_, .nil, n, fun _ m => m⟩
  | _, _, _, _, .no l, .no h, n => by
    obtain ⟨A', q1, q2, q3⟩ := StL.le l h n
    exact ⟨A', .no q1, q2, q3⟩
  | _, _, _, _, .no l, .so _ h, n => by
    obtain ⟨A', q1, q2, q3⟩ := StL.le l h (List.nodup_append.mp n).2.1
    exact ⟨A', .no q1, q2, fun a m => List.mem_append_right _ (q3 a m)⟩
  | _, _, _, _, .eq l, .no h, n => by
    obtain ⟨A', q1, q2, q3⟩ := StL.le l h n
    exact ⟨A', .no q1, q2, q3⟩
  | _, _, _, _, .eq l, .so r h, n => by
    obtain ⟨n1, n2, n3⟩ := List.nodup_append.mp n
    obtain ⟨A', q1, q2, q3⟩ := StL.le l h n2
    refine ⟨_, .so r q1, List.nodup_append.mpr ⟨n1, q2, fun a ha b hb => n3 a ha b (q3 b hb)⟩, fun a m => ?_⟩
    rcases List.mem_append.mp m with m | m
    · exact List.mem_append_left _ m
    · exact List.mem_append_right _ (q3 a m)
theorem StR.le {τ : Slots} (s : StR K ρ Z0 F Z σ H) (l : Le ρ τ) : StR K τ Z0 F Z σ H := by
  obtain ⟨A, h1, h2, h3⟩ := s.st
  obtain ⟨A', q1, q2, q3⟩ := h1.le l h2
  exact ⟨s.gr, A', q1, q2, fun a m => h3 a (q3 a m)⟩
end
end M
namespace M
open PySem L2

/-! ### the weakest readings -/
def wE (X : Cx) (e : Expr) : TE := fun σ H Q => ∀ (pins : List (Addr × Obj)) (s : Shared), Inv X pins σ H s → wpAny (model X.prog X.w) X.A (eval e X.env) (EP X pins σ Q) X.xe s
def wT (X : Cx) (e : Expr) : TT := fun σ H Q => ∀ (pins : List (Addr × Obj)) (s : Shared), Inv X pins σ H s → wpAny (model X.prog X.w) X.A (isTrue e X.env (eval e X.env)) (TP X pins σ Q) X.xe s
def wA (X : Cx) (es : List Expr) : TA := fun σ H Q => ∀ (pos : Pos) (pins : List (Addr × Obj)) (s : Shared), Inv X pins σ H s → wpAny (model X.prog X.w) X.A (spliced (backTo pos (starEach es X.env))) (AP X pins σ Q) X.xe s
def wS1 (X : Cx) (st : Stmt) : TS := fun D σ H => ∀ (pins : List (Addr × Obj)) (s : Shared), Inv X pins σ H s → wpAny (model X.prog X.w) X.A (exec st X.env) (SP X pins D) X.xe s
def wS (X : Cx) (st : List Stmt) : TS := fun D σ H => ∀ (pins : List (Addr × Obj)) (s : Shared), Inv X pins σ H s → wpAny (model X.prog X.w) X.A (execs st X.env) (SP X pins D) X.xe s
section
variable {X : Cx} {e : Expr} {es : List Expr} {st : Stmt} {sts : List Stmt}
theorem pe_w : PE X e (wE X e) := ⟨fun pins s _ _ _ I h => h pins s I⟩
theorem pt_w : PT X e (wT X e) := ⟨fun pins s _ _ _ I h => h pins s I⟩
theorem pa_w : PA X es (wA X es) := ⟨fun pos pins s _ _ _ I h => h pos pins s I⟩
theorem ps_w : PS X st (wS1 X st) := ⟨fun pins s _ _ _ I h => h pins s I⟩
theorem pss_w : PSs X sts (wS X sts) := ⟨fun pins s _ _ _ I h => h pins s I⟩
theorem PE_w {t : TE} (p : PE X e t) {σ : L2.St} {H : Hp} {Q : VK} (h : t σ H Q) : wE X e σ H Q := fun pins s I => p.run pins s σ H Q I h
theorem PT_w {t : TT} (p : PT X e t) {σ : L2.St} {H : Hp} {Q : Bool → Hp → Prop} (h : t σ H Q) : wT X e σ H Q := fun pins s I => p.run pins s σ H Q I h
theorem PA_w {t : TA} (p : PA X es t) {σ : L2.St} {H : Hp} {Q : List V → Hp → Prop} (h : t σ H Q) : wA X es σ H Q := fun pos pins s I => p.run pos pins s σ H Q I h
theorem PS_w {t : TS} (p : PS X st t) {σ : L2.St} {H : Hp} {D : Ends} (h : t D σ H) : wS1 X st D σ H := fun pins s I => p.run pins s σ H D I h
theorem PSs_w {t : TS} (p : PSs X sts t) {σ : L2.St} {H : Hp} {D : Ends} (h : t D σ H) : wS X sts D σ H := fun pins s I => p.run pins s σ H D I h
end

/-! ### the judgements -/
/-- a new thing (or a frozen one) -/
structure ME (X : Cx) (ρ : Slots) (e : Expr) (o : O) : Prop where
  run : ∀ (Z0 F Z : Hp) (σ : L2.St) (H : Hp), StR X.K ρ Z0 F Z σ H → ∀ Q : VK,
  (∀ v Z' H' A, Gr Z H Z' H' → RepO X.K Z' F H' v o A → New H Z' A → Q v H') → wE X e σ H Q
/-- a thing that is looked at -/
structure MV (X : Cx) (ρ : Slots) (e : Expr) (o : O) : Prop where
  run : ∀ (Z0 F Z : Hp) (σ : L2.St) (H : Hp), StR X.K ρ Z0 F Z σ H → ∀ Q : VK,
  (∀ v Z' H' A, Gr Z H Z' H' → RepO X.K Z' F H' v o A → Q v H') → wE X e σ H Q
/-- a list that is looked at -/
structure ML (X : Cx) (ρ : Slots) (e : Expr) (ds : List D) : Prop where
  run : ∀ (Z0 F Z : Hp) (σ : L2.St) (H : Hp), StR X.K ρ Z0 F Z σ H → ∀ Q : VK,
  (∀ a vs Z' H', Gr Z H Z' H' → SqL X.K H' a vs → RepL X.K Z' vs ds → Q (.ref a) H') → wE X e σ H Q
/-- a tuple that is looked at -/
structure MU (X : Cx) (ρ : Slots) (e : Expr) (ds : List D) : Prop where
  run : ∀ (Z0 F Z : Hp) (σ : L2.St) (H : Hp), StR X.K ρ Z0 F Z σ H → ∀ Q : VK,
  (∀ a vs Z' H', Gr Z H Z' H' → SqT X.K H' a vs → RepL X.K Z' vs ds → Q (.ref a) H') → wE X e σ H Q
structure MT (X : Cx) (ρ : Slots) (e : Expr) (b : Bool) : Prop where
  run : ∀ (Z0 F Z : Hp) (σ : L2.St) (H : Hp), StR X.K ρ Z0 F Z σ H → ∀ Q : Bool → Hp → Prop,
  (∀ Z' H', Gr Z H Z' H' → Q b H') → wT X e σ H Q
/-- arguments: frozen things, lists that are looked at -/
structure MA (X : Cx) (ρ : Slots) (es : List Expr) (os : List O) : Prop where
  run : ∀ (Z0 F Z : Hp) (σ : L2.St) (H : Hp), StR X.K ρ Z0 F Z σ H → ∀ Q : List V → Hp → Prop,
  (∀ vs Z' H', Gr Z H Z' H' → RepOL X.K Z' H' H' vs os [] → Q vs H') → wA X es σ H Q
/-- what is handed back: own slots may go with it -/
structure MR (X : Cx) (ρ : Slots) (e : Expr) (o : O) : Prop where
  run : ∀ (Z0 F Z : Hp) (σ : L2.St) (H : Hp), StR X.K ρ Z0 F Z σ H → ∀ Q : VK,
  (∀ v Z' H' A, Gr Z H Z' H' → RepO X.K Z' F H' v o A → A.Nodup → (∀ a ∈ A, Z' a = none ∧ F a = none) → Q v H') → wE X e σ H Q

structure Go where
  nx : Slots → Prop := fun _ => False
  rt : O → Prop := fun _ => False
  bk : Slots → Prop := fun _ => False
  ct : Slots → Prop := fun _ => False
  rs : O → Slots → Prop := fun _ _ => False
/-- the error e is taken -/
def Thrown (K : PySem.W.Frag) (W : WX) (e : Er) (Z : Hp) (σ : L2.St) (H : Hp) : Prop := match e.fld with
  | none => W (.ref e.C) none σ H
  | some (f, d) => ∀ (a : Addr) (v : V), H a = none → Rep K Z v d → W (.ref e.C) (some a) σ (upd H a (.xd [(f, v)]))
/-- the errors r are taken -/
def GX (X : Cx) (Z0 F : Hp) (r : O → Prop) : Prop := ∃ W : WX, Takes X W ∧ ∀ (e : Er) (ρ : Slots) (Z : Hp) (σ : L2.St) (H : Hp), r (.rs e) → StR X.K ρ Z0 F Z σ H → Thrown X.K W e Z σ H
theorem GX.never {X : Cx} {Z0 F : Hp} {r : O → Prop} (n : ∀ e, ¬ r (.rs e)) : GX X Z0 F r := ⟨fun _ _ _ _ => False, fun _ _ ⟨_, _, _, _, _, _, _, _, _, _, _, _, _, _, _, _, w⟩ => w.elim, fun e _ _ _ _ k _ => (n e k).elim⟩
theorem GX.imp {X : Cx} {Z0 F : Hp} {r r' : O → Prop} (g : GX X Z0 F r) (h : ∀ o, r' o → r o) : GX X Z0 F r' := by
  obtain ⟨W, t, k⟩ := g
  exact ⟨W, t, fun e ρ Z σ H q s => k e ρ Z σ H (h _ q) s⟩
structure GD (X : Cx) (Z0 F : Hp) (G : Go) (D : Ends) : Prop where
  nx : ∀ ρ Z σ H, G.nx ρ → StR X.K ρ Z0 F Z σ H → D.nx σ H
  bk : ∀ ρ Z σ H, G.bk ρ → StR X.K ρ Z0 F Z σ H → D.bk σ H
  ct : ∀ ρ Z σ H, G.ct ρ → StR X.K ρ Z0 F Z σ H → D.ct σ H
  rt : ∀ o v Z H A, G.rt o → Gr Z0 F Z H → RepO X.K Z F H v o A → New F Z A → D.rt v H
  rs : ∀ o ρ v Z σ H, G.rs o ρ → StR X.K (ρ ++ [some o]) Z0 F Z (σ ++ [some v]) H → D.rt v H
  ex : GX X Z0 F G.rt
structure MS1 (X : Cx) (ρ : Slots) (st : Stmt) (G : Go) : Prop where
  run : ∀ (Z0 F Z : Hp) (σ : L2.St) (H : Hp) (D : Ends), StR X.K ρ Z0 F Z σ H → GD X Z0 F G D → wS1 X st D σ H
structure MS (X : Cx) (ρ : Slots) (sts : List Stmt) (G : Go) : Prop where
  run : ∀ (Z0 F Z : Hp) (σ : L2.St) (H : Hp) (D : Ends), StR X.K ρ Z0 F Z σ H → GD X Z0 F G D → wS X sts D σ H
/-- then the rest -/
def Go.th (G : Go) (X : Cx) (sts : List Stmt) : Go := { G with nx := fun ρ => MS X ρ sts G }

section
variable {X : Cx} {ρ : Slots} {e : Expr} {es : List Expr} {st : Stmt} {sts : List Stmt} {G : Go} {o : O} {d : D} {ds : List D} {pos : Pos}
theorem ms_nil (h : G.nx ρ) : MS X ρ [] G := .mk fun Z0 F Z σ H D s g => PSs_w pss_nil (g.nx ρ Z σ H h s)
theorem ms_cons (h : MS1 X ρ st (G.th X sts)) : MS X ρ (st :: sts) G := .mk fun Z0 F Z σ H D s g =>
  PSs_w (pss_cons ps_w pss_w) (h.run Z0 F Z σ H _ s ⟨fun ρ' Z' σ' H' m s' => m.run Z0 F Z' σ' H' D s' g, g.bk, g.ct, g.rt, g.rs, g.ex⟩)
theorem ms_one (h : MS1 X ρ st G) : MS X ρ [st] G := .mk fun Z0 F Z σ H D s g => PSs_w (pss_one ps_w) (h.run Z0 F Z σ H _ s g)

/-! ### from one to the other -/
theorem ME.v (h : ME X ρ e o) : MV X ρ e o := .mk fun Z0 F Z σ H s Q q => h.run Z0 F Z σ H s Q fun v Z' H' A g r _ => q v Z' H' A g r
theorem MV.em (h : MV X ρ e (.fz d)) : ME X ρ e (.fz d) := .mk fun Z0 F Z σ H s Q q => h.run Z0 F Z σ H s Q fun v Z' H' A g r => by
  cases r with
  | fz r => exact q v Z' H' [] g (.fz r) .nil
theorem ME.r (h : ME X ρ e o) : MR X ρ e o := .mk fun Z0 F Z σ H s Q q => h.run Z0 F Z σ H s Q fun v Z' H' A g r n => q v Z' H' A g r n.1 fun a m => ⟨(n.2 a m).2, s.gr.hh.free (n.2 a m).1⟩
/-- the lists that can be looked at -/
inductive IsLst : O → List D → Prop where
  | fz (ds : List D) : IsLst (.fz (.lst ds)) ds
  | vw (ds : List D) : IsLst (.vw ds) ds
  | vwa (a : Addr) (ds : List D) : IsLst (.vwa a ds) ds
  | own (ds : List D) : IsLst (.lst (ds.map .fz)) ds
inductive IsTp : O → List D → Prop where
  | fz (ds : List D) : IsTp (.fz (.tup ds)) ds
  | own (ds : List D) : IsTp (.tup (ds.map .fz)) ds
theorem MV.l (h : MV X ρ e o) (i : IsLst o ds) : ML X ρ e ds := .mk fun Z0 F Z σ H s Q q => h.run Z0 F Z σ H s Q fun v Z' H' A g r => by
  cases i with
  | fz ds =>
    cases r with
    | fz r =>
      cases r with
      | lst a b => exact q _ _ Z' H' g (ex_l g.zh a) b
  | vw ds =>
    cases r with
    | vw a b => exact q _ _ Z' H' g (ex_l (s.gr.hh.trans g.hh) a) b
  | vwa a ds =>
    cases r with
    | vwa a b => exact q _ _ Z' H' g (ex_l (s.gr.hh.trans g.hh) a) b
  | own ds =>
    cases r with
    | lst a b => exact q _ _ Z' H' g (.of a) (RepOL.fzs b).2
theorem MV.u (h : MV X ρ e o) (i : IsTp o ds) : MU X ρ e ds := .mk fun Z0 F Z σ H s Q q => h.run Z0 F Z σ H s Q fun v Z' H' A g r => by
  cases i with
  | fz ds =>
    cases r with
    | fz r =>
      cases r with
      | tup a b => exact q _ _ Z' H' g (ex_t g.zh a) b
  | own ds =>
    cases r with
    | tup a b => exact q _ _ Z' H' g (.of a) (RepOL.fzs b).2





/-- a new thing is frozen at once -/
theorem ME.frz (h : ME X ρ e o) (n : o.nv = true) : ME X ρ e (.fz o.frz) := .mk fun Z0 F Z σ H s Q q => h.run Z0 F Z σ H s Q fun v Z' H' A g r w => by
  refine q v (frzAt Z' H' A) H' [] ⟨g.zz.trans (ex_frzAt g.zh), g.hh, frzAt_ex g.zh, fun a u e => ?_⟩ (.fz (r.frz (ex_frzAt g.zh) (fun a m => frzAt_in m) n)) .nil
  have na : a ∉ A := fun m => by
    rw [(w.2 a m).1] at e
    cases e
  rw [frzAt_out na]
  exact g.nw a u e
theorem ME.frzl (h : ME X ρ e (.lst (ds.map .fz))) : ME X ρ e (.fz (.lst ds)) := by
  have q := h.frz (O.nvL_fz ds)
  rw [show (O.lst (ds.map .fz)).frz = .lst ds from congrArg D.lst (O.frzL_fz ds)] at q
  exact q
theorem ME.l (h : ME X ρ e (.lst (ds.map .fz))) : ML X ρ e ds := MV.l h.v (.own ds)

/-! ### names, constants -/
theorem mv_var {i : Nat} {x : Str} (p : PE X (.Name x pos) (tVar i)) (h : ρ[i]? = some (some o)) : MV X ρ (.Name x pos) o := .mk fun Z0 F Z σ H s Q q => by
  obtain ⟨A, h1, h2, h3⟩ := s.st
  obtain ⟨v, B, e, r, _⟩ := h1.get h
  exact PE_w p ⟨v, e, q v Z H B (Gr.refl s.ex) r⟩
theorem me_var {i : Nat} {x : Str} (p : PE X (.Name x pos) (tVar i)) (h : ρ[i]? = some (some (.fz d))) : ME X ρ (.Name x pos) (.fz d) := MV.em (mv_var p h)
theorem mr_var {i : Nat} {x : Str} (p : PE X (.Name x pos) (tVar i)) (h : ρ[i]? = some (some o)) : MR X ρ (.Name x pos) o := .mk fun Z0 F Z σ H s Q q => by
  obtain ⟨A, h1, h2, h3⟩ := s.st
  obtain ⟨v, B, e, r, n, m, _⟩ := h1.at h h2
  exact PE_w p ⟨v, e, q v Z H B (Gr.refl s.ex) r n fun a z => h3 a (m a z)⟩
/-- a value that is what it is -/
inductive Sc : D → V → Prop where
  | non : Sc .non .non
  | bl (b : Bool) : Sc (.bl b) (.bl b)
  | int (i : Int) : Sc (.int i) (.int i)
  | str (x : Str) : Sc (.str x) (.str x)
  | ty (n : String) : Sc (.ty n) (.ty n)
  | opq (a : Addr) : Sc (.opq a) (.ref a)
theorem Sc.rep {K : PySem.W.Frag} {Z : Hp} {v : V} (h : Sc d v) : Rep K Z v d := by
  cases h <;> constructor
theorem Sc.eq {K : PySem.W.Frag} {Z : Hp} {v w : V} (h : Sc d v) (r : Rep K Z w d) : w = v := by
  cases h <;> cases r <;> rfl
theorem me_c {v : V} (p : PE X e (tC v)) (h : Sc d v) : ME X ρ e (.fz d) := .mk fun Z0 F Z σ H s Q q => PE_w p (q v Z H [] (Gr.refl s.ex) (.fz h.rep) .nil)
theorem me_int {i : Int} {j : Nat} : ME X ρ (.Constant (.int i) j pos) (.fz (.int i)) := me_c pe_int (.int i)
theorem me_bl {b : Bool} {j : Nat} : ME X ρ (.Constant (.bool b) j pos) (.fz (.bl b)) := me_c pe_bl (.bl b)
theorem me_non {j : Nat} : ME X ρ (.Constant .none j pos) (.fz .non) := me_c pe_non .non
theorem me_str {x : Str} {j : Nat} : ME X ρ (.Constant (.str x) j pos) (.fz (.str x)) := me_c pe_str (.str x)

/-! ### operators on plain values -/
variable {a b : Expr} {d1 d2 d3 : D} {x y z : V}
theorem me_r2 {r : R2} {t : TE} (p : PE X e (tOp r (wE X a) (wE X b))) (ha : ME X ρ a (.fz d1)) (hb : ME X ρ b (.fz d2)) (s1 : Sc d1 x) (s2 : Sc d2 y) (s3 : Sc d3 z) (h : ∀ H (Q : VK), Q z H → r x y H Q) : ME X ρ e (.fz d3) := .mk fun Z0 F Z σ H s Q q => by
  refine PE_w p (ha.run Z0 F Z σ H s _ fun v Z1 H1 A1 g1 r1 n1 => ?_)
  refine hb.run Z0 F Z1 σ H1 (s.grow g1) _ fun w Z2 H2 A2 g2 r2 n2 => ?_
  cases r1 with
  | fz r1 =>
    cases r2 with
    | fz r2 =>
      rw [s1.eq r1, s2.eq r2]
      exact h H2 Q (q z Z2 H2 [] (g1.trans g2) (.fz s3.rep) .nil)
theorem me_op {op : Operator} {r : R2} (ho : OpR X (binaryOp op) r) (ha : ME X ρ a (.fz d1)) (hb : ME X ρ b (.fz d2)) (s1 : Sc d1 x) (s2 : Sc d2 y) (s3 : Sc d3 z) (h : ∀ H (Q : VK), Q z H → r x y H Q) : ME X ρ (.BinOp a op b pos) (.fz d3) :=
  me_r2 (t := tOp r (wE X a) (wE X b)) (pe_op ho pe_w pe_w) ha hb s1 s2 s3 h
variable {i j : Int}
theorem me_add (ha : ME X ρ a (.fz (.int i))) (hb : ME X ρ b (.fz (.int j))) : ME X ρ (.BinOp a .Add b pos) (.fz (.int (i + j))) := me_op op_add ha hb (.int i) (.int j) (.int _) fun _ _ q => ⟨i, j, rfl, rfl, q⟩
theorem me_sub (ha : ME X ρ a (.fz (.int i))) (hb : ME X ρ b (.fz (.int j))) : ME X ρ (.BinOp a .Sub b pos) (.fz (.int (i - j))) := me_op op_sub ha hb (.int i) (.int j) (.int _) fun _ _ q => ⟨i, j, rfl, rfl, q⟩
theorem me_mul (ha : ME X ρ a (.fz (.int i))) (hb : ME X ρ b (.fz (.int j))) (c : CMul i j := by first | exact Or.inr (by decide) | exact Or.inl (by decide)) : ME X ρ (.BinOp a .Mult b pos) (.fz (.int (i * j))) := me_op op_mul ha hb (.int i) (.int j) (.int _) fun _ _ q => ⟨i, j, rfl, rfl, c, q⟩
theorem me_fdiv (ha : ME X ρ a (.fz (.int i))) (hb : ME X ρ b (.fz (.int j))) (c : CDiv i j := by exact ⟨by decide, by decide⟩) : ME X ρ (.BinOp a .FloorDiv b pos) (.fz (.int (i / j))) := me_op op_fdiv ha hb (.int i) (.int j) (.int _) fun _ _ q => ⟨i, j, rfl, rfl, c, q⟩
theorem me_mod (ha : ME X ρ a (.fz (.int i))) (hb : ME X ρ b (.fz (.int j))) (c : 0 < j := by decide) : ME X ρ (.BinOp a .Mod b pos) (.fz (.int (i % j))) := me_op op_mod ha hb (.int i) (.int j) (.int _) fun _ _ q => ⟨i, j, rfl, rfl, c, q⟩
theorem me_pow (ha : ME X ρ a (.fz (.int i))) (hb : ME X ρ b (.fz (.int j))) (c : CPow i j := by exact ⟨by decide, by decide, by decide⟩) : ME X ρ (.BinOp a .Pow b pos) (.fz (.int (i ^ j.toNat))) := me_op op_pow ha hb (.int i) (.int j) (.int _) fun _ _ q => ⟨i, j, rfl, rfl, c, q⟩
variable {p q : Str}
theorem me_cat (ha : ME X ρ a (.fz (.str p))) (hb : ME X ρ b (.fz (.str q))) (c : p.length + q.length ≤ sizeLine) : ME X ρ (.BinOp a .Add b pos) (.fz (.str (p ++ q))) := me_op op_add_str ha hb (.str p) (.str q) (.str _) fun _ _ k => ⟨p, q, rfl, rfl, c, k⟩
theorem me_neg (ha : ME X ρ a (.fz (.int i))) : ME X ρ (.UnaryOp .USub a pos) (.fz (.int (-i))) := .mk fun Z0 F Z σ H s Q q => by
  refine PE_w (pe_un un_neg pe_w) (ha.run Z0 F Z σ H s _ fun v Z1 H1 A1 g1 r1 n1 => ?_)
  cases r1 with
  | fz r1 =>
    cases r1
    exact ⟨i, rfl, q _ Z1 H1 [] g1 (.fz (.int _)) .nil⟩

/-! ### comparisons -/
theorem me_cmp {op : CmpOp} {r : R2} {k : Bool} (ho : OpR X (compareOp op) r) (ha : ME X ρ a (.fz d1)) (hb : ME X ρ b (.fz d2)) (s1 : Sc d1 x) (s2 : Sc d2 y) (h : ∀ H (Q : VK), Q (.bl k) H → r x y H Q) (hm : behindInMarks op b = false) : ME X ρ (.Compare a [op] [b] pos) (.fz (.bl k)) :=
  me_r2 (t := tOp r (wE X a) (wE X b)) (pe_cmpR ho pe_w pe_w hm) ha hb s1 s2 (.bl k) h
theorem mt_cmp {op : CmpOp} {r : R2} {k : Bool} (ho : OpR X (compareOp op) r) (ha : ME X ρ a (.fz d1)) (hb : ME X ρ b (.fz d2)) (s1 : Sc d1 x) (s2 : Sc d2 y) (h : ∀ H (Q : VK), Q (.bl k) H → r x y H Q) (hm : behindInMarks op b = false) : MT X ρ (.Compare a [op] [b] pos) k := .mk fun Z0 F Z σ H s Q q => by
  refine PT_w (pt_cmpR ho pe_w pe_w hm) (ha.run Z0 F Z σ H s _ fun v Z1 H1 A1 g1 r1 n1 => ?_)
  refine hb.run Z0 F Z1 σ H1 (s.grow g1) _ fun w Z2 H2 A2 g2 r2 n2 => ?_
  cases r1 with
  | fz r1 =>
    cases r2 with
    | fz r2 =>
      rw [s1.eq r1, s2.eq r2]
      exact h H2 _ ⟨k, rfl, q Z2 H2 (g1.trans g2)⟩
theorem me_lt (ha : ME X ρ a (.fz (.int i))) (hb : ME X ρ b (.fz (.int j))) : ME X ρ (.Compare a [.Lt] [b] pos) (.fz (.bl (decide (i < j)))) := me_cmp op_lt ha hb (.int i) (.int j) (fun _ _ k => ⟨i, j, rfl, rfl, k⟩) (nomark _)
theorem mt_lt (ha : ME X ρ a (.fz (.int i))) (hb : ME X ρ b (.fz (.int j))) : MT X ρ (.Compare a [.Lt] [b] pos) (decide (i < j)) := mt_cmp op_lt ha hb (.int i) (.int j) (fun _ _ k => ⟨i, j, rfl, rfl, k⟩) (nomark _)
theorem me_le (ha : ME X ρ a (.fz (.int i))) (hb : ME X ρ b (.fz (.int j))) : ME X ρ (.Compare a [.LtE] [b] pos) (.fz (.bl (decide (i ≤ j)))) := me_cmp op_le ha hb (.int i) (.int j) (fun _ _ k => ⟨i, j, rfl, rfl, k⟩) (nomark _)
theorem mt_le (ha : ME X ρ a (.fz (.int i))) (hb : ME X ρ b (.fz (.int j))) : MT X ρ (.Compare a [.LtE] [b] pos) (decide (i ≤ j)) := mt_cmp op_le ha hb (.int i) (.int j) (fun _ _ k => ⟨i, j, rfl, rfl, k⟩) (nomark _)
theorem me_gt (ha : ME X ρ a (.fz (.int i))) (hb : ME X ρ b (.fz (.int j))) : ME X ρ (.Compare a [.Gt] [b] pos) (.fz (.bl (decide (j < i)))) := me_cmp op_gt ha hb (.int i) (.int j) (fun _ _ k => ⟨i, j, rfl, rfl, k⟩) (nomark _)
theorem mt_gt (ha : ME X ρ a (.fz (.int i))) (hb : ME X ρ b (.fz (.int j))) : MT X ρ (.Compare a [.Gt] [b] pos) (decide (j < i)) := mt_cmp op_gt ha hb (.int i) (.int j) (fun _ _ k => ⟨i, j, rfl, rfl, k⟩) (nomark _)
theorem me_ge (ha : ME X ρ a (.fz (.int i))) (hb : ME X ρ b (.fz (.int j))) : ME X ρ (.Compare a [.GtE] [b] pos) (.fz (.bl (decide (j ≤ i)))) := me_cmp op_ge ha hb (.int i) (.int j) (fun _ _ k => ⟨i, j, rfl, rfl, k⟩) (nomark _)
theorem mt_ge (ha : ME X ρ a (.fz (.int i))) (hb : ME X ρ b (.fz (.int j))) : MT X ρ (.Compare a [.GtE] [b] pos) (decide (j ≤ i)) := mt_cmp op_ge ha hb (.int i) (.int j) (fun _ _ k => ⟨i, j, rfl, rfl, k⟩) (nomark _)
theorem me_eqI (ha : ME X ρ a (.fz (.int i))) (hb : ME X ρ b (.fz (.int j))) : ME X ρ (.Compare a [.Eq] [b] pos) (.fz (.bl (i == j))) := me_cmp op_eq ha hb (.int i) (.int j) (fun _ _ k => ⟨rfl, by rw [dec_int]; exact k⟩) (nomark _)
theorem me_neI (ha : ME X ρ a (.fz (.int i))) (hb : ME X ρ b (.fz (.int j))) : ME X ρ (.Compare a [.NotEq] [b] pos) (.fz (.bl (!(i == j)))) := me_cmp op_ne ha hb (.int i) (.int j) (fun _ _ k => ⟨rfl, by rw [dec_int]; exact k⟩) (nomark _)
theorem me_eqS (ha : ME X ρ a (.fz (.str p))) (hb : ME X ρ b (.fz (.str q))) : ME X ρ (.Compare a [.Eq] [b] pos) (.fz (.bl (p == q))) := me_cmp op_eq ha hb (.str p) (.str q) (fun _ _ k => ⟨rfl, by rw [dec_str]; exact k⟩) (nomark _)
theorem me_neS (ha : ME X ρ a (.fz (.str p))) (hb : ME X ρ b (.fz (.str q))) : ME X ρ (.Compare a [.NotEq] [b] pos) (.fz (.bl (!(p == q)))) := me_cmp op_ne ha hb (.str p) (.str q) (fun _ _ k => ⟨rfl, by rw [dec_str]; exact k⟩) (nomark _)
theorem mt_eqI (ha : ME X ρ a (.fz (.int i))) (hb : ME X ρ b (.fz (.int j))) : MT X ρ (.Compare a [.Eq] [b] pos) (i == j) := mt_cmp op_eq ha hb (.int i) (.int j) (fun _ _ k => ⟨rfl, by rw [dec_int]; exact k⟩) (nomark _)
theorem mt_neI (ha : ME X ρ a (.fz (.int i))) (hb : ME X ρ b (.fz (.int j))) : MT X ρ (.Compare a [.NotEq] [b] pos) (!(i == j)) := mt_cmp op_ne ha hb (.int i) (.int j) (fun _ _ k => ⟨rfl, by rw [dec_int]; exact k⟩) (nomark _)
theorem mt_eqS (ha : ME X ρ a (.fz (.str p))) (hb : ME X ρ b (.fz (.str q))) : MT X ρ (.Compare a [.Eq] [b] pos) (p == q) := mt_cmp op_eq ha hb (.str p) (.str q) (fun _ _ k => ⟨rfl, by rw [dec_str]; exact k⟩) (nomark _)
theorem mt_neS (ha : ME X ρ a (.fz (.str p))) (hb : ME X ρ b (.fz (.str q))) : MT X ρ (.Compare a [.NotEq] [b] pos) (!(p == q)) := mt_cmp op_ne ha hb (.str p) (.str q) (fun _ _ k => ⟨rfl, by rw [dec_str]; exact k⟩) (nomark _)

def D.isNon : D → Bool
  | .non => true
  | _ => false
def O.isNon : O → Bool
  | .fz d => d.isNon
  | _ => false
theorem Rep.isNon {K : PySem.W.Frag} {Z : Hp} {v : V} (r : Rep K Z v d) : decide (v = .non) = d.isNon := by
  cases r <;> rfl
theorem RepO.isNon {K : PySem.W.Frag} {Z F H : Hp} {v : V} {A : List Addr} (r : RepO K Z F H v o A) : decide (v = .non) = o.isNon := by
  cases r with
  | fz r => exact r.isNon
  | _ => rfl
theorem mt_isN {k2 : Nat} {p2 : Pos} (ha : MV X ρ a o) : MT X ρ (.Compare a [.Is] [.Constant .none k2 p2] pos) o.isNon := .mk fun Z0 F Z σ H s Q q => by
  refine PT_w (pt_cmpR op_isN pe_w pe_non (nomark _)) (ha.run Z0 F Z σ H s _ fun v Z1 H1 A1 g1 r1 => ?_)
  exact ⟨rfl, o.isNon, by rw [r1.isNon], q Z1 H1 g1⟩
theorem mt_notN {k2 : Nat} {p2 : Pos} (ha : MV X ρ a o) : MT X ρ (.Compare a [.IsNot] [.Constant .none k2 p2] pos) (!o.isNon) := .mk fun Z0 F Z σ H s Q q => by
  refine PT_w (pt_cmpR op_notN pe_w pe_non (nomark _)) (ha.run Z0 F Z σ H s _ fun v Z1 H1 A1 g1 r1 => ?_)
  exact ⟨rfl, !o.isNon, by rw [r1.isNon], q Z1 H1 g1⟩
/-- a value that is a bool, as a test -/
theorem mt_val {k : Bool} (ha : ME X ρ e (.fz (.bl k))) (he : ∀ whole, isTrue e X.env whole = (do let v ← whole; standAt e.pos; holding [v] (truthy v)) := by intro _; rfl) : MT X ρ e k := .mk fun Z0 F Z σ H s Q q => by
  refine PT_w (pt_val pe_w he) (ha.run Z0 F Z σ H s _ fun v Z1 H1 A1 g1 r1 n1 => ?_)
  cases r1 with
  | fz r1 =>
    cases r1
    exact ⟨k, rfl, q Z1 H1 g1⟩

/-! ### and, or, not -/
def wW (X : Cx) (e : Expr) : TT := fun σ H Q => ∀ (whole : Sem Value) (pins : List (Addr × Obj)) (s : Shared), Inv X pins σ H s → wpAny (model X.prog X.w) X.A (isTrue e X.env whole) (TP X pins σ Q) X.xe s
theorem pw_w : PW X e (wW X e) := ⟨fun whole pins s _ _ _ I h => h whole pins s I⟩
theorem PW_w {t : TT} (p : PW X e t) {σ : L2.St} {H : Hp} {Q : Bool → Hp → Prop} (h : t σ H Q) : wW X e σ H Q := fun whole pins s I => p.run whole pins s σ H Q I h
structure MW (X : Cx) (ρ : Slots) (e : Expr) (b : Bool) : Prop where
  run : ∀ (Z0 F Z : Hp) (σ : L2.St) (H : Hp), StR X.K ρ Z0 F Z σ H → ∀ Q : Bool → Hp → Prop,
  (∀ Z' H', Gr Z H Z' H' → Q b H') → wW X e σ H Q
variable {k l : Bool} {rest : List Expr}
theorem MW.t (h : MW X ρ e k) : MT X ρ e k := .mk fun Z0 F Z σ H s Q q => PT_w (PW.pt pw_w) (h.run Z0 F Z σ H s Q q)
theorem mw_and1 (h : MT X ρ a k) : MW X ρ (.BoolOp .And [a] pos) k := .mk fun Z0 F Z σ H s Q q => PW_w (pw_and1 pt_w) (h.run Z0 F Z σ H s Q q)
theorem mw_or1 (h : MT X ρ a k) : MW X ρ (.BoolOp .Or [a] pos) k := .mk fun Z0 F Z σ H s Q q => PW_w (pw_or1 pt_w) (h.run Z0 F Z σ H s Q q)
theorem mw_and (h : MT X ρ a k) (h2 : k = true → MW X ρ (.BoolOp .And (b :: rest) pos) l) : MW X ρ (.BoolOp .And (a :: b :: rest) pos) (k && l) := .mk fun Z0 F Z σ H s Q q =>
  PW_w (pw_and pt_w pw_w) (h.run Z0 F Z σ H s _ fun Z1 H1 g1 => by
    cases k with
    | true => exact (h2 rfl).run Z0 F Z1 σ H1 (s.grow g1) Q fun Z2 H2 g2 => q Z2 H2 (g1.trans g2)
    | false => exact q Z1 H1 g1)
theorem mw_or (h : MT X ρ a k) (h2 : k = false → MW X ρ (.BoolOp .Or (b :: rest) pos) l) : MW X ρ (.BoolOp .Or (a :: b :: rest) pos) (k || l) := .mk fun Z0 F Z σ H s Q q =>
  PW_w (pw_or pt_w pw_w) (h.run Z0 F Z σ H s _ fun Z1 H1 g1 => by
    cases k with
    | true => exact q Z1 H1 g1
    | false => exact (h2 rfl).run Z0 F Z1 σ H1 (s.grow g1) Q fun Z2 H2 g2 => q Z2 H2 (g1.trans g2))
theorem mt_not (h : MT X ρ a k) : MT X ρ (.UnaryOp .Not a pos) (!k) := .mk fun Z0 F Z σ H s Q q => PT_w (pt_not pt_w) (h.run Z0 F Z σ H s _ fun Z1 H1 g1 => q Z1 H1 g1)
theorem me_one {op : BoolOp} (h : ME X ρ a o) : ME X ρ (.BoolOp op [a] pos) o := .mk fun Z0 F Z σ H s Q q => PE_w (pe_one pe_w) (h.run Z0 F Z σ H s Q q)
theorem me_and (h : ME X ρ a (.fz (.bl k))) (h2 : k = true → ME X ρ (.BoolOp .And (b :: rest) pos) (.fz (.bl l))) : ME X ρ (.BoolOp .And (a :: b :: rest) pos) (.fz (.bl (k && l))) := .mk fun Z0 F Z σ H s Q q =>
  PE_w (pe_and pe_w pe_w) (h.run Z0 F Z σ H s _ fun v Z1 H1 A1 g1 r1 n1 => by
    cases r1 with
    | fz r1 =>
      cases r1
      refine ⟨k, rfl, ?_⟩
      cases k with
      | true =>
        refine (h2 rfl).run Z0 F Z1 σ H1 (s.grow g1) Q fun w Z2 H2 A2 g2 r2 n2 => ?_
        cases r2 with
        | fz r2 => exact q w Z2 H2 [] (g1.trans g2) (.fz r2) .nil
      | false => exact q _ Z1 H1 [] g1 (.fz (.bl false)) .nil)
theorem me_or (h : ME X ρ a (.fz (.bl k))) (h2 : k = false → ME X ρ (.BoolOp .Or (b :: rest) pos) (.fz (.bl l))) : ME X ρ (.BoolOp .Or (a :: b :: rest) pos) (.fz (.bl (k || l))) := .mk fun Z0 F Z σ H s Q q =>
  PE_w (pe_or pe_w pe_w) (h.run Z0 F Z σ H s _ fun v Z1 H1 A1 g1 r1 n1 => by
    cases r1 with
    | fz r1 =>
      cases r1
      refine ⟨k, rfl, ?_⟩
      cases k with
      | false =>
        refine (h2 rfl).run Z0 F Z1 σ H1 (s.grow g1) Q fun w Z2 H2 A2 g2 r2 n2 => ?_
        cases r2 with
        | fz r2 => exact q w Z2 H2 [] (g1.trans g2) (.fz r2) .nil
      | true => exact q _ Z1 H1 [] g1 (.fz (.bl true)) .nil)
theorem me_not (h : ME X ρ a (.fz (.bl k))) : ME X ρ (.UnaryOp .Not a pos) (.fz (.bl (!k))) := .mk fun Z0 F Z σ H s Q q =>
  PE_w (pe_not pe_w) (h.run Z0 F Z σ H s _ fun v Z1 H1 A1 g1 r1 n1 => by
    cases r1 with
    | fz r1 =>
      cases r1
      exact ⟨k, rfl, q _ Z1 H1 [] g1 (.fz (.bl _)) .nil⟩)
theorem me_if {c : Expr} (h : MT X ρ c k) (h1 : k = true → ME X ρ a o) (h2 : k = false → ME X ρ b o) : ME X ρ (.IfExp c a b pos) o := .mk fun Z0 F Z σ H s Q q =>
  PE_w (pe_ifExp pt_w pe_w pe_w) (h.run Z0 F Z σ H s _ fun Z1 H1 g1 => by
    cases k with
    | true => exact (h1 rfl).run Z0 F Z1 σ H1 (s.grow g1) Q fun v Z2 H2 A2 g2 r2 n2 => q v Z2 H2 A2 (g1.trans g2) r2 ⟨n2.1, fun a m => ⟨g1.hh.free (n2.2 a m).1, (n2.2 a m).2⟩⟩
    | false => exact (h2 rfl).run Z0 F Z1 σ H1 (s.grow g1) Q fun v Z2 H2 A2 g2 r2 n2 => q v Z2 H2 A2 (g1.trans g2) r2 ⟨n2.1, fun a m => ⟨g1.hh.free (n2.2 a m).1, (n2.2 a m).2⟩⟩)

/-- not starred -/
abbrev NS (X : Cx) (e : Expr) : Prop := ∀ es, starEach (e :: es) X.env = (false, eval e X.env) :: starEach es X.env
/-! ### argument lists, displays -/
/-- frozen things -/
structure MF (X : Cx) (ρ : Slots) (es : List Expr) (ds : List D) : Prop where
  run : ∀ (Z0 F Z : Hp) (σ : L2.St) (H : Hp), StR X.K ρ Z0 F Z σ H → ∀ Q : List V → Hp → Prop,
  (∀ vs Z' H', Gr Z H Z' H' → RepL X.K Z' vs ds → Q vs H') → wA X es σ H Q
theorem mf_nil : MF X ρ [] [] := .mk fun Z0 F Z σ H s Q q => PA_w pa_nil (q [] Z H (Gr.refl s.ex) .nil)
theorem mf_cons (h : ME X ρ e (.fz d)) (h2 : MF X ρ es ds) (hs : starEach (e :: es) X.env = (false, eval e X.env) :: starEach es X.env := by rfl) : MF X ρ (e :: es) (d :: ds) := .mk fun Z0 F Z σ H s Q q =>
  PA_w (pa_cons pe_w pa_w hs) (h.run Z0 F Z σ H s _ fun v Z1 H1 A1 g1 r1 n1 => by
    cases r1 with
    | fz r1 => exact h2.run Z0 F Z1 σ H1 (s.grow g1) _ fun vs Z2 H2 g2 r2 => q _ Z2 H2 (g1.trans g2) (.cons (r1.mono g2.zz) r2))
theorem ma_nil : MA X ρ [] [] := .mk fun Z0 F Z σ H s Q q => PA_w pa_nil (q [] Z H (Gr.refl s.ex) .nil)
theorem ma_fz {os : List O} (h : ME X ρ e (.fz d)) (h2 : MA X ρ es os) (hs : starEach (e :: es) X.env = (false, eval e X.env) :: starEach es X.env := by rfl) : MA X ρ (e :: es) (.fz d :: os) := .mk fun Z0 F Z σ H s Q q =>
  PA_w (pa_cons pe_w pa_w hs) (h.run Z0 F Z σ H s _ fun v Z1 H1 A1 g1 r1 n1 => by
    cases r1 with
    | fz r1 => exact h2.run Z0 F Z1 σ H1 (s.grow g1) _ fun vs Z2 H2 g2 r2 => q _ Z2 H2 (g1.trans g2) (.cons (A := []) (B := []) (.fz (r1.mono g2.zz)) r2))
theorem ma_vw {os : List O} (h : ML X ρ e ds) (h2 : MA X ρ es os) (hs : starEach (e :: es) X.env = (false, eval e X.env) :: starEach es X.env := by rfl) : MA X ρ (e :: es) (.vw ds :: os) := .mk fun Z0 F Z σ H s Q q =>
  PA_w (pa_cons pe_w pa_w hs) (h.run Z0 F Z σ H s _ fun a vs Z1 H1 g1 l1 r1 =>
    h2.run Z0 F Z1 σ H1 (s.grow g1) _ fun ws Z2 H2 g2 r2 => q _ Z2 H2 (g1.trans g2) (.cons (A := []) (B := []) (.vw (ex_l g2.hh l1) (r1.mono g2.zz)) r2))
theorem new_one {H Z : Hp} {p : Addr} (h : H p = none) (h2 : Z p = none) : New H Z [p] := ⟨List.nodup_cons.mpr ⟨(fun m => nomatch m), List.nodup_nil⟩, fun a m => by
  cases List.mem_singleton.mp m
  exact ⟨h, h2⟩⟩
theorem me_tup {n : Nat} (h : MF X ρ es ds) (hl : ds.length ≤ 1000 := by first | decide | (simp; done)) : ME X ρ (.Tuple es n pos) (.fz (.tup ds)) := .mk fun Z0 F Z σ H s Q q =>
  PE_w (pe_tup pa_w) (h.run Z0 F Z σ H s _ fun vs Z1 H1 g1 r1 => ⟨(by rw [r1.length]; exact Nat.le_of_lt (small1000 hl)), fun p hp => by
    exact q _ (upd Z1 p (.tup vs)) _ [] (g1.trans (Gr.newz g1.zh hp)) (.fz (.tup (.of upd_same) (r1.mono (Ex.new (g1.zh.free hp))))) .nil⟩)
theorem me_lst (h : MF X ρ es ds) (hl : ds.length ≤ 1000 := by first | decide | (simp; done)) : ME X ρ (.List es pos) (.lst (ds.map .fz)) := .mk fun Z0 F Z σ H s Q q =>
  PE_w (pe_lst pa_w) (h.run Z0 F Z σ H s _ fun vs Z1 H1 g1 r1 => ⟨(by rw [r1.length]; exact Nat.le_of_lt (small1000 hl)), fun p hp => by
    refine q _ Z1 _ [p] (g1.trans (Gr.new g1.zh hp)) (.lst upd_same r1.own) (new_one (g1.hh.free hp) (g1.zh.free hp))⟩)

/-! ### items, lengths, slices -/
theorem RepL.atI {K : PySem.W.Frag} {Z : Hp} {vs : List V} {ds : List D} {i : Int} {d : D} (r : RepL K Z vs ds) (h : L2.atI ds i = some d) : ∃ v, L2.atI vs i = some v ∧ Rep K Z v d := by
  unfold L2.atI at h ⊢
  rw [r.length]
  cases e : ixN ds.length i with
  | none =>
    rw [e] at h
    cases h
  | some n =>
    rw [e] at h
    exact r.get h
theorem me_ixL (ha : ML X ρ a ds) (hb : ME X ρ b (.fz (.int i))) (h : L2.atI ds i = some d) (hp : PlainIx b := by exact fun _ _ => rfl) : ME X ρ (.Subscript a b pos) (.fz d) := .mk fun Z0 F Z σ H s Q q =>
  PE_w (pe_ix ix_list pe_w pe_w hp) (ha.run Z0 F Z σ H s _ fun l vs Z1 H1 g1 l1 r1 => hb.run Z0 F Z1 σ H1 (s.grow g1) _ fun w Z2 H2 A2 g2 r2 n2 => by
    cases r2 with
    | fz r2 =>
      cases r2
      obtain ⟨v, e, rv⟩ := (r1.mono g2.zz).atI h
      exact ⟨l, vs, i, v, rfl, rfl, ex_l g2.hh l1, e, q v Z2 H2 [] (g1.trans g2) (.fz rv) .nil⟩)
theorem me_ixT (ha : MU X ρ a ds) (hb : ME X ρ b (.fz (.int i))) (h : L2.atI ds i = some d) (hp : PlainIx b := by exact fun _ _ => rfl) : ME X ρ (.Subscript a b pos) (.fz d) := .mk fun Z0 F Z σ H s Q q =>
  PE_w (pe_ix ix_tup pe_w pe_w hp) (ha.run Z0 F Z σ H s _ fun l vs Z1 H1 g1 l1 r1 => hb.run Z0 F Z1 σ H1 (s.grow g1) _ fun w Z2 H2 A2 g2 r2 n2 => by
    cases r2 with
    | fz r2 =>
      cases r2
      obtain ⟨v, e, rv⟩ := (r1.mono g2.zz).atI h
      exact ⟨l, vs, i, v, rfl, rfl, ex_t g2.hh l1, e, q v Z2 H2 [] (g1.trans g2) (.fz rv) .nil⟩)
theorem me_ixS {c : Nat} (ha : ME X ρ a (.fz (.str p))) (hb : ME X ρ b (.fz (.int i))) (hl : p.length ≤ sizeLine) (h : L2.atI p.cps.toList i = some c) (hp : PlainIx b := by exact fun _ _ => rfl) : ME X ρ (.Subscript a b pos) (.fz (.str ⟨#[c]⟩)) :=
  me_r2 (t := tOp rIxS (wE X a) (wE X b)) (pe_ix ix_str pe_w pe_w hp) ha hb (.str p) (.int i) (.str _) fun _ _ k => ⟨p, i, c, rfl, rfl, hl, h, k⟩
theorem RepOL.get {K : PySem.W.Frag} {Z F H : Hp} : ∀ {vs : List V} {os : List O} {A : List Addr} {i : Nat} {o : O}, RepOL K Z F H vs os A → os[i]? = some o → ∃ v B, vs[i]? = some v ∧ RepO K Z F H v o B
  | _, _, _, _, _, .nil, e => by simp at e
  | _, _, _, 0, _, .cons h _, e => by
    simp at e
    subst e
    exact ⟨_, _, rfl, h⟩
  | _, _, _, i + 1, _, .cons _ r, e => by
    obtain ⟨v, B, h1, h2⟩ := RepOL.get (i := i) r (by simpa using e)
    exact ⟨v, B, by simpa using h1, h2⟩
theorem RepOL.length {K : PySem.W.Frag} {Z F H : Hp} : ∀ {vs : List V} {os : List O} {A : List Addr}, RepOL K Z F H vs os A → vs.length = os.length
  | _, _, _, .nil => rfl
  | _, _, _, .cons _ r => congrArg (· + 1) r.length
theorem RepOL.atI {K : PySem.W.Frag} {Z F H : Hp} {vs : List V} {os : List O} {A : List Addr} {i : Int} {o : O} (r : RepOL K Z F H vs os A) (h : L2.atI os i = some o) : ∃ v B, L2.atI vs i = some v ∧ RepO K Z F H v o B := by
  unfold L2.atI at h ⊢
  rw [r.length]
  cases e : ixN os.length i with
  | none =>
    rw [e] at h
    cases h
  | some n =>
    rw [e] at h
    exact r.get h
/-- an item of an own tuple, of an own list -/
theorem mv_ixT {os : List O} (ha : MV X ρ a (.tup os)) (hb : ME X ρ b (.fz (.int i))) (h : L2.atI os i = some o) (hp : PlainIx b := by exact fun _ _ => rfl) : MV X ρ (.Subscript a b pos) o := .mk fun Z0 F Z σ H s Q q =>
  PE_w (pe_ix ix_tup pe_w pe_w hp) (ha.run Z0 F Z σ H s _ fun v Z1 H1 A1 g1 r1 => hb.run Z0 F Z1 σ H1 (s.grow g1) _ fun w Z2 H2 A2 g2 r2 n2 => by
    cases r2 with
    | fz r2 =>
      cases r2
      have r3 := r1.ex g2.zz g2.hh
      cases r3 with
      | tup l1 r4 =>
        obtain ⟨v, B, e, rv⟩ := r4.atI h
        exact ⟨_, _, i, v, rfl, rfl, .of l1, e, q v Z2 H2 B (g1.trans g2) rv⟩)
theorem mv_ixL {os : List O} (ha : MV X ρ a (.lst os)) (hb : ME X ρ b (.fz (.int i))) (h : L2.atI os i = some o) (hp : PlainIx b := by exact fun _ _ => rfl) : MV X ρ (.Subscript a b pos) o := .mk fun Z0 F Z σ H s Q q =>
  PE_w (pe_ix ix_list pe_w pe_w hp) (ha.run Z0 F Z σ H s _ fun v Z1 H1 A1 g1 r1 => hb.run Z0 F Z1 σ H1 (s.grow g1) _ fun w Z2 H2 A2 g2 r2 n2 => by
    cases r2 with
    | fz r2 =>
      cases r2
      have r3 := r1.ex g2.zz g2.hh
      cases r3 with
      | lst l1 r4 =>
        obtain ⟨v, B, e, rv⟩ := r4.atI h
        exact ⟨_, _, i, v, rfl, rfl, .of l1, e, q v Z2 H2 B (g1.trans g2) rv⟩)
variable {nm T id : Str} {p0 p1 p2 : Pos}
theorem me_len (hg : Gl X "len") (hm : X.mg "len" = none) (ha : ML X ρ a ds) (n1 : NS X a := by exact fun _ => rfl) : ME X ρ (.Call (.Name "len" p0) [a] [] pos) (.fz (.int (ds.length : Int))) := .mk fun Z0 F Z σ H s Q q =>
  PE_w (pe_callB call_len_seq hg hm boot_len (pa_cons pe_w pa_nil (n1 _)) (he := n1 _)) (ha.run Z0 F Z σ H s _ fun l vs Z1 H1 g1 l1 r1 => ⟨l, vs, rfl, .inl l1, by rw [r1.length]; exact q _ Z1 H1 [] g1 (.fz (.int _)) .nil⟩)
theorem me_lenT (hg : Gl X "len") (hm : X.mg "len" = none) (ha : MU X ρ a ds) (n1 : NS X a := by exact fun _ => rfl) : ME X ρ (.Call (.Name "len" p0) [a] [] pos) (.fz (.int (ds.length : Int))) := .mk fun Z0 F Z σ H s Q q =>
  PE_w (pe_callB call_len_seq hg hm boot_len (pa_cons pe_w pa_nil (n1 _)) (he := n1 _)) (ha.run Z0 F Z σ H s _ fun l vs Z1 H1 g1 l1 r1 => ⟨l, vs, rfl, .inr l1, by rw [r1.length]; exact q _ Z1 H1 [] g1 (.fz (.int _)) .nil⟩)
theorem me_lenTO {os : List O} (hg : Gl X "len") (hm : X.mg "len" = none) (ha : MV X ρ a (.tup os)) (n1 : NS X a := by exact fun _ => rfl) : ME X ρ (.Call (.Name "len" p0) [a] [] pos) (.fz (.int (os.length : Int))) := .mk fun Z0 F Z σ H s Q q =>
  PE_w (pe_callB call_len_seq hg hm boot_len (pa_cons pe_w pa_nil (n1 _)) (he := n1 _)) (ha.run Z0 F Z σ H s _ fun v Z1 H1 A g1 r1 => by
    cases r1 with
    | tup l1 r1 => exact ⟨_, _, rfl, .inr (.of l1), by rw [r1.length]; exact q _ Z1 H1 [] g1 (.fz (.int _)) .nil⟩)
theorem me_lenLO {os : List O} (hg : Gl X "len") (hm : X.mg "len" = none) (ha : MV X ρ a (.lst os)) (n1 : NS X a := by exact fun _ => rfl) : ME X ρ (.Call (.Name "len" p0) [a] [] pos) (.fz (.int (os.length : Int))) := .mk fun Z0 F Z σ H s Q q =>
  PE_w (pe_callB call_len_seq hg hm boot_len (pa_cons pe_w pa_nil (n1 _)) (he := n1 _)) (ha.run Z0 F Z σ H s _ fun v Z1 H1 A g1 r1 => by
    cases r1 with
    | lst l1 r1 => exact ⟨_, _, rfl, .inl (.of l1), by rw [r1.length]; exact q _ Z1 H1 [] g1 (.fz (.int _)) .nil⟩)
theorem me_lenS (hg : Gl X "len") (hm : X.mg "len" = none) (ha : ME X ρ a (.fz (.str p))) (hl : p.length ≤ sizeLine) (n1 : NS X a := by exact fun _ => rfl) : ME X ρ (.Call (.Name "len" p0) [a] [] pos) (.fz (.int (p.length : Int))) := .mk fun Z0 F Z σ H s Q q =>
  PE_w (pe_callB call_len_str hg hm boot_len (pa_cons pe_w pa_nil (n1 _)) (he := n1 _)) (ha.run Z0 F Z σ H s _ fun v Z1 H1 A g1 r1 n1 => by
    cases r1 with
    | fz r1 =>
      cases r1
      exact ⟨p, rfl, hl, q _ Z1 H1 [] g1 (.fz (.int _)) .nil⟩)
theorem me_list (hg : Gl X "list") (hm : X.mg "list" = none) (ha : ML X ρ a ds) (n1 : NS X a := by exact fun _ => rfl) : ME X ρ (.Call (.Name "list" p0) [a] [] pos) (.lst (ds.map .fz)) := .mk fun Z0 F Z σ H s Q q =>
  PE_w (pe_callTy call_list_of hg hm (by decide +kernel) (pa_cons pe_w pa_nil (n1 _)) (he := n1 _)) (ha.run Z0 F Z σ H s _ fun l vs Z1 H1 g1 l1 r1 => ⟨l, vs, rfl, .inl l1, fun p hp =>
    q _ Z1 _ [p] (g1.trans (Gr.new g1.zh hp)) (.lst upd_same r1.own) (new_one (g1.hh.free hp) (g1.zh.free hp))⟩)
theorem me_sum {ns : List Int} (hc : X.calm = true) (hg : Gl X "sum") (hm : X.mg "sum" = none) (ha : ML X ρ a (ns.map .int)) (n1 : NS X a := by exact fun _ => rfl) : ME X ρ (.Call (.Name "sum" p0) [a] [] pos) (.fz (.int ns.sum)) := .mk fun Z0 F Z σ H s Q q =>
  PE_w (pe_callB (cr_sum hc) hg hm (by decide +kernel) (pa_cons pe_w pa_nil (n1 _)) (he := n1 _)) (ha.run Z0 F Z σ H s _ fun l vs Z1 H1 g1 l1 r1 => by
    have e := r1.ints
    subst e
    exact ⟨l, ns, rfl, l1, q _ Z1 H1 [] g1 (.fz (.int _)) .nil⟩)
theorem me_min (hc : X.calm = true) (hg : Gl X "min") (hm : X.mg "min" = none) (ha : ME X ρ a (.fz (.int i))) (hb : ME X ρ b (.fz (.int j))) (n1 : NS X a := by exact fun _ => rfl) (n2 : NS X b := by exact fun _ => rfl) : ME X ρ (.Call (.Name "min" p0) [a, b] [] pos) (.fz (.int (min i j))) := .mk fun Z0 F Z σ H s Q q =>
  PE_w (pe_callB (call_min2 hc) hg hm (by decide +kernel) (pa_cons pe_w (pa_cons pe_w pa_nil (n2 _)) (n1 _)) (he := n1 _) (hpl := by rw [n2 []]; rfl)) (ha.run Z0 F Z σ H s _ fun v Z1 H1 A1 g1 r1 n1 => hb.run Z0 F Z1 σ H1 (s.grow g1) _ fun w Z2 H2 A2 g2 r2 n2 => by
    cases r1 with
    | fz r1 =>
      cases r2 with
      | fz r2 =>
        cases r1
        cases r2
        refine ⟨i, j, rfl, ?_⟩
        have e : (if j < i then j else i) = min i j := by omega
        rw [e]
        exact q _ Z2 H2 [] (g1.trans g2) (.fz (.int _)) .nil)
theorem me_max (hc : X.calm = true) (hg : Gl X "max") (hm : X.mg "max" = none) (ha : ME X ρ a (.fz (.int i))) (hb : ME X ρ b (.fz (.int j))) (n1 : NS X a := by exact fun _ => rfl) (n2 : NS X b := by exact fun _ => rfl) : ME X ρ (.Call (.Name "max" p0) [a, b] [] pos) (.fz (.int (max i j))) := .mk fun Z0 F Z σ H s Q q =>
  PE_w (pe_callB (call_max2 hc) hg hm (by decide +kernel) (pa_cons pe_w (pa_cons pe_w pa_nil (n2 _)) (n1 _)) (he := n1 _) (hpl := by rw [n2 []]; rfl)) (ha.run Z0 F Z σ H s _ fun v Z1 H1 A1 g1 r1 n1 => hb.run Z0 F Z1 σ H1 (s.grow g1) _ fun w Z2 H2 A2 g2 r2 n2 => by
    cases r1 with
    | fz r1 =>
      cases r2 with
      | fz r2 =>
        cases r1
        cases r2
        refine ⟨i, j, rfl, ?_⟩
        have e : (if j > i then j else i) = max i j := by omega
        rw [e]
        exact q _ Z2 H2 [] (g1.trans g2) (.fz (.int _)) .nil)
/-- a part of a slice -/
def wO (X : Cx) (e : Option Expr) : TO := fun σ H Q => ∀ (pins : List (Addr × Obj)) (s : Shared), Inv X pins σ H s → True
inductive MO (X : Cx) (ρ : Slots) : Option Expr → Option Int → Prop where
  | none : MO X ρ none none
  | some {e : Expr} {i : Int} (h : ME X ρ e (.fz (.int i))) : MO X ρ (some e) (some i)
theorem MO.run {eo : Option Expr} {io : Option Int} (h : MO X ρ eo io) : ∃ t, PO X eo t ∧ ∀ (Z0 F Z : Hp) (σ : L2.St) (H : Hp), StR X.K ρ Z0 F Z σ H → ∀ Q : Option Int → Hp → Prop, (∀ Z' H', Gr Z H Z' H' → Q io H') → t σ H Q := by
  cases h with
  | none => exact ⟨_, po_none, fun Z0 F Z σ H s Q q => q Z H (Gr.refl s.ex)⟩
  | @some e i h => exact ⟨_, po_some pe_w, fun Z0 F Z σ H s Q q => h.run Z0 F Z σ H s _ fun v Z1 H1 A1 g1 r1 n1 => by
      cases r1 with
      | fz r1 =>
        cases r1
        exact ⟨i, rfl, q Z1 H1 g1⟩⟩
def cutG {α : Type} (xs : List α) (lo hi : Option Int) : List α := (xs.drop (HT.sIx xs.length 0 lo)).take (HT.sIx xs.length xs.length hi - HT.sIx xs.length 0 lo)
theorem RepL.cut {K : PySem.W.Frag} {Z : Hp} {vs : List V} {ds : List D} (r : RepL K Z vs ds) (lo hi : Option Int) : RepL K Z (cutV vs lo hi) (cutG ds lo hi) := by
  unfold cutV cutG
  rw [r.length]
  exact (r.drop _).take _
theorem me_slL {lo hi : Option Expr} {li hj : Option Int} (ha : ML X ρ a ds) (hl : MO X ρ lo li) (hh : MO X ρ hi hj) : ME X ρ (.Subscript a (.Slice lo hi none p2) pos) (.lst ((cutG ds li hj).map .fz)) := .mk fun Z0 F Z σ H s Q q => by
  obtain ⟨tl, pl, kl⟩ := hl.run
  obtain ⟨th, ph, kh⟩ := hh.run
  refine PE_w (pe_slice sl_list pe_w pl ph) (ha.run Z0 F Z σ H s _ fun l vs Z1 H1 g1 l1 r1 => kl Z0 F Z1 σ H1 (s.grow g1) _ fun Z2 H2 g2 => kh Z0 F Z2 σ H2 (s.grow (g1.trans g2)) _ fun Z3 H3 g3 => ?_)
  refine ⟨l, vs, rfl, ex_l (g2.hh.trans g3.hh) l1, fun p hp => ?_⟩
  have g := g1.trans (g2.trans g3)
  exact q _ Z3 _ [p] (g.trans (Gr.new g.zh hp)) (.lst upd_same ((r1.mono (g2.zz.trans g3.zz)).cut li hj).own) (new_one (g.hh.free hp) (g.zh.free hp))

/-! ### isinstance -/
def D.tyN : D → Option String
  | .non => some "NoneType"
  | .bl _ => some "bool"
  | .int _ => some "int"
  | .str _ => some "str"
  | .tup _ => some "tuple"
  | .lst _ => some "list"
  | .dct _ _ => some "dict"
  | .dctT _ _ => some "dict"
  | _ => none
def O.tyN : O → Option String
  | .fz d => d.tyN
  | .vw _ => some "list"
  | .vwa _ _ => some "list"
  | .lst _ => some "list"
  | .tup _ => some "tuple"
  | .dct _ _ => some "dict"
  | .dctT _ _ => some "dict"
  | .ins _ _ _ => none
  | .at _ _ _ _ => none
  | .loc _ o => o.tyN
  | .pt _ => none
  | .rs _ => none
theorem sql_ty {K : PySem.W.Frag} {H : Hp} {l : Addr} {vs : List V} (h : SqL K H l vs) : TyX K H (.ref l) (.type "list") := by
  rcases h with (h | ⟨o, h⟩) | ⟨o, its, n, h, c, _⟩
  · exact .base (.lst h)
  · exact .base (.frz h)
  · exact .kList h c
theorem sqt_ty {K : PySem.W.Frag} {H : Hp} {l : Addr} {vs : List V} (h : SqT K H l vs) : TyX K H (.ref l) (.type "tuple") := by
  rcases h with (h | ⟨o, h⟩) | ⟨o, its, n, h, c, _⟩
  · exact .base (.tup h)
  · exact .fTuple h
  · exact .kTuple h c
theorem Rep.ty' {K : PySem.W.Frag} {Z H : Hp} {v : V} {d : D} {t : String} (e : Ex Z H) (r : Rep K Z v d) (h : d.tyN = some t) : TyX K H v (.type t) := by
  cases r with
  | non => cases h; exact .base .non
  | bl b => cases h; exact .base (.bl b)
  | int i => cases h; exact .base (.int i)
  | str x => cases h; exact .base (.str x)
  | ty n => cases h
  | opq a => cases h
  | tup a b => cases h; exact sqt_ty (ex_t e a)
  | lst a b => cases h; exact sql_ty (ex_l e a)
  | ins a b => cases h
  | dct a b => cases h; exact .base (.dK (e _ _ a))
  | dctT a b => cases h; exact .base (.dT (e _ _ a))
theorem RepO.ty' {K : PySem.W.Frag} {Z F H : Hp} {t : String} (e : Ex Z H) (f : Ex F H) : ∀ {v : V} {o : O} {A : List Addr}, RepO K Z F H v o A → o.tyN = some t → TyX K H v (.type t)
  | _, _, _, .fz r, h => r.ty' e h
  | _, _, _, .vw a b, h => by cases h; exact sql_ty (ex_l f a)
  | _, _, _, .vwa a b, h => by cases h; exact sql_ty (ex_l f a)
  | _, _, _, .lst a b, h => by cases h; exact .base (.lst a)
  | _, _, _, .tup a b, h => by cases h; exact .base (.tup a)
  | _, _, _, .ins a b, h => by cases h
  | _, _, _, .at a b, h => by cases h
  | _, _, _, .dct a b, h => by cases h; exact .base (.dK a)
  | _, _, _, .dctT a b, h => by cases h; exact .base (.dT a)
  | _, _, _, .loc r, h => RepO.ty' e f r h
  | _, _, _, .pt, h => by cases h
theorem me_isi {T t : String} {TS : Str} {k : Bool} (hg : Gl X "isinstance") (hm : X.mg "isinstance" = none) (hT : PE X (.Name TS p1) (tC (.ty T))) (ha : MV X ρ a o) (ht : o.tyN = some t) (hk : kitB t T = some k) (n1 : NS X a := by exact fun _ => rfl) :
    ME X ρ (.Call (.Name "isinstance" p0) [a, .Name TS p1] [] pos) (.fz (.bl k)) := .mk fun Z0 F Z σ H s Q q =>
  PE_w (pe_callB call_isi hg hm (by decide +kernel) (pa_cons pe_w (pa_cons hT pa_nil) (n1 _)) (he := n1 _)) (ha.run Z0 F Z σ H s _ fun v Z1 H1 A1 g1 r1 =>
    ⟨v, .ty T, .type t, .type T, k, rfl, .ty T, r1.ty' g1.zh (s.gr.hh.trans g1.hh) ht, kit_ty hk, q _ Z1 H1 [] g1 (.fz (.bl k)) .nil⟩)
end
end M
namespace M
open PySem L2

theorem RepOL.snoc {K : PySem.W.Frag} {Z F H : Hp} {w : V} {o : O} {B : List Addr} (h : RepO K Z F H w o B) : ∀ {vs : List V} {os : List O} {A : List Addr}, RepOL K Z F H vs os A → RepOL K Z F H (vs ++ [w]) (os ++ [o]) (A ++ B)
  | _, _, _, .nil => by
    have q := RepOL.cons h (RepOL.nil (K := K) (Z := Z) (F := F) (H := H))
    rw [List.append_nil] at q
    exact q
  | _, _, _, .cons g r => by
    rw [List.append_assoc]
    exact .cons g (r.snoc h)
section
variable {X : Cx} {ρ : Slots} {e : Expr} {es : List Expr} {st : Stmt} {sts : List Stmt} {G : Go} {o : O} {d : D} {ds : List D} {pos : Pos} {i : Nat}

/-! ### small statements -/
theorem m_set (p : PS X st (tAsg (wE X e) (gName i))) (h : ME X ρ e o) (k : G.nx (ρ.set i (some o))) (hi : i < ρ.length := by exact Nat.le_of_ble_eq_true rfl) : MS1 X ρ st G := .mk fun Z0 F Z σ H D s g =>
  PS_w p (h.run Z0 F Z σ H s _ fun v Z1 H1 A g1 r n => g.nx _ Z1 _ H1 k (s.put g1 r n hi))
theorem m_expr (p : PS X st (tDrop (wE X e))) (h : ME X ρ e o) (k : G.nx ρ) : MS1 X ρ st G := .mk fun Z0 F Z σ H D s g =>
  PS_w p (h.run Z0 F Z σ H s _ fun v Z1 H1 A g1 r n => g.nx _ Z1 _ H1 k (s.grow g1))
theorem m_doc {x : Str} {j : Nat} {p1 p2 : Pos} (k : G.nx ρ) : MS1 X ρ (.Expr (.Constant (.str x) j p1) p2) G := .mk fun Z0 F Z σ H D s g => PS_w ps_doc (g.nx _ Z _ H k s)
theorem m_ret (p : PS X st (tRet (wE X e))) (h : MR X ρ e o) (k : G.rt o) : MS1 X ρ st G := .mk fun Z0 F Z σ H D s g =>
  PS_w p (h.run Z0 F Z σ H s _ fun v Z1 H1 A g1 r n d => g.rt o v Z1 H1 A k (s.gr.trans g1) r ⟨n, fun a m => ⟨(d a m).2, (d a m).1⟩⟩)
theorem m_retN (p : PS X st tRetN) (k : G.rt (.fz .non)) : MS1 X ρ st G := .mk fun Z0 F Z σ H D s g =>
  PS_w p (g.rt _ _ Z H [] k s.gr (.fz .non) .nil)
theorem m_if {c : Expr} {a b : List Stmt} {t : Bool} (hc : MT X ρ c t) (h1 : t = true → MS X ρ a G) (h2 : t = false → MS X ρ b G) : MS1 X ρ (.If c a b pos) G := .mk fun Z0 F Z σ H D s g =>
  PS_w (ps_if pt_w pss_w pss_w) (hc.run Z0 F Z σ H s _ fun Z1 H1 g1 => by
    cases t with
    | true => exact (h1 rfl).run Z0 F Z1 σ H1 D (s.grow g1) g
    | false => exact (h2 rfl).run Z0 F Z1 σ H1 D (s.grow g1) g)
theorem m_pass (k : G.nx ρ) : MS1 X ρ (.Pass pos) G := .mk fun Z0 F Z σ H D s g => PS_w ps_pass (g.nx _ Z _ H k s)
theorem m_break (k : G.bk ρ) : MS1 X ρ (.Break pos) G := .mk fun Z0 F Z σ H D s g => PS_w ps_break (g.bk _ Z _ H k s)
theorem m_continue (k : G.ct ρ) : MS1 X ρ (.Continue pos) G := .mk fun Z0 F Z σ H D s g => PS_w ps_continue (g.ct _ Z _ H k s)
/-- a slot's thing is frozen from here on -/
theorem ms_frz (hi : ρ[i]? = some (some o)) (hn : o.nv = true) (h : MS X (ρ.set i (some (.fz o.frz))) sts G) : MS X ρ sts G := .mk fun Z0 F Z σ H D s g => by
  obtain ⟨Z', _, _, s'⟩ := s.freeze hi hn
  exact h.run Z0 F Z' σ H D s' g
theorem ms_frzl (hi : ρ[i]? = some (some (.lst (ds.map .fz)))) (h : MS X (ρ.set i (some (.fz (.lst ds)))) sts G) : MS X ρ sts G := by
  refine ms_frz hi (O.nvL_fz ds) ?_
  rw [show (O.lst (ds.map .fz)).frz = .lst ds from congrArg D.lst (O.frzL_fz ds)]
  exact h
theorem ms_le {τ : Slots} (l : Le ρ τ) (h : MS X τ sts G) : MS X ρ sts G := .mk fun Z0 F Z σ H D s g => h.run Z0 F Z σ H D (s.le l) g
theorem Go.le {τ : Slots} (h : MS X τ sts G) : ∀ ρ, Le ρ τ → MS X ρ sts G := fun _ l => ms_le l h
/-- another end -/
theorem ms_imp {G' : Go} (h : MS X ρ sts G) (n : ∀ ρ, G.nx ρ → G'.nx ρ) (r : ∀ o, G.rt o → G'.rt o) (b : ∀ ρ, G.bk ρ → G'.bk ρ) (c : ∀ ρ, G.ct ρ → G'.ct ρ) (rs : ∀ o ρ, G.rs o ρ → G'.rs o ρ := by exact fun _ _ h => h) : MS X ρ sts G' := .mk fun Z0 F Z σ H D s g =>
  h.run Z0 F Z σ H D s ⟨fun ρ Z σ H k => g.nx ρ Z σ H (n ρ k), fun ρ Z σ H k => g.bk ρ Z σ H (b ρ k), fun ρ Z σ H k => g.ct ρ Z σ H (c ρ k), fun o v Z H A k => g.rt o v Z H A (r o k), fun o ρ v Z σ H k => g.rs o ρ v Z σ H (rs o ρ k), g.ex.imp r⟩
/-- x.append(e), x a slot with an own list -/
theorem m_append {x : Str} {p1 p2 p3 p4 : Pos} {os : List O} {o : O} (p : PE X (.Name x p1) (tVar i)) (hi : ρ[i]? = some (some (.lst os))) (he : ME X ρ e o) (hl : os.length < sizeLine) (k : G.nx (ρ.set i (some (.lst (os ++ [o])))))
    (q : ∀ t, PE X (.Call (.Attribute (.Name x p1) "append" p2) [e] [] p3) t → PS X (.Expr (.Call (.Attribute (.Name x p1) "append" p2) [e] [] p3) p4) (tDrop t) := by exact fun _ h => ps_expr h)
    (pm : PE X (.Call (.Attribute (.Name x p1) "append" p2) [e] [] p3) (tBM X.K "list" rAppend (tVar i) (tCons (wE X e) tNil)) := by exact pe_bm PySem.F.plainAttrs_list PySem.F.slot_list_append PySem.F.type_list_append mt_append (pv _) (pa_cons pe_w pa_nil)) : MS1 X ρ (.Expr (.Call (.Attribute (.Name x p1) "append" p2) [e] [] p3) p4) G := .mk fun Z0 F Z σ H D s g => by
  obtain ⟨v, A, e1, r1, nA, dA, k1⟩ := s.upd hi
  cases r1 with
  | @lst a vs _ A h0 r1 =>
    refine PS_w (q _ pm) ⟨_, e1, .inl ⟨rfl, _, SqL.of h0⟩, ?_⟩
    refine he.run Z0 F Z σ H s _ fun w Z1 H1 B g1 r2 n2 => ?_
    refine ⟨a, vs, w, rfl, rfl, g1.hh _ _ h0, by rw [r1.length]; exact hl, ?_⟩
    have za : Z1 a = none := by
      rw [g1.nw a _ h0]
      exact (dA a List.mem_cons_self).1
    obtain ⟨na, nA'⟩ := List.nodup_cons.mp nA
    have nB : ∀ b ∈ B, b ≠ a ∧ b ∉ A := fun b m => by
      refine ⟨fun q => ?_, fun q => ?_⟩
      · have z := (n2.2 b m).1
        rw [q, h0] at z
        cases z
      · obtain ⟨u, hu⟩ := r1.there b q
        rw [(n2.2 b m).1] at hu
        cases hu
    have r1' : RepOL X.K Z1 F (upd H1 a (.lst (vs ++ [w]))) vs os A := r1.mono g1.zz (Ex.refl _) fun b m u hu => by
      have ne : b ≠ a := fun q => na (by rw [← q]; exact m)
      rw [upd_ne ne]
      exact g1.hh b u hu
    have r2' : RepO X.K Z1 F (upd H1 a (.lst (vs ++ [w]))) w o B := r2.mono (Ex.refl _) (Ex.refl _) fun b m u hu => by
      rw [upd_ne (nB b m).1]
      exact hu
    refine g.nx _ Z1 σ _ k (k1 g1.zz g1.nw (g1.zh.mut za) (fun b nb u hu => ?_) (.lst upd_same (r1'.snoc r2')) ?_ fun b m => ?_)
    · have ne : b ≠ a := fun q => nb (by rw [q]; exact List.mem_cons_self)
      rw [upd_ne ne]
      exact g1.hh b u hu
    · refine List.nodup_cons.mpr ⟨fun m => ?_, List.nodup_append.mpr ⟨nA', n2.1, fun b hb c hc q => (nB c hc).2 (by rw [← q]; exact hb)⟩⟩
      rcases List.mem_append.mp m with m | m
      · exact na m
      · exact (nB a m).1 rfl
    · rcases List.mem_cons.mp m with m | m
      · exact .inl (by rw [m]; exact List.mem_cons_self)
      · rcases List.mem_append.mp m with m | m
        · exact .inl (List.mem_cons_of_mem _ m)
        · exact .inr (n2.2 b m)
end
end M
namespace M
open PySem L2 PySem.Spec PyProof.Rows

section
variable {K : PySem.W.Frag} {Z0 Z Z' F H H' : Hp} {ρ : Slots} {σ : L2.St} {G : Go} {D : Ends}
/-- from a later beginning -/
theorem StR.rebase {H1 : Hp} (s : StR K ρ Z0 F Z σ H) : StR K ρ Z F Z σ H := ⟨⟨Ex.refl _, s.gr.hh, s.gr.zh, fun _ _ _ => rfl⟩, s.st⟩
theorem Gr.base {Z1 H1 : Hp} (g0 : Gr Z0 F Z1 H1) (g : Gr Z1 F Z H) : Gr Z0 F Z H := ⟨g0.zz.trans g.zz, g.hh, g.zh, fun a u e => (g.nw a u e).trans (g0.nw a u e)⟩
theorem StR.unbase {Z1 H1 : Hp} (g0 : Gr Z0 F Z1 H1) (s : StR K ρ Z1 F Z σ H) : StR K ρ Z0 F Z σ H := ⟨g0.base s.gr, s.st⟩
theorem GX.rebase {X : Cx} {Z1 H1 : Hp} {r : O → Prop} (g0 : Gr Z0 F Z1 H1) (g : GX X Z0 F r) : GX X Z1 F r := by
  obtain ⟨W, t, k⟩ := g
  exact ⟨W, t, fun e ρ Z σ H q s => k e ρ Z σ H q (s.unbase g0)⟩
theorem GD.rebase {X : Cx} {Z1 H1 : Hp} (g0 : Gr Z0 F Z1 H1) (g : GD X Z0 F G D) : GD X Z1 F G D :=
  ⟨fun ρ Z σ H k s => g.nx ρ Z σ H k (s.unbase g0), fun ρ Z σ H k s => g.bk ρ Z σ H k (s.unbase g0), fun ρ Z σ H k s => g.ct ρ Z σ H k (s.unbase g0), fun o v Z H A k r => g.rt o v Z H A k (g0.base r), fun o ρ v Z σ H k s => g.rs o ρ v Z σ H k (s.unbase g0), g.ex.rebase g0⟩
end

/-- a list that stands still -/
structure MK (X : Cx) (ρ : Slots) (e : Expr) (ds : List D) : Prop where
  run : ∀ (Z0 F Z : Hp) (σ : L2.St) (H : Hp), StR X.K ρ Z0 F Z σ H → ∀ Q : VK,
  (∀ a vs Z' H', Gr Z H Z' H' → (SqL X.K Z' a vs ∨ SqL X.K F a vs) → RepL X.K Z' vs ds → Q (.ref a) H') → wE X e σ H Q
/-- what is walked: n items, from the heap Zs (frozen) and F on -/
structure Wk (K : PySem.W.Frag) (Zs F : Hp) (J : It) (ds : List D) : Prop where
  go : ∀ (i : Nat) (d : D) (Z H : Hp), ds[i]? = some d → Ex Zs Z → Ex F H → Ex Z H → J.go i H ∧ ∀ x H', J.yld i H x H' → ∃ Z', Gr Z H Z' H' ∧ Rep K Z' x d
  stop : ∀ (Z H : Hp), Ex Zs Z → Ex F H → Ex Z H → J.stop ds.length H
structure MI (X : Cx) (ρ : Slots) (wi : TI) (ds : List D) : Prop where
  run : ∀ (Z0 F Z : Hp) (σ : L2.St) (H : Hp), StR X.K ρ Z0 F Z σ H → ∀ R : It → Hp → Prop,
  (∀ J Z' H', Gr Z H Z' H' → Wk X.K Z' F J ds → R J H') → wi σ H R
/-- a target: d is stored; the slots at ws change alone -/
structure MTg (g : TG) (K : PySem.W.Frag) (ρ : Slots) (d : D) (ρ' : Slots) (ws : List Nat) : Prop where
  run : ∀ (Z0 F Z : Hp) (σ : L2.St) (H : Hp) (v : V), StR K ρ Z0 F Z σ H → Rep K Z v d → ∀ Q : L2.St → Hp → Prop,
  (∀ σ', StR K ρ' Z0 F Z σ' H → (∀ vs : List Nat, (∀ w ∈ ws, w ∈ vs) → wipe σ' vs = wipe σ vs) → Q σ' H) → g v σ H Q
structure MTgs (g : TGs) (K : PySem.W.Frag) (ρ : Slots) (ds : List D) (ρ' : Slots) (ws : List Nat) : Prop where
  run : ∀ (Z0 F Z : Hp) (σ : L2.St) (H : Hp) (vs : List V), StR K ρ Z0 F Z σ H → RepL K Z vs ds → ∀ Q : L2.St → Hp → Prop,
  (∀ σ', StR K ρ' Z0 F Z σ' H → (∀ vs : List Nat, (∀ w ∈ ws, w ∈ vs) → wipe σ' vs = wipe σ vs) → Q σ' H) → g vs σ H Q
theorem wipe_get (σ : L2.St) : ∀ (vs : List Nat) (j : Nat), (wipe σ vs)[j]? = if j ∈ vs then (if j < σ.length then some none else none) else σ[j]?
  | [], j => by simp [wipe]
  | v :: vs, j => by
    unfold wipe
    rw [List.getElem?_set, wipe_length, wipe_get σ vs j]
    by_cases h : v = j
    · subst h
      by_cases hl : v < σ.length
      · simp [hl]
      · simp [hl]
    · have h2 : ¬ j = v := fun q => h q.symm
      simp [h, h2]
theorem wipe_set {σ : L2.St} {vs : List Nat} {i : Nat} {x : Option V} (h : i ∈ vs) : wipe (σ.set i x) vs = wipe σ vs := by
  apply List.ext_getElem?
  intro j
  rw [wipe_get, wipe_get, List.length_set]
  by_cases hj : j ∈ vs
  · rw [if_pos hj, if_pos hj]
  · rw [if_neg hj, if_neg hj]
    exact List.getElem?_set_ne (fun q => hj (by rw [← q]; exact h))
theorem wipe_wipe {σ : L2.St} {vs : List Nat} : wipe (wipe σ vs) vs = wipe σ vs := by
  apply List.ext_getElem?
  intro j
  rw [wipe_get, wipe_length, wipe_get]
  by_cases hj : j ∈ vs
  · rw [if_pos hj, if_pos hj]
  · rw [if_neg hj, if_neg hj]
section
variable {K : PySem.W.Frag} {ρ ρ' ρ2 : Slots} {d : D} {ds : List D} {i : Nat} {ws ws2 : List Nat}
theorem mg_name (hi : i < ρ.length := by exact Nat.le_of_ble_eq_true rfl) : MTg (gName i) K ρ d (ρ.set i (some (.fz d))) [i] := .mk fun Z0 F Z σ H v s r Q q =>
  q _ (s.put (Gr.refl s.ex) (.fz r) .nil hi) fun vs h => wipe_set (h i List.mem_cons_self)
theorem mgs_nil : MTgs gNil K ρ [] ρ [] := .mk fun Z0 F Z σ H vs s r Q q => by
  cases r
  exact ⟨rfl, q σ s fun _ _ => rfl⟩
theorem mgs_cons {t : TG} {u : TGs} (h1 : MTg t K ρ d ρ' ws) (h2 : MTgs u K ρ' ds ρ2 ws2) : MTgs (gCons t u) K ρ (d :: ds) ρ2 (ws ++ ws2) := .mk fun Z0 F Z σ H vs s r Q q => by
  cases r with
  | cons a b =>
    exact ⟨_, _, rfl, h1.run Z0 F Z σ H _ s a _ fun σ1 s1 w1 => h2.run Z0 F Z σ1 H _ s1 b _ fun σ2 s2 w2 => q σ2 s2 fun vs h =>
      (w2 vs fun w m => h w (List.mem_append_right _ m)).trans (w1 vs fun w m => h w (List.mem_append_left _ m))⟩
theorem mg_tup {n : Nat} {u : TGs} (h : MTgs u K ρ ds ρ' ws) (hn : ds.length = n) : MTg (gTup K n u) K ρ (.tup ds) ρ' ws := .mk fun Z0 F Z σ H v s r Q q => by
  cases r with
  | tup a b => exact ⟨_, _, rfl, ex_t s.ex a, by rw [b.length, hn], h.run Z0 F Z σ H _ s b Q q⟩
end

section
variable {X : Cx} {ρ : Slots} {e : Expr} {es : List Expr} {st : Stmt} {sts : List Stmt} {G : Go} {o : O} {d : D} {ds : List D} {pos : Pos} {i : Nat}
theorem ME.k (h : ME X ρ e (.fz (.lst ds))) : MK X ρ e ds := .mk fun Z0 F Z σ H s Q q => h.run Z0 F Z σ H s Q fun v Z' H' A g r n => by
  cases r with
  | fz r =>
    cases r with
    | lst a b => exact q _ _ Z' H' g (.inl a) b
theorem MV.k (h : MV X ρ e (.vw ds)) : MK X ρ e ds := .mk fun Z0 F Z σ H s Q q => h.run Z0 F Z σ H s Q fun v Z' H' A g r => by
  cases r with
  | vw a b => exact q _ _ Z' H' g (.inr a) b
theorem MV.ka {a : Addr} (h : MV X ρ e (.vwa a ds)) : MK X ρ e ds := .mk fun Z0 F Z σ H s Q q => h.run Z0 F Z σ H s Q fun v Z' H' A g r => by
  cases r with
  | vwa a b => exact q _ _ Z' H' g (.inr a) b
theorem MK.l (h : MK X ρ e ds) : ML X ρ e ds := .mk fun Z0 F Z σ H s Q q => h.run Z0 F Z σ H s Q fun a vs Z' H' g l r => q a vs Z' H' g (l.elim (ex_l g.zh) (ex_l (s.gr.hh.trans g.hh))) r
theorem mi_list (h : MK X ρ e ds) : MI X ρ (iList X.K (wE X e)) ds := .mk fun Z0 F Z σ H s R q => h.run Z0 F Z σ H s _ fun a vs Z' H' g l r => by
  have lv : ∀ {Z2 H2 : Hp}, Ex Z' Z2 → Ex F H2 → Ex Z2 H2 → SqL X.K H2 a vs := fun e f z => l.elim (fun l => ex_l (e.trans z) l) fun l => ex_l f l
  refine ⟨a, rfl, ⟨vs, lv (Ex.refl _) (s.gr.hh.trans g.hh) g.zh⟩, q _ Z' H' g ⟨fun j d Z2 H2 hd ez ef zh => ?_, fun Z2 H2 ez ef zh => ⟨vs, lv ez ef zh, Nat.le_of_eq r.length⟩⟩⟩
  obtain ⟨x, hx, rx⟩ := r.get hd
  refine ⟨⟨vs, x, lv ez ef zh, hx⟩, fun y H3 hy => ?_⟩
  obtain ⟨e3, hy⟩ := hy
  subst e3
  have e4 := hy vs (lv ez ef zh)
  rw [hx] at e4
  cases e4
  exact ⟨Z2, Gr.refl zh, rx.mono ez⟩
/-- one argument, a list that stands still -/
theorem mk_arg (h : MK X ρ e ds) (n1 : NS X e) {Z0 F Z : Hp} {σ : L2.St} {H : Hp} (s : StR X.K ρ Z0 F Z σ H) {Q : List V → Hp → Prop}
    (q : ∀ a vs Z' H', Gr Z H Z' H' → (SqL X.K Z' a vs ∨ SqL X.K F a vs) → RepL X.K Z' vs ds → Q [.ref a] H') : wA X [e] σ H Q :=
  PA_w (pa_cons pe_w pa_nil (n1 _)) (h.run Z0 F Z σ H s _ fun a vs Z' H' g l r => q a vs Z' H' g l r)
theorem mi_rev (h : MK X ρ e ds) (n1 : NS X e := by exact fun _ => rfl) : MI X ρ (iRev X.K (wA X [e])) ds.reverse := .mk fun Z0 F Z σ H s R q => mk_arg h n1 s fun a vs Z' H' g l r => by
  have lv : ∀ {Z2 H2 : Hp}, Ex Z' Z2 → Ex F H2 → Ex Z2 H2 → SqL X.K H2 a vs := fun e f z => l.elim (fun l => ex_l (e.trans z) l) fun l => ex_l f l
  refine ⟨a, vs, rfl, lv (Ex.refl _) (s.gr.hh.trans g.hh) g.zh, q _ Z' H' g ⟨fun j d Z2 H2 hd ez ef zh => ?_, fun Z2 H2 ez ef zh => ?_⟩⟩
  · have hj : j < ds.length := by
      have := (List.getElem?_eq_some_iff.mp hd).1
      simpa using this
    rw [List.getElem?_reverse hj] at hd
    obtain ⟨x, hx, rx⟩ := r.get hd
    rw [← r.length] at hx hj
    refine ⟨⟨hj, vs, x, lv ez ef zh, hx⟩, fun y H3 hy => ?_⟩
    obtain ⟨e3, hy⟩ := hy
    subst e3
    have e4 := hy vs (lv ez ef zh)
    rw [hx] at e4
    cases e4
    exact ⟨Z2, Gr.refl zh, rx.mono ez⟩
  · show vs.length ≤ ds.reverse.length
    rw [List.length_reverse, r.length]
    exact Nat.le_refl _
/-- enumerate -/
def enm (ds : List D) : List D := ds.zipIdx.map fun p => .tup [.int (p.2 : Nat), p.1]
theorem mi_enum (h : MK X ρ e ds) (n1 : NS X e := by exact fun _ => rfl) : MI X ρ (iEnum X.K (wA X [e])) (enm ds) := .mk fun Z0 F Z σ H s R q => mk_arg h n1 s fun a vs Z' H' g l r => by
  have lv : ∀ {Z2 H2 : Hp}, Ex Z' Z2 → Ex F H2 → Ex Z2 H2 → SqL X.K H2 a vs := fun e f z => l.elim (fun l => ex_l (e.trans z) l) fun l => ex_l f l
  refine ⟨a, vs, rfl, lv (Ex.refl _) (s.gr.hh.trans g.hh) g.zh, q _ Z' H' g ⟨fun j d Z2 H2 hd ez ef zh => ?_, fun Z2 H2 ez ef zh => ?_⟩⟩
  · unfold enm at hd
    rw [List.getElem?_map, List.getElem?_zipIdx] at hd
    cases e : ds[j]? with
    | none =>
      rw [e] at hd
      cases hd
    | some d1 =>
      rw [e] at hd
      have hd2 : D.tup [.int ((0 + j : Nat)), d1] = d := Option.some.inj hd
      subst hd2
      obtain ⟨x, hx, rx⟩ := r.get e
      refine ⟨⟨vs, x, lv ez ef zh, hx⟩, fun y H3 hy => ?_⟩
      obtain ⟨T, x2, ey, hT, e3, hy⟩ := hy
      subst e3 ey
      have e4 := hy vs (lv ez ef zh)
      rw [hx] at e4
      cases e4
      refine ⟨_, Gr.newz zh hT, .tup (.of upd_same) (.cons ?_ (.cons ((rx.mono ez).mono (Ex.new (zh.free hT))) .nil))⟩
      rw [Nat.zero_add]
      exact .int _
  · refine ⟨vs, lv ez ef zh, ?_⟩
    unfold enm
    rw [List.length_map, List.length_zipIdx, r.length]
    exact Nat.le_refl _
/-- a text, sign by sign -/
def sgn (x : Str) : List D := x.cps.toList.map fun c => .str ⟨#[c]⟩
theorem mi_str {x : Str} (h : ME X ρ e (.fz (.str x))) : MI X ρ (iStr (wE X e)) (sgn x) := .mk fun Z0 F Z σ H s R q => h.run Z0 F Z σ H s _ fun v Z' H' A g r n => by
  cases r with
  | fz r =>
    cases r
    refine ⟨x, rfl, q _ Z' H' g ⟨fun j d Z2 H2 hd ez ef zh => ?_, fun Z2 H2 ez ef zh => ?_⟩⟩
    · unfold sgn at hd
      rw [List.getElem?_map] at hd
      cases e : x.cps.toList[j]? with
      | none =>
        rw [e] at hd
        cases hd
      | some c =>
        rw [e] at hd
        have hd2 : D.str ⟨#[c]⟩ = d := Option.some.inj hd
        subst hd2
        have e' : x.cps[j]? = some c := by simpa using e
        refine ⟨(Array.getElem?_eq_some_iff.mp e').1, fun y H3 hy => ?_⟩
        obtain ⟨e3, c2, h1, h2⟩ := hy
        subst e3 h2
        rw [e'] at h1
        cases h1
        exact ⟨Z2, Gr.refl zh, .str _⟩
    · show x.cps.size ≤ (sgn x).length
      unfold sgn
      simp
def rng (lo : Int) (n : Nat) : List D := (List.range n).map fun k => .int (lo + (k : Nat))
theorem rng_len (lo : Int) (n : Nat) : (rng lo n).length = n := by simp [rng]
theorem rng_get {lo : Int} {n i : Nat} {d : D} (h : (rng lo n)[i]? = some d) : i < n ∧ d = .int (lo + (i : Nat)) := by
  unfold rng at h
  rw [List.getElem?_map] at h
  by_cases hi : i < n
  · rw [List.getElem?_range hi] at h
    exact ⟨hi, (Option.some.inj h).symm⟩
  · rw [List.getElem?_eq_none (by simpa using hi)] at h
    cases h
theorem wk_rng {K : PySem.W.Frag} {Zs F : Hp} (lo : Int) (n : Nat) : Wk K Zs F (Itr lo n) (rng lo n) := ⟨fun i d Z H h _ _ zh => by
    obtain ⟨hi, e⟩ := rng_get h
    subst e
    refine ⟨hi, fun x H' hy => ?_⟩
    obtain ⟨e, ex⟩ := hy
    subst e ex
    exact ⟨Z, Gr.refl zh, .int _⟩, fun Z H _ _ _ => Nat.le_of_eq (rng_len lo n).symm⟩
theorem mi_range1 {j : Int} (h : MF X ρ es [.int j]) (h1 : -(2 ^ 62) ≤ j) (h2 : j < 2 ^ 62) : MI X ρ (iRng1 (wA X es)) (rng 0 j.toNat) := .mk fun Z0 F Z σ H s R q => h.run Z0 F Z σ H s _ fun vs Z' H' g r => by
  cases r with
  | cons a r =>
    cases a
    cases r
    exact ⟨j, rfl, h1, h2, q _ Z' H' g (wk_rng 0 _)⟩
theorem mi_range2 {k j : Int} (h : MF X ρ es [.int k, .int j]) (hb : -(2 ^ 62) ≤ k ∧ k < 2 ^ 62 ∧ -(2 ^ 62) ≤ j ∧ j < 2 ^ 62) : MI X ρ (iRng2 (wA X es)) (rng k (j - k).toNat) := .mk fun Z0 F Z σ H s R q => h.run Z0 F Z σ H s _ fun vs Z' H' g r => by
  cases r with
  | cons a r =>
    cases a
    cases r with
    | cons b r =>
      cases b
      cases r
      exact ⟨k, j, rfl, hb, q _ Z' H' g (wk_rng k _)⟩

/-- for: I i holds ahead of turn i -/
theorem m_for {wi : TI} {g : TG} {body : List Stmt} (p : PS X st (tFor wi g (wS X body))) (h : MI X ρ wi ds) (I : Nat → Slots → Prop) (h0 : I 0 ρ)
    (hs : ∀ (j : Nat) (d : D) (τ : Slots), ds[j]? = some d → I j τ → ∃ τ' ws, MTg g X.K τ d τ' ws ∧ MS X τ' body { nx := I (j + 1), ct := I (j + 1), bk := G.nx, rt := G.rt, rs := G.rs })
    (hd : ∀ τ, I ds.length τ → G.nx τ) : MS1 X ρ st G := .mk fun Z0 F Z σ H D s gd => by
  refine PS_w p (h.run Z0 F Z σ H s _ fun J Z1 H1 g1 wk => ?_)
  have s1 := s.grow g1
  have g0 : Gr Z0 F Z1 H1 := s1.gr
  refine ⟨fun j m σ H => m = ds.length - j ∧ j ≤ ds.length ∧ ∃ τ Z2, I j τ ∧ StR X.K τ Z1 F Z2 σ H, ⟨ds.length, by simp, Nat.zero_le _, ρ, Z1, h0, ⟨⟨Ex.refl _, g0.hh, g0.zh, fun _ _ _ => rfl⟩, s1.st⟩⟩, ?_⟩
  rintro j m σ2 H2 ⟨rfl, hj, τ, Z2, hI, s2⟩
  by_cases hlt : j < ds.length
  · obtain ⟨d, ed⟩ : ∃ d, ds[j]? = some d := ⟨ds[j], by simp [hlt]⟩
    obtain ⟨w1, w2⟩ := wk.go j d Z2 H2 ed s2.gr.zz s2.gr.hh s2.gr.zh
    refine .inr ⟨w1, fun σ' H' => ∃ τ Z2, I (j + 1) τ ∧ StR X.K τ Z1 F Z2 σ' H', fun σ' H' q => ⟨ds.length - (j + 1), by omega, rfl, hlt, q⟩, fun x H3 hy => ?_⟩
    obtain ⟨Z3, g3, r3⟩ := w2 x H3 hy
    have s3 := s2.grow g3
    obtain ⟨τ', ws, t1, t2⟩ := hs j d τ ed hI
    refine t1.run Z1 F Z3 σ2 H3 x s3 r3 _ fun σ4 s4 _ => ?_
    exact t2.run Z1 F Z3 σ4 H3 _ s4 ⟨fun τ Z σ H k s => ⟨τ, Z, k, s⟩, fun τ Z σ H k s => gd.nx τ Z σ H k (s.unbase g0), fun τ Z σ H k s => ⟨τ, Z, k, s⟩, fun o v Z H A k gr r n => gd.rt o v Z H A k (g0.base gr) r n, fun o ρ v Z σ H k s => gd.rs o ρ v Z σ H k (s.unbase g0), gd.ex.rebase g0⟩
  · have e : j = ds.length := by omega
    subst e
    exact .inl ⟨wk.stop Z2 H2 s2.gr.zz s2.gr.hh s2.gr.zh, gd.nx τ Z2 σ2 H2 (hd τ hI) (s2.unbase g0)⟩
/-- while -/
theorem m_while {c : Expr} {body : List Stmt} (p : PS X st (tWhile (wT X c) (wS X body))) (I : Nat → Slots → Prop) (h0 : ∃ m, I m ρ)
    (hs : ∀ (m : Nat) (τ : Slots), I m τ → ∃ b, MT X τ c b ∧ (b = true → MS X τ body { nx := fun τ' => ∃ m', m' < m ∧ I m' τ', ct := fun τ' => ∃ m', m' < m ∧ I m' τ', bk := G.nx, rt := G.rt, rs := G.rs }) ∧ (b = false → G.nx τ)) : MS1 X ρ st G := .mk fun Z0 F Z σ H D s gd => by
  refine PS_w p ?_
  obtain ⟨m0, h0⟩ := h0
  refine ⟨fun m σ H => ∃ τ Z2, I m τ ∧ StR X.K τ Z0 F Z2 σ H, ⟨m0, ρ, Z, h0, s⟩, ?_⟩
  rintro m σ2 H2 ⟨τ, Z2, hI, s2⟩
  obtain ⟨b, t1, t2, t3⟩ := hs m τ hI
  refine t1.run Z0 F Z2 σ2 H2 s2 _ fun Z3 H3 g3 => ?_
  have s3 := s2.grow g3
  cases b with
  | true =>
    rw [if_pos rfl]
    refine ⟨fun σ' H' => ∃ m', m' < m ∧ ∃ τ Z2, I m' τ ∧ StR X.K τ Z0 F Z2 σ' H', fun σ' H' q => q, ?_⟩
    exact (t2 rfl).run Z0 F Z3 σ2 H3 _ s3 ⟨fun τ Z σ H ⟨m', hm, k⟩ s => ⟨m', hm, τ, Z, k, s⟩, fun τ Z σ H k s => gd.nx τ Z σ H k s, fun τ Z σ H ⟨m', hm, k⟩ s => ⟨m', hm, τ, Z, k, s⟩, gd.rt, gd.rs, gd.ex⟩
  | false =>
    rw [if_neg Bool.false_ne_true]
    exact gd.nx τ Z3 σ2 H3 (t3 rfl) s3
/-- a, b = e, e a frozen tuple -/
theorem m_tgt {g : TG} {ρ' : Slots} {ws : List Nat} (p : PS X st (tAsg (wE X e) g)) (h : ME X ρ e (.fz d)) (t : MTg g X.K ρ d ρ' ws) (k : G.nx ρ') : MS1 X ρ st G := .mk fun Z0 F Z σ H D s gd =>
  PS_w p (h.run Z0 F Z σ H s _ fun v Z1 H1 A g1 r n => by
    cases r with
    | fz r => exact t.run Z0 F Z1 σ H1 v (s.grow g1) r _ fun σ2 s2 _ => gd.nx ρ' Z1 σ2 H1 k s2)
/-- x += e, whole numbers -/
theorem m_aug {a j : Int} {op : Operator} {f : Int → Int → Int} (p : PS X st (tAug i (wE X e) (ipI f))) (hi : ρ[i]? = some (some (.fz (.int a)))) (h : ME X ρ e (.fz (.int j))) (k : G.nx (ρ.set i (some (.fz (.int (f a j)))))) : MS1 X ρ st G := .mk fun Z0 F Z σ H D s gd => by
  obtain ⟨A, h1, h2, h3⟩ := s.st
  obtain ⟨v, B, e1, r1, _⟩ := h1.get hi
  cases r1 with
  | fz r1 =>
    cases r1
    refine PS_w p ⟨_, e1, h.run Z0 F Z σ H s _ fun w Z1 H1 A g1 r n => ?_⟩
    cases r with
    | fz r =>
      cases r
      have hl : i < ρ.length := (List.getElem?_eq_some_iff.mp hi).1
      exact ⟨a, j, rfl, rfl, gd.nx _ Z1 _ H1 k (s.put g1 (.fz (.int _)) .nil hl)⟩

/-! ### calls of own defs -/
/-- the promise of a def: the arguments (frozen things, lists that stay as they are), what is handed back -/
def SpM {α : Type} (K : PySem.W.Frag) (ar : α → List O) (pre : α → Prop) (res : α → O) : Sp := fun vs H Q _ => ∃ (x : α) (Z : Hp), Ex Z H ∧ RepOL K Z H H vs (ar x) [] ∧ pre x ∧
  ∀ v Z' H' A, Gr Z H Z' H' → RepO K Z' (fun _ => none) H' v (res x) A → New H Z' A → Q v H'
theorem me_call {α : Type} {ar : α → List O} {pre : α → Prop} {res : α → O} {E : XK} (p : PE X e (tCall (SpM X.K ar pre res) [] E (wA X es))) (x : α) (ha : MA X ρ es (ar x)) (hp : pre x) : ME X ρ e (res x) := .mk fun Z0 F Z σ H s Q q =>
  PE_w p (ha.run Z0 F Z σ H s _ fun vs Z1 H1 g1 r1 => ⟨x, Z1, g1.zh, by rw [List.append_nil]; exact r1, hp, fun v Z2 H2 A g2 r2 n2 =>
    q v Z2 H2 A (g1.trans g2) (r2.mono (Ex.refl _) (fun _ _ z => by cases z) fun _ _ _ z => z) ⟨n2.1, fun a m => ⟨g1.hh.free (n2.2 a m).1, (n2.2 a m).2⟩⟩⟩)
mutual
theorem RepO.unF {K : PySem.W.Frag} {Z F F' H : Hp} : ∀ {v : V} {o : O} {A : List Addr}, RepO K Z F H v o A → o.nv = true → RepO K Z F' H v o A
  | _, _, _, .fz h, _ => .fz h
  | _, _, _, .vw _ _, n => nomatch n
  | _, _, _, .vwa _ _, n => nomatch n
  | _, _, _, .lst h r, n => .lst h (RepOL.unF r n)
  | _, _, _, .tup h r, n => .tup h (RepOL.unF r n)
  | _, _, _, .ins h r, n => .ins h (RepOL.unF r n)
  | _, _, _, .at h r, n => .at h (RepOL.unF r n)
  | _, _, _, .loc h, n => .loc (RepO.unF h n)
  | _, _, _, .pt, _ => .pt
  | _, _, _, .dct h r, n => .dct h (RepOL.unF r n)
  | _, _, _, .dctT h r, n => .dctT h (RepOL.unF r n)
theorem RepOL.unF {K : PySem.W.Frag} {Z F F' H : Hp} : ∀ {vs : List V} {os : List O} {A : List Addr}, RepOL K Z F H vs os A → O.nvL os = true → RepOL K Z F' H vs os A
  | _, _, _, .nil, _ => .nil
  | _, _, _, .cons h r, n => .cons (RepO.unF h (Bool.and_eq_true_iff.mp n).1) (RepOL.unF r (Bool.and_eq_true_iff.mp n).2)
end
theorem stL_args {K : PySem.W.Frag} {Z F H : Hp} : ∀ {vs : List V} {os : List O} {A : List Addr}, RepOL K Z F H vs os A → StL K Z F H (os.map some) (vs.map some) A
  | _, _, _, .nil => .nil
  | _, _, _, .cons h r => .so h (stL_args r)
theorem stL_more {K : PySem.W.Frag} {Z F H : Hp} (n : Nat) : ∀ {ρ : Slots} {σ : L2.St} {A : List Addr}, StL K Z F H ρ σ A → StL K Z F H (ρ ++ List.replicate n none) (σ ++ List.replicate n none) A
  | _, _, _, .nil => by
    rw [List.nil_append, List.nil_append]
    induction n with
    | zero => exact .nil
    | succ n ih => exact .no ih
  | _, _, _, .no h => .no (stL_more n h)
  | _, _, _, .so r h => .so r (stL_more n h)
/-- a def's body keeps its promise -/
theorem fn_m {α : Type} {P : Program} {w : World} {K : PySem.W.Frag} {mg : Str → Option Value} {base : Heap} {x qual : Str} {st : Stmt} {f : Addr} {fd : FuncData} {N ps : List Str} {k : Nat} {ar : α → List O} {pre : α → Prop} {res : α → O}
    (F : Fun K x qual st f fd) (S : FnScope N ps (defScope st)) (hl : ∀ x, (ar x).length = ps.length) (hn : ∀ x, pre x → (res x).nv = true)
    (hb : ∀ (cdv : Value) (A : Around) (outer : List Env) (s : Shared) (H : Hp) (E : XK), Room k (A.deeper (envOfC qual (defScope st) s.heap.objs.size f cdv)) → ∀ x, pre x →
      MS (cxOf CX0 P w K mg base N qual (defScope st) f cdv A outer s H E).nox ((ar x).map some ++ List.replicate (N.length - ps.length) none) (defBody st) { nx := fun _ => res x = .fz .non, rt := fun o => o = res x }) :
    FnOk P w K mg base CX0 (k + 1) f fd ps (SpM K ar pre res) := by
  refine F.ok S (fun vs H Q E h => ?_) (fun cdv A outer s H vs Q E hr h => ?_)
  · obtain ⟨x, Z, _, r, _⟩ := h
    rw [r.length, hl]
  · obtain ⟨x, Z, ez, r, hp, q⟩ := h
    refine ⟨_, pss_w, (hb cdv A outer s H E hr x hp).run Z H Z _ H _ ⟨Gr.refl ez, [], ?_, List.nodup_nil, fun _ m => nomatch m⟩ ⟨fun ρ Z' σ H' e s' => ?_, fun _ _ _ _ z => z.elim, fun _ _ _ _ z => z.elim, fun o v Z' H' A e g r n => ?_, fun _ _ _ _ _ _ z => z.elim, GX.never fun e z => by
      have n := hn x hp
      rw [← show O.rs e = res x from z] at n
      cases n⟩⟩
    · have e : L2.start N vs = vs.map some ++ List.replicate (N.length - ps.length) none := by
        unfold L2.start
        rw [r.length, hl]
      rw [e]
      exact stL_more _ (stL_args r)
    · refine q _ Z' H' [] s'.gr ?_ .nil
      rw [e]
      exact .fz .non
    · subst e
      exact q _ Z' H' A g (r.unF (hn x hp)) n
end
end M
namespace M
open PySem L2 PySem.Spec PyProof.Rows

/-! ### == of data -/
mutual
def D.py : D → PyData
  | .bl b => .bool b
  | .int i => .int i
  | .str x => .str x
  | .tup ds => .tuple (D.pyL ds)
  | .lst ds => .list (D.pyL ds)
  | _ => .none
def D.pyL : List D → List PyData
  | [] => []
  | d :: r => d.py :: D.pyL r
end
mutual
def D.pl : D → Bool
  | .non => true
  | .bl _ => true
  | .int _ => true
  | .str _ => true
  | .tup ds => D.plL ds
  | .lst ds => D.plL ds
  | _ => false
def D.plL : List D → Bool
  | [] => true
  | d :: r => d.pl && D.plL r
end
section
variable {K : PySem.W.Frag} {Z F H : Hp}
mutual
theorem Rep.dp (e : Ex Z H) : ∀ {v : V} {d : D}, Rep K Z v d → d.pl = true → Dp K H v d.py
  | _, _, .non, _ => .non
  | _, _, .bl b, _ => .bl b
  | _, _, .int i, _ => .int i
  | _, _, .str x, _ => .str x
  | _, _, .ty _, h => nomatch h
  | _, _, .opq _, h => nomatch h
  | _, _, .tup a r, h => .tup (ex_t e a) (RepL.dp e r h)
  | _, _, .lst a r, h => .lst (ex_l e a) (RepL.dp e r h)
  | _, _, .ins _ _, h => nomatch h
  | _, _, .dct _ _, h => nomatch h
  | _, _, .dctT _ _, h => nomatch h
theorem RepL.dp (e : Ex Z H) : ∀ {vs : List V} {ds : List D}, RepL K Z vs ds → D.plL ds = true → DpAll K H vs (D.pyL ds)
  | _, _, .nil, _ => .nil
  | _, _, .cons a r, h => .cons (Rep.dp e a (Bool.and_eq_true_iff.mp h).1) (RepL.dp e r (Bool.and_eq_true_iff.mp h).2)
end
mutual
theorem RepO.dp (e : Ex Z H) (f : Ex F H) : ∀ {v : V} {o : O} {A : List Addr}, RepO K Z F H v o A → o.frz.pl = true → Dp K H v o.frz.py
  | _, _, _, .fz r, h => r.dp e h
  | _, _, _, .vw a r, h => .lst (ex_l f a) (r.dp e h)
  | _, _, _, .vwa a r, h => .lst (ex_l f a) (r.dp e h)
  | _, _, _, .lst a r, h => .lst (.of a) (RepOL.dp e f r h)
  | _, _, _, .tup a r, h => .tup (.of a) (RepOL.dp e f r h)
  | _, .loc _ o, _, .loc r, h => RepO.dp (o := o) e f r h
  | _, _, _, .pt, h => nomatch h
  | _, _, _, .ins _ _, h => nomatch h
  | _, _, _, .dct _ _, h => nomatch h
  | _, _, _, .dctT _ _, h => nomatch h
theorem RepOL.dp (e : Ex Z H) (f : Ex F H) : ∀ {vs : List V} {os : List O} {A : List Addr}, RepOL K Z F H vs os A → D.plL (O.frzL os) = true → DpAll K H vs (D.pyL (O.frzL os))
  | _, _, _, .nil, _ => .nil
  | _, _, _, .cons a r, h => .cons (RepO.dp e f a (Bool.and_eq_true_iff.mp h).1) (RepOL.dp e f r (Bool.and_eq_true_iff.mp h).2)
end
end
/-- data that can be compared -/
def D.ok (d : D) : Prop := d.pl = true ∧ SeqAt.shaped d.py = true
def D.eqv (d e : D) : Bool := PyData.eqv d.py e.py
section
variable {X : Cx} {ρ : Slots} {e a b elt : Expr} {es : List Expr} {st : Stmt} {sts : List Stmt} {G : Go} {o o1 o2 : O} {d : D} {ds : List D} {pos : Pos} {i : Nat}
theorem me_rD {r : R2} {t : TE} {k : Bool} (p : PE X e (tOp r (wE X a) (wE X b))) (ha : MV X ρ a o1) (hb : MV X ρ b o2) (h1 : o1.frz.pl = true) (h2 : o2.frz.pl = true)
    (h : ∀ x y H (Q : VK), Dp X.K H x o1.frz.py → Dp X.K H y o2.frz.py → Q (.bl k) H → r x y H Q) : ME X ρ e (.fz (.bl k)) := .mk fun Z0 F Z σ H s Q q => by
  refine PE_w p (ha.run Z0 F Z σ H s _ fun v Z1 H1 A1 g1 r1 => ?_)
  refine hb.run Z0 F Z1 σ H1 (s.grow g1) _ fun w Z2 H2 A2 g2 r2 => ?_
  have g := g1.trans g2
  exact h v w H2 Q ((r1.ex g2.zz g2.hh).dp g2.zh (s.gr.hh.trans g.hh) h1) (r2.dp g2.zh (s.gr.hh.trans g.hh) h2) (q _ Z2 H2 [] g (.fz (.bl k)) .nil)
theorem me_eqD (hu : X.A.units + 64 < cLine) (ha : MV X ρ a o1) (hb : MV X ρ b o2) (h1 : o1.frz.ok) (h2 : o2.frz.ok) : ME X ρ (.Compare a [.Eq] [b] pos) (.fz (.bl (o1.frz.eqv o2.frz))) :=
  me_rD (t := tOp (rEqD X.K) (wE X a) (wE X b)) (pe_cmpR (op_eqD hu) pe_w pe_w (nomark _)) ha hb h1.1 h2.1 fun x y H Q p1 p2 q => ⟨_, _, p1, p2, h1.2, h2.2, q⟩
theorem me_neD (hu : X.A.units + 64 < cLine) (ha : MV X ρ a o1) (hb : MV X ρ b o2) (h1 : o1.frz.ok) (h2 : o2.frz.ok) : ME X ρ (.Compare a [.NotEq] [b] pos) (.fz (.bl (!o1.frz.eqv o2.frz))) :=
  me_rD (t := tOp (rNeD X.K) (wE X a) (wE X b)) (pe_cmpR (op_neD hu) pe_w pe_w (nomark _)) ha hb h1.1 h2.1 fun x y H Q p1 p2 q => ⟨_, _, p1, p2, h1.2, h2.2, q⟩
theorem mt_rD {r : R2} {k : Bool} (p : PT X e (tTest (tOp r (wE X a) (wE X b)))) (ha : MV X ρ a o1) (hb : MV X ρ b o2) (h1 : o1.frz.pl = true) (h2 : o2.frz.pl = true)
    (h : ∀ x y H (Q : VK), Dp X.K H x o1.frz.py → Dp X.K H y o2.frz.py → Q (.bl k) H → r x y H Q) : MT X ρ e k := .mk fun Z0 F Z σ H s Q q => by
  refine PT_w p (ha.run Z0 F Z σ H s _ fun v Z1 H1 A1 g1 r1 => ?_)
  refine hb.run Z0 F Z1 σ H1 (s.grow g1) _ fun w Z2 H2 A2 g2 r2 => ?_
  have g := g1.trans g2
  exact h v w H2 _ ((r1.ex g2.zz g2.hh).dp g2.zh (s.gr.hh.trans g.hh) h1) (r2.dp g2.zh (s.gr.hh.trans g.hh) h2) ⟨k, rfl, q Z2 H2 g⟩
theorem mt_eqD (hu : X.A.units + 64 < cLine) (ha : MV X ρ a o1) (hb : MV X ρ b o2) (h1 : o1.frz.ok) (h2 : o2.frz.ok) : MT X ρ (.Compare a [.Eq] [b] pos) (o1.frz.eqv o2.frz) :=
  mt_rD (pt_cmpR (op_eqD hu) pe_w pe_w (nomark _)) ha hb h1.1 h2.1 fun x y H Q p1 p2 q => ⟨_, _, p1, p2, h1.2, h2.2, q⟩
theorem mt_neD (hu : X.A.units + 64 < cLine) (ha : MV X ρ a o1) (hb : MV X ρ b o2) (h1 : o1.frz.ok) (h2 : o2.frz.ok) : MT X ρ (.Compare a [.NotEq] [b] pos) (!o1.frz.eqv o2.frz) :=
  mt_rD (pt_cmpR (op_neD hu) pe_w pe_w (nomark _)) ha hb h1.1 h2.1 fun x y H Q p1 p2 q => ⟨_, _, p1, p2, h1.2, h2.2, q⟩

/-! ### comprehensions -/
/-- what is walked while nothing that stands changes -/
structure MIc (X : Cx) (ρ : Slots) (wi : TI) (ds : List D) : Prop where
  run : ∀ (Z0 F Z : Hp) (σ : L2.St) (H : Hp), StR X.K ρ Z0 F Z σ H → ∀ R : It → Hp → Prop,
  (∀ J Z' H', Gr Z H Z' H' → Wk X.K Z' H' J ds → R J H') → wi σ H R
theorem MI.c {wi : TI} (h : MI X ρ wi ds) : MIc X ρ wi ds := .mk fun Z0 F Z σ H s R q => h.run Z0 F Z σ H s R fun J Z' H' g wk =>
  q J Z' H' g ⟨fun i d Z2 H2 hd e f z => wk.go i d Z2 H2 hd e ((s.gr.hh.trans g.hh).trans f) z, fun Z2 H2 e f z => wk.stop Z2 H2 e ((s.gr.hh.trans g.hh).trans f) z⟩
theorem mic_list (h : ML X ρ e ds) : MIc X ρ (iList X.K (wE X e)) ds := .mk fun Z0 F Z σ H s R q => h.run Z0 F Z σ H s _ fun a vs Z' H' g l r => by
  refine ⟨a, rfl, ⟨vs, l⟩, q _ Z' H' g ⟨fun j d Z2 H2 hd ez ef zh => ?_, fun Z2 H2 ez ef zh => ⟨vs, ex_l ef l, Nat.le_of_eq r.length⟩⟩⟩
  obtain ⟨x, hx, rx⟩ := r.get hd
  refine ⟨⟨vs, x, ex_l ef l, hx⟩, fun y H3 hy => ?_⟩
  obtain ⟨e3, hy⟩ := hy
  subst e3
  have e4 := hy vs (ex_l ef l)
  rw [hx] at e4
  cases e4
  exact ⟨Z2, Gr.refl zh, rx.mono ez⟩
def wipeS (ρ : Slots) : List Nat → Slots
  | [] => ρ
  | v :: vs => (wipeS ρ vs).set v none
theorem StL.none {K : PySem.W.Frag} {Z F H : Hp} (x : Option V) : ∀ {ρ : Slots} {σ : L2.St} {A : List Addr} (i : Nat), StL K Z F H ρ σ A → A.Nodup → ∃ A', StL K Z F H (ρ.set i Option.none) (σ.set i x) A' ∧ A'.Nodup ∧ ∀ a ∈ A', a ∈ A
  | _, _, _, _, .nil, n => ⟨_, .nil, n, fun _ m => m⟩
  | _, _, _, 0, .no h, n => ⟨_, .no h, n, fun _ m => m⟩
  | _, _, _, i + 1, .no h, n => by
    obtain ⟨A', q1, q2, q3⟩ := StL.none x i h n
    exact ⟨A', .no q1, q2, q3⟩
  | _, _, _, 0, .so _ h, n => ⟨_, .no h, (List.nodup_append.mp n).2.1, fun _ m => List.mem_append_right _ m⟩
  | _, _, _, i + 1, .so r h, n => by
    obtain ⟨n1, n2, n3⟩ := List.nodup_append.mp n
    obtain ⟨A', q1, q2, q3⟩ := StL.none x i h n2
    refine ⟨_, .so r q1, List.nodup_append.mpr ⟨n1, q2, fun a ha b hb => n3 a ha b (q3 b hb)⟩, fun a m => ?_⟩
    rcases List.mem_append.mp m with m | m
    · exact List.mem_append_left _ m
    · exact List.mem_append_right _ (q3 a m)
theorem StR.wipe {K : PySem.W.Frag} {Z0 F Z H : Hp} {σ : L2.St} (s : StR K ρ Z0 F Z σ H) : ∀ vs : List Nat, StR K (wipeS ρ vs) Z0 F Z (L2.wipe σ vs) H
  | [] => s
  | v :: vs => by
    obtain ⟨g, A, h1, h2, h3⟩ := StR.wipe s vs
    obtain ⟨A', q1, q2, q3⟩ := h1.none none v h2
    exact ⟨g, A', q1, q2, fun a m => h3 a (q3 a m)⟩
/-- the list that a comprehension makes -/
theorem lc_run {α : Type} {xs : List α} {enc : α → D} {wi : TI} {g : TG} {tt : TT} {te : TE} {vs : List Nat} (h : MIc X ρ wi (xs.map enc)) (pb : α → Bool) (f : α → D) (hz : xs.length < sizeLine)
    (hs : ∀ d ∈ xs, ∃ τ ws, MTg g X.K (wipeS ρ vs) (enc d) τ ws ∧ (∀ w ∈ ws, w ∈ vs) ∧
      (∀ (Z0 F Z : Hp) (σ : L2.St) (H : Hp), StR X.K τ Z0 F Z σ H → ∀ Q : Bool → Hp → Prop, (∀ Z' H', Gr Z H Z' H' → Q (pb d) H') → tt σ H Q) ∧
      (pb d = true → ∀ (Z0 F Z : Hp) (σ : L2.St) (H : Hp), StR X.K τ Z0 F Z σ H → ∀ Q : VK, (∀ v Z' H', Gr Z H Z' H' → Rep X.K Z' v (f d) → Q v H') → te σ H Q))
    {Z0 F Z : Hp} {σ : L2.St} {H : Hp} (s : StR X.K ρ Z0 F Z σ H) {Q : VK} (q : ∀ v Z' H' A, Gr Z H Z' H' → RepO X.K Z' F H' v (.lst (((xs.filter pb).map f).map .fz)) A → New H Z' A → Q v H') : tLc wi g tt te vs σ H Q := by
  refine h.run Z0 F Z σ H s _ fun J Z1 H1 g1 wk => ?_
  intro L hL
  have s1 := (s.grow g1).wipe vs
  refine ⟨fun j m H2 => m = xs.length - j ∧ j ≤ xs.length ∧ ∃ Z2 acc, Gr Z1 H1 Z2 H2 ∧ H2 L = some (.lst acc) ∧ Z2 L = none ∧ RepL X.K Z2 acc (((xs.take j).filter pb).map f),
    ⟨xs.length, by simp, Nat.zero_le _, Z1, [], Gr.new g1.zh hL, upd_same, g1.zh.free hL, .nil⟩, ?_⟩
  rintro j m H2 ⟨rfl, hj, Z2, acc, g2, hacc, zL, racc⟩
  by_cases hlt : j < xs.length
  · have ed : (xs.map enc)[j]? = some (enc xs[j]) := by simp [hlt]
    obtain ⟨w1, w2⟩ := wk.go j _ Z2 H2 ed g2.zz g2.hh g2.zh
    refine .inr ⟨w1, fun H3 => j + 1 ≤ xs.length ∧ ∃ Z2 acc, Gr Z1 H1 Z2 H3 ∧ H3 L = some (.lst acc) ∧ Z2 L = none ∧ RepL X.K Z2 acc (((xs.take (j + 1)).filter pb).map f), fun H3 q => ⟨xs.length - (j + 1), by omega, rfl, q⟩, fun x H3 hy => ?_⟩
    obtain ⟨Z3, g3, r3⟩ := w2 x H3 hy
    obtain ⟨τ, ws, t1, t2, t3, t4⟩ := hs _ (List.getElem_mem hlt)
    have g13 := g2.trans g3
    have etake : xs.take (j + 1) = xs.take j ++ [xs[j]] := (List.take_append_getElem hlt).symm
    refine t1.run Z0 F Z3 _ H3 x (s1.grow g13) r3 _ fun σ4 s4 w4 => ⟨by rw [w4 vs t2, wipe_wipe], ?_⟩
    refine t3 Z0 F Z3 σ4 H3 s4 _ fun Z5 H5 g5 => ?_
    have hL5 : H5 L = some (.lst acc) := g5.hh _ _ (g3.hh _ _ hacc)
    have zL5 : Z5 L = none := by rw [g5.nw L _ (g3.hh _ _ hacc), g3.nw L _ hacc, zL]
    have r5 := racc.mono (g3.zz.trans g5.zz)
    cases hp : pb xs[j] with
    | true =>
      rw [if_pos rfl]
      refine t4 hp Z0 F Z5 σ4 H5 (s4.grow g5) _ fun y Z6 H6 g6 r6 => ?_
      have hL6 := g6.hh _ _ hL5
      have zL6 : Z6 L = none := by rw [g6.nw L _ hL5, zL5]
      have hlen : acc.length < sizeLine := by
        rw [racc.length, List.length_map]
        exact Nat.lt_of_le_of_lt (Nat.le_trans (List.length_filter_le _ _) (by rw [List.length_take]; exact Nat.min_le_right _ _)) hz
      refine ⟨acc, hL6, hlen, hlt, Z6, acc ++ [y], ?_, upd_same, zL6, ?_⟩
      · have g16 := g13.trans (g5.trans g6)
        exact ⟨g16.zz, g16.hh.mut hL, g16.zh.mut zL6, g16.nw⟩
      · rw [etake, List.filter_append, List.map_append]
        have e1 : [xs[j]].filter pb = [xs[j]] := by simp [hp]
        rw [e1]
        exact (r5.mono g6.zz).append (.cons r6 .nil)
    | false =>
      rw [if_neg Bool.false_ne_true]
      refine ⟨hlt, Z5, acc, g13.trans g5, hL5, zL5, ?_⟩
      rw [etake, List.filter_append, List.map_append]
      have e1 : [xs[j]].filter pb = [] := by simp [hp]
      rw [e1, List.map_nil, List.append_nil]
      exact r5
  · have e : j = xs.length := by omega
    subst e
    have st := wk.stop Z2 H2 g2.zz g2.hh g2.zh
    rw [List.length_map] at st
    refine .inl ⟨st, q _ Z2 H2 [L] (g1.trans g2) (.lst hacc ?_) (new_one (g1.hh.free hL) zL)⟩
    rw [List.take_length] at racc
    exact racc.own
/-- [elt for target in source] -/
theorem me_lc {α : Type} {xs : List α} {enc : α → D} {wi : TI} {g : TG} {scope : Scope} {vs : List Nat} (p : ∀ te : TE, (∀ (s : Shared) (H : Hp) (C : Addr) (cl : List (Str × Addr)) (fp : List Addr), PE (X.blk s H scope (compEnvC scope cl C X.env) fp) elt te) → PE X e (tLc wi g tYes te vs))
    (h : MIc X ρ wi (xs.map enc)) (f : α → D) (hz : xs.length < sizeLine)
    (hs : ∀ d ∈ xs, ∃ τ ws, MTg g X.K (wipeS ρ vs) (enc d) τ ws ∧ (∀ w ∈ ws, w ∈ vs) ∧ ∀ (s : Shared) (H : Hp) (C : Addr) (cl : List (Str × Addr)) (fp : List Addr), ME (X.blk s H scope (compEnvC scope cl C X.env) fp) τ elt (.fz (f d))) :
    ME X ρ e (.lst ((xs.map f).map .fz)) := .mk fun Z0 F Z σ H s Q q => by
  refine PE_w (p (fun σ H Q => ∀ (s : Shared) (H' : Hp) (C : Addr) (cl : List (Str × Addr)) (fp : List Addr), wE (X.blk s H' scope (compEnvC scope cl C X.env) fp) elt σ H Q) fun s H' C cl fp => ⟨fun pins s' σ H Q I k => k s H' C cl fp pins s' I⟩) ?_
  refine lc_run h (fun _ => true) f hz (fun d m => ?_) s fun v Z' H' A g r n => q v Z' H' A g ?_ n
  · obtain ⟨τ, ws, t1, t2, t3⟩ := hs d m
    refine ⟨τ, ws, t1, t2, fun Z0 F Z σ H s Q q => q Z H (Gr.refl s.ex), fun _ Z0 F Z σ H s Q q s' H' C cl fp => (t3 s' H' C cl fp).run Z0 F Z σ H s Q fun v Z' H' A g r n => ?_⟩
    cases r with
    | fz r => exact q v Z' H' g r
  · rw [List.filter_eq_self.mpr fun _ _ => rfl] at r
    exact r
/-- [elt for target in source if test] -/
theorem me_lcIf {α : Type} {xs : List α} {enc : α → D} {wi : TI} {g : TG} {scope : Scope} {vs : List Nat} {c : Expr} (p : ∀ (tt : TT) (te : TE), (∀ (s : Shared) (H : Hp) (C : Addr) (cl : List (Str × Addr)) (fp : List Addr), PT (X.blk s H scope (compEnvC scope cl C X.env) fp) c tt) →
      (∀ (s : Shared) (H : Hp) (C : Addr) (cl : List (Str × Addr)) (fp : List Addr), PE (X.blk s H scope (compEnvC scope cl C X.env) fp) elt te) → PE X e (tLc wi g tt te vs))
    (h : MIc X ρ wi (xs.map enc)) (pb : α → Bool) (f : α → D) (hz : xs.length < sizeLine)
    (hs : ∀ d ∈ xs, ∃ τ ws, MTg g X.K (wipeS ρ vs) (enc d) τ ws ∧ (∀ w ∈ ws, w ∈ vs) ∧ ∀ (s : Shared) (H : Hp) (C : Addr) (cl : List (Str × Addr)) (fp : List Addr), MT (X.blk s H scope (compEnvC scope cl C X.env) fp) τ c (pb d) ∧ (pb d = true → ME (X.blk s H scope (compEnvC scope cl C X.env) fp) τ elt (.fz (f d)))) :
    ME X ρ e (.lst (((xs.filter pb).map f).map .fz)) := .mk fun Z0 F Z σ H s Q q => by
  refine PE_w (p (fun σ H Q => ∀ (s : Shared) (H' : Hp) (C : Addr) (cl : List (Str × Addr)) (fp : List Addr), wT (X.blk s H' scope (compEnvC scope cl C X.env) fp) c σ H Q) (fun σ H Q => ∀ (s : Shared) (H' : Hp) (C : Addr) (cl : List (Str × Addr)) (fp : List Addr), wE (X.blk s H' scope (compEnvC scope cl C X.env) fp) elt σ H Q)
    (fun s H' C cl fp => ⟨fun pins s' σ H Q I k => k s H' C cl fp pins s' I⟩) fun s H' C cl fp => ⟨fun pins s' σ H Q I k => k s H' C cl fp pins s' I⟩) ?_
  refine lc_run h pb f hz (fun d m => ?_) s q
  obtain ⟨τ, ws, t1, t2, t3⟩ := hs d m
  refine ⟨τ, ws, t1, t2, fun Z0 F Z σ H s Q q s' H' C cl fp => (t3 s' H' C cl fp).1.run Z0 F Z σ H s Q q, fun hp Z0 F Z σ H s Q q s' H' C cl fp => ((t3 s' H' C cl fp).2 hp).run Z0 F Z σ H s Q fun v Z' H' A g r n => ?_⟩
  cases r with
  | fz r => exact q v Z' H' g r

/-! ### what is handed back: own slots within -/
/-- (.., x, ..): a tuple of frozen things and one own slot's thing -/
structure MRs (X : Cx) (ρ : Slots) (es : List Expr) (os : List O) : Prop where
  run : ∀ (Z0 F Z : Hp) (σ : L2.St) (H : Hp), StR X.K ρ Z0 F Z σ H → ∀ Q : List V → Hp → Prop,
  (∀ vs Z' H' A, Gr Z H Z' H' → RepOL X.K Z' F H' vs os A → A.Nodup → (∀ a ∈ A, Z' a = none ∧ F a = none) → Q vs H') → wA X es σ H Q
theorem MF.rs (h : MF X ρ es ds) : MRs X ρ es (ds.map .fz) := .mk fun Z0 F Z σ H s Q q => h.run Z0 F Z σ H s Q fun vs Z' H' g r => q vs Z' H' [] g r.own List.nodup_nil fun _ m => nomatch m
theorem mrs_fz {os : List O} (h : ME X ρ e (.fz d)) (h2 : MRs X ρ es os) (hs : starEach (e :: es) X.env = (false, eval e X.env) :: starEach es X.env := by rfl) : MRs X ρ (e :: es) (.fz d :: os) := .mk fun Z0 F Z σ H s Q q =>
  PA_w (pa_cons pe_w pa_w hs) (h.run Z0 F Z σ H s _ fun v Z1 H1 A1 g1 r1 n1 => by
    cases r1 with
    | fz r1 => exact h2.run Z0 F Z1 σ H1 (s.grow g1) _ fun vs Z2 H2 A g2 r2 n d => q _ Z2 H2 A (g1.trans g2) (.cons (A := []) (.fz (r1.mono g2.zz)) r2) n d)
theorem mrs_own (h : MR X ρ e o) (h2 : MF X ρ es ds) (hs : starEach (e :: es) X.env = (false, eval e X.env) :: starEach es X.env := by rfl) : MRs X ρ (e :: es) (o :: ds.map .fz) := .mk fun Z0 F Z σ H s Q q =>
  PA_w (pa_cons pe_w pa_w hs) (h.run Z0 F Z σ H s _ fun v Z1 H1 A1 g1 r1 n1 d1 => h2.run Z0 F Z1 σ H1 (s.grow g1) _ fun vs Z2 H2 g2 r2 => q _ Z2 H2 (A1 ++ []) (g1.trans g2) (.cons (r1.ex g2.zz g2.hh) r2.own) (by rw [List.append_nil]; exact n1) fun a m => by
    rw [List.append_nil] at m
    obtain ⟨u, hu⟩ := r1.there a m
    exact ⟨(g2.nw a u hu).trans (d1 a m).1, (d1 a m).2⟩)
theorem mr_tup {n : Nat} {os : List O} (h : MRs X ρ es os) (hl : os.length ≤ 1000 := by first | decide | (simp; done)) : MR X ρ (.Tuple es n pos) (.tup os) := .mk fun Z0 F Z σ H s Q q =>
  PE_w (pe_tup pa_w) (h.run Z0 F Z σ H s _ fun vs Z1 H1 A g1 r1 n1 d1 => ⟨(by rw [r1.length]; exact Nat.le_of_lt (small1000 hl)), fun p hp => by
    refine q _ Z1 _ (p :: A) (g1.trans (Gr.new g1.zh hp)) (.tup upd_same (r1.mono (Ex.refl _) (Ex.refl _) fun a m u hu => ?_)) (List.nodup_cons.mpr ⟨fun m => ?_, n1⟩) fun a m => ?_
    · rw [upd_ne (ne_of_none hu hp)]
      exact hu
    · obtain ⟨u, hu⟩ := r1.there p m
      rw [hp] at hu
      cases hu
    · rcases List.mem_cons.mp m with m | m
      · subst m
        exact ⟨g1.zh.free hp, s.gr.hh.free (g1.hh.free hp)⟩
      · exact d1 a m⟩)
end
end M
namespace M
open PySem L2 PySem.Spec PyProof.Rows
section
variable {X : Cx} {ρ : Slots} {e a b elt : Expr} {es : List Expr} {st : Stmt} {sts : List Stmt} {G : Go} {o o1 o2 : O} {d : D} {ds : List D} {pos p0 p1 : Pos} {i : Nat} {x nm : Str}
theorem ml_var (p : PE X (.Name x pos) (tVar i)) (h : ρ[i]? = some (some o)) (hl : IsLst o ds := by first | exact .vw _ | exact .fz _ | exact .own _ | exact .vwa _ _) : ML X ρ (.Name x pos) ds := MV.l (mv_var p h) hl
theorem mu_var (p : PE X (.Name x pos) (tVar i)) (h : ρ[i]? = some (some o)) (hl : IsTp o ds := by first | exact .fz _ | exact .own _) : MU X ρ (.Name x pos) ds := MV.u (mv_var p h) hl
theorem mk_var (p : PE X (.Name x pos) (tVar i)) (h : ρ[i]? = some (some o)) (hl : o = .vw ds ∨ o = .fz (.lst ds) ∨ ∃ a, o = .vwa a ds := by first | exact .inl rfl | exact .inr (.inl rfl) | exact .inr (.inr ⟨_, rfl⟩)) : MK X ρ (.Name x pos) ds := by
  rcases hl with rfl | rfl | ⟨a, rfl⟩
  · exact MV.k (mv_var p h)
  · exact ME.k (me_var p h)
  · exact MV.ka (mv_var p h)
theorem le_auto {ρ τ : Slots} (l : Le ρ τ := by repeat (first | exact Le.nil | refine Le.no ?_ | refine Le.eq ?_)) : Le ρ τ := l
/-- for: R j holds ahead of turn j -/
theorem m_forR {wi : TI} {g : TG} {body : List Stmt} (p : PS X st (tFor wi g (wS X body))) (h : MI X ρ wi ds) (R : Nat → Slots) (h0 : Le ρ (R 0))
    (hs : ∀ (j : Nat) (d : D), ds[j]? = some d → ∃ τ' ws, MTg g X.K (R j) d τ' ws ∧ MS X τ' body { nx := fun τ => Le τ (R (j + 1)), ct := fun τ => Le τ (R (j + 1)), bk := G.nx, rt := G.rt, rs := G.rs })
    (hd : ∀ τ, Le τ (R ds.length) → G.nx τ) : MS1 X ρ st G := by
  refine m_for p h (fun j τ => Le τ (R j)) h0 (fun j d τ hj l => ?_) hd
  obtain ⟨τ', ws, t1, t2⟩ := hs j d hj
  exact ⟨τ', ws, .mk fun Z0 F Z σ H v s r Q q => t1.run Z0 F Z σ H v (s.le l) r Q q, t2⟩
/-- .. by a state: S j x holds ahead of turn j -/
theorem m_forS {α : Type} {wi : TI} {g : TG} {body : List Stmt} (p : PS X st (tFor wi g (wS X body))) (h : MI X ρ wi ds) (R : α → Slots) (S : Nat → α → Prop) (h0 : ∃ x, S 0 x ∧ Le ρ (R x))
    (hs : ∀ (j : Nat) (d : D) (x : α), ds[j]? = some d → S j x → ∃ τ' ws, MTg g X.K (R x) d τ' ws ∧ MS X τ' body { nx := fun τ => ∃ y, S (j + 1) y ∧ Le τ (R y), ct := fun τ => ∃ y, S (j + 1) y ∧ Le τ (R y), bk := G.nx, rt := G.rt, rs := G.rs })
    (hd : ∀ τ x, S ds.length x → Le τ (R x) → G.nx τ) : MS1 X ρ st G := by
  refine m_for p h (fun j τ => ∃ x, S j x ∧ Le τ (R x)) h0 (fun j d τ hj l => ?_) fun τ ⟨x, h1, h2⟩ => hd τ x h1 h2
  obtain ⟨x, l1, l2⟩ := l
  obtain ⟨τ', ws, t1, t2⟩ := hs j d x hj l1
  exact ⟨τ', ws, .mk fun Z0 F Z σ H v s r Q q => t1.run Z0 F Z σ H v (s.le l2) r Q q, t2⟩
/-- if, both ways go on -/
theorem m_ifJ {c : Expr} {a b : List Stmt} {t : Bool} {p : Pos} (hc : MT X ρ c t) (τ : Slots) (h1 : t = true → MS X ρ a { G with nx := fun ρ => Le ρ τ }) (h2 : t = false → MS X ρ b { G with nx := fun ρ => Le ρ τ }) (k : ∀ ρ, Le ρ τ → G.nx ρ) : MS1 X ρ (.If c a b p) G :=
  m_if hc (fun h => ms_imp (h1 h) k (fun _ h => h) (fun _ h => h) fun _ h => h) fun h => ms_imp (h2 h) k (fun _ h => h) (fun _ h => h) fun _ h => h
/-- an own def, as it is called by its name -/
structure Fn1 (P : Program) (w : World) (K : PySem.W.Frag) (mg : Str → Option Value) (base : Heap) (name : Str) (k : Nat) (ps : List Str) (sp : Sp) : Prop where
  ex : ∃ (f : Addr) (fd : FuncData), mg name = some (.ref f) ∧ PySem.W.keepIn K (.ref f) = true ∧ Binds K fd ps [] ∧ FnOk P w K mg base CX0 k f fd ps sp
theorem me_fn {α : Type} {ar : α → List O} {pre : α → Prop} {res : α → O} {k : Nat} {ps : List Str} (c : Fn1 X.prog X.w X.K X.mg X.base nm k ps (SpM X.K ar pre res)) (x : α) (ha : MA X ρ (e :: es) (ar x)) (hp : pre x) (hr : Room k X.A) {o : O} (hres : res x = o := by first | (dsimp only; done) | (dsimp only; rfl) | rfl) (hg : Gl X nm := by rfl)
    (hdb : (nm == ("__debug__" : Str)) = false := by decide) (he : starEach (e :: es) X.env = (false, eval e X.env) :: starEach es X.env := by rfl) (hpl : (backTo pos (starEach es X.env)).any (·.1) = false := by rfl) : ME X ρ (.Call (.Name nm p0) (e :: es) [] pos) o := by
  subst hres
  obtain ⟨f, fd, hm, hk, hb, F⟩ := c.ex
  exact me_call (pe_call F hr hg hm hk hb .nil pass0 pa_w hdb he hpl) x ha hp
end
end M
namespace M
open PySem L2 PySem.Spec PyProof.Rows
/-! ### data that can be compared: of a bounded depth -/
inductive Smp : Nat → D → Prop where
  | non {n : Nat} : Smp n .non
  | bl {n : Nat} (b : Bool) : Smp n (.bl b)
  | int {n : Nat} (i : Int) : Smp n (.int i)
  | str {n : Nat} {x : Str} (h : (PyData.str x).canLay0 = true) : Smp n (.str x)
  | tup {n : Nat} {ds : List D} (h : ∀ d ∈ ds, Smp n d) : Smp (n + 1) (.tup ds)
  | lst {n : Nat} {ds : List D} (h : ∀ d ∈ ds, Smp n d) : Smp (n + 1) (.lst ds)
theorem D.plL_all : ∀ {ds : List D}, (∀ d ∈ ds, d.pl = true) → D.plL ds = true
  | [], _ => rfl
  | d :: r, h => by
    show (d.pl && D.plL r) = true
    rw [h d List.mem_cons_self, D.plL_all fun e m => h e (List.mem_cons_of_mem _ m)]
    rfl
theorem canL_all : ∀ {ds : List D}, (∀ d ∈ ds, d.py.canLay0 = true) → PyData.canLayAll0 (D.pyL ds) = true
  | [], _ => rfl
  | d :: r, h => by
    show (d.py.canLay0 && PyData.canLayAll0 (D.pyL r)) = true
    rw [h d List.mem_cons_self, canL_all fun e m => h e (List.mem_cons_of_mem _ m)]
    rfl
theorem depL_all {n : Nat} : ∀ {ds : List D}, (∀ d ∈ ds, d.py.depth ≤ n) → PyData.depthAll (D.pyL ds) ≤ n
  | [], _ => Nat.zero_le _
  | d :: r, h => Nat.max_le.mpr ⟨h d List.mem_cons_self, depL_all fun e m => h e (List.mem_cons_of_mem _ m)⟩
theorem Smp.all {n : Nat} {d : D} (h : Smp n d) : d.pl = true ∧ d.py.canLay0 = true ∧ d.py.depth ≤ n := by
  induction h with
  | non => exact ⟨rfl, rfl, Nat.zero_le _⟩
  | bl b => exact ⟨rfl, rfl, Nat.zero_le _⟩
  | int i => exact ⟨rfl, rfl, Nat.zero_le _⟩
  | str h => exact ⟨rfl, h, Nat.zero_le _⟩
  | tup h ih => exact ⟨D.plL_all fun d m => (ih d m).1, canL_all fun d m => (ih d m).2.1, Nat.succ_le_succ (depL_all fun d m => (ih d m).2.2)⟩
  | lst h ih => exact ⟨D.plL_all fun d m => (ih d m).1, canL_all fun d m => (ih d m).2.1, Nat.succ_le_succ (depL_all fun d m => (ih d m).2.2)⟩
theorem Smp.ok {n : Nat} {d : D} (h : Smp n d) (hn : n ≤ 64 := by decide) : d.ok := by
  obtain ⟨h1, h2, h3⟩ := h.all
  refine ⟨h1, ?_⟩
  unfold SeqAt.shaped
  rw [h2, decide_eq_true (Nat.le_trans h3 hn)]
  rfl
theorem Smp.up {n m : Nat} {d : D} (h : Smp n d) (l : n ≤ m) : Smp m d := by
  induction h generalizing m with
  | non => exact .non
  | bl b => exact .bl b
  | int i => exact .int i
  | str h => exact .str h
  | tup h ih =>
    cases m with
    | zero => exact absurd l (by omega)
    | succ m => exact .tup fun d k => ih d k (by omega)
  | lst h ih =>
    cases m with
    | zero => exact absurd l (by omega)
    | succ m => exact .lst fun d k => ih d k (by omega)
theorem eqvL_refl : ∀ {ds : List D}, (∀ d ∈ ds, d.eqv d = true) → PyData.eqvAll (D.pyL ds) (D.pyL ds) = true
  | [], _ => rfl
  | d :: r, h => by
    show (PyData.eqv d.py d.py && PyData.eqvAll (D.pyL r) (D.pyL r)) = true
    rw [show PyData.eqv d.py d.py = true from h d List.mem_cons_self, eqvL_refl fun e m => h e (List.mem_cons_of_mem _ m)]
    rfl
theorem Smp.eqv {n : Nat} {d : D} (h : Smp n d) : d.eqv d = true := by
  induction h with
  | non => rfl
  | bl b => exact beq_self_eq_true b
  | int i => exact beq_self_eq_true i
  | str h => exact beq_self_eq_true _
  | tup h ih => exact eqvL_refl ih
  | lst h ih => exact eqvL_refl ih
theorem smps_nil {n : Nat} : ∀ d ∈ ([] : List D), Smp n d := fun _ m => nomatch m
theorem smps_cons {n : Nat} {d : D} {ds : List D} (h : Smp n d) (r : ∀ d ∈ ds, Smp n d) : ∀ e ∈ d :: ds, Smp n e := fun e m => (List.mem_cons.mp m).elim (fun q => q ▸ h) (r e)
theorem smps_map {α : Type} {n : Nat} {f : α → D} {xs : List α} (h : ∀ x ∈ xs, Smp n (f x)) : ∀ d ∈ xs.map f, Smp n d := fun d m => by
  obtain ⟨x, hx, rfl⟩ := List.mem_map.mp m
  exact h x hx
section
variable {X : Cx} {ρ : Slots} {e a b elt : Expr} {es : List Expr} {st : Stmt} {sts : List Stmt} {G : Go} {o o1 o2 : O} {d : D} {ds : List D} {pos p0 p1 : Pos} {i : Nat} {x nm : Str}
/-- a tuple is walked -/
theorem mi_tup (h : ME X ρ e (.fz (.tup ds))) : MI X ρ (iTup X.K (wE X e)) ds := .mk fun Z0 F Z σ H s R q => h.run Z0 F Z σ H s _ fun v Z' H' A g r n => by
  cases r with
  | fz r =>
    cases r with
    | @tup a vs _ l r =>
      refine ⟨a, rfl, ⟨vs, ex_t g.zh l⟩, q _ Z' H' g ⟨fun j d Z2 H2 hd ez ef zh => ?_, fun Z2 H2 ez ef zh => ⟨vs, ex_t zh (ex_t ez l), Nat.le_of_eq r.length⟩⟩⟩
      obtain ⟨x, hx, rx⟩ := r.get hd
      have lt := ex_t zh (ex_t ez l)
      refine ⟨⟨vs, x, lt, hx⟩, fun y H3 hy => ?_⟩
      obtain ⟨e3, hy⟩ := hy
      subst e3
      have e4 := hy vs lt
      rw [hx] at e4
      cases e4
      exact ⟨Z2, Gr.refl zh, rx.mono ez⟩
end
section
variable {K : PySem.W.Frag} {Z0 Z Z' F H H' : Hp} {ρ : Slots} {σ : L2.St}
/-- a slot's own thing is changed, and forgotten -/
theorem StR.lose {i : Nat} {o : O} (s : StR K ρ Z0 F Z σ H) (hi : ρ[i]? = some (some o)) : ∃ v A, σ[i]? = some (some v) ∧ RepO K Z F H v o A ∧ (∀ a ∈ A, Z a = none ∧ F a = none) ∧
    ∀ {Z' H' : Hp}, Ex Z Z' → (∀ a u, H a = some u → Z' a = Z a) → Ex Z' H' → (∀ a, a ∉ A → ∀ u, H a = some u → H' a = some u) → StR K (ρ.set i none) Z0 F Z' σ H' := by
  obtain ⟨A, h1, h2, h3⟩ := s.st
  obtain ⟨v, B, q1, q2, q3, q4, q5⟩ := h1.at hi h2
  refine ⟨v, B, q1, q2, fun a m => h3 a (q4 a m), fun {Z' H'} ez nz zh k => ?_⟩
  obtain ⟨A2, r1, r2, r3⟩ := q5 (v' := .non) (o' := .fz .non) (B' := []) ez (fun a _ nb u e => k a nb u e) (.fz .non) List.nodup_nil (fun _ m => nomatch m)
  obtain ⟨A3, t1, t2, t3⟩ := r1.none (some v) i r2
  rw [List.set_set, List.set_set, set_same q1] at t1
  have hF : ∀ a u, F a = some u → a ∉ B := fun a u e m => by
    rw [(h3 a (q4 a m)).2] at e
    cases e
  refine ⟨⟨s.gr.zz.trans ez, fun a u e => k a (hF a u e) u (s.gr.hh a u e), zh, fun a u e => (nz a u (s.gr.hh a u e)).trans (s.gr.nw a u e)⟩, A3, t1, t2, fun a m => ?_⟩
  rcases r3 a (t3 a m) with z | z
  · obtain ⟨u, e⟩ := h1.there a z.1
    exact ⟨(nz a u e).trans (h3 a z.1).1, (h3 a z.1).2⟩
  · exact nomatch z
end
section
variable {X : Cx} {ρ : Slots} {e a b elt : Expr} {es : List Expr} {st : Stmt} {sts : List Stmt} {G : Go} {o o1 o2 : O} {d : D} {ds : List D} {pos p0 p1 : Pos} {i : Nat} {x nm : Str}
/-- x[0].append(e), x an own tuple; x is forgotten -/
theorem m_app0 {x : Str} {p1 p2 p3 p4 p5 p6 : Pos} {k0 : Nat} {os r : List O} {d : D} (p : PE X (.Name x p1) (tVar i)) (hi : ρ[i]? = some (some (.tup (.lst os :: r)))) (he : ME X ρ e (.fz d)) (hl : os.length < sizeLine) (k : G.nx (ρ.set i none))
    (q : ∀ t, PE X (.Call (.Attribute (.Subscript (.Name x p1) (.Constant (.int 0) k0 p4) p5) "append" p2) [e] [] p3) t → PS X (.Expr (.Call (.Attribute (.Subscript (.Name x p1) (.Constant (.int 0) k0 p4) p5) "append" p2) [e] [] p3) p6) (tDrop t) := by exact fun _ h => ps_expr h)
    (pm : PE X (.Call (.Attribute (.Subscript (.Name x p1) (.Constant (.int 0) k0 p4) p5) "append" p2) [e] [] p3) (tBM X.K "list" rAppend (tOp (rIxT X.K) (tVar i) (tC (.int 0))) (tCons (wE X e) tNil)) := by
      exact pe_bm PySem.F.plainAttrs_list PySem.F.slot_list_append PySem.F.type_list_append mt_append (pe_ix ix_tup (pv _) pe_int (fun _ _ => rfl)) (pa_cons pe_w pa_nil)) : MS1 X ρ (.Expr (.Call (.Attribute (.Subscript (.Name x p1) (.Constant (.int 0) k0 p4) p5) "append" p2) [e] [] p3) p6) G := .mk fun Z0 F Z σ H D s g => by
  obtain ⟨v, A, e1, r1, dA, k1⟩ := s.lose hi
  cases r1 with
  | @tup t vs _ A t0 r1 =>
    cases r1 with
    | @cons w ws _ _ A1 A2 r1 r2 =>
      cases r1 with
      | @lst a us _ A3 h0 r3 =>
        refine PS_w (q _ pm) ⟨_, e1, t, _, 0, .ref a, rfl, rfl, SqT.of t0, atI_nat (j := 0) rfl, .inl ⟨rfl, _, SqL.of h0⟩, ?_⟩
        refine he.run Z0 F Z σ H s _ fun w Z1 H1 B g1 r2 n2 => ?_
        refine ⟨a, us, w, rfl, rfl, g1.hh _ _ h0, by rw [r3.length]; exact hl, ?_⟩
        have ma : a ∈ t :: ((a :: A3) ++ A2) := List.mem_cons_of_mem _ (List.mem_append_left _ List.mem_cons_self)
        have za : Z1 a = none := by
          rw [g1.nw a _ h0]
          exact (dA a ma).1
        refine g.nx _ Z1 σ _ k (k1 g1.zz g1.nw (g1.zh.mut za) fun b nb u hu => ?_)
        have ne : b ≠ a := fun q => nb (by rw [q]; exact ma)
        rw [upd_ne ne]
        exact g1.hh b u hu
theorem mi_rangeN {n : Nat} (h : MF X ρ es [.int (n : Int)]) (hn : n < 2 ^ 62) : MI X ρ (iRng1 (wA X es)) (rng 0 n) := by
  have q := mi_range1 h (by omega) (by omega)
  rw [Int.toNat_natCast] at q
  exact q
theorem ME.is {o' : O} (h : ME X ρ e o) (q : o = o') : ME X ρ e o' := q ▸ h
/-- for over typed items -/
theorem m_forT {α : Type} {xs : List α} {enc : α → D} {wi : TI} {g : TG} {body : List Stmt} (p : PS X st (tFor wi g (wS X body))) (h : MI X ρ wi (xs.map enc)) (R : Nat → Slots) (h0 : Le ρ (R 0))
    (hs : ∀ (j : Nat) (x : α), xs[j]? = some x → ∃ τ' ws, MTg g X.K (R j) (enc x) τ' ws ∧ MS X τ' body { nx := fun τ => Le τ (R (j + 1)), ct := fun τ => Le τ (R (j + 1)), bk := G.nx, rt := G.rt, rs := G.rs })
    (hd : ∀ τ, Le τ (R xs.length) → G.nx τ) : MS1 X ρ st G := by
  refine m_forR p h R h0 (fun j d hj => ?_) fun τ l => hd τ (by rw [List.length_map] at l; exact l)
  rw [List.getElem?_map] at hj
  obtain ⟨x, hx, rfl⟩ := Option.map_eq_some_iff.mp hj
  exact hs j x hx
theorem m_forTS {α β : Type} {xs : List α} {enc : α → D} {wi : TI} {g : TG} {body : List Stmt} (p : PS X st (tFor wi g (wS X body))) (h : MI X ρ wi (xs.map enc)) (R : β → Slots) (S : Nat → β → Prop) (h0 : ∃ y, S 0 y ∧ Le ρ (R y))
    (hs : ∀ (j : Nat) (x : α) (y : β), xs[j]? = some x → S j y → ∃ τ' ws, MTg g X.K (R y) (enc x) τ' ws ∧ MS X τ' body { nx := fun τ => ∃ y, S (j + 1) y ∧ Le τ (R y), ct := fun τ => ∃ y, S (j + 1) y ∧ Le τ (R y), bk := G.nx, rt := G.rt, rs := G.rs })
    (hd : ∀ τ y, S xs.length y → Le τ (R y) → G.nx τ) : MS1 X ρ st G := by
  refine m_forS p h R S h0 (fun j d y hj => ?_) fun τ y h1 l => hd τ y (by rw [List.length_map] at h1; exact h1) l
  rw [List.getElem?_map] at hj
  obtain ⟨x, hx, rfl⟩ := Option.map_eq_some_iff.mp hj
  exact hs j x y hx
/-- for over a range -/
theorem m_forN {lo : Int} {n : Nat} {wi : TI} {g : TG} {body : List Stmt} (p : PS X st (tFor wi g (wS X body))) (h : MI X ρ wi (rng lo n)) (R : Nat → Slots) (h0 : Le ρ (R 0))
    (hs : ∀ (j : Nat), j < n → ∃ τ' ws, MTg g X.K (R j) (.int (lo + (j : Nat))) τ' ws ∧ MS X τ' body { nx := fun τ => Le τ (R (j + 1)), ct := fun τ => Le τ (R (j + 1)), bk := G.nx, rt := G.rt, rs := G.rs })
    (hd : ∀ τ, Le τ (R n) → G.nx τ) : MS1 X ρ st G := by
  refine m_forR p h R h0 (fun j d hj => ?_) fun τ l => hd τ (by rw [rng_len] at l; exact l)
  obtain ⟨h1, rfl⟩ := rng_get hj
  exact hs j h1
theorem m_forNS {β : Type} {lo : Int} {n : Nat} {wi : TI} {g : TG} {body : List Stmt} (p : PS X st (tFor wi g (wS X body))) (h : MI X ρ wi (rng lo n)) (R : β → Slots) (S : Nat → β → Prop) (h0 : ∃ y, S 0 y ∧ Le ρ (R y))
    (hs : ∀ (j : Nat) (y : β), j < n → S j y → ∃ τ' ws, MTg g X.K (R y) (.int (lo + (j : Nat))) τ' ws ∧ MS X τ' body { nx := fun τ => ∃ y, S (j + 1) y ∧ Le τ (R y), ct := fun τ => ∃ y, S (j + 1) y ∧ Le τ (R y), bk := G.nx, rt := G.rt, rs := G.rs })
    (hd : ∀ τ y, S n y → Le τ (R y) → G.nx τ) : MS1 X ρ st G := by
  refine m_forS p h R S h0 (fun j d y hj => ?_) fun τ y h1 l => hd τ y (by rw [rng_len] at h1; exact h1) l
  obtain ⟨h1, rfl⟩ := rng_get hj
  exact hs j y h1
end
theorem foldl_step {α β : Type} (f : β → α → β) (b : β) {xs : List α} {i : Nat} {x : α} (h : xs[i]? = some x) : (xs.take (i + 1)).foldl f b = f ((xs.take i).foldl f b) x := by
  obtain ⟨hi, e⟩ := List.getElem?_eq_some_iff.mp h
  rw [← List.take_append_getElem hi, List.foldl_append, e]
  rfl
/-- a law's promise -/
def spLaw (K : PySem.W.Frag) : Sp := SpM K (fun ns : List Int => [.vw (ns.map .int)]) (fun ns => ns.length ≤ 63) (fun _ => .fz (.bl true))
theorem spLaw_of {K : PySem.W.Frag} {H : Hp} {a : Addr} {ns : List Int} {E : XK} (hS : SqL K H a (ns.map V.int)) (hl : ns.length ≤ 63) : spLaw K [.ref a] H (fun v _ => v = .bl true) E := by
  refine ⟨ns, fun _ => none, fun _ _ z => (by cases z), RepOL.cons (A := []) (B := []) (RepO.vw hS RepL.ofInts) RepOL.nil, hl, fun v Z' H' A g r n => ?_⟩
  cases r with
  | fz r =>
    cases r
    rfl
end M
namespace M
open PySem L2 PySem.Spec PyProof.Rows
theorem RepOL.set {K : PySem.W.Frag} {Z F H : Hp} {w : V} {d : D} (h : Rep K Z w d) : ∀ {vs : List V} {ds : List D} {A : List Addr} (j : Nat), RepOL K Z F H vs (ds.map .fz) A → RepOL K Z F H (vs.set j w) ((ds.set j d).map .fz) A
  | _, [], _, _, .nil => .nil
  | _, _ :: _, _, 0, .cons (.fz _) r => .cons (A := []) (.fz h) r
  | _, _ :: _, _, j + 1, .cons (.fz g) r => .cons (A := []) (.fz g) (RepOL.set h j r)
section
variable {X : Cx} {ρ : Slots} {e a b c elt : Expr} {es rest : List Expr} {st : Stmt} {sts : List Stmt} {G : Go} {o o1 o2 : O} {d : D} {ds : List D} {pos p0 p1 p2 p3 p4 p5 p6 : Pos} {i : Nat} {x nm : Str} {m n k : Int} {p q : Str}
/-- x[e1] = e2, x a slot with an own list of frozen things -/
theorem m_setItem {j : Nat} (pn : PE X (.Name x p1) (tVar i)) (hi : ρ[i]? = some (some (.lst (ds.map .fz)))) (h1 : ME X ρ a (.fz (.int k))) (h2 : ME X ρ b (.fz d)) (hj : ixN ds.length k = some j) (kk : G.nx (ρ.set i (some (.lst ((ds.set j d).map .fz)))))
    (pm : PS X (.Assign [.Subscript (.Name x p1) a p2] b p3) (tAsg (wE X b) (gSub (tVar i) (wE X a) rSetL)) := by exact ps_asg pe_w (pg_sub (pv _) pe_w set_list)) : MS1 X ρ (.Assign [.Subscript (.Name x p1) a p2] b p3) G := .mk fun Z0 F Z σ H D s g => by
  obtain ⟨v, A, e1, r1, nA, dA, k1⟩ := s.upd hi
  cases r1 with
  | @lst l vs _ A h0 r1 =>
    refine PS_w pm (h2.run Z0 F Z σ H s _ fun w Z1 H1 B g1 r2 n2 => ?_)
    refine ⟨_, e1, h1.run Z0 F Z1 σ H1 (s.grow g1) _ fun y Z2 H2 B2 g2 r3 n3 => ?_⟩
    cases r3 with
    | fz r3 =>
      cases r3
      cases r2 with
      | fz r2 =>
        have g12 := g1.trans g2
        have hl : ixN vs.length k = some j := by rw [r1.length, List.length_map]; exact hj
        refine ⟨l, vs, k, j, rfl, rfl, g12.hh _ _ h0, hl, ?_⟩
        have zl : Z2 l = none := by
          rw [g12.nw l _ h0]
          exact (dA l List.mem_cons_self).1
        obtain ⟨na, nA'⟩ := List.nodup_cons.mp nA
        have r1' : RepOL X.K Z2 F (upd H2 l (.lst (vs.set j w))) vs (ds.map .fz) A := r1.mono g12.zz (Ex.refl _) fun b m u hu => by
          have ne : b ≠ l := fun q => na (by rw [← q]; exact m)
          rw [upd_ne ne]
          exact g12.hh b u hu
        refine g.nx _ Z2 σ _ kk ?_
        refine k1 g12.zz g12.nw (g12.zh.mut zl) (fun b nb u hu => ?_) (.lst upd_same (r1'.set (r2.mono g2.zz) j)) nA fun b m => .inl m
        have ne : b ≠ l := fun q => nb (by rw [q]; exact List.mem_cons_self)
        rw [upd_ne ne]
        exact g12.hh b u hu

theorem me_own {os : List O} (h : ME X ρ e (.lst os)) : MV X ρ e (.lst os) := h.v
/-- [..] * n, a list of its own -/
def repG {α : Type} (xs : List α) (k : Int) : List α := (List.replicate k.toNat xs).flatten
theorem RepL.rep {K : PySem.W.Frag} {Z : Hp} {vs : List V} {ds : List D} (r : RepL K Z vs ds) : ∀ k : Nat, RepL K Z (List.replicate k vs).flatten (List.replicate k ds).flatten
  | 0 => .nil
  | k + 1 => by
    rw [List.replicate_succ, List.replicate_succ, List.flatten_cons, List.flatten_cons]
    exact r.append (r.rep k)
theorem me_rep (ha : MV X ρ a (.lst (ds.map .fz))) (hb : ME X ρ b (.fz (.int k))) (hk : -(2 ^ 63) ≤ k ∧ k < 2 ^ 63) (hl : ds.length * k.toNat ≤ sizeLine) : ME X ρ (.BinOp a .Mult b pos) (.lst ((repG ds k).map .fz)) := .mk fun Z0 F Z σ H s Q q =>
  PE_w (pe_op op_rep pe_w pe_w) (ha.run Z0 F Z σ H s _ fun v Z1 H1 A1 g1 r1 => hb.run Z0 F Z1 σ H1 (s.grow g1) _ fun w Z2 H2 A2 g2 r2 n2 => by
    cases r2 with
    | fz r2 =>
      cases r2
      cases r1 with
      | @lst l vs _ A h0 r1 =>
        have g := g1.trans g2
        obtain ⟨_, r1⟩ := r1.fzs
        refine ⟨l, k, vs, rfl, rfl, g2.hh _ _ h0, hk.1, hk.2, by rw [r1.length]; exact hl, fun p hp => ?_⟩
        exact q _ Z2 _ [p] (g.trans (Gr.new g.zh hp)) (.lst upd_same ((r1.mono g2.zz).rep _).own) (new_one (g.hh.free hp) (g.zh.free hp)))
/-- xs + ys, lists of its own -/
theorem me_catL {es1 : List D} (ha : MV X ρ a (.lst (ds.map .fz))) (hb : MV X ρ b (.lst (es1.map .fz))) (hl : ds.length + es1.length ≤ sizeLine) : ME X ρ (.BinOp a .Add b pos) (.lst ((ds ++ es1).map .fz)) := .mk fun Z0 F Z σ H s Q q =>
  PE_w (pe_op op_cat pe_w pe_w) (ha.run Z0 F Z σ H s _ fun v Z1 H1 A1 g1 r1 => hb.run Z0 F Z1 σ H1 (s.grow g1) _ fun w Z2 H2 A2 g2 r2 => by
    cases r2 with
    | @lst l2 us _ A2 h2 r2 =>
      cases r1 with
      | @lst l vs _ A h0 r1 =>
        have g := g1.trans g2
        obtain ⟨_, r1⟩ := r1.fzs
        obtain ⟨_, r2⟩ := r2.fzs
        refine ⟨l, l2, vs, us, rfl, rfl, g2.hh _ _ h0, h2, by rw [r1.length, r2.length]; exact hl, fun p hp => ?_⟩
        exact q _ Z2 _ [p] (g.trans (Gr.new g.zh hp)) (.lst upd_same ((r1.mono g2.zz).append r2).own) (new_one (g.hh.free hp) (g.zh.free hp)))
/-- xs[::-1] -/
theorem me_revL {kk : Nat} (ha : ML X ρ a ds) : ME X ρ (.Subscript a (.Slice none none (some (.UnaryOp .USub (.Constant (.int 1) kk p1) p2)) p3) pos) (.lst (ds.reverse.map .fz)) := .mk fun Z0 F Z σ H s Q q =>
  PE_w (L2.pe_revL pe_w) (ha.run Z0 F Z σ H s _ fun l vs Z1 H1 g1 l1 r1 => ⟨l, vs, rfl, l1, fun p hp =>
    q _ Z1 _ [p] (g1.trans (Gr.new g1.zh hp)) (.lst upd_same r1.reverse.own) (new_one (g1.hh.free hp) (g1.zh.free hp))⟩)
/-- a op b op' c, whole numbers -/
theorem mt_chain {op op' : CmpOp} {f f' : Int → Int → Bool} (ho : OpR X (compareOp op) (rI0 fun i j => .bl (f i j))) (ho' : OpR X (compareOp op') (rI0 fun i j => .bl (f' i j))) (ha : ME X ρ a (.fz (.int m))) (hb : ME X ρ b (.fz (.int n))) (hc : ME X ρ c (.fz (.int k)))
    (hm : lastMarks [op, op'] [b, c] = false := by with_unfolding_all rfl) : MT X ρ (.Compare a [op, op'] [b, c] pos) (f m n && f' n k) := .mk fun Z0 F Z σ H s Q q =>
  PT_w (pt_chain ho ho' pe_w pe_w pe_w hm) (ha.run Z0 F Z σ H s _ fun v Z1 H1 A1 g1 r1 n1 => hb.run Z0 F Z1 σ H1 (s.grow g1) _ fun w Z2 H2 A2 g2 r2 n2 => by
    cases r1 with
    | fz r1 =>
      cases r1
      cases r2 with
      | fz r2 =>
        cases r2
        refine ⟨m, n, rfl, rfl, f m n, rfl, ?_⟩
        cases hf : f m n with
        | false =>
          rw [if_neg Bool.false_ne_true]
          have q' := q Z2 H2 (g1.trans g2)
          rw [hf] at q'
          exact ⟨false, rfl, q'⟩
        | true =>
          rw [if_pos rfl]
          refine hc.run Z0 F Z2 σ H2 (s.grow (g1.trans g2)) _ fun y Z3 H3 A3 g3 r3 n3 => ?_
          cases r3 with
          | fz r3 =>
            cases r3
            have q' := q Z3 H3 ((g1.trans g2).trans g3)
            rw [hf] at q'
            exact ⟨n, k, rfl, rfl, f' n k, rfl, q'⟩)
theorem me_chain {op op' : CmpOp} {f f' : Int → Int → Bool} (ho : OpR X (compareOp op) (rI0 fun i j => .bl (f i j))) (ho' : OpR X (compareOp op') (rI0 fun i j => .bl (f' i j))) (ha : ME X ρ a (.fz (.int m))) (hb : ME X ρ b (.fz (.int n))) (hc : ME X ρ c (.fz (.int k)))
    (hm : lastMarks [op, op'] [b, c] = false := by with_unfolding_all rfl) : ME X ρ (.Compare a [op, op'] [b, c] pos) (.fz (.bl (f m n && f' n k))) := .mk fun Z0 F Z σ H s Q q =>
  PE_w (pe_chain ho ho' pe_w pe_w pe_w hm) (ha.run Z0 F Z σ H s _ fun v Z1 H1 A1 g1 r1 n1 => hb.run Z0 F Z1 σ H1 (s.grow g1) _ fun w Z2 H2 A2 g2 r2 n2 => by
    cases r1 with
    | fz r1 =>
      cases r1
      cases r2 with
      | fz r2 =>
        cases r2
        refine ⟨m, n, rfl, rfl, f m n, rfl, ?_⟩
        cases hf : f m n with
        | false =>
          rw [if_neg Bool.false_ne_true]
          have q' := q (.bl (f m n && f' n k)) Z2 H2 [] (g1.trans g2) (.fz (.bl _)) .nil
          rw [hf] at q'
          exact q'
        | true =>
          rw [if_pos rfl]
          refine hc.run Z0 F Z2 σ H2 (s.grow (g1.trans g2)) _ fun y Z3 H3 A3 g3 r3 n3 => ?_
          cases r3 with
          | fz r3 =>
            cases r3
            have q' := q (.bl (f m n && f' n k)) Z3 H3 [] ((g1.trans g2).trans g3) (.fz (.bl _)) .nil
            rw [hf] at q'
            exact ⟨n, k, rfl, rfl, q'⟩)
/-! ### wide numbers -/
theorem me_mulW (ha : ME X ρ a (.fz (.int m))) (hb : ME X ρ b (.fz (.int n))) (c : CMulW m n) : ME X ρ (.BinOp a .Mult b pos) (.fz (.int (m * n))) := me_op op_mulW ha hb (.int m) (.int n) (.int _) fun _ _ q => ⟨m, n, rfl, rfl, c, q⟩
/-! ### texts -/
theorem me_strI (hg : Gl X "str") (hm : X.mg "str" = none) (ha : ME X ρ a (.fz (.int m))) (hl : m.natAbs.log2 < 1920) (n1 : NS X a := by exact fun _ => rfl) : ME X ρ (.Call (.Name "str" p0) [a] [] pos) (.fz (.str (toString m))) := .mk fun Z0 F Z σ H s Q q =>
  PE_w (pe_callTy call_str_int hg hm (by decide +kernel) (pa_cons pe_w pa_nil (n1 _)) (he := n1 _)) (ha.run Z0 F Z σ H s _ fun v Z1 H1 A1 g1 r1 n1 => by
    cases r1 with
    | fz r1 =>
      cases r1
      exact ⟨m, rfl, hl, q _ Z1 H1 [] g1 (.fz (.str _)) .nil⟩)
theorem me_intS (hg : Gl X "int") (hm : X.mg "int" = none) (ha : ME X ρ a (.fz (.str p))) (hn : PySem.intText? p = some m) (hl : p.length ≤ 640) (n1 : NS X a := by exact fun _ => rfl) : ME X ρ (.Call (.Name "int" p0) [a] [] pos) (.fz (.int m)) := .mk fun Z0 F Z σ H s Q q =>
  PE_w (pe_callTy call_int_str hg hm (by decide +kernel) (pa_cons pe_w pa_nil (n1 _)) (he := n1 _)) (ha.run Z0 F Z σ H s _ fun v Z1 H1 A1 g1 r1 n1 => by
    cases r1 with
    | fz r1 =>
      cases r1
      exact ⟨p, m, rfl, hn, hl, q _ Z1 H1 [] g1 (.fz (.int _)) .nil⟩)
theorem me_divmod (hg : Gl X "divmod") (hm : X.mg "divmod" = none) (ha : ME X ρ a (.fz (.int m))) (hb : ME X ρ b (.fz (.int n))) (c : CDiv m n := by exact ⟨by decide, by decide⟩) (n1 : NS X a := by exact fun _ => rfl) (n2 : NS X b := by exact fun _ => rfl) :
    ME X ρ (.Call (.Name "divmod" p0) [a, b] [] pos) (.fz (.tup [.int (m / n), .int (m % n)])) := .mk fun Z0 F Z σ H s Q q =>
  PE_w (pe_callB call_divmod hg hm (by decide +kernel) (pa_cons pe_w (pa_cons pe_w pa_nil (n2 _)) (n1 _)) (he := n1 _) (hpl := by rw [n2 []]; rfl)) (ha.run Z0 F Z σ H s _ fun v Z1 H1 A1 g1 r1 n1 => hb.run Z0 F Z1 σ H1 (s.grow g1) _ fun w Z2 H2 A2 g2 r2 n2 => by
    cases r1 with
    | fz r1 =>
      cases r2 with
      | fz r2 =>
        cases r1
        cases r2
        have g := g1.trans g2
        refine ⟨m, n, rfl, c, fun p hp => ?_⟩
        exact q _ _ _ [] (g.trans (Gr.newz g.zh hp)) (.fz (.tup (.of upd_same) (.cons (.int _) (.cons (.int _) .nil)))) .nil)
/-- a sign in a written text -/
theorem me_inS {ch : Nat} (ha : ME X ρ a (.fz (.str ⟨#[ch]⟩))) (hb : ME X ρ b (.fz (.str q))) (hm : behindInMarks .In b = false := by rfl) : ME X ρ (.Compare a [.In] [b] pos) (.fz (.bl (decide (ch ∈ q.cps.toList)))) := me_cmp op_in_sign ha hb (.str _) (.str _) (fun _ _ k => ⟨ch, q, rfl, rfl, k⟩) hm
theorem mt_inS {ch : Nat} (ha : ME X ρ a (.fz (.str ⟨#[ch]⟩))) (hb : ME X ρ b (.fz (.str q))) (hm : behindInMarks .In b = false := by rfl) : MT X ρ (.Compare a [.In] [b] pos) (decide (ch ∈ q.cps.toList)) := mt_cmp op_in_sign ha hb (.str _) (.str _) (fun _ _ k => ⟨ch, q, rfl, rfl, k⟩) hm
theorem me_niS {ch : Nat} (ha : ME X ρ a (.fz (.str ⟨#[ch]⟩))) (hb : ME X ρ b (.fz (.str q))) (hm : behindInMarks .NotIn b = false := by rfl) : ME X ρ (.Compare a [.NotIn] [b] pos) (.fz (.bl (!decide (ch ∈ q.cps.toList)))) := me_cmp op_notIn_sign ha hb (.str _) (.str _) (fun _ _ k => ⟨ch, q, rfl, rfl, k⟩) hm
theorem mt_niS {ch : Nat} (ha : ME X ρ a (.fz (.str ⟨#[ch]⟩))) (hb : ME X ρ b (.fz (.str q))) (hm : behindInMarks .NotIn b = false := by rfl) : MT X ρ (.Compare a [.NotIn] [b] pos) (!decide (ch ∈ q.cps.toList)) := mt_cmp op_notIn_sign ha hb (.str _) (.str _) (fun _ _ k => ⟨ch, q, rfl, rfl, k⟩) hm
/-- x = [elt for target in source], on one line -/
theorem m_setLc {α : Type} {xs : List α} {enc : α → D} {wi : TI} {g : TG} {scope : Scope} {vs : List Nat} (p : ∀ te : TE, (∀ (s : Shared) (H : Hp) (C : Addr) (cl : List (Str × Addr)) (fp : List Addr), PE (X.blk s H scope (compEnvC scope cl C X.env) fp) elt te) → PS X st (tAsg (tLc wi g tYes te vs) (gName i)))
    (h : MIc X ρ wi (xs.map enc)) (f : α → D) (hz : xs.length < sizeLine)
    (hs : ∀ d ∈ xs, ∃ τ ws, MTg g X.K (wipeS ρ vs) (enc d) τ ws ∧ (∀ w ∈ ws, w ∈ vs) ∧ ∀ (s : Shared) (H : Hp) (C : Addr) (cl : List (Str × Addr)) (fp : List Addr), ME (X.blk s H scope (compEnvC scope cl C X.env) fp) τ elt (.fz (f d)))
    (k : G.nx (ρ.set i (some (.lst ((xs.map f).map .fz))))) (hi : i < ρ.length := by exact Nat.le_of_ble_eq_true rfl) : MS1 X ρ st G := .mk fun Z0 F Z σ H D s gd => by
  refine PS_w (p (fun σ H Q => ∀ (s : Shared) (H' : Hp) (C : Addr) (cl : List (Str × Addr)) (fp : List Addr), wE (X.blk s H' scope (compEnvC scope cl C X.env) fp) elt σ H Q) fun s H' C cl fp => ⟨fun pins s' σ H Q I k => k s H' C cl fp pins s' I⟩) ?_
  refine lc_run h (fun _ => true) f hz (fun d m => ?_) s fun v Z' H' A g' r n => ?_
  · obtain ⟨τ, ws, t1, t2, t3⟩ := hs d m
    refine ⟨τ, ws, t1, t2, fun Z0 F Z σ H s Q q => q Z H (Gr.refl s.ex), fun _ Z0 F Z σ H s Q q s' H' C cl fp => (t3 s' H' C cl fp).run Z0 F Z σ H s Q fun v Z' H' A g r n => ?_⟩
    cases r with
    | fz r => exact q v Z' H' g r
  · rw [List.filter_eq_self.mpr fun _ _ => rfl] at r
    exact gd.nx _ Z' _ H' k (s.put g' r n hi)
theorem me_gI {t : Tok} (hm : X.mg nm = some (.int m t)) (hg : Gl X nm := by rfl) (hd : (nm == ("__debug__" : Str)) = false := by decide) : ME X ρ (.Name nm pos) (.fz (.int m)) := me_c (pe_glob (v := .int m) hg hm ⟨t, rfl⟩ hd) (.int m)
theorem me_gS {t : Tok} (hm : X.mg nm = some (.str p t)) (hg : Gl X nm := by rfl) (hd : (nm == ("__debug__" : Str)) = false := by decide) : ME X ρ (.Name nm pos) (.fz (.str p)) := me_c (pe_glob (v := .str p) hg hm ⟨t, rfl⟩ hd) (.str p)
end
end M
namespace M
open PySem L2 PySem.Spec PyProof.Rows
theorem Le.trans : ∀ {ρ τ υ : Slots}, Le ρ τ → Le τ υ → Le ρ υ
  | _, _, _, .nil, h => h
  | _, _, _, .no l, .no r => .no (l.trans r)
  | _, _, _, .no l, .eq r => .no (l.trans r)
  | _, _, _, .eq l, .no r => .no (l.trans r)
  | _, _, _, .eq l, .eq r => .eq (l.trans r)
/-! ### instances of own classes -/
/-- what the text tells of a class: its attributes' names are no names of the class -/
structure OC (K : PySem.W.Frag) (C : Addr) (ns : List Str) : Prop where
  cl : Cls K C
  na : ∀ f ∈ ns, NoAttr K C f
def nmAt : List Str → Str → Option Nat
  | [], _ => none
  | n :: r, f => if f = n then some 0 else (nmAt r f).map (· + 1)
theorem nmAt_mem : ∀ {ns : List Str} {f : Str} {j : Nat}, nmAt ns f = some j → f ∈ ns
  | n :: r, f, j, h => by
    unfold nmAt at h
    by_cases e : f = n
    · subst e
      exact List.mem_cons_self
    · rw [if_neg e] at h
      cases h1 : nmAt r f with
      | none =>
        rw [h1] at h
        cases h
      | some i => exact List.mem_cons_of_mem _ (nmAt_mem h1)
theorem look_zip : ∀ {ns : List Str} {f : Str} {j : Nat} {vs : List V} {v : V}, nmAt ns f = some j → vs[j]? = some v → (ns.zip vs).lookup f = some v
  | n :: r, f, j, vs, v, h, hv => by
    unfold nmAt at h
    cases vs with
    | nil => simp at hv
    | cons u us =>
      by_cases e : f = n
      · rw [if_pos e] at h
        cases h
        simp at hv
        subst hv
        show List.lookup f ((n, u) :: r.zip us) = _
        simp only [List.lookup, beq_iff_eq.mpr e]
      · rw [if_neg e] at h
        cases h1 : nmAt r f with
        | none =>
          rw [h1] at h
          cases h
        | some i =>
          rw [h1] at h
          cases h
          show List.lookup f ((n, u) :: r.zip us) = _
          simp only [List.lookup, beq_eq_false_iff_ne.mpr e]
          exact look_zip h1 (by simpa using hv)
theorem look_none : ∀ {ns : List Str} {f : Str} {vs : List V}, nmAt ns f = none → (ns.zip vs).lookup f = none
  | [], f, vs, _ => by simp
  | n :: r, f, [], _ => by simp
  | n :: r, f, u :: us, h => by
    unfold nmAt at h
    by_cases e : f = n
    · rw [if_pos e] at h
      cases h
    · rw [if_neg e] at h
      show List.lookup f ((n, u) :: r.zip us) = none
      simp only [List.lookup, beq_eq_false_iff_ne.mpr e]
      refine look_none ?_
      cases h1 : nmAt r f with
      | none => rfl
      | some i =>
        rw [h1] at h
        cases h
/-- a name is put: it stands there, or comes behind -/
def nsPut : List Str → Str → List Str
  | [], f => [f]
  | n :: r, f => if n = f then n :: r else n :: nsPut r f
def xsPut {α : Type} : List Str → Str → List α → α → List α
  | n :: r, f, u :: us, v => if n = f then v :: us else u :: xsPut r f us v
  | _, _, _, v => [v]
theorem put_zip : ∀ {ns : List Str} {f : Str} {vs : List V} {v : V}, vs.length = ns.length → putF f v (ns.zip vs) = (nsPut ns f).zip (xsPut ns f vs v)
  | [], f, [], v, _ => rfl
  | n :: r, f, u :: us, v, h => by
    show putF f v ((n, u) :: r.zip us) = _
    unfold putF nsPut xsPut
    by_cases e : n = f
    · rw [if_pos e, if_pos e, if_pos e]
      rfl
    · rw [if_neg e, if_neg e, if_neg e, put_zip (by simpa using h)]
      rfl
section
variable {K : PySem.W.Frag} {Z Z' F F' H H' : Hp}
theorem RepOL.put {w : V} {o : O} {B : List Addr} (r : RepO K Z F H w o B) (nB : B.Nodup) : ∀ {ns : List Str} {f : Str} {vs : List V} {os : List O} {A : List Addr}, vs.length = ns.length → RepOL K Z F H vs os A → A.Nodup → (∀ a ∈ A, a ∉ B) →
    ∃ A', RepOL K Z F H (xsPut ns f vs w) (xsPut ns f os o) A' ∧ A'.Nodup ∧ ∀ a ∈ A', a ∈ A ∨ a ∈ B
  | [], f, [], [], _, _, .nil, _, _ => ⟨B ++ [], .cons r .nil, by rw [List.append_nil]; exact nB, fun a m => .inr (by rw [List.append_nil] at m; exact m)⟩
  | n :: ns, f, v :: vs, o1 :: os, _, hl, .cons (A := A1) (B := A2) h1 h2, nA, d => by
    obtain ⟨n1, n2, n3⟩ := List.nodup_append.mp nA
    unfold xsPut
    by_cases e : n = f
    · rw [if_pos e, if_pos e]
      refine ⟨B ++ A2, .cons r h2, List.nodup_append.mpr ⟨nB, n2, fun a ha b hb e => ?_⟩, fun a m => ?_⟩
      · subst e
        exact d a (List.mem_append_right _ hb) ha
      · rcases List.mem_append.mp m with m | m
        · exact .inr m
        · exact .inl (List.mem_append_right _ m)
    · rw [if_neg e, if_neg e]
      obtain ⟨A', q1, q2, q3⟩ := RepOL.put r nB (ns := ns) (f := f) (vs := vs) (os := os) (by simpa using hl) h2 n2 fun a m => d a (List.mem_append_right _ m)
      refine ⟨A1 ++ A', .cons h1 q1, List.nodup_append.mpr ⟨n1, q2, fun a ha b hb e => ?_⟩, fun a m => ?_⟩
      · subst e
        rcases q3 a hb with z | z
        · exact n3 a ha a z rfl
        · exact d a (List.mem_append_left _ ha) z
      · rcases List.mem_append.mp m with m | m
        · exact .inl (List.mem_append_left _ m)
        · exact (q3 a m).imp (List.mem_append_right _) id
theorem RepO.unAt {v : V} {a C : Addr} {ns : List Str} {os : List O} {A : List Addr} (r : RepO K Z F H v (.at a C ns os) A) : RepO K Z F H v (.ins C ns os) A := by
  cases r with
  | «at» h q => exact .ins h q
end
section
variable {X : Cx} {ρ : Slots} {e a b c elt : Expr} {es rest : List Expr} {st : Stmt} {sts : List Stmt} {G : Go} {o o1 o2 : O} {d : D} {ds : List D} {os : List O} {pos p0 p1 p2 p3 p4 p5 p6 : Pos} {i : Nat} {x nm f : Str} {m n k : Int} {p q : Str} {C : Addr} {ns : List Str}
/-- e.f of a frozen instance -/
theorem me_fld {j : Nat} (h : MV X ρ e (.fz (.ins C ns ds))) (cc : OC X.K C ns) (hd : ds[j]? = some d := by rfl) (hj : nmAt ns f = some j := by decide +kernel) (hb : attributeBase e f X.env (eval e X.env) = eval e X.env := by rfl) : ME X ρ (.Attribute e f pos) (.fz d) := .mk fun Z0 F Z σ H s Q q =>
  PE_w (pe_fld pe_w hb) (h.run Z0 F Z σ H s _ fun v Z1 H1 A g1 r1 => by
    cases r1 with
    | fz r1 =>
      cases r1 with
      | @ins a C dx ns vs ds hz rl =>
        obtain ⟨v, hv, rv⟩ := rl.get hd
        exact ⟨a, C, dx, _, v, rfl, g1.zh _ _ hz, cc.cl, cc.na f (nmAt_mem hj), look_zip hj hv, q v Z1 H1 [] g1 (.fz rv) .nil⟩)
/-- e.f of an own instance -/
theorem mv_fld {j : Nat} (h : MV X ρ e (.ins C ns os)) (cc : OC X.K C ns) (hd : os[j]? = some o := by rfl) (hj : nmAt ns f = some j := by decide +kernel) (hb : attributeBase e f X.env (eval e X.env) = eval e X.env := by rfl) : MV X ρ (.Attribute e f pos) o := .mk fun Z0 F Z σ H s Q q =>
  PE_w (pe_fld pe_w hb) (h.run Z0 F Z σ H s _ fun v Z1 H1 A g1 r1 => by
    cases r1 with
    | @ins a C dx ns vs os A hz rl =>
      obtain ⟨v, B, hv, rv⟩ := rl.get hd
      exact ⟨a, C, dx, _, v, rfl, hz, cc.cl, cc.na f (nmAt_mem hj), look_zip hj hv, q v Z1 H1 B g1 rv⟩)
theorem MV.unAt {l : Addr} (h : MV X ρ e (.at l C ns os)) : MV X ρ e (.ins C ns os) := .mk fun Z0 F Z σ H s Q q => h.run Z0 F Z σ H s Q fun v Z1 H1 A g r => q v Z1 H1 A g r.unAt
theorem ME.unAt {l : Addr} (h : ME X ρ e (.at l C ns os)) : ME X ρ e (.ins C ns os) := .mk fun Z0 F Z σ H s Q q => h.run Z0 F Z σ H s Q fun v Z1 H1 A g r => q v Z1 H1 A g r.unAt
theorem mv_fldA {l : Addr} {j : Nat} (h : MV X ρ e (.at l C ns os)) (cc : OC X.K C ns) (hd : os[j]? = some o := by rfl) (hj : nmAt ns f = some j := by decide +kernel) (hb : attributeBase e f X.env (eval e X.env) = eval e X.env := by rfl) : MV X ρ (.Attribute e f pos) o := mv_fld h.unAt cc hd hj hb
/-- x.f = e, x a slot with an own instance at a known place; all: every attribute's name that the class has -/
theorem m_setFld {l : Addr} {all : List Str} (pn : PE X (.Name x p1) (tVar i)) (hi : ρ[i]? = some (some (.at l C ns os))) (hl : os.length = ns.length := by rfl) (h1000 : ns.length < 1000 := by decide) (cc : OC X.K C all) (hm : f ∈ all := by decide +kernel) (he : ME X ρ e o)
    (kk : G.nx (ρ.set i (some (.at l C (nsPut ns f) (xsPut ns f os o)))))
    (hs : swapsWith e (some (.Attribute (.Name x p1) f p2)) p3.line X.env = pure false := by rfl) : MS1 X ρ (.Assign [.Attribute (.Name x p1) f p2] e p3) G := .mk fun Z0 F Z σ H D s g => by
  obtain ⟨v, A, e1, r1, nA, dA, k1⟩ := s.upd hi
  cases r1 with
  | @«at» l C dx ns vs os A h0 r1 =>
    have hlv : vs.length = ns.length := by rw [r1.length]; exact hl
    refine PS_w (ps_fld pn pe_w hs) (he.run Z0 F Z σ H s _ fun w Z1 H1 B g1 r2 n2 => ?_)
    refine ⟨_, e1, l, C, dx, _, rfl, g1.hh _ _ h0, cc.cl, cc.na f hm, by rw [List.length_zip, hlv]; omega, ?_⟩
    rw [put_zip hlv]
    obtain ⟨na, nA'⟩ := List.nodup_cons.mp nA
    have zl : Z1 l = none := by
      rw [g1.nw l _ h0]
      exact (dA l List.mem_cons_self).1
    have there : ∀ b ∈ l :: A, ∃ u, H b = some u := (RepO.at (Z := Z) (F := F) (H := H) h0 r1).there
    have nb : ∀ b ∈ B, b ≠ l := fun b m q => by
      have := (n2.2 b m).1
      rw [q, h0] at this
      cases this
    have r1' : RepOL X.K Z1 F (upd H1 l (.ins C dx ((nsPut ns f).zip (xsPut ns f vs w)))) vs os A := r1.mono g1.zz (Ex.refl _) fun b m u hu => by
      have ne : b ≠ l := fun q => na (by rw [← q]; exact m)
      rw [upd_ne ne]
      exact g1.hh b u hu
    have r2' : RepO X.K Z1 F (upd H1 l (.ins C dx ((nsPut ns f).zip (xsPut ns f vs w)))) w o B := r2.frame fun b m => upd_ne (nb b m)
    obtain ⟨A', q1, q2, q3⟩ := RepOL.put r2' n2.1 hlv r1' nA' fun b m mb => by
      obtain ⟨u, hu⟩ := there b (List.mem_cons_of_mem _ m)
      rw [(n2.2 b mb).1] at hu
      cases hu
    refine g.nx _ Z1 σ _ kk ?_
    refine k1 g1.zz g1.nw (g1.zh.mut zl) (fun b nb u hu => ?_) (.at upd_same q1) (List.nodup_cons.mpr ⟨fun m => ?_, q2⟩) fun b m => ?_
    · have ne : b ≠ l := fun q => nb (by rw [q]; exact List.mem_cons_self)
      rw [upd_ne ne]
      exact g1.hh b u hu
    · rcases q3 _ m with z | z
      · exact na z
      · exact nb _ z rfl
    · rcases List.mem_cons.mp m with z | z
      · exact .inl (by rw [z]; exact List.mem_cons_self)
      · rcases q3 _ z with z | z
        · exact .inl (List.mem_cons_of_mem _ z)
        · exact .inr (n2.2 b z)
/-! ### made by __init__ -/
/-- the promise of an __init__: of a new instance it makes one with the attributes ns -/
def SpI {α : Type} (K : PySem.W.Frag) (C : Addr) (ns : List Str) (ar : α → List O) (pre : α → Prop) (res : α → List O) : Sp := fun vs H Q _ => ∃ (x : α) (Z F : Hp) (l dx : Addr) (vs' : List V), vs = .ref l :: vs' ∧ Ex Z F ∧ Ex F H ∧ F l = none ∧ H l = some (.ins C dx []) ∧ RepOL K Z F F vs' (ar x) [] ∧ pre x ∧
  ∀ Z' H' A, Gr Z F Z' H' → RepO K Z' (fun _ => none) H' (.ref l) (.at l C ns (res x)) A → New F Z' A → Q .non H'
structure Mk1 (P : Program) (w : World) (K : PySem.W.Frag) (mg : Str → Option Value) (base : Heap) (name : Str) (C : Addr) (k : Nat) (ps : List Str) (sp : Sp) : Prop where
  ex : ∃ (f : Addr) (fd : FuncData), mg name = some (.ref C) ∧ Mk K C f ∧ Binds K fd ps [] ∧ FnOk P w K mg base CX0 k f fd ps sp
theorem me_make {α : Type} {ar : α → List O} {pre : α → Prop} {res : α → List O} {k : Nat} {ps : List Str} (c : Mk1 X.prog X.w X.K X.mg X.base nm C k ps (SpI X.K C ns ar pre res)) (x : α) (ha : MA X ρ (e :: es) (ar x)) (hp : pre x) (hr : Room (k + 1) X.A) {os : List O} (hres : res x = os := by first | (dsimp only; done) | (dsimp only; rfl) | rfl) (hg : Gl X nm := by rfl)
    (hdb : (nm == ("__debug__" : Str)) = false := by decide) (he : starEach (e :: es) X.env = (false, eval e X.env) :: starEach es X.env := by rfl) (hpl : (backTo pos (starEach es X.env)).any (·.1) = false := by rfl) : ME X ρ (.Call (.Name nm p0) (e :: es) [] pos) (.ins C ns os) := by
  subst hres
  obtain ⟨f, fd, hm, M, hb, F⟩ := c.ex
  exact .mk fun Z0 F0 Z σ H s Q q => PE_w (pe_make M F hr hg hm hb .nil pass0 pa_w hdb he hpl) (ha.run Z0 F0 Z σ H s _ fun vs Z1 H1 g1 r1 l dx nl ndx ne =>
    ⟨x, Z1, H1, l, dx, vs, by rw [List.append_nil], g1.zh, (Ex.new ndx).trans (Ex.new (by rw [upd_ne ne.symm]; exact nl)), nl, upd_same, r1, hp, fun Z2 H2 A g2 r2 n2 =>
      ⟨rfl, q (.ref l) Z2 H2 A (g1.trans g2) (r2.unAt.mono (Ex.refl _) (fun _ _ z => by cases z) fun _ _ _ z => z) ⟨n2.1, fun a m => ⟨g1.hh.free (n2.2 a m).1, (n2.2 a m).2⟩⟩⟩⟩)
/-- an __init__'s body keeps its promise -/
theorem fn_mI {α : Type} {P : Program} {w : World} {K : PySem.W.Frag} {mg : Str → Option Value} {base : Heap} {x qual : Str} {st : Stmt} {f : Addr} {fd : FuncData} {N ps : List Str} {k : Nat} {ar : α → List O} {pre : α → Prop} {res : α → List O} {C : Addr} {ns : List Str}
    (F : Fun K x qual st f fd) (S : FnScope N ps (defScope st)) (hl : ∀ x, (ar x).length + 1 = ps.length) (hn : ∀ x, pre x → O.nvL (res x) = true)
    (hb : ∀ (cdv : Value) (A : Around) (outer : List Env) (s : Shared) (H : Hp) (E : XK), Room k (A.deeper (envOfC qual (defScope st) s.heap.objs.size f cdv)) → ∀ (l : Addr) x, pre x →
      MS (cxOf CX0 P w K mg base N qual (defScope st) f cdv A outer s H E).nox (some (.at l C [] []) :: (ar x).map some ++ List.replicate (N.length - ps.length) none) (defBody st) { nx := fun ρ => ρ[0]? = some (some (.at l C ns (res x))) }) :
    FnOk P w K mg base CX0 (k + 1) f fd ps (SpI K C ns ar pre res) := by
  refine F.ok S (fun vs H Q E h => ?_) (fun cdv A outer s H vs Q E hr h => ?_)
  · obtain ⟨x, Z, F, l, dx, vs', rfl, _, _, _, _, r, _⟩ := h
    rw [List.length_cons, r.length, hl]
  · obtain ⟨x, Z, F0, l, dx, vs', rfl, ez, ef, nl, hi, r, hp, q⟩ := h
    have zl : Z l = none := ez.free nl
    have st0 : StL K Z F0 H (some (.at l C [] []) :: (ar x).map some) (some (.ref l) :: vs'.map some) ([l] ++ []) := .so (.at (dx := dx) hi .nil) (stL_args (r.mono (Ex.refl _) (Ex.refl _) fun _ m => nomatch m))
    refine ⟨_, pss_w, (hb cdv A outer s H E hr l x hp).run Z F0 Z _ H _ ⟨⟨Ex.refl _, ef, ez.trans ef, fun _ _ _ => rfl⟩, [l] ++ [], ?_, by simp, fun a m => ?_⟩ ⟨fun ρ Z' σ H' e s' => ?_, fun _ _ _ _ z => z.elim, fun _ _ _ _ z => z.elim, fun _ _ _ _ _ z => z.elim, fun _ _ _ _ _ _ z => z.elim, GX.never fun _ z => z⟩⟩
    · have e : L2.start N (.ref l :: vs') = (some (.ref l) :: vs'.map some) ++ List.replicate (N.length - ps.length) none := by
        unfold L2.start
        rw [List.length_cons, r.length, hl]
        rfl
      rw [e]
      exact stL_more _ st0
    · have : a = l := by simpa using m
      subst this
      exact ⟨zl, nl⟩
    · obtain ⟨A1, t1, t2, t3⟩ := s'.st
      obtain ⟨v, B, u1, u2, u3, u4, _⟩ := t1.at e t2
      cases u2 with
      | «at» h0 rl => exact q Z' H' _ s'.gr ((RepO.at h0 rl).unF (show O.nvL (res x) = true from hn x hp)) ⟨u3, fun a m => ⟨(t3 a (u4 a m)).2, (t3 a (u4 a m)).1⟩⟩
/-! ### methods that change nothing -/
structure Mt1 (P : Program) (w : World) (K : PySem.W.Frag) (mg : Str → Option Value) (base : Heap) (C : Addr) (m : Str) (k : Nat) (ps : List Str) (sp : Sp) : Prop where
  ex : ∃ (f : Addr) (fd : FuncData), Meth K C m f ∧ Binds K fd ps [] ∧ FnOk P w K mg base CX0 k f fd ps sp
theorem me_mt {α : Type} {ar : α → List O} {pre : α → Prop} {res : α → O} {k : Nat} {ps : List Str} {ro : List O} {pl : Sem Bool} (c : Mt1 X.prog X.w X.K X.mg X.base C nm k ps (SpM X.K ar pre res)) (cc : OC X.K C ns) (x : α) (ho : MV X ρ a (.fz (.ins C ns ds))) (ha : MA X ρ (e :: es) ro) (hx : ar x = .fz (.ins C ns ds) :: ro) (hp : pre x) (hr : Room k X.A) {o : O} (hres : res x = o := by first | (dsimp only; done) | (dsimp only; rfl) | rfl)
    (hnm : nmAt ns nm = none := by decide +kernel) (he : starEach (e :: es) X.env = (false, eval e X.env) :: starEach es X.env := by rfl) (hpl : (backTo pos (starEach es X.env)).any (·.1) = false := by rfl)
    (ht : eval (.Call (.Attribute a nm p1) (e :: es) [] pos) X.env = (do
      let ov ← eval a X.env
      standAt p1.atName
      let (f, first) ← holding [ov] (getMethod ov nm pl)
      callWith pos f first (backTo pos (starEach (e :: es) X.env)) (backToKw pos (keywordEach [] X.env))) := by rfl) : ME X ρ (.Call (.Attribute a nm p1) (e :: es) [] pos) o := by
  subst hres
  obtain ⟨f, fd, hm, hb, F⟩ := c.ex
  exact .mk fun Z0 F0 Z σ H s Q q => PE_w (pe_meth (pl := pl) pe_w cc.cl hm F hr hb .nil pass0 pa_w he hpl ht) (ho.run Z0 F0 Z σ H s _ fun v Z1 H1 A1 g1 r1 => by
    cases r1 with
    | fz r1 =>
      have r1' := r1
      cases r1' with
      | @ins l C dx ns vs0 ds hz rl =>
        refine ⟨l, dx, _, rfl, g1.zh _ _ hz, look_none hnm, ha.run Z0 F0 Z1 σ H1 (s.grow g1) _ fun vs Z2 H2 g2 r2 => ?_⟩
        refine ⟨x, Z2, g2.zh, by rw [List.append_nil, hx]; exact .cons (A := []) (.fz (r1.mono g2.zz)) r2, hp, fun v Z3 H3 A g3 r3 n3 => ?_⟩
        exact q v Z3 H3 A ((g1.trans g2).trans g3) (r3.mono (Ex.refl _) (fun _ _ z => by cases z) fun _ _ _ z => z) ⟨n3.1, fun a m => ⟨(g1.trans g2).hh.free (n3.2 a m).1, (n3.2 a m).2⟩⟩)
theorem me_mt0 {α : Type} {ar : α → List O} {pre : α → Prop} {res : α → O} {k : Nat} {ps : List Str} {pl : Sem Bool} (c : Mt1 X.prog X.w X.K X.mg X.base C nm k ps (SpM X.K ar pre res)) (cc : OC X.K C ns) (x : α) (ho : MV X ρ a (.fz (.ins C ns ds))) (hx : ar x = [.fz (.ins C ns ds)]) (hp : pre x) (hr : Room k X.A) {o : O} (hres : res x = o := by first | (dsimp only; done) | (dsimp only; rfl) | rfl)
    (hnm : nmAt ns nm = none := by decide +kernel)
    (ht : eval (.Call (.Attribute a nm p1) [] [] pos) X.env = (do
      let ov ← eval a X.env
      standAt p1.atName
      let (f, first) ← holding [ov] (getMethod ov nm pl)
      callWith pos f first (backTo pos (starEach [] X.env)) (backToKw pos (keywordEach [] X.env))) := by rfl) : ME X ρ (.Call (.Attribute a nm p1) [] [] pos) o := by
  subst hres
  obtain ⟨f, fd, hm, hb, F⟩ := c.ex
  exact .mk fun Z0 F0 Z σ H s Q q => PE_w (pe_meth0 (pl := pl) pe_w cc.cl hm F hr hb .nil pass0 ht) (ho.run Z0 F0 Z σ H s _ fun v Z1 H1 A1 g1 r1 => by
    cases r1 with
    | fz r1 =>
      have r1' := r1
      cases r1' with
      | @ins l C dx ns vs0 ds hz rl =>
        refine ⟨l, dx, _, rfl, g1.zh _ _ hz, look_none hnm, ?_⟩
        refine ⟨x, Z1, g1.zh, by rw [List.append_nil, hx]; exact .cons (A := []) (.fz r1) .nil, hp, fun v Z3 H3 A g3 r3 n3 => ?_⟩
        exact q v Z3 H3 A (g1.trans g3) (r3.mono (Ex.refl _) (fun _ _ z => by cases z) fun _ _ _ z => z) ⟨n3.1, fun a m => ⟨g1.hh.free (n3.2 a m).1, (n3.2 a m).2⟩⟩)
end
end M
namespace M
open PySem L2 PySem.Spec PyProof.Rows
section
variable {X : Cx} {ρ : Slots} {e a b c elt : Expr} {es rest : List Expr} {st : Stmt} {sts : List Stmt} {G : Go} {o o1 o2 : O} {d : D} {ds : List D} {os : List O} {pos p0 p1 p2 p3 p4 p5 p6 : Pos} {i : Nat} {x nm f : Str} {m n k : Int} {p q : Str} {C : Addr} {ns : List Int}
/-- xs.count(k) of ints -/
theorem me_count (ha : ML X ρ a (ns.map .int)) (hb : ME X ρ b (.fz (.int k)))
    (pm : PE X (.Call (.Attribute a "count" p1) [b] [] pos) (tBM X.K "list" (rCntI X.K) (wE X a) (tCons (wE X b) tNil)) := by exact pe_bm PySem.F.plainAttrs_list PySem.F.slot_list_count PySem.F.type_list_count mt_lcount pe_w (pa_cons pe_w pa_nil)) : ME X ρ (.Call (.Attribute a "count" p1) [b] [] pos) (.fz (.int (ns.count k : Nat))) := .mk fun Z0 F Z σ H s Q q =>
  PE_w pm (ha.run Z0 F Z σ H s _ fun l vs Z1 H1 g1 l1 r1 => ⟨.inl ⟨rfl, vs, l1⟩, hb.run Z0 F Z1 σ H1 (s.grow g1) _ fun v Z2 H2 A2 g2 r2 n2 => by
    cases r2 with
    | fz r2 =>
      cases r2
      have e := r1.ints
      subst e
      exact ⟨l, ns, k, rfl, rfl, ex_l g2.hh l1, q _ Z2 H2 [] (g1.trans g2) (.fz (.int _)) .nil⟩⟩)
/-- max(xs), min(xs) of ints -/
theorem me_maxL {m : Int} (hc : X.calm = true) (hg : Gl X "max") (hm : X.mg "max" = none) (ha : ML X ρ a (ns.map .int)) (h1 : m ∈ ns) (h2 : ∀ y ∈ ns, y ≤ m) (n1 : NS X a := by exact fun _ => rfl) : ME X ρ (.Call (.Name "max" p0) [a] [] pos) (.fz (.int m)) := .mk fun Z0 F Z σ H s Q q =>
  PE_w (pe_callB (cr_max hc) hg hm (by decide +kernel) (pa_cons pe_w pa_nil (n1 _)) (he := n1 _)) (ha.run Z0 F Z σ H s _ fun l vs Z1 H1 g1 l1 r1 => by
    have e := r1.ints
    subst e
    refine ⟨l, ns, rfl, l1, List.length_pos_of_mem h1, fun m' k1 k2 => ?_⟩
    have e : m' = m := by
      have := h2 m' k1
      have := k2 m h1
      omega
    subst e
    exact q _ Z1 H1 [] g1 (.fz (.int _)) .nil)
theorem me_minL {m : Int} (hc : X.calm = true) (hg : Gl X "min") (hm : X.mg "min" = none) (ha : ML X ρ a (ns.map .int)) (h1 : m ∈ ns) (h2 : ∀ y ∈ ns, m ≤ y) (n1 : NS X a := by exact fun _ => rfl) : ME X ρ (.Call (.Name "min" p0) [a] [] pos) (.fz (.int m)) := .mk fun Z0 F Z σ H s Q q =>
  PE_w (pe_callB (cr_min hc) hg hm (by decide +kernel) (pa_cons pe_w pa_nil (n1 _)) (he := n1 _)) (ha.run Z0 F Z σ H s _ fun l vs Z1 H1 g1 l1 r1 => by
    have e := r1.ints
    subst e
    refine ⟨l, ns, rfl, l1, List.length_pos_of_mem h1, fun m' k1 k2 => ?_⟩
    have e : m' = m := by
      have := h2 m' k1
      have := k2 m h1
      omega
    subst e
    exact q _ Z1 H1 [] g1 (.fz (.int _)) .nil)
/-- s.m(t) of texts -/
theorem me_s1 {id : String} {name : Str} {d : D} {r : V → List V → Hp → VK → Prop} (slot : Slot "str" name id) (ty : typeOf (.builtin id) = pure (.type "method_descriptor")) (rule : MtR X id r) (ha : ME X ρ a (.fz (.str p))) (hb : ME X ρ b (.fz d2)) {y z : V} (s2 : Sc d2 y) (s3 : Sc d z)
    (h : ∀ H (Q : VK), Q z H → r (.str p) [y] H Q) (hs : starEach [b] X.env = [(false, eval b X.env)] := by rfl) (hbase : attributeBase a name X.env (eval a X.env) = eval a X.env := by rfl) (hline : (p1.endLine == pos.line) = true := by rfl) :
    ME X ρ (.Call (.Attribute a name p1) [b] [] pos) (.fz d) := .mk fun Z0 F Z σ H s Q q =>
  PE_w (pe_m1 slot ty rule pe_w pe_w hs hbase hline) (ha.run Z0 F Z σ H s _ fun v Z1 H1 A1 g1 r1 n1 => by
    cases r1 with
    | fz r1 =>
      cases r1
      refine ⟨⟨_, rfl⟩, hb.run Z0 F Z1 σ H1 (s.grow g1) _ fun v Z2 H2 A2 g2 r2 n2 => ?_⟩
      cases r2 with
      | fz r2 =>
        have e := s2.eq r2
        subst e
        exact h H2 _ (q _ Z2 H2 [] (g1.trans g2) (.fz s3.rep) .nil))
theorem me_zfill (ha : ME X ρ a (.fz (.str p))) (hb : ME X ρ b (.fz (.int k))) (hk : PadOk k = true := by decide) (hs : starEach [b] X.env = [(false, eval b X.env)] := by rfl) (hbase : attributeBase a "zfill" X.env (eval a X.env) = eval a X.env := by rfl) (hline : (p1.endLine == pos.line) = true := by rfl) :
    ME X ρ (.Call (.Attribute a "zfill" p1) [b] [] pos) (.fz (.str (Txt.zfill p k))) := me_s1 F.slot_str_zfill F.type_str_zfill mt_zfill ha hb (.int k) (.str _) (fun H Q q => ⟨p, k, rfl, rfl, hk, q⟩) hs hbase hline
/-- s.partition(t): a tuple of three texts -/
theorem me_partition (ha : ME X ρ a (.fz (.str p))) (hb : ME X ρ b (.fz (.str q))) (hq : (q.length == 0) = false) (hp : p.length ≤ sizeLine) (hs : starEach [b] X.env = [(false, eval b X.env)] := by rfl) (hbase : attributeBase a "partition" X.env (eval a X.env) = eval a X.env := by rfl) (hline : (p1.endLine == pos.line) = true := by rfl) :
    ME X ρ (.Call (.Attribute a "partition" p1) [b] [] pos) (.fz (.tup [.str (Txt.partition p q).1, .str (Txt.partition p q).2.1, .str (Txt.partition p q).2.2])) := .mk fun Z0 F Z σ H s Q qq =>
  PE_w (pe_partition pe_w pe_w hs hbase hline) (ha.run Z0 F Z σ H s _ fun v Z1 H1 A1 g1 r1 n1 => by
    cases r1 with
    | fz r1 =>
      cases r1
      refine ⟨⟨_, rfl⟩, hb.run Z0 F Z1 σ H1 (s.grow g1) _ fun v Z2 H2 A2 g2 r2 n2 => ?_⟩
      cases r2 with
      | fz r2 =>
        cases r2
        refine ⟨p, q, rfl, rfl, hq, hp, fun l hl => ?_⟩
        exact qq _ _ _ [] ((g1.trans g2).trans (Gr.newz g2.zh hl)) (.fz (.tup (SqT.of upd_same) (.cons (.str _) (.cons (.str _) (.cons (.str _) .nil))))) .nil)
end
end M
namespace M
open PySem L2 PySem.Spec PyProof.Rows
/-! ### ranges of ints of any size -/
theorem turn_long {P : Program} {w : World} {K : PySem.W.Frag} {tg : Expr} (it : Addr) (lo : Int) (n : Nat) : Turn P w K tg (Itr lo n) [it] it (fun i h => IsLongIter h it (lo + (i : Nat) * 1) ((n : Int) - (i : Nat)) 1) where
  mem := by simp
  obj := fun i h st b hb => by
    have e : b = it := by simpa using hb
    subst e
    exact ⟨_, st, fun v z => by
      have z' : Data.fields _ = Data.cell v := z
      cases z'⟩
  keep := fun i h h' st k => k it (by simp) _ st
  item := by
    intro X hP hw hK hc i pins s σ H E I hf st hg
    subst hP hw hK
    obtain ⟨f0, f1, f2, f3, f4, f5⟩ := hf it (by simp)
    have W := Walks.longrange (prog := X.prog) (w := X.w) (I.ok.hd hc) it lo 1 n
    refine W.item i s _ _ hg st fun v h' tk hv st' kk => ?_
    obtain ⟨t, rfl⟩ := hv
    have I1 : Inv X pins σ H { s with heap := h', toks := tk } := I.turned (fun b o hb e => kk b o (by simpa using hb) e) f0 f1 f3 f4 f5
    refine ⟨_, rfl, go_of (s := { s with heap := h', toks := tk }) (n := "longrange_iterator") st' rfl rfl (by decide) ⟨.int (lo + i), H, I1, ⟨t, ?_⟩, ⟨rfl, rfl⟩, st', fun b hb => (hf b hb).1⟩⟩
    rw [Int.mul_one]
  done := by
    intro X hP hw hK hc i pins s σ H E I hf st hg
    subst hP hw hK
    obtain ⟨f0, f1, f2, f3, f4, f5⟩ := hf it (by simp)
    exact wpAny_pyNext_long_end (I.ok.hd hc) st (by have : n ≤ i := hg; omega) fun h' eb => ⟨rfl, I.turned (t' := s.toks) (fun b o hb e => eb b o hb e) f0 f1 f3 f4 f5⟩
  self := fun _ _ _ _ _ st h => wpAny_pyIter_longiter st h
section
variable {X : Cx} {tg : Expr}
theorem range_itW {pins : List (Addr × Obj)} {σ : L2.St} {H : Hp} {s : Shared} {R : It → Hp → Prop} {E : Value → Shared → Prop} {lo hi : Int} {t u v : Tok} {tk : Nat} (I : Inv X pins σ H s)
    (q : R (Itr lo (hi - lo).toNat) H) : wpAny (model X.prog X.w) X.A (pyIter (.ref s.heap.objs.size)) (PIE X pins σ tg R) E { s with heap := s.heap.push { cls := .type "range", data := .fields #[.int lo t, .int hi u, .int 1 v] }, toks := tk } := by
  have I1 : Inv X pins σ H { s with heap := s.heap.push { cls := .type "range", data := .fields #[.int lo t, .int hi u, .int 1 v] }, toks := tk } := I.kept fun b o e => Heap.get?_push_of_some _ e
  have e1 : lo + ((0 : Nat) : Int) * 1 = lo := by simp
  have e2 : (((hi - lo).toNat : Nat) : Int) - ((0 : Nat) : Int) = Builtin.Range.rangeSize lo hi 1 := by rw [rangeSize_one]; split <;> omega
  cases hs : Builtin.Range.small lo hi 1 with
  | true =>
    refine wpAny_pyIter_range (IsRange.new ..) hs ?_
    refine ⟨(s.heap.push { cls := .type "range", data := .fields #[.int lo t, .int hi u, .int 1 v] }).objs.size, [(s.heap.push { cls := .type "range", data := .fields #[.int lo t, .int hi u, .int 1 v] }).objs.size], _, _, H, rfl,
      I1.kept (t' := tk) fun b o e => Heap.get?_push_of_some _ e, turn_range _ lo (hi - lo).toNat, ?_, fun b hb => ?_, q⟩
    · show IsRangeIter _ _ (lo + ((0 : Nat) : Int) * 1) ((((hi - lo).toNat : Nat) : Int) - ((0 : Nat) : Int)) 1
      rw [e1, e2]
      exact Heap.get?_push_size _ rfl
    · have e : b = (s.heap.push { cls := .type "range", data := .fields #[.int lo t, .int hi u, .int 1 v] }).objs.size := by simpa using hb
      subst e
      exact I1.fpOk (Nat.le_refl _) (I1.hok.fresh (Nat.le_refl _))
  | false =>
    refine wpAny_pyIter_longrange (IsRange.new ..) hs ?_
    refine ⟨(s.heap.push { cls := .type "range", data := .fields #[.int lo t, .int hi u, .int 1 v] }).objs.size, [(s.heap.push { cls := .type "range", data := .fields #[.int lo t, .int hi u, .int 1 v] }).objs.size], _, _, H, rfl,
      I1.kept (t' := tk) fun b o e => Heap.get?_push_of_some _ e, turn_long _ lo (hi - lo).toNat, ?_, fun b hb => ?_, q⟩
    · show IsLongIter _ _ (lo + ((0 : Nat) : Int) * 1) ((((hi - lo).toNat : Nat) : Int) - ((0 : Nat) : Int)) 1
      rw [e1, e2]
      exact Heap.get?_push_size _ rfl
    · have e : b = (s.heap.push { cls := .type "range", data := .fields #[.int lo t, .int hi u, .int 1 v] }).objs.size := by simpa using hb
      subst e
      exact I1.fpOk (Nat.le_refl _) (I1.hok.fresh (Nat.le_refl _))
def iRng2W (ta : TA) : TI := fun σ H R => ta σ H fun vs H1 => ∃ i j : Int, vs = [.int i, .int j] ∧ R (Itr i (j - i).toNat) H1
theorem pi_range2W {a b : Expr} {ta : TA} {p pos : Pos} (hg : Gl X "range") (hm : X.mg "range" = none) (ha : PA X [a, b] ta) (hs : starEach [a, b] X.env = [(false, eval a X.env), (false, eval b X.env)] := by rfl) (hs2 : starEach [b] X.env = [(false, eval b X.env)] := by rfl) :
    PI X tg (.Call (.Name "range" p) [a, b] [] pos) (iRng2W ta) := by
  refine ⟨fun pins s σ H R I h => ?_⟩
  refine Call_ (ld_blt I hg hm boot_range (PyProof.Rows.callWith_type1 (thn (ha.run pos pins s σ H _ I h) fun us s1 ⟨vs, H1, I1, r1, q1⟩ => ?_) (by rw [hs, hs2]) (by rw [hs2]; rfl)))
  obtain ⟨i, j, e, q⟩ := q1
  subst e
  cases r1 with
  | cons r rr =>
    cases rr with
    | cons r' rr =>
      cases rr
      obtain ⟨t, rfl⟩ := r
      obtain ⟨t', rfl⟩ := r'
      exact call_range_2 (range_itW I1 q)
end
section
variable {X : Cx} {ρ : Slots} {es : List Expr} {k j : Int}
theorem mi_range2W (h : MF X ρ es [.int k, .int j]) : MI X ρ (iRng2W (wA X es)) (rng k (j - k).toNat) := .mk fun Z0 F Z σ H s R q => h.run Z0 F Z σ H s _ fun vs Z' H' g r => by
  cases r with
  | cons a r =>
    cases a
    cases r with
    | cons b r =>
      cases b
      cases r
      exact ⟨k, j, rfl, q _ Z' H' g (wk_rng k _)⟩
end
end M
namespace M
open PySem L2 PySem.Spec PyProof.Rows
section
variable {X : Cx} {ρ : Slots} {a b : Expr} {pos : Pos} {k l : Bool}
/-- is, is not of truths -/
theorem me_isB (ha : ME X ρ a (.fz (.bl k))) (hb : ME X ρ b (.fz (.bl l))) : ME X ρ (.Compare a [.Is] [b] pos) (.fz (.bl (decide (k = l)))) := me_cmp op_isBl ha hb (.bl k) (.bl l) (fun _ _ q => ⟨k, l, rfl, rfl, q⟩) (nomark _)
theorem mt_isB (ha : ME X ρ a (.fz (.bl k))) (hb : ME X ρ b (.fz (.bl l))) : MT X ρ (.Compare a [.Is] [b] pos) (decide (k = l)) := mt_cmp op_isBl ha hb (.bl k) (.bl l) (fun _ _ q => ⟨k, l, rfl, rfl, q⟩) (nomark _)
theorem me_niB (ha : ME X ρ a (.fz (.bl k))) (hb : ME X ρ b (.fz (.bl l))) : ME X ρ (.Compare a [.IsNot] [b] pos) (.fz (.bl (!decide (k = l)))) := me_cmp op_notBl ha hb (.bl k) (.bl l) (fun _ _ q => ⟨k, l, rfl, rfl, q⟩) (nomark _)
theorem mt_niB (ha : ME X ρ a (.fz (.bl k))) (hb : ME X ρ b (.fz (.bl l))) : MT X ρ (.Compare a [.IsNot] [b] pos) (!decide (k = l)) := mt_cmp op_notBl ha hb (.bl k) (.bl l) (fun _ _ q => ⟨k, l, rfl, rfl, q⟩) (nomark _)
end
end M
namespace M
open PySem L2 PySem.Spec PyProof.Rows
/-! ### sorted of data -/
section
variable {β : Type} {K : PySem.W.Frag} {Z : Hp} {enc : β → D}
def StandFor (K : PySem.W.Frag) (Z : Hp) (enc : β → D) (u : Value) (b : β) : Prop := ∃ x, RelV x u ∧ Rep K Z x (enc b) ∧ (enc b).pl = true
theorem each_of : ∀ {xs : List V} {us : List Value} {bs : List β}, Vals xs us → RepL K Z xs (bs.map enc) → (∀ b ∈ bs, (enc b).pl = true) → PySem.W.EachIs (StandFor K Z enc) us bs
  | [], _, [], .nil, .nil, _ => .nil
  | _ :: _, _, _ :: _, .cons r1 r2, .cons h1 h2, hp => .cons ⟨_, r1, h1, hp _ List.mem_cons_self⟩ (each_of r2 h2 fun b m => hp b (List.mem_cons_of_mem _ m))
theorem each_back : ∀ {us : List Value} {bs : List β}, PySem.W.EachIs (StandFor K Z enc) us bs → ∃ xs, Vals xs us ∧ RepL K Z xs (bs.map enc)
  | _, _, .nil => ⟨[], .nil, .nil⟩
  | _, _, .cons ⟨x, r, h, _⟩ t => by
    obtain ⟨xs, q1, q2⟩ := each_back t
    exact ⟨x :: xs, .cons r q1, .cons h q2⟩
def rSortD (K : PySem.W.Frag) (enc : β → D) (bs : List β) : List V → Hp → VK → Prop := fun vs H Q => ∃ (Z : Hp) (l : Addr) (xs : List V), vs = [.ref l] ∧ SqL K H l xs ∧ RepL K Z xs (bs.map enc) ∧ Ex Z H ∧
  ∀ ys p, RepL K Z ys ((bs.mergeSort (PySem.W.dataLe false fun b => (enc b).py)).map enc) → H p = none → Q (.ref p) (upd H p (.lst ys))
theorem cr_sortD {X : Cx} {bs : List β} (hu : X.A.units + 64 < cLine) (hp : ∀ b ∈ bs, (enc b).pl = true) (hal : PySem.W.AllAlike (bs.map fun b => (enc b).py)) (hk : PySem.W.Sortable (bs.map fun b => (enc b).py)) (hd : ∀ b ∈ bs, (enc b).py.depth ≤ 60) : CallR X (.builtin "sorted") (rSortD X.K enc bs) := by
  intro pins s σ H vs us Q I r h
  obtain ⟨Z, l, xs, rfl, hs, rl, ez, q⟩ := h
  obtain ⟨its, rv, hl, hz⟩ := I.list hs
  obtain ⟨u, rfl, ru⟩ := vals1 r
  obtain rfl : u = Value.ref l := ru
  have hlen : its.length = bs.length := by rw [← rv.length, rl.length, List.length_map]
  have e := each_of rv rl hp
  have er : PySem.W.EachIs (fun v b => ∃ as, Reads s.heap v ((enc b).py) as) its bs := e.mono fun u b ⟨x, rx, rr, hpl⟩ => Dp.reads I _ x u (rr.dp ez hpl) rx
  refine PySem.W.sorted_data (enc := fun b => (enc b).py) hl.isList e er hal hk (by rw [← hlen, ← rv.length]; exact hz) (fun b m => by have := hd b m; omega) fun out ho hR => ?_
  obtain ⟨ys, v1, v2⟩ := each_back hR
  have hfree : H (s.heap.objs.size + 1) = none := I.hok.fresh (Nat.le_succ _)
  obtain ⟨n, hn⟩ := sortedAll_at s.heap its out.toArray
  refine ⟨.ref (s.heap.objs.size + 1), upd H (s.heap.objs.size + 1) (.lst ys), I.laid (t' := s.toks) (fun b o e => sortedAll_old e) (Nat.le_succ _) ⟨?_, out, n, v1, hn⟩, rfl, q ys _ v2 hfree⟩
  rw [v1.length, ho, ← hlen, ← rv.length]
  exact hz
end
section
variable {X : Cx} {ρ : Slots} {a : Expr} {pos p0 p1 p2 p3 p4 : Pos} {β : Type} {enc : β → D} {bs : List β}
theorem me_sorted (hu : X.A.units + 64 < cLine) (hg : Gl X "sorted") (hm : X.mg "sorted" = none) (ha : ML X ρ a (bs.map enc)) (hp : ∀ b ∈ bs, (enc b).pl = true) (hal : PySem.W.AllAlike (bs.map fun b => (enc b).py)) (hk : PySem.W.Sortable (bs.map fun b => (enc b).py)) (hd : ∀ b ∈ bs, (enc b).py.depth ≤ 60) (n1 : NS X a := by exact fun _ => rfl) :
    ME X ρ (.Call (.Name "sorted" p0) [a] [] pos) (.lst (((bs.mergeSort (PySem.W.dataLe false fun b => (enc b).py)).map enc).map .fz)) := .mk fun Z0 F Z σ H s Q q =>
  PE_w (pe_callB (cr_sortD hu hp hal hk hd) hg hm (by decide +kernel) (pa_cons pe_w pa_nil (n1 _)) (he := n1 _)) (ha.run Z0 F Z σ H s _ fun l vs Z1 H1 g1 l1 r1 =>
    ⟨Z1, l, vs, rfl, l1, r1, g1.zh, fun ys p ry hp => q _ Z1 _ [p] (g1.trans (Gr.new g1.zh hp)) (.lst upd_same ry.own) (new_one (g1.hh.free hp) (g1.zh.free hp))⟩)
end
section
variable {X : Cx} {ρ : Slots} {a b e : Expr} {G : Go} {pos p0 p1 p2 p3 p4 : Pos} {k l : Bool} {i : Nat} {x : Str} {d : D} {ds : List D}
theorem mt_eqB (ha : ME X ρ a (.fz (.bl k))) (hb : ME X ρ b (.fz (.bl l))) : MT X ρ (.Compare a [.Eq] [b] pos) (k == l) := mt_cmp op_eq ha hb (.bl k) (.bl l) (fun _ _ q => ⟨rfl, by rw [dec_bl]; exact q⟩) (nomark _)
theorem mt_neB (ha : ME X ρ a (.fz (.bl k))) (hb : ME X ρ b (.fz (.bl l))) : MT X ρ (.Compare a [.NotEq] [b] pos) (!(k == l)) := mt_cmp op_ne ha hb (.bl k) (.bl l) (fun _ _ q => ⟨rfl, by rw [dec_bl]; exact q⟩) (nomark _)
theorem me_eqB (ha : ME X ρ a (.fz (.bl k))) (hb : ME X ρ b (.fz (.bl l))) : ME X ρ (.Compare a [.Eq] [b] pos) (.fz (.bl (k == l))) := me_cmp op_eq ha hb (.bl k) (.bl l) (fun _ _ q => ⟨rfl, by rw [dec_bl]; exact q⟩) (nomark _)
/-- tg = x.pop(), x a slot with an own list of frozen things -/
theorem m_popT {tg : Expr} {g : TG} {ρ' : Slots} {ws : List Nat} (hi : ρ[i]? = some (some (.lst (ds.map .fz)))) (hd : ds[ds.length - 1]? = some d) (t : MTg g X.K (ρ.set i (some (.lst (ds.dropLast.map .fz)))) d ρ' ws) (kk : G.nx ρ')
    (p : PS X (.Assign [tg] (.Call (.Attribute (.Name x p1) "pop" p2) [] [] p3) p4) (tAsg (tBM0 X.K "list" rPop (tVar i)) g)) : MS1 X ρ (.Assign [tg] (.Call (.Attribute (.Name x p1) "pop" p2) [] [] p3) p4) G := .mk fun Z0 F Z σ H D s gd => by
  obtain ⟨v, A, e1, r1, nA, dA, k1⟩ := s.upd hi
  cases r1 with
  | @lst l vs _ A h0 r1 =>
    obtain ⟨eA, rl⟩ := r1.fzs
    subst eA
    have hlen := rl.length
    obtain ⟨y, hy, ry⟩ := rl.get hd
    rw [← hlen] at hy
    have zl : Z l = none := (dA l List.mem_cons_self).1
    have rd : RepL X.K Z vs.dropLast ds.dropLast := by
      rw [List.dropLast_eq_take, List.dropLast_eq_take, hlen]
      exact rl.take _
    have st := k1 (Z' := Z) (H' := upd H l (.lst vs.dropLast)) (o' := .lst (ds.dropLast.map .fz)) (A' := [l]) (Ex.refl _) (fun _ _ _ => rfl) (s.ex.mut zl) (fun b nb u hu => by
      have ne : b ≠ l := fun q => nb (by rw [q]; exact List.mem_cons_self)
      rw [upd_ne ne]
      exact hu) (.lst upd_same rd.own) (by simp) (fun b m => .inl (by simpa using m))
    refine PS_w p ⟨_, e1, .inl ⟨rfl, _, SqL.of h0⟩, l, vs, y, rfl, rfl, h0, hy, ?_⟩
    exact t.run Z0 F Z σ _ y st ry _ fun σ2 s2 _ => gd.nx ρ' Z σ2 _ kk s2
end
end M
namespace M
open PySem L2 PySem.Spec PyProof.Rows
/-! ### isinstance of own classes -/
structure OI (K : PySem.W.Frag) (C : Addr) : Prop where
  cl : Cls K C
  ha : PySem.W.findIn K (.ref C) "__class__" = some (some (.builtin "object.__class__"))
  hn : PySem.W.specialIn K (.builtin "object.__class__") "__get__" = some (some (.builtin "getset_descriptor.__get__"))
  htk : PySem.W.takesIn K (.builtin "object.__class__") = some true
  hm : PySem.W.mroIn K C (.type "object") = some true
section
variable {X : Cx} {ρ : Slots} {a : Expr} {pos p0 p1 : Pos} {C E : Addr} {ns : List Str} {ds : List D} {os : List O} {nm : Str} {k : Bool} {o : O}
/-- isinstance(e, N), e an instance of the class at C, N the class at E -/
theorem me_isiC (hg : Gl X "isinstance") (hm : X.mg "isinstance" = none) (hE : X.mg nm = some (.ref E)) (ha : MV X ρ a (.fz (.ins C ns ds))) (oi : OI X.K C) (hk : PySem.W.kitOne X.K (.ref C) (.ref E) = some k) (hgE : Gl X nm := by rfl) (hd : (nm == ("__debug__" : Str)) = false := by decide) (n1 : NS X a := by exact fun _ => rfl) :
    ME X ρ (.Call (.Name "isinstance" p0) [a, .Name nm p1] [] pos) (.fz (.bl k)) := .mk fun Z0 F Z σ H s Q q =>
  PE_w (pe_callB call_isi hg hm (by decide +kernel) (pa_cons pe_w (pa_cons (pe_glob (v := .ref E) hgE hE rfl hd) pa_nil) (n1 _)) (he := n1 _)) (ha.run Z0 F Z σ H s _ fun v Z1 H1 A1 g1 r1 => by
    cases r1 with
    | fz r1 =>
      cases r1 with
      | @ins l C dx ns vs ds hz rl =>
        exact ⟨.ref l, .ref E, .ref C, .ref E, k, rfl, .own E, .base (.ins (g1.zh _ _ hz) oi.cl oi.ha oi.hn oi.htk oi.hm), hk, q _ Z1 H1 [] g1 (.fz (.bl k)) .nil⟩)
/-- isinstance(e, N), e of a built-in type, N an own class -/
theorem me_isiB {t : String} (hg : Gl X "isinstance") (hm : X.mg "isinstance" = none) (hE : X.mg nm = some (.ref E)) (ha : MV X ρ a o) (ht : o.tyN = some t) (hk : PySem.W.kitOne X.K (.type t) (.ref E) = some k) (hgE : Gl X nm := by rfl) (hd : (nm == ("__debug__" : Str)) = false := by decide) (n1 : NS X a := by exact fun _ => rfl) :
    ME X ρ (.Call (.Name "isinstance" p0) [a, .Name nm p1] [] pos) (.fz (.bl k)) := .mk fun Z0 F Z σ H s Q q =>
  PE_w (pe_callB call_isi hg hm (by decide +kernel) (pa_cons pe_w (pa_cons (pe_glob (v := .ref E) hgE hE rfl hd) pa_nil) (n1 _)) (he := n1 _)) (ha.run Z0 F Z σ H s _ fun v Z1 H1 A1 g1 r1 =>
    ⟨v, .ref E, .type t, .ref E, k, rfl, .own E, r1.ty' g1.zh (s.gr.hh.trans g1.hh) ht, hk, q _ Z1 H1 [] g1 (.fz (.bl k)) .nil⟩)
end
/-! ### slots with one more behind -/
section
variable {K : PySem.W.Frag} {Z0 Z Z' F F' H H' : Hp} {ρ : Slots} {σ : L2.St}
theorem StL.push {v : V} {o : O} {B : List Addr} (r : RepO K Z F H v o B) : ∀ {ρ : Slots} {σ : L2.St} {A : List Addr}, StL K Z F H ρ σ A → StL K Z F H (ρ ++ [some o]) (σ ++ [some v]) (A ++ B)
  | _, _, _, .nil => by
    have := StL.so r (.nil (K := K) (Z := Z) (F := F) (H := H))
    rw [List.append_nil] at this
    exact this
  | _, _, _, .no h => .no (h.push r)
  | _, _, _, .so q h => by
    rw [List.append_assoc]
    exact .so q (h.push r)
theorem StR.push {v : V} {o : O} {B : List Addr} (s : StR K ρ Z0 F Z σ H) (g : Gr Z H Z' H') (r : RepO K Z' F H' v o B) (n : New H Z' B) : StR K (ρ ++ [some o]) Z0 F Z' (σ ++ [some v]) H' := by
  have s' := s.grow g
  obtain ⟨A, h1, h2, h3⟩ := s.st
  have m1 : StL K Z' F H' ρ σ A := h1.mono g.zz fun a _ u e => g.hh a u e
  refine ⟨s'.gr, A ++ B, m1.push r, List.nodup_append.mpr ⟨h2, n.1, fun a ha b hb e => ?_⟩, fun a m => ?_⟩
  · subst e
    obtain ⟨u, e⟩ := h1.there a ha
    rw [(n.2 a hb).1] at e
    cases e
  · rcases List.mem_append.mp m with z | z
    · obtain ⟨u, e⟩ := h1.there a z
      exact ⟨(g.nw a u e).trans (h3 a z).1, (h3 a z).2⟩
    · exact ⟨(n.2 a z).2, s.gr.hh.free (n.2 a z).1⟩
theorem StL.last' : ∀ {τ : Slots} {υ : L2.St} {A : List Addr}, StL K Z F H τ υ A → A.Nodup → ∀ {ρ : Slots} {o : O} {σ : L2.St} {v : V}, τ = ρ ++ [some o] → υ = σ ++ [some v] → ∃ B C, StL K Z F H ρ σ B ∧ RepO K Z F H v o C ∧ (B ++ C).Nodup ∧ (∀ a ∈ B ++ C, a ∈ A)
  | _, _, _, .nil, _, ρ, o, σ, v, e1, e2 => by simp at e1
  | _, _, _, .no h, n, ρ, o, σ, v, e1, e2 => by
    cases ρ with
    | nil => simp at e1
    | cons x ρ =>
      cases σ with
      | nil =>
        have l := h.length
        simp at e1 e2
        rw [e1.2, e2.2] at l
        simp at l
      | cons y σ =>
        simp at e1 e2
        obtain ⟨e1a, e1b⟩ := e1
        obtain ⟨e2a, e2b⟩ := e2
        obtain ⟨B, C, q1, q2, q3, q4⟩ := h.last' n e1b e2b
        subst e1a
        exact ⟨B, C, .no q1, q2, q3, q4⟩
  | _, _, _, .so (A := A1) (B := A2) r h, n, ρ, o, σ, v, e1, e2 => by
    obtain ⟨n1, n2, n3⟩ := List.nodup_append.mp n
    cases ρ with
    | nil =>
      cases σ with
      | nil =>
        simp at e1 e2
        obtain ⟨e1a, e1b⟩ := e1
        obtain ⟨e2a, e2b⟩ := e2
        subst e1a e1b e2a e2b
        cases h
        exact ⟨[], A1, .nil, r, by simpa using n, fun a m => by simpa using m⟩
      | cons y σ =>
        have l := h.length
        simp at e1 e2
        rw [e1.2, e2.2] at l
        simp at l
    | cons x ρ =>
      cases σ with
      | nil =>
        have l := h.length
        simp at e1 e2
        rw [e1.2, e2.2] at l
        simp at l
      | cons y σ =>
        simp at e1 e2
        obtain ⟨e1a, e1b⟩ := e1
        obtain ⟨e2a, e2b⟩ := e2
        obtain ⟨B, C, q1, q2, q3, q4⟩ := h.last' n2 e1b e2b
        subst e1a e2a
        refine ⟨A1 ++ B, C, .so r q1, q2, ?_, fun a m => ?_⟩
        · rw [List.append_assoc]
          exact List.nodup_append.mpr ⟨n1, q3, fun a ha b hb => n3 a ha b (q4 b hb)⟩
        · rw [List.append_assoc] at m
          rcases List.mem_append.mp m with m | m
          · exact List.mem_append_left _ m
          · exact List.mem_append_right _ (q4 a m)
theorem StL.last {ρ : Slots} {o : O} {σ : L2.St} {v : V} {A : List Addr} (h : StL K Z F H (ρ ++ [some o]) (σ ++ [some v]) A) (n : A.Nodup) : ∃ B C, StL K Z F H ρ σ B ∧ RepO K Z F H v o C ∧ (B ++ C).Nodup ∧ (∀ a ∈ B ++ C, a ∈ A) := h.last' n rfl rfl
theorem StR.pop {v : V} {o : O} (s : StR K (ρ ++ [some o]) Z0 F Z (σ ++ [some v]) H) : StR K ρ Z0 F Z σ H := by
  obtain ⟨A, h1, h2, h3⟩ := s.st
  obtain ⟨B, C, q1, q2, q3, q4⟩ := h1.last h2
  exact ⟨s.gr, B, q1, (List.nodup_append.mp q3).1, fun a m => h3 a (q4 a (List.mem_append_left _ m))⟩
/-- what is behind comes to a slot -/
theorem StR.take {v : V} {o : O} {i : Nat} (s : StR K (ρ ++ [some o]) Z0 F Z (σ ++ [some v]) H) (hi : i < ρ.length) : StR K (ρ.set i (some o)) Z0 F Z (σ.set i (some v)) H := by
  obtain ⟨A, h1, h2, h3⟩ := s.st
  obtain ⟨B, C, q1, q2, q3, q4⟩ := h1.last h2
  obtain ⟨n1, n2, n3⟩ := List.nodup_append.mp q3
  obtain ⟨A', r1, r2, r3⟩ := StL.put q2 q1 hi n1 n2 fun a ha hb => n3 a hb a ha rfl
  refine ⟨s.gr, A', r1, r2, fun a m => h3 a (q4 a ?_)⟩
  rcases r3 a m with z | z
  · exact List.mem_append_left _ z
  · exact List.mem_append_right _ z
/-- a slot's own thing changes; what was its own may be frozen -/
theorem StR.updX {i : Nat} {o : O} (s : StR K ρ Z0 F Z σ H) (hi : ρ[i]? = some (some o)) : ∃ v A, σ[i]? = some (some v) ∧ RepO K Z F H v o A ∧ A.Nodup ∧ (∀ a ∈ A, Z a = none ∧ F a = none) ∧
    ∀ {Z' H' : Hp} {w : V} {o' p : O} {B : List Addr}, Ex Z Z' → (∀ a, a ∉ A → ∀ u, H a = some u → Z' a = Z a) → Ex Z' H' → (∀ a, a ∉ A → ∀ u, H a = some u → H' a = some u) → RepOL K Z' F H' [v, w] [o', p] B → B.Nodup → (∀ a ∈ B, (a ∈ A ∨ H a = none) ∧ Z' a = none) →
      StR K (ρ.set i (some o') ++ [some p]) Z0 F Z' (σ ++ [some w]) H' := by
  obtain ⟨A, h1, h2, h3⟩ := s.st
  obtain ⟨v, B0, q1, q2, q3, q4, q5⟩ := h1.at hi h2
  refine ⟨v, B0, q1, q2, q3, fun a m => h3 a (q4 a m), fun {Z' H' w o' p B} ez nz zh k r n d => ?_⟩
  cases r with
  | @cons _ _ _ _ A1 B1 ra r =>
    cases r with
    | @cons _ _ _ _ A2 B2 rb r =>
      cases r
      rw [List.append_nil] at n d
      obtain ⟨n1, n2, n3⟩ := List.nodup_append.mp n
      have apart : ∀ a ∈ A1 ++ A2, a ∈ A → a ∈ B0 := fun a m ma => by
        rcases (d a m).1 with z | z
        · exact z
        · obtain ⟨u, e⟩ := h1.there a ma
          rw [z] at e
          cases e
      obtain ⟨A', r1, r2, r3⟩ := q5 (v' := v) ez (fun a _ nb u e => k a nb u e) ra n1 fun a m ma => apart a (List.mem_append_left _ m) ma
      rw [set_same q1] at r1
      have hF : ∀ a u, F a = some u → a ∉ B0 := fun a u e m => by
        rw [(h3 a (q4 a m)).2] at e
        cases e
      refine ⟨⟨s.gr.zz.trans ez, fun a u e => k a (hF a u e) u (s.gr.hh a u e), zh, fun a u e => (nz a (hF a u e) u (s.gr.hh a u e)).trans (s.gr.nw a u e)⟩, A' ++ A2, r1.push rb, List.nodup_append.mpr ⟨r2, n2, fun a ha b hb e => ?_⟩, fun a m => ?_⟩
      · subst e
        rcases r3 a ha with z | z
        · exact z.2 (apart a (List.mem_append_right _ hb) z.1)
        · exact n3 a z a hb rfl
      · have new : a ∈ A1 ++ A2 → Z' a = none ∧ F a = none := fun y => by
          refine ⟨(d a y).2, ?_⟩
          rcases (d a y).1 with z | z
          · exact (h3 a (q4 a z)).2
          · exact s.gr.hh.free z
        rcases List.mem_append.mp m with m | m
        · rcases r3 a m with z | z
          · obtain ⟨u, e⟩ := h1.there a z.1
            exact ⟨(nz a z.2 u e).trans (h3 a z.1).1, (h3 a z.1).2⟩
          · exact new (List.mem_append_left _ z)
        · exact new (List.mem_append_right _ m)
end
/-! ### expressions that change slots -/
structure MX (X : Cx) (ρ : Slots) (e : Expr) (o : O) (ρ' : Slots) : Prop where
  run : ∀ (Z0 F Z : Hp) (σ : L2.St) (H : Hp), StR X.K ρ Z0 F Z σ H → ∀ Q : VK, (∀ v Z' H', StR X.K (ρ' ++ [some o]) Z0 F Z' (σ ++ [some v]) H' → Q v H') → wE X e σ H Q
section
variable {X : Cx} {ρ ρ' : Slots} {e : Expr} {st : Stmt} {G : Go} {o : O} {i : Nat}
theorem ME.x (h : ME X ρ e o) : MX X ρ e o ρ := .mk fun Z0 F Z σ H s Q q => h.run Z0 F Z σ H s Q fun v Z' H' A g r n => q v Z' H' (s.push g r n)
theorem m_exprX (p : PS X st (tDrop (wE X e))) (h : MX X ρ e o ρ') (k : G.nx ρ') : MS1 X ρ st G := .mk fun Z0 F Z σ H D s g =>
  PS_w p (h.run Z0 F Z σ H s _ fun v Z' H' s' => g.nx ρ' Z' σ H' k s'.pop)
theorem m_setX (p : PS X st (tAsg (wE X e) (gName i))) (h : MX X ρ e o ρ') (k : G.nx (ρ'.set i (some o))) (hi : i < ρ'.length := by exact Nat.le_of_ble_eq_true rfl) : MS1 X ρ st G := .mk fun Z0 F Z σ H D s g =>
  PS_w p (h.run Z0 F Z σ H s _ fun v Z' H' s' => g.nx _ Z' _ H' k (s'.take hi))
theorem m_retX (p : PS X st (tRet (wE X e))) (h : MX X ρ e o ρ') (k : G.rs o ρ') : MS1 X ρ st G := .mk fun Z0 F Z σ H D s g =>
  PS_w p (h.run Z0 F Z σ H s _ fun v Z' H' s' => g.rs o ρ' v Z' σ H' k s')
theorem m_retS (p : PS X st (tRet (wE X e))) (h : ME X ρ e o) (k : G.rs o ρ) : MS1 X ρ st G := m_retX p h.x k
end
end M
namespace M
open PySem L2 PySem.Spec PyProof.Rows
/-! ### defs that change their first argument -/
def SpX {α : Type} (K : PySem.W.Frag) (ar : α → List O) (pre : α → Prop) (s0 s1 : Addr → α → O) (res : α → O) : Sp := fun vs H Q _ => ∃ (x : α) (Z F : Hp) (l : Addr) (vs' : List V) (A : List Addr), vs = .ref l :: vs' ∧ Ex Z F ∧ Ex F H ∧ A.Nodup ∧ (∀ a ∈ A, F a = none) ∧ RepO K Z F H (.ref l) (s0 l x) A ∧ RepOL K Z F F vs' (ar x) [] ∧ pre x ∧
  ∀ v Z' H' B, Gr Z F Z' H' → RepOL K Z' (fun _ => none) H' [.ref l, v] [s1 l x, res x] B → B.Nodup → (∀ a ∈ B, F a = none ∧ Z' a = none) → Q v H'
/-- such a def's body keeps its promise -/
theorem fn_mX {α : Type} {P : Program} {w : World} {K : PySem.W.Frag} {mg : Str → Option Value} {base : Heap} {x qual : Str} {st : Stmt} {f : Addr} {fd : FuncData} {N ps : List Str} {k : Nat} {ar : α → List O} {pre : α → Prop} {s0 s1 : Addr → α → O} {res : α → O}
    (F : Fun K x qual st f fd) (S : FnScope N ps (defScope st)) (hl : ∀ x, (ar x).length + 1 = ps.length) (hn1 : ∀ l x, pre x → (s1 l x).nv = true) (hn2 : ∀ x, pre x → (res x).nv = true) (hat : ∀ l x, ∃ C ns os, s1 l x = .at l C ns os)
    (hb : ∀ (cdv : Value) (A : Around) (outer : List Env) (s : Shared) (H : Hp) (E : XK), Room k (A.deeper (envOfC qual (defScope st) s.heap.objs.size f cdv)) → ∀ (l : Addr) x, pre x →
      MS (cxOf CX0 P w K mg base N qual (defScope st) f cdv A outer s H E).nox (some (s0 l x) :: (ar x).map some ++ List.replicate (N.length - ps.length) none) (defBody st) { nx := fun ρ => res x = .fz .non ∧ ρ[0]? = some (some (s1 l x)), rs := fun o ρ => o = res x ∧ ρ[0]? = some (some (s1 l x)) }) :
    FnOk P w K mg base CX0 (k + 1) f fd ps (SpX K ar pre s0 s1 res) := by
  refine F.ok S (fun vs H Q E h => ?_) (fun cdv A outer s H vs Q E hr h => ?_)
  · obtain ⟨x, Z, F, l, vs', A, rfl, _, _, _, _, _, r, _⟩ := h
    rw [List.length_cons, r.length, hl]
  · obtain ⟨x, Z, F0, l, vs', A0, rfl, ez, ef, nA, fA, rs, r, hp, q⟩ := h
    obtain ⟨C, ns, os, hs1⟩ := hat l x
    have st0 : StL K Z F0 H (some (s0 l x) :: (ar x).map some) (some (.ref l) :: vs'.map some) (A0 ++ []) := .so rs (stL_args (r.mono (Ex.refl _) (Ex.refl _) fun _ m => nomatch m))
    refine ⟨_, pss_w, (hb cdv A outer s H E hr l x hp).run Z F0 Z _ H _ ⟨⟨Ex.refl _, ef, ez.trans ef, fun _ _ _ => rfl⟩, A0 ++ [], ?_, by rw [List.append_nil]; exact nA, fun a m => ?_⟩ ⟨fun ρ Z' σ H' e s' => ?_, fun _ _ _ _ z => z.elim, fun _ _ _ _ z => z.elim, fun _ _ _ _ _ z => z.elim, fun o ρ v Z' σ H' e s' => ?_, GX.never fun _ z => z⟩⟩
    · have e : L2.start N (.ref l :: vs') = (some (.ref l) :: vs'.map some) ++ List.replicate (N.length - ps.length) none := by
        unfold L2.start
        rw [List.length_cons, r.length, hl]
        rfl
      rw [e]
      exact stL_more _ st0
    · rw [List.append_nil] at m
      exact ⟨ez.free (fA a m), fA a m⟩
    · obtain ⟨en, e⟩ := e
      obtain ⟨A1, t1, t2, t3⟩ := s'.st
      obtain ⟨v, B, u1, u2, u3, u4, _⟩ := t1.at e t2
      have hn := hn1 l x hp
      rw [hs1] at u2 hn
      cases u2 with
      | @«at» _ _ dx _ vs1 _ B1 h0 rl =>
        refine q .non Z' H' ((l :: B1) ++ ([] ++ [])) s'.gr (.cons ?_ (.cons (A := []) ?_ .nil)) (by simpa using u3) fun a m => ?_
        · rw [hs1]
          exact (RepO.at h0 rl).unF hn
        · rw [en]
          exact .fz .non
        · have m : a ∈ l :: B1 := by simpa using m
          exact ⟨(t3 a (u4 a m)).2, (t3 a (u4 a m)).1⟩
    · obtain ⟨en, e⟩ := e
      subst en
      obtain ⟨A1, t1, t2, t3⟩ := s'.st
      obtain ⟨B, Cc, w1, w2, w3, w4⟩ := t1.last t2
      obtain ⟨n1, n2, n3⟩ := List.nodup_append.mp w3
      obtain ⟨v0, B0, u1, u2, u3, u4, _⟩ := w1.at e n1
      have hn := hn1 l x hp
      rw [hs1] at u2 hn
      cases u2 with
      | @«at» _ _ dx _ vs1 _ B1 h0 rl =>
        refine q v Z' H' ((l :: B1) ++ (Cc ++ [])) s'.gr (.cons ?_ (.cons (w2.unF (hn2 x hp)) .nil)) ?_ fun a m => ?_
        · rw [hs1]
          exact (RepO.at h0 rl).unF hn
        · rw [List.append_nil]
          exact List.nodup_append.mpr ⟨u3, n2, fun a ha b hb => n3 a (u4 a ha) b hb⟩
        · rw [List.append_nil] at m
          have m2 : a ∈ B ++ Cc := by
            rcases List.mem_append.mp m with z | z
            · exact List.mem_append_left _ (u4 a z)
            · exact List.mem_append_right _ z
          exact ⟨(t3 a (w4 a m2)).2, (t3 a (w4 a m2)).1⟩
/-- an __init__ that is such a def makes a new instance -/
theorem SpX.init {α : Type} {P : Program} {w : World} {K : PySem.W.Frag} {mg : Str → Option Value} {base : Heap} {CX : CXT} {k : Nat} {f : Addr} {fd : FuncData} {ps : List Str} {ar : α → List O} {pre : α → Prop} {s0 s1 : Addr → α → O} {β : Type} {arb : β → List O} {preb : β → Prop} {resb : β → List O} {C : Addr} {ns : List Str} (g : β → α)
    (h : FnOk P w K mg base CX k f fd ps (SpX K ar pre s0 s1 fun _ => .fz .non)) (har : ∀ y, ar (g y) = arb y) (hp : ∀ y, preb y → pre (g y)) (h0 : ∀ l y, s0 l (g y) = .at l C [] []) (h1 : ∀ l y, s1 l (g y) = .at l C ns (resb y)) :
    FnOk P w K mg base CX k f fd ps (SpI K C ns arb preb resb) := h.imp fun vs H Q E hh => by
  obtain ⟨y, Z, F, l, dx, vs', rfl, ez, ef, nl, hi, r, hpr, q⟩ := hh
  have fl : ∀ a ∈ [l], F a = none := fun a m => by
    have e : a = l := by simpa using m
    rw [e]
    exact nl
  refine ⟨g y, Z, F, l, vs', [l], rfl, ez, ef, by simp, fl, ?_, by rw [har]; exact r, hp y hpr, fun v Z' H' B gg rr nB dB => ?_⟩
  · rw [h0]
    exact .at (dx := dx) hi .nil
  · cases rr with
    | @cons _ _ _ _ A1 B1 ra rb =>
      cases rb with
      | @cons _ _ _ _ A2 B2 rb rc =>
        cases rc
        cases rb with
        | fz rb =>
          cases rb
          rw [h1] at ra
          rw [List.append_nil, List.append_nil] at nB dB
          exact q Z' H' _ gg ra ⟨nB, dB⟩
section
variable {X : Cx} {ρ : Slots} {e a b : Expr} {es : List Expr} {pos p0 p1 p2 : Pos} {i : Nat} {xx nm : Str} {C : Addr} {ns ns' all : List Str} {os os' : List O} {ds : List D} {o o' : O}
/-- the callee's share of the heap: all but the cells at A -/
def wo (H : Hp) (A : List Addr) : Hp := fun a => if a ∈ A then none else H a
theorem wo_in {H : Hp} {A : List Addr} {a : Addr} (h : a ∈ A) : wo H A a = none := if_pos h
theorem wo_out {H : Hp} {A : List Addr} {a : Addr} (h : a ∉ A) : wo H A a = H a := if_neg h
theorem ex_wo {H : Hp} {A : List Addr} : Ex (wo H A) H := fun a u h => by
  by_cases m : a ∈ A
  · rw [wo_in m] at h; cases h
  · rw [wo_out m] at h; exact h
theorem ex_to_wo {Z H : Hp} {A : List Addr} (e : Ex Z H) (n : ∀ a ∈ A, Z a = none) : Ex Z (wo H A) := fun a u h => by
  by_cases m : a ∈ A
  · rw [n a m] at h; cases h
  · rw [wo_out m]; exact e a u h
theorem wo_none {H : Hp} {A : List Addr} {a : Addr} (h : wo H A a = none) : a ∈ A ∨ H a = none := by
  by_cases m : a ∈ A
  · exact .inl m
  · rw [wo_out m] at h; exact .inr h
/-- the core: what a promise of that kind gives at a state whose slot i holds the thing -/
theorem spX_at {α : Type} {ar : α → List O} {pre : α → Prop} {s0 s1 : Addr → α → O} {res : α → O} {Z0 F Z Z1 H H1 : Hp} {σ : L2.St} {E : XK} {Q : VK} {A : List Addr} {vs : List V} {l : Addr} (x : α) (dA : ∀ a ∈ A, Z a = none ∧ F a = none) (nA : A.Nodup) (s : StR X.K ρ Z0 F Z σ H) (g1 : Gr Z H Z1 H1) (there : ∀ a ∈ A, ∃ u, H a = some u)
    (r : RepO X.K Z F H (.ref l) (s0 l x) A) (ra : RepL X.K Z1 vs ds) (hx : ar x = ds.map .fz) (hp : pre x)
    (q : ∀ w Z2 H2 B, Ex Z Z2 → (∀ a, a ∉ A → ∀ u, H a = some u → Z2 a = Z a) → Ex Z2 H2 → (∀ a, a ∉ A → ∀ u, H a = some u → H2 a = some u) → RepOL X.K Z2 F H2 [.ref l, w] [s1 l x, res x] B → B.Nodup → (∀ a ∈ B, (a ∈ A ∨ H a = none) ∧ Z2 a = none) → Q w H2) :
    SpX X.K ar pre s0 s1 res (.ref l :: (vs ++ [])) H1 Q E := by
  have z1 : ∀ a ∈ A, Z1 a = none := fun a m => by
    obtain ⟨u, e⟩ := there a m
    rw [g1.nw a u e]
    exact (dA a m).1
  refine ⟨x, Z1, wo H1 A, l, vs, A, by rw [List.append_nil], ex_to_wo g1.zh z1, ex_wo, nA, fun a m => wo_in m, r.mono g1.zz (ex_to_wo (s.gr.hh.trans g1.hh) fun a m => (dA a m).2) fun a _ u e => g1.hh a u e, by rw [hx]; exact ra.own, hp, fun w Z2 H2 B g2 rb nB dB => ?_⟩
  have keep : ∀ a, a ∉ A → ∀ u, H a = some u → wo H1 A a = some u := fun a na u e => by
    rw [wo_out na]
    exact g1.hh a u e
  refine q w Z2 H2 B (g1.zz.trans g2.zz) (fun a na u e => (g2.nw a u (keep a na u e)).trans (g1.nw a u e)) g2.zh (fun a na u e => g2.hh a u (keep a na u e)) (rb.mono (Ex.refl _) (fun _ _ z => by cases z) fun _ _ _ z => z) nB fun a m => ?_
  refine ⟨?_, (dB a m).2⟩
  rcases wo_none (dB a m).1 with z | z
  · exact .inl z
  · exact .inr (g1.hh.free z)
/-- x.m(e, ..), x a slot with an own instance, that changes -/
theorem mx_mt {α : Type} {ar : α → List O} {pre : α → Prop} {s0 s1 : Addr → α → O} {res : α → O} {k : Nat} {ps : List Str} {pl : Sem Bool} (c : Mt1 X.prog X.w X.K X.mg X.base C nm k ps (SpX X.K ar pre s0 s1 res)) (cc : OC X.K C all) (x : α) (pn : PE X (.Name xx p0) (tVar i)) (hi : ρ[i]? = some (some (.ins C ns os))) (ha : MF X ρ (e :: es) ds) (h0 : ∀ l, s0 l x = .at l C ns os) (h1 : ∀ l, s1 l x = .at l C ns' os') (hx : ar x = ds.map .fz) (hp : pre x) (hr : Room k X.A)
    (hnm : nmAt ns nm = none := by decide +kernel) (he : starEach (e :: es) X.env = (false, eval e X.env) :: starEach es X.env := by rfl) (hpl : (backTo pos (starEach es X.env)).any (·.1) = false := by rfl)
    (ht : eval (.Call (.Attribute (.Name xx p0) nm p1) (e :: es) [] pos) X.env = (do
      let ov ← eval (.Name xx p0) X.env
      standAt p1.atName
      let (f, first) ← holding [ov] (getMethod ov nm pl)
      callWith pos f first (backTo pos (starEach (e :: es) X.env)) (backToKw pos (keywordEach [] X.env))) := by rfl) : MX X ρ (.Call (.Attribute (.Name xx p0) nm p1) (e :: es) [] pos) (res x) (ρ.set i (some (.ins C ns' os'))) := by
  obtain ⟨f, fd, hm, hb, F⟩ := c.ex
  refine .mk fun Z0 F0 Z σ H s Q q => PE_w (pe_meth (pl := pl) pn cc.cl hm F hr hb .nil pass0 pa_w he hpl ht) ?_
  obtain ⟨v, A, e1, r1, nA, dA, k1⟩ := s.updX hi
  have th := r1.there
  cases r1 with
  | @ins l _ dx _ vs0 _ A h0' rl =>
    refine ⟨_, e1, l, dx, _, rfl, h0', look_none hnm, ha.run Z0 F0 Z σ H s _ fun vs Z1 H1 g1 ra => ?_⟩
    refine spX_at x dA nA s g1 th (by rw [h0]; exact .at h0' rl) ra hx hp fun w Z2 H2 B a1 a2 a3 a4 rb nB dB => ?_
    rw [h1] at rb
    refine q w Z2 H2 (k1 a1 a2 a3 a4 ?_ nB dB)
    cases rb with
    | cons rb rc => exact .cons rb.unAt rc
/-- .. at a known place -/
theorem mx_mtA {α : Type} {ar : α → List O} {pre : α → Prop} {s0 s1 : Addr → α → O} {res : α → O} {k : Nat} {ps : List Str} {l : Addr} {pl : Sem Bool} (c : Mt1 X.prog X.w X.K X.mg X.base C nm k ps (SpX X.K ar pre s0 s1 res)) (cc : OC X.K C all) (x : α) (pn : PE X (.Name xx p0) (tVar i)) (hi : ρ[i]? = some (some (.at l C ns os))) (ha : MF X ρ (e :: es) ds) (h0 : s0 l x = .at l C ns os) (hx : ar x = ds.map .fz) (hp : pre x) (hr : Room k X.A)
    (hnm : nmAt ns nm = none := by decide +kernel) (he : starEach (e :: es) X.env = (false, eval e X.env) :: starEach es X.env := by rfl) (hpl : (backTo pos (starEach es X.env)).any (·.1) = false := by rfl)
    (ht : eval (.Call (.Attribute (.Name xx p0) nm p1) (e :: es) [] pos) X.env = (do
      let ov ← eval (.Name xx p0) X.env
      standAt p1.atName
      let (f, first) ← holding [ov] (getMethod ov nm pl)
      callWith pos f first (backTo pos (starEach (e :: es) X.env)) (backToKw pos (keywordEach [] X.env))) := by rfl) : MX X ρ (.Call (.Attribute (.Name xx p0) nm p1) (e :: es) [] pos) (res x) (ρ.set i (some (s1 l x))) := by
  obtain ⟨f, fd, hm, hb, F⟩ := c.ex
  refine .mk fun Z0 F0 Z σ H s Q q => PE_w (pe_meth (pl := pl) pn cc.cl hm F hr hb .nil pass0 pa_w he hpl ht) ?_
  obtain ⟨v, A, e1, r1, nA, dA, k1⟩ := s.updX hi
  have th := r1.there
  cases r1 with
  | @«at» l _ dx _ vs0 _ A h0' rl =>
    refine ⟨_, e1, l, dx, _, rfl, h0', look_none hnm, ha.run Z0 F0 Z σ H s _ fun vs Z1 H1 g1 ra => ?_⟩
    exact spX_at x dA nA s g1 th (by rw [h0]; exact .at h0' rl) ra hx hp fun w Z2 H2 B a1 a2 a3 a4 rb nB dB => q w Z2 H2 (k1 a1 a2 a3 a4 rb nB dB)
/-- x.m() -/
theorem mx_mt0 {α : Type} {ar : α → List O} {pre : α → Prop} {s0 s1 : Addr → α → O} {res : α → O} {k : Nat} {ps : List Str} {pl : Sem Bool} (c : Mt1 X.prog X.w X.K X.mg X.base C nm k ps (SpX X.K ar pre s0 s1 res)) (cc : OC X.K C all) (x : α) (pn : PE X (.Name xx p0) (tVar i)) (hi : ρ[i]? = some (some (.ins C ns os))) (h0 : ∀ l, s0 l x = .at l C ns os) (h1 : ∀ l, s1 l x = .at l C ns' os') (hx : ar x = []) (hp : pre x) (hr : Room k X.A)
    (hnm : nmAt ns nm = none := by decide +kernel)
    (ht : eval (.Call (.Attribute (.Name xx p0) nm p1) [] [] pos) X.env = (do
      let ov ← eval (.Name xx p0) X.env
      standAt p1.atName
      let (f, first) ← holding [ov] (getMethod ov nm pl)
      callWith pos f first (backTo pos (starEach [] X.env)) (backToKw pos (keywordEach [] X.env))) := by rfl) : MX X ρ (.Call (.Attribute (.Name xx p0) nm p1) [] [] pos) (res x) (ρ.set i (some (.ins C ns' os'))) := by
  obtain ⟨f, fd, hm, hb, F⟩ := c.ex
  refine .mk fun Z0 F0 Z σ H s Q q => PE_w (pe_meth0 (pl := pl) pn cc.cl hm F hr hb .nil pass0 ht) ?_
  obtain ⟨v, A, e1, r1, nA, dA, k1⟩ := s.updX hi
  have th := r1.there
  cases r1 with
  | @ins l _ dx _ vs0 _ A h0' rl =>
    refine ⟨_, e1, l, dx, _, rfl, h0', look_none hnm, ?_⟩
    refine spX_at (E := E0) (ds := []) (vs := []) x dA nA s (Gr.refl s.ex) th (by rw [h0]; exact .at h0' rl) .nil (by rw [hx]; rfl) hp fun w Z2 H2 B a1 a2 a3 a4 rb nB dB => ?_
    rw [h1] at rb
    refine q w Z2 H2 (k1 a1 a2 a3 a4 ?_ nB dB)
    cases rb with
    | cons rb rc => exact .cons rb.unAt rc
/-! ### C.m(self, ..): a def read off a class -/
theorem pe_cfn {CX : CXT} {k : Nat} {f : Addr} {fd : FuncData} {ps : List Str} {sp : Sp} {dvs : List V} {dd : List Value} {E : XK} {t : TA} {mc : Value} {pl : Sem Bool} (hg : Gl X xx) (hmC : X.mg xx = some (.ref C)) (r : ClX.CRead X.K C mc) (kv : ClX.CVal X.K C mc nm (.ref f) (.ref f)) (hk : PySem.W.keepIn X.K (.ref f) = true)
    (F : FnOk X.prog X.w X.K X.mg X.base CX k f fd ps sp) (hr : Room k X.A) (hb : Binds X.K fd ps dd) (hd : Vals dvs dd) (hx : Passes CX X E) (ha : PA X (e :: es) t) (hdb : (xx == ("__debug__" : Str)) = false := by decide)
    (hst : starEach (e :: es) X.env = (false, eval e X.env) :: starEach es X.env := by rfl) (hpl : (backTo pos (starEach es X.env)).any (·.1) = false := by rfl)
    (ht : eval (.Call (.Attribute (.Name xx p0) nm p1) (e :: es) [] pos) X.env = (do
      let ov ← eval (.Name xx p0) X.env
      standAt p1.atName
      let (f, first) ← holding [ov] (getMethod ov nm pl)
      callWith pos f first (backTo pos (starEach (e :: es) X.env)) (backToKw pos (keywordEach [] X.env))) := by rfl) :
    PE X (.Call (.Attribute (.Name xx p0) nm p1) (e :: es) [] pos) (tCall sp dvs E t) := by
  refine ⟨fun pins s σ H Q I h => ?_⟩
  have he : PE X (.Name xx p0) (tC (.ref C)) := pe_glob (v := .ref C) hg hmC rfl hdb
  refine PySem.W.methodCall_KW (pl := pl) (thn (he.run pins s σ H (fun x H1 => x = .ref C ∧ H1 = H) I ⟨rfl, rfl⟩) fun u s1 ⟨x, H1, I1, rx, ex, eH⟩ => ?_) ht
  subst ex eH
  obtain rfl : u = Value.ref C := rx
  refine PySem.W.method_cls I1.kIn r.ga (ClX.getcval_ok I1 r kv fun s2 I2 => ?_)
  refine PySem.W.callWith_K (first := []) (h₀ := X.base) I.ok.mod.kin hk (thn (ha.run pos pins s2 σ H1 _ I2 h) fun us s3 ⟨vs, H2, I3, r3, q3⟩ => ⟨I3.kIn, ?_⟩) hst hpl
  exact run_fn F hr hb hd hx I3 r3 q3
structure Cf1 (P : Program) (w : World) (K : PySem.W.Frag) (mg : Str → Option Value) (base : Heap) (nmC m : Str) (k : Nat) (ps : List Str) (sp : Sp) : Prop where
  ex : ∃ (C : Addr) (mc : Value) (f : Addr) (fd : FuncData), mg nmC = some (.ref C) ∧ ClX.CRead K C mc ∧ ClX.CVal K C mc m (.ref f) (.ref f) ∧ PySem.W.keepIn K (.ref f) = true ∧ Binds K fd ps [] ∧ FnOk P w K mg base CX0 k f fd ps sp
/-- N.m(x, e, ..), x a slot with an own instance at a known place, that changes -/
theorem mx_cfn {α : Type} {ar : α → List O} {pre : α → Prop} {s0 s1 : Addr → α → O} {res : α → O} {k : Nat} {ps : List Str} {l : Addr} {nmC : Str} {pl : Sem Bool} (c : Cf1 X.prog X.w X.K X.mg X.base nmC nm k ps (SpX X.K ar pre s0 s1 res)) (x : α) (pn : PE X (.Name xx p2) (tVar i)) (hi : ρ[i]? = some (some (.at l C ns os))) (ha : MF X ρ es ds) (h0 : s0 l x = .at l C ns os) (hx : ar x = ds.map .fz) (hp : pre x) (hr : Room k X.A)
    (hg : Gl X nmC := by rfl) (hdb : (nmC == ("__debug__" : Str)) = false := by decide) (hst : starEach (.Name xx p2 :: es) X.env = (false, eval (.Name xx p2) X.env) :: starEach es X.env := by rfl) (hpl : (backTo pos (starEach es X.env)).any (·.1) = false := by rfl)
    (ht : eval (.Call (.Attribute (.Name nmC p0) nm p1) (.Name xx p2 :: es) [] pos) X.env = (do
      let ov ← eval (.Name nmC p0) X.env
      standAt p1.atName
      let (f, first) ← holding [ov] (getMethod ov nm pl)
      callWith pos f first (backTo pos (starEach (.Name xx p2 :: es) X.env)) (backToKw pos (keywordEach [] X.env))) := by rfl) : MX X ρ (.Call (.Attribute (.Name nmC p0) nm p1) (.Name xx p2 :: es) [] pos) (res x) (ρ.set i (some (s1 l x))) := by
  obtain ⟨Cc, mc, f, fd, hmC, r, kv, hk, hb, F⟩ := c.ex
  refine .mk fun Z0 F0 Z σ H s Q q => PE_w (pe_cfn (pl := pl) hg hmC r kv hk F hr hb .nil pass0 (pa_cons pn pa_w hst) hdb hst hpl ht) ?_
  obtain ⟨v, A, e1, r1, nA, dA, k1⟩ := s.updX hi
  have th := r1.there
  cases r1 with
  | @«at» l _ dx _ vs0 _ A h0' rl =>
    refine ⟨_, e1, ha.run Z0 F0 Z σ H s _ fun vs Z1 H1 g1 ra => ?_⟩
    exact spX_at x dA nA s g1 th (by rw [h0]; exact .at h0' rl) ra hx hp fun w Z2 H2 B a1 a2 a3 a4 rb nB dB => q w Z2 H2 (k1 a1 a2 a3 a4 rb nB dB)
end
end M
namespace M
open PySem L2 PySem.Spec PyProof.Rows
/-! ### in of flat things -/
def D.flat : D → Bool
  | .non => true
  | .bl _ => true
  | .int _ => true
  | .str _ => true
  | _ => false
def D.v : D → V
  | .bl b => .bl b
  | .int i => .int i
  | .str x => .str x
  | _ => .non
theorem Rep.flat {K : PySem.W.Frag} {Z : Hp} {v : V} {d : D} (r : Rep K Z v d) (h : d.flat = true) : v = d.v := by
  cases r with
  | non => rfl
  | bl b => rfl
  | int i => rfl
  | str x => rfl
  | _ => cases h
theorem RepL.flat {K : PySem.W.Frag} {Z : Hp} : ∀ {vs : List V} {ds : List D}, RepL K Z vs ds → ds.all D.flat = true → vs = ds.map D.v
  | _, _, .nil, _ => rfl
  | _, _, .cons a r, h => by
    rw [List.all_cons, Bool.and_eq_true] at h
    rw [List.map_cons, a.flat h.1, r.flat h.2]
theorem D.flat_v : ∀ {d : D}, d.flat = true → flatV d.v = true
  | .non, _ => rfl
  | .bl _, _ => rfl
  | .int _, _ => rfl
  | .str _, _ => rfl
theorem D.flat_vs : ∀ {ds : List D}, ds.all D.flat = true → (ds.map D.v).all flatV = true
  | [], _ => rfl
  | d :: r, h => by
    rw [List.all_cons, Bool.and_eq_true] at h
    rw [List.map_cons, List.all_cons, D.flat_v h.1, D.flat_vs h.2]
    rfl
/-- d stands among ds -/
def D.among (d : D) (ds : List D) : Bool := inV d.v (ds.map D.v)
section
variable {X : Cx} {ρ : Slots} {a b : Expr} {pos : Pos} {d : D} {ds : List D}
theorem inT_core {neg : Bool} {op : CmpOp} (ho : OpR X (compareOp op) (rIn X.K neg)) (ha : ME X ρ a (.fz d)) (hb : MU X ρ b ds) (hf : d.flat = true) (hfs : ds.all D.flat = true) {Z0 F Z : Hp} {σ : L2.St} {H : Hp} (s : StR X.K ρ Z0 F Z σ H) {Q : VK} (q : ∀ Z' H', Gr Z H Z' H' → Q (.bl (if neg then !(d.among ds) else d.among ds)) H') : tOp (rIn X.K neg) (wE X a) (wE X b) σ H Q :=
  ha.run Z0 F Z σ H s _ fun v Z1 H1 A1 g1 r1 n1 => by
    cases r1 with
    | fz r1 =>
      have e1 := r1.flat hf
      subst e1
      refine hb.run Z0 F Z1 σ H1 (s.grow g1) _ fun l vs Z2 H2 g2 l2 r2 => ?_
      have e2 := r2.flat hfs
      subst e2
      exact ⟨l, _, rfl, .inr l2, D.flat_v hf, D.flat_vs hfs, q Z2 H2 (g1.trans g2)⟩
theorem inL_core {neg : Bool} {op : CmpOp} (ho : OpR X (compareOp op) (rIn X.K neg)) (ha : ME X ρ a (.fz d)) (hb : ML X ρ b ds) (hf : d.flat = true) (hfs : ds.all D.flat = true) {Z0 F Z : Hp} {σ : L2.St} {H : Hp} (s : StR X.K ρ Z0 F Z σ H) {Q : VK} (q : ∀ Z' H', Gr Z H Z' H' → Q (.bl (if neg then !(d.among ds) else d.among ds)) H') : tOp (rIn X.K neg) (wE X a) (wE X b) σ H Q :=
  ha.run Z0 F Z σ H s _ fun v Z1 H1 A1 g1 r1 n1 => by
    cases r1 with
    | fz r1 =>
      have e1 := r1.flat hf
      subst e1
      refine hb.run Z0 F Z1 σ H1 (s.grow g1) _ fun l vs Z2 H2 g2 l2 r2 => ?_
      have e2 := r2.flat hfs
      subst e2
      exact ⟨l, _, rfl, .inl l2, D.flat_v hf, D.flat_vs hfs, q Z2 H2 (g1.trans g2)⟩
theorem mt_inT (ha : ME X ρ a (.fz d)) (hb : MU X ρ b ds) (hf : d.flat = true := by rfl) (hfs : ds.all D.flat = true := by rfl) (hm : behindInMarks .In b = false := by rfl) : MT X ρ (.Compare a [.In] [b] pos) (d.among ds) := .mk fun Z0 F Z σ H s Q q =>
  PT_w (pt_cmpR op_in_seq pe_w pe_w hm) (inT_core op_in_seq ha hb hf hfs s fun Z' H' g => ⟨_, rfl, q Z' H' g⟩)
theorem mt_niT (ha : ME X ρ a (.fz d)) (hb : MU X ρ b ds) (hf : d.flat = true := by rfl) (hfs : ds.all D.flat = true := by rfl) (hm : behindInMarks .NotIn b = false := by rfl) : MT X ρ (.Compare a [.NotIn] [b] pos) (!(d.among ds)) := .mk fun Z0 F Z σ H s Q q =>
  PT_w (pt_cmpR op_notIn_seq pe_w pe_w hm) (inT_core op_notIn_seq ha hb hf hfs s fun Z' H' g => ⟨_, rfl, q Z' H' g⟩)
theorem mt_inL (ha : ME X ρ a (.fz d)) (hb : ML X ρ b ds) (hf : d.flat = true := by rfl) (hfs : ds.all D.flat = true := by rfl) (hm : behindInMarks .In b = false := by rfl) : MT X ρ (.Compare a [.In] [b] pos) (d.among ds) := .mk fun Z0 F Z σ H s Q q =>
  PT_w (pt_cmpR op_in_seq pe_w pe_w hm) (inL_core op_in_seq ha hb hf hfs s fun Z' H' g => ⟨_, rfl, q Z' H' g⟩)
theorem mt_niL (ha : ME X ρ a (.fz d)) (hb : ML X ρ b ds) (hf : d.flat = true := by rfl) (hfs : ds.all D.flat = true := by rfl) (hm : behindInMarks .NotIn b = false := by rfl) : MT X ρ (.Compare a [.NotIn] [b] pos) (!(d.among ds)) := .mk fun Z0 F Z σ H s Q q =>
  PT_w (pt_cmpR op_notIn_seq pe_w pe_w hm) (inL_core op_notIn_seq ha hb hf hfs s fun Z' H' g => ⟨_, rfl, q Z' H' g⟩)
end
/-! ### a module's constant that is a tuple -/
structure TupC (K : PySem.W.Frag) (mg : Str → Option Value) (nm : Str) (ds : List D) : Prop where
  ex : ∃ (a : Addr) (o : Obj) (its : Array Value) (n : Nat) (vs : List V), mg nm = some (.ref a) ∧ K.lookup a = some o ∧ o.cls = .type "tuple" ∧ o.data = .seq its n ∧ its.size ≤ sizeLine ∧ Vals vs its.toList ∧ ∀ Z, RepL K Z vs ds
theorem me_gT {X : Cx} {ρ : Slots} {nm : Str} {pos : Pos} {ds : List D} (c : TupC X.K X.mg nm ds) (hg : Gl X nm := by rfl) (hd : (nm == ("__debug__" : Str)) = false := by decide) : ME X ρ (.Name nm pos) (.fz (.tup ds)) := by
  obtain ⟨a, o, its, n, vs, hm, hk, hc, hda, hz, hv, hr⟩ := c.ex
  exact .mk fun Z0 F Z σ H s Q q => PE_w (pe_glob (v := .ref a) hg hm rfl hd) (q _ Z H [] (Gr.refl s.ex) (.fz (.tup (.inr ⟨o, its, n, hk, hc, hda, hz, hv⟩) (hr Z))) .nil)
end M
namespace M
open PySem L2 PySem.Spec PyProof.Rows
/-! ### a < b < c < d as a test -/
def tChain3 (r1 r2 r3 : R2) (ta tb tc td : TE) : TT := fun σ H Q => ta σ H fun x H1 => tb σ H1 fun y H2 => r1 x y H2 fun z H3 => ∃ k, z = .bl k ∧
  (if k = true then tc σ H3 fun w H4 => r2 y w H4 fun z2 H5 => ∃ k2, z2 = .bl k2 ∧ (if k2 = true then td σ H5 fun u H6 => r3 w u H6 fun z3 H7 => ∃ k3, z3 = .bl k3 ∧ Q k3 H7 else Q false H5) else Q false H3)
section
variable {X : Cx} {ρ : Slots} {a b c d : Expr} {ta tb tc td : TE} {pos : Pos} {m n k l : Int}
theorem pt_chain3 {op1 op2 op3 : CmpOp} {r1 r2 r3 : R2} (h1 : OpR X (compareOp op1) r1) (h2 : OpR X (compareOp op2) r2) (h3 : OpR X (compareOp op3) r3) (ha : PE X a ta) (hb : PE X b tb) (hc : PE X c tc) (hd : PE X d td)
    (hm : lastMarks [op1, op2, op3] [b, c, d] = false := by with_unfolding_all rfl) : PT X (.Compare a [op1, op2, op3] [b, c, d] pos) (tChain3 r1 r2 r3 ta tb tc td) := by
  refine ⟨fun pins s σ H Q I h => ?_⟩
  refine isTrue_chain (thn (ha.run pins s σ H _ I h) fun v s1 ⟨x, H1, I1, rx, q1⟩ => test_link (thn (hb.run pins s1 σ H1 _ I1 q1) fun u s2 ⟨y, H2, I2, ry, q2⟩ =>
    thn (h1 pins s2 σ H2 x y v u _ I2 rx ry q2) fun e s3 ⟨z, H3, I3, rz, k, ez, q3⟩ => ?_)) hm
  subst ez
  cases rz
  refine wpAny_truthy_bool ?_
  cases k with
  | false => exact ite_ff ⟨H3, I3, q3⟩
  | true =>
    refine ite_tt (test_link (thn (hc.run pins s3 σ H3 _ I3 q3) fun w' s4 ⟨w, H4, I4, rw', q4⟩ => thn (h2 pins s4 σ H4 y w u w' _ I4 ry rw' q4) fun e2 s5 ⟨z2, H5, I5, rz2, k2, ez2, q5⟩ => ?_))
    subst ez2
    cases rz2
    refine wpAny_truthy_bool ?_
    cases k2 with
    | false => exact ite_ff ⟨H5, I5, q5⟩
    | true =>
      refine ite_tt (test_last (thn (hd.run pins s5 σ H5 _ I5 q5) fun t' s6 ⟨t, H6, I6, rt, q6⟩ => thn (h3 pins s6 σ H6 w t w' t' _ I6 rw' rt q6) fun e3 s7 ⟨z3, H7, I7, rz3, k3, ez3, q7⟩ => ?_))
      subst ez3
      cases rz3
      exact wpAny_truthy_bool ⟨H7, I7, q7⟩
theorem mt_chain3 {op1 op2 op3 : CmpOp} {f1 f2 f3 : Int → Int → Bool} (h1 : OpR X (compareOp op1) (rI0 fun i j => .bl (f1 i j))) (h2 : OpR X (compareOp op2) (rI0 fun i j => .bl (f2 i j))) (h3 : OpR X (compareOp op3) (rI0 fun i j => .bl (f3 i j)))
    (ha : ME X ρ a (.fz (.int m))) (hb : ME X ρ b (.fz (.int n))) (hc : ME X ρ c (.fz (.int k))) (hd : ME X ρ d (.fz (.int l))) (hm : lastMarks [op1, op2, op3] [b, c, d] = false := by with_unfolding_all rfl) : MT X ρ (.Compare a [op1, op2, op3] [b, c, d] pos) (f1 m n && (f2 n k && f3 k l)) := .mk fun Z0 F Z σ H s Q q =>
  PT_w (pt_chain3 h1 h2 h3 pe_w pe_w pe_w pe_w hm) (ha.run Z0 F Z σ H s _ fun v Z1 H1 A1 g1 r1 n1 => hb.run Z0 F Z1 σ H1 (s.grow g1) _ fun w Z2 H2 A2 g2 r2 n2 => by
    cases r1 with
    | fz r1 =>
      cases r1
      cases r2 with
      | fz r2 =>
        cases r2
        refine ⟨m, n, rfl, rfl, f1 m n, rfl, ?_⟩
        cases hf : f1 m n with
        | false =>
          rw [if_neg Bool.false_ne_true]
          have q' := q Z2 H2 (g1.trans g2)
          rw [hf] at q'
          exact q'
        | true =>
          rw [if_pos rfl]
          refine hc.run Z0 F Z2 σ H2 (s.grow (g1.trans g2)) _ fun y Z3 H3 A3 g3 r3 n3 => ?_
          cases r3 with
          | fz r3 =>
            cases r3
            refine ⟨n, k, rfl, rfl, f2 n k, rfl, ?_⟩
            cases hf2 : f2 n k with
            | false =>
              rw [if_neg Bool.false_ne_true]
              have q' := q Z3 H3 ((g1.trans g2).trans g3)
              rw [hf, hf2] at q'
              exact q'
            | true =>
              rw [if_pos rfl]
              refine hd.run Z0 F Z3 σ H3 (s.grow ((g1.trans g2).trans g3)) _ fun t Z4 H4 A4 g4 r4 n4 => ?_
              cases r4 with
              | fz r4 =>
                cases r4
                have q' := q Z4 H4 (((g1.trans g2).trans g3).trans g4)
                rw [hf, hf2] at q'
                exact ⟨k, l, rfl, rfl, f3 k l, rfl, q'⟩)
theorem me_isN {o : O} {e : Expr} {k2 : Nat} {p2 : Pos} (ha : MV X ρ e o) : ME X ρ (.Compare e [.Is] [.Constant .none k2 p2] pos) (.fz (.bl o.isNon)) := .mk fun Z0 F Z σ H s Q q =>
  PE_w (pe_cmpR op_isN pe_w pe_non (nomark _)) (ha.run Z0 F Z σ H s _ fun v Z1 H1 A1 g1 r1 => ⟨rfl, by rw [r1.isNon]; exact q _ Z1 H1 [] g1 (.fz (.bl _)) .nil⟩)
theorem me_notN {o : O} {e : Expr} {k2 : Nat} {p2 : Pos} (ha : MV X ρ e o) : ME X ρ (.Compare e [.IsNot] [.Constant .none k2 p2] pos) (.fz (.bl (!o.isNon))) := .mk fun Z0 F Z σ H s Q q =>
  PE_w (pe_cmpR op_notN pe_w pe_non (nomark _)) (ha.run Z0 F Z σ H s _ fun v Z1 H1 A1 g1 r1 => ⟨rfl, by rw [r1.isNon]; exact q _ Z1 H1 [] g1 (.fz (.bl _)) .nil⟩)
end
/-! ### ranges with a step -/
theorem wk_rngC {K : PySem.W.Frag} {Zs F : Hp} (lo c : Int) (n : Nat) : Wk K Zs F (Itc lo c n) ((List.range n).map fun k : Nat => D.int (lo + (k : Nat) * c)) := by
  refine ⟨fun i d Z H h _ _ zh => ?_, fun Z H _ _ _ => ?_⟩
  · rw [List.getElem?_map] at h
    by_cases hi : i < n
    · rw [List.getElem?_range hi] at h
      cases h
      refine ⟨hi, fun x H' hy => ?_⟩
      obtain ⟨e, ex⟩ := hy
      subst e ex
      exact ⟨Z, Gr.refl zh, .int _⟩
    · rw [List.getElem?_eq_none (by simpa using hi)] at h
      cases h
  · rw [List.length_map, List.length_range]
    exact Nat.le_refl n
theorem mi_range3 {X : Cx} {ρ : Slots} {es : List Expr} {i j c : Int} {n : Nat} (h : MF X ρ es [.int i, .int j, .int c]) (hr : RgC i j c n) : MI X ρ (iRng3 (wA X es)) ((List.range n).map fun k : Nat => D.int (i + (k : Nat) * c)) := .mk fun Z0 F Z σ H s R q => h.run Z0 F Z σ H s _ fun vs Z' H' g r => by
  cases r with
  | cons a r =>
    cases a
    cases r with
    | cons b r =>
      cases b
      cases r with
      | cons d r =>
        cases d
        cases r
        exact ⟨i, j, c, n, rfl, hr, q _ Z' H' g (wk_rngC i c n)⟩
theorem rgC_5 : ∀ m : Nat, m < 61 → RgC 0 (m : Int) 5 ((m + 4) / 5) := by
  unfold RgC
  decide +kernel
theorem kit_true {K : PySem.W.Frag} {C E : Addr} (h1 : PySem.W.isClsIn K E = true) (h2 : PySem.W.typeIn K (.ref E) = some (.type "type")) (h3 : PySem.W.mroIn K C (.ref E) = some true) : PySem.W.kitOne K (.ref C) (.ref E) = some true := by
  unfold PySem.W.kitOne
  split
  · rfl
  · show PySem.W.kitCls K (.ref C) (.ref E) = some true
    have e : PySem.W.kitCls K (.ref C) (.ref E) = if ((PySem.W.clsIn K E).isSome && PySem.W.typeIn K (.ref E) == some (.type "type")) = true then PySem.W.mroIn K C (.ref E) else none := rfl
    rw [e, if_pos, h3]
    rw [h2]
    show ((PySem.W.clsIn K E).isSome && _) = true
    rw [show (PySem.W.clsIn K E).isSome = true from h1]
    decide
end M
namespace M
open PySem L2 PySem.Spec PyProof.Rows
section
variable {X : Cx} {ρ : Slots} {a b c e : Expr} {es : List Expr} {pos p0 p1 : Pos} {p q : Str} {k : Bool} {ys : List Str}
theorem RepL.strs {K : PySem.W.Frag} {Z : Hp} : ∀ {ys : List Str} {vs : List V}, RepL K Z vs (ys.map .str) → vs = ys.map V.str
  | [], _, .nil => rfl
  | _ :: _, _, .cons (.str _) r => by rw [RepL.strs r]; rfl
/-- s.join(xs), xs a list of texts -/
theorem me_joinL (ha : ME X ρ a (.fz (.str p))) (hb : ML X ρ b (ys.map .str)) (hz : (ys.map (·.length)).sum + ys.length * p.length ≤ 16777216) (hs : starEach [b] X.env = [(false, eval b X.env)] := by rfl) (hbase : attributeBase a "join" X.env (eval a X.env) = eval a X.env := by rfl) (hline : (p1.endLine == pos.line) = true := by rfl) :
    ME X ρ (.Call (.Attribute a "join" p1) [b] [] pos) (.fz (.str (Txt.join p ys))) := .mk fun Z0 F Z σ H s Q qq =>
  PE_w (pe_join pe_w pe_w hs hbase hline) (ha.run Z0 F Z σ H s _ fun v Z1 H1 A1 g1 r1 n1 => by
    cases r1 with
    | fz r1 =>
      cases r1
      refine ⟨⟨_, rfl⟩, hb.run Z0 F Z1 σ H1 (s.grow g1) _ fun l vs Z2 H2 g2 l2 r2 => ?_⟩
      have e := r2.strs
      subst e
      exact ⟨p, l, ys, rfl, rfl, .inl l2, hz, qq _ Z2 H2 [] (g1.trans g2) (.fz (.str _)) .nil⟩)
/-- int(k) of a truth -/
theorem me_intB (hg : Gl X "int") (hm : X.mg "int" = none) (ha : ME X ρ a (.fz (.bl k))) (n1 : NS X a := by exact fun _ => rfl) : ME X ρ (.Call (.Name "int" p0) [a] [] pos) (.fz (.int (if k then 1 else 0))) := .mk fun Z0 F Z σ H s Q q =>
  PE_w (pe_callTy call_int1 hg hm (by decide +kernel) (pa_cons pe_w pa_nil (n1 _)) (he := n1 _)) (ha.run Z0 F Z σ H s _ fun v Z1 H1 A1 g1 r1 n1 => by
    cases r1 with
    | fz r1 =>
      cases r1
      exact .inr ⟨k, rfl, q _ Z1 H1 [] g1 (.fz (.int _)) .nil⟩)
end
end M
namespace M
open PySem L2 PySem.Spec PyProof.Rows
/-! ### mirrors: what a def computes, none where the layer has no word -/
noncomputable def gd {α : Type} (p : Prop) (k : Option α) : Option α := @ite _ p (Classical.propDecidable p) k none
def bd {α β : Type} (o : Option α) (k : α → Option β) : Option β := o.bind k
def lt {α β : Type} (a : α) (k : α → Option β) : Option β := k a
section
variable {α β γ : Type}
theorem gd_some {p : Prop} {k : Option α} {r : α} (h : gd p k = some r) : p ∧ k = some r := by
  unfold gd at h
  by_cases hp : p
  · rw [if_pos hp] at h
    exact ⟨hp, h⟩
  · rw [if_neg hp] at h
    cases h
theorem gd_pos {p : Prop} {k : Option α} (h : p) : gd p k = k := if_pos h
theorem bd_some {o : Option α} {k : α → Option β} {r : β} (h : bd o k = some r) : ∃ a, o = some a ∧ k a = some r := Option.bind_eq_some_iff.mp h
theorem bd_of {o : Option α} {k : α → Option β} {a : α} (h : o = some a) : bd o k = k a := by rw [h]; rfl
theorem lt_some {a : α} {k : α → Option β} {r : β} (h : lt a k = some r) : ∃ x, x = a ∧ k x = some r := ⟨a, rfl, h⟩
theorem lt_of {a : α} {k : α → Option β} : lt a k = k a := rfl
theorem cond_t {c : Bool} {a b : α} {r : α} (h : cond c a b = r) (hc : c = true) : a = r := by rw [hc] at h; exact h
theorem cond_f {c : Bool} {a b : α} {r : α} (h : cond c a b = r) (hc : c = false) : b = r := by rw [hc] at h; exact h
theorem and_c {k c : Bool} {b : Option Bool} (h : cond k b (some false) = some c) : (k && c) = c := by
  cases k with
  | true => rfl
  | false => cases h; rfl
theorem or_c {k c : Bool} {b : Option Bool} (h : cond k (some true) b = some c) : (k || c) = c := by
  cases k with
  | true => cases h; rfl
  | false => rfl
end
/-- how a block ends: on, out of the loop, to its next turn, out of the def -/
inductive Ou (V W R : Type) where
  | nx (v : V) | bk (w : W) | ct (w : W) | rt (r : R)
def ouR {V W R : Type} : Ou V W R → (V → Option R) → Option R
  | .nx v, k => k v
  | .rt r, _ => some r
  | _, _ => none
def ouO {V W V' R : Type} : Ou V W R → (V → Option (Ou V' W R)) → Option (Ou V' W R)
  | .nx v, k => k v
  | .rt r, _ => some (.rt r)
  | .bk w, _ => some (.bk w)
  | .ct w, _ => some (.ct w)
/-- behind a loop -/
def ouL {V V' W R : Type} : Ou V V R → (V → Option (Ou V' W R)) → Option (Ou V' W R)
  | .nx v, k => k v
  | .rt r, _ => some (.rt r)
  | _, _ => none
def lp {α V : Type} (f : α → V → Option V) : List α → V → Option V
  | [], v => some v
  | x :: xs, v => bd (f x v) fun v' => lp f xs v'
def lpO {α V R : Type} (f : α → V → Option (Ou V V R)) : List α → V → Option (Ou V V R)
  | [], v => some (.nx v)
  | x :: xs, v => bd (f x v) fun o => match o with
    | .nx v' => lpO f xs v'
    | .ct v' => lpO f xs v'
    | .bk v' => some (.nx v')
    | .rt r => some (.rt r)
def mpO {α β : Type} (f : α → Option β) : List α → Option (List β)
  | [] => some []
  | x :: xs => bd (f x) fun y => bd (mpO f xs) fun ys => some (y :: ys)
/-- .. of those that a test keeps -/
def fmO {α β : Type} (t : α → Option Bool) (f : α → Option β) : List α → Option (List β)
  | [] => some []
  | x :: xs => bd (t x) fun k => cond k (bd (f x) fun y => bd (fmO t f xs) fun ys => some (y :: ys)) (fmO t f xs)
theorem mpO_pure {α β : Type} (f : α → β) (xs : List α) : mpO (fun x => some (f x)) xs = some (xs.map f) := by
  induction xs with
  | nil => rfl
  | cons x xs ih => show bd (mpO _ xs) _ = _; rw [ih]; rfl
theorem mpO_of {α β : Type} {f : α → Option β} {g : α → β} {xs : List α} (h : ∀ x ∈ xs, f x = some (g x)) : mpO f xs = some (xs.map g) := by
  induction xs with
  | nil => rfl
  | cons x xs ih =>
    show bd (f x) _ = _
    rw [h x List.mem_cons_self]
    show bd (mpO f xs) _ = _
    rw [ih fun y m => h y (List.mem_cons_of_mem _ m)]
    rfl
theorem fmO_of {α β : Type} {t : α → Option Bool} {f : α → Option β} {p : α → Bool} {g : α → β} {xs : List α} (ht : ∀ x ∈ xs, t x = some (p x)) (h : ∀ x ∈ xs, p x = true → f x = some (g x)) : fmO t f xs = some ((xs.filter p).map g) := by
  induction xs with
  | nil => rfl
  | cons x xs ih =>
    show bd (t x) _ = _
    rw [ht x List.mem_cons_self]
    show cond (p x) _ _ = _
    have ih := ih (fun y m => ht y (List.mem_cons_of_mem _ m)) fun y m => h y (List.mem_cons_of_mem _ m)
    cases hp : p x with
    | true =>
      show bd (f x) _ = _
      rw [h x List.mem_cons_self hp]
      show bd (fmO t f xs) _ = _
      rw [ih, List.filter_cons, if_pos hp]
      rfl
    | false =>
      show fmO t f xs = _
      rw [ih, List.filter_cons, if_neg (by rw [hp]; decide)]
theorem lp_of {α V : Type} {f : α → V → Option V} {g : V → α → V} (I : V → Prop) {xs : List α} {v : V} (h : ∀ x ∈ xs, ∀ v, I v → f x v = some (g v x) ∧ I (g v x)) (hv : I v) : lp f xs v = some (xs.foldl g v) ∧ I (xs.foldl g v) := by
  induction xs generalizing v with
  | nil => exact ⟨rfl, hv⟩
  | cons x xs ih =>
    obtain ⟨e, i⟩ := h x List.mem_cons_self v hv
    have q := ih (fun y m => h y (List.mem_cons_of_mem _ m)) i
    refine ⟨?_, q.2⟩
    show bd (f x v) _ = _
    rw [e]
    exact q.1
/-- an invariant by the turn's number -/
theorem lp_inv {α V : Type} {f : α → V → Option V} (I : Nat → V → Prop) {xs : List α} {v : V} (h0 : I 0 v) (h : ∀ (i : Nat) (x : α) (v : V), xs[i]? = some x → I i v → ∃ v', f x v = some v' ∧ I (i + 1) v') : ∃ v', lp f xs v = some v' ∧ I xs.length v' := by
  induction xs generalizing v I with
  | nil => exact ⟨v, rfl, h0⟩
  | cons x xs ih =>
    obtain ⟨v1, e, i1⟩ := h 0 x v rfl h0
    obtain ⟨v2, e2, i2⟩ := ih (fun i => I (i + 1)) i1 fun i y w hy hw => h (i + 1) y w (by simpa using hy) hw
    refine ⟨v2, ?_, i2⟩
    show bd (f x v) _ = _
    rw [e]
    exact e2
/-- a loop that runs to its end -/
theorem lpO_inv {α V R : Type} {f : α → V → Option (Ou V V R)} (I : Nat → V → Prop) {xs : List α} {v : V} (h0 : I 0 v) (h : ∀ (i : Nat) (x : α) (v : V), xs[i]? = some x → I i v → ∃ v', (f x v = some (.nx v') ∨ f x v = some (.ct v')) ∧ I (i + 1) v') : ∃ v', lpO f xs v = some (.nx v') ∧ I xs.length v' := by
  induction xs generalizing v I with
  | nil => exact ⟨v, rfl, h0⟩
  | cons x xs ih =>
    obtain ⟨v1, e, i1⟩ := h 0 x v rfl h0
    obtain ⟨v2, e2, i2⟩ := ih (fun i => I (i + 1)) i1 fun i y w hy hw => h (i + 1) y w (by simpa using hy) hw
    refine ⟨v2, ?_, i2⟩
    show bd (f x v) _ = _
    rcases e with e | e <;> rw [e] <;> exact e2
/-- any end: the outcomes by invariants -/
theorem lpO_post {α V R : Type} {f : α → V → Option (Ou V V R)} (I : Nat → V → Prop) (P : Ou V V R → Prop) {xs : List α} {v : V} (h0 : I 0 v) (h : ∀ (i : Nat) (x : α) (v : V), xs[i]? = some x → I i v → ∃ o, f x v = some o ∧ match o with
    | .nx v' => I (i + 1) v'
    | .ct v' => I (i + 1) v'
    | .bk v' => P (.nx v')
    | .rt r => P (.rt r)) (hd : ∀ v, I xs.length v → P (.nx v)) : ∃ o, lpO f xs v = some o ∧ P o := by
  induction xs generalizing v I with
  | nil => exact ⟨_, rfl, hd v h0⟩
  | cons x xs ih =>
    obtain ⟨o, e, i1⟩ := h 0 x v rfl h0
    have go : ∀ v1, I 1 v1 → ∃ o, lpO f xs v1 = some o ∧ P o := fun v1 i1 => ih (fun i => I (i + 1)) i1 (fun i y w hy hw => h (i + 1) y w (by simpa using hy) hw) hd
    cases o with
    | nx v1 =>
      obtain ⟨o2, e2, i2⟩ := go v1 i1
      exact ⟨o2, by show bd (f x v) _ = _; rw [e]; exact e2, i2⟩
    | ct v1 =>
      obtain ⟨o2, e2, i2⟩ := go v1 i1
      exact ⟨o2, by show bd (f x v) _ = _; rw [e]; exact e2, i2⟩
    | bk v1 => exact ⟨_, by show bd (f x v) _ = _; rw [e]; rfl, i1⟩
    | rt r => exact ⟨_, by show bd (f x v) _ = _; rw [e]; rfl, i1⟩
/-! ### the goal of a block by its mirror's end -/
def goO {V W R : Type} (Rn : V → Slots) (Rw : W → Slots) (er : R → O) (o : Ou V W R) : Go :=
  { nx := fun τ => ∃ v, o = .nx v ∧ Le τ (Rn v), bk := fun τ => ∃ w, o = .bk w ∧ Le τ (Rw w), ct := fun τ => ∃ w, o = .ct w ∧ Le τ (Rw w), rt := fun q => ∃ r, o = .rt r ∧ q = er r }
section
variable {X : Cx} {ρ : Slots} {e a b c elt : Expr} {es : List Expr} {st : Stmt} {sts : List Stmt} {G : Go} {o o1 o2 : O} {d : D} {ds : List D} {pos p0 p1 p2 p3 p4 : Pos} {i : Nat} {x nm : Str} {α β V W R : Type}
/-- for, no way out but the end -/
theorem m_forP {xs : List α} {enc : α → D} {wi : TI} {g : TG} {body : List Stmt} (p : PS X st (tFor wi g (wS X body))) (h : MI X ρ wi (xs.map enc)) {f : α → V → Option V} {v0 v1 : V} (hx : lp f xs v0 = some v1) (Rn : V → Slots) (h0 : Le ρ (Rn v0))
    (hs : ∀ (x : α) (v v' : V), x ∈ xs → f x v = some v' → ∃ τ' ws, MTg g X.K (Rn v) (enc x) τ' ws ∧ MS X τ' body { nx := fun τ => Le τ (Rn v') })
    (hd : ∀ τ, Le τ (Rn v1) → G.nx τ) : MS1 X ρ st G := by
  refine m_forTS (xs := xs) (enc := enc) p h (fun v : V => Rn v) (fun j v => lp f (xs.drop j) v = some v1) ⟨v0, hx, h0⟩ (fun j y v hj hv => ?_) fun τ v hv l => hd τ ?_
  · obtain ⟨hi, ey⟩ := List.getElem?_eq_some_iff.mp hj
    rw [← List.getElem_cons_drop (h := hi), ey] at hv
    obtain ⟨v', e1, e2⟩ := bd_some hv
    obtain ⟨τ', ws, t1, t2⟩ := hs y v v' (List.mem_of_getElem? hj) e1
    exact ⟨τ', ws, t1, ms_imp t2 (fun τ l => ⟨v', e2, l⟩) (fun _ z => z.elim) (fun _ z => z.elim) (fun _ z => z.elim) fun _ _ z => z.elim⟩
  · rw [List.drop_length] at hv
    cases hv
    exact l
/-- for with ways out -/
theorem m_forO {xs : List α} {enc : α → D} {wi : TI} {g : TG} {body : List Stmt} (p : PS X st (tFor wi g (wS X body))) (h : MI X ρ wi (xs.map enc)) {f : α → V → Option (Ou V V R)} {v0 : V} {out : Ou V V R} (hx : lpO f xs v0 = some out) (Rn : V → Slots) (er : R → O) (h0 : Le ρ (Rn v0))
    (hs : ∀ (x : α) (v : V) (o : Ou V V R), x ∈ xs → f x v = some o → ∃ τ' ws, MTg g X.K (Rn v) (enc x) τ' ws ∧ MS X τ' body (goO Rn Rn er o))
    (hd : ∀ v τ, out = .nx v → Le τ (Rn v) → G.nx τ) (hr : ∀ r, out = .rt r → G.rt (er r)) : MS1 X ρ st G := by
  refine m_forTS (xs := xs) (enc := enc) p h (fun v : V => Rn v) (fun j v => lpO f (xs.drop j) v = some out) ⟨v0, hx, h0⟩ (fun j y v hj hv => ?_) fun τ v hv l => ?_
  · obtain ⟨hi, ey⟩ := List.getElem?_eq_some_iff.mp hj
    rw [← List.getElem_cons_drop (h := hi), ey] at hv
    obtain ⟨o, e1, e2⟩ := bd_some hv
    obtain ⟨τ', ws, t1, t2⟩ := hs y v o (List.mem_of_getElem? hj) e1
    refine ⟨τ', ws, t1, ms_imp t2 (fun τ l => ?_) (fun q l => ?_) (fun τ l => ?_) (fun τ l => ?_) fun _ _ z => z.elim⟩
    · obtain ⟨v', rfl, l⟩ := l
      exact ⟨v', e2, l⟩
    · obtain ⟨r, rfl, rfl⟩ := l
      cases e2
      exact hr r rfl
    · obtain ⟨v', rfl, l⟩ := l
      cases e2
      exact hd v' τ rfl l
    · obtain ⟨v', rfl, l⟩ := l
      exact ⟨v', e2, l⟩
  · rw [List.drop_length] at hv
    cases hv
    exact hd v τ rfl l
/-- if whose ways come together -/
theorem m_ifO {c : Expr} {a b : List Stmt} {t : Bool} {p : Pos} {out : Ou V W R} (Rn : V → Slots) (Rw : W → Slots) (er : R → O) (hc : MT X ρ c t) (h1 : t = true → MS X ρ a (goO Rn Rw er out)) (h2 : t = false → MS X ρ b (goO Rn Rw er out))
    (kn : ∀ v τ, out = .nx v → Le τ (Rn v) → G.nx τ) (kb : ∀ w τ, out = .bk w → Le τ (Rw w) → G.bk τ) (kc : ∀ w τ, out = .ct w → Le τ (Rw w) → G.ct τ) (kr : ∀ r, out = .rt r → G.rt (er r)) : MS1 X ρ (.If c a b p) G := by
  have im : ∀ {s : List Stmt}, MS X ρ s (goO Rn Rw er out) → MS X ρ s G := fun h => ms_imp h (fun τ ⟨v, e, l⟩ => kn v τ e l) (fun q ⟨r, e, l⟩ => by rw [l]; exact kr r e) (fun τ ⟨v, e, l⟩ => kb v τ e l) (fun τ ⟨v, e, l⟩ => kc v τ e l) fun _ _ z => z.elim
  exact m_if hc (fun h => im (h1 h)) fun h => im (h2 h)
/-- if whose ways come together, none leaves -/
theorem m_ifP {c : Expr} {a b : List Stmt} {t : Bool} {p : Pos} {out : V} (Rn : V → Slots) (hc : MT X ρ c t) (h1 : t = true → MS X ρ a { nx := fun τ => Le τ (Rn out) }) (h2 : t = false → MS X ρ b { nx := fun τ => Le τ (Rn out) })
    (kn : ∀ τ, Le τ (Rn out) → G.nx τ) : MS1 X ρ (.If c a b p) G := by
  have im : ∀ {s : List Stmt}, MS X ρ s { nx := fun τ => Le τ (Rn out) } → MS X ρ s G := fun h => ms_imp h (fun τ l => kn τ l) (fun q z => z.elim) (fun τ z => z.elim) (fun τ z => z.elim) fun _ _ z => z.elim
  exact m_if hc (fun h => im (h1 h)) fun h => im (h2 h)
/-! ### typed lists -/
theorem atI_map {enc : α → D} {xs : List α} {k : Int} {y : α} (h : L2.atI xs k = some y) : L2.atI (xs.map enc) k = some (enc y) := by
  unfold L2.atI at h ⊢
  rw [List.length_map]
  cases e : ixN xs.length k with
  | none => rw [e] at h; cases h
  | some n =>
    rw [e] at h
    have h : xs[n]? = some y := h
    show (xs.map enc)[n]? = some (enc y)
    rw [List.getElem?_map, h]
    rfl
theorem me_ixLT {xs : List α} {enc : α → D} {k : Int} {y : α} (h : L2.atI xs k = some y) (ha : ML X ρ a (xs.map enc)) (hb : ME X ρ b (.fz (.int k))) (hp : PlainIx b := by exact fun _ _ => rfl) : ME X ρ (.Subscript a b pos) (.fz (enc y)) := me_ixL ha hb (atI_map h) hp
theorem cutG_map {enc : α → β} {xs : List α} {lo hi : Option Int} : cutG (xs.map enc) lo hi = (cutG xs lo hi).map enc := by
  unfold cutG
  rw [List.length_map, List.map_take, List.map_drop]
theorem me_slLT {xs : List α} {enc : α → D} {lo hi : Option Expr} {li hj : Option Int} (ha : ML X ρ a (xs.map enc)) (hl : MO X ρ lo li) (hh : MO X ρ hi hj) : ME X ρ (.Subscript a (.Slice lo hi none p2) pos) (.lst (((cutG xs li hj).map enc).map .fz)) := ME.is (me_slL ha hl hh) (by rw [cutG_map])
theorem me_revLT {xs : List α} {enc : α → D} {kk : Nat} (ha : ML X ρ a (xs.map enc)) : ME X ρ (.Subscript a (.Slice none none (some (.UnaryOp .USub (.Constant (.int 1) kk p1) p2)) p3) pos) (.lst ((xs.reverse.map enc).map .fz)) := ME.is (me_revL ha) (congrArg (fun z => O.lst (List.map O.fz z)) List.map_reverse.symm)
theorem me_catLT {xs ys : List α} {enc : α → D} (hl : xs.length + ys.length ≤ sizeLine) (ha : MV X ρ a (.lst ((xs.map enc).map .fz))) (hb : MV X ρ b (.lst ((ys.map enc).map .fz))) : ME X ρ (.BinOp a .Add b pos) (.lst (((xs ++ ys).map enc).map .fz)) := ME.is (me_catL ha hb (by rw [List.length_map, List.length_map]; exact hl)) (congrArg (fun z => O.lst (List.map O.fz z)) List.map_append.symm)
theorem m_appendT {xs : List α} {enc : α → D} {y : α} {p1 p2 p3 p4 : Pos} (hl : xs.length < sizeLine) (p : PE X (.Name x p1) (tVar i)) (hi : ρ[i]? = some (some (.lst ((xs.map enc).map .fz)))) (he : ME X ρ e (.fz (enc y))) (k : G.nx (ρ.set i (some (.lst (((xs ++ [y]).map enc).map .fz)))))
    (q : ∀ t, PE X (.Call (.Attribute (.Name x p1) "append" p2) [e] [] p3) t → PS X (.Expr (.Call (.Attribute (.Name x p1) "append" p2) [e] [] p3) p4) (tDrop t) := by exact fun _ h => ps_expr h)
    (pm : PE X (.Call (.Attribute (.Name x p1) "append" p2) [e] [] p3) (tBM X.K "list" rAppend (tVar i) (tCons (wE X e) tNil)) := by exact pe_bm PySem.F.plainAttrs_list PySem.F.slot_list_append PySem.F.type_list_append mt_append (pv _) (pa_cons pe_w pa_nil)) : MS1 X ρ (.Expr (.Call (.Attribute (.Name x p1) "append" p2) [e] [] p3) p4) G :=
  m_append p hi he (by rw [List.length_map, List.length_map]; exact hl) (by rw [List.map_append, List.map_append] at k; exact k) q pm
theorem m_setItemT {xs : List α} {enc : α → D} {y : α} {k : Int} {j : Nat} (hj : ixN xs.length k = some j) (pn : PE X (.Name x p1) (tVar i)) (hi : ρ[i]? = some (some (.lst ((xs.map enc).map .fz)))) (h1 : ME X ρ a (.fz (.int k))) (h2 : ME X ρ b (.fz (enc y))) (kk : G.nx (ρ.set i (some (.lst (((xs.set j y).map enc).map .fz)))))
    (pm : PS X (.Assign [.Subscript (.Name x p1) a p2] b p3) (tAsg (wE X b) (gSub (tVar i) (wE X a) rSetL)) := by exact ps_asg pe_w (pg_sub (pv _) pe_w set_list)) : MS1 X ρ (.Assign [.Subscript (.Name x p1) a p2] b p3) G :=
  m_setItem pn hi h1 h2 (by rw [List.length_map]; exact hj) (by rw [List.map_set] at kk; exact kk) pm
theorem enm_map {enc : α → D} {xs : List α} : enm (xs.map enc) = xs.zipIdx.map fun p => D.tup [.int (p.2 : Nat), enc p.1] := by
  unfold enm
  rw [List.zipIdx_map, List.map_map]
  rfl
theorem mi_enumT {xs : List α} {enc : α → D} (h : MK X ρ e (xs.map enc)) (n1 : NS X e := by exact fun _ => rfl) : MI X ρ (iEnum X.K (wA X [e])) (xs.zipIdx.map fun p => D.tup [.int (p.2 : Nat), enc p.1]) := by
  rw [← enm_map]
  exact mi_enum h n1
theorem mi_revT {xs : List α} {enc : α → D} (h : MK X ρ e (xs.map enc)) (n1 : NS X e := by exact fun _ => rfl) : MI X ρ (iRev X.K (wA X [e])) (xs.reverse.map enc) := by
  rw [List.map_reverse]
  exact mi_rev h n1
theorem mi_rangeT {j : Int} (h : MF X ρ es [.int j]) (h1 : -(2 ^ 62) ≤ j ∧ j < 2 ^ 62) : MI X ρ (iRng1 (wA X es)) ((List.range j.toNat).map fun k : Nat => D.int (k : Nat)) := by
  have q := mi_range1 h h1.1 h1.2
  unfold rng at q
  simp only [Int.zero_add] at q
  exact q
theorem mi_rangeT2 {k j : Int} (h : MF X ρ es [.int k, .int j]) (hb : -(2 ^ 62) ≤ k ∧ k < 2 ^ 62 ∧ -(2 ^ 62) ≤ j ∧ j < 2 ^ 62) : MI X ρ (iRng2 (wA X es)) ((List.range (j - k).toNat).map fun m : Nat => D.int (k + (m : Nat))) := mi_range2 h hb
theorem mi_strT {y : Str} (h : ME X ρ e (.fz (.str y))) : MI X ρ (iStr (wE X e)) (y.cps.toList.map fun c => D.str ⟨#[c]⟩) := mi_str h
/-! ### comprehensions by their mirrors -/
theorem mpO_get {f : α → Option β} : ∀ {xs : List α} {ys : List β}, mpO f xs = some ys → (∀ x ∈ xs, ∃ y, f x = some y) ∧ ys = xs.filterMap f
  | [], _, h => by cases h; exact ⟨fun _ m => (nomatch m), rfl⟩
  | x :: xs, _, h => by
    obtain ⟨y, e1, h⟩ := bd_some h
    obtain ⟨ys, e2, h⟩ := bd_some h
    cases h
    obtain ⟨q1, q2⟩ := mpO_get e2
    refine ⟨fun z m => (List.mem_cons.mp m).elim (fun e => by rw [e]; exact ⟨y, e1⟩) (q1 z), ?_⟩
    rw [List.filterMap_cons, e1, q2]
noncomputable def ofO (enc : β → D) (f : α → Option β) (x : α) : D := match f x with
  | some y => enc y
  | none => .non
theorem mpO_map {enc : β → D} {f : α → Option β} : ∀ {xs : List α} {ys : List β}, mpO f xs = some ys → xs.map (ofO enc f) = ys.map enc
  | [], _, h => by cases h; rfl
  | x :: xs, _, h => by
    obtain ⟨y, e1, h⟩ := bd_some h
    obtain ⟨ys, e2, h⟩ := bd_some h
    cases h
    rw [List.map_cons, List.map_cons, mpO_map e2]
    unfold ofO
    rw [e1]
theorem fmO_map {enc : β → D} {t : α → Option Bool} {f : α → Option β} : ∀ {xs : List α} {ys : List β}, fmO t f xs = some ys → ∃ p : α → Bool, (∀ x ∈ xs, t x = some (p x)) ∧ (∀ x ∈ xs, p x = true → ∃ y, f x = some y) ∧ (xs.filter p).map (ofO enc f) = ys.map enc := by
  intro xs ys h
  refine ⟨fun x => t x == some true, ?_⟩
  induction xs generalizing ys with
  | nil => cases h; exact ⟨fun _ m => (nomatch m), fun _ m => (nomatch m), rfl⟩
  | cons x xs ih =>
    obtain ⟨k, e1, h⟩ := bd_some h
    cases k with
    | true =>
      obtain ⟨y, e2, h⟩ := bd_some h
      obtain ⟨zs, e3, h⟩ := bd_some h
      cases h
      obtain ⟨q1, q2, q3⟩ := ih e3
      refine ⟨fun z m => (List.mem_cons.mp m).elim (fun e => by rw [e]; show t x = some (t x == some true); rw [e1]; rfl) (q1 z), fun z m => (List.mem_cons.mp m).elim (fun e _ => by rw [e]; exact ⟨y, e2⟩) (q2 z), ?_⟩
      rw [List.filter_cons, if_pos (by rw [e1]; rfl), List.map_cons, List.map_cons, q3]
      unfold ofO
      rw [e2]
    | false =>
      obtain ⟨q1, q2, q3⟩ := ih h
      refine ⟨fun z m => (List.mem_cons.mp m).elim (fun e => by rw [e]; show t x = some (t x == some true); rw [e1]; rfl) (q1 z), fun z m => (List.mem_cons.mp m).elim (fun e k => by rw [e] at k; have k : (t x == some true) = true := k; rw [e1] at k; cases k) (q2 z), ?_⟩
      rw [List.filter_cons, if_neg (by rw [e1]; decide)]
      exact q3
theorem me_lcO {xs : List α} {ys : List β} {enc : α → D} {enc2 : β → D} {f : α → Option β} (hy : mpO f xs = some ys) {wi : TI} {g : TG} {scope : Scope} {vs : List Nat} (p : ∀ te : TE, (∀ (s : Shared) (H : Hp) (C : Addr) (cl : List (Str × Addr)) (fp : List Addr), PE (X.blk s H scope (compEnvC scope cl C X.env) fp) elt te) → PE X e (tLc wi g tYes te vs))
    (h : MIc X ρ wi (xs.map enc)) (hz : xs.length < sizeLine)
    (hs : ∀ d ∈ xs, ∀ y, f d = some y → ∃ τ ws, MTg g X.K (wipeS ρ vs) (enc d) τ ws ∧ (∀ w ∈ ws, w ∈ vs) ∧ ∀ (s : Shared) (H : Hp) (C : Addr) (cl : List (Str × Addr)) (fp : List Addr), ME (X.blk s H scope (compEnvC scope cl C X.env) fp) τ elt (.fz (enc2 y))) :
    ME X ρ e (.lst ((ys.map enc2).map .fz)) := ME.is (me_lc p h (ofO enc2 f) hz fun d m => by
    obtain ⟨y, ey⟩ := (mpO_get hy).1 d m
    obtain ⟨τ, ws, t1, t2, t3⟩ := hs d m y ey
    exact ⟨τ, ws, t1, t2, fun s H C cl fp => ME.is (t3 s H C cl fp) (by unfold ofO; rw [ey])⟩) (by rw [mpO_map hy])
theorem me_lcIfO {xs : List α} {ys : List β} {enc : α → D} {enc2 : β → D} {t : α → Option Bool} {f : α → Option β} (hy : fmO t f xs = some ys) {wi : TI} {g : TG} {scope : Scope} {vs : List Nat} {c : Expr} (p : ∀ (tt : TT) (te : TE), (∀ (s : Shared) (H : Hp) (C : Addr) (cl : List (Str × Addr)) (fp : List Addr), PT (X.blk s H scope (compEnvC scope cl C X.env) fp) c tt) →
      (∀ (s : Shared) (H : Hp) (C : Addr) (cl : List (Str × Addr)) (fp : List Addr), PE (X.blk s H scope (compEnvC scope cl C X.env) fp) elt te) → PE X e (tLc wi g tt te vs))
    (h : MIc X ρ wi (xs.map enc)) (hz : xs.length < sizeLine)
    (hs : ∀ d ∈ xs, ∀ k, t d = some k → ∃ τ ws, MTg g X.K (wipeS ρ vs) (enc d) τ ws ∧ (∀ w ∈ ws, w ∈ vs) ∧ ∀ (s : Shared) (H : Hp) (C : Addr) (cl : List (Str × Addr)) (fp : List Addr), MT (X.blk s H scope (compEnvC scope cl C X.env) fp) τ c k ∧ (k = true → ∀ y, f d = some y → ME (X.blk s H scope (compEnvC scope cl C X.env) fp) τ elt (.fz (enc2 y)))) :
    ME X ρ e (.lst ((ys.map enc2).map .fz)) := by
  obtain ⟨pb, q1, q2, q3⟩ := fmO_map (enc := enc2) hy
  refine ME.is (me_lcIf p h pb (ofO enc2 f) hz fun d m => ?_) (by rw [q3])
  obtain ⟨τ, ws, t1, t2, t3⟩ := hs d m (pb d) (q1 d m)
  refine ⟨τ, ws, t1, t2, fun s H C cl fp => ⟨(t3 s H C cl fp).1, fun hk => ?_⟩⟩
  obtain ⟨y, ey⟩ := q2 d m hk
  exact ME.is ((t3 s H C cl fp).2 hk y ey) (by unfold ofO; rw [ey])
theorem m_setLcO {xs : List α} {ys : List β} {enc : α → D} {enc2 : β → D} {f : α → Option β} (hy : mpO f xs = some ys) {wi : TI} {g : TG} {scope : Scope} {vs : List Nat} (p : ∀ te : TE, (∀ (s : Shared) (H : Hp) (C : Addr) (cl : List (Str × Addr)) (fp : List Addr), PE (X.blk s H scope (compEnvC scope cl C X.env) fp) elt te) → PS X st (tAsg (tLc wi g tYes te vs) (gName i)))
    (h : MIc X ρ wi (xs.map enc)) (hz : xs.length < sizeLine)
    (hs : ∀ d ∈ xs, ∀ y, f d = some y → ∃ τ ws, MTg g X.K (wipeS ρ vs) (enc d) τ ws ∧ (∀ w ∈ ws, w ∈ vs) ∧ ∀ (s : Shared) (H : Hp) (C : Addr) (cl : List (Str × Addr)) (fp : List Addr), ME (X.blk s H scope (compEnvC scope cl C X.env) fp) τ elt (.fz (enc2 y)))
    (k : G.nx (ρ.set i (some (.lst ((ys.map enc2).map .fz))))) (hi : i < ρ.length := by exact Nat.le_of_ble_eq_true rfl) : MS1 X ρ st G := m_setLc p h (ofO enc2 f) hz (fun d m => by
    obtain ⟨y, ey⟩ := (mpO_get hy).1 d m
    obtain ⟨τ, ws, t1, t2, t3⟩ := hs d m y ey
    exact ⟨τ, ws, t1, t2, fun s H C cl fp => ME.is (t3 s H C cl fp) (by unfold ofO; rw [ey])⟩) (by rw [mpO_map hy]; exact k) hi
end
/-- the promise of a def by its mirror -/
def SpF {A R : Type} (K : PySem.W.Frag) (ar : A → List O) (f : A → Option R) (er : R → O) : Sp := SpM K (fun x : A × R => ar x.1) (fun x => f x.1 = some x.2) (fun x => er x.2)
end M
namespace M
open PySem L2 PySem.Spec PyProof.Rows
abbrev sg1 (c : Nat) : Str := ⟨#[c]⟩
abbrev strI (m : Int) : Str := toString m
abbrev e_d (d : D) : D := d
abbrev e_n (_ : Unit) : D := .non
/-! ### a result's calculus: it is there, and P holds of it -/
def Ok {α : Type} (o : Option α) (P : α → Prop) : Prop := ∃ r, o = some r ∧ P r
section
variable {α β V W R : Type} {P : β → Prop}
theorem ok_gd {p : Prop} {k : Option β} (h : p) (hk : Ok k P) : Ok (gd p k) P := by rw [gd_pos h]; exact hk
theorem ok_bd {o : Option α} {k : α → Option β} {Q : α → Prop} (h : Ok o Q) (hk : ∀ a, Q a → Ok (k a) P) : Ok (bd o k) P := by
  obtain ⟨a, e, q⟩ := h
  rw [bd_of e]
  exact hk a q
theorem ok_lt {a : α} {k : α → Option β} (hk : Ok (k a) P) : Ok (lt a k) P := hk
theorem ok_ltx {a : α} {k : α → Option β} (hk : ∀ x, x = a → Ok (k x) P) : Ok (lt a k) P := hk a rfl
theorem ok_some {b : β} (h : P b) : Ok (some b) P := ⟨b, rfl, h⟩
theorem ok_cond {c : Bool} {a b : Option β} (h1 : c = true → Ok a P) (h2 : c = false → Ok b P) : Ok (cond c a b) P := by
  cases c with
  | true => exact h1 rfl
  | false => exact h2 rfl
theorem ok_t {c : Bool} {a b : Option β} (hc : c = true) (h : Ok a P) : Ok (cond c a b) P := by rw [hc]; exact h
theorem ok_f {c : Bool} {a b : Option β} (hc : c = false) (h : Ok b P) : Ok (cond c a b) P := by rw [hc]; exact h
theorem Ok.imp {Q : β → Prop} {o : Option β} (h : Ok o Q) (f : ∀ r, Q r → P r) : Ok o P := let ⟨r, e, q⟩ := h; ⟨r, e, f r q⟩
theorem Ok.eq {o : Option β} {b : β} (h : Ok o (· = b)) : o = some b := by obtain ⟨r, e, rfl⟩ := h; exact e
theorem Ok.of {o : Option β} {b : β} (h : o = some b) : Ok o (· = b) := ⟨b, h, rfl⟩
theorem ok_atI {xs : List α} {k : Int} {Q : α → Prop} (h0 : 0 ≤ k) (h1 : k < xs.length) (q : ∀ y, xs[k.toNat]? = some y → Q y) : Ok (L2.atI xs k) Q := by
  have hk : k.toNat < xs.length := by omega
  refine ⟨xs[k.toNat], ?_, q _ (List.getElem?_eq_getElem hk)⟩
  obtain ⟨n, rfl⟩ := Int.eq_ofNat_of_zero_le h0
  exact atI_nat (List.getElem?_eq_getElem (by simpa using hk))
theorem ok_atIm {xs : List α} {k : Int} {Q : α → Prop} (h0 : 0 ≤ k) (h1 : k < xs.length) (q : ∀ y ∈ xs, Q y) : Ok (L2.atI xs k) Q := ok_atI h0 h1 fun y e => q y (List.mem_of_getElem? e)
theorem ok_lp {f : α → V → Option V} {xs : List α} {v : V} {Q : V → Prop} (I : Nat → V → Prop) (h0 : I 0 v) (h : ∀ (i : Nat) (x : α) (v : V), xs[i]? = some x → I i v → Ok (f x v) (I (i + 1))) (hd : ∀ v, I xs.length v → Q v) : Ok (lp f xs v) Q := by
  obtain ⟨v', e, i⟩ := lp_inv I h0 h
  exact ⟨v', e, hd v' i⟩
theorem ok_lpE {f : α → V → Option V} {g : V → α → V} {xs : List α} {v : V} (h : ∀ x ∈ xs, ∀ v, f x v = some (g v x)) : Ok (lp f xs v) (· = xs.foldl g v) := .of (lp_of (fun _ => True) (fun x m v _ => ⟨h x m v, trivial⟩) trivial).1
theorem ok_lpO {f : α → V → Option (Ou V V R)} {xs : List α} {v : V} {Q : Ou V V R → Prop} (I : Nat → V → Prop) (h0 : I 0 v) (h : ∀ (i : Nat) (x : α) (v : V), xs[i]? = some x → I i v → Ok (f x v) fun o => match o with
    | .nx v' => I (i + 1) v'
    | .ct v' => I (i + 1) v'
    | .bk v' => Q (.nx v')
    | .rt r => Q (.rt r)) (hd : ∀ v, I xs.length v → Q (.nx v)) : Ok (lpO f xs v) Q := lpO_post I Q h0 h hd
theorem ok_lpN {f : α → V → Option (Ou V V R)} {xs : List α} {v : V} {Q : Ou V V R → Prop} (I : Nat → V → Prop) (h0 : I 0 v) (h : ∀ (i : Nat) (x : α) (v : V), xs[i]? = some x → I i v → Ok (f x v) fun o => ∃ v', (o = .nx v' ∨ o = .ct v') ∧ I (i + 1) v') (hd : ∀ v, I xs.length v → Q (.nx v)) : Ok (lpO f xs v) Q := by
  obtain ⟨v', e, i⟩ := lpO_inv (f := f) I h0 fun i x v hx hv => by
    obtain ⟨o, e, v', e2, q⟩ := h i x v hx hv
    exact ⟨v', e2.imp (fun z => by rw [e, z]) (fun z => by rw [e, z]), q⟩
  exact ⟨_, e, hd v' i⟩
theorem ok_mpO {f : α → Option β} {xs : List α} {Q : List β → Prop} (T : α → β → Prop) (h : ∀ x ∈ xs, Ok (f x) (T x)) (q : ∀ ys : List β, ys.length = xs.length → (∀ (i : Nat) (x : α) (y : β), xs[i]? = some x → ys[i]? = some y → T x y) → Q ys) : Ok (mpO f xs) Q := by
  suffices H : ∃ ys : List β, mpO f xs = some ys ∧ ys.length = xs.length ∧ ∀ (i : Nat) (x : α) (y : β), xs[i]? = some x → ys[i]? = some y → T x y by
    obtain ⟨ys, e, l, t⟩ := H
    exact ⟨ys, e, q ys l t⟩
  clear q
  induction xs with
  | nil => exact ⟨[], rfl, rfl, fun i x y h => by simp at h⟩
  | cons x xs ih =>
    obtain ⟨y, e1, t1⟩ := h x List.mem_cons_self
    obtain ⟨ys, e2, l, t⟩ := ih fun z m => h z (List.mem_cons_of_mem _ m)
    refine ⟨y :: ys, ?_, by simp [l], fun i a b ha hb => ?_⟩
    · show bd (f x) _ = _
      rw [bd_of e1]
      show bd (mpO f xs) _ = _
      rw [bd_of e2]
    · cases i with
      | zero =>
        simp at ha hb
        rw [← ha, ← hb]
        exact t1
      | succ i => exact t i a b (by simpa using ha) (by simpa using hb)
theorem ok_mpE {f : α → Option β} {g : α → β} {xs : List α} (h : ∀ x ∈ xs, f x = some (g x)) : Ok (mpO f xs) (· = xs.map g) := .of (mpO_of h)
theorem ok_mpM {f : α → Option β} {xs : List α} (T : β → Prop) (h : ∀ x ∈ xs, Ok (f x) T) : Ok (mpO f xs) fun ys => ys.length = xs.length ∧ ∀ y ∈ ys, T y := ok_mpO (fun _ => T) h fun ys l t => ⟨l, fun y m => by
  obtain ⟨i, e⟩ := List.mem_iff_getElem?.mp m
  have hi : i < xs.length := by
    have := (List.getElem?_eq_some_iff.mp e).1
    omega
  exact t i _ y (List.getElem?_eq_getElem hi) e⟩
end
section
variable {X : Cx} {ρ : Slots} {e a b c elt : Expr} {es : List Expr} {st : Stmt} {sts : List Stmt} {G : Go} {o o1 o2 : O} {d : D} {ds : List D} {pos p0 p1 p2 p3 p4 : Pos} {i : Nat} {x nm : Str} {α β : Type} {p q : Str} {k l : Bool} {m n : Int}
theorem MT.is (h : MT X ρ e k) (q : k = l) : MT X ρ e l := q ▸ h
theorem MW.is (h : MW X ρ e k) (q : k = l) : MW X ρ e l := q ▸ h
theorem ME.isB (h : ME X ρ e (.fz (.bl k))) (q : k = l) : ME X ρ e (.fz (.bl l)) := q ▸ h
theorem frz_own {enc : α → D} {xs : List α} : (O.lst ((xs.map enc).map .fz)).frz = .lst (xs.map enc) := congrArg D.lst (O.frzL_fz _)
theorem me_lenLT {xs : List α} {enc : α → D} (hg : Gl X "len") (hm : X.mg "len" = none) (ha : ML X ρ a (xs.map enc)) (n1 : NS X a := by exact fun _ => rfl) : ME X ρ (.Call (.Name "len" p0) [a] [] pos) (.fz (.int (xs.length : Int))) := ME.is (me_len hg hm ha n1) (by rw [List.length_map])
theorem repG_map {enc : α → β} {xs : List α} {k : Int} : repG (xs.map enc) k = (repG xs k).map enc := by
  unfold repG
  rw [List.map_flatten, List.map_replicate]
theorem me_repT {xs : List α} {enc : α → D} {kk : Int} (h : (-(2 ^ 63) ≤ kk ∧ kk < 2 ^ 63) ∧ xs.length * kk.toNat ≤ sizeLine) (ha : MV X ρ a (.lst ((xs.map enc).map .fz))) (hb : ME X ρ b (.fz (.int kk))) : ME X ρ (.BinOp a .Mult b pos) (.lst (((repG xs kk).map enc).map .fz)) :=
  ME.is (me_rep ha hb h.1 (by rw [List.length_map]; exact h.2)) (by rw [repG_map])
/-! data compared -/
theorem me_eqDT {d1 d2 : D} (hu : X.A.units + 64 < cLine) (h : d1.ok ∧ d2.ok) (e1 : o1.frz = d1) (e2 : o2.frz = d2) (ha : MV X ρ a o1) (hb : MV X ρ b o2) : ME X ρ (.Compare a [.Eq] [b] pos) (.fz (.bl (D.eqv d1 d2))) := by
  subst e1 e2
  exact me_eqD hu ha hb h.1 h.2
theorem me_neDT {d1 d2 : D} (hu : X.A.units + 64 < cLine) (h : d1.ok ∧ d2.ok) (e1 : o1.frz = d1) (e2 : o2.frz = d2) (ha : MV X ρ a o1) (hb : MV X ρ b o2) : ME X ρ (.Compare a [.NotEq] [b] pos) (.fz (.bl (!D.eqv d1 d2))) := by
  subst e1 e2
  exact me_neD hu ha hb h.1 h.2
theorem mt_eqDT {d1 d2 : D} (hu : X.A.units + 64 < cLine) (h : d1.ok ∧ d2.ok) (e1 : o1.frz = d1) (e2 : o2.frz = d2) (ha : MV X ρ a o1) (hb : MV X ρ b o2) : MT X ρ (.Compare a [.Eq] [b] pos) (D.eqv d1 d2) := by
  subst e1 e2
  exact mt_eqD hu ha hb h.1 h.2
theorem mt_neDT {d1 d2 : D} (hu : X.A.units + 64 < cLine) (h : d1.ok ∧ d2.ok) (e1 : o1.frz = d1) (e2 : o2.frz = d2) (ha : MV X ρ a o1) (hb : MV X ρ b o2) : MT X ρ (.Compare a [.NotEq] [b] pos) (!D.eqv d1 d2) := by
  subst e1 e2
  exact mt_neD hu ha hb h.1 h.2
/-! in of ints, of texts -/
theorem among_i {k : Int} {xs : List Int} : D.among (.int k) (xs.map .int) = xs.contains k := by
  unfold D.among inV
  rw [List.map_map, List.any_map]
  induction xs with
  | nil => rfl
  | cons y xs ih =>
    rw [List.any_cons, List.contains_cons, ih]
    congr 1
    exact BEq.comm
theorem flat_i {xs : List Int} : (xs.map D.int).all D.flat = true := by
  rw [List.all_map]
  exact List.all_eq_true.mpr fun _ _ => rfl
theorem among_s {k : Str} {xs : List Str} : D.among (.str k) (xs.map .str) = xs.contains k := by
  unfold D.among inV
  rw [List.map_map, List.any_map]
  induction xs with
  | nil => rfl
  | cons y xs ih =>
    rw [List.any_cons, List.contains_cons, ih]
    congr 1
    exact BEq.comm
theorem flat_s {xs : List Str} : (xs.map D.str).all D.flat = true := by
  rw [List.all_map]
  exact List.all_eq_true.mpr fun _ _ => rfl
theorem among_b {k : Bool} {xs : List Bool} : D.among (.bl k) (xs.map .bl) = xs.contains k := by
  unfold D.among inV
  rw [List.map_map, List.any_map]
  induction xs with
  | nil => rfl
  | cons y xs ih =>
    rw [List.any_cons, List.contains_cons, ih]
    congr 1
    exact BEq.comm
theorem flat_b {xs : List Bool} : (xs.map D.bl).all D.flat = true := by
  rw [List.all_map]
  exact List.all_eq_true.mpr fun _ _ => rfl
theorem me_inL (ha : ME X ρ a (.fz d)) (hb : ML X ρ b ds) (hf : d.flat = true := by rfl) (hfs : ds.all D.flat = true := by rfl) (hm : behindInMarks .In b = false := by rfl) : ME X ρ (.Compare a [.In] [b] pos) (.fz (.bl (d.among ds))) := .mk fun Z0 F Z σ H s Q q =>
  PE_w (pe_cmpR op_in_seq pe_w pe_w hm) (inL_core op_in_seq ha hb hf hfs s fun Z' H' g => q _ Z' H' [] g (.fz (.bl _)) .nil)
theorem me_niL (ha : ME X ρ a (.fz d)) (hb : ML X ρ b ds) (hf : d.flat = true := by rfl) (hfs : ds.all D.flat = true := by rfl) (hm : behindInMarks .NotIn b = false := by rfl) : ME X ρ (.Compare a [.NotIn] [b] pos) (.fz (.bl (!(d.among ds)))) := .mk fun Z0 F Z σ H s Q q =>
  PE_w (pe_cmpR op_notIn_seq pe_w pe_w hm) (inL_core op_notIn_seq ha hb hf hfs s fun Z' H' g => q _ Z' H' [] g (.fz (.bl _)) .nil)
theorem me_inT (ha : ME X ρ a (.fz d)) (hb : MU X ρ b ds) (hf : d.flat = true := by rfl) (hfs : ds.all D.flat = true := by rfl) (hm : behindInMarks .In b = false := by rfl) : ME X ρ (.Compare a [.In] [b] pos) (.fz (.bl (d.among ds))) := .mk fun Z0 F Z σ H s Q q =>
  PE_w (pe_cmpR op_in_seq pe_w pe_w hm) (inT_core op_in_seq ha hb hf hfs s fun Z' H' g => q _ Z' H' [] g (.fz (.bl _)) .nil)
theorem me_niT (ha : ME X ρ a (.fz d)) (hb : MU X ρ b ds) (hf : d.flat = true := by rfl) (hfs : ds.all D.flat = true := by rfl) (hm : behindInMarks .NotIn b = false := by rfl) : ME X ρ (.Compare a [.NotIn] [b] pos) (.fz (.bl (!(d.among ds)))) := .mk fun Z0 F Z σ H s Q q =>
  PE_w (pe_cmpR op_notIn_seq pe_w pe_w hm) (inT_core op_notIn_seq ha hb hf hfs s fun Z' H' g => q _ Z' H' [] g (.fz (.bl _)) .nil)
section
variable {xi : List Int} {xs : List Str} {xb : List Bool}
theorem mt_inLT_i (ha : ME X ρ a (.fz (.int m))) (hb : ML X ρ b (xi.map .int)) (hm : behindInMarks .In b = false := by rfl) : MT X ρ (.Compare a [.In] [b] pos) (xi.contains m) := (mt_inL ha hb rfl flat_i hm).is among_i
theorem mt_niLT_i (ha : ME X ρ a (.fz (.int m))) (hb : ML X ρ b (xi.map .int)) (hm : behindInMarks .NotIn b = false := by rfl) : MT X ρ (.Compare a [.NotIn] [b] pos) (!(xi.contains m)) := (mt_niL ha hb rfl flat_i hm).is (by rw [among_i])
theorem mt_inLT_s (ha : ME X ρ a (.fz (.str p))) (hb : ML X ρ b (xs.map .str)) (hm : behindInMarks .In b = false := by rfl) : MT X ρ (.Compare a [.In] [b] pos) (xs.contains p) := (mt_inL ha hb rfl flat_s hm).is among_s
theorem mt_niLT_s (ha : ME X ρ a (.fz (.str p))) (hb : ML X ρ b (xs.map .str)) (hm : behindInMarks .NotIn b = false := by rfl) : MT X ρ (.Compare a [.NotIn] [b] pos) (!(xs.contains p)) := (mt_niL ha hb rfl flat_s hm).is (by rw [among_s])
theorem mt_inLT_b (ha : ME X ρ a (.fz (.bl k))) (hb : ML X ρ b (xb.map .bl)) (hm : behindInMarks .In b = false := by rfl) : MT X ρ (.Compare a [.In] [b] pos) (xb.contains k) := (mt_inL ha hb rfl flat_b hm).is among_b
theorem mt_niLT_b (ha : ME X ρ a (.fz (.bl k))) (hb : ML X ρ b (xb.map .bl)) (hm : behindInMarks .NotIn b = false := by rfl) : MT X ρ (.Compare a [.NotIn] [b] pos) (!(xb.contains k)) := (mt_niL ha hb rfl flat_b hm).is (by rw [among_b])
theorem me_inLT_i (ha : ME X ρ a (.fz (.int m))) (hb : ML X ρ b (xi.map .int)) (hm : behindInMarks .In b = false := by rfl) : ME X ρ (.Compare a [.In] [b] pos) (.fz (.bl (xi.contains m))) := (me_inL ha hb rfl flat_i hm).isB among_i
theorem me_niLT_i (ha : ME X ρ a (.fz (.int m))) (hb : ML X ρ b (xi.map .int)) (hm : behindInMarks .NotIn b = false := by rfl) : ME X ρ (.Compare a [.NotIn] [b] pos) (.fz (.bl (!(xi.contains m)))) := (me_niL ha hb rfl flat_i hm).isB (by rw [among_i])
theorem me_inLT_s (ha : ME X ρ a (.fz (.str p))) (hb : ML X ρ b (xs.map .str)) (hm : behindInMarks .In b = false := by rfl) : ME X ρ (.Compare a [.In] [b] pos) (.fz (.bl (xs.contains p))) := (me_inL ha hb rfl flat_s hm).isB among_s
theorem me_niLT_s (ha : ME X ρ a (.fz (.str p))) (hb : ML X ρ b (xs.map .str)) (hm : behindInMarks .NotIn b = false := by rfl) : ME X ρ (.Compare a [.NotIn] [b] pos) (.fz (.bl (!(xs.contains p)))) := (me_niL ha hb rfl flat_s hm).isB (by rw [among_s])
theorem me_inLT_b (ha : ME X ρ a (.fz (.bl k))) (hb : ML X ρ b (xb.map .bl)) (hm : behindInMarks .In b = false := by rfl) : ME X ρ (.Compare a [.In] [b] pos) (.fz (.bl (xb.contains k))) := (me_inL ha hb rfl flat_b hm).isB among_b
theorem me_niLT_b (ha : ME X ρ a (.fz (.bl k))) (hb : ML X ρ b (xb.map .bl)) (hm : behindInMarks .NotIn b = false := by rfl) : ME X ρ (.Compare a [.NotIn] [b] pos) (.fz (.bl (!(xb.contains k)))) := (me_niL ha hb rfl flat_b hm).isB (by rw [among_b])
end
/-! texts: cut, turned, repeated -/
theorem me_slS {lo hi : Option Expr} {li hj : Option Int} (hz : p.length ≤ sizeLine) (ha : ME X ρ a (.fz (.str p))) (hl : MO X ρ lo li) (hh : MO X ρ hi hj) : ME X ρ (.Subscript a (.Slice lo hi none p2) pos) (.fz (.str (cutS p li hj))) := .mk fun Z0 F Z σ H s Q q => by
  obtain ⟨tl, pl, kl⟩ := hl.run
  obtain ⟨th, ph, kh⟩ := hh.run
  refine PE_w (pe_slice sl_str pe_w pl ph) (ha.run Z0 F Z σ H s _ fun v Z1 H1 A1 g1 r1 n1 => kl Z0 F Z1 σ H1 (s.grow g1) _ fun Z2 H2 g2 => kh Z0 F Z2 σ H2 (s.grow (g1.trans g2)) _ fun Z3 H3 g3 => ?_)
  cases r1 with
  | fz r1 =>
    cases r1
    exact ⟨p, rfl, hz, q _ Z3 H3 [] (g1.trans (g2.trans g3)) (.fz (.str _)) .nil⟩
def revS (z : Str) : Str := ⟨z.cps.toList.reverse.toArray⟩
theorem revS_is (z : Str) : (⟨((Builtin.Str.strSliceIndices none none (-1) z.length).filterMap (z.cps[·]?)).toArray⟩ : Str) = revS z := by
  unfold revS
  rw [picked_rev, filterMap_get, List.map_map]
  · congr 2
    apply List.ext_getElem
    · simp [Str.length]
    · intro i h1 h2
      have hi : i < z.cps.size := by simpa [Str.length] using h1
      simp only [List.getElem_map, List.getElem_range, Function.comp, List.getElem_reverse, Array.getElem_toList]
      have : z.length - 1 - i < z.cps.size := by
        show z.cps.size - 1 - i < z.cps.size
        omega
      rw [Array.getD, dif_pos this]
      congr 1
  · intro i hi
    obtain ⟨k, hk, rfl⟩ := List.mem_map.mp hi
    have hk' : k < z.length := List.mem_range.mp hk
    show z.length - 1 - k < z.length
    omega
end
end M
namespace M
open PySem L2 PySem.Spec PyProof.Rows
/-! ### s[::-1] of a text, s * n -/
def tRevS (te : TE) : TE := fun σ H Q => te σ H fun v H1 => ∃ z, v = .str z ∧ z.length ≤ sizeLine ∧ Q (.str (revS z)) H1
section
variable {X : Cx} {ρ : Slots} {e a b c elt : Expr} {es : List Expr} {st : Stmt} {sts : List Stmt} {G : Go} {o o1 o2 : O} {d : D} {ds : List D} {pos p0 p1 p2 p3 p4 : Pos} {i : Nat} {x nm : Str} {α β γ : Type} {p q : Str} {k l : Bool} {m n : Int} {te : TE}
theorem pe_revS {k : Nat} (he : PE X e te) : PE X (.Subscript e (.Slice none none (some (.UnaryOp .USub (.Constant (.int 1) k p1) p2)) p3) pos) (tRevS te) := by
  refine ⟨fun pins s σ H Q I h => ?_⟩
  refine Subscript_ (thn (he.run pins s σ H _ I h) fun v s1 ⟨x, H1, I1, r1, q1⟩ => ?_)
  obtain ⟨z, ex, hz, q⟩ := q1
  subst ex
  obtain ⟨t, rfl⟩ := r1
  have hst : PO X (some (.UnaryOp .USub (.Constant (.int 1) k p1) p2)) (tPart (tUn (rU fun i => .int (-i)) (tC (.int 1)))) := po_some (pe_un un_neg pe_int)
  refine wpAny_Slice (thn (po_none.run pins s1 σ H1 (fun o H2 => o = none ∧ H2 = H1) I1 ⟨rfl, rfl⟩) fun vl s2 ⟨l, H2, I2, pl, el, e2⟩ => ?_)
  subst el e2
  refine thn (po_none.run pins s2 σ H2 (fun o H3 => o = none ∧ H3 = H2) I2 ⟨rfl, rfl⟩) fun vu s3 ⟨u, H3, I3, pu, eu, e3⟩ => ?_
  subst eu e3
  refine thn (hst.run pins s3 σ H3 (fun o H4 => o = some (-1) ∧ H4 = H3) I3 ⟨1, rfl, -1, rfl, rfl, rfl⟩) fun vs s4 ⟨o, H4, I4, ps, eo, e4⟩ => ?_
  subst eo e4
  have I5 : Inv X pins σ H4 { s4 with heap := s4.heap.push { cls := .type "slice", data := .fields #[vl, vu, vs] } } := I4.kept (t' := s4.toks) fun b ob q => Heap.get?_push_of_some _ q
  show wpAny (model X.prog X.w) X.A (subscriptTail e (.Slice none none (some (.UnaryOp .USub (.Constant (.int 1) k p1) p2)) p3) (.str z t) (.ref s4.heap.objs.size)) (EP X pins σ Q) X.xe { s4 with heap := s4.heap.push { cls := .type "slice", data := .fields #[vl, vu, vs] } }
  refine tail_any (ops := [.str z t, .ref s4.heap.objs.size]) (typeIs_str _ _ _) (F.slot_str_getitem.lookup) ?_ (by with_unfolding_all rfl)
  obtain ⟨l, rfl, hl⟩ := IsPart.raw pl
  obtain ⟨u, rfl, hu⟩ := IsPart.raw pu
  obtain ⟨so, rfl, hso⟩ := IsPart.raw ps
  refine wpAny_getItem_str_slice (l := l) (u := u) (st := so) ⟨_, Heap.get?_push_size _ rfl, rfl, rfl⟩ ?_ ?_
  · rw [hso]; rfl
  · have hm : sliceMade z t l u so = .str (revS z) := by
      unfold sliceMade slicePicked
      rw [hl, hu, hso]
      show (if ((-1 : Int) == 1 && _) = true then Made.val (.str z t) else Made.str ⟨((Builtin.Str.strSliceIndices none none (-1) z.length).filterMap (z.cps[·]?)).toArray⟩) = _
      rw [if_neg (by simp), revS_is]
    rw [hm]
    refine ⟨?_, .str (revS z), H4, I5.tok _, ⟨_, rfl⟩, q⟩
    have : (revS z).length = z.length := by simp [revS, Str.length]
    rw [this]
    exact hz
theorem me_revS {kk : Nat} (hz : p.length ≤ sizeLine) (ha : ME X ρ a (.fz (.str p))) : ME X ρ (.Subscript a (.Slice none none (some (.UnaryOp .USub (.Constant (.int 1) kk p1) p2)) p3) pos) (.fz (.str (revS p))) := .mk fun Z0 F Z σ H s Q q =>
  PE_w (pe_revS pe_w) (ha.run Z0 F Z σ H s _ fun v Z1 H1 A1 g1 r1 n1 => by
    cases r1 with
    | fz r1 =>
      cases r1
      exact ⟨p, rfl, hz, q _ Z1 H1 [] g1 (.fz (.str _)) .nil⟩)
def repS (z : Str) (n : Int) : Str := ⟨(List.replicate n.toNat z.cps.toList).flatten.toArray⟩
theorem foldl_app {γ : Type} : ∀ (n : Nat) (c a : Array γ), (List.replicate n c).foldl (· ++ ·) a = ⟨a.toList ++ (List.replicate n c.toList).flatten⟩
  | 0, c, a => by simp
  | n + 1, c, a => by
    rw [List.replicate_succ, List.foldl_cons, foldl_app n, List.replicate_succ, List.flatten_cons]
    simp
theorem op_mul_str : OpR X (binaryOp .Mult) (fun x y H Q => ∃ z n, x = .str z ∧ y = .int n ∧ ((-(2 ^ 63) ≤ n ∧ n < 2 ^ 63) ∧ z.length * n.toNat ≤ 16777216) ∧ Q (.str (repS z n)) H) := by
  intro pins s σ H x y v u Q I rx ry h
  obtain ⟨z, n, rfl, rfl, ⟨⟨h1, h2⟩, h3⟩, q⟩ := h
  obtain ⟨t, rfl⟩ := rx
  obtain ⟨t', rfl⟩ := ry
  have hle : ¬ n < 1 → z.length ≤ 16777216 := fun hn => by
    have : 1 ≤ n.toNat := by omega
    exact Nat.le_trans (by have := Nat.mul_le_mul_left z.length this; omega) h3
  refine PySem.P.mul_str (by rw [decide_eq_false (by omega), decide_eq_false (by omega)]; rfl) (fun hn h0 hb => ?_) (fun hn h0 => ?_) ?_
  · have h1 : ((z.length : Int)) * n ≤ 16777216 := by
      have e : (n.toNat : Int) = n := by omega
      have := Int.ofNat_le.mpr h3
      rw [Int.natCast_mul, e] at this
      exact this
    have hn1 : 1 ≤ n := by omega
    have hq : (2 ^ 63 - 1) / n ≥ (z.length : Int) := by
      rw [ge_iff_le, Int.le_ediv_iff_mul_le (by omega)]
      omega
    omega
  · show decide (z.length * n.toNat > 16777216) = false
    exact decide_eq_false (by omega)
  · by_cases hn : n < 1
    · rw [if_pos hn]
      have e : repS z n = Str.empty := by
        unfold repS
        rw [show n.toNat = 0 by omega]
        rfl
      rw [e] at q
      exact ⟨by decide, .str _, H, I.tok _, ⟨_, rfl⟩, q⟩
    · rw [if_neg hn]
      by_cases h0 : (n == 1 || z.length == 0) = true
      · rw [if_pos h0]
        have e : repS z n = z := by
          unfold repS
          rw [Bool.or_eq_true, beq_iff_eq, beq_iff_eq] at h0
          rcases h0 with h0 | h0
          · subst h0
            simp
          · have : z.cps.toList = [] := by
              apply List.eq_nil_of_length_eq_zero
              rw [Array.length_toList]
              exact h0
            rw [this]
            have e2 : (List.replicate n.toNat ([] : List Nat)).flatten = [] := by simp
            rw [e2]
            obtain ⟨⟨l⟩⟩ := z
            have this : l = [] := this
            rw [this]
        rw [e] at q
        exact ⟨.str _, H, I, ⟨_, rfl⟩, q⟩
      · rw [if_neg h0]
        have e : (⟨(List.replicate n.toNat z.cps).foldl (· ++ ·) #[]⟩ : Str) = repS z n := by
          rw [foldl_app]
          rfl
        rw [e]
        refine ⟨?_, .str _, H, I.tok _, ⟨_, rfl⟩, q⟩
        have : (repS z n).length = n.toNat * z.length := by simp [repS, Str.length, List.length_flatten]
        rw [this, Nat.mul_comm]
        exact h3
theorem me_repS {kk : Int} (h : (-(2 ^ 63) ≤ kk ∧ kk < 2 ^ 63) ∧ p.length * kk.toNat ≤ 16777216) (ha : ME X ρ a (.fz (.str p))) (hb : ME X ρ b (.fz (.int kk))) : ME X ρ (.BinOp a .Mult b pos) (.fz (.str (repS p kk))) := me_op op_mul_str ha hb (.str p) (.int kk) (.str _) fun _ _ q => ⟨p, kk, rfl, rfl, h, q⟩
/-! ### zip; comprehensions over reversed, enumerate, zip -/
theorem zip_get {xs : List α} {ys : List β} {f : α → D} {g : β → D} {j : Nat} {d : D} (hd : ((xs.zip ys).map fun p => D.tup [f p.1, g p.2])[j]? = some d) : ∃ x y, xs[j]? = some x ∧ ys[j]? = some y ∧ d = .tup [f x, g y] := by
  rw [List.getElem?_map] at hd
  obtain ⟨⟨x, y⟩, h1, rfl⟩ := Option.map_eq_some_iff.mp hd
  have h2 := List.getElem?_zip_eq_some.mp h1
  exact ⟨x, y, h2.1, h2.2, rfl⟩
theorem wk_zip {K : PySem.W.Frag} {Zs F : Hp} {a b : Addr} {us vs : List V} {xs : List α} {ys : List β} {f : α → D} {g : β → D} (ra : RepL K Zs us (xs.map f)) (rb : RepL K Zs vs (ys.map g))
    (la : ∀ {Z2 H2 : Hp}, Ex Zs Z2 → Ex F H2 → Ex Z2 H2 → SqL K H2 a us) (lb : ∀ {Z2 H2 : Hp}, Ex Zs Z2 → Ex F H2 → Ex Z2 H2 → SqL K H2 b vs) : Wk K Zs F (Itz K a b) ((xs.zip ys).map fun p => D.tup [f p.1, g p.2]) := by
  refine ⟨fun j d Z2 H2 hd ez ef zh => ?_, fun Z2 H2 ez ef zh => ?_⟩
  · obtain ⟨x, y, hx, hy, rfl⟩ := zip_get hd
    obtain ⟨u, hu, ru⟩ := ra.get (i := j) (d := f x) (by rw [List.getElem?_map, hx]; rfl)
    obtain ⟨v, hv, rv⟩ := rb.get (i := j) (d := g y) (by rw [List.getElem?_map, hy]; rfl)
    refine ⟨⟨us, vs, u, v, la ez ef zh, lb ez ef zh, hu, hv⟩, fun w H3 hw => ?_⟩
    obtain ⟨T, u2, v2, ew, hT, e3, k1, k2⟩ := hw
    subst e3 ew
    have e4 := k1 us (la ez ef zh)
    have e5 := k2 vs (lb ez ef zh)
    rw [hu] at e4
    rw [hv] at e5
    cases e4
    cases e5
    have em := Ex.new (H := Z2) (o := HO.tup [u, v]) (zh.free hT)
    exact ⟨_, Gr.newz zh hT, .tup (.of upd_same) (.cons ((ru.mono ez).mono em) (.cons ((rv.mono ez).mono em) .nil))⟩
  · refine ⟨us, vs, la ez ef zh, lb ez ef zh, ?_⟩
    rw [ra.length, rb.length, List.length_map, List.length_map, List.length_map, List.length_zip]
    omega
theorem mi_zipT {xs : List α} {ys : List β} {enc : α → D} {enc2 : β → D} (h : MK X ρ a (xs.map enc)) (h2 : MK X ρ b (ys.map enc2)) (n1 : NS X a := by exact fun _ => rfl) (n2 : NS X b := by exact fun _ => rfl) : MI X ρ (iZip X.K (wA X [a, b])) ((xs.zip ys).map fun p => D.tup [enc p.1, enc2 p.2]) := .mk fun Z0 F Z σ H s R q =>
  PA_w (pa_cons pe_w (pa_cons pe_w pa_nil (n2 _)) (n1 _)) (h.run Z0 F Z σ H s _ fun l us Z1 H1 g1 l1 r1 => h2.run Z0 F Z1 σ H1 (s.grow g1) _ fun m vs Z2 H2 g2 l2 r2 => by
    have g := g1.trans g2
    have la : ∀ {Z3 H3 : Hp}, Ex Z2 Z3 → Ex F H3 → Ex Z3 H3 → SqL X.K H3 l us := fun e f z => l1.elim (fun l => ex_l ((g2.zz.trans e).trans z) l) fun l => ex_l f l
    have lb : ∀ {Z3 H3 : Hp}, Ex Z2 Z3 → Ex F H3 → Ex Z3 H3 → SqL X.K H3 m vs := fun e f z => l2.elim (fun l => ex_l (e.trans z) l) fun l => ex_l f l
    have eF := s.gr.hh.trans g.hh
    exact ⟨l, m, us, vs, rfl, la (Ex.refl _) eF g.zh, lb (Ex.refl _) eF g.zh, q _ Z2 H2 g (wk_zip (r1.mono g2.zz) r2 la lb)⟩)
theorem mic_zipT {xs : List α} {ys : List β} {enc : α → D} {enc2 : β → D} (h : ML X ρ a (xs.map enc)) (h2 : ML X ρ b (ys.map enc2)) (n1 : NS X a := by exact fun _ => rfl) (n2 : NS X b := by exact fun _ => rfl) : MIc X ρ (iZip X.K (wA X [a, b])) ((xs.zip ys).map fun p => D.tup [enc p.1, enc2 p.2]) := .mk fun Z0 F Z σ H s R q =>
  PA_w (pa_cons pe_w (pa_cons pe_w pa_nil (n2 _)) (n1 _)) (h.run Z0 F Z σ H s _ fun l us Z1 H1 g1 l1 r1 => h2.run Z0 F Z1 σ H1 (s.grow g1) _ fun m vs Z2 H2 g2 l2 r2 => by
    have g := g1.trans g2
    have la : ∀ {Z3 H3 : Hp}, Ex Z2 Z3 → Ex H2 H3 → Ex Z3 H3 → SqL X.K H3 l us := fun _ f _ => ex_l f (ex_l g2.hh l1)
    have lb : ∀ {Z3 H3 : Hp}, Ex Z2 Z3 → Ex H2 H3 → Ex Z3 H3 → SqL X.K H3 m vs := fun _ f _ => ex_l f l2
    exact ⟨l, m, us, vs, rfl, ex_l g2.hh l1, l2, q _ Z2 H2 g (wk_zip (r1.mono g2.zz) r2 la lb)⟩)
theorem mic_revT {xs : List α} {enc : α → D} (h : ML X ρ e (xs.map enc)) (n1 : NS X e := by exact fun _ => rfl) : MIc X ρ (iRev X.K (wA X [e])) (xs.reverse.map enc) := .mk fun Z0 F Z σ H s R q =>
  PA_w (pa_cons pe_w pa_nil (n1 _)) (h.run Z0 F Z σ H s _ fun a vs Z' H' g l r => by
    refine ⟨a, vs, rfl, l, q _ Z' H' g ⟨fun j d Z2 H2 hd ez ef zh => ?_, fun Z2 H2 ez ef zh => ?_⟩⟩
    · rw [List.map_reverse] at hd
      have hj : j < (xs.map enc).length := by
        have := (List.getElem?_eq_some_iff.mp hd).1
        simpa using this
      rw [List.getElem?_reverse hj] at hd
      obtain ⟨x, hx, rx⟩ := r.get hd
      rw [← r.length] at hx hj
      refine ⟨⟨hj, vs, x, ex_l ef l, hx⟩, fun y H3 hy => ?_⟩
      obtain ⟨e3, hy⟩ := hy
      subst e3
      have e4 := hy vs (ex_l ef l)
      rw [hx] at e4
      cases e4
      exact ⟨Z2, Gr.refl zh, rx.mono ez⟩
    · show vs.length ≤ (xs.reverse.map enc).length
      rw [List.length_map, List.length_reverse, r.length, List.length_map]
      exact Nat.le_refl _)
theorem mic_enumT {xs : List α} {enc : α → D} (h : ML X ρ e (xs.map enc)) (n1 : NS X e := by exact fun _ => rfl) : MIc X ρ (iEnum X.K (wA X [e])) (xs.zipIdx.map fun p => D.tup [.int (p.2 : Nat), enc p.1]) := .mk fun Z0 F Z σ H s R q =>
  PA_w (pa_cons pe_w pa_nil (n1 _)) (h.run Z0 F Z σ H s _ fun a vs Z' H' g l r => by
    refine ⟨a, vs, rfl, l, q _ Z' H' g ⟨fun j d Z2 H2 hd ez ef zh => ?_, fun Z2 H2 ez ef zh => ?_⟩⟩
    · rw [List.getElem?_map, List.getElem?_zipIdx] at hd
      cases e : xs[j]? with
      | none =>
        rw [e] at hd
        cases hd
      | some d1 =>
        rw [e] at hd
        have hd2 : D.tup [.int ((0 + j : Nat)), enc d1] = d := Option.some.inj hd
        subst hd2
        obtain ⟨x, hx, rx⟩ := r.get (i := j) (d := enc d1) (by rw [List.getElem?_map, e]; rfl)
        refine ⟨⟨vs, x, ex_l ef l, hx⟩, fun y H3 hy => ?_⟩
        obtain ⟨T, x2, ey, hT, e3, hy⟩ := hy
        subst e3 ey
        have e4 := hy vs (ex_l ef l)
        rw [hx] at e4
        cases e4
        refine ⟨_, Gr.newz zh hT, .tup (.of upd_same) (.cons ?_ (.cons ((rx.mono ez).mono (Ex.new (zh.free hT))) .nil))⟩
        rw [Nat.zero_add]
        exact .int _
    · refine ⟨vs, ex_l ef l, ?_⟩
      rw [List.length_map, List.length_zipIdx, r.length, List.length_map]
      exact Nat.le_refl _)
/-! ### sorted, range with a step -/
noncomputable def srt (enc : β → D) (bs : List β) : List β := bs.mergeSort (PySem.W.dataLe false fun b => (enc b).py)
def SrtOk (enc : β → D) (bs : List β) : Prop := (∀ b ∈ bs, (enc b).pl = true) ∧ PySem.W.AllAlike (bs.map fun b => (enc b).py) ∧ PySem.W.Sortable (bs.map fun b => (enc b).py) ∧ ∀ b ∈ bs, (enc b).py.depth ≤ 60
noncomputable def rgN (i j c : Int) : Option Nat := @ite _ (∃ n, RgC i j c n) (Classical.propDecidable _) (some (Builtin.Range.rangeSize i j c).toNat) none
theorem rgN_ok {i j c : Int} {n : Nat} (h : rgN i j c = some n) : RgC i j c n := by
  unfold rgN at h
  by_cases e : ∃ n, RgC i j c n
  · rw [if_pos e] at h
    obtain ⟨m, h1, h2, h3, h4⟩ := e
    cases h
    rw [h4]
    exact ⟨h1, h2, h3, h4⟩
  · rw [if_neg e] at h
    cases h
theorem rgN_is {i j c : Int} {n : Nat} (h : RgC i j c n) : rgN i j c = some n := by
  unfold rgN
  rw [if_pos ⟨n, h⟩, h.2.2.2]
  rfl
/-- x = [elt for target in source if test], on one line -/
theorem m_setLcIf {xs : List α} {enc : α → D} {wi : TI} {g : TG} {scope : Scope} {vs : List Nat} {c : Expr} (p : ∀ (tt : TT) (te : TE), (∀ (s : Shared) (H : Hp) (C : Addr) (cl : List (Str × Addr)) (fp : List Addr), PT (X.blk s H scope (compEnvC scope cl C X.env) fp) c tt) →
      (∀ (s : Shared) (H : Hp) (C : Addr) (cl : List (Str × Addr)) (fp : List Addr), PE (X.blk s H scope (compEnvC scope cl C X.env) fp) elt te) → PS X st (tAsg (tLc wi g tt te vs) (gName i)))
    (h : MIc X ρ wi (xs.map enc)) (pb : α → Bool) (f : α → D) (hz : xs.length < sizeLine)
    (hs : ∀ d ∈ xs, ∃ τ ws, MTg g X.K (wipeS ρ vs) (enc d) τ ws ∧ (∀ w ∈ ws, w ∈ vs) ∧ ∀ (s : Shared) (H : Hp) (C : Addr) (cl : List (Str × Addr)) (fp : List Addr), MT (X.blk s H scope (compEnvC scope cl C X.env) fp) τ c (pb d) ∧ (pb d = true → ME (X.blk s H scope (compEnvC scope cl C X.env) fp) τ elt (.fz (f d))))
    (k : G.nx (ρ.set i (some (.lst (((xs.filter pb).map f).map .fz))))) (hi : i < ρ.length := by exact Nat.le_of_ble_eq_true rfl) : MS1 X ρ st G := .mk fun Z0 F Z σ H D s gdd => by
  refine PS_w (p (fun σ H Q => ∀ (s : Shared) (H' : Hp) (C : Addr) (cl : List (Str × Addr)) (fp : List Addr), wT (X.blk s H' scope (compEnvC scope cl C X.env) fp) c σ H Q) (fun σ H Q => ∀ (s : Shared) (H' : Hp) (C : Addr) (cl : List (Str × Addr)) (fp : List Addr), wE (X.blk s H' scope (compEnvC scope cl C X.env) fp) elt σ H Q)
    (fun s H' C cl fp => ⟨fun pins s' σ H Q I k => k s H' C cl fp pins s' I⟩) fun s H' C cl fp => ⟨fun pins s' σ H Q I k => k s H' C cl fp pins s' I⟩) ?_
  refine lc_run h pb f hz (fun d m => ?_) s fun v Z' H' A g' r n => gdd.nx _ Z' _ H' k (s.put g' r n hi)
  obtain ⟨τ, ws, t1, t2, t3⟩ := hs d m
  refine ⟨τ, ws, t1, t2, fun Z0 F Z σ H s Q q s' H' C cl fp => (t3 s' H' C cl fp).1.run Z0 F Z σ H s Q q, fun hp Z0 F Z σ H s Q q s' H' C cl fp => ((t3 s' H' C cl fp).2 hp).run Z0 F Z σ H s Q fun v Z' H' A g r n => ?_⟩
  cases r with
  | fz r => exact q v Z' H' g r
theorem m_setLcIfO {xs : List α} {ys : List β} {enc : α → D} {enc2 : β → D} {t : α → Option Bool} {f : α → Option β} (hy : fmO t f xs = some ys) {wi : TI} {g : TG} {scope : Scope} {vs : List Nat} {c : Expr} (p : ∀ (tt : TT) (te : TE), (∀ (s : Shared) (H : Hp) (C : Addr) (cl : List (Str × Addr)) (fp : List Addr), PT (X.blk s H scope (compEnvC scope cl C X.env) fp) c tt) →
      (∀ (s : Shared) (H : Hp) (C : Addr) (cl : List (Str × Addr)) (fp : List Addr), PE (X.blk s H scope (compEnvC scope cl C X.env) fp) elt te) → PS X st (tAsg (tLc wi g tt te vs) (gName i)))
    (h : MIc X ρ wi (xs.map enc)) (hz : xs.length < sizeLine)
    (hs : ∀ d ∈ xs, ∀ k, t d = some k → ∃ τ ws, MTg g X.K (wipeS ρ vs) (enc d) τ ws ∧ (∀ w ∈ ws, w ∈ vs) ∧ ∀ (s : Shared) (H : Hp) (C : Addr) (cl : List (Str × Addr)) (fp : List Addr), MT (X.blk s H scope (compEnvC scope cl C X.env) fp) τ c k ∧ (k = true → ∀ y, f d = some y → ME (X.blk s H scope (compEnvC scope cl C X.env) fp) τ elt (.fz (enc2 y))))
    (k : G.nx (ρ.set i (some (.lst ((ys.map enc2).map .fz))))) (hi : i < ρ.length := by exact Nat.le_of_ble_eq_true rfl) : MS1 X ρ st G := by
  obtain ⟨pb, q1, q2, q3⟩ := fmO_map (enc := enc2) hy
  refine m_setLcIf p h pb (ofO enc2 f) hz (fun d m => ?_) (by rw [q3]; exact k) hi
  obtain ⟨τ, ws, t1, t2, t3⟩ := hs d m (pb d) (q1 d m)
  refine ⟨τ, ws, t1, t2, fun s H C cl fp => ⟨(t3 s H C cl fp).1, fun hk => ?_⟩⟩
  obtain ⟨y, ey⟩ := q2 d m hk
  exact ME.is ((t3 s H C cl fp).2 hk y ey) (by unfold ofO; rw [ey])
end
end M
namespace M
open PySem L2 PySem.Spec PyProof.Rows
/-! ### attributes of instances that are being made -/
theorem nsPut_new : ∀ {ns : List Str} {f : Str}, nmAt ns f = none → nsPut ns f = ns ++ [f]
  | [], _, _ => rfl
  | n :: r, f, h => by
    unfold nmAt at h
    unfold nsPut
    by_cases e : n = f
    · rw [if_pos e.symm] at h; cases h
    · rw [if_neg fun q => e q.symm] at h
      rw [if_neg e, nsPut_new (Option.map_eq_none_iff.mp h)]
      rfl
theorem xsPut_new {α : Type} : ∀ {ns : List Str} {f : Str} {xs : List α} {y : α}, nmAt ns f = none → xs.length = ns.length → xsPut ns f xs y = xs ++ [y]
  | [], _, [], _, _, _ => rfl
  | n :: r, f, x :: xs, y, h, l => by
    unfold nmAt at h
    unfold xsPut
    by_cases e : n = f
    · rw [if_pos e.symm] at h; cases h
    · rw [if_neg fun q => e q.symm] at h
      rw [if_neg e, xsPut_new (Option.map_eq_none_iff.mp h) (by simpa using l)]
      rfl
theorem nsPut_old : ∀ {ns : List Str} {f : Str} {j : Nat}, nmAt ns f = some j → nsPut ns f = ns
  | n :: r, f, j, h => by
    unfold nmAt at h
    unfold nsPut
    by_cases e : n = f
    · exact (if_pos e).trans (by rw [e])
    · rw [if_neg fun q => e q.symm] at h
      obtain ⟨k, hk, _⟩ := Option.map_eq_some_iff.mp h
      rw [if_neg e, nsPut_old hk]
theorem xsPut_old {α : Type} : ∀ {ns : List Str} {f : Str} {xs : List α} {y : α} {j : Nat}, nmAt ns f = some j → xs.length = ns.length → xsPut ns f xs y = xs.set j y
  | n :: r, f, x :: xs, y, j, h, l => by
    unfold nmAt at h
    unfold xsPut
    by_cases e : n = f
    · rw [if_pos e.symm] at h
      cases h
      rw [if_pos e]
      rfl
    · rw [if_neg fun q => e q.symm] at h
      obtain ⟨k, hk, rfl⟩ := Option.map_eq_some_iff.mp h
      rw [if_neg e, xsPut_old hk (by simpa using l)]
      rfl
section
variable {X : Cx} {ρ : Slots} {e a b c elt : Expr} {es : List Expr} {st : Stmt} {sts : List Stmt} {G : Go} {o o1 o2 : O} {d : D} {ds : List D} {os : List O} {pos p0 p1 p2 p3 p4 : Pos} {i : Nat} {x nm f : Str} {C : Addr} {ns : List Str}
theorem OC.take {K : PySem.W.Frag} {all : List Str} (n : Nat) (h : OC K C all) : OC K C (all.take n) := ⟨h.cl, fun f m => h.na f (List.mem_of_mem_take m)⟩
/-- x.f = e, an attribute that isn't there yet -/
theorem m_setFldN {l : Addr} {all : List Str} (pn : PE X (.Name x p1) (tVar i)) (hi : ρ[i]? = some (some (.at l C ns os))) (cc : OC X.K C all) (he : ME X ρ e o)
    (kk : G.nx (ρ.set i (some (.at l C (ns ++ [f]) (os ++ [o]))))) (hl : os.length = ns.length := by rfl) (h1000 : ns.length < 1000 := by decide) (hm : f ∈ all := by decide +kernel) (hn : nmAt ns f = none := by decide +kernel)
    (hs : swapsWith e (some (.Attribute (.Name x p1) f p2)) p3.line X.env = pure false := by rfl) : MS1 X ρ (.Assign [.Attribute (.Name x p1) f p2] e p3) G :=
  m_setFld pn hi hl h1000 cc hm he (by rw [nsPut_new hn, xsPut_new hn hl]; exact kk) hs
/-- .. that is there -/
theorem m_setFldO {l : Addr} {all : List Str} {j : Nat} (pn : PE X (.Name x p1) (tVar i)) (hi : ρ[i]? = some (some (.at l C ns os))) (cc : OC X.K C all) (he : ME X ρ e o)
    (kk : G.nx (ρ.set i (some (.at l C ns (os.set j o))))) (hn : nmAt ns f = some j := by decide +kernel) (hl : os.length = ns.length := by rfl) (h1000 : ns.length < 1000 := by decide) (hm : f ∈ all := by decide +kernel)
    (hs : swapsWith e (some (.Attribute (.Name x p1) f p2)) p3.line X.env = pure false := by rfl) : MS1 X ρ (.Assign [.Attribute (.Name x p1) f p2] e p3) G :=
  m_setFld pn hi hl h1000 cc hm he (by rw [nsPut_old hn, xsPut_old hn hl]; exact kk) hs
end
end M
namespace M
open PySem L2 PySem.Spec PyProof.Rows
/-! ### a list of one's own that stands still for a while -/
/-- slots that are fit for what follows: gone, of one's own, or a view at a known place that stands as it stood -/
inductive Kp : Slots → Slots → Prop where
  | nil : Kp [] []
  | no {x : Option O} {ρ τ : Slots} : Kp ρ τ → Kp (x :: ρ) (none :: τ)
  | nv {x : Option O} {o : O} {ρ τ : Slots} : o.nv = true → Kp ρ τ → Kp (x :: ρ) (some o :: τ)
  | va {a : Addr} {ds : List D} {ρ τ : Slots} : Kp ρ τ → Kp (some (.vwa a ds) :: ρ) (some (.vwa a ds) :: τ)
section
variable {K : PySem.W.Frag} {Z0 Z Z1 F F' H H1 : Hp}
theorem StL.monoF (f : Ex F F') : ∀ {ρ : Slots} {σ : L2.St} {A : List Addr}, StL K Z F H ρ σ A → StL K Z F' H ρ σ A
  | _, _, _, .nil => .nil
  | _, _, _, .no h => .no (h.monoF f)
  | _, _, _, .so r h => .so (r.mono (Ex.refl _) f fun _ _ _ e => e) (h.monoF f)
theorem StL.kp (ef : Ex F F') (ez : Ex Z Z1) : ∀ {ρ τ : Slots} {σ0 σ : L2.St} {A0 A : List Addr}, Kp ρ τ → StL K Z F H ρ σ0 A0 → StL K Z1 F' H1 τ σ A → StL K Z1 F H1 τ σ A
  | _, _, _, _, _, _, .nil, .nil, .nil => .nil
  | _, _, _, _, _, _, .no k, .no h0, .no h => .no (StL.kp ef ez k h0 h)
  | _, _, _, _, _, _, .no k, .so _ h0, .no h => .no (StL.kp ef ez k h0 h)
  | _, _, _, _, _, _, .nv n k, .no h0, .so r h => .so (r.unF n) (StL.kp ef ez k h0 h)
  | _, _, _, _, _, _, .nv n k, .so _ h0, .so r h => .so (r.unF n) (StL.kp ef ez k h0 h)
  | _, _, _, _, _, _, .va k, .so r0 h0, .so r h => by
    cases r with
    | vwa r2 r3 =>
      cases r0 with
      | vwa r4 r5 => exact .so (.vwa r4 (r5.mono ez)) (StL.kp ef ez k h0 h)
end
theorem kp_auto {ρ τ : Slots} (l : Kp ρ τ := by repeat (first | exact Kp.nil | refine Kp.no ?_ | refine Kp.va ?_ | refine Kp.nv rfl ?_ | refine Kp.nv (O.nvL_fz _) ?_)) : Kp ρ τ := l
theorem kp_set : ∀ {ρ τ : Slots} {i : Nat} {a : Addr} {ds : List D} {o : O}, Kp (ρ.set i (some (.vwa a ds))) τ → τ[i]? = some (some (.vwa a ds)) → o.nv = true → Kp ρ (τ.set i (some o))
  | [], _, _, _, _, _, h, e, _ => by
    cases h
    simp at e
  | x :: ρ, _, 0, _, _, _, .no k, e, n => by simp at e
  | x :: ρ, _, 0, _, _, _, .nv m k, e, n => .nv n k
  | _ :: ρ, _, 0, _, _, _, .va k, e, n => .nv n k
  | x :: ρ, _, i + 1, _, _, _, .no k, e, n => .no (kp_set k (by simpa using e) n)
  | x :: ρ, _, i + 1, _, _, _, .nv m k, e, n => .nv m (kp_set k (by simpa using e) n)
  | _ :: ρ, _, i + 1, _, _, _, .va k, e, n => .va (kp_set k (by simpa using e) n)
section
variable {X : Cx} {ρ : Slots} {st : Stmt} {sts : List Stmt} {G : Go} {o : O} {d : D} {ds : List D} {i : Nat}
/-- a view is at some place -/
theorem ms_known (hi : ρ[i]? = some (some (.vw ds))) (h : ∀ a, MS X (ρ.set i (some (.vwa a ds))) sts G) : MS X ρ sts G := .mk fun Z0 F Z σ H D s g => by
  obtain ⟨A, h1, h2, h3⟩ := s.st
  obtain ⟨v, B, q1, q2, q3, q4, q5⟩ := h1.at hi h2
  cases q2 with
  | @vw a vs _ l r =>
    refine (h a).run Z0 F Z σ H D ?_ g
    obtain ⟨A', r1, r2, r3⟩ := q5 (Z' := Z) (H' := H) (v' := .ref a) (o' := .vwa a ds) (B' := []) (Ex.refl _) (fun _ _ _ _ e => e) (.vwa l r) List.nodup_nil fun _ m => nomatch m
    rw [set_same q1] at r1
    exact ⟨s.gr, A', r1, r2, fun a m => (r3 a m).elim (fun z => h3 a z.1) fun z => nomatch z⟩
/-- a statement while slot i's own list stands still -/
theorem m_still (hi : ρ[i]? = some (some (.lst (ds.map .fz)))) (h : ∀ a, MS1 X (ρ.set i (some (.vwa a ds))) st { nx := fun τ => ∃ τ', Le τ τ' ∧ τ'[i]? = some (some (.vwa a ds)) ∧ Kp (ρ.set i (some (.vwa a ds))) τ' ∧ G.nx (τ'.set i (some (.lst (ds.map .fz)))), rt := fun q => q.nv = true ∧ G.rt q }) : MS1 X ρ st G := .mk fun Z0 F Z σ H D s gd => by
  obtain ⟨A, h1, h2, h3⟩ := s.st
  obtain ⟨v, B, q1, q2, q3, q4, q5⟩ := h1.at hi h2
  cases q2 with
  | @lst a vs _ A1 ha r =>
    obtain ⟨eA, rl⟩ := r.fzs
    subst eA
    have fa : F a = none := (h3 a (q4 a List.mem_cons_self)).2
    have za : Z a = none := (h3 a (q4 a List.mem_cons_self)).1
    have ef : Ex F (upd F a (.lst vs)) := Ex.new fa
    have eh : Ex (upd F a (.lst vs)) H := fun b u e => by
      by_cases hb : b = a
      · subst hb
        rw [upd_same] at e
        cases e
        exact ha
      · rw [upd_ne hb] at e
        exact s.gr.hh b u e
    have g0 : Gr Z (upd F a (.lst vs)) Z H := ⟨Ex.refl _, eh, s.ex, fun _ _ _ => rfl⟩
    obtain ⟨w, B2, t1, t2, t3, t4, t5⟩ := (h1.monoF ef).at hi h2
    have ew : w = .ref a := by
      rw [q1] at t1
      cases t1
      rfl
    have mB : a ∈ B2 := by
      cases t2 with
      | lst _ _ => cases ew; exact List.mem_cons_self
    obtain ⟨A', r1, r2, r3⟩ := t5 (Z' := Z) (H' := H) (v' := .ref a) (o' := .vwa a ds) (B' := []) (Ex.refl _) (fun _ _ _ _ e => e) (.vwa (.of upd_same) rl) List.nodup_nil fun _ m => nomatch m
    rw [set_same q1] at r1
    refine (h a).run Z (upd F a (.lst vs)) Z σ H D ⟨g0, A', r1, r2, fun b m => ?_⟩ ⟨fun τ Z1 σ1 H1 k s1 => ?_, fun _ _ _ _ z => z.elim, fun _ _ _ _ z => z.elim, fun o w Z1 H1 A1 k g1 rw1 n1 => ?_, fun _ _ _ _ _ _ z => z.elim, GX.never fun _ z => Bool.noConfusion z.1⟩
    · rcases r3 b m with z | z
      · refine ⟨(h3 b z.1).1, ?_⟩
        rw [upd_ne fun q => z.2 (by rw [q]; exact mB)]
        exact (h3 b z.1).2
      · exact nomatch z
    · obtain ⟨τ', kl, e1, k1, k2⟩ := k
      replace s1 := s1.le kl
      have gF : Gr Z0 F Z1 H1 := ⟨s.gr.zz.trans s1.gr.zz, ef.trans s1.gr.hh, s1.gr.zh, fun b u e => (s1.gr.nw b u (ef b u e)).trans (s.gr.nw b u e)⟩
      obtain ⟨A1, l1, l2, l3⟩ := s1.st
      obtain ⟨w1, B1, u1, u2, u3, u4, u5⟩ := l1.at e1 l2
      have aA1 : a ∉ A1 := fun m => by
        have := (l3 a m).2
        rw [upd_same] at this
        cases this
      have z1a : Z1 a = none := (s1.gr.nw a _ upd_same).trans za
      have h1a : H1 a = some (.lst vs) := s1.gr.hh a _ upd_same
      cases u2 with
      | vwa c1 c2 =>
        obtain ⟨A2, p1, p2, p3⟩ := u5 (Z' := Z1) (H' := H1) (v' := .ref a) (o' := .lst (ds.map .fz)) (B' := [a]) (Ex.refl _) (fun _ _ _ _ e => e) (.lst h1a (rl.mono s1.gr.zz).own) (by simp) fun b m mb => by
          have : b = a := by simpa using m
          subst this
          exact (aA1 mb).elim
        rw [set_same u1] at p1
        refine gd.nx _ Z1 σ1 H1 k2 ⟨gF, A2, StL.kp ef s1.gr.zz (kp_set k1 e1 (O.nvL_fz ds)) h1 p1, p2, fun b m => ?_⟩
        rcases p3 b m with z | z
        · have hb := l3 b z.1
          refine ⟨hb.1, ?_⟩
          have ne : b ≠ a := fun q => aA1 (by rw [← q]; exact z.1)
          have h4 := hb.2
          rw [upd_ne ne] at h4
          exact h4
        · have : b = a := by simpa using z
          subst this
          exact ⟨z1a, fa⟩
    · exact gd.rt o w Z1 H1 A1 k.2 ⟨s.gr.zz.trans g1.zz, ef.trans g1.hh, g1.zh, fun b u e => (g1.nw b u (ef b u e)).trans (s.gr.nw b u e)⟩ (rw1.unF k.1) ⟨n1.1, fun b m => ⟨ef.free (n1.2 b m).1, (n1.2 b m).2⟩⟩
end
end M
namespace M
open PySem L2 PySem.Spec PyProof.Rows
section
variable {X : Cx} {ρ : Slots} {a b : Expr} {pos : Pos} {p : Str} {m : Int} {k : Bool}
theorem mt_inTT_i {xs : List Int} (ha : ME X ρ a (.fz (.int m))) (hb : MU X ρ b (xs.map .int)) (hm : behindInMarks .In b = false := by rfl) : MT X ρ (.Compare a [.In] [b] pos) (xs.contains m) := (mt_inT ha hb rfl flat_i hm).is among_i
theorem mt_niTT_i {xs : List Int} (ha : ME X ρ a (.fz (.int m))) (hb : MU X ρ b (xs.map .int)) (hm : behindInMarks .NotIn b = false := by rfl) : MT X ρ (.Compare a [.NotIn] [b] pos) (!(xs.contains m)) := (mt_niT ha hb rfl flat_i hm).is (by rw [among_i])
theorem mt_inTT_s {xs : List Str} (ha : ME X ρ a (.fz (.str p))) (hb : MU X ρ b (xs.map .str)) (hm : behindInMarks .In b = false := by rfl) : MT X ρ (.Compare a [.In] [b] pos) (xs.contains p) := (mt_inT ha hb rfl flat_s hm).is among_s
theorem mt_niTT_s {xs : List Str} (ha : ME X ρ a (.fz (.str p))) (hb : MU X ρ b (xs.map .str)) (hm : behindInMarks .NotIn b = false := by rfl) : MT X ρ (.Compare a [.NotIn] [b] pos) (!(xs.contains p)) := (mt_niT ha hb rfl flat_s hm).is (by rw [among_s])
theorem me_inTT_s {xs : List Str} (ha : ME X ρ a (.fz (.str p))) (hb : MU X ρ b (xs.map .str)) (hm : behindInMarks .In b = false := by rfl) : ME X ρ (.Compare a [.In] [b] pos) (.fz (.bl (xs.contains p))) := (me_inT ha hb rfl flat_s hm).isB among_s
theorem me_niTT_s {xs : List Str} (ha : ME X ρ a (.fz (.str p))) (hb : MU X ρ b (xs.map .str)) (hm : behindInMarks .NotIn b = false := by rfl) : ME X ρ (.Compare a [.NotIn] [b] pos) (.fz (.bl (!(xs.contains p)))) := (me_niT ha hb rfl flat_s hm).isB (by rw [among_s])
end
end M
namespace M
open PySem L2 PySem.Spec PyProof.Rows
/-! ### things of any kind -/
def isiD (T : String) (d : D) : Option Bool := d.tyN.bind fun t => kitB t T
def asI : D → Option Int
  | .int i => some i
  | _ => none
def asS : D → Option Str
  | .str x => some x
  | _ => none
def asB : D → Option Bool
  | .bl b => some b
  | _ => none
theorem asI_is {d : D} {i : Int} (h : asI d = some i) : O.fz d = .fz (.int i) := by
  cases d <;> cases h
  rfl
theorem asS_is {d : D} {i : Str} (h : asS d = some i) : O.fz d = .fz (.str i) := by
  cases d <;> cases h
  rfl
theorem asB_is {d : D} {i : Bool} (h : asB d = some i) : O.fz d = .fz (.bl i) := by
  cases d <;> cases h
  rfl
section
variable {X : Cx} {ρ : Slots} {a b c e : Expr} {pos p0 p1 : Pos} {d : D} {k : Bool}
theorem me_isiD {T : String} {TS : Str} (hk : isiD T d = some k) (hg : Gl X "isinstance") (hm : X.mg "isinstance" = none) (hT : PE X (.Name TS p1) (tC (.ty T))) (ha : MV X ρ a (.fz d)) (n1 : NS X a := by exact fun _ => rfl) :
    ME X ρ (.Call (.Name "isinstance" p0) [a, .Name TS p1] [] pos) (.fz (.bl k)) := by
  obtain ⟨t, h1, h2⟩ := Option.bind_eq_some_iff.mp hk
  exact me_isi hg hm hT ha (o := .fz d) h1 h2 n1
end
end M
namespace M
open PySem L2 PySem.Spec PyProof.Rows
/-! ### C() of a class without an __init__ of its own -/
structure MkP (K : PySem.W.Frag) (C : Addr) : Prop where
  makes : PySem.W.makesIn K C = true
  init : PySem.W.findIn K (.ref C) "__init__" = some (some (.builtin "object.__init__"))
  kp : PySem.W.keepIn K (.ref C) = true
theorem run_plain {X : Cx} {C : Addr} {pins : List (Addr × Obj)} {σ : L2.St} {H : Hp} {s : Shared} {Q : VK} (M : MkP X.K C) (I : Inv X pins σ H s)
    (h : ∀ x dx, H x = none → H dx = none → dx ≠ x → Q (.ref x) (upd (upd H dx (.own x)) x (.ins C dx []))) : wpAny (model X.prog X.w) X.A (call (.ref C) []) (EP X pins σ Q) X.xe s := by
  have hq := h (s.heap.objs.size + 1) s.heap.objs.size (I.hok.fresh (Nat.le_succ _)) (I.hok.fresh (Nat.le_refl _)) (Nat.ne_of_lt (Nat.lt_succ_self _))
  have I2 := Inv.made (C := C) I
  have Y := PySem.W.makes_of (M := model X.prog X.w) I.kIn M.makes
  refine wpAny_call (make_map0 I.kIn M.makes M.init (fun self => PySem.W.Looks.of_pure (PySem.W.oi_bind self)) ?_)
  obtain ⟨hh, g, d, t, os⟩ := s
  have hx : ((hh.push PySem.W.emptyDict).push (PySem.W.instObj C hh.objs.size)).get? (hh.objs.size + 1) = some (PySem.W.instObj C hh.objs.size) := by heap_get
  have t1 : PySem.W.Looks (model X.prog X.w) ((hh.push PySem.W.emptyDict).push (PySem.W.instObj C hh.objs.size)) (typeOf (.ref (hh.objs.size + 1))) (.ref C) := (PySem.W.Looks.ld hx).andThen .now
  have t2 : PySem.W.Looks (model X.prog X.w) ((hh.push PySem.W.emptyDict).push (PySem.W.instObj C hh.objs.size)) (isInstance (.ref (hh.objs.size + 1)) (.type "object")) true := t1.andThen (Y.top.keeps fun b o e => Heap.get?_push_of_some _ (Heap.get?_push_of_some _ e))
  refine PySem.codeAny_call_builtin PySem.W.oi_plain PySem.W.entry_oi (@PySem.W.check_slot (model X.prog X.w) _ _ _ "object.__init__" "object" "__init__" (.ref (hh.objs.size + 1)) [] [] _ PySem.W.oi_kind PySem.W.oi_split t2 (PySem.W.oi_args (.ref (hh.objs.size + 1))) ?_)
  rw [PySem.W.oi_run]
  exact wpAny_pure (And.intro rfl ⟨V.ref (hh.objs.size + 1), _, I2, rfl, hq⟩)
section
variable {X : Cx} {ρ : Slots} {e a b : Expr} {es : List Expr} {pos p0 p1 : Pos} {nm : Str} {C : Addr} {ns : List Str} {ds : List D} {o : O} {d : D}
theorem pe_plain (mp : MkP X.K C) (hg : Gl X nm) (hm : X.mg nm = some (.ref C)) (hdb : (nm == ("__debug__" : Str)) = false := by decide) : PE X (.Call (.Name nm p0) [] [] pos) (fun σ H Q => ∀ x dx, H x = none → H dx = none → dx ≠ x → Q (.ref x) (upd (upd H dx (.own x)) x (.ins C dx []))) := by
  refine ⟨fun pins s σ H Q I h => ?_⟩
  refine wpAny_Call_Name_kw (ld_glob I hg hm ?_ hdb)
  exact PySem.W.callWith_K0 I.kIn mp.kp (run_plain mp I h)
theorem me_plain (mp : MkP X.K C) (hm : X.mg nm = some (.ref C)) (hg : Gl X nm := by rfl) (hdb : (nm == ("__debug__" : Str)) = false := by decide) : ME X ρ (.Call (.Name nm p0) [] [] pos) (.ins C [] []) := .mk fun Z0 F Z σ H s Q q =>
  PE_w (pe_plain mp hg hm hdb) fun x dx hx hdx ne => by
    have h2 : (upd H dx (.own x)) x = none := by rw [upd_ne ne.symm]; exact hx
    exact q (.ref x) Z _ [x] ((Gr.new s.ex hdx).trans (Gr.new ((s.ex).trans (Ex.new hdx)) h2)) (.ins (dx := dx) upd_same .nil) (new_one hx (s.ex.free hx))
/-! ### defs with defaults -/
theorem fn_mD {α : Type} {P : Program} {w : World} {K : PySem.W.Frag} {mg : Str → Option Value} {base : Heap} {x qual : Str} {pr : Arguments} {bo : List Stmt} {sc : Scope} {dvs : List V} {kws : List (Str × V)} {f : Addr} {fd : FuncData} {N ps : List Str} {k : Nat} {ar : α → List O} {pre : α → Prop} {res : α → O}
    (F : FunD K x qual pr bo sc dvs kws f fd) (S : FnScope N ps sc) (hl : ∀ x, (ar x).length = ps.length) (hn : ∀ x, pre x → (res x).nv = true)
    (hb : ∀ (cdv : Value) (A : Around) (outer : List Env) (s : Shared) (H : Hp) (E : XK), Room k (A.deeper (envOfC qual sc s.heap.objs.size f cdv)) → ∀ x, pre x →
      MS (cxOf CX0 P w K mg base N qual sc f cdv A outer s H E).nox ((ar x).map some ++ List.replicate (N.length - ps.length) none) bo { nx := fun _ => res x = .fz .non, rt := fun o => o = res x }) :
    FnOk P w K mg base CX0 (k + 1) f fd ps (SpM K ar pre res) := by
  refine F.ok S (fun vs H Q E h => ?_) (fun cdv A outer s H vs Q E hr h => ?_)
  · obtain ⟨x, Z, _, r, _⟩ := h
    rw [r.length, hl]
  · obtain ⟨x, Z, ez, r, hp, q⟩ := h
    refine ⟨_, PSs.nox pss_w, (hb cdv A outer s H E hr x hp).run Z H Z _ H _ ⟨Gr.refl ez, [], ?_, List.nodup_nil, fun _ m => nomatch m⟩ ⟨fun ρ Z' σ H' e s' => ?_, fun _ _ _ _ z => z.elim, fun _ _ _ _ z => z.elim, fun o v Z' H' A e g r n => ?_, fun _ _ _ _ _ _ z => z.elim, GX.never fun e z => by
      have n := hn x hp
      rw [← show O.rs e = res x from z] at n
      cases n⟩⟩
    · have e : L2.start N vs = vs.map some ++ List.replicate (N.length - ps.length) none := by
        unfold L2.start
        rw [r.length, hl]
      rw [e]
      exact stL_more _ (stL_args r)
    · refine q _ Z' H' [] s'.gr ?_ .nil
      rw [e]
      exact .fz .non
    · subst e
      exact q _ Z' H' A g (r.unF (hn x hp)) n
theorem fn_mXD {α : Type} {P : Program} {w : World} {K : PySem.W.Frag} {mg : Str → Option Value} {base : Heap} {x qual : Str} {pr : Arguments} {bo : List Stmt} {sc : Scope} {dvs : List V} {kws : List (Str × V)} {f : Addr} {fd : FuncData} {N ps : List Str} {k : Nat} {ar : α → List O} {pre : α → Prop} {s0 s1 : Addr → α → O} {res : α → O}
    (F : FunD K x qual pr bo sc dvs kws f fd) (S : FnScope N ps sc) (hl : ∀ x, (ar x).length + 1 = ps.length) (hn1 : ∀ l x, pre x → (s1 l x).nv = true) (hn2 : ∀ x, pre x → (res x).nv = true) (hat : ∀ l x, ∃ C ns os, s1 l x = .at l C ns os)
    (hb : ∀ (cdv : Value) (A : Around) (outer : List Env) (s : Shared) (H : Hp) (E : XK), Room k (A.deeper (envOfC qual sc s.heap.objs.size f cdv)) → ∀ (l : Addr) x, pre x →
      MS (cxOf CX0 P w K mg base N qual sc f cdv A outer s H E).nox (some (s0 l x) :: (ar x).map some ++ List.replicate (N.length - ps.length) none) bo { nx := fun ρ => res x = .fz .non ∧ ρ[0]? = some (some (s1 l x)), rs := fun o ρ => o = res x ∧ ρ[0]? = some (some (s1 l x)) }) :
    FnOk P w K mg base CX0 (k + 1) f fd ps (SpX K ar pre s0 s1 res) := by
  refine F.ok S (fun vs H Q E h => ?_) (fun cdv A outer s H vs Q E hr h => ?_)
  · obtain ⟨x, Z, F, l, vs', A, rfl, _, _, _, _, _, r, _⟩ := h
    rw [List.length_cons, r.length, hl]
  · obtain ⟨x, Z, F0, l, vs', A0, rfl, ez, ef, nA, fA, rs, r, hp, q⟩ := h
    obtain ⟨C, ns, os, hs1⟩ := hat l x
    have st0 : StL K Z F0 H (some (s0 l x) :: (ar x).map some) (some (.ref l) :: vs'.map some) (A0 ++ []) := .so rs (stL_args (r.mono (Ex.refl _) (Ex.refl _) fun _ m => nomatch m))
    refine ⟨_, PSs.nox pss_w, (hb cdv A outer s H E hr l x hp).run Z F0 Z _ H _ ⟨⟨Ex.refl _, ef, ez.trans ef, fun _ _ _ => rfl⟩, A0 ++ [], ?_, by rw [List.append_nil]; exact nA, fun a m => ?_⟩ ⟨fun ρ Z' σ H' e s' => ?_, fun _ _ _ _ z => z.elim, fun _ _ _ _ z => z.elim, fun _ _ _ _ _ z => z.elim, fun o ρ v Z' σ H' e s' => ?_, GX.never fun _ z => z⟩⟩
    · have e : L2.start N (.ref l :: vs') = (some (.ref l) :: vs'.map some) ++ List.replicate (N.length - ps.length) none := by
        unfold L2.start
        rw [List.length_cons, r.length, hl]
        rfl
      rw [e]
      exact stL_more _ st0
    · rw [List.append_nil] at m
      exact ⟨ez.free (fA a m), fA a m⟩
    · obtain ⟨en, e⟩ := e
      obtain ⟨A1, t1, t2, t3⟩ := s'.st
      obtain ⟨v, B, u1, u2, u3, u4, _⟩ := t1.at e t2
      have hn := hn1 l x hp
      rw [hs1] at u2 hn
      cases u2 with
      | @«at» _ _ dx _ vs1 _ B1 h0 rl =>
        refine q .non Z' H' ((l :: B1) ++ ([] ++ [])) s'.gr (.cons ?_ (.cons (A := []) ?_ .nil)) (by simpa using u3) fun a m => ?_
        · rw [hs1]
          exact (RepO.at h0 rl).unF hn
        · rw [en]
          exact .fz .non
        · have m : a ∈ l :: B1 := by simpa using m
          exact ⟨(t3 a (u4 a m)).2, (t3 a (u4 a m)).1⟩
    · obtain ⟨en, e⟩ := e
      subst en
      obtain ⟨A1, t1, t2, t3⟩ := s'.st
      obtain ⟨B, Cc, w1, w2, w3, w4⟩ := t1.last t2
      obtain ⟨n1, n2, n3⟩ := List.nodup_append.mp w3
      obtain ⟨v0, B0, u1, u2, u3, u4, _⟩ := w1.at e n1
      have hn := hn1 l x hp
      rw [hs1] at u2 hn
      cases u2 with
      | @«at» _ _ dx _ vs1 _ B1 h0 rl =>
        refine q v Z' H' ((l :: B1) ++ (Cc ++ [])) s'.gr (.cons ?_ (.cons (w2.unF (hn2 x hp)) .nil)) ?_ fun a m => ?_
        · rw [hs1]
          exact (RepO.at h0 rl).unF hn
        · rw [List.append_nil]
          exact List.nodup_append.mpr ⟨u3, n2, fun a ha b hb => n3 a (u4 a ha) b hb⟩
        · rw [List.append_nil] at m
          have m2 : a ∈ B ++ Cc := by
            rcases List.mem_append.mp m with z | z
            · exact List.mem_append_left _ (u4 a z)
            · exact List.mem_append_right _ z
          exact ⟨(t3 a (w4 a m2)).2, (t3 a (w4 a m2)).1⟩
theorem fun_mkD {K : PySem.W.Frag} {x qual : Str} {st : Stmt} {f T : Addr} {oc : Value} {od an td : Option Addr} {osl tsl : Array (Option Value)} {kV doc pm cdv ct : Value} {dvs : List V} {its : List Value} {n : Nat} (l : K.lookup f = some ⟨oc, od, .func (PySem.W.fnOf x qual (defArgs st) (defBody st) (defScope st) (.ref T) kV doc pm an cdv ct), osl⟩)
    (c : PySem.W.codeIn K cdv qual = true) (k : PySem.W.keepIn K (.ref f) = true) (lT : K.lookup T = some ⟨.type "tuple", td, .seq its.toArray n, tsl⟩) (hv : Vals dvs its) (hne : dvs ≠ []) : FunD K x qual (defArgs st) (defBody st) (defScope st) dvs [] f (PySem.W.fnOf x qual (defArgs st) (defBody st) (defScope st) (.ref T) kV doc pm an cdv ct) :=
  ⟨⟨oc, od, _, kV, doc, pm, an, cdv, ct, osl, rfl, l, c, .inr ⟨hne, T, _, its, n, rfl, lT, rfl, hv⟩, .inl rfl⟩, k⟩
/-- a default is a plain value -/
inductive Dfl : List V → List D → Prop where
  | nil : Dfl [] []
  | cons {v : V} {d : D} {vs : List V} {ds : List D} : Sc d v → Dfl vs ds → Dfl (v :: vs) (d :: ds)
theorem Dfl.own {K : PySem.W.Frag} {Z F H : Hp} : ∀ {vs : List V} {ds : List D}, Dfl vs ds → RepOL K Z F H vs (ds.map .fz) []
  | _, _, .nil => .nil
  | _, _, .cons h r => .cons (A := []) (B := []) (.fz h.rep) r.own
theorem RepOL.app1 {K : PySem.W.Frag} {Z F H : Hp} : ∀ {vs : List V} {os : List O} {A : List Addr}, RepOL K Z F H vs os A → A = [] → ∀ {ws : List V} {us : List O}, RepOL K Z F H ws us [] → RepOL K Z F H (vs ++ ws) (os ++ us) []
  | _, _, _, .nil, _, _, _, s => s
  | _, _, _, .cons h r, e, _, _, s => by
    obtain ⟨rfl, rfl⟩ := List.append_eq_nil_iff.mp e
    exact .cons (A := []) (B := []) h (RepOL.app1 r rfl s)
theorem RepOL.app0 {K : PySem.W.Frag} {Z F H : Hp} {vs ws : List V} {os us : List O} (r : RepOL K Z F H vs os []) (s : RepOL K Z F H ws us []) : RepOL K Z F H (vs ++ ws) (os ++ us) [] := r.app1 rfl s
structure Mk1D (P : Program) (w : World) (K : PySem.W.Frag) (mg : Str → Option Value) (base : Heap) (name : Str) (C : Addr) (k : Nat) (ps : List Str) (dvs : List V) (sp : Sp) : Prop where
  ex : ∃ (f : Addr) (fd : FuncData) (dd : List Value), mg name = some (.ref C) ∧ Mk K C f ∧ Binds K fd ps dd ∧ Vals dvs dd ∧ FnOk P w K mg base CX0 k f fd ps sp
theorem me_makeD {α : Type} {ar : α → List O} {pre : α → Prop} {res : α → List O} {k : Nat} {ps : List Str} {dvs : List V} {dds : List D} {ro : List O} (c : Mk1D X.prog X.w X.K X.mg X.base nm C k ps dvs (SpI X.K C ns ar pre res)) (hd : Dfl dvs dds) (x : α) (ha : MA X ρ (e :: es) ro) (hx : ar x = ro ++ dds.map .fz) (hp : pre x) (hr : Room (k + 1) X.A) {os : List O} (hres : res x = os := by first | (dsimp only; done) | (dsimp only; rfl) | rfl) (hg : Gl X nm := by rfl)
    (hdb : (nm == ("__debug__" : Str)) = false := by decide) (he : starEach (e :: es) X.env = (false, eval e X.env) :: starEach es X.env := by rfl) (hpl : (backTo pos (starEach es X.env)).any (·.1) = false := by rfl) : ME X ρ (.Call (.Name nm p0) (e :: es) [] pos) (.ins C ns os) := by
  subst hres
  obtain ⟨f, fd, dd, hm, M, hb, hv, F⟩ := c.ex
  exact .mk fun Z0 F0 Z σ H s Q q => PE_w (pe_make M F hr hg hm hb hv pass0 pa_w hdb he hpl) (ha.run Z0 F0 Z σ H s _ fun vs Z1 H1 g1 r1 l dx nl ndx ne =>
    ⟨x, Z1, H1, l, dx, vs ++ dvs, rfl, g1.zh, (Ex.new ndx).trans (Ex.new (by rw [upd_ne ne.symm]; exact nl)), nl, upd_same, by rw [hx]; exact r1.app0 hd.own, hp, fun Z2 H2 A g2 r2 n2 =>
      ⟨rfl, q (.ref l) Z2 H2 A (g1.trans g2) (r2.unAt.mono (Ex.refl _) (fun _ _ z => by cases z) fun _ _ _ z => z) ⟨n2.1, fun a m => ⟨g1.hh.free (n2.2 a m).1, (n2.2 a m).2⟩⟩⟩⟩)
/-- C(..) without arguments -/
theorem me_make0 {α : Type} {ar : α → List O} {pre : α → Prop} {res : α → List O} {k : Nat} {ps : List Str} (c : Mk1 X.prog X.w X.K X.mg X.base nm C k ps (SpI X.K C ns ar pre res)) (x : α) (hx : ar x = []) (hp : pre x) (hr : Room (k + 1) X.A) {os : List O} (hres : res x = os := by first | (dsimp only; done) | (dsimp only; rfl) | rfl) (hg : Gl X nm := by rfl)
    (hdb : (nm == ("__debug__" : Str)) = false := by decide) : ME X ρ (.Call (.Name nm p0) [] [] pos) (.ins C ns os) := by
  subst hres
  obtain ⟨f, fd, hm, M, hb, F⟩ := c.ex
  exact .mk fun Z0 F0 Z σ H s Q q => PE_w (pe_make0 M F hr hg hm hb .nil pass0 hdb) (fun l dx nl ndx ne =>
    ⟨x, Z, H, l, dx, [], rfl, s.ex, (Ex.new ndx).trans (Ex.new (by rw [upd_ne ne.symm]; exact nl)), nl, upd_same, by rw [hx]; exact .nil, hp, fun Z2 H2 A g2 r2 n2 =>
      ⟨rfl, q (.ref l) Z2 H2 A g2 (r2.unAt.mono (Ex.refl _) (fun _ _ z => by cases z) fun _ _ _ z => z) ⟨n2.1, fun a m => ⟨(n2.2 a m).1, (n2.2 a m).2⟩⟩⟩⟩)
/-- a method with defaults, that changes nothing -/
structure Mt1D (P : Program) (w : World) (K : PySem.W.Frag) (mg : Str → Option Value) (base : Heap) (C : Addr) (m : Str) (k : Nat) (ps : List Str) (dvs : List V) (sp : Sp) : Prop where
  ex : ∃ (f : Addr) (fd : FuncData) (dd : List Value), Meth K C m f ∧ Binds K fd ps dd ∧ Vals dvs dd ∧ FnOk P w K mg base CX0 k f fd ps sp
end
end M
namespace M
open PySem L2 PySem.Spec PyProof.Rows
/-! ### places: parts of own things, at which these are changed -/
section
variable {K : PySem.W.Frag} {Z0 Z Z' Z1 F F' H H' H1 : Hp} {ρ ρ' : Slots} {σ : L2.St}
theorem RepOL.foc : ∀ {vs : List V} {os : List O} {A : List Addr} {j : Nat} {o : O}, RepOL K Z F H vs os A → os[j]? = some o → A.Nodup →
    ∃ v B, vs[j]? = some v ∧ RepO K Z F H v o B ∧ B.Nodup ∧ (∀ a ∈ B, a ∈ A) ∧ ∀ {Z' H' : Hp} {o' : O} {B' : List Addr}, Ex Z Z' → (∀ a ∈ A, a ∉ B → ∀ u, H a = some u → H' a = some u) → RepO K Z' F H' v o' B' → B'.Nodup → (∀ a ∈ B', a ∈ A → a ∈ B) →
      ∃ A', RepOL K Z' F H' vs (os.set j o') A' ∧ A'.Nodup ∧ ∀ a ∈ A', (a ∈ A ∧ a ∉ B) ∨ a ∈ B'
  | _, _, _, _, _, .nil, e, _ => by simp at e
  | _, _, _, 0, _, .cons (A := A1) (B := A2) q h, e, nA => by
    simp at e
    subst e
    obtain ⟨n1, n2, n3⟩ := List.nodup_append.mp nA
    refine ⟨_, A1, rfl, q, n1, fun a m => List.mem_append_left _ m, fun ez k r n d => ?_⟩
    refine ⟨_, .cons r (RepOL.mono ez (Ex.refl _) h fun a m => k a (List.mem_append_right _ m) fun z => n3 a z a m rfl), List.nodup_append.mpr ⟨n, n2, fun a ha b hb e => ?_⟩, fun a m => ?_⟩
    · subst e
      exact n3 a (d a ha (List.mem_append_right _ hb)) a hb rfl
    · rcases List.mem_append.mp m with m | m
      · exact .inr m
      · exact .inl ⟨List.mem_append_right _ m, fun z => n3 a z a m rfl⟩
  | _, _, _, j + 1, _, .cons (A := A1) (B := A2) q h, e, nA => by
    obtain ⟨n1, n2, n3⟩ := List.nodup_append.mp nA
    obtain ⟨v, B, h1, h2, h3, h4, h5⟩ := RepOL.foc (j := j) h (by simpa using e) n2
    refine ⟨v, B, by simpa using h1, h2, h3, fun a m => List.mem_append_right _ (h4 a m), fun ez k r n d => ?_⟩
    obtain ⟨A', q1, q2, q3⟩ := h5 ez (fun a m nb => k a (List.mem_append_right _ m) nb) r n fun a m z => d a m (List.mem_append_right _ z)
    refine ⟨_, .cons (q.mono ez (Ex.refl _) fun a m => k a (List.mem_append_left _ m) fun z => n3 a m a (h4 a z) rfl) q1, List.nodup_append.mpr ⟨n1, q2, fun a ha b hb e => ?_⟩, fun a m => ?_⟩
    · subst e
      rcases q3 a hb with z | z
      · exact n3 a ha a z.1 rfl
      · exact n3 a ha a (h4 a (d a z (List.mem_append_left _ ha))) rfl
    · rcases List.mem_append.mp m with m | m
      · exact .inl ⟨List.mem_append_left _ m, fun z => n3 a m a (h4 a z) rfl⟩
      · exact (q3 a m).imp (fun z => ⟨List.mem_append_right _ z.1, z.2⟩) id
/-- a state with what it owns -/
structure StA (K : PySem.W.Frag) (ρ : Slots) (Z0 F Z : Hp) (σ : L2.St) (H : Hp) (A : List Addr) : Prop where
  gr : Gr Z0 F Z H
  st : StL K Z F H ρ σ A
  nd : A.Nodup
  ds : ∀ a ∈ A, Z a = none ∧ F a = none
theorem StA.r {A : List Addr} (s : StA K ρ Z0 F Z σ H A) : StR K ρ Z0 F Z σ H := ⟨s.gr, A, s.st, s.nd, s.ds⟩
theorem StR.a (s : StR K ρ Z0 F Z σ H) : ∃ A, StA K ρ Z0 F Z σ H A := let ⟨A, h1, h2, h3⟩ := s.st; ⟨A, s.gr, h1, h2, h3⟩
theorem StA.grow {A : List Addr} (s : StA K ρ Z0 F Z σ H A) (g : Gr Z H Z' H') : StA K ρ Z0 F Z' σ H' A := by
  refine ⟨s.gr.trans g, s.st.mono g.zz fun a _ u e => g.hh a u e, s.nd, fun a m => ⟨?_, (s.ds a m).2⟩⟩
  obtain ⟨u, e⟩ := s.st.there a m
  rw [g.nw a u e]
  exact (s.ds a m).1
/-- what a change at A must leave as it is -/
def Kept (F : Hp) (T A : List Addr) (a : Addr) : Prop := a ∉ A ∧ (a ∈ T ∨ ∃ u, F a = some u)
/-- the part at a place: what is there, and what comes of it where it is changed -/
structure FocA (K : PySem.W.Frag) (F Z : Hp) (Z0 : Hp) (σ : L2.St) (H : Hp) (T : List Addr) (v : V) (o : O) (R : O → Slots) (A : List Addr) : Prop where
  rp : RepO K Z F H v o A
  nd : A.Nodup
  ds : ∀ a ∈ A, a ∈ T ∧ Z a = none ∧ F a = none
  th : ∀ a ∈ T, ∃ u, H a = some u
  fh : Ex F H
  k : ∀ {Z' H' : Hp} {w : V} {o' p : O} {B : List Addr}, Ex Z Z' → (∀ a, Kept F T A a → Z' a = Z a) → Ex Z' H' → (∀ a, Kept F T A a → ∀ u, H a = some u → H' a = some u) → RepOL K Z' F H' [v, w] [o', p] B → B.Nodup → (∀ a ∈ B, (a ∈ A ∨ a ∉ T ∧ F a = none) ∧ Z' a = none) →
    StR K (R o' ++ [some p]) Z0 F Z' (σ ++ [some w]) H'
def Foc (K : PySem.W.Frag) (Z0 F Z : Hp) (σ : L2.St) (H : Hp) (T : List Addr) (v : V) (o : O) (R : O → Slots) : Prop := ∃ A, FocA K F Z Z0 σ H T v o R A
theorem StA.foc {T : List Addr} {i : Nat} {o : O} (s : StA K ρ Z0 F Z σ H T) (hi : ρ[i]? = some (some o)) : ∃ v, σ[i]? = some (some v) ∧ Foc K Z0 F Z σ H T v o (fun o' => ρ.set i (some o')) := by
  obtain ⟨v, B0, q1, q2, q3, q4, q5⟩ := s.st.at hi s.nd
  refine ⟨v, q1, B0, q2, q3, fun a m => ⟨q4 a m, s.ds a (q4 a m)⟩, s.st.there, s.gr.hh, fun {Z' H' w o' p B} ez nz zh k r n d => ?_⟩
  cases r with
  | @cons _ _ _ _ A1 B1 ra r =>
    cases r with
    | @cons _ _ _ _ A2 B2 rb r =>
      cases r
      rw [List.append_nil] at n d
      obtain ⟨n1, n2, n3⟩ := List.nodup_append.mp n
      have apart : ∀ a ∈ A1 ++ A2, a ∈ T → a ∈ B0 := fun a m ma => (d a m).1.elim id fun z => absurd ma z.1
      obtain ⟨A', r1, r2, r3⟩ := q5 (v' := v) ez (fun a m nb u e => k a ⟨nb, .inl m⟩ u e) ra n1 fun a m ma => apart a (List.mem_append_left _ m) ma
      rw [set_same q1] at r1
      have hF : ∀ a u, F a = some u → a ∉ B0 := fun a u e m => by
        rw [(s.ds a (q4 a m)).2] at e
        cases e
      refine ⟨⟨s.gr.zz.trans ez, fun a u e => k a ⟨hF a u e, .inr ⟨u, e⟩⟩ u (s.gr.hh a u e), zh, fun a u e => (nz a ⟨hF a u e, .inr ⟨u, e⟩⟩).trans (s.gr.nw a u e)⟩, A' ++ A2, r1.push rb, List.nodup_append.mpr ⟨r2, n2, fun a ha b hb e => ?_⟩, fun a m => ?_⟩
      · subst e
        rcases r3 a ha with z | z
        · exact z.2 (apart a (List.mem_append_right _ hb) z.1)
        · exact n3 a z a hb rfl
      · have new : a ∈ A1 ++ A2 → Z' a = none ∧ F a = none := fun y => by
          refine ⟨(d a y).2, ?_⟩
          rcases (d a y).1 with z | z
          · exact (s.ds a (q4 a z)).2
          · exact z.2
        rcases List.mem_append.mp m with m | m
        · rcases r3 a m with z | z
          · exact ⟨(nz a ⟨z.2, .inl z.1⟩).trans (s.ds a z.1).1, (s.ds a z.1).2⟩
          · exact new (List.mem_append_left _ z)
        · exact new (List.mem_append_right _ m)
theorem Foc.grow {T : List Addr} {v : V} {o : O} {R : O → Slots} (f : Foc K Z0 F Z σ H T v o R) (g : Gr Z H Z1 H1) : Foc K Z0 F Z1 σ H1 T v o R := by
  obtain ⟨A, f⟩ := f
  refine ⟨A, f.rp.ex g.zz g.hh, f.nd, fun a m => ⟨(f.ds a m).1, ?_, (f.ds a m).2.2⟩, fun a m => ?_, f.fh.trans g.hh, fun {Z' H' w o' p B} ez nz zh k r n d => ?_⟩
  · obtain ⟨u, e⟩ := f.rp.there a m
    exact (g.nw a u e).trans (f.ds a m).2.1
  · obtain ⟨u, e⟩ := f.th a m
    exact ⟨u, g.hh a u e⟩
  · refine f.k (g.zz.trans ez) (fun a ka => ?_) zh (fun a ka u e => k a ka u (g.hh a u e)) r n d
    have : ∃ u, H a = some u := ka.2.elim (f.th a) fun ⟨u, e⟩ => ⟨u, f.fh a u e⟩
    obtain ⟨u, e⟩ := this
    exact (nz a ka).trans (g.nw a u e)
theorem FocA.chg {T A : List Addr} {v : V} {o : O} {R : O → Slots} (f : FocA K F Z Z0 σ H T v o R A) {o' : O} {B : List Addr} (ez : Ex Z Z') (nz : ∀ a, Kept F T A a → Z' a = Z a) (zh : Ex Z' H') (k : ∀ a, Kept F T A a → ∀ u, H a = some u → H' a = some u) (r : RepO K Z' F H' v o' B) (n : B.Nodup) (d : ∀ a ∈ B, (a ∈ A ∨ a ∉ T ∧ F a = none) ∧ Z' a = none) : StR K (R o') Z0 F Z' σ H' := by
  have := f.k (w := .non) (p := .fz .non) ez nz zh k (.cons r (.cons (A := []) (.fz .non) .nil)) (by simpa using n) (fun a m => d a (by simpa using m))
  exact this.pop
/-- one step down -/
theorem FocA.down {X : Type} {T A : List Addr} {v : V} {mk : List O → O} {cell : X → List V → HO} {P : Addr → Prop} {R : O → Slots} {os : List O} {j : Nat} {o : O}
    (hmk : ∀ {Z H : Hp} {v : V} {os : List O} {A : List Addr}, RepO K Z F H v (mk os) A ↔ ∃ a x vs A1, P a ∧ v = .ref a ∧ A = a :: A1 ∧ H a = some (cell x vs) ∧ RepOL K Z F H vs os A1)
    (f : FocA K F Z Z0 σ H T v (mk os) R A) (hj : os[j]? = some o) : ∃ a x vs v', v = .ref a ∧ H a = some (cell x vs) ∧ vs.length = os.length ∧ vs[j]? = some v' ∧ Foc K Z0 F Z σ H T v' o (fun o' => R (mk (os.set j o'))) := by
  obtain ⟨a, x, vs, A1, pa, rfl, rfl, ha, rl⟩ := hmk.mp f.rp
  obtain ⟨na, nA⟩ := List.nodup_cons.mp f.nd
  obtain ⟨v', B, q1, q2, q3, q4, q5⟩ := rl.foc hj nA
  have lenL : ∀ {vs : List V} {os : List O} {A : List Addr}, RepOL K Z F H vs os A → vs.length = os.length := fun r => r.length
  refine ⟨a, x, vs, v', rfl, ha, lenL rl, q1, B, q2, q3, fun b m => f.ds b (List.mem_cons_of_mem _ (q4 b m)), f.th, f.fh, fun {Z' H' w o' p B2} ez nz zh k r n d => ?_⟩
  cases r with
  | @cons _ _ _ _ B3 _ ra r =>
    cases r with
    | @cons _ _ _ _ B4 _ rb r =>
      cases r
      rw [List.append_nil] at n d
      obtain ⟨n1, n2, n3⟩ := List.nodup_append.mp n
      have aB : a ∉ B := fun m => na (q4 a m)
      have kA : ∀ b ∈ A1, b ∉ B → Kept F T B b := fun b m nb => ⟨nb, .inl (f.ds b (List.mem_cons_of_mem _ m)).1⟩
      have kT : ∀ b, Kept F T (a :: A1) b → Kept F T B b := fun b kb => ⟨fun m => kb.1 (List.mem_cons_of_mem _ (q4 b m)), kb.2⟩
      have ka : Kept F T B a := ⟨aB, .inl (f.ds a List.mem_cons_self).1⟩
      have apart : ∀ b ∈ B3 ++ B4, b ∈ a :: A1 → b ∈ B := fun b m mb => (d b m).1.elim id fun z => absurd (f.ds b mb).1 z.1
      obtain ⟨A', t1, t2, t3⟩ := q5 ez (fun b m nb u e => k b (kA b m nb) u e) ra n1 fun b m mb => apart b (List.mem_append_left _ m) (List.mem_cons_of_mem _ mb)
      have rm : RepO K Z' F H' (.ref a) (mk (os.set j o')) (a :: A') := hmk.mpr ⟨a, x, vs, A', pa, rfl, rfl, k a ka _ ha, t1⟩
      have aA' : a ∉ A' := fun m => by
        rcases t3 a m with z | z
        · exact na z.1
        · exact aB (apart a (List.mem_append_left _ z) List.mem_cons_self)
      refine f.k ez (fun b kb => nz b (kT b kb)) zh (fun b kb u e => k b (kT b kb) u e) (.cons rm (.cons rb .nil)) ?_ fun b m => ?_
      · rw [List.append_nil]
        refine List.nodup_append.mpr ⟨List.nodup_cons.mpr ⟨aA', t2⟩, n2, fun b hb c hc e => ?_⟩
        subst e
        rcases List.mem_cons.mp hb with z | z
        · subst z
          exact aB (apart b (List.mem_append_right _ hc) List.mem_cons_self)
        · rcases t3 b z with y | y
          · exact y.2 (apart b (List.mem_append_right _ hc) (List.mem_cons_of_mem _ y.1))
          · exact n3 b y b hc rfl
      · rw [List.append_nil] at m
        have new : b ∈ B3 ++ B4 → (b ∈ a :: A1 ∨ b ∉ T ∧ F b = none) ∧ Z' b = none := fun y => ⟨(d b y).1.imp (fun z => List.mem_cons_of_mem _ (q4 b z)) id, (d b y).2⟩
        rcases List.mem_append.mp m with m | m
        · rcases List.mem_cons.mp m with z | z
          · subst z
            exact ⟨.inl List.mem_cons_self, (nz b ka).trans (f.ds b List.mem_cons_self).2.1⟩
          · rcases t3 b z with y | y
            · exact ⟨.inl (List.mem_cons_of_mem _ y.1), (nz b (kA b y.1 y.2)).trans (f.ds b (List.mem_cons_of_mem _ y.1)).2.1⟩
            · exact new (List.mem_append_left _ y)
        · exact new (List.mem_append_right _ m)
theorem hm_lst : ∀ {Z H : Hp} {v : V} {os : List O} {A : List Addr}, RepO K Z F H v (.lst os) A ↔ ∃ a, ∃ _ : Unit, ∃ vs A1, True ∧ v = .ref a ∧ A = a :: A1 ∧ H a = some (.lst vs) ∧ RepOL K Z F H vs os A1 := by
  intro Z H v os A
  constructor
  · intro r
    cases r with
    | lst h r => exact ⟨_, (), _, _, trivial, rfl, rfl, h, r⟩
  · rintro ⟨a, _, vs, A1, _, rfl, rfl, h, r⟩
    exact .lst h r
theorem hm_ins {C : Addr} {ns : List Str} : ∀ {Z H : Hp} {v : V} {os : List O} {A : List Addr}, RepO K Z F H v (.ins C ns os) A ↔ ∃ a, ∃ dx : Addr, ∃ vs A1, True ∧ v = .ref a ∧ A = a :: A1 ∧ H a = some (.ins C dx (ns.zip vs)) ∧ RepOL K Z F H vs os A1 := by
  intro Z H v os A
  constructor
  · intro r
    cases r with
    | ins h r => exact ⟨_, _, _, _, trivial, rfl, rfl, h, r⟩
  · rintro ⟨a, _, vs, A1, _, rfl, rfl, h, r⟩
    exact .ins h r
theorem hm_at {l C : Addr} {ns : List Str} : ∀ {Z H : Hp} {v : V} {os : List O} {A : List Addr}, RepO K Z F H v (.at l C ns os) A ↔ ∃ a, ∃ dx : Addr, ∃ vs A1, a = l ∧ v = .ref a ∧ A = a :: A1 ∧ H a = some (.ins C dx (ns.zip vs)) ∧ RepOL K Z F H vs os A1 := by
  intro Z H v os A
  constructor
  · intro r
    cases r with
    | «at» h r => exact ⟨_, _, _, _, rfl, rfl, rfl, h, r⟩
  · rintro ⟨a, _, vs, A1, rfl, rfl, rfl, h, r⟩
    exact .at h r
theorem hm_dct {ks : List Key} : ∀ {Z H : Hp} {v : V} {os : List O} {A : List Addr}, RepO K Z F H v (.dct ks os) A ↔ ∃ a, ∃ _ : Unit, ∃ vs A1, True ∧ v = .ref a ∧ A = a :: A1 ∧ H a = some (.dK (ks.zip vs)) ∧ RepOL K Z F H vs os A1 := by
  intro Z H v os A
  constructor
  · intro r
    cases r with
    | dct h r => exact ⟨_, (), _, _, trivial, rfl, rfl, h, r⟩
  · rintro ⟨a, _, vs, A1, _, rfl, rfl, h, r⟩
    exact .dct h r
theorem hm_dctT {ks : List (List Key)} : ∀ {Z H : Hp} {v : V} {os : List O} {A : List Addr}, RepO K Z F H v (.dctT ks os) A ↔ ∃ a, ∃ _ : Unit, ∃ vs A1, True ∧ v = .ref a ∧ A = a :: A1 ∧ H a = some (.dT (ks.zip vs)) ∧ RepOL K Z F H vs os A1 := by
  intro Z H v os A
  constructor
  · intro r
    cases r with
    | dctT h r => exact ⟨_, (), _, _, trivial, rfl, rfl, h, r⟩
  · rintro ⟨a, _, vs, A1, _, rfl, rfl, h, r⟩
    exact .dctT h r
end
end M
namespace M
open PySem L2 PySem.Spec PyProof.Rows
section
variable {X : Cx} {ρ ρ' : Slots} {R : O → Slots} {e a b c elt : Expr} {es rest : List Expr} {st : Stmt} {sts : List Stmt} {G : Go} {o o1 o2 : O} {d : D} {ds : List D} {os : List O} {pos p0 p1 p2 p3 p4 p5 p6 : Pos} {i j : Nat} {x nm f : Str} {m n k : Int} {p q : Str} {C : Addr} {ns : List Str}
/-- an expression that tells a place, and changes nothing -/
structure MQ (X : Cx) (ρ : Slots) (e : Expr) (o : O) (R : O → Slots) : Prop where
  run : ∀ (Z0 F Z : Hp) (σ : L2.St) (H : Hp) (T : List Addr), StA X.K ρ Z0 F Z σ H T → ∀ Q : VK, (∀ v Z' H', Gr Z H Z' H' → Foc X.K Z0 F Z' σ H' T v o R → Q v H') → wE X e σ H Q
/-- .. that changes slots ahead -/
structure MP (X : Cx) (ρ : Slots) (e : Expr) (o : O) (ρ' : Slots) (R : O → Slots) : Prop where
  run : ∀ (Z0 F Z : Hp) (σ : L2.St) (H : Hp) (T : List Addr), StA X.K ρ Z0 F Z σ H T → ∀ Q : VK, (∀ v Z' H' T', StA X.K ρ' Z0 F Z' σ H' T' → Foc X.K Z0 F Z' σ H' T' v o R → Q v H') → wE X e σ H Q
theorem MQ.toP (h : MQ X ρ e o R) : MP X ρ e o ρ R := .mk fun Z0 F Z σ H T s Q q => h.run Z0 F Z σ H T s Q fun v Z' H' g f => q v Z' H' T (s.grow g) f
theorem mq_var (p : PE X (.Name x pos) (tVar i)) (hi : ρ[i]? = some (some o)) : MQ X ρ (.Name x pos) o (fun o' => ρ.set i (some o')) := .mk fun Z0 F Z σ H T s Q q => by
  obtain ⟨v, e1, f⟩ := s.foc hi
  exact PE_w p ⟨v, e1, q v Z H (Gr.refl s.gr.zh) f⟩
theorem mq_fld {j : Nat} (h : MQ X ρ e (.ins C ns os) R) (cc : OC X.K C ns) (hd : os[j]? = some o := by rfl) (hj : nmAt ns f = some j := by decide +kernel) (hb : attributeBase e f X.env (eval e X.env) = eval e X.env := by rfl) : MQ X ρ (.Attribute e f pos) o (fun o' => R (.ins C ns (os.set j o'))) := .mk fun Z0 F Z σ H T s Q q =>
  PE_w (pe_fld pe_w hb) (h.run Z0 F Z σ H T s _ fun v Z1 H1 g f => by
    obtain ⟨A, f⟩ := f
    obtain ⟨a, dx, vs, v', rfl, ha, hl, hv, f'⟩ := f.down hm_ins hd
    exact ⟨a, C, dx, _, v', rfl, ha, cc.cl, cc.na _ (nmAt_mem hj), look_zip hj hv, q v' Z1 H1 g f'⟩)
theorem mq_fldA {j : Nat} {l : Addr} (h : MQ X ρ e (.at l C ns os) R) (cc : OC X.K C ns) (hd : os[j]? = some o := by rfl) (hj : nmAt ns f = some j := by decide +kernel) (hb : attributeBase e f X.env (eval e X.env) = eval e X.env := by rfl) : MQ X ρ (.Attribute e f pos) o (fun o' => R (.at l C ns (os.set j o'))) := .mk fun Z0 F Z σ H T s Q q =>
  PE_w (pe_fld pe_w hb) (h.run Z0 F Z σ H T s _ fun v Z1 H1 g f => by
    obtain ⟨A, f⟩ := f
    obtain ⟨a, dx, vs, v', rfl, ha, hl, hv, f'⟩ := f.down hm_at hd
    exact ⟨a, C, dx, _, v', rfl, ha, cc.cl, cc.na _ (nmAt_mem hj), look_zip hj hv, q v' Z1 H1 g f'⟩)
theorem Foc.unloc {K : PySem.W.Frag} {Z0 F Z H : Hp} {σ : L2.St} {T : List Addr} {v : V} {l : Addr} (f : Foc K Z0 F Z σ H T v (.loc l o) R) : v = .ref l ∧ Foc K Z0 F Z σ H T v o (fun o' => R (.loc l o')) := by
  obtain ⟨A, f⟩ := f
  have ev : v = .ref l := by
    cases f.rp with
    | loc r => rfl
  subst ev
  refine ⟨rfl, A, ?_, f.nd, f.ds, f.th, f.fh, fun ez nz zh k r n d => f.k ez nz zh k ?_ n d⟩
  · cases f.rp with
    | loc r => exact r
  · cases r with
    | cons r1 r2 => exact .cons (.loc r1) r2
theorem mq_loc {l : Addr} (h : MQ X ρ e (.loc l o) R) : MQ X ρ e o (fun o' => R (.loc l o')) := .mk fun Z0 F Z σ H T s Q q => h.run Z0 F Z σ H T s Q fun v Z' H' g f => q v Z' H' g f.unloc.2
theorem MV.unloc {l : Addr} (h : MV X ρ e (.loc l o)) : MV X ρ e o := .mk fun Z0 F Z σ H s Q q => h.run Z0 F Z σ H s Q fun v Z' H' A g r => by
  cases r with
  | loc r => exact q _ Z' H' A g r
theorem mq_ix {j : Nat} (h : MQ X ρ a (.lst os) R) (hb : ME X ρ b (.fz (.int k))) (hk : ixN os.length k = some j) (hd : os[j]? = some o) (hp : PlainIx b := by exact fun _ _ => rfl) : MQ X ρ (.Subscript a b pos) o (fun o' => R (.lst (os.set j o'))) := .mk fun Z0 F Z σ H T s Q q =>
  PE_w (pe_ix ix_list pe_w pe_w hp) (h.run Z0 F Z σ H T s _ fun v Z1 H1 g1 f => hb.run Z0 F Z1 σ H1 (s.grow g1).r _ fun w Z2 H2 A2 g2 r2 n2 => by
    cases r2 with
    | fz r2 =>
      cases r2
      obtain ⟨A, f⟩ := f.grow g2
      obtain ⟨a, _, vs, v', rfl, ha, hl, hv, f'⟩ := f.down hm_lst hd
      exact ⟨a, vs, k, v', rfl, rfl, SqL.of ha, by unfold L2.atI; rw [hl, hk]; exact hv, q v' Z2 H2 (g1.trans g2) f'⟩)
/-- a cell is changed in place -/
theorem FocA.mut {K : PySem.W.Frag} {Z0 F Z H : Hp} {σ : L2.St} {T A : List Addr} {v : V} (f : FocA K F Z Z0 σ H T v o R A) (zh : Ex Z H) {a : Addr} (ha : a ∈ A) {c : HO} {o' : O} {B : List Addr} (r : RepO K Z F (upd H a c) v o' B) (n : B.Nodup) (d : ∀ b ∈ B, b ∈ A ∨ (b ∉ T ∧ Z b = none ∧ F b = none)) : StR K (R o') Z0 F Z σ (upd H a c) := by
  refine f.chg (Ex.refl _) (fun _ _ => rfl) (zh.mut (f.ds a ha).2.1) (fun b kb u e => ?_) r n fun b m => ?_
  · rw [upd_ne fun q => kb.1 (by rw [q]; exact ha)]
    exact e
  · rcases d b m with z | z
    · exact ⟨.inl z, (f.ds b z).2.1⟩
    · exact ⟨.inr ⟨z.1, z.2.2⟩, z.2.1⟩
/-- p.append(e) -/
theorem m_appendP (h : MP X ρ a (.lst os) ρ' R) (he : ME X ρ' e o) (hl : os.length < sizeLine) (k : G.nx (R (.lst (os ++ [o]))))
    (q : ∀ t, PE X (.Call (.Attribute a "append" p2) [e] [] p3) t → PS X (.Expr (.Call (.Attribute a "append" p2) [e] [] p3) p4) (tDrop t) := by exact fun _ h => ps_expr h)
    (pm : PE X (.Call (.Attribute a "append" p2) [e] [] p3) (tBM X.K "list" rAppend (wE X a) (tCons (wE X e) tNil)) := by exact pe_bm PySem.F.plainAttrs_list PySem.F.slot_list_append PySem.F.type_list_append mt_append pe_w (pa_cons pe_w pa_nil)) : MS1 X ρ (.Expr (.Call (.Attribute a "append" p2) [e] [] p3) p4) G := .mk fun Z0 F Z σ H D s g => by
  obtain ⟨T, s⟩ := s.a
  refine PS_w (q _ pm) (h.run Z0 F Z σ H T s _ fun v Z1 H1 T1 s1 f => ?_)
  have f0 := f
  obtain ⟨A, f⟩ := f
  obtain ⟨l, _, vs, A1, _, rfl, rfl, h0, rl⟩ := hm_lst.mp f.rp
  refine ⟨.inl ⟨rfl, _, SqL.of h0⟩, he.run Z0 F Z1 σ H1 s1.r _ fun w Z2 H2 B g1 r2 n2 => ?_⟩
  obtain ⟨na, nA'⟩ := List.nodup_cons.mp f.nd
  have th := f.rp.there
  have thT := f.th
  have fh1 := f.fh
  obtain ⟨A', f'⟩ := f0.grow g1
  obtain ⟨l', _, vs', A1', _, el, rfl, h0', rl'⟩ := hm_lst.mp f'.rp
  cases el
  have ev : vs' = vs := by
    have := g1.hh _ _ h0
    rw [h0'] at this
    cases this
    rfl
  subst ev
  obtain ⟨na', nA2⟩ := List.nodup_cons.mp f'.nd
  have nB : ∀ b ∈ B, b ∉ T1 := fun b m mt => by
    obtain ⟨u, hu⟩ := thT b mt
    rw [(n2.2 b m).1] at hu
    cases hu
  have nBA : ∀ b ∈ B, b ∉ l :: A1' := fun b m mb => nB b m (f'.ds b mb).1
  refine ⟨l, vs', w, rfl, rfl, h0', by rw [rl'.length]; exact hl, ?_⟩
  have r1' : RepOL X.K Z2 F (upd H2 l (.lst (vs' ++ [w]))) vs' os A1' := rl'.mono (Ex.refl _) (Ex.refl _) fun b m u hu => by
    rw [upd_ne fun q => na' (by rw [← q]; exact m)]
    exact hu
  have r2' : RepO X.K Z2 F (upd H2 l (.lst (vs' ++ [w]))) w o B := r2.frame fun b m => upd_ne fun q => nBA b m (by rw [q]; exact List.mem_cons_self)
  refine g.nx _ Z2 σ _ k (f'.mut g1.zh List.mem_cons_self (.lst upd_same (r1'.snoc r2')) ?_ fun b m => ?_)
  · refine List.nodup_cons.mpr ⟨fun m => ?_, List.nodup_append.mpr ⟨nA2, n2.1, fun b hb c hc e => nBA c hc (by rw [← e]; exact List.mem_cons_of_mem _ hb)⟩⟩
    rcases List.mem_append.mp m with m | m
    · exact na' m
    · exact nBA _ m List.mem_cons_self
  · rcases List.mem_cons.mp m with z | z
    · exact .inl (by rw [z]; exact List.mem_cons_self)
    · rcases List.mem_append.mp z with z | z
      · exact .inl (List.mem_cons_of_mem _ z)
      · exact .inr ⟨nB b z, (n2.2 b z).2, fh1.free (n2.2 b z).1⟩
end
end M
namespace M
open PySem L2 PySem.Spec PyProof.Rows
section
variable {X : Cx} {ρ ρ' : Slots} {R : O → Slots} {e a b c elt : Expr} {es rest : List Expr} {st : Stmt} {sts : List Stmt} {G : Go} {o o1 o2 : O} {d : D} {ds : List D} {os : List O} {pos p0 p1 p2 p3 p4 p5 p6 : Pos} {i j : Nat} {x nm f : Str} {m n k : Int} {C : Addr} {ns : List Str}
theorem RepOL.apZ {K : PySem.W.Frag} {Z F H : Hp} {ws : List V} {ds : List D} (s : RepL K Z ws ds) : ∀ {vs : List V} {os : List O} {A : List Addr}, RepOL K Z F H vs os A → RepOL K Z F H (vs ++ ws) (os ++ ds.map .fz) A
  | _, _, _, .nil => s.own
  | _, _, _, .cons h r => .cons h (r.apZ s)
/-- the list at a place is changed by a step of its own -/
theorem FocA.chgL {K : PySem.W.Frag} {Z0 F Z H : Hp} {σ : L2.St} {T A A1 : List Addr} {l : Addr} {us : List V} {os' : List O} (f : FocA K F Z Z0 σ H T (.ref l) o R A) (eA : A = l :: A1) (zh : Ex Z H) (r : RepOL K Z F H us os' A1) : StR K (R (.lst os')) Z0 F Z σ (upd H l (.lst us)) := by
  subst eA
  obtain ⟨na, nA⟩ := List.nodup_cons.mp f.nd
  refine f.mut zh List.mem_cons_self (.lst upd_same (r.mono (Ex.refl _) (Ex.refl _) fun b m u hu => ?_)) f.nd fun b m => .inl m
  rw [upd_ne fun q => na (by rw [← q]; exact m)]
  exact hu
/-- p.extend(e), e a list of frozen things -/
theorem m_extendP (h : MP X ρ a (.lst os) ρ' R) (he : MV X ρ' e (.lst (ds.map .fz))) (hl : os.length + ds.length ≤ sizeLine) (k : G.nx (R (.lst (os ++ ds.map .fz))))
    (q : ∀ t, PE X (.Call (.Attribute a "extend" p2) [e] [] p3) t → PS X (.Expr (.Call (.Attribute a "extend" p2) [e] [] p3) p4) (tDrop t) := by exact fun _ h => ps_expr h)
    (pm : PE X (.Call (.Attribute a "extend" p2) [e] [] p3) (tBM X.K "list" rExtend (wE X a) (tCons (wE X e) tNil)) := by exact pe_bm PySem.F.plainAttrs_list PySem.F.slot_list_extend PySem.F.type_list_extend mt_extend pe_w (pa_cons pe_w pa_nil)) : MS1 X ρ (.Expr (.Call (.Attribute a "extend" p2) [e] [] p3) p4) G := .mk fun Z0 F Z σ H D s g => by
  obtain ⟨T, s⟩ := s.a
  refine PS_w (q _ pm) (h.run Z0 F Z σ H T s _ fun v Z1 H1 T1 s1 f => ?_)
  have f0 := f
  obtain ⟨A, f⟩ := f
  obtain ⟨l, _, vs, A1, _, rfl, rfl, h0, rl⟩ := hm_lst.mp f.rp
  refine ⟨.inl ⟨rfl, _, SqL.of h0⟩, he.run Z0 F Z1 σ H1 s1.r _ fun w Z2 H2 B g1 r2 => ?_⟩
  cases r2 with
  | @lst b zs _ B0 hb rb =>
    obtain ⟨_, rz⟩ := rb.fzs
    obtain ⟨A', f'⟩ := f0.grow g1
    obtain ⟨l', _, vs', A1', _, el, rfl, h0', rl'⟩ := hm_lst.mp f'.rp
    cases el
    exact ⟨l, b, vs', zs, rfl, rfl, h0', hb, by rw [rl'.length, rz.length]; exact hl, g.nx _ Z2 σ _ k (f'.chgL rfl g1.zh (rl'.apZ rz))⟩
/-- p.clear() -/
theorem m_clearP (h : MP X ρ a (.lst os) ρ' R) (k : G.nx (R (.lst [])))
    (q : ∀ t, PE X (.Call (.Attribute a "clear" p2) [] [] p3) t → PS X (.Expr (.Call (.Attribute a "clear" p2) [] [] p3) p4) (tDrop t) := by exact fun _ h => ps_expr h)
    (pm : PE X (.Call (.Attribute a "clear" p2) [] [] p3) (tBM0 X.K "list" rClear (wE X a)) := by exact pe_bm0 PySem.F.plainAttrs_list PySem.F.slot_list_clear PySem.F.type_list_clear mt_clear pe_w) : MS1 X ρ (.Expr (.Call (.Attribute a "clear" p2) [] [] p3) p4) G := .mk fun Z0 F Z σ H D s g => by
  obtain ⟨T, s⟩ := s.a
  refine PS_w (q _ pm) (h.run Z0 F Z σ H T s _ fun v Z1 H1 T1 s1 f => ?_)
  obtain ⟨A, f⟩ := f
  obtain ⟨l, _, vs, A1, _, rfl, rfl, h0, rl⟩ := hm_lst.mp f.rp
  refine ⟨.inl ⟨rfl, _, SqL.of h0⟩, l, vs, rfl, rfl, h0, g.nx _ Z1 σ _ k ?_⟩
  exact f.mut s1.gr.zh List.mem_cons_self (.lst upd_same .nil) (by simp) fun b m => by
    have : b = l := by simpa using m
    exact .inl (by rw [this]; exact List.mem_cons_self)
theorem RepOL.ins1 {K : PySem.W.Frag} {Z F H : Hp} {w : V} {d : D} (h : Rep K Z w d) : ∀ {vs : List V} {os : List O} {A : List Addr} (j : Nat), RepOL K Z F H vs os A → RepOL K Z F H (vs.take j ++ [w] ++ vs.drop j) (os.take j ++ [.fz d] ++ os.drop j) A
  | _, _, _, 0, r => .cons (A := []) (.fz h) r
  | _, _, _, j + 1, .nil => .cons (A := []) (.fz h) .nil
  | _, _, _, j + 1, .cons g r => .cons g (RepOL.ins1 h j r)
abbrev rInsert : V → List V → Hp → VK → Prop := fun x vs H Q => ∃ (l : Addr) (xs : List V) (i : Int) (y : V), x = .ref l ∧ vs = [.int i, y] ∧ H l = some (.lst xs) ∧ xs.length < sizeLine ∧ 0 ≤ i ∧ i < 2 ^ 63 ∧
    Q .non (upd H l (.lst (xs.take i.toNat ++ [y] ++ xs.drop i.toNat)))
/-- p.insert(k, e), k not below 0 -/
theorem m_insertP (h : MP X ρ a (.lst os) ρ' R) (hb : ME X ρ' b (.fz (.int n))) (he : ME X ρ' e (.fz d)) (hl : os.length < sizeLine) (hn : 0 ≤ n ∧ n < 2 ^ 63) (k : G.nx (R (.lst (os.take n.toNat ++ [.fz d] ++ os.drop n.toNat))))
    (q : ∀ t, PE X (.Call (.Attribute a "insert" p2) [b, e] [] p3) t → PS X (.Expr (.Call (.Attribute a "insert" p2) [b, e] [] p3) p4) (tDrop t) := by exact fun _ h => ps_expr h)
    (pm : PE X (.Call (.Attribute a "insert" p2) [b, e] [] p3) (tBM X.K "list" rInsert (wE X a) (tCons (wE X b) (tCons (wE X e) tNil))) := by exact pe_bm PySem.F.plainAttrs_list PySem.F.slot_list_insert PySem.F.type_list_insert mt_insert pe_w (pa_cons pe_w (pa_cons pe_w pa_nil))) : MS1 X ρ (.Expr (.Call (.Attribute a "insert" p2) [b, e] [] p3) p4) G := .mk fun Z0 F Z σ H D s g => by
  obtain ⟨T, s⟩ := s.a
  refine PS_w (q _ pm) (h.run Z0 F Z σ H T s _ fun v Z1 H1 T1 s1 f => ?_)
  have f0 := f
  obtain ⟨A, f⟩ := f
  obtain ⟨l, _, vs, A1, _, rfl, rfl, h0, rl⟩ := hm_lst.mp f.rp
  refine ⟨.inl ⟨rfl, _, SqL.of h0⟩, hb.run Z0 F Z1 σ H1 s1.r _ fun w Z2 H2 B g1 r2 n2 => he.run Z0 F Z2 σ H2 (s1.grow g1).r _ fun y Z3 H3 B3 g2 r3 n3 => ?_⟩
  cases r2 with
  | fz r2 =>
    cases r2
    cases r3 with
    | fz r3 =>
      have g12 := g1.trans g2
      obtain ⟨A', f'⟩ := f0.grow g12
      obtain ⟨l', _, vs', A1', _, el, rfl, h0', rl'⟩ := hm_lst.mp f'.rp
      cases el
      exact ⟨l, vs', n, y, rfl, rfl, h0', by rw [rl'.length]; exact hl, hn.1, hn.2, g.nx _ Z3 σ _ k (f'.chgL rfl g12.zh (rl'.ins1 r3 _))⟩
theorem RepOL.setZ {K : PySem.W.Frag} {Z F H : Hp} {w : V} {d : D} (h : Rep K Z w d) : ∀ {vs : List V} {os : List O} {A : List Addr} (j : Nat), RepOL K Z F H vs os A → ∃ A', RepOL K Z F H (vs.set j w) (os.set j (.fz d)) A' ∧ (A.Nodup → A'.Nodup) ∧ ∀ a ∈ A', a ∈ A
  | _, _, _, _, .nil => ⟨[], .nil, id, fun _ m => m⟩
  | _, _, _, 0, .cons (A := A1) (B := A2) g r => ⟨[] ++ A2, .cons (.fz h) r, fun n => (List.nodup_append.mp n).2.1, fun a m => List.mem_append_right _ m⟩
  | _, _, _, j + 1, .cons (A := A1) (B := A2) g r => by
    obtain ⟨A', q1, q2, q3⟩ := RepOL.setZ h j r
    refine ⟨A1 ++ A', .cons g q1, fun n => ?_, fun a m => (List.mem_append.mp m).elim (List.mem_append_left _) fun z => List.mem_append_right _ (q3 a z)⟩
    obtain ⟨n1, n2, n3⟩ := List.nodup_append.mp n
    exact List.nodup_append.mpr ⟨n1, q2 n2, fun x hx y hy => n3 x hx y (q3 y hy)⟩
/-- p[k] = e -/
theorem m_setItemP (h : MQ X ρ a (.lst os) R) (hb : ME X ρ b (.fz (.int k))) (hc : ME X ρ c (.fz d)) (hj : ixN os.length k = some j) (kk : G.nx (R (.lst (os.set j (.fz d)))))
    (pm : PS X (.Assign [.Subscript a b p2] c p3) (tAsg (wE X c) (gSub (wE X a) (wE X b) rSetL)) := by exact ps_asg pe_w (pg_sub pe_w pe_w set_list)) : MS1 X ρ (.Assign [.Subscript a b p2] c p3) G := .mk fun Z0 F Z σ H D s g => by
  obtain ⟨T, s⟩ := s.a
  refine PS_w pm (hc.run Z0 F Z σ H s.r _ fun w Z1 H1 B g1 r2 n2 => h.run Z0 F Z1 σ H1 T (s.grow g1) _ fun v Z2 H2 g2 f => hb.run Z0 F Z2 σ H2 ((s.grow g1).grow g2).r _ fun y Z3 H3 B3 g3 r3 n3 => ?_)
  cases r3 with
  | fz r3 =>
    cases r3
    cases r2 with
    | fz r2 =>
      obtain ⟨A, f⟩ := f.grow g3
      obtain ⟨l, _, vs, A1, _, rfl, rfl, h0, rl⟩ := hm_lst.mp f.rp
      refine ⟨l, vs, k, j, rfl, rfl, h0, by rw [rl.length]; exact hj, g.nx _ Z3 σ _ kk ?_⟩
      obtain ⟨A', q1, q2, q3⟩ := rl.setZ (r2.mono (g2.zz.trans g3.zz)) j
      obtain ⟨na, nA⟩ := List.nodup_cons.mp f.nd
      refine f.mut g3.zh List.mem_cons_self (.lst upd_same (q1.mono (Ex.refl _) (Ex.refl _) fun b m u hu => ?_)) (List.nodup_cons.mpr ⟨fun m => na (q3 _ m), q2 nA⟩) fun b m => .inl ?_
      · rw [upd_ne fun q => na (by rw [← q]; exact q3 b m)]
        exact hu
      · rcases List.mem_cons.mp m with z | z
        · rw [z]; exact List.mem_cons_self
        · exact List.mem_cons_of_mem _ (q3 b z)
/-- p.f = e, an attribute that is there or not -/
theorem m_setFldP {all : List Str} (h : MQ X ρ a (.ins C ns os) R) (hl : os.length = ns.length) (h1000 : ns.length < 1000) (cc : OC X.K C all) (hm : nm ∈ all) (he : ME X ρ e o)
    (kk : G.nx (R (.ins C (nsPut ns nm) (xsPut ns nm os o))))
    (hs : swapsWith e (some (.Attribute a nm p2)) p3.line X.env = pure false := by rfl) : MS1 X ρ (.Assign [.Attribute a nm p2] e p3) G := .mk fun Z0 F Z σ H D s g => by
  obtain ⟨T, s⟩ := s.a
  refine PS_w (ps_fld pe_w pe_w hs) (he.run Z0 F Z σ H s.r _ fun w Z1 H1 B g1 r2 n2 => h.run Z0 F Z1 σ H1 T (s.grow g1) _ fun v Z2 H2 g2 f => ?_)
  obtain ⟨A, f⟩ := f
  obtain ⟨l, dx, vs, A1, _, rfl, rfl, h0, rl⟩ := hm_ins.mp f.rp
  have hlv : vs.length = ns.length := by rw [rl.length]; exact hl
  refine ⟨l, C, dx, _, rfl, h0, cc.cl, cc.na _ hm, by rw [List.length_zip, hlv]; omega, ?_⟩
  rw [put_zip hlv]
  obtain ⟨na, nA⟩ := List.nodup_cons.mp f.nd
  have nT : ∀ b ∈ B, b ∉ T := fun b m mt => by
    obtain ⟨u, hu⟩ := s.st.there b mt
    rw [(n2.2 b m).1] at hu
    cases hu
  have nB : ∀ b ∈ B, b ∉ l :: A1 := fun b m mb => nT b m (f.ds b mb).1
  have r1' := rl.mono (H' := upd H2 l (.ins C dx ((nsPut ns nm).zip (xsPut ns nm vs w)))) (Ex.refl _) (Ex.refl _) fun b m u hu => by
    rw [upd_ne fun q => na (by rw [← q]; exact m)]
    exact hu
  have r2' := (r2.ex g2.zz g2.hh).frame (H' := upd H2 l (.ins C dx ((nsPut ns nm).zip (xsPut ns nm vs w)))) fun b m => upd_ne fun q => nB b m (by rw [q]; exact List.mem_cons_self)
  obtain ⟨A', q1, q2, q3⟩ := RepOL.put r2' n2.1 hlv r1' nA fun b m mb => nB b mb (List.mem_cons_of_mem _ m)
  refine g.nx _ Z2 σ _ kk (f.mut g2.zh List.mem_cons_self (.ins upd_same q1) (List.nodup_cons.mpr ⟨fun m => ?_, q2⟩) fun b m => ?_)
  · rcases q3 _ m with z | z
    · exact na z
    · exact nB _ z List.mem_cons_self
  · rcases List.mem_cons.mp m with z | z
    · exact .inl (by rw [z]; exact List.mem_cons_self)
    · rcases q3 _ z with z | z
      · exact .inl (List.mem_cons_of_mem _ z)
      · refine .inr ⟨nT b z, ?_, s.gr.hh.free (n2.2 b z).1⟩
        obtain ⟨u, hu⟩ := r2.there b z
        exact (g2.nw b u hu).trans (n2.2 b z).2
end
end M
namespace M
open PySem L2 PySem.Spec PyProof.Rows
/-! ### defs that change one of their arguments -/
def SpJ {α : Type} (K : PySem.W.Frag) (ar1 ar2 : α → List O) (pre : α → Prop) (s0 s1 : α → O) (res : α → O) : Sp := fun vs H Q _ => ∃ (x : α) (Z F : Hp) (l : Addr) (us1 us2 : List V) (A : List Addr), vs = us1 ++ .ref l :: us2 ∧ Ex Z F ∧ Ex F H ∧ A.Nodup ∧ (∀ a ∈ A, F a = none) ∧ RepO K Z F H (.ref l) (s0 x) A ∧ RepOL K Z F F us1 (ar1 x) [] ∧ RepOL K Z F F us2 (ar2 x) [] ∧ pre x ∧
  ∀ v Z' H' B, Gr Z F Z' H' → RepOL K Z' (fun _ => none) H' [.ref l, v] [s1 x, res x] B → B.Nodup → (∀ a ∈ B, F a = none ∧ Z' a = none) → Q v H'
theorem StL.glueR {K : PySem.W.Frag} {Z F H : Hp} {τ : Slots} {υ : L2.St} {B : List Addr} (s : StL K Z F H τ υ B) : ∀ {ρ : Slots} {σ : L2.St} {A : List Addr}, StL K Z F H ρ σ A → StL K Z F H (ρ ++ τ) (σ ++ υ) (A ++ B)
  | _, _, _, .nil => s
  | _, _, _, .no h => .no (StL.glueR s h)
  | _, _, _, .so r h => by
    rw [List.append_assoc]
    exact .so r (StL.glueR s h)
theorem StL.glue {K : PySem.W.Frag} {Z F H : Hp} {ρ τ : Slots} {σ υ : L2.St} {A B : List Addr} (h : StL K Z F H ρ σ A) (s : StL K Z F H τ υ B) : StL K Z F H (ρ ++ τ) (σ ++ υ) (A ++ B) := StL.glueR s h
theorem fn_mJ {α : Type} {P : Program} {w : World} {K : PySem.W.Frag} {mg : Str → Option Value} {base : Heap} {x qual : Str} {st : Stmt} {f : Addr} {fd : FuncData} {N ps : List Str} {n k : Nat} {ar1 ar2 : α → List O} {pre : α → Prop} {s0 s1 : α → O} {res : α → O}
    (F : Fun K x qual st f fd) (S : FnScope N ps (defScope st)) (hl1 : ∀ x, (ar1 x).length = n) (hl : ∀ x, (ar1 x).length + (ar2 x).length + 1 = ps.length) (hn1 : ∀ x, pre x → (s1 x).nv = true) (hn2 : ∀ x, pre x → (res x).nv = true)
    (hb : ∀ (cdv : Value) (A : Around) (outer : List Env) (s : Shared) (H : Hp) (E : XK), Room k (A.deeper (envOfC qual (defScope st) s.heap.objs.size f cdv)) → ∀ (l : Addr) x, pre x →
      MS (cxOf CX0 P w K mg base N qual (defScope st) f cdv A outer s H E).nox ((ar1 x).map some ++ some (.loc l (s0 x)) :: (ar2 x).map some ++ List.replicate (N.length - ps.length) none) (defBody st) { nx := fun ρ => res x = .fz .non ∧ ρ[n]? = some (some (.loc l (s1 x))), rs := fun o ρ => o = res x ∧ ρ[n]? = some (some (.loc l (s1 x))) }) :
    FnOk P w K mg base CX0 (k + 1) f fd ps (SpJ K ar1 ar2 pre s0 s1 res) := by
  refine F.ok S (fun vs H Q E h => ?_) (fun cdv A outer s H vs Q E hr h => ?_)
  · obtain ⟨x, Z, F, l, us1, us2, A, rfl, _, _, _, _, _, r1, r2, _⟩ := h
    rw [List.length_append, List.length_cons, r1.length, r2.length, ← hl x]
    omega
  · obtain ⟨x, Z, F0, l, us1, us2, A0, rfl, ez, ef, nA, fA, rs, r1, r2, hp, q⟩ := h
    have e1 : us1.length = n := by rw [r1.length, hl1]
    have ln : us1.length + us2.length + 1 = ps.length := by rw [r1.length, r2.length, hl]
    have sa : StL K Z F0 H (some (.loc l (s0 x)) :: (ar2 x).map some) (some (.ref l) :: us2.map some) (A0 ++ []) := .so (.loc rs) (stL_args (r2.mono (Ex.refl _) (Ex.refl _) fun _ m => nomatch m))
    have st0 := StL.glue (stL_args (r1.mono (H' := H) (Ex.refl _) (Ex.refl _) fun _ m => nomatch m)) sa
    refine ⟨_, pss_w, (hb cdv A outer s H E hr l x hp).run Z F0 Z _ H _ ⟨⟨Ex.refl _, ef, ez.trans ef, fun _ _ _ => rfl⟩, [] ++ (A0 ++ []), ?_, by rw [List.append_nil]; exact nA, fun a m => ?_⟩ ⟨fun ρ Z' σ H' e s' => ?_, fun _ _ _ _ z => z.elim, fun _ _ _ _ z => z.elim, fun _ _ _ _ _ z => z.elim, fun o ρ v Z' σ H' e s' => ?_, GX.never fun _ z => z⟩⟩
    · have e : L2.start N (us1 ++ .ref l :: us2) = (us1.map some ++ (some (.ref l) :: us2.map some)) ++ List.replicate (N.length - ps.length) none := by
        unfold L2.start
        rw [List.length_append, List.length_cons, ← ln, List.map_append]
        rfl
      rw [e]
      exact stL_more _ st0
    · rw [List.append_nil] at m
      exact ⟨ez.free (fA a m), fA a m⟩
    · obtain ⟨en, e⟩ := e
      obtain ⟨A1, t1, t2, t3⟩ := s'.st
      obtain ⟨v, B, u1, u2, u3, u4, _⟩ := t1.at e t2
      have hn := hn1 x hp
      cases u2 with
      | loc u2 =>
        refine q .non Z' H' (B ++ ([] ++ [])) s'.gr (.cons (u2.unF hn) (.cons (A := []) ?_ .nil)) (by simpa using u3) fun a m => ?_
        · rw [en]
          exact .fz .non
        · have m : a ∈ B := by simpa using m
          exact ⟨(t3 a (u4 a m)).2, (t3 a (u4 a m)).1⟩
    · obtain ⟨en, e⟩ := e
      subst en
      obtain ⟨A1, t1, t2, t3⟩ := s'.st
      obtain ⟨B, Cc, w1, w2, w3, w4⟩ := t1.last t2
      obtain ⟨n1, n2, n3⟩ := List.nodup_append.mp w3
      obtain ⟨v0, B0, u1, u2, u3, u4, _⟩ := w1.at e n1
      have hn := hn1 x hp
      cases u2 with
      | loc u2 =>
        refine q v Z' H' (B0 ++ (Cc ++ [])) s'.gr (.cons (u2.unF hn) (.cons (w2.unF (hn2 x hp)) .nil)) ?_ fun a m => ?_
        · rw [List.append_nil]
          exact List.nodup_append.mpr ⟨u3, n2, fun a ha b hb => n3 a (u4 a ha) b hb⟩
        · rw [List.append_nil] at m
          have m2 : a ∈ B ++ Cc := by
            rcases List.mem_append.mp m with z | z
            · exact List.mem_append_left _ (u4 a z)
            · exact List.mem_append_right _ z
          exact ⟨(t3 a (w4 a m2)).2, (t3 a (w4 a m2)).1⟩
theorem fn_mJD {α : Type} {P : Program} {w : World} {K : PySem.W.Frag} {mg : Str → Option Value} {base : Heap} {x qual : Str} {pr : Arguments} {bo : List Stmt} {sc : Scope} {dvs : List V} {kws : List (Str × V)} {f : Addr} {fd : FuncData} {N ps : List Str} {n k : Nat} {ar1 ar2 : α → List O} {pre : α → Prop} {s0 s1 : α → O} {res : α → O}
    (F : FunD K x qual pr bo sc dvs kws f fd) (S : FnScope N ps sc) (hl1 : ∀ x, (ar1 x).length = n) (hl : ∀ x, (ar1 x).length + (ar2 x).length + 1 = ps.length) (hn1 : ∀ x, pre x → (s1 x).nv = true) (hn2 : ∀ x, pre x → (res x).nv = true)
    (hb : ∀ (cdv : Value) (A : Around) (outer : List Env) (s : Shared) (H : Hp) (E : XK), Room k (A.deeper (envOfC qual sc s.heap.objs.size f cdv)) → ∀ (l : Addr) x, pre x →
      MS (cxOf CX0 P w K mg base N qual sc f cdv A outer s H E).nox ((ar1 x).map some ++ some (.loc l (s0 x)) :: (ar2 x).map some ++ List.replicate (N.length - ps.length) none) bo { nx := fun ρ => res x = .fz .non ∧ ρ[n]? = some (some (.loc l (s1 x))), rs := fun o ρ => o = res x ∧ ρ[n]? = some (some (.loc l (s1 x))) }) :
    FnOk P w K mg base CX0 (k + 1) f fd ps (SpJ K ar1 ar2 pre s0 s1 res) := by
  refine F.ok S (fun vs H Q E h => ?_) (fun cdv A outer s H vs Q E hr h => ?_)
  · obtain ⟨x, Z, F, l, us1, us2, A, rfl, _, _, _, _, _, r1, r2, _⟩ := h
    rw [List.length_append, List.length_cons, r1.length, r2.length, ← hl x]
    omega
  · obtain ⟨x, Z, F0, l, us1, us2, A0, rfl, ez, ef, nA, fA, rs, r1, r2, hp, q⟩ := h
    have e1 : us1.length = n := by rw [r1.length, hl1]
    have ln : us1.length + us2.length + 1 = ps.length := by rw [r1.length, r2.length, hl]
    have sa : StL K Z F0 H (some (.loc l (s0 x)) :: (ar2 x).map some) (some (.ref l) :: us2.map some) (A0 ++ []) := .so (.loc rs) (stL_args (r2.mono (Ex.refl _) (Ex.refl _) fun _ m => nomatch m))
    have st0 := StL.glue (stL_args (r1.mono (H' := H) (Ex.refl _) (Ex.refl _) fun _ m => nomatch m)) sa
    refine ⟨_, PSs.nox pss_w, (hb cdv A outer s H E hr l x hp).run Z F0 Z _ H _ ⟨⟨Ex.refl _, ef, ez.trans ef, fun _ _ _ => rfl⟩, [] ++ (A0 ++ []), ?_, by rw [List.append_nil]; exact nA, fun a m => ?_⟩ ⟨fun ρ Z' σ H' e s' => ?_, fun _ _ _ _ z => z.elim, fun _ _ _ _ z => z.elim, fun _ _ _ _ _ z => z.elim, fun o ρ v Z' σ H' e s' => ?_, GX.never fun _ z => z⟩⟩
    · have e : L2.start N (us1 ++ .ref l :: us2) = (us1.map some ++ (some (.ref l) :: us2.map some)) ++ List.replicate (N.length - ps.length) none := by
        unfold L2.start
        rw [List.length_append, List.length_cons, ← ln, List.map_append]
        rfl
      rw [e]
      exact stL_more _ st0
    · rw [List.append_nil] at m
      exact ⟨ez.free (fA a m), fA a m⟩
    · obtain ⟨en, e⟩ := e
      obtain ⟨A1, t1, t2, t3⟩ := s'.st
      obtain ⟨v, B, u1, u2, u3, u4, _⟩ := t1.at e t2
      have hn := hn1 x hp
      cases u2 with
      | loc u2 =>
        refine q .non Z' H' (B ++ ([] ++ [])) s'.gr (.cons (u2.unF hn) (.cons (A := []) ?_ .nil)) (by simpa using u3) fun a m => ?_
        · rw [en]
          exact .fz .non
        · have m : a ∈ B := by simpa using m
          exact ⟨(t3 a (u4 a m)).2, (t3 a (u4 a m)).1⟩
    · obtain ⟨en, e⟩ := e
      subst en
      obtain ⟨A1, t1, t2, t3⟩ := s'.st
      obtain ⟨B, Cc, w1, w2, w3, w4⟩ := t1.last t2
      obtain ⟨n1, n2, n3⟩ := List.nodup_append.mp w3
      obtain ⟨v0, B0, u1, u2, u3, u4, _⟩ := w1.at e n1
      have hn := hn1 x hp
      cases u2 with
      | loc u2 =>
        refine q v Z' H' (B0 ++ (Cc ++ [])) s'.gr (.cons (u2.unF hn) (.cons (w2.unF (hn2 x hp)) .nil)) ?_ fun a m => ?_
        · rw [List.append_nil]
          exact List.nodup_append.mpr ⟨u3, n2, fun a ha b hb => n3 a (u4 a ha) b hb⟩
        · rw [List.append_nil] at m
          have m2 : a ∈ B ++ Cc := by
            rcases List.mem_append.mp m with z | z
            · exact List.mem_append_left _ (u4 a z)
            · exact List.mem_append_right _ z
          exact ⟨(t3 a (w4 a m2)).2, (t3 a (w4 a m2)).1⟩
section
variable {X : Cx} {ρ ρ' : Slots} {R : O → Slots} {e a b c elt : Expr} {es rest : List Expr} {st : Stmt} {sts : List Stmt} {G : Go} {o o1 o2 : O} {d : D} {ds ds1 ds2 : List D} {os : List O} {pos p0 p1 p2 p3 p4 p5 p6 : Pos} {i j : Nat} {nm : Str} {C : Addr} {ns : List Str}
/-- arguments, one of them a place -/
structure MJ (X : Cx) (ρ : Slots) (es : List Expr) (ds1 ds2 : List D) (o : O) (R : O → Slots) : Prop where
  run : ∀ (Z0 F Z : Hp) (σ : L2.St) (H : Hp) (T : List Addr), StA X.K ρ Z0 F Z σ H T → ∀ Q : List V → Hp → Prop,
    (∀ us1 v us2 Z' H', Gr Z H Z' H' → RepL X.K Z' us1 ds1 → Foc X.K Z0 F Z' σ H' T v o R → RepL X.K Z' us2 ds2 → Q (us1 ++ v :: us2) H') → wA X es σ H Q
theorem mj_here (h : MQ X ρ a o R) (h2 : MF X ρ es ds2) (hs : starEach (a :: es) X.env = (false, eval a X.env) :: starEach es X.env := by rfl) : MJ X ρ (a :: es) [] ds2 o R := .mk fun Z0 F Z σ H T s Q q =>
  PA_w (pa_cons pe_w pa_w hs) (h.run Z0 F Z σ H T s _ fun v Z1 H1 g1 f => h2.run Z0 F Z1 σ H1 (s.grow g1).r _ fun us Z2 H2 g2 r2 => q [] v us Z2 H2 (g1.trans g2) .nil (f.grow g2) r2)
theorem mj_cons (h : ME X ρ a (.fz d)) (h2 : MJ X ρ es ds1 ds2 o R) (hs : starEach (a :: es) X.env = (false, eval a X.env) :: starEach es X.env := by rfl) : MJ X ρ (a :: es) (d :: ds1) ds2 o R := .mk fun Z0 F Z σ H T s Q q =>
  PA_w (pa_cons pe_w pa_w hs) (h.run Z0 F Z σ H s.r _ fun w Z1 H1 A1 g1 r1 n1 => by
    cases r1 with
    | fz r1 => exact h2.run Z0 F Z1 σ H1 T (s.grow g1) _ fun us1 v us2 Z2 H2 g2 r2 f r3 => q (w :: us1) v us2 Z2 H2 (g1.trans g2) (.cons (r1.mono g2.zz) r2) f r3)
/-- things that lie in the heap -/
def O.isRef : O → Bool
  | .lst _ => true
  | .ins _ _ _ => true
  | .dct _ _ => true
  | .dctT _ _ => true
  | .loc _ _ => true
  | _ => false
theorem RepO.isRef {K : PySem.W.Frag} {Z F H : Hp} {v : V} {A : List Addr} (r : RepO K Z F H v o A) (h : o.isRef = true) : ∃ l, v = .ref l := by
  cases r with
  | fz _ => cases h
  | lst _ _ => exact ⟨_, rfl⟩
  | ins _ _ => exact ⟨_, rfl⟩
  | dct _ _ => exact ⟨_, rfl⟩
  | dctT _ _ => exact ⟨_, rfl⟩
  | loc _ => exact ⟨_, rfl⟩
  | vw _ _ => cases h
  | vwa _ _ => cases h
  | tup _ _ => cases h
  | «at» _ _ => cases h
  | pt => cases h
/-- what a promise of that kind gives at a place -/
theorem spJ_at {α : Type} {K : PySem.W.Frag} {ar1 ar2 : α → List O} {pre : α → Prop} {s0 s1 : α → O} {res : α → O} {Z0 F Z H : Hp} {σ : L2.St} {T : List Addr} {E : XK} {Q : VK} {us1 us2 : List V} {v : V} (x : α) (zh : Ex Z H) (f : Foc K Z0 F Z σ H T v (s0 x) R) (hr : (s0 x).isRef = true)
    (r1 : RepL K Z us1 ds1) (r2 : RepL K Z us2 ds2) (h1 : ar1 x = ds1.map .fz) (h2 : ar2 x = ds2.map .fz) (hp : pre x) (q : ∀ w Z2 H2, StR K (R (s1 x) ++ [some (res x)]) Z0 F Z2 (σ ++ [some w]) H2 → Q w H2) : SpJ K ar1 ar2 pre s0 s1 res ((us1 ++ v :: us2) ++ []) H Q E := by
  obtain ⟨A, f⟩ := f
  obtain ⟨l, rfl⟩ := f.rp.isRef hr
  refine ⟨x, Z, wo H A, l, us1, us2, A, by rw [List.append_nil], ex_to_wo zh fun a m => (f.ds a m).2.1, ex_wo, f.nd, fun a m => wo_in m, f.rp.mono (Ex.refl _) (ex_to_wo f.fh fun a m => (f.ds a m).2.2) fun a _ u e => e, by rw [h1]; exact r1.own, by rw [h2]; exact r2.own, hp, fun w Z2 H2 B g2 rb nB dB => ?_⟩
  have there : ∀ a, Kept F T A a → ∃ u, H a = some u := fun a ka => ka.2.elim (f.th a) fun ⟨u, e⟩ => ⟨u, f.fh a u e⟩
  refine q w Z2 H2 (f.k g2.zz (fun a ka => ?_) g2.zh (fun a ka u e => g2.hh a u (by rw [wo_out ka.1]; exact e)) (rb.mono (Ex.refl _) (fun _ _ z => by cases z) fun _ _ _ z => z) nB fun a m => ⟨?_, (dB a m).2⟩)
  · obtain ⟨u, e⟩ := there a ka
    exact g2.nw a u (by rw [wo_out ka.1]; exact e)
  · rcases wo_none (dB a m).1 with z | z
    · exact .inl z
    · refine .inr ⟨fun mt => ?_, f.fh.free z⟩
      obtain ⟨u, e⟩ := f.th a mt
      rw [z] at e
      cases e
/-- f(.., p, ..), the def changing what is at p -/
theorem mx_fnJ {α : Type} {ar1 ar2 : α → List O} {pre : α → Prop} {s0 s1 : α → O} {res : α → O} {k : Nat} {ps : List Str} (c : Fn1 X.prog X.w X.K X.mg X.base nm k ps (SpJ X.K ar1 ar2 pre s0 s1 res)) (x : α) (ha : MJ X ρ (e :: es) ds1 ds2 (s0 x) R) (h1 : ar1 x = ds1.map .fz) (h2 : ar2 x = ds2.map .fz) (hp : pre x) (hr : Room k X.A) (href : (s0 x).isRef = true := by rfl) (hg : Gl X nm := by rfl)
    (hdb : (nm == ("__debug__" : Str)) = false := by decide) (he : starEach (e :: es) X.env = (false, eval e X.env) :: starEach es X.env := by rfl) (hpl : (backTo pos (starEach es X.env)).any (·.1) = false := by rfl) {o' : O} {τ : Slots} (hres : res x = o' := by first | (dsimp only; done) | (dsimp only; rfl) | rfl) (hr1 : R (s1 x) = τ := by rfl) : MX X ρ (.Call (.Name nm p0) (e :: es) [] pos) o' τ := by
  subst hres hr1
  obtain ⟨f, fd, hm, hk, hb, F⟩ := c.ex
  refine .mk fun Z0 F0 Z σ H s Q q => ?_
  obtain ⟨T, s⟩ := s.a
  exact PE_w (pe_call F hr hg hm hk hb .nil pass0 pa_w hdb he hpl) (ha.run Z0 F0 Z σ H T s _ fun us1 v us2 Z1 H1 g1 r1 f r2 => spJ_at x g1.zh f href r1 r2 h1 h2 hp q)
/-- p.m(e, ..), the method changing what is at p -/
theorem mx_mtJ {α : Type} {ar1 ar2 : α → List O} {pre : α → Prop} {s0 s1 : α → O} {res : α → O} {k : Nat} {ps all : List Str} {pl : Sem Bool} (c : Mt1 X.prog X.w X.K X.mg X.base C nm k ps (SpJ X.K ar1 ar2 pre s0 s1 res)) (cc : OC X.K C all) (x : α) (ho : MQ X ρ a (.ins C ns os) R) (hs0 : s0 x = .ins C ns os) (ha : MF X ρ (e :: es) ds) (h1 : ar1 x = []) (h2 : ar2 x = ds.map .fz) (hp : pre x) (hr : Room k X.A)
    (hnm : nmAt ns nm = none := by decide +kernel) (he : starEach (e :: es) X.env = (false, eval e X.env) :: starEach es X.env := by rfl) (hpl : (backTo pos (starEach es X.env)).any (·.1) = false := by rfl)
    (ht : eval (.Call (.Attribute a nm p1) (e :: es) [] pos) X.env = (do
      let ov ← eval a X.env
      standAt p1.atName
      let (f, first) ← holding [ov] (getMethod ov nm pl)
      callWith pos f first (backTo pos (starEach (e :: es) X.env)) (backToKw pos (keywordEach [] X.env))) := by rfl) {o' : O} {τ : Slots} (hres : res x = o' := by first | (dsimp only; done) | (dsimp only; rfl) | rfl) (hr1 : R (s1 x) = τ := by rfl) : MX X ρ (.Call (.Attribute a nm p1) (e :: es) [] pos) o' τ := by
  subst hres hr1
  obtain ⟨f, fd, hm, hb, F⟩ := c.ex
  refine .mk fun Z0 F0 Z σ H s Q q => ?_
  obtain ⟨T, s⟩ := s.a
  refine PE_w (pe_meth (pl := pl) pe_w cc.cl hm F hr hb .nil pass0 pa_w he hpl ht) (ho.run Z0 F0 Z σ H T s _ fun v Z1 H1 g1 f => ?_)
  have f0 := f
  obtain ⟨A, f⟩ := f
  obtain ⟨l, dx, vs, A1, _, rfl, rfl, h0, rl⟩ := hm_ins.mp f.rp
  refine ⟨l, dx, _, rfl, h0, look_none hnm, ha.run Z0 F0 Z1 σ H1 (s.grow g1).r _ fun us Z2 H2 g2 r2 => ?_⟩
  exact spJ_at (us1 := []) (ds1 := []) x g2.zh (by rw [hs0]; exact f0.grow g2) (by rw [hs0]; rfl) .nil r2 h1 h2 hp q
/-- p.m() -/
theorem mx_mtJ0 {α : Type} {ar1 ar2 : α → List O} {pre : α → Prop} {s0 s1 : α → O} {res : α → O} {k : Nat} {ps all : List Str} {pl : Sem Bool} (c : Mt1 X.prog X.w X.K X.mg X.base C nm k ps (SpJ X.K ar1 ar2 pre s0 s1 res)) (cc : OC X.K C all) (x : α) (ho : MQ X ρ a (.ins C ns os) R) (hs0 : s0 x = .ins C ns os) (h1 : ar1 x = []) (h2 : ar2 x = []) (hp : pre x) (hr : Room k X.A)
    (hnm : nmAt ns nm = none := by decide +kernel)
    (ht : eval (.Call (.Attribute a nm p1) [] [] pos) X.env = (do
      let ov ← eval a X.env
      standAt p1.atName
      let (f, first) ← holding [ov] (getMethod ov nm pl)
      callWith pos f first (backTo pos (starEach [] X.env)) (backToKw pos (keywordEach [] X.env))) := by rfl) {o' : O} {τ : Slots} (hres : res x = o' := by first | (dsimp only; done) | (dsimp only; rfl) | rfl) (hr1 : R (s1 x) = τ := by rfl) : MX X ρ (.Call (.Attribute a nm p1) [] [] pos) o' τ := by
  subst hres hr1
  obtain ⟨f, fd, hm, hb, F⟩ := c.ex
  refine .mk fun Z0 F0 Z σ H s Q q => ?_
  obtain ⟨T, s⟩ := s.a
  refine PE_w (pe_meth0 (pl := pl) pe_w cc.cl hm F hr hb .nil pass0 ht) (ho.run Z0 F0 Z σ H T s _ fun v Z1 H1 g1 f => ?_)
  have f0 := f
  obtain ⟨A, f⟩ := f
  obtain ⟨l, dx, vs, A1, _, rfl, rfl, h0, rl⟩ := hm_ins.mp f.rp
  refine ⟨l, dx, _, rfl, h0, look_none hnm, ?_⟩
  exact spJ_at (E := E0) (us1 := []) (us2 := []) (ds1 := []) (ds2 := []) x g1.zh (by rw [hs0]; exact f0) (by rw [hs0]; rfl) .nil .nil h1 h2 hp q
end
end M
namespace M
open PySem L2 PySem.Spec PyProof.Rows
/-! ### while -/
section
variable {V W R : Type}
def wlN (c : V → Option Bool) (b : V → Option (Ou V V R)) : Nat → V → Option (Ou V V R)
  | 0, _ => none
  | n + 1, v => bd (c v) fun k => cond k (bd (b v) fun o => match o with
    | .nx v' => wlN c b n v'
    | .ct v' => wlN c b n v'
    | .bk v' => some (.nx v')
    | .rt r => some (.rt r)) (some (.nx v))
open Classical in
noncomputable def wl (c : V → Option Bool) (b : V → Option (Ou V V R)) (v : V) : Option (Ou V V R) := if h : ∃ n o, wlN c b n v = some o then some h.choose_spec.choose else none
theorem wl_some {c : V → Option Bool} {b : V → Option (Ou V V R)} {v : V} {o : Ou V V R} (h : wl c b v = some o) : ∃ n, wlN c b n v = some o := by
  unfold wl at h
  split at h
  · rename_i q
    have e := q.choose_spec.choose_spec
    rw [Option.some.inj h] at e
    exact ⟨_, e⟩
  · cases h
theorem wlN_more {c : V → Option Bool} {b : V → Option (Ou V V R)} : ∀ {n m : Nat} {v : V} {o : Ou V V R}, wlN c b n v = some o → n ≤ m → wlN c b m v = some o
  | 0, _, _, _, h, _ => by cases h
  | n + 1, 0, _, _, _, l => by omega
  | n + 1, m + 1, v, o, h, l => by
    obtain ⟨k, e1, h⟩ := bd_some h
    show bd (c v) _ = _
    rw [bd_of e1]
    cases k with
    | false => exact h
    | true =>
      obtain ⟨o1, e2, h⟩ := bd_some (show bd (b v) _ = some o from h)
      show bd (b v) _ = _
      rw [bd_of e2]
      cases o1 with
      | nx v' => exact wlN_more h (by omega)
      | ct v' => exact wlN_more h (by omega)
      | bk v' => exact h
      | rt r => exact h
theorem wl_of {c : V → Option Bool} {b : V → Option (Ou V V R)} {n : Nat} {v : V} {o : Ou V V R} (h : wlN c b n v = some o) : wl c b v = some o := by
  have ex : ∃ n o, wlN c b n v = some o := ⟨n, o, h⟩
  unfold wl
  rw [dif_pos ex]
  have e := ex.choose_spec.choose_spec
  have e1 := wlN_more e (Nat.le_max_left _ n)
  have e2 := wlN_more h (Nat.le_max_right ex.choose n)
  rw [e1] at e2
  exact e2
/-- a loop that ends: an invariant with a measure -/
theorem ok_wl {c : V → Option Bool} {b : V → Option (Ou V V R)} {Q : Ou V V R → Prop} (I : Nat → V → Prop) {m : Nat} {v : V} (h0 : I m v)
    (h : ∀ m v, I m v → Ok (c v) fun k => if k = true then Ok (b v) fun o => match o with
      | .nx v' => ∃ m', m' < m ∧ I m' v'
      | .ct v' => ∃ m', m' < m ∧ I m' v'
      | .bk v' => Q (.nx v')
      | .rt r => Q (.rt r) else Q (.nx v)) : Ok (wl c b v) Q := by
  suffices H : ∀ m v, I m v → ∃ o, wlN c b (m + 1) v = some o ∧ Q o by
    obtain ⟨o, e, q⟩ := H m v h0
    exact ⟨o, wl_of e, q⟩
  intro m
  induction m using Nat.strongRecOn with
  | _ m ih =>
    intro v hv
    obtain ⟨k, e1, q1⟩ := h m v hv
    have st : ∀ o, wlN c b (m + 1) v = some o ↔ bd (c v) (fun k => cond k (bd (b v) fun o => match o with
      | .nx v' => wlN c b m v'
      | .ct v' => wlN c b m v'
      | .bk v' => some (.nx v')
      | .rt r => some (.rt r)) (some (.nx v))) = some o := fun o => Iff.rfl
    cases k with
    | false =>
      rw [if_neg Bool.false_ne_true] at q1
      exact ⟨_, (st _).mpr (by rw [bd_of e1]; rfl), q1⟩
    | true =>
      rw [if_pos rfl] at q1
      obtain ⟨o, e2, q2⟩ := q1
      have go : ∀ v', (∃ m', m' < m ∧ I m' v') → ∃ o, wlN c b m v' = some o ∧ Q o := fun v' ⟨m', l, i⟩ => by
        obtain ⟨o, e, q⟩ := ih m' l v' i
        exact ⟨o, wlN_more e (by omega), q⟩
      have fin : ∀ o2, (match o with
        | .nx v' => wlN c b m v'
        | .ct v' => wlN c b m v'
        | .bk v' => some (.nx v')
        | .rt r => some (.rt r)) = some o2 → wlN c b (m + 1) v = some o2 := fun o2 e => (st _).mpr (by rw [bd_of e1]; show bd (b v) _ = _; rw [bd_of e2]; exact e)
      cases o with
      | nx v' => obtain ⟨o2, e3, q3⟩ := go v' q2; exact ⟨o2, fin _ e3, q3⟩
      | ct v' => obtain ⟨o2, e3, q3⟩ := go v' q2; exact ⟨o2, fin _ e3, q3⟩
      | bk v' => exact ⟨_, fin _ rfl, q2⟩
      | rt r => exact ⟨_, fin _ rfl, q2⟩
variable {X : Cx} {ρ ρ' : Slots} {e a c elt : Expr} {st : Stmt} {sts : List Stmt} {G : Go} {pos p0 : Pos}
theorem m_whileO {body : List Stmt} (p : PS X st (tWhile (wT X c) (wS X body))) {cm : V → Option Bool} {bm : V → Option (Ou V V R)} {v0 : V} {out : Ou V V R} (hx : wl cm bm v0 = some out) (Rn : V → Slots) (er : R → O) (h0 : Le ρ (Rn v0))
    (hc : ∀ v k, cm v = some k → MT X (Rn v) c k) (hs : ∀ v o, bm v = some o → MS X (Rn v) body (goO Rn Rn er o))
    (hd : ∀ v τ, out = .nx v → Le τ (Rn v) → G.nx τ) (hr : ∀ r, out = .rt r → G.rt (er r)) : MS1 X ρ st G := .mk fun Z0 F Z σ H D s g => by
  obtain ⟨n, hn⟩ := wl_some hx
  refine PS_w p ⟨fun m σ' H' => ∃ v Z', wlN cm bm m v = some out ∧ StR X.K (Rn v) Z0 F Z' σ' H', ⟨n, v0, Z, hn, s.le h0⟩, ?_⟩
  rintro m σ1 H1 ⟨v, Z1, hv, s1⟩
  cases m with
  | zero => cases hv
  | succ m =>
    obtain ⟨k, e1, hv⟩ := bd_some hv
    refine (hc v k e1).run Z0 F Z1 σ1 H1 s1 _ fun Z2 H2 g2 => ?_
    cases k with
    | false =>
      rw [if_neg Bool.false_ne_true]
      cases hv
      exact g.nx _ Z2 σ1 H2 (hd v _ rfl (Le.refl _)) (s1.grow g2)
    | true =>
      rw [if_pos rfl]
      obtain ⟨o, e2, hv⟩ := bd_some (show bd (bm v) _ = some out from hv)
      refine ⟨fun σ' H' => ∃ v' Z', wlN cm bm m v' = some out ∧ StR X.K (Rn v') Z0 F Z' σ' H', fun σ' H' q => ⟨m, Nat.lt_succ_self m, q⟩, ?_⟩
      refine (hs v o e2).run Z0 F Z2 σ1 H2 _ (s1.grow g2) ⟨fun τ Z3 σ3 H3 q s3 => ?_, fun τ Z3 σ3 H3 q s3 => ?_, fun τ Z3 σ3 H3 q s3 => ?_, fun o' w Z3 H3 A q g3 r n => ?_, fun _ _ _ _ _ _ z => z.elim, g.ex.imp fun o' q => by
        obtain ⟨r', rfl, rfl⟩ := q
        cases hv
        exact hr r' rfl⟩
      · obtain ⟨v', rfl, l⟩ := q
        exact ⟨v', Z3, hv, s3.le l⟩
      · obtain ⟨v', rfl, l⟩ := q
        cases hv
        exact g.nx _ Z3 σ3 H3 (hd v' _ rfl l) s3
      · obtain ⟨v', rfl, l⟩ := q
        exact ⟨v', Z3, hv, s3.le l⟩
      · obtain ⟨r', rfl, rfl⟩ := q
        cases hv
        exact g.rt _ w Z3 H3 A (hr r' rfl) g3 r n
/-! ### tests that change slots -/
theorem m_ifX {A B : List Stmt} {k : Bool} (h : MX X ρ c (.fz (.bl k)) ρ') (h1 : k = true → MS X ρ' A G) (h2 : k = false → MS X ρ' B G) (he : ∀ whole, isTrue c X.env whole = (do let v ← whole; standAt c.pos; holding [v] (truthy v)) := by intro _; rfl) : MS1 X ρ (.If c A B pos) G := .mk fun Z0 F Z σ H D s g =>
  PS_w (ps_if (pt_val pe_w he) pss_w pss_w) (h.run Z0 F Z σ H s _ fun v Z1 H1 s1 => by
    obtain ⟨T, t1, t2, t3⟩ := s1.st
    obtain ⟨B1, C1, q1, q2, q3, q4⟩ := t1.last t2
    cases q2 with
    | fz q2 =>
      cases q2
      refine ⟨k, rfl, ?_⟩
      cases k with
      | true => exact (h1 rfl).run Z0 F Z1 σ H1 D s1.pop g
      | false => exact (h2 rfl).run Z0 F Z1 σ H1 D s1.pop g)
theorem m_ifNX {A B : List Stmt} {k : Bool} (h : MX X ρ c (.fz (.bl k)) ρ') (h1 : k = false → MS X ρ' A G) (h2 : k = true → MS X ρ' B G) (he : ∀ whole, isTrue c X.env whole = (do let v ← whole; standAt c.pos; holding [v] (truthy v)) := by intro _; rfl) : MS1 X ρ (.If (.UnaryOp .Not c p0) A B pos) G := .mk fun Z0 F Z σ H D s g =>
  PS_w (ps_if (pt_not (pt_val pe_w he)) pss_w pss_w) (h.run Z0 F Z σ H s _ fun v Z1 H1 s1 => by
    obtain ⟨T, t1, t2, t3⟩ := s1.st
    obtain ⟨B1, C1, q1, q2, q3, q4⟩ := t1.last t2
    cases q2 with
    | fz q2 =>
      cases q2
      refine ⟨k, rfl, ?_⟩
      cases k with
      | false => exact (h1 rfl).run Z0 F Z1 σ H1 D s1.pop g
      | true => exact (h2 rfl).run Z0 F Z1 σ H1 D s1.pop g)
end
end M
namespace M
open PySem L2 PySem.Spec PyProof.Rows
/-! ### the same within a def that changes slot n -/
def goS {V W R : Type} (n : Nat) (ei : R → O) (Rn : V → Slots) (Rw : W → Slots) (er : R → O) (o : Ou V W R) : Go :=
  { nx := fun τ => ∃ v, o = .nx v ∧ Le τ (Rn v), bk := fun τ => ∃ w, o = .bk w ∧ Le τ (Rw w), ct := fun τ => ∃ w, o = .ct w ∧ Le τ (Rw w), rs := fun q τ => ∃ r, o = .rt r ∧ q = er r ∧ τ[n]? = some (some (ei r)) }
section
variable {X : Cx} {ρ ρ' : Slots} {R' : O → Slots} {e a b c elt : Expr} {es : List Expr} {st : Stmt} {sts : List Stmt} {G : Go} {o o1 o2 : O} {d : D} {ds : List D} {os : List O} {pos p0 p1 p2 p3 p4 : Pos} {i n : Nat} {x nm : Str} {α β V W R : Type}
theorem m_forSx {xs : List α} {enc : α → D} {wi : TI} {g : TG} {body : List Stmt} (p : PS X st (tFor wi g (wS X body))) (h : MI X ρ wi (xs.map enc)) {f : α → V → Option (Ou V V R)} {v0 : V} {out : Ou V V R} (hx : lpO f xs v0 = some out) (ei : R → O) (Rn : V → Slots) (er : R → O) (h0 : Le ρ (Rn v0))
    (hs : ∀ (x : α) (v : V) (o : Ou V V R), x ∈ xs → f x v = some o → ∃ τ' ws, MTg g X.K (Rn v) (enc x) τ' ws ∧ MS X τ' body (goS n ei Rn Rn er o))
    (hd : ∀ v τ, out = .nx v → Le τ (Rn v) → G.nx τ) (hr : ∀ r τ, out = .rt r → τ[n]? = some (some (ei r)) → G.rs (er r) τ) : MS1 X ρ st G := by
  refine m_forTS (xs := xs) (enc := enc) p h (fun v : V => Rn v) (fun j v => lpO f (xs.drop j) v = some out) ⟨v0, hx, h0⟩ (fun j y v hj hv => ?_) fun τ v hv l => ?_
  · obtain ⟨hi, ey⟩ := List.getElem?_eq_some_iff.mp hj
    rw [← List.getElem_cons_drop (h := hi), ey] at hv
    obtain ⟨o, e1, e2⟩ := bd_some hv
    obtain ⟨τ', ws, t1, t2⟩ := hs y v o (List.mem_of_getElem? hj) e1
    refine ⟨τ', ws, t1, ms_imp t2 (fun τ l => ?_) (fun q l => l.elim) (fun τ l => ?_) (fun τ l => ?_) fun q τ l => ?_⟩
    · obtain ⟨v', rfl, l⟩ := l
      exact ⟨v', e2, l⟩
    · obtain ⟨v', rfl, l⟩ := l
      cases e2
      exact hd v' τ rfl l
    · obtain ⟨v', rfl, l⟩ := l
      exact ⟨v', e2, l⟩
    · obtain ⟨r, rfl, rfl, l⟩ := l
      cases e2
      exact hr r τ rfl l
  · rw [List.drop_length] at hv
    cases hv
    exact hd v τ rfl l
theorem m_ifSx {c : Expr} {a b : List Stmt} {t : Bool} {p : Pos} {out : Ou V W R} (ei : R → O) (Rn : V → Slots) (Rw : W → Slots) (er : R → O) (hc : MT X ρ c t) (h1 : t = true → MS X ρ a (goS n ei Rn Rw er out)) (h2 : t = false → MS X ρ b (goS n ei Rn Rw er out))
    (kn : ∀ v τ, out = .nx v → Le τ (Rn v) → G.nx τ) (kb : ∀ w τ, out = .bk w → Le τ (Rw w) → G.bk τ) (kc : ∀ w τ, out = .ct w → Le τ (Rw w) → G.ct τ) (kr : ∀ r τ, out = .rt r → τ[n]? = some (some (ei r)) → G.rs (er r) τ) : MS1 X ρ (.If c a b p) G := by
  have im : ∀ {s : List Stmt}, MS X ρ s (goS n ei Rn Rw er out) → MS X ρ s G := fun h => ms_imp h (fun τ ⟨v, e, l⟩ => kn v τ e l) (fun q z => z.elim) (fun τ ⟨v, e, l⟩ => kb v τ e l) (fun τ ⟨v, e, l⟩ => kc v τ e l) fun q τ ⟨r, e, l, h⟩ => by rw [l]; exact kr r τ e h
  exact m_if hc (fun h => im (h1 h)) fun h => im (h2 h)
theorem m_whileSx {body : List Stmt} (p : PS X st (tWhile (wT X c) (wS X body))) {cm : V → Option Bool} {bm : V → Option (Ou V V R)} {v0 : V} {out : Ou V V R} (hx : wl cm bm v0 = some out) (ei : R → O) (Rn : V → Slots) (er : R → O) (h0 : Le ρ (Rn v0))
    (hc : ∀ v k, cm v = some k → MT X (Rn v) c k) (hs : ∀ v o, bm v = some o → MS X (Rn v) body (goS n ei Rn Rn er o))
    (hd : ∀ v τ, out = .nx v → Le τ (Rn v) → G.nx τ) (hr : ∀ r τ, out = .rt r → τ[n]? = some (some (ei r)) → G.rs (er r) τ) : MS1 X ρ st G := .mk fun Z0 F Z σ H D s g => by
  obtain ⟨m, hm⟩ := wl_some hx
  refine PS_w p ⟨fun m σ' H' => ∃ v Z', wlN cm bm m v = some out ∧ StR X.K (Rn v) Z0 F Z' σ' H', ⟨m, v0, Z, hm, s.le h0⟩, ?_⟩
  rintro m σ1 H1 ⟨v, Z1, hv, s1⟩
  cases m with
  | zero => cases hv
  | succ m =>
    obtain ⟨k, e1, hv⟩ := bd_some hv
    refine (hc v k e1).run Z0 F Z1 σ1 H1 s1 _ fun Z2 H2 g2 => ?_
    cases k with
    | false =>
      rw [if_neg Bool.false_ne_true]
      cases hv
      exact g.nx _ Z2 σ1 H2 (hd v _ rfl (Le.refl _)) (s1.grow g2)
    | true =>
      rw [if_pos rfl]
      obtain ⟨o, e2, hv⟩ := bd_some (show bd (bm v) _ = some out from hv)
      refine ⟨fun σ' H' => ∃ v' Z', wlN cm bm m v' = some out ∧ StR X.K (Rn v') Z0 F Z' σ' H', fun σ' H' q => ⟨m, Nat.lt_succ_self m, q⟩, ?_⟩
      refine (hs v o e2).run Z0 F Z2 σ1 H2 _ (s1.grow g2) ⟨fun τ Z3 σ3 H3 q s3 => ?_, fun τ Z3 σ3 H3 q s3 => ?_, fun τ Z3 σ3 H3 q s3 => ?_, fun _ _ _ _ _ z => z.elim, fun o' τ w Z3 σ3 H3 q s3 => ?_, g.ex.imp fun _ z => z.elim⟩
      · obtain ⟨v', rfl, l⟩ := q
        exact ⟨v', Z3, hv, s3.le l⟩
      · obtain ⟨v', rfl, l⟩ := q
        cases hv
        exact g.nx _ Z3 σ3 H3 (hd v' _ rfl l) s3
      · obtain ⟨v', rfl, l⟩ := q
        exact ⟨v', Z3, hv, s3.le l⟩
      · obtain ⟨r', rfl, rfl, l⟩ := q
        cases hv
        exact g.rs _ τ w Z3 σ3 H3 (hr r' τ rfl l) s3
/-! ### typed lists at places -/
theorem m_appendPT {xs : List α} {enc : α → D} {y : α} (h : MP X ρ a (.lst ((xs.map enc).map .fz)) ρ' R') (he : ME X ρ' e (.fz (enc y))) (hl : xs.length < sizeLine) (k : G.nx (R' (.lst (((xs ++ [y]).map enc).map .fz))))
    (q : ∀ t, PE X (.Call (.Attribute a "append" p2) [e] [] p3) t → PS X (.Expr (.Call (.Attribute a "append" p2) [e] [] p3) p4) (tDrop t) := by exact fun _ h => ps_expr h)
    (pm : PE X (.Call (.Attribute a "append" p2) [e] [] p3) (tBM X.K "list" rAppend (wE X a) (tCons (wE X e) tNil)) := by exact pe_bm PySem.F.plainAttrs_list PySem.F.slot_list_append PySem.F.type_list_append mt_append pe_w (pa_cons pe_w pa_nil)) : MS1 X ρ (.Expr (.Call (.Attribute a "append" p2) [e] [] p3) p4) G :=
  m_appendP h he (by rw [List.length_map, List.length_map]; exact hl) (by rw [List.map_append, List.map_append] at k; exact k) q pm
theorem m_extendPT {xs ys : List α} {enc : α → D} (h : MP X ρ a (.lst ((xs.map enc).map .fz)) ρ' R') (he : MV X ρ' e (.lst ((ys.map enc).map .fz))) (hl : xs.length + ys.length ≤ sizeLine) (k : G.nx (R' (.lst (((xs ++ ys).map enc).map .fz))))
    (q : ∀ t, PE X (.Call (.Attribute a "extend" p2) [e] [] p3) t → PS X (.Expr (.Call (.Attribute a "extend" p2) [e] [] p3) p4) (tDrop t) := by exact fun _ h => ps_expr h)
    (pm : PE X (.Call (.Attribute a "extend" p2) [e] [] p3) (tBM X.K "list" rExtend (wE X a) (tCons (wE X e) tNil)) := by exact pe_bm PySem.F.plainAttrs_list PySem.F.slot_list_extend PySem.F.type_list_extend mt_extend pe_w (pa_cons pe_w pa_nil)) : MS1 X ρ (.Expr (.Call (.Attribute a "extend" p2) [e] [] p3) p4) G :=
  m_extendP h he (by rw [List.length_map, List.length_map, List.length_map]; exact hl) (by rw [List.map_append, List.map_append] at k; exact k) q pm
theorem m_insertPT {xs : List α} {enc : α → D} {y : α} {j : Int} (h : MP X ρ a (.lst ((xs.map enc).map .fz)) ρ' R') (hb : ME X ρ' b (.fz (.int j))) (he : ME X ρ' e (.fz (enc y))) (hl : xs.length < sizeLine ∧ 0 ≤ j ∧ j < 2 ^ 63) (k : G.nx (R' (.lst (((xs.take j.toNat ++ [y] ++ xs.drop j.toNat).map enc).map .fz))))
    (q : ∀ t, PE X (.Call (.Attribute a "insert" p2) [b, e] [] p3) t → PS X (.Expr (.Call (.Attribute a "insert" p2) [b, e] [] p3) p4) (tDrop t) := by exact fun _ h => ps_expr h)
    (pm : PE X (.Call (.Attribute a "insert" p2) [b, e] [] p3) (tBM X.K "list" rInsert (wE X a) (tCons (wE X b) (tCons (wE X e) tNil))) := by exact pe_bm PySem.F.plainAttrs_list PySem.F.slot_list_insert PySem.F.type_list_insert mt_insert pe_w (pa_cons pe_w (pa_cons pe_w pa_nil))) : MS1 X ρ (.Expr (.Call (.Attribute a "insert" p2) [b, e] [] p3) p4) G :=
  m_insertP h hb he (by rw [List.length_map, List.length_map]; exact hl.1) hl.2 (by
    rw [List.map_append, List.map_append, List.map_append, List.map_append, List.map_take, List.map_take, List.map_drop, List.map_drop] at k
    exact k) q pm
theorem m_setItemPT {xs : List α} {enc : α → D} {y : α} {k : Int} {j : Nat} (hj : ixN xs.length k = some j) (h : MQ X ρ a (.lst ((xs.map enc).map .fz)) R') (hb : ME X ρ b (.fz (.int k))) (hc : ME X ρ c (.fz (enc y))) (kk : G.nx (R' (.lst (((xs.set j y).map enc).map .fz))))
    (pm : PS X (.Assign [.Subscript a b p2] c p3) (tAsg (wE X c) (gSub (wE X a) (wE X b) rSetL)) := by exact ps_asg pe_w (pg_sub pe_w pe_w set_list)) : MS1 X ρ (.Assign [.Subscript a b p2] c p3) G :=
  m_setItemP h hb hc (by rw [List.length_map, List.length_map]; exact hj) (by rw [List.map_set, List.map_set] at kk; exact kk) pm
theorem m_retNS (p : PS X st tRetN) (k : G.rs (.fz .non) ρ) : MS1 X ρ st G := .mk fun Z0 F Z σ H D s g => PS_w p (g.rs _ ρ .non Z σ H k (s.push (Gr.refl s.ex) (.fz .non) .nil))
theorem Le.get : ∀ {ρ τ : Slots} {n : Nat} {o : O}, Le ρ τ → τ[n]? = some (some o) → ρ[n]? = some (some o)
  | _, _, _, _, .nil, h => h
  | _, _, 0, _, .no _, h => by simp at h
  | _, _, 0, _, .eq _, h => h
  | _, _, n + 1, _, .no l, h => by
    simp only [List.getElem?_cons_succ] at h ⊢
    exact Le.get l h
  | _, _, n + 1, _, .eq l, h => by
    simp only [List.getElem?_cons_succ] at h ⊢
    exact Le.get l h
theorem m_setVw {i : Nat} {ds : List D} (p : PS X st (tAsg (wE X e) (gName i))) (h : MV X ρ e (.vw ds)) (k : G.nx (ρ.set i (some (.vw ds)))) (hi : i < ρ.length := by exact Nat.le_of_ble_eq_true rfl) : MS1 X ρ st G := .mk fun Z0 F Z σ H D s g =>
  PS_w p (h.run Z0 F Z σ H s _ fun v Z' H' A gg r => by
    cases r with
    | vw l rl => exact g.nx _ Z' _ H' k (s.put gg (.vw l rl) .nil hi))
/-- a call that changes slots, handed back by a def that itself changes none -/
theorem m_retXP (p : PS X st (tRet (wE X e))) (h : MX X ρ e o ρ') (hn : o.nv = true) (k : G.rt o) : MS1 X ρ st G := .mk fun Z0 F Z σ H D s g =>
  PS_w p (h.run Z0 F Z σ H s _ fun v Z' H' s' => by
    obtain ⟨A, h1, h2, h3⟩ := s'.st
    obtain ⟨B, C, q1, q2, q3, q4⟩ := h1.last h2
    exact g.rt o v Z' H' C k s'.gr q2 ⟨(List.nodup_append.mp q3).2.1, fun a m => ⟨(h3 a (q4 a (List.mem_append_right _ m))).2, (h3 a (q4 a (List.mem_append_right _ m))).1⟩⟩)
end
/-- the promise of a def that changes one of its arguments, by its mirror -/
def SpJF {A I R : Type} (K : PySem.W.Frag) (ar1 ar2 : A → List O) (f : A → Option (I × R)) (s0 : A → O) (s1 : I → O) (er : R → O) : Sp := SpJ K (fun x : A × (I × R) => ar1 x.1) (fun x => ar2 x.1) (fun x => f x.1 = some x.2) (fun x => s0 x.1) (fun x => s1 x.2.1) (fun x => er x.2.2)
end M
namespace M
open PySem L2 PySem.Spec PyProof.Rows
/-! ### defs that may refuse -/
/-- what a def tells: a result or an error -/
inductive Xr (E R : Type) where
  | ok (r : R) | er (e : E)
def exO {E R : Type} (te : E → Er) (er : R → O) : Xr E R → O
  | .ok r => er r
  | .er e => .rs (te e)
def ThrE (K : PySem.W.Frag) (E : XK) (e : Er) (Z H : Hp) : Prop := Thrown K (fun c d _ H => E c d H) e Z [] H
theorem thrown_of {K : PySem.W.Frag} {E : XK} {e : Er} {Z H : Hp} {σ : L2.St} (h : ThrE K E e Z H) : Thrown K (fun c d _ H => E c d H) e Z σ H := by
  unfold ThrE Thrown at h
  unfold Thrown
  cases hf : e.fld with
  | none => rw [hf] at h; exact h
  | some p => rw [hf] at h; exact h
def EW (W : WX) : XK := fun c d H => ∀ σ, W c d σ H
theorem thrE_of {K : PySem.W.Frag} {W : WX} {e : Er} {Z H : Hp} (h : ∀ σ, Thrown K W e Z σ H) : ThrE K (EW W) e Z H := by
  unfold Thrown at h
  unfold ThrE Thrown
  cases hf : e.fld with
  | none => intro σ; have := h σ; rw [hf] at this; exact this
  | some p => intro a v na r σ; have := h σ; rw [hf] at this; exact this a v na r
theorem stL_blank {K : PySem.W.Frag} {Z F H : Hp} : ∀ σ : L2.St, StL K Z F H (List.replicate σ.length none) σ []
  | [] => .nil
  | _ :: σ => .no (stL_blank σ)
theorem StR.blank {K : PySem.W.Frag} {Z0 F Z' H' : Hp} (g : Gr Z0 F Z' H') (σ : L2.St) : StR K (List.replicate σ.length none) Z0 F Z' σ H' := ⟨g, [], stL_blank σ, List.nodup_nil, fun _ m => nomatch m⟩
theorem pass_ew {X : Cx} {W : WX} (tk : Takes X W) : Passes (L2.CX X.prog X.w) X (EW W) := passes_call tk fun _ _ σ _ h => h σ
/-- a def that is known to refuse nothing -/
theorem _root_.L2.FnOk.known {P : Program} {w : World} {K : PySem.W.Frag} {mg : Str → Option Value} {base : Heap} {k : Nat} {f : Addr} {fd : FuncData} {ps : List Str} {sp sp' : Sp} (F : FnOk P w K mg base (L2.CX P w) k f fd ps sp)
    (h : ∀ vs H Q E, sp' vs H Q E → sp vs H Q (fun _ _ _ => False)) : FnOk P w K mg base CX0 k f fd ps sp' :=
  ⟨fun vs H Q E q => F.len vs H Q _ (h _ _ _ _ q), fun A outer s H args us vs Q E hr he hb hv hs => codeAny_mono (F.run A outer s H args us vs Q _ hr he hb hv (h _ _ _ _ hs)) fun r s' q => by
    cases r with
    | ok r => cases r <;> exact q
    | error e =>
      obtain ⟨_, _, _, _, _, _, _, _, _, _, _, _, z⟩ := q
      exact z.elim⟩
def SpE {α : Type} (K : PySem.W.Frag) (ar : α → List O) (pre : α → Prop) (res : α → O) : Sp := fun vs H Q E => ∃ (x : α) (Z : Hp), Ex Z H ∧ RepOL K Z H H vs (ar x) [] ∧ pre x ∧
  (∀ v Z' H' A, Gr Z H Z' H' → RepO K Z' (fun _ => none) H' v (res x) A → New H Z' A → Q v H') ∧ ∀ e Z' H', res x = .rs e → Gr Z H Z' H' → ThrE K E e Z' H'
/-- its body keeps its promise -/
theorem fn_mE {α : Type} {P : Program} {w : World} {K : PySem.W.Frag} {mg : Str → Option Value} {base : Heap} {x qual : Str} {st : Stmt} {f : Addr} {fd : FuncData} {N ps : List Str} {k : Nat} {ar : α → List O} {pre : α → Prop} {res : α → O}
    (F : Fun K x qual st f fd) (S : FnScope N ps (defScope st)) (hl : ∀ x, (ar x).length = ps.length) (hn : ∀ x, pre x → (res x).nv = true ∨ ∃ e, res x = .rs e)
    (hb : ∀ (cdv : Value) (A : Around) (outer : List Env) (s : Shared) (H : Hp) (E : XK), Room k (A.deeper (envOfC qual (defScope st) s.heap.objs.size f cdv)) →
      PassesOwn (model P w) (A.deeper (envOfC qual (defScope st) s.heap.objs.size f cdv)) (cxOf (L2.CX P w) P w K mg base N qual (defScope st) f cdv A outer s H E).env (cxOf (L2.CX P w) P w K mg base N qual (defScope st) f cdv A outer s H E).xe → ∀ x, pre x →
      MS (cxOf (L2.CX P w) P w K mg base N qual (defScope st) f cdv A outer s H E) ((ar x).map some ++ List.replicate (N.length - ps.length) none) (defBody st) { nx := fun _ => res x = .fz .non, rt := fun o => o = res x }) :
    FnOk P w K mg base (L2.CX P w) (k + 1) f fd ps (SpE K ar pre res) := by
  refine F.okX S (fun vs H Q E h => ?_) (fun cdv A outer s H vs Q E hr h => ?_)
  · obtain ⟨x, Z, _, r, _⟩ := h
    rw [r.length, hl]
  · obtain ⟨x, Z, ez, r, hp, q, qx⟩ := h
    refine ⟨_, pss_w, (hb cdv A outer s H E hr (passes_of rfl) x hp).run Z H Z _ H _ ⟨Gr.refl ez, [], ?_, List.nodup_nil, fun _ m => nomatch m⟩ ⟨fun ρ Z' σ H' e s' => ?_, fun _ _ _ _ z => z.elim, fun _ _ _ _ z => z.elim, fun o v Z' H' A e g r n => ?_, fun _ _ _ _ _ _ z => z.elim, ⟨_, takes_of rfl rfl rfl rfl, fun e ρ Z' σ H' k s' => thrown_of (qx e Z' H' k.symm s'.gr)⟩⟩⟩
    · have e : L2.start N vs = vs.map some ++ List.replicate (N.length - ps.length) none := by
        unfold L2.start
        rw [r.length, hl]
      rw [e]
      exact stL_more _ (stL_args r)
    · refine q _ Z' H' [] s'.gr ?_ .nil
      rw [e]
      exact .fz .non
    · subst e
      rcases hn x hp with hn | ⟨e, hn⟩
      · exact q _ Z' H' A g (r.unF hn) n
      · rw [hn] at r
        cases r
structure Fn1E (P : Program) (w : World) (K : PySem.W.Frag) (mg : Str → Option Value) (base : Heap) (name : Str) (k : Nat) (ps : List Str) (sp : Sp) : Prop where
  ex : ∃ (f : Addr) (fd : FuncData), mg name = some (.ref f) ∧ PySem.W.keepIn K (.ref f) = true ∧ Binds K fd ps [] ∧ FnOk P w K mg base (L2.CX P w) k f fd ps sp
theorem Fn1E.ok {P : Program} {w : World} {K : PySem.W.Frag} {mg : Str → Option Value} {base : Heap} {name : Str} {k : Nat} {ps : List Str} {α : Type} {ar : α → List O} {pre : α → Prop} {res : α → O} (c : Fn1E P w K mg base name k ps (SpE K ar pre res)) : Fn1 P w K mg base name k ps (SpM K ar (fun x => pre x ∧ ∀ e, res x ≠ .rs e) res) := by
  obtain ⟨f, fd, hm, hk, hb, F⟩ := c.ex
  exact ⟨f, fd, hm, hk, hb, F.known fun vs H Q E ⟨x, Z, ez, r, ⟨hp, hn⟩, q⟩ => ⟨x, Z, ez, r, hp, q, fun e _ _ z => absurd z (hn e)⟩⟩
/-- an expression that raises -/
structure MRz (X : Cx) (ρ : Slots) (e : Expr) (er : Er) : Prop where
  run : ∀ (Z0 F Z : Hp) (σ : L2.St) (H : Hp), StR X.K ρ Z0 F Z σ H → ∀ (W : WX), Takes X W → (∀ σ' Z' H', Gr Z0 F Z' H' → Thrown X.K W er Z' σ' H') → ∀ Q : VK, wE X e σ H Q
section
variable {X : Cx} {ρ : Slots} {e a b elt : Expr} {es : List Expr} {st : Stmt} {sts : List Stmt} {G : Go} {o o1 o2 : O} {d : D} {ds : List D} {pos p0 p1 p2 p3 : Pos} {i : Nat} {x nm f : Str} {er : Er}
/-- a call that raises -/
theorem mz_fn {α : Type} {ar : α → List O} {pre : α → Prop} {res : α → O} {k : Nat} {ps : List Str} (c : Fn1E X.prog X.w X.K X.mg X.base nm k ps (SpE X.K ar pre res)) (x : α) (ha : MA X ρ (e :: es) (ar x)) (hp : pre x) (hr : Room k X.A) (hres : res x = .rs er := by first | (dsimp only; done) | (dsimp only; rfl) | rfl) (hg : Gl X nm := by rfl)
    (hdb : (nm == ("__debug__" : Str)) = false := by decide) (he : starEach (e :: es) X.env = (false, eval e X.env) :: starEach es X.env := by rfl) (hpl : (backTo pos (starEach es X.env)).any (·.1) = false := by rfl) : MRz X ρ (.Call (.Name nm p0) (e :: es) [] pos) er := by
  obtain ⟨f, fd, hm, hk, hb, F⟩ := c.ex
  exact .mk fun Z0 F0 Z σ H s W tk qx Q => PE_w (pe_call F hr hg hm hk hb .nil (pass_ew tk) pa_w hdb he hpl) (ha.run Z0 F0 Z σ H s _ fun vs Z1 H1 g1 r1 =>
    ⟨x, Z1, g1.zh, by rw [List.append_nil]; exact r1, hp, (fun v Z2 H2 A g2 r2 n2 => by
      rw [hres] at r2
      cases r2), (fun e Z2 H2 z g2 => by
      rw [hres] at z
      cases z
      exact thrE_of fun σ' => qx σ' Z2 H2 (s.gr.trans (g1.trans g2)))⟩)
theorem gx_thrown {Z0 F : Hp} {r : O → Prop} (g : GX X Z0 F r) (k : r (.rs er)) : ∃ W : WX, Takes X W ∧ ∀ σ' Z' H', Gr Z0 F Z' H' → Thrown X.K W er Z' σ' H' := by
  obtain ⟨W, tk, kk⟩ := g
  exact ⟨W, tk, fun σ' Z' H' g => kk er _ Z' σ' H' k (StR.blank g σ')⟩
/-! statements that raise -/
theorem m_rzAsg {g : TG} (p : PS X st (tAsg (wE X e) g)) (h : MRz X ρ e er) (k : G.rt (.rs er)) : MS1 X ρ st G := .mk fun Z0 F Z σ H D s gd => by
  obtain ⟨W, tk, kk⟩ := gx_thrown gd.ex k
  exact PS_w p (h.run Z0 F Z σ H s W tk kk _)
theorem m_rzDrop (p : PS X st (tDrop (wE X e))) (h : MRz X ρ e er) (k : G.rt (.rs er)) : MS1 X ρ st G := .mk fun Z0 F Z σ H D s gd => by
  obtain ⟨W, tk, kk⟩ := gx_thrown gd.ex k
  exact PS_w p (h.run Z0 F Z σ H s W tk kk _)
theorem m_rzRet (p : PS X st (tRet (wE X e))) (h : MRz X ρ e er) (k : G.rt (.rs er)) : MS1 X ρ st G := .mk fun Z0 F Z σ H D s gd => by
  obtain ⟨W, tk, kk⟩ := gx_thrown gd.ex k
  exact PS_w p (h.run Z0 F Z σ H s W tk kk _)
theorem m_rzFld (pn : PE X (.Name x p1) (tVar i)) (h : MRz X ρ e er) (k : G.rt (.rs er)) (hs : swapsWith e (some (.Attribute (.Name x p1) f p2)) p3.line X.env = pure false := by rfl) : MS1 X ρ (.Assign [.Attribute (.Name x p1) f p2] e p3) G := .mk fun Z0 F Z σ H D s gd => by
  obtain ⟨W, tk, kk⟩ := gx_thrown gd.ex k
  exact PS_w (ps_fld pn pe_w hs) (h.run Z0 F Z σ H s W tk kk _)
/-- raise C('m') -/
theorem m_raise {C : Addr} (pm : PMk X e (fun _ H Q => Q (.ref C) none H)) (k : G.rt (.rs ⟨C, none⟩)) (hc : X.calm = true := by rfl) : MS1 X ρ (.Raise (some e) none pos) G := .mk fun Z0 F Z σ H D s gd => by
  obtain ⟨W, tk, kk⟩ := gd.ex
  exact PS_w (ps_raise hc tk pm) (kk ⟨C, none⟩ ρ Z σ H k s)
end
/-- a class of errors without an __init__ of its own -/
structure XcC (K : PySem.W.Frag) (mg : Str → Option Value) (nm : Str) (C : Addr) : Prop where
  q : PySem.W.excIn K C [.type "ValueError", .type "Exception", .type "BaseException", .type "object"] "ValueError.__new__" = true
  g : mg nm = some (.ref C)
  k : PySem.W.keepIn K (.ref C) = true
  b : PySem.W.subIn K (.ref C) (.type "BaseException") = some true
  t : PySem.W.typeIn K (.ref C) = some (.type "type")
theorem pm_own {X : Cx} {nm m : Str} {C : Addr} {j : Nat} {p p2 pos : Pos} (c : XcC X.K X.mg nm C) (hg : Gl X nm := by rfl) (hdb : (nm == ("__debug__" : Str)) = false := by decide) : PMk X (.Call (.Name nm p) [.Constant (.str m) j p2] [] pos) (fun _ H Q => Q (.ref C) none H) :=
  pmk_own PySem.F.excBase_ValueError c.q c.g c.k (raises_own c.b c.t) hg hdb
/-! ### makers that may refuse -/
def SpXE {α : Type} (K : PySem.W.Frag) (ar : α → List O) (pre : α → Prop) (s0 s1 : Addr → α → O) (res : α → O) : Sp := fun vs H Q E => ∃ (x : α) (Z F : Hp) (l : Addr) (vs' : List V) (A : List Addr), vs = .ref l :: vs' ∧ Ex Z F ∧ Ex F H ∧ A.Nodup ∧ (∀ a ∈ A, F a = none) ∧ RepO K Z F H (.ref l) (s0 l x) A ∧ RepOL K Z F F vs' (ar x) [] ∧ pre x ∧
  (∀ v Z' H' B, Gr Z F Z' H' → RepOL K Z' (fun _ => none) H' [.ref l, v] [s1 l x, res x] B → B.Nodup → (∀ a ∈ B, F a = none ∧ Z' a = none) → Q v H') ∧ ∀ e Z' H', res x = .rs e → Gr Z F Z' H' → ThrE K E e Z' H'
theorem fn_mXE {α : Type} {P : Program} {w : World} {K : PySem.W.Frag} {mg : Str → Option Value} {base : Heap} {x qual : Str} {st : Stmt} {f : Addr} {fd : FuncData} {N ps : List Str} {k : Nat} {ar : α → List O} {pre : α → Prop} {s0 s1 : Addr → α → O} {res : α → O}
    (F : Fun K x qual st f fd) (S : FnScope N ps (defScope st)) (hl : ∀ x, (ar x).length + 1 = ps.length) (hn1 : ∀ l x, pre x → (s1 l x).nv = true) (hn2 : ∀ x, pre x → (res x).nv = true ∨ ∃ e, res x = .rs e) (hat : ∀ l x, ∃ C ns os, s1 l x = .at l C ns os)
    (hb : ∀ (cdv : Value) (A : Around) (outer : List Env) (s : Shared) (H : Hp) (E : XK), Room k (A.deeper (envOfC qual (defScope st) s.heap.objs.size f cdv)) →
      PassesOwn (model P w) (A.deeper (envOfC qual (defScope st) s.heap.objs.size f cdv)) (cxOf (L2.CX P w) P w K mg base N qual (defScope st) f cdv A outer s H E).env (cxOf (L2.CX P w) P w K mg base N qual (defScope st) f cdv A outer s H E).xe → ∀ (l : Addr) x, pre x →
      MS (cxOf (L2.CX P w) P w K mg base N qual (defScope st) f cdv A outer s H E) (some (s0 l x) :: (ar x).map some ++ List.replicate (N.length - ps.length) none) (defBody st) { nx := fun ρ => res x = .fz .non ∧ ρ[0]? = some (some (s1 l x)), rs := fun o ρ => o = res x ∧ ρ[0]? = some (some (s1 l x)), rt := fun o => o = res x ∧ ∃ e, o = .rs e }) :
    FnOk P w K mg base (L2.CX P w) (k + 1) f fd ps (SpXE K ar pre s0 s1 res) := by
  refine F.okX S (fun vs H Q E h => ?_) (fun cdv A outer s H vs Q E hr h => ?_)
  · obtain ⟨x, Z, F, l, vs', A, rfl, _, _, _, _, _, r, _⟩ := h
    rw [List.length_cons, r.length, hl]
  · obtain ⟨x, Z, F0, l, vs', A0, rfl, ez, ef, nA, fA, rs, r, hp, q, qx⟩ := h
    obtain ⟨C, ns, os, hs1⟩ := hat l x
    have st0 : StL K Z F0 H (some (s0 l x) :: (ar x).map some) (some (.ref l) :: vs'.map some) (A0 ++ []) := .so rs (stL_args (r.mono (Ex.refl _) (Ex.refl _) fun _ m => nomatch m))
    refine ⟨_, pss_w, (hb cdv A outer s H E hr (passes_of rfl) l x hp).run Z F0 Z _ H _ ⟨⟨Ex.refl _, ef, ez.trans ef, fun _ _ _ => rfl⟩, A0 ++ [], ?_, by rw [List.append_nil]; exact nA, fun a m => ?_⟩ ⟨fun ρ Z' σ H' e s' => ?_, fun _ _ _ _ z => z.elim, fun _ _ _ _ z => z.elim, fun o v Z' H' A k g r n => ?_, fun o ρ v Z' σ H' e s' => ?_, ⟨_, takes_of rfl rfl rfl rfl, fun e ρ Z' σ H' k s' => thrown_of (qx e Z' H' k.1.symm s'.gr)⟩⟩⟩
    · have e : L2.start N (.ref l :: vs') = (some (.ref l) :: vs'.map some) ++ List.replicate (N.length - ps.length) none := by
        unfold L2.start
        rw [List.length_cons, r.length, hl]
        rfl
      rw [e]
      exact stL_more _ st0
    · rw [List.append_nil] at m
      exact ⟨ez.free (fA a m), fA a m⟩
    · obtain ⟨en, e⟩ := e
      obtain ⟨A1, t1, t2, t3⟩ := s'.st
      obtain ⟨v, B, u1, u2, u3, u4, _⟩ := t1.at e t2
      have hn := hn1 l x hp
      rw [hs1] at u2 hn
      cases u2 with
      | @«at» _ _ dx _ vs1 _ B1 h0 rl =>
        refine q .non Z' H' ((l :: B1) ++ ([] ++ [])) s'.gr (.cons ?_ (.cons (A := []) ?_ .nil)) (by simpa using u3) fun a m => ?_
        · rw [hs1]
          exact (RepO.at h0 rl).unF hn
        · rw [en]
          exact .fz .non
        · have m : a ∈ l :: B1 := by simpa using m
          exact ⟨(t3 a (u4 a m)).2, (t3 a (u4 a m)).1⟩
    · obtain ⟨_, e, rfl⟩ := k
      cases r
    · obtain ⟨en, e⟩ := e
      subst en
      obtain ⟨A1, t1, t2, t3⟩ := s'.st
      obtain ⟨B, Cc, w1, w2, w3, w4⟩ := t1.last t2
      obtain ⟨n1, n2, n3⟩ := List.nodup_append.mp w3
      obtain ⟨v0, B0, u1, u2, u3, u4, _⟩ := w1.at e n1
      have hn := hn1 l x hp
      rw [hs1] at u2 hn
      cases u2 with
      | @«at» _ _ dx _ vs1 _ B1 h0 rl =>
        rcases hn2 x hp with hn2 | ⟨ee, hn2⟩
        · refine q v Z' H' ((l :: B1) ++ (Cc ++ [])) s'.gr (.cons ?_ (.cons (w2.unF hn2) .nil)) ?_ fun a m => ?_
          · rw [hs1]
            exact (RepO.at h0 rl).unF hn
          · rw [List.append_nil]
            exact List.nodup_append.mpr ⟨u3, n2, fun a ha b hb => n3 a (u4 a ha) b hb⟩
          · rw [List.append_nil] at m
            have m2 : a ∈ B ++ Cc := by
              rcases List.mem_append.mp m with z | z
              · exact List.mem_append_left _ (u4 a z)
              · exact List.mem_append_right _ z
            exact ⟨(t3 a (w4 a m2)).2, (t3 a (w4 a m2)).1⟩
        · rw [hn2] at w2
          cases w2
/-- of a new instance -/
def SpIE {α : Type} (K : PySem.W.Frag) (C : Addr) (ns : List Str) (ar : α → List O) (pre : α → Prop) (res : α → List O) (er : α → Option Er) : Sp := fun vs H Q E => ∃ (x : α) (Z F : Hp) (l dx : Addr) (vs' : List V), vs = .ref l :: vs' ∧ Ex Z F ∧ Ex F H ∧ F l = none ∧ H l = some (.ins C dx []) ∧ RepOL K Z F F vs' (ar x) [] ∧ pre x ∧
  (er x = none → ∀ Z' H' A, Gr Z F Z' H' → RepO K Z' (fun _ => none) H' (.ref l) (.at l C ns (res x)) A → New F Z' A → Q .non H') ∧ ∀ e Z' H', er x = some e → Gr Z F Z' H' → ThrE K E e Z' H'
theorem SpXE.init {α : Type} {P : Program} {w : World} {K : PySem.W.Frag} {mg : Str → Option Value} {base : Heap} {CX : CXT} {k : Nat} {f : Addr} {fd : FuncData} {ps : List Str} {ar : α → List O} {pre : α → Prop} {s0 s1 : Addr → α → O} {res : α → O} {β : Type} {arb : β → List O} {preb : β → Prop} {resb : β → List O} {erb : β → Option Er} {C : Addr} {ns : List Str} (g : β → α)
    (h : FnOk P w K mg base CX k f fd ps (SpXE K ar pre s0 s1 res)) (har : ∀ y, ar (g y) = arb y) (hp : ∀ y, preb y → pre (g y)) (h0 : ∀ l y, s0 l (g y) = .at l C [] []) (h1 : ∀ l y, erb y = none → s1 l (g y) = .at l C ns (resb y)) (h2 : ∀ y, (erb y = none ∧ res (g y) = .fz .non) ∨ ∃ e, erb y = some e ∧ res (g y) = .rs e) :
    FnOk P w K mg base CX k f fd ps (SpIE K C ns arb preb resb erb) := h.imp fun vs H Q E hh => by
  obtain ⟨y, Z, F, l, dx, vs', rfl, ez, ef, nl, hi, r, hpr, q, qx⟩ := hh
  have fl : ∀ a ∈ [l], F a = none := fun a m => by
    have e : a = l := by simpa using m
    rw [e]
    exact nl
  refine ⟨g y, Z, F, l, vs', [l], rfl, ez, ef, by simp, fl, ?_, by rw [har]; exact r, hp y hpr, fun v Z' H' B gg rr nB dB => ?_, fun e Z' H' z gg => ?_⟩
  · rw [h0]
    exact .at (dx := dx) hi .nil
  · rcases h2 y with ⟨en, er⟩ | ⟨e, en, er⟩
    · rw [er, h1 l y en] at rr
      cases rr with
      | @cons _ _ _ _ A1 B1 ra rb =>
        cases rb with
        | @cons _ _ _ _ A2 B2 rb rc =>
          cases rb with
          | fz rb =>
            cases rb
            cases rc
            rw [List.append_nil, List.append_nil] at nB dB
            exact q en Z' H' A1 gg ra ⟨nB, dB⟩
    · rw [er] at rr
      cases rr with
      | cons ra rb =>
        cases rb with
        | cons rb rc => cases rb
  · rcases h2 y with ⟨en, er⟩ | ⟨e', en, er⟩
    · rw [er] at z
      cases z
    · rw [er] at z
      cases z
      exact qx e Z' H' en gg
structure Mk1E (P : Program) (w : World) (K : PySem.W.Frag) (mg : Str → Option Value) (base : Heap) (name : Str) (C : Addr) (k : Nat) (ps : List Str) (sp : Sp) : Prop where
  ex : ∃ (f : Addr) (fd : FuncData), mg name = some (.ref C) ∧ Mk K C f ∧ Binds K fd ps [] ∧ FnOk P w K mg base (L2.CX P w) k f fd ps sp
structure Cf1E (P : Program) (w : World) (K : PySem.W.Frag) (mg : Str → Option Value) (base : Heap) (nmC m : Str) (k : Nat) (ps : List Str) (sp : Sp) : Prop where
  ex : ∃ (C : Addr) (mc : Value) (f : Addr) (fd : FuncData), mg nmC = some (.ref C) ∧ ClX.CRead K C mc ∧ ClX.CVal K C mc m (.ref f) (.ref f) ∧ PySem.W.keepIn K (.ref f) = true ∧ Binds K fd ps [] ∧ FnOk P w K mg base (L2.CX P w) k f fd ps sp
section
variable {P : Program} {w : World} {K : PySem.W.Frag} {mg : Str → Option Value} {base : Heap} {name m : Str} {k : Nat} {ps : List Str} {α : Type} {C : Addr} {ns : List Str} {ar : α → List O} {pre : α → Prop}
theorem Mk1E.ok {res : α → List O} {er : α → Option Er} (c : Mk1E P w K mg base name C k ps (SpIE K C ns ar pre res er)) : Mk1 P w K mg base name C k ps (SpI K C ns ar (fun x => pre x ∧ er x = none) res) := by
  obtain ⟨f, fd, hm, hk, hb, F⟩ := c.ex
  exact ⟨f, fd, hm, hk, hb, F.known fun vs H Q E ⟨x, Z, F, l, dx, vs', e, ez, ef, nl, hi, r, ⟨hp, hn⟩, q⟩ => ⟨x, Z, F, l, dx, vs', e, ez, ef, nl, hi, r, hp, fun _ => q, fun e _ _ z => by rw [hn] at z; cases z⟩⟩
theorem Cf1E.ok {s0 s1 : Addr → α → O} {res : α → O} (c : Cf1E P w K mg base name m k ps (SpXE K ar pre s0 s1 res)) : Cf1 P w K mg base name m k ps (SpX K ar (fun x => pre x ∧ ∀ e, res x ≠ .rs e) s0 s1 res) := by
  obtain ⟨C, mc, f, fd, hm, h1, h2, hk, hb, F⟩ := c.ex
  exact ⟨C, mc, f, fd, hm, h1, h2, hk, hb, F.known fun vs H Q E ⟨x, Z, F, l, vs', A, e, ez, ef, nA, fA, rs, r, ⟨hp, hn⟩, q⟩ => ⟨x, Z, F, l, vs', A, e, ez, ef, nA, fA, rs, r, hp, q, fun e _ _ z => absurd z (hn e)⟩⟩
end
section
variable {X : Cx} {ρ : Slots} {e : Expr} {es : List Expr} {pos p0 p1 p2 : Pos} {i : Nat} {xx nm : Str} {C : Addr} {ns all : List Str} {os : List O} {ds : List D} {er : Er}
/-- C(..) that raises -/
theorem mz_make {α : Type} {ar : α → List O} {pre : α → Prop} {res : α → List O} {err : α → Option Er} {k : Nat} {ps : List Str} (c : Mk1E X.prog X.w X.K X.mg X.base nm C k ps (SpIE X.K C ns ar pre res err)) (x : α) (ha : MA X ρ (e :: es) (ar x)) (hp : pre x) (hr : Room (k + 1) X.A) (hres : err x = some er := by first | (dsimp only; done) | (dsimp only; rfl) | rfl) (hg : Gl X nm := by rfl)
    (hdb : (nm == ("__debug__" : Str)) = false := by decide) (he : starEach (e :: es) X.env = (false, eval e X.env) :: starEach es X.env := by rfl) (hpl : (backTo pos (starEach es X.env)).any (·.1) = false := by rfl) : MRz X ρ (.Call (.Name nm p0) (e :: es) [] pos) er := by
  obtain ⟨f, fd, hm, M, hb, F⟩ := c.ex
  exact .mk fun Z0 F0 Z σ H s W tk qx Q => PE_w (pe_make M F hr hg hm hb .nil (pass_ew tk) pa_w hdb he hpl) (ha.run Z0 F0 Z σ H s _ fun vs Z1 H1 g1 r1 l dx nl ndx ne =>
    ⟨x, Z1, H1, l, dx, vs, by rw [List.append_nil], g1.zh, (Ex.new ndx).trans (Ex.new (by rw [upd_ne ne.symm]; exact nl)), nl, upd_same, r1, hp, (fun z => by
      rw [hres] at z
      cases z), (fun e Z2 H2 z g2 => by
      rw [hres] at z
      cases z
      exact thrE_of fun σ' => qx σ' Z2 H2 (s.gr.trans (g1.trans g2)))⟩)
/-- N.m(x, e, ..) that raises, x a slot with an own instance at a known place -/
theorem mz_cfn {α : Type} {ar : α → List O} {pre : α → Prop} {s0 s1 : Addr → α → O} {res : α → O} {k : Nat} {ps : List Str} {l : Addr} {nmC : Str} {pl : Sem Bool} (c : Cf1E X.prog X.w X.K X.mg X.base nmC nm k ps (SpXE X.K ar pre s0 s1 res)) (x : α) (pn : PE X (.Name xx p2) (tVar i)) (hi : ρ[i]? = some (some (.at l C ns os))) (ha : MF X ρ es ds) (h0 : s0 l x = .at l C ns os) (hx : ar x = ds.map .fz) (hp : pre x) (hr : Room k X.A) (hres : res x = .rs er)
    (hg : Gl X nmC := by rfl) (hdb : (nmC == ("__debug__" : Str)) = false := by decide) (hst : starEach (.Name xx p2 :: es) X.env = (false, eval (.Name xx p2) X.env) :: starEach es X.env := by rfl) (hpl : (backTo pos (starEach es X.env)).any (·.1) = false := by rfl)
    (ht : eval (.Call (.Attribute (.Name nmC p0) nm p1) (.Name xx p2 :: es) [] pos) X.env = (do
      let ov ← eval (.Name nmC p0) X.env
      standAt p1.atName
      let (f, first) ← holding [ov] (getMethod ov nm pl)
      callWith pos f first (backTo pos (starEach (.Name xx p2 :: es) X.env)) (backToKw pos (keywordEach [] X.env))) := by rfl) : MRz X ρ (.Call (.Attribute (.Name nmC p0) nm p1) (.Name xx p2 :: es) [] pos) er := by
  obtain ⟨Cc, mc, f, fd, hmC, r, kv, hk, hb, F⟩ := c.ex
  refine .mk fun Z0 F0 Z σ H s W tk qx Q => PE_w (pe_cfn (pl := pl) hg hmC r kv hk F hr hb .nil (pass_ew tk) (pa_cons pn pa_w hst) hdb hst hpl ht) ?_
  obtain ⟨v, A, e1, r1, nA, dA, k1⟩ := s.updX hi
  have th := r1.there
  cases r1 with
  | @«at» l _ dx _ vs0 _ A h0' rl =>
    refine ⟨_, e1, ha.run Z0 F0 Z σ H s _ fun vs Z1 H1 g1 ra => ?_⟩
    have z1 : ∀ a ∈ (l :: A), Z1 a = none := fun a m => by
      obtain ⟨u, e⟩ := th a m
      rw [g1.nw a u e]
      exact (dA a m).1
    have fw : Ex F0 (wo H1 (l :: A)) := ex_to_wo (s.gr.hh.trans g1.hh) fun a m => (dA a m).2
    refine ⟨x, Z1, wo H1 (l :: A), l, vs, l :: A, by rw [List.append_nil], ex_to_wo g1.zh z1, ex_wo, nA, fun a m => wo_in m, by rw [h0]; exact (RepO.at h0' rl).mono g1.zz fw fun a _ u e => g1.hh a u e, by rw [hx]; exact ra.own, hp, (fun w Z2 H2 B g2 rb nB dB => by
      rw [hres] at rb
      cases rb with
      | cons rb rc =>
        cases rc with
        | cons rc rd => cases rc), (fun e Z2 H2 z g2 => by
      rw [hres] at z
      cases z
      refine thrE_of fun σ' => qx σ' Z2 H2 ⟨s.gr.zz.trans (g1.zz.trans g2.zz), fw.trans g2.hh, g2.zh, fun a u e => ?_⟩
      rw [g2.nw a u (fw a u e), g1.nw a u (s.gr.hh a u e), s.gr.nw a u e])⟩
end
/-! ### mirrors that may refuse -/
def SpFE {A E R : Type} (K : PySem.W.Frag) (ar : A → List O) (f : A → Option (Xr E R)) (te : E → Er) (er : R → O) : Sp := SpE K (fun x : A × Xr E R => ar x.1) (fun x => f x.1 = some x.2) (fun x => exO te er x.2)
def okx {E R : Type} : Option (Xr E R) → Option R
  | some (.ok r) => some r
  | _ => none
theorem okx_is {E R : Type} {m : Option (Xr E R)} {r : R} (h : okx m = some r) : m = some (.ok r) := by
  cases m with
  | none => cases h
  | some m =>
    cases m with
    | ok x => cases h; rfl
    | er x => cases h
theorem okx_of {E R : Type} {m : Option (Xr E R)} {r : R} (h : m = some (.ok r)) : okx m = some r := by rw [h]; rfl
def bdx {E R S : Type} : Option (Xr E R) → (R → Option (Xr E S)) → Option (Xr E S)
  | some (.ok r), k => k r
  | some (.er e), _ => some (.er e)
  | none, _ => none
theorem bdx_some {E R S : Type} {m : Option (Xr E R)} {k : R → Option (Xr E S)} {y : Xr E S} (h : bdx m k = some y) : (∃ e, m = some (.er e) ∧ (some (.er e) : Option (Xr E S)) = some y) ∨ ∃ v, m = some (.ok v) ∧ k v = some y := by
  cases m with
  | none => cases h
  | some m =>
    cases m with
    | ok x => exact .inr ⟨x, rfl, h⟩
    | er x => exact .inl ⟨x, rfl, h⟩
def bdo {E R S V W : Type} : Option (Xr E R) → (R → Option (Ou V W (Xr E S))) → Option (Ou V W (Xr E S))
  | some (.ok r), k => k r
  | some (.er e), _ => some (.rt (.er e))
  | none, _ => none
theorem bdo_some {E R S V W : Type} {m : Option (Xr E R)} {k : R → Option (Ou V W (Xr E S))} {y : Ou V W (Xr E S)} (h : bdo m k = some y) : (∃ e, m = some (.er e) ∧ (some (.rt (.er e)) : Option (Ou V W (Xr E S))) = some y) ∨ ∃ v, m = some (.ok v) ∧ k v = some y := by
  cases m with
  | none => cases h
  | some m =>
    cases m with
    | ok x => exact .inr ⟨x, rfl, h⟩
    | er x => exact .inl ⟨x, rfl, h⟩
theorem exO_nv {E R : Type} {te : E → Er} {er : R → O} (h : ∀ r, (er r).nv = true) : ∀ y : Xr E R, (exO te er y).nv = true ∨ ∃ e, exO te er y = .rs e
  | .ok r => .inl (h r)
  | .er e => .inr ⟨_, rfl⟩
def atX {E T : Type} (l C : Addr) (ns : List Str) (os : T → List O) : Xr E T → O
  | .ok t => .at l C ns (os t)
  | .er _ => .at l C [] []
def osX {E T : Type} (os : T → List O) : Xr E T → List O
  | .ok t => os t
  | .er _ => []
def erX {E T : Type} (te : E → Er) : Xr E T → Option Er
  | .ok _ => none
  | .er e => some (te e)
theorem atX_nv {E T : Type} {l C : Addr} {ns : List Str} {os : T → List O} (h : ∀ t, O.nvL (os t) = true) : ∀ y : Xr E T, (atX l C ns os y).nv = true
  | .ok t => h t
  | .er _ => rfl
theorem atX_at {E T : Type} {l C : Addr} {ns : List Str} {os : T → List O} : ∀ y : Xr E T, ∃ C' ns' os', atX l C ns os y = .at l C' ns' os'
  | .ok t => ⟨_, _, _, rfl⟩
  | .er _ => ⟨_, _, _, rfl⟩
theorem atX_ok {E T : Type} {te : E → Er} {l C : Addr} {ns : List Str} {os : T → List O} : ∀ y : Xr E T, erX te y = none → atX l C ns os y = .at l C ns (osX os y)
  | .ok _, _ => rfl
  | .er _, h => nomatch h
theorem erX_ex {E T : Type} {te : E → Er} : ∀ y : Xr E T, (erX te y = none ∧ exO te (fun _ => .fz .non) y = .fz .non) ∨ ∃ e, erX te y = some e ∧ exO te (fun _ => .fz .non) y = .rs e
  | .ok _ => .inl ⟨rfl, rfl⟩
  | .er _ => .inr ⟨_, rfl, rfl⟩
end M
namespace M
open PySem L2 PySem.Spec PyProof.Rows
/-! ### try: .. except C as n: a suite that hands back -/
def tryR {V E R S : Type} : Ou V Unit (Xr E R) → (V → Option S) → (R → Option S) → (E → Option S) → Option S
  | .nx v, k, _, _ => k v
  | .rt (.ok r), _, kr, _ => kr r
  | .rt (.er e), _, _, kx => kx e
  | _, _, _, _ => none
theorem le_none : ∀ ρ : Slots, Le ρ (List.replicate ρ.length none)
  | [] => .nil
  | _ :: ρ => .no (le_none ρ)
theorem le_blank {x : Option O} : ∀ (ρ : Slots) (i : Nat), Le (ρ.set i x) ((List.replicate ρ.length none).set i x)
  | [], _ => .nil
  | _ :: ρ, 0 => .eq (le_none ρ)
  | _ :: ρ, i + 1 => .no (le_blank ρ i)
section
variable {X : Cx} {ρ : Slots} {G : Go}
theorem m_tryO {E R V : Type} {xc n : Str} {C : Addr} {i : Nat} {body suite : List Stmt} {b0 : Stmt} {np pos pos' : Pos} {out : Ou V Unit (Xr E R)} (Rn : V → Slots) (te : E → Er) (er : R → O)
    (hN : X.N.Nodup) (hi : X.N[i]? = some n) (hln : X.env.kindOf n = some .local) (hc : Names X xc (.ref C)) (hne : ∀ r e, er r ≠ .rs e) (hnf : ∀ e, (te e).fld = none)
    (hb : ∀ (pn : List (Addr × Obj)) (xe : Value → Shared → Prop), PassesOwn (model X.prog X.w) X.A X.env xe → MS (X.tr pn xe) ρ body (goO Rn (fun _ : Unit => []) (exO te er) out))
    (kb : ∀ w, out ≠ .bk w) (kc : ∀ w, out ≠ .ct w) (kr : ∀ r, out = .rt (.ok r) → G.rt (er r))
    (hm : ∀ e, out = .rt (.er e) → PySem.W.exmOne X.K (.ref (te e).C) (.ref C) = some true)
    (hs : ∀ e, out = .rt (.er e) → ∀ (a : Addr) (oe : Obj) (pn : List (Addr × Obj)), Zc (.ref (te e).C) none oe → (∃ vs, oe.data = .fields vs) → MS (X.suite a ((a, oe) :: pn)) ((List.replicate X.N.length none).set i (some (.pt a))) (b0 :: suite) { rt := fun o => G.rt o ∧ ∀ e, o ≠ .rs e })
    (kn : ∀ v τ, out = .nx v → Le τ (Rn v) → G.nx τ)
    (e1 : X.stack = X.env :: X.outer := by rfl) (e2 : X.env.frame = some X.env.locals := by rfl) : MS1 X ρ (.Try body [.ExceptHandler (some (.Name xc np)) (some n) (b0 :: suite) pos'] [] [] pos) G := .mk fun Z0 F Z σ H D s g => by
  obtain ⟨Wout, tk, kk⟩ := g.ex
  refine PS_w (ps_try_as (i := i) (tb := fun W => fun D σ H => ∀ pn xe, Takes (X.tr pn xe) W → PassesOwn (model X.prog X.w) X.A X.env xe → wS (X.tr pn xe) body D σ H)
    (ts := fun a cls d => fun D σ H => ∀ (oe : Obj) (pn : List (Addr × Obj)), Zc cls d oe → (∃ vs, oe.data = .fields vs) → wS (X.suite a ((a, oe) :: pn)) (b0 :: suite) D σ H) e1 e2 hN hi hln hc tk
    (fun W pn xe t po => ⟨fun pins s σ H D I h => h pn xe t po pins s I⟩) (fun a oe cls d pn hz hf => ⟨fun pins s σ H D I h => h oe pn hz hf pins s I⟩)) ?_
  intro pn xe t po
  refine (hb pn xe po).run Z0 F Z σ H D s ⟨fun τ Z σ H ⟨v, e, l⟩ s' => g.nx τ Z σ H (kn v τ e l) s', fun _ _ _ _ ⟨w, e, _⟩ => absurd e (kb w), fun _ _ _ _ ⟨w, e, _⟩ => absurd e (kc w), fun o v Z' H' A k g' r n => ?_, fun _ _ _ _ _ _ z => z.elim, ⟨_, t, fun e ρ' Z' σ' H' k s' => ?_⟩⟩
  · obtain ⟨x, e, rfl⟩ := k
    cases x with
    | ok x => exact g.rt _ v Z' H' A (kr x e) g' r n
    | er x => cases r
  · obtain ⟨x, eo, ex⟩ := k
    cases x with
    | ok x => exact absurd ex.symm (hne x e)
    | er x =>
      cases ex
      unfold Thrown
      rw [hnf x]
      refine ⟨true, hm x eo, fun _ a na oe pn' hz hf => ?_, fun z => nomatch z⟩
      intro pins s2 I2
      have ln : σ'.length = X.N.length := by
        have := I2.len
        rw [List.length_set] at this
        exact this
      have lr : ρ'.length = X.N.length := by rw [← s'.len, ln]
      have hl : i < ρ'.length := by
        rw [lr]
        exact (List.getElem?_eq_some_iff.mp hi).1
      have s3 := s'.put (v := .ref a) (Gr.refl s'.ex) (RepO.pt (a := a)) .nil hl
      have le := le_blank (x := some (O.pt a)) ρ' i
      rw [lr] at le
      exact (hs x eo a oe pn' hz hf).run Z0 F Z' _ H' { nx := fun σ' H' => D.nx (σ'.set i none) H', rt := D.rt, bk := fun σ' H' => D.bk (σ'.set i none) H', ct := fun σ' H' => D.ct (σ'.set i none) H' } (s3.le le) ⟨fun _ _ _ _ z => z.elim, fun _ _ _ _ z => z.elim, fun _ _ _ _ z => z.elim, fun o v Z H A k g' r n => g.rt o v Z H A k.1 g' r n, fun _ _ _ _ _ _ z => z.elim, GX.never fun e z => z.2 e rfl⟩ pins s2 I2
end
/-! ### isinstance of the error that a suite holds -/
section
variable {X : Cx} {ρ : Slots} {a C E : Addr} {oe : Obj} {pn : List (Addr × Obj)} {i : Nat} {n nm : Str} {p0 p1 p2 pos : Pos} {b : Bool} {T : String}
theorem me_isiE (c : ExcC X.K C) (hz : Zc (.ref C) none oe) (hf : ∃ vs, oe.data = .fields vs) (hg : Gl X "isinstance") (hm : X.mg "isinstance" = none) (hE : X.mg nm = some (.ref E)) (p : PE (X.suite a ((a, oe) :: pn)) (.Name n p2) (tVar i)) (hi : ρ[i]? = some (some (.pt a))) (hk : PySem.W.kitOne X.K (.ref C) (.ref E) = some b) (hgE : Gl X nm := by rfl) (hd : (nm == ("__debug__" : Str)) = false := by decide) :
    ME (X.suite a ((a, oe) :: pn)) ρ (.Call (.Name "isinstance" p0) [.Name n p2, .Name nm p1] [] pos) (.fz (.bl b)) := .mk fun Z0 F Z σ H s Q q =>
  PE_w (pe_callB (call_isE c hz hf) hg hm (by decide +kernel) (pa_cons pe_w (pa_cons (pe_glob (v := .ref E) hgE hE rfl hd) pa_nil) rfl) (he := rfl)) ((mv_var p hi).run Z0 F Z σ H s _ fun v Z1 H1 A1 g1 r1 => by
    cases r1
    exact ⟨.ref E, .ref E, b, rfl, fun u r => r, hk, q _ Z1 H1 [] g1 (.fz (.bl b)) .nil⟩)
theorem me_isiEB (c : ExcC X.K C) (hz : Zc (.ref C) none oe) (hf : ∃ vs, oe.data = .fields vs) (hg : Gl X "isinstance") (hm : X.mg "isinstance" = none) (hT : PE (X.suite a ((a, oe) :: pn)) (.Name nm p1) (tC (.ty T))) (p : PE (X.suite a ((a, oe) :: pn)) (.Name n p2) (tVar i)) (hi : ρ[i]? = some (some (.pt a))) (hk : PySem.W.kitOne X.K (.ref C) (.type T) = some b) :
    ME (X.suite a ((a, oe) :: pn)) ρ (.Call (.Name "isinstance" p0) [.Name n p2, .Name nm p1] [] pos) (.fz (.bl b)) := .mk fun Z0 F Z σ H s Q q =>
  PE_w (pe_callB (call_isE c hz hf) hg hm (by decide +kernel) (pa_cons pe_w (pa_cons hT pa_nil) rfl) (he := rfl)) ((mv_var p hi).run Z0 F Z σ H s _ fun v Z1 H1 A1 g1 r1 => by
    cases r1
    exact ⟨.ty T, .type T, b, rfl, fun u r => r, hk, q _ Z1 H1 [] g1 (.fz (.bl b)) .nil⟩)
end
end M
namespace M
open PySem L2 PySem.Spec PyProof.Rows
/-! ### a text against a dict -/
section
open PySem.SeqAt
open PySem.AutoSeq1 (wpAny_loadPart')
open PySem.MeetsSeq PySem.MeetsSeq2 PySem.MeetsSeq3
theorem dict_eq_declines_str (l : Addr) (es : Array DictEntry) (ep : Nat) (dd : Option Addr) (sl : Array (Option Value)) (b : Str) (u : Tok) :
    Meets (Builtin.«dict.__eq__» ⟨[.ref l, .str b u], []⟩) (fun _ R s => s.heap.get? l = some { cls := .type "dict", dict := dd, data := .dict es ep, slots := sl } ∧ R (.ok (.ret .notImplemented)) s) :=
  .of_wp fun prog w A R s h => by obtain ⟨hp, g, d, tk, os⟩ := s; obtain ⟨hl, h⟩ := h; have f1 := F.sub_str_dict; wp_walk using wpAny_loadPart' hl; exact ⟨_, rfl, h⟩
theorem str_eq_declines_dict (b : Str) (u : Tok) (l : Addr) (es : Array DictEntry) (ep : Nat) (dd : Option Addr) (sl : Array (Option Value)) :
    Meets (Builtin.«str.__eq__» ⟨[.str b u, .ref l], []⟩) (fun _ R s => s.heap.get? l = some { cls := .type "dict", dict := dd, data := .dict es ep, slots := sl } ∧ R (.ok (.ret .notImplemented)) s) :=
  .of_wp fun prog w A R s h => by obtain ⟨hp, g, d, tk, os⟩ := s; obtain ⟨hl, h⟩ := h; wp_walk using wpAny_loadPart' hl, wpAny_load hl; exact ⟨_, rfl, h⟩
theorem RcAt.str_dict {A : Around} {s : Shared} {l : Addr} {o : Obj} {es : Array DictEntry} {ep : Nat} (b : Str) (u : Tok) (ho : s.heap.get? l = some o) (hc : o.cls = .type "dict") (hd : o.data = .dict es ep) (hu : A.units < cLine) : RcAt A s (.str b u) (.ref l) false := fun prog w E Q h => by
  obtain ⟨cls, dd, data, sl⟩ := o
  simp only at hc hd
  subst hc hd
  exact rc_eq_decline_or (k := false) (typeIs_str s b u) ⟨_, ho, rfl⟩ (by decide) PySem.F.sub_dict_str F.slot_str_eq F.slot_dict_eq_refl
    (fun _ hq => call_meets F.slot_str_eq (typeIs_str s b u) F.entry_str_eq (F.args_str_eq_2 _ _) (str_eq_declines_dict b u l es ep dd sl) ⟨ho, hq⟩)
    (fun _ hq => call_meets F.slot_dict_eq_refl ⟨_, ho, rfl⟩ F.entry_dict_eq (F.args_dict_eq_2 _ _) (dict_eq_declines_str l es ep dd sl b u) ⟨ho, hq⟩)
    (fun _ hq => wpAny_of_eq (rfl : isSame (.str b u) (.ref l) = pure false) hq) (.inr hu) h
theorem EqAt.str_dict {A : Around} {s : Shared} {l : Addr} {o : Obj} {es : Array DictEntry} {ep : Nat} (b : Str) (u : Tok) (ho : s.heap.get? l = some o) (hc : o.cls = .type "dict") (hd : o.data = .dict es ep) (hu : A.units < cLine) : EqAt A s (.str b u) (.ref l) false := fun prog w E Q h => by
  unfold eqBool
  refine wpAny_holding ?_
  refine wpAny_ite_split (fun hab => absurd (eq_of_beq hab) nofun) (fun _ => ?_)
  exact wpAny_bind (M.RcAt.str_dict b u ho hc hd hu prog w E _ (wpAny_truthy_bool h))
end
/-! ### a thing of any kind among texts -/
def D.amS : D → List Str → Bool
  | .str x, xs => xs.contains x
  | _, _ => false
def D.inOk : D → Bool
  | .ty _ => false
  | .opq _ => false
  | .ins _ _ _ => false
  | _ => true
def eqSD (d : D) (z : Str) : Bool := match d with
  | .str w => z == w
  | _ => false
section
variable {X : Cx} {pins : List (Addr × Obj)} {σ : L2.St} {H Z : Hp} {s : Shared}
theorem eqS_at (I : Inv X pins σ H s) (hu : X.A.in1.units < cLine) {v : V} {d : D} {u : Value} (r : Rep X.K Z v d) (e : Ex Z H) (rv : RelV v u) (k : d.inOk = true) (z : Str) (t : Tok) : SeqAt.EqAt X.A.in1 s (.str z t) u (eqSD d z) := by
  cases r with
  | non =>
    obtain rfl : u = Value.none := rv
    exact SeqAt.EqAt.str_none z t
  | bl b =>
    obtain rfl : u = Value.bool b := rv
    exact SeqAt.EqAt.str_bool z t b
  | int i =>
    obtain ⟨t', rfl⟩ := rv
    exact SeqAt.EqAt.str_int z t i t'
  | str x =>
    obtain ⟨t', rfl⟩ := rv
    exact SeqAt.EqAt.str_str z t x t'
  | ty n => exact nomatch k
  | opq a => exact nomatch k
  | ins h r => exact nomatch k
  | tup h r =>
    cases rv
    obtain ⟨its, r2, pl, _⟩ := I.tuple (ex_t e h)
    exact SeqAt.EqAt.str_tuple z t pl hu
  | lst h r =>
    cases rv
    obtain ⟨its, r2, pl, _⟩ := I.list (ex_l e h)
    exact SeqAt.EqAt.str_list z t pl.isList hu
  | dct h r =>
    cases rv
    obtain ⟨_, _, vs, _, x⟩ := I.hok _ _ (e _ _ h)
    obtain ⟨o, es, ep, ho, hx, hd, _⟩ := id x
    exact EqAt.str_dict z t ho hx.1 hd hu
  | dctT h r =>
    cases rv
    obtain ⟨_, _, xs, _, o, es, ep, ho, hx, hd, _⟩ := I.hok _ _ (e _ _ h)
    exact EqAt.str_dict z t ho hx.1 hd hu
def eqSV (d : D) : Value → Bool
  | .str z _ => eqSD d z
  | _ => false
theorem any_eqS {d : D} : ∀ {xs : List Str} {its : List Value}, Vals (xs.map V.str) its → its.any (eqSV d) = d.amS xs
  | [], _, h => by
    cases h
    cases d <;> rfl
  | x :: xs, _, h => by
    cases h with
    | cons a b =>
      obtain ⟨t, rfl⟩ := a
      rw [List.any_cons, any_eqS b]
      cases d with
      | str w =>
        show (x == w || xs.contains w) = (x :: xs).contains w
        rw [List.contains_cons]
        congr 1
        exact BEq.comm
      | _ => rfl
theorem vals_str {xs : List Str} {its : List Value} (h : Vals (xs.map V.str) its) : ∀ y ∈ its, ∃ z t, y = .str z t := by
  induction xs generalizing its with
  | nil =>
    cases h
    exact fun _ m => nomatch m
  | cons x xs ih =>
    cases h with
    | cons a b =>
      obtain ⟨t, rfl⟩ := a
      intro y m
      rcases List.mem_cons.mp m with rfl | m
      · exact ⟨_, _, rfl⟩
      · exact ih b y m
def rInS (K : PySem.W.Frag) (neg : Bool) : R2 := fun x y H Q => ∃ (p : Addr) (d : D) (xs : List Str) (Z : Hp), y = .ref p ∧ SqT K H p (xs.map V.str) ∧ Ex Z H ∧ Rep K Z x d ∧ d.inOk = true ∧ Q (.bl (if neg then !(d.amS xs) else d.amS xs)) H
theorem op_inSD (hu : X.A.units + 64 < cLine) : OpR X (compareOp .In) (rInS X.K false) := by
  intro pins s σ H x y v u Q I rx ry h
  obtain ⟨p, d, xs, Z, rfl, hq, ez, rd, hk, q⟩ := h
  cases ry
  obtain ⟨its, r, pl, hz⟩ := I.tuple hq
  have hu1 : X.A.in1.units < cLine := by
    show X.A.units + 1 < cLine
    omega
  refine SeqAt.in_tupleAt (eqSV d) pl (fun w hw => ?_) ⟨.bl _, H, I, rfl, ?_⟩
  · obtain ⟨z, t, rfl⟩ := vals_str r w (by simpa using hw)
    exact eqS_at I hu1 rd ez rx hk z t
  · rw [show its.toArray.any (eqSV d) = its.any (eqSV d) by simp, any_eqS r]
    exact q
theorem op_niSD (hu : X.A.units + 64 < cLine) : OpR X (compareOp .NotIn) (rInS X.K true) := by
  intro pins s σ H x y v u Q I rx ry h
  obtain ⟨p, d, xs, Z, rfl, hq, ez, rd, hk, q⟩ := h
  cases ry
  obtain ⟨its, r, pl, hz⟩ := I.tuple hq
  have hu1 : X.A.in1.units < cLine := by
    show X.A.units + 1 < cLine
    omega
  refine SeqAt.notIn_tupleAt (eqSV d) pl (fun w hw => ?_) ⟨.bl _, H, I, rfl, ?_⟩
  · obtain ⟨z, t, rfl⟩ := vals_str r w (by simpa using hw)
    exact eqS_at I hu1 rd ez rx hk z t
  · rw [show its.toArray.any (eqSV d) = its.any (eqSV d) by simp, any_eqS r]
    exact q
end
section
variable {X : Cx} {ρ : Slots} {a b : Expr} {d : D} {xs : List Str} {pos p1 p2 p3 : Pos} {x : Str}
theorem inS_core {neg : Bool} (ha : ME X ρ a (.fz d)) (hb : MU X ρ b (xs.map .str)) (hk : d.inOk = true) {Z0 F Z : Hp} {σ : L2.St} {H : Hp} (s : StR X.K ρ Z0 F Z σ H) {Q : VK} (q : ∀ Z' H', Gr Z H Z' H' → Q (.bl (if neg then !(d.amS xs) else d.amS xs)) H') : tOp (rInS X.K neg) (wE X a) (wE X b) σ H Q :=
  ha.run Z0 F Z σ H s _ fun v Z1 H1 A1 g1 r1 n1 => by
    cases r1 with
    | fz r1 =>
      refine hb.run Z0 F Z1 σ H1 (s.grow g1) _ fun l vs Z2 H2 g2 l2 r2 => ?_
      have e2 := r2.strs
      subst e2
      exact ⟨l, d, xs, Z1, rfl, l2, g1.zh.trans g2.hh, r1, hk, q Z2 H2 (g1.trans g2)⟩
theorem mt_inDS (hu : X.A.units + 64 < cLine) (hk : d.inOk = true) (ha : ME X ρ a (.fz d)) (hb : MU X ρ b (xs.map .str)) (hm : behindInMarks .In b = false := by rfl) : MT X ρ (.Compare a [.In] [b] pos) (d.amS xs) := .mk fun Z0 F Z σ H s Q q =>
  PT_w (pt_cmpR (op_inSD hu) pe_w pe_w hm) (inS_core (neg := false) ha hb hk s fun Z' H' g => ⟨_, rfl, q Z' H' g⟩)
theorem mt_niDS (hu : X.A.units + 64 < cLine) (hk : d.inOk = true) (ha : ME X ρ a (.fz d)) (hb : MU X ρ b (xs.map .str)) (hm : behindInMarks .NotIn b = false := by rfl) : MT X ρ (.Compare a [.NotIn] [b] pos) (!(d.amS xs)) := .mk fun Z0 F Z σ H s Q q =>
  PT_w (pt_cmpR (op_niSD hu) pe_w pe_w hm) (inS_core (neg := true) ha hb hk s fun Z' H' g => ⟨_, rfl, q Z' H' g⟩)
theorem me_inDS (hu : X.A.units + 64 < cLine) (hk : d.inOk = true) (ha : ME X ρ a (.fz d)) (hb : MU X ρ b (xs.map .str)) (hm : behindInMarks .In b = false := by rfl) : ME X ρ (.Compare a [.In] [b] pos) (.fz (.bl (d.amS xs))) := .mk fun Z0 F Z σ H s Q q =>
  PE_w (pe_cmpR (op_inSD hu) pe_w pe_w hm) (inS_core (neg := false) ha hb hk s fun Z' H' g => q _ Z' H' [] g (.fz (.bl _)) .nil)
theorem me_niDS (hu : X.A.units + 64 < cLine) (hk : d.inOk = true) (ha : ME X ρ a (.fz d)) (hb : MU X ρ b (xs.map .str)) (hm : behindInMarks .NotIn b = false := by rfl) : ME X ρ (.Compare a [.NotIn] [b] pos) (.fz (.bl (!(d.amS xs)))) := .mk fun Z0 F Z σ H s Q q =>
  PE_w (pe_cmpR (op_niSD hu) pe_w pe_w hm) (inS_core (neg := true) ha hb hk s fun Z' H' g => q _ Z' H' [] g (.fz (.bl _)) .nil)
/-- {}, frozen -/
theorem me_dict0 : ME X ρ (.Dict [] [] pos) (.fz (.dct [] [])) := .mk fun Z0 F Z σ H s Q q => PE_w pe_dnewK fun p hp => by
  refine q (.ref p) _ _ [] (Gr.newz (o := .dK []) s.ex hp) (.fz (.dct (ks := []) (vs := []) upd_same .nil)) .nil
/-- s.upper() -/
theorem me_upper (hz : x.length ≤ 5592405) (ha : ME X ρ a (.fz (.str x))) (hbase : attributeBase a "upper" X.env (eval a X.env) = eval a X.env := by rfl) (hline : (p1.endLine == pos.line) = true := by rfl) : ME X ρ (.Call (.Attribute a "upper" p1) [] [] pos) (.fz (.str (Txt.upper x))) := .mk fun Z0 F Z σ H s Q q =>
  PE_w (pe_upper pe_w hbase hline) (ha.run Z0 F Z σ H s _ fun v Z1 H1 A1 g1 r1 n1 => by
    cases r1 with
    | fz r1 =>
      cases r1
      exact ⟨⟨_, rfl⟩, x, rfl, rfl, hz, q _ Z1 H1 [] g1 (.fz (.str _)) .nil⟩)
end
theorem me_onA {X : Cx} {ρ : Slots} {a : Expr} {o r : O} {f : Str} {pos : Pos} (m : MV X ρ a o) (h : MV X ρ a o → ME X ρ (.Attribute a f pos) r) : ME X ρ (.Attribute a f pos) r := h m
theorem kit_false {K : PySem.W.Frag} {C E : Addr} (h0 : PySem.W.mroIn K C (.ref C) = some true) (h1 : PySem.W.isClsIn K E = true) (h2 : PySem.W.typeIn K (.ref E) = some (.type "type")) (h3 : PySem.W.mroIn K C (.ref E) = some false) : PySem.W.kitOne K (.ref C) (.ref E) = some false := by
  unfold PySem.W.kitOne
  split
  · rename_i h
    have h := eq_of_beq h
    cases h
    rw [h0] at h3
    cases h3
  · have e : PySem.W.kitCls K (.ref C) (.ref E) = if ((PySem.W.clsIn K E).isSome && PySem.W.typeIn K (.ref E) == some (.type "type")) = true then PySem.W.mroIn K C (.ref E) else none := rfl
    rw [e, if_pos, h3]
    rw [h2]
    show ((PySem.W.clsIn K E).isSome && _) = true
    rw [show (PySem.W.clsIn K E).isSome = true from h1]
    decide
theorem kit_ty {K : PySem.W.Frag} {C : Addr} {T : String} {b : Bool} (h1 : PySem.W.kitMeta T = true) (h3 : PySem.W.mroIn K C (.type T) = some b) : PySem.W.kitOne K (.ref C) (.type T) = some b := by
  unfold PySem.W.kitOne
  split
  · rename_i h
    have h := eq_of_beq h
    cases h
  · have e : PySem.W.kitCls K (.ref C) (.type T) = if PySem.W.kitMeta T = true then PySem.W.mroIn K C (.type T) else none := rfl
    rw [e, if_pos h1, h3]
end M
namespace M
open PySem L2 PySem.Spec PyProof.Rows
/-! ### things of any kind, more -/
def ixD : D → Int → Option D
  | .lst ds, k => L2.atI ds k
  | .tup ds, k => L2.atI ds k
  | _, _ => none
section
variable {X : Cx} {ρ : Slots} {a b : Expr} {d y : D} {ds : List D} {k : Int} {pos p0 p1 : Pos} {x z : Str}
theorem me_ixD (h : ixD d k = some y) (ha : ME X ρ a (.fz d)) (hb : ME X ρ b (.fz (.int k))) (hp : PlainIx b := by exact fun _ _ => rfl) : ME X ρ (.Subscript a b pos) (.fz y) := by
  cases d with
  | lst ds => exact me_ixL (MV.l (ME.v ha) (.fz _)) hb h hp
  | tup ds => exact me_ixT (MV.u (ME.v ha) (.fz _)) hb h hp
  | _ => cases h
/-- list(t), t a tuple -/
theorem me_listT (hg : Gl X "list") (hm : X.mg "list" = none) (ha : MU X ρ a ds) (n1 : NS X a := by exact fun _ => rfl) : ME X ρ (.Call (.Name "list" p0) [a] [] pos) (.lst (ds.map .fz)) := .mk fun Z0 F Z σ H s Q q =>
  PE_w (pe_callTy call_list_of hg hm (by decide +kernel) (pa_cons pe_w pa_nil (n1 _)) (he := n1 _)) (ha.run Z0 F Z σ H s _ fun l vs Z1 H1 g1 l1 r1 => ⟨l, vs, rfl, .inr l1, fun p hp =>
    q _ Z1 _ [p] (g1.trans (Gr.new g1.zh hp)) (.lst upd_same r1.own) (new_one (g1.hh.free hp) (g1.zh.free hp))⟩)
theorem strs_own {K : PySem.W.Frag} {Z F H : Hp} : ∀ ys : List Str, RepOL K Z F H (ys.map V.str) ((ys.map D.str).map .fz) []
  | [] => .nil
  | y :: ys => .cons (A := []) (B := []) (.fz (.str y)) (strs_own ys)
/-- s.split(z) -/
theorem me_split (hz : (z.length == 0) = false ∧ x.length + 2 ≤ sizeLine) (ha : ME X ρ a (.fz (.str x))) (hb : ME X ρ b (.fz (.str z))) (hs : starEach [b] X.env = [(false, eval b X.env)] := by rfl) (hbase : attributeBase a "split" X.env (eval a X.env) = eval a X.env := by rfl) (hline : (p1.endLine == pos.line) = true := by rfl) :
    ME X ρ (.Call (.Attribute a "split" p1) [b] [] pos) (.lst (((Txt.split x z).map D.str).map .fz)) := .mk fun Z0 F Z σ H s Q qq =>
  PE_w (pe_split pe_w pe_w hs hbase hline) (ha.run Z0 F Z σ H s _ fun v Z1 H1 A1 g1 r1 n1 => by
    cases r1 with
    | fz r1 =>
      cases r1
      refine ⟨⟨_, rfl⟩, hb.run Z0 F Z1 σ H1 (s.grow g1) _ fun v Z2 H2 A2 g2 r2 n2 => ?_⟩
      cases r2 with
      | fz r2 =>
        cases r2
        refine ⟨x, z, rfl, rfl, hz.1, hz.2, fun p hp => ?_⟩
        have g3 := g1.trans g2
        exact qq _ Z2 _ [p] (g3.trans (Gr.new g2.zh hp)) (.lst upd_same (strs_own _)) (new_one (g3.hh.free hp) (g2.zh.free hp)))
end
end M
namespace M
open PySem L2 PySem.Spec PyProof.Rows
/-- behind a loop that is left by break alone, in a block without ways out -/
def ouV {V W R S : Type} : Ou V W R → (V → Option S) → Option S
  | .nx v, k => k v
  | _, _ => none
/-! ### a if c else b; own lists under other names -/
section
variable {X : Cx} {ρ : Slots} {a b c : Expr} {o : O} {os : List O} {sts : List Stmt} {G : Go} {k : Bool} {pos : Pos} {x : Str} {i j : Nat} {l : Addr}
theorem me_ifE (hc : MT X ρ c k) (ha : k = true → ME X ρ a o) (hb : k = false → ME X ρ b o) : ME X ρ (.IfExp c a b pos) o := .mk fun Z0 F Z σ H s Q q =>
  PE_w (pe_ifExp pt_w pe_w pe_w) (hc.run Z0 F Z σ H s _ fun Z1 H1 g1 => by
    cases k with
    | true => exact (ha rfl).run Z0 F Z1 σ H1 (s.grow g1) Q fun v Z2 H2 A g2 r n => q v Z2 H2 A (g1.trans g2) r ⟨n.1, fun a m => ⟨g1.hh.free (n.2 a m).1, (n.2 a m).2⟩⟩
    | false => exact (hb rfl).run Z0 F Z1 σ H1 (s.grow g1) Q fun v Z2 H2 A g2 r n => q v Z2 H2 A (g1.trans g2) r ⟨n.1, fun a m => ⟨g1.hh.free (n.2 a m).1, (n.2 a m).2⟩⟩)
/-- an own list's place is known from here on -/
theorem ms_toLoc (hi : ρ[i]? = some (some (.lst os))) (h : ∀ a, MS X (ρ.set i (some (.loc a (.lst os)))) sts G) : MS X ρ sts G := .mk fun Z0 F Z σ H D s g => by
  obtain ⟨A, h1, h2, h3⟩ := s.st
  obtain ⟨v, B, q1, q2, q3, q4, q5⟩ := h1.at hi h2
  cases q2 with
  | @lst a vs _ B1 ha r =>
    refine (h a).run Z0 F Z σ H D ?_ g
    obtain ⟨A', r1, r2, r3⟩ := q5 (Z' := Z) (H' := H) (v' := .ref a) (o' := .loc a (.lst os)) (B' := a :: B1) (Ex.refl _) (fun _ _ _ _ e => e) (.loc (.lst ha r)) q3 fun b m _ => m
    rw [set_same q1] at r1
    exact ⟨s.gr, A', r1, r2, fun b m => (r3 b m).elim (fun z => h3 b z.1) fun z => h3 b (q4 b z)⟩
/-- such a list's address, as a thing -/
theorem me_opq (p : PE X (.Name x pos) (tVar i)) (hi : ρ[i]? = some (some (.loc l o))) : ME X ρ (.Name x pos) (.fz (.opq l)) := .mk fun Z0 F Z σ H s Q q => by
  refine (mv_var p hi).run Z0 F Z σ H s Q fun v Z1 H1 A g r => ?_
  cases r with
  | loc r => exact q _ Z1 H1 [] g (.fz (.opq _)) .nil
/-- the place under another name -/
theorem mq_opq (p : PE X (.Name x pos) (tVar j)) (hj : ρ[j]? = some (some (.fz (.opq l)))) (hi : ρ[i]? = some (some (.loc l o))) : MQ X ρ (.Name x pos) o (fun o' => ρ.set i (some (.loc l o'))) := .mk fun Z0 F Z σ H T s Q q => by
  obtain ⟨v, e1, f⟩ := s.foc hi
  obtain ⟨ev, f2⟩ := f.unloc
  obtain ⟨w, e2, f3⟩ := s.foc hj
  obtain ⟨A3, f3⟩ := f3
  have ew : w = .ref l := by
    cases f3.rp with
    | fz r => cases r; rfl
  subst ev ew
  exact PE_w p ⟨_, e2, q (.ref l) Z H (Gr.refl s.gr.zh) f2⟩
end
end M
namespace M
open PySem L2 PySem.Spec PyProof.Rows
/-! ### xs[c::k] -/
def stpI (lo k : Int) (n : Nat) : List Nat := sliceRange (sliceBounds (some lo) none (some k) n).1 (sliceBounds (some lo) none (some k) n).2.1 (sliceBounds (some lo) none (some k) n).2.2
def stp {α : Type} (xs : List α) (lo k : Int) : List α := (stpI lo k xs.length).filterMap (xs[·]?)
theorem vals_pick {xs : List V} {its : List Value} (h : Vals xs its) : ∀ is : List Nat, Vals (is.filterMap (xs[·]?)) (is.filterMap (its[·]?))
  | [] => .nil
  | i :: is => by
    have hl := h.length
    rw [List.filterMap_cons, List.filterMap_cons]
    cases e : xs[i]? with
    | none =>
      have : its[i]? = none := by
        rw [List.getElem?_eq_none_iff] at e ⊢
        omega
      rw [this]
      exact vals_pick h is
    | some x =>
      obtain ⟨u, e2, r⟩ := h.get e
      rw [e2]
      exact .cons r (vals_pick h is)
theorem rep_pick {K : PySem.W.Frag} {Z : Hp} {vs : List V} {ds : List D} (h : RepL K Z vs ds) : ∀ is : List Nat, RepL K Z (is.filterMap (vs[·]?)) (is.filterMap (ds[·]?))
  | [] => .nil
  | i :: is => by
    have hl := h.length
    rw [List.filterMap_cons, List.filterMap_cons]
    cases e : ds[i]? with
    | none =>
      have : vs[i]? = none := by
        rw [List.getElem?_eq_none_iff] at e ⊢
        omega
      rw [this]
      exact rep_pick h is
    | some d =>
      obtain ⟨v, e2, r⟩ := h.get e
      rw [e2]
      exact .cons r (rep_pick h is)
section
variable {X : Cx}
def tStp (K : PySem.W.Frag) (lo k : Int) (te : TE) : TE := fun σ H Q => te σ H fun x H1 => ∃ a xs, x = .ref a ∧ SqL K H1 a xs ∧ ∀ p, H1 p = none → Q (.ref p) (upd H1 p (.lst (stp xs lo k)))
theorem pe_stp {e : Expr} {te : TE} {lo k : Int} {k1 k2 : Nat} {p1 p2 p3 pos : Pos} (h0 : k ≠ 0) (he : PE X e te) : PE X (.Subscript e (.Slice (some (.Constant (.int lo) k1 p1)) none (some (.Constant (.int k) k2 p2)) p3) pos) (tStp X.K lo k te) := by
  refine ⟨fun pins s σ H Q I h => ?_⟩
  refine Subscript_ (thn (he.run pins s σ H _ I h) fun v s1 ⟨x, H1, I1, r1, q1⟩ => ?_)
  obtain ⟨a, xs, ex, hx, q⟩ := q1
  subst ex
  cases r1
  have hlo : PO X (some (.Constant (.int lo) k1 p1)) (tPart (tC (.int lo))) := po_some pe_int
  have hst : PO X (some (.Constant (.int k) k2 p2)) (tPart (tC (.int k))) := po_some pe_int
  refine wpAny_Slice (thn (hlo.run pins s1 σ H1 (fun o H2 => o = some lo ∧ H2 = H1) I1 ⟨lo, rfl, rfl, rfl⟩) fun vl s2 ⟨l, H2, I2, pl, el, e2⟩ => ?_)
  subst el e2
  refine thn (po_none.run pins s2 σ H2 (fun o H3 => o = none ∧ H3 = H2) I2 ⟨rfl, rfl⟩) fun vu s3 ⟨u, H3, I3, pu, eu, e3⟩ => ?_
  subst eu e3
  refine thn (hst.run pins s3 σ H3 (fun o H4 => o = some k ∧ H4 = H3) I3 ⟨k, rfl, rfl, rfl⟩) fun vs s4 ⟨o, H4, I4, ps, eo, e4⟩ => ?_
  subst eo e4
  have I5 : Inv X pins σ H4 { s4 with heap := s4.heap.push { cls := .type "slice", data := .fields #[vl, vu, vs] } } := I4.kept (t' := s4.toks) fun b ob q => Heap.get?_push_of_some _ q
  obtain ⟨its, r, ht, hz⟩ := I5.list hx
  have hlen := r.length
  show wpAny (model X.prog X.w) X.A (subscriptTail e (.Slice (some (.Constant (.int lo) k1 p1)) none (some (.Constant (.int k) k2 p2)) p3) (.ref a) (.ref s4.heap.objs.size)) (EP X pins σ Q) X.xe { s4 with heap := s4.heap.push { cls := .type "slice", data := .fields #[vl, vu, vs] } }
  refine tail_any (ops := [.ref a, .ref s4.heap.objs.size]) ht.isList.typeIs (PySem.slot_list_getitem.lookup) ?_ (by with_unfolding_all rfl)
  refine wpAny_getItem_list_slice ht.isList (Heap.IsSliceOf.new _ vl vu vs) pl pu ps (fun z => h0 (Option.some.inj z)) ?_ (by rw [List.size_toArray]; omega)
  have ep : slicePick its.toArray (some lo) none (some k) = (stp its lo k).toArray := by
    unfold slicePick stp stpI
    simp
  have hz2 : (stp xs lo k).length ≤ sizeLine := by
    have h1 := slicePick_size_le its.toArray (some lo) none (some k)
    rw [ep] at h1
    have h2 : (stp xs lo k).length = (stp its lo k).length := by
      unfold stp
      rw [hlen]
      exact (vals_pick r _).length
    simp at h1
    omega
  rw [ep]
  have rv : Vals (stp xs lo k) (stp its lo k) := by
    unfold stp
    rw [hlen]
    exact vals_pick r _
  refine ⟨.ref _, _, I5.laid (t' := s4.toks) (o := .lst (stp xs lo k)) (fun b ob q => Heap.get?_push_of_some _ q) (Nat.le_refl _) ?_, rfl, q _ (I5.hok.fresh (Nat.le_refl _))⟩
  exact ⟨hz2, _, 0, rv, Heap.get?_push_size _ rfl⟩
variable {ρ : Slots} {a : Expr} {α : Type}
theorem me_stpT {xs : List α} {enc : α → D} {lo k : Int} {k1 k2 : Nat} {p1 p2 p3 pos : Pos} (ha : ML X ρ a (xs.map enc)) (h0 : k ≠ 0 := by decide) : ME X ρ (.Subscript a (.Slice (some (.Constant (.int lo) k1 p1)) none (some (.Constant (.int k) k2 p2)) p3) pos) (.lst (((stp xs lo k).map enc).map .fz)) := .mk fun Z0 F Z σ H s Q q =>
  PE_w (pe_stp h0 pe_w) (ha.run Z0 F Z σ H s _ fun l vs Z1 H1 g1 l1 r1 => ⟨l, vs, rfl, l1, fun p hp => by
    have e : (stp xs lo k).map enc = (stpI lo k vs.length).filterMap ((xs.map enc)[·]?) := by
      have hl := r1.length
      rw [List.length_map] at hl
      unfold stp
      rw [hl, List.map_filterMap]
      congr 1
      funext i
      rw [List.getElem?_map]
    rw [e] at q
    exact q _ Z1 _ [p] (g1.trans (Gr.new g1.zh hp)) (.lst upd_same (rep_pick r1 _).own) (new_one (g1.hh.free hp) (g1.zh.free hp))⟩)
end
/-! ### lists of any standing put together -/
def rCatS (K : PySem.W.Frag) : R2 := fun x y H Q => ∃ (l b : Addr) (xs zs : List V), x = .ref l ∧ y = .ref b ∧ SqL K H l xs ∧ SqL K H b zs ∧ xs.length + zs.length ≤ sizeLine ∧ ∀ p, H p = none → Q (.ref p) (upd H p (.lst (xs ++ zs)))
section
variable {X : Cx}
theorem op_catS : OpR X (binaryOp .Add) (rCatS X.K) := by
  intro pins s σ H x y v u Q I rx ry h
  obtain ⟨l, b, xs, zs, rfl, rfl, hl, hb, hz, q⟩ := h
  cases rx
  cases ry
  obtain ⟨its, r, ⟨⟨cls, dd, data, sl⟩, n, ho, hc, hdn, hd⟩, h1⟩ := I.list hl
  obtain ⟨its2, r2, ⟨⟨cls2, dd2, data2, sl2⟩, n2, ho2, hc2, hdn2, hd2⟩, h2⟩ := I.list hb
  simp only at hc hd hc2 hd2
  subst hc hd hc2 hd2
  have e1 := r.length
  have e2 := r2.length
  have ea : its.toArray ++ its2.toArray = (its ++ its2).toArray := by simp
  refine concat_meets ⟨_, ho, rfl⟩ ⟨_, ho2, rfl⟩ noFill_list_add seq_list_add PySem.F.slot_list_add PySem.F.entry_list_add (PySem.F.args_list_add_2 _ _) (list_addW l b its.toArray its2.toArray n n2 dd dd2 sl sl2 (by rw [List.size_toArray, List.size_toArray]; omega)) ⟨ho, ho2, ?_⟩
  rw [ea]
  exact ⟨.ref _, _, I.lnew (t' := s.toks) (r.append r2) (by rw [List.length_append]; omega), rfl, q _ I.fresh⟩
variable {ρ : Slots} {a b : Expr} {α : Type} {pos : Pos}
theorem me_catMM {xs ys : List α} {enc : α → D} (hl : xs.length + ys.length ≤ sizeLine) (ha : ML X ρ a (xs.map enc)) (hb : ML X ρ b (ys.map enc)) : ME X ρ (.BinOp a .Add b pos) (.lst (((xs ++ ys).map enc).map .fz)) := .mk fun Z0 F Z σ H s Q q =>
  PE_w (pe_op op_catS pe_w pe_w) (ha.run Z0 F Z σ H s _ fun l vs Z1 H1 g1 l1 r1 => hb.run Z0 F Z1 σ H1 (s.grow g1) _ fun l2 us Z2 H2 g2 l2' r2 => by
    have g := g1.trans g2
    have e1 := r1.length
    have e2 := r2.length
    rw [List.length_map] at e1 e2
    refine ⟨l, l2, vs, us, rfl, rfl, ex_l g2.hh l1, l2', by omega, fun p hp => ?_⟩
    rw [List.map_append] at q
    exact q _ Z2 _ [p] (g.trans (Gr.new g.zh hp)) (.lst upd_same ((r1.mono g2.zz).append r2).own) (new_one (g.hh.free hp) (g.zh.free hp)))
end
end M
namespace M
open PySem L2 PySem.Spec PyProof.Rows
/-! ### another form of the same thing -/
section
variable {X : Cx} {ρ : Slots} {e : Expr} {d d' : D}
theorem MV.as (h : MV X ρ e (.fz d)) (q : d = d') : MV X ρ e (.fz d') := q ▸ h
theorem ME.as (h : ME X ρ e (.fz d)) (q : d = d') : ME X ρ e (.fz d') := q ▸ h
end
/-! ### {k: i, ..}.get(s, i), keys texts -/
def dgI : List (Str × Int) → Str → Int → Int
  | [], _, d => d
  | (k, v) :: r, s, d => if s = k then v else dgI r s d
def dgK (kvs : List (Str × Int)) : List (Key × V) := kvs.map fun p => (.inr p.1, .int p.2)
theorem valV_dgK (s : Str) (d : Int) : ∀ kvs : List (Str × Int), (valV (dgK kvs) (.inr s)).getD (.int d) = .int (dgI kvs s d)
  | [] => rfl
  | (k, v) :: r => by
    show (valV ((Sum.inr k, V.int v) :: dgK r) (.inr s)).getD (.int d) = .int (if s = k then v else dgI r s d)
    by_cases e : s = k
    · rw [valV_pos (p := ((Sum.inr k : Key), V.int v)) (by rw [e]), if_pos e]; rfl
    · rw [valV_neg (p := ((Sum.inr k : Key), V.int v)) (fun z => e (Sum.inr.inj z).symm), if_neg e]
      exact valV_dgK s d r
theorem mergeK_app : ∀ (kvs : List (Str × Int)) (acc : List (Key × V)), (∀ p ∈ kvs, valV acc (.inr p.1) = none) → (kvs.map (·.1)).Nodup → mergeK acc (dgK kvs) = acc ++ dgK kvs
  | [], acc, _, _ => (List.append_nil _).symm
  | (k, v) :: r, acc, h, nd => by
    show mergeK (putK acc (.inr k) (.int v)) (dgK r) = acc ++ ((.inr k, .int v) :: dgK r)
    have hk := h (k, v) List.mem_cons_self
    rw [List.map_cons, List.nodup_cons] at nd
    rw [putK_new _ hk, mergeK_app r _ (fun p m => ?_) nd.2, List.append_assoc]; rfl
    rw [valV_snoc _ _ _ _ hk, if_neg (fun z => ?_)]
    · exact h p (List.mem_cons_of_mem _ m)
    · exact nd.1 (by rw [← Sum.inr.inj z]; exact List.mem_map_of_mem m)
structure MPs (X : Cx) (pos : Pos) (keys : List (Option Expr)) (values : List Expr) (kvs : List (Str × Int)) : Prop where
  ex : ∃ trs, PPs X pos keys values trs ∧ keys.length = kvs.length ∧ values.length = kvs.length ∧ keys.all (·.isSome) = true ∧ ∀ (σ : L2.St) (H : Hp) (Q : List (V × V) → Hp → Prop), Q ((dgK kvs).map fun kv => (kV kv.1, kv.2)) H → tPairs trs σ H Q
theorem mps_nil {X : Cx} {pos : Pos} : MPs X pos [] [] [] := ⟨[], pps_nil, rfl, rfl, rfl, fun _ _ _ q => q⟩
theorem mps_cons {X : Cx} {pos p1 p2 : Pos} {j1 j2 : Nat} {k : Str} {v : Int} {ks : List (Option Expr)} {vs : List Expr} {kvs : List (Str × Int)} (h : MPs X pos ks vs kvs) : MPs X pos (some (.Constant (.str k) j1 p1) :: ks) (.Constant (.int v) j2 p2 :: vs) ((k, v) :: kvs) := by
  obtain ⟨trs, p, l1, l2, a, q⟩ := h.ex
  refine ⟨(tC (.str k), tC (.int v)) :: trs, pps_cons pe_str pe_int p, by rw [List.length_cons, List.length_cons, l1], by rw [List.length_cons, List.length_cons, l2], a, fun σ H Q z => q σ H _ z⟩
section
variable {X : Cx} {ρ : Slots} {e f : Expr} {pos dpos apos cpos : Pos} {s : Str} {d : Int} {keys : List (Option Expr)} {values : List Expr} {kvs : List (Str × Int)}
theorem me_dget (hu : X.A.units + 64 < cLine) (m : MPs X dpos keys values kvs) (he : ME X ρ e (.fz (.str s))) (hf : ME X ρ f (.fz (.int d))) (nd : (kvs.map (·.1)).Nodup := by decide) (h0 : kvs.length ≠ 0 ∧ kvs.length ≤ 15 := by decide)
    (m2 : M2 X (.Dict keys values dpos) "get" apos e f cpos := by exact ⟨rfl, rfl, rfl, rfl⟩) : ME X ρ (.Call (.Attribute (.Dict keys values dpos) "get" apos) [e, f] [] cpos) (.fz (.int (dgI kvs s d))) := by
  obtain ⟨trs, p, l1, l2, a, q⟩ := m.ex
  refine .mk fun Z0 F Z σ H st Q qq => PE_w (pe_dget2 (by omega) (pe_disp p a (l1.trans l2.symm) (fun z => h0.1 (by rw [← l1, z]; rfl)) (by rw [l1]; exact h0.2)) pe_w pe_w m2) fun x hx => q σ _ _ ⟨upd_same, dgK kvs, rfl, by show (List.map _ kvs).length ≤ 15; rw [List.length_map]; exact h0.2, x, rfl, .inl ⟨_, .inl upd_same⟩, ?_⟩
  rw [mergeK_app kvs [] (fun _ _ => rfl) nd, List.nil_append]
  rw [show upd (upd H x (.dK [])) x (.dK (dgK kvs)) = upd H x (.dK (dgK kvs)) from by funext b; by_cases hb : b = x <;> simp [upd, hb]]
  have g0 : Gr Z H Z (upd H x (.dK (dgK kvs))) := Gr.new st.ex hx
  have s1 := st.grow g0
  refine he.run Z0 F Z σ _ s1 _ fun v Z1 H1 A1 g1 r1 n1 => hf.run Z0 F Z1 σ H1 (s1.grow g1) _ fun u Z2 H2 A2 g2 r2 n2 => ?_
  cases r1 with
  | fz r1 => cases r1 with
    | str => cases r2 with
      | fz r2 => cases r2 with
        | int =>
          have hd : H2 x = some (.dK (dgK kvs)) := g2.hh _ _ (g1.hh _ _ upd_same)
          refine ⟨_, DGet.k (k := .inr s) hd, ?_⟩
          rw [valV_dgK]
          exact qq _ Z2 H2 [] (g0.trans (g1.trans g2)) (.fz (.int _)) .nil
end
def asLD : D → Option (List D)
  | .lst ds => some ds
  | _ => none
theorem asLD_is {d : D} {l : List D} (h : asLD d = some l) : O.fz d = .fz (.lst (l.map e_d)) := by
  cases d with
  | lst ds => injection h with h; subst h; exact congrArg (fun z => O.fz (.lst z)) (List.map_id ds).symm
  | non => nomatch h
  | bl _ => nomatch h
  | int _ => nomatch h
  | str _ => nomatch h
  | ty _ => nomatch h
  | opq _ => nomatch h
  | tup _ => nomatch h
  | ins _ _ _ => nomatch h
  | dct _ _ => nomatch h
  | dctT _ _ => nomatch h
/-! ### no promise -/
theorem fn_vac {A R : Type} {P : Program} {w : World} {K : PySem.W.Frag} {mg : Str → Option Value} {base : Heap} {CX : CXT} {k : Nat} {f : Addr} {fd : FuncData} {ps : List Str} {ar : A → List O} {g : A → Option R} {er : R → O} (h : ∀ x, g x = none) : FnOk P w K mg base CX k f fd ps (SpF K ar g er) :=
  ⟨fun vs H Q E z => (by
      obtain ⟨x, _, _, _, hp, _⟩ := z
      have hp : g x.1 = some x.2 := hp
      rw [h] at hp; cases hp), fun A outer s H args us vs Q E hr he hb hv z => (by
      obtain ⟨x, _, _, _, hp, _⟩ := z
      have hp : g x.1 = some x.2 := hp
      rw [h] at hp; cases hp)⟩
theorem fn_vacE {A R E' : Type} {P : Program} {w : World} {K : PySem.W.Frag} {mg : Str → Option Value} {base : Heap} {CX : CXT} {k : Nat} {f : Addr} {fd : FuncData} {ps : List Str} {ar : A → List O} {g : A → Option (Xr E' R)} {te : E' → Er} {er : R → O} (h : ∀ x, g x = none) : FnOk P w K mg base CX k f fd ps (SpFE K ar g te er) :=
  ⟨fun vs H Q E z => (by
      obtain ⟨x, _, _, _, hp, _⟩ := z
      have hp : g x.1 = some x.2 := hp
      rw [h] at hp; cases hp), fun A outer s H args us vs Q E hr he hb hv z => (by
      obtain ⟨x, _, _, _, hp, _⟩ := z
      have hp : g x.1 = some x.2 := hp
      rw [h] at hp; cases hp)⟩
end M
namespace M
open PySem L2 PySem.Spec PyProof.Rows
theorem r_u65 {k : Nat} {A : Around} (r : Room k A) : A.units + 65 < cLine := by have := r.un; omega
/-! ### data in lists of data -/
theorem pyL_any (ds : List D) (p : PyData → Bool) : (D.pyL ds).any p = ds.any fun z => p z.py := by
  induction ds with
  | nil => rfl
  | cons d r ih =>
    show (p d.py || (D.pyL r).any p) = (p d.py || r.any _)
    rw [ih]
section
variable {X : Cx} {ρ : Slots} {a b : Expr} {o2 : O} {d : D} {ds : List D} {pos : Pos}
theorem me_inD (hu : X.A.units + 65 < cLine) (h : d.ok ∧ (D.lst ds).ok) (e2 : o2.frz = .lst ds) (ha : MV X ρ a (.fz d)) (hb : MV X ρ b o2) (hm : behindInMarks .In b = false := by rfl) : ME X ρ (.Compare a [.In] [b] pos) (.fz (.bl (ds.any fun z => D.eqv z d))) :=
  me_rD (t := tOp (rInD X.K) (wE X a) (wE X b)) (pe_cmpR (op_inD hu) pe_w pe_w hm) ha hb h.1.1 (by rw [e2]; exact h.2.1) fun x y H Q p1 p2 q => ⟨_, D.pyL ds, p1, by rw [e2] at p2; exact p2, h.1.2, h.2.2, by rw [pyL_any]; exact q⟩
theorem me_niD (hu : X.A.units + 65 < cLine) (h : d.ok ∧ (D.lst ds).ok) (e2 : o2.frz = .lst ds) (ha : MV X ρ a (.fz d)) (hb : MV X ρ b o2) (hm : behindInMarks .NotIn b = false := by rfl) : ME X ρ (.Compare a [.NotIn] [b] pos) (.fz (.bl (!(ds.any fun z => D.eqv z d)))) :=
  me_rD (t := tOp (rNotInD X.K) (wE X a) (wE X b)) (pe_cmpR (op_notInD hu) pe_w pe_w hm) ha hb h.1.1 (by rw [e2]; exact h.2.1) fun x y H Q p1 p2 q => ⟨_, D.pyL ds, p1, by rw [e2] at p2; exact p2, h.1.2, h.2.2, by rw [pyL_any]; exact q⟩
theorem mt_inD (hu : X.A.units + 65 < cLine) (h : d.ok ∧ (D.lst ds).ok) (e2 : o2.frz = .lst ds) (ha : MV X ρ a (.fz d)) (hb : MV X ρ b o2) (hm : behindInMarks .In b = false := by rfl) : MT X ρ (.Compare a [.In] [b] pos) (ds.any fun z => D.eqv z d) :=
  mt_rD (r := rInD X.K) (pt_cmpR (op_inD hu) pe_w pe_w hm) ha hb h.1.1 (by rw [e2]; exact h.2.1) fun x y H Q p1 p2 q => ⟨_, D.pyL ds, p1, by rw [e2] at p2; exact p2, h.1.2, h.2.2, by rw [pyL_any]; exact q⟩
theorem mt_niD (hu : X.A.units + 65 < cLine) (h : d.ok ∧ (D.lst ds).ok) (e2 : o2.frz = .lst ds) (ha : MV X ρ a (.fz d)) (hb : MV X ρ b o2) (hm : behindInMarks .NotIn b = false := by rfl) : MT X ρ (.Compare a [.NotIn] [b] pos) (!(ds.any fun z => D.eqv z d)) :=
  mt_rD (r := rNotInD X.K) (pt_cmpR (op_notInD hu) pe_w pe_w hm) ha hb h.1.1 (by rw [e2]; exact h.2.1) fun x y H Q p1 p2 q => ⟨_, D.pyL ds, p1, by rw [e2] at p2; exact p2, h.1.2, h.2.2, by rw [pyL_any]; exact q⟩
/-- typed -/
def inDL {α : Type} (enc : α → D) (xs : List α) (d : D) : Bool := xs.any fun z => D.eqv (enc z) d
variable {α : Type} {enc : α → D} {xs : List α}
theorem inDL_is : ((xs.map enc).any fun z => D.eqv z d) = inDL enc xs d := by unfold inDL; rw [List.any_map]; rfl
theorem me_inDL (hu : X.A.units + 65 < cLine) (h : d.ok ∧ (D.lst (xs.map enc)).ok) (e2 : o2.frz = .lst (xs.map enc)) (ha : MV X ρ a (.fz d)) (hb : MV X ρ b o2) (hm : behindInMarks .In b = false := by rfl) : ME X ρ (.Compare a [.In] [b] pos) (.fz (.bl (inDL enc xs d))) := inDL_is ▸ me_inD hu h e2 ha hb hm
theorem me_niDL (hu : X.A.units + 65 < cLine) (h : d.ok ∧ (D.lst (xs.map enc)).ok) (e2 : o2.frz = .lst (xs.map enc)) (ha : MV X ρ a (.fz d)) (hb : MV X ρ b o2) (hm : behindInMarks .NotIn b = false := by rfl) : ME X ρ (.Compare a [.NotIn] [b] pos) (.fz (.bl (!(inDL enc xs d)))) := inDL_is ▸ me_niD hu h e2 ha hb hm
theorem mt_inDL (hu : X.A.units + 65 < cLine) (h : d.ok ∧ (D.lst (xs.map enc)).ok) (e2 : o2.frz = .lst (xs.map enc)) (ha : MV X ρ a (.fz d)) (hb : MV X ρ b o2) (hm : behindInMarks .In b = false := by rfl) : MT X ρ (.Compare a [.In] [b] pos) (inDL enc xs d) := inDL_is ▸ mt_inD hu h e2 ha hb hm
theorem mt_niDL (hu : X.A.units + 65 < cLine) (h : d.ok ∧ (D.lst (xs.map enc)).ok) (e2 : o2.frz = .lst (xs.map enc)) (ha : MV X ρ a (.fz d)) (hb : MV X ρ b o2) (hm : behindInMarks .NotIn b = false := by rfl) : MT X ρ (.Compare a [.NotIn] [b] pos) (!(inDL enc xs d)) := inDL_is ▸ mt_niD hu h e2 ha hb hm
end
/-! ### max and min of a list -/
def mxL : List Int → Option Int
  | [] => none
  | x :: r => some (r.foldl max x)
def mnL : List Int → Option Int
  | [] => none
  | x :: r => some (r.foldl min x)
theorem foldl_max : ∀ (r : List Int) (x : Int), (r.foldl max x ∈ x :: r) ∧ ∀ y ∈ x :: r, y ≤ r.foldl max x
  | [], x => ⟨List.mem_cons_self, fun y m => by cases List.mem_singleton.mp m; exact Int.le_refl _⟩
  | y :: r, x => by
    obtain ⟨h1, h2⟩ := foldl_max r (max x y)
    show (r.foldl max (max x y) ∈ _) ∧ ∀ z ∈ _, z ≤ r.foldl max (max x y)
    have h3 := h2 _ List.mem_cons_self
    refine ⟨?_, fun z m => ?_⟩
    · rcases List.mem_cons.mp h1 with e | m
      · rw [e]
        by_cases c : x ≤ y
        · rw [Int.max_eq_right c]; exact List.mem_cons_of_mem _ List.mem_cons_self
        · rw [Int.max_eq_left (by omega)]; exact List.mem_cons_self
      · exact List.mem_cons_of_mem _ (List.mem_cons_of_mem _ m)
    · rcases List.mem_cons.mp m with rfl | m
      · omega
      · rcases List.mem_cons.mp m with rfl | m
        · omega
        · exact h2 z (List.mem_cons_of_mem _ m)
theorem foldl_min : ∀ (r : List Int) (x : Int), (r.foldl min x ∈ x :: r) ∧ ∀ y ∈ x :: r, r.foldl min x ≤ y
  | [], x => ⟨List.mem_cons_self, fun y m => by cases List.mem_singleton.mp m; exact Int.le_refl _⟩
  | y :: r, x => by
    obtain ⟨h1, h2⟩ := foldl_min r (min x y)
    show (r.foldl min (min x y) ∈ _) ∧ ∀ z ∈ _, r.foldl min (min x y) ≤ z
    have h3 := h2 _ List.mem_cons_self
    refine ⟨?_, fun z m => ?_⟩
    · rcases List.mem_cons.mp h1 with e | m
      · rw [e]
        by_cases c : x ≤ y
        · rw [Int.min_eq_left c]; exact List.mem_cons_self
        · rw [Int.min_eq_right (by omega)]; exact List.mem_cons_of_mem _ List.mem_cons_self
      · exact List.mem_cons_of_mem _ (List.mem_cons_of_mem _ m)
    · rcases List.mem_cons.mp m with rfl | m
      · omega
      · rcases List.mem_cons.mp m with rfl | m
        · omega
        · exact h2 z (List.mem_cons_of_mem _ m)
theorem mxL_is {ns : List Int} {m : Int} (h : mxL ns = some m) : m ∈ ns ∧ ∀ y ∈ ns, y ≤ m := by
  cases ns with
  | nil => cases h
  | cons x r => cases h; exact foldl_max r x
theorem mnL_is {ns : List Int} {m : Int} (h : mnL ns = some m) : m ∈ ns ∧ ∀ y ∈ ns, m ≤ y := by
  cases ns with
  | nil => cases h
  | cons x r => cases h; exact foldl_min r x
end M
namespace K26
open PySem L2 M
def top (i : Nat) : Stmt := PySem.Challenge.pw_coverroll_k26_whole_marks_part_losses.main.body.getD i (.Pass ⟨0, 0, 0, 0⟩)
abbrev s_Condition_holds : Stmt := inClass (top 2) 0
abbrev s_Condition_marks : Stmt := inClass (top 2) 2
abbrev s_CauseIs___init__ : Stmt := inClass (top 3) 0
abbrev s_CauseIs_holds : Stmt := inClass (top 3) 1
abbrev s_CauseIs_marks : Stmt := inClass (top 3) 3
abbrev s_ThingIs___init__ : Stmt := inClass (top 4) 0
abbrev s_ThingIs_holds : Stmt := inClass (top 4) 1
abbrev s_ThingIs_marks : Stmt := inClass (top 4) 3
abbrev s_DaysIn___init__ : Stmt := inClass (top 5) 0
abbrev s_DaysIn_holds : Stmt := inClass (top 5) 1
abbrev s_DaysIn_marks : Stmt := inClass (top 5) 3
abbrev s_Over___init__ : Stmt := inClass (top 6) 0
abbrev s_Over_holds : Stmt := inClass (top 6) 1
abbrev s_Over_marks : Stmt := inClass (top 6) 3
abbrev s_joined_marks : Stmt := top 7
abbrev s_Not___init__ : Stmt := inClass (top 8) 0
abbrev s_Not_holds : Stmt := inClass (top 8) 1
abbrev s_Not_marks : Stmt := inClass (top 8) 3
abbrev s_All___init__ : Stmt := inClass (top 9) 0
abbrev s_All_holds : Stmt := inClass (top 9) 1
abbrev s_All_marks : Stmt := inClass (top 9) 3
abbrev s_Some___init__ : Stmt := inClass (top 10) 0
abbrev s_Some_holds : Stmt := inClass (top 10) 1
abbrev s_Some_marks : Stmt := inClass (top 10) 3
abbrev s__law_cell : Stmt := top 12
abbrev s__law_mix : Stmt := top 13
abbrev s__law_whole : Stmt := top 14
abbrev s__law_name : Stmt := top 15
abbrev s__law_other : Stmt := top 16
abbrev s__law_pools : Stmt := top 17
abbrev s__law_leaf : Stmt := top 18
abbrev s__law_loss : Stmt := top 19
abbrev s__law_holds : Stmt := top 20
abbrev s__law_bracketed : Stmt := top 21
abbrev s__law_join : Stmt := top 22
abbrev s__law_step : Stmt := top 23
abbrev s__law_tree : Stmt := top 24
abbrev s__law_made : Stmt := top 25
abbrev s__law_marks : Stmt := top 26
abbrev s__law_marks_are : Stmt := top 27
abbrev s__law_unparted_name : Stmt := top 28
abbrev s__law_unparted : Stmt := top 29
abbrev s_law : Stmt := top 30
section
variable {P : Program} {w : World} {K : PySem.W.Frag} {mg : Str → Option Value} {base : Heap} {C_Condition C_CauseIs C_ThingIs C_DaysIn C_Over C_Not C_All C_Some : Addr}
/-! Condition.marks -/
inductive Cd where
  | plain (p : Unit)
  | cause (p : Str)
  | thing (p : Str)
  | days (p : (Int × Int))
  | over (p : Int)
  | notOf (p : Cd)
  | allOf (p : (List Cd))
  | someOf (p : (List Cd))
mutual
def u_Cd (C_Condition C_CauseIs C_ThingIs C_DaysIn C_Over C_Not C_All C_Some : Addr) : Cd → D
  | .plain p => .ins C_Condition [] []
  | .cause p => .ins C_CauseIs ["name"] [.str p]
  | .thing p => .ins C_ThingIs ["name"] [.str p]
  | .days p => .ins C_DaysIn ["first", "last"] [.int p.1, .int p.2]
  | .over p => .ins C_Over ["cents"] [.int p]
  | .notOf p => .ins C_Not ["part"] [u_Cd C_Condition C_CauseIs C_ThingIs C_DaysIn C_Over C_Not C_All C_Some p]
  | .allOf p => .ins C_All ["several"] [.lst (u_CdL C_Condition C_CauseIs C_ThingIs C_DaysIn C_Over C_Not C_All C_Some p)]
  | .someOf p => .ins C_Some ["several"] [.lst (u_CdL C_Condition C_CauseIs C_ThingIs C_DaysIn C_Over C_Not C_All C_Some p)]
def u_CdL (C_Condition C_CauseIs C_ThingIs C_DaysIn C_Over C_Not C_All C_Some : Addr) : List Cd → List D
  | [] => []
  | x :: r => u_Cd C_Condition C_CauseIs C_ThingIs C_DaysIn C_Over C_Not C_All C_Some x :: u_CdL C_Condition C_CauseIs C_ThingIs C_DaysIn C_Over C_Not C_All C_Some r
end
theorem u_CdL_map (C_Condition C_CauseIs C_ThingIs C_DaysIn C_Over C_Not C_All C_Some : Addr) : ∀ xs : List Cd, u_CdL C_Condition C_CauseIs C_ThingIs C_DaysIn C_Over C_Not C_All C_Some xs = xs.map (u_Cd C_Condition C_CauseIs C_ThingIs C_DaysIn C_Over C_Not C_All C_Some)
  | [] => rfl
  | x :: r => congrArg (u_Cd C_Condition C_CauseIs C_ThingIs C_DaysIn C_Over C_Not C_All C_Some x :: ·) (u_CdL_map C_Condition C_CauseIs C_ThingIs C_DaysIn C_Over C_Not C_All C_Some r)
abbrev r_Condition (C_Condition : Addr) (p : Unit) : D := .ins C_Condition [] []
theorem u_Cd_plain (C_Condition C_CauseIs C_ThingIs C_DaysIn C_Over C_Not C_All C_Some : Addr) (p : Unit) : u_Cd C_Condition C_CauseIs C_ThingIs C_DaysIn C_Over C_Not C_All C_Some (.plain p) = r_Condition C_Condition p := by
  show (.ins _ _ _ : D) = .ins _ _ _
  first | rfl | (simp only [u_CdL_map])
abbrev r_CauseIs (C_CauseIs : Addr) (p : Str) : D := .ins C_CauseIs ["name"] [.str p]
theorem u_Cd_cause (C_Condition C_CauseIs C_ThingIs C_DaysIn C_Over C_Not C_All C_Some : Addr) (p : Str) : u_Cd C_Condition C_CauseIs C_ThingIs C_DaysIn C_Over C_Not C_All C_Some (.cause p) = r_CauseIs C_CauseIs p := by
  show (.ins _ _ _ : D) = .ins _ _ _
  first | rfl | (simp only [u_CdL_map])
abbrev r_ThingIs (C_ThingIs : Addr) (p : Str) : D := .ins C_ThingIs ["name"] [.str p]
theorem u_Cd_thing (C_Condition C_CauseIs C_ThingIs C_DaysIn C_Over C_Not C_All C_Some : Addr) (p : Str) : u_Cd C_Condition C_CauseIs C_ThingIs C_DaysIn C_Over C_Not C_All C_Some (.thing p) = r_ThingIs C_ThingIs p := by
  show (.ins _ _ _ : D) = .ins _ _ _
  first | rfl | (simp only [u_CdL_map])
abbrev r_DaysIn (C_DaysIn : Addr) (p : (Int × Int)) : D := .ins C_DaysIn ["first", "last"] [.int p.1, .int p.2]
theorem u_Cd_days (C_Condition C_CauseIs C_ThingIs C_DaysIn C_Over C_Not C_All C_Some : Addr) (p : (Int × Int)) : u_Cd C_Condition C_CauseIs C_ThingIs C_DaysIn C_Over C_Not C_All C_Some (.days p) = r_DaysIn C_DaysIn p := by
  show (.ins _ _ _ : D) = .ins _ _ _
  first | rfl | (simp only [u_CdL_map])
abbrev r_Over (C_Over : Addr) (p : Int) : D := .ins C_Over ["cents"] [.int p]
theorem u_Cd_over (C_Condition C_CauseIs C_ThingIs C_DaysIn C_Over C_Not C_All C_Some : Addr) (p : Int) : u_Cd C_Condition C_CauseIs C_ThingIs C_DaysIn C_Over C_Not C_All C_Some (.over p) = r_Over C_Over p := by
  show (.ins _ _ _ : D) = .ins _ _ _
  first | rfl | (simp only [u_CdL_map])
abbrev r_Not (C_Not : Addr) (C_Condition C_CauseIs C_ThingIs C_DaysIn C_Over C_All C_Some : Addr) (p : Cd) : D := .ins C_Not ["part"] [(u_Cd C_Condition C_CauseIs C_ThingIs C_DaysIn C_Over C_Not C_All C_Some) p]
theorem u_Cd_notOf (C_Condition C_CauseIs C_ThingIs C_DaysIn C_Over C_Not C_All C_Some : Addr) (p : Cd) : u_Cd C_Condition C_CauseIs C_ThingIs C_DaysIn C_Over C_Not C_All C_Some (.notOf p) = r_Not C_Not C_Condition C_CauseIs C_ThingIs C_DaysIn C_Over C_All C_Some p := by
  show (.ins _ _ _ : D) = .ins _ _ _
  first | rfl | (simp only [u_CdL_map])
abbrev r_All (C_All : Addr) (C_Condition C_CauseIs C_ThingIs C_DaysIn C_Over C_Not C_Some : Addr) (p : (List Cd)) : D := .ins C_All ["several"] [.lst (p.map (u_Cd C_Condition C_CauseIs C_ThingIs C_DaysIn C_Over C_Not C_All C_Some))]
theorem u_Cd_allOf (C_Condition C_CauseIs C_ThingIs C_DaysIn C_Over C_Not C_All C_Some : Addr) (p : (List Cd)) : u_Cd C_Condition C_CauseIs C_ThingIs C_DaysIn C_Over C_Not C_All C_Some (.allOf p) = r_All C_All C_Condition C_CauseIs C_ThingIs C_DaysIn C_Over C_Not C_Some p := by
  show (.ins _ _ _ : D) = .ins _ _ _
  first | rfl | (simp only [u_CdL_map])
abbrev r_Some (C_Some : Addr) (C_Condition C_CauseIs C_ThingIs C_DaysIn C_Over C_Not C_All : Addr) (p : (List Cd)) : D := .ins C_Some ["several"] [.lst (p.map (u_Cd C_Condition C_CauseIs C_ThingIs C_DaysIn C_Over C_Not C_All C_Some))]
theorem u_Cd_someOf (C_Condition C_CauseIs C_ThingIs C_DaysIn C_Over C_Not C_All C_Some : Addr) (p : (List Cd)) : u_Cd C_Condition C_CauseIs C_ThingIs C_DaysIn C_Over C_Not C_All C_Some (.someOf p) = r_Some C_Some C_Condition C_CauseIs C_ThingIs C_DaysIn C_Over C_Not C_All p := by
  show (.ins _ _ _ : D) = .ins _ _ _
  first | rfl | (simp only [u_CdL_map])
def Cd.f_name : Cd → Option Str
  | .cause p => some p
  | .thing p => some p
  | _ => none
def Cd.f_first : Cd → Option Int
  | .days p => some p.1
  | _ => none
def Cd.f_last : Cd → Option Int
  | .days p => some p.2
  | _ => none
def Cd.f_cents : Cd → Option Int
  | .over p => some p
  | _ => none
def Cd.f_part : Cd → Option Cd
  | .notOf p => some p
  | _ => none
def Cd.f_several : Cd → Option (List Cd)
  | .allOf p => some p
  | .someOf p => some p
  | _ => none
abbrev e_T_s_d (p : (Str × D)) : D := .tup [.str p.1, p.2]
noncomputable def M_Condition_marks (self : Cd) : Option (List (Str × D)) :=
  some ([] : List (Str × D))
def sp_Condition_marks (K : PySem.W.Frag) (C_Condition C_CauseIs C_ThingIs C_DaysIn C_Over C_Not C_All C_Some : Addr) : Sp := SpF K (fun x : Cd => [.fz ((u_Cd C_Condition C_CauseIs C_ThingIs C_DaysIn C_Over C_Not C_All C_Some) x)]) (fun x => M_Condition_marks x) (fun r => .lst ((r.map e_T_s_d).map .fz))
abbrev N_Condition_marks : List Str := ["self"]
theorem sc_Condition_marks : FnScope N_Condition_marks ["self"] (defScope s_Condition_marks) := ⟨rfl, rfl, rfl, by decide +kernel, rfl, by decide +kernel, by decide +kernel⟩
theorem ok_Condition_marks {f : Addr} {fd : FuncData} (F : Fun K "marks" "Condition.marks" s_Condition_marks f fd)  : FnOk P w K mg base CX0 1 f fd ["self"] (sp_Condition_marks K C_Condition C_CauseIs C_ThingIs C_DaysIn C_Over C_Not C_All C_Some) := by
  refine fn_m F sc_Condition_marks (fun x => rfl) (fun x _ => O.nvL_fz _) fun cdv A outer s H E hr x hx => ?_
  obtain ⟨self, r⟩ := x
  replace hx : M_Condition_marks self = some r := hx
  have nd := sc_Condition_marks.nd
  unfold M_Condition_marks at hx
  show MS _ [some (.fz ((u_Cd C_Condition C_CauseIs C_ThingIs C_DaysIn C_Over C_Not C_All C_Some) self))] _ _
  refine ms_one (m_ret (ps_ret pe_w) (ME.r (me_lst (ds := [].map e_T_s_d) mf_nil)) ?_)
  cases hx; rfl

/-! CauseIs.marks -/
noncomputable def M_CauseIs_marks (self : Str) : Option (List (Str × D)) :=
  some [(("cause" : Str), (.str self))]
def sp_CauseIs_marks (K : PySem.W.Frag) (C_CauseIs : Addr) : Sp := SpF K (fun x : Str => [.fz ((r_CauseIs C_CauseIs) x)]) (fun x => M_CauseIs_marks x) (fun r => .lst ((r.map e_T_s_d).map .fz))
abbrev N_CauseIs_marks : List Str := ["self"]
theorem sc_CauseIs_marks : FnScope N_CauseIs_marks ["self"] (defScope s_CauseIs_marks) := ⟨rfl, rfl, rfl, by decide +kernel, rfl, by decide +kernel, by decide +kernel⟩
theorem ok_CauseIs_marks {f : Addr} {fd : FuncData} (F : Fun K "marks" "CauseIs.marks" s_CauseIs_marks f fd) (o_CauseIs : OC K C_CauseIs ["name"]) : FnOk P w K mg base CX0 1 f fd ["self"] (sp_CauseIs_marks K C_CauseIs) := by
  refine fn_m F sc_CauseIs_marks (fun x => rfl) (fun x _ => O.nvL_fz _) fun cdv A outer s H E hr x hx => ?_
  obtain ⟨self, r⟩ := x
  replace hx : M_CauseIs_marks self = some r := hx
  have nd := sc_CauseIs_marks.nd
  unfold M_CauseIs_marks at hx
  show MS _ [some (.fz ((r_CauseIs C_CauseIs) self))] _ _
  refine ms_one (m_ret (ps_ret pe_w) (ME.r (me_lst (ds := [(("cause" : Str), (.str self))].map e_T_s_d) (mf_cons (me_tup (mf_cons me_str (mf_cons (me_fld (j := 0) (mv_var (pv 0) rfl) o_CauseIs) mf_nil))) mf_nil))) ?_)
  cases hx; rfl

/-! ThingIs.marks -/
noncomputable def M_ThingIs_marks (self : Str) : Option (List (Str × D)) :=
  some [(("thing" : Str), (.str self))]
def sp_ThingIs_marks (K : PySem.W.Frag) (C_ThingIs : Addr) : Sp := SpF K (fun x : Str => [.fz ((r_ThingIs C_ThingIs) x)]) (fun x => M_ThingIs_marks x) (fun r => .lst ((r.map e_T_s_d).map .fz))
abbrev N_ThingIs_marks : List Str := ["self"]
theorem sc_ThingIs_marks : FnScope N_ThingIs_marks ["self"] (defScope s_ThingIs_marks) := ⟨rfl, rfl, rfl, by decide +kernel, rfl, by decide +kernel, by decide +kernel⟩
theorem ok_ThingIs_marks {f : Addr} {fd : FuncData} (F : Fun K "marks" "ThingIs.marks" s_ThingIs_marks f fd) (o_ThingIs : OC K C_ThingIs ["name"]) : FnOk P w K mg base CX0 1 f fd ["self"] (sp_ThingIs_marks K C_ThingIs) := by
  refine fn_m F sc_ThingIs_marks (fun x => rfl) (fun x _ => O.nvL_fz _) fun cdv A outer s H E hr x hx => ?_
  obtain ⟨self, r⟩ := x
  replace hx : M_ThingIs_marks self = some r := hx
  have nd := sc_ThingIs_marks.nd
  unfold M_ThingIs_marks at hx
  show MS _ [some (.fz ((r_ThingIs C_ThingIs) self))] _ _
  refine ms_one (m_ret (ps_ret pe_w) (ME.r (me_lst (ds := [(("thing" : Str), (.str self))].map e_T_s_d) (mf_cons (me_tup (mf_cons me_str (mf_cons (me_fld (j := 0) (mv_var (pv 0) rfl) o_ThingIs) mf_nil))) mf_nil))) ?_)
  cases hx; rfl

/-! DaysIn.marks -/
noncomputable def M_DaysIn_marks (self : (Int × Int)) : Option (List (Str × D)) :=
  some [(("day" : Str), (.int self.1)), (("day" : Str), (.int (self.2 + 1)))]
def sp_DaysIn_marks (K : PySem.W.Frag) (C_DaysIn : Addr) : Sp := SpF K (fun x : (Int × Int) => [.fz ((r_DaysIn C_DaysIn) x)]) (fun x => M_DaysIn_marks x) (fun r => .lst ((r.map e_T_s_d).map .fz))
abbrev N_DaysIn_marks : List Str := ["self"]
theorem sc_DaysIn_marks : FnScope N_DaysIn_marks ["self"] (defScope s_DaysIn_marks) := ⟨rfl, rfl, rfl, by decide +kernel, rfl, by decide +kernel, by decide +kernel⟩
theorem ok_DaysIn_marks {f : Addr} {fd : FuncData} (F : Fun K "marks" "DaysIn.marks" s_DaysIn_marks f fd) (o_DaysIn : OC K C_DaysIn ["first", "last"]) : FnOk P w K mg base CX0 1 f fd ["self"] (sp_DaysIn_marks K C_DaysIn) := by
  refine fn_m F sc_DaysIn_marks (fun x => rfl) (fun x _ => O.nvL_fz _) fun cdv A outer s H E hr x hx => ?_
  obtain ⟨self, r⟩ := x
  replace hx : M_DaysIn_marks self = some r := hx
  have nd := sc_DaysIn_marks.nd
  unfold M_DaysIn_marks at hx
  show MS _ [some (.fz ((r_DaysIn C_DaysIn) self))] _ _
  refine ms_one (m_ret (ps_ret pe_w) (ME.r (me_lst (ds := [(("day" : Str), (.int self.1)), (("day" : Str), (.int (self.2 + 1)))].map e_T_s_d) (mf_cons (me_tup (mf_cons me_str (mf_cons (me_fld (j := 0) (mv_var (pv 0) rfl) o_DaysIn) mf_nil))) (mf_cons (me_tup (mf_cons me_str (mf_cons (me_add (me_fld (j := 1) (mv_var (pv 0) rfl) o_DaysIn) me_int) mf_nil))) mf_nil)))) ?_)
  cases hx; rfl

/-! Over.marks -/
noncomputable def M_Over_marks (self : Int) : Option (List (Str × D)) :=
  some [(("cents" : Str), (.int self))]
def sp_Over_marks (K : PySem.W.Frag) (C_Over : Addr) : Sp := SpF K (fun x : Int => [.fz ((r_Over C_Over) x)]) (fun x => M_Over_marks x) (fun r => .lst ((r.map e_T_s_d).map .fz))
abbrev N_Over_marks : List Str := ["self"]
theorem sc_Over_marks : FnScope N_Over_marks ["self"] (defScope s_Over_marks) := ⟨rfl, rfl, rfl, by decide +kernel, rfl, by decide +kernel, by decide +kernel⟩
theorem ok_Over_marks {f : Addr} {fd : FuncData} (F : Fun K "marks" "Over.marks" s_Over_marks f fd) (o_Over : OC K C_Over ["cents"]) : FnOk P w K mg base CX0 1 f fd ["self"] (sp_Over_marks K C_Over) := by
  refine fn_m F sc_Over_marks (fun x => rfl) (fun x _ => O.nvL_fz _) fun cdv A outer s H E hr x hx => ?_
  obtain ⟨self, r⟩ := x
  replace hx : M_Over_marks self = some r := hx
  have nd := sc_Over_marks.nd
  unfold M_Over_marks at hx
  show MS _ [some (.fz ((r_Over C_Over) self))] _ _
  refine ms_one (m_ret (ps_ret pe_w) (ME.r (me_lst (ds := [(("cents" : Str), (.int self))].map e_T_s_d) (mf_cons (me_tup (mf_cons me_str (mf_cons (me_fld (j := 0) (mv_var (pv 0) rfl) o_Over) mf_nil))) mf_nil))) ?_)
  cases hx; rfl

/-! Condition.holds -/
abbrev e_T_i_i_s_s_s_i (p : (Int × Int × Str × Str × Str × Int)) : D := .tup [.int p.1, .int p.2.1, .str p.2.2.1, .str p.2.2.2.1, .str p.2.2.2.2.1, .int p.2.2.2.2.2]
noncomputable def M_Condition_holds (self : Cd) (loss : (Int × Int × Str × Str × Str × Int)) : Option Bool :=
  some true
def sp_Condition_holds (K : PySem.W.Frag) (C_Condition C_CauseIs C_ThingIs C_DaysIn C_Over C_Not C_All C_Some : Addr) : Sp := SpF K (fun x : Cd × (Int × Int × Str × Str × Str × Int) => [.fz ((u_Cd C_Condition C_CauseIs C_ThingIs C_DaysIn C_Over C_Not C_All C_Some) x.1), .fz (e_T_i_i_s_s_s_i x.2)]) (fun x => M_Condition_holds x.1 x.2) (fun r => .fz (.bl r))
abbrev N_Condition_holds : List Str := ["self", "loss"]
theorem sc_Condition_holds : FnScope N_Condition_holds ["self", "loss"] (defScope s_Condition_holds) := ⟨rfl, rfl, rfl, by decide +kernel, rfl, by decide +kernel, by decide +kernel⟩
theorem ok_Condition_holds {f : Addr} {fd : FuncData} (F : Fun K "holds" "Condition.holds" s_Condition_holds f fd)  : FnOk P w K mg base CX0 1 f fd ["self", "loss"] (sp_Condition_holds K C_Condition C_CauseIs C_ThingIs C_DaysIn C_Over C_Not C_All C_Some) := by
  refine fn_m F sc_Condition_holds (fun x => rfl) (fun x _ => rfl) fun cdv A outer s H E hr x hx => ?_
  obtain ⟨⟨self, loss⟩, r⟩ := x
  replace hx : M_Condition_holds self loss = some r := hx
  have nd := sc_Condition_holds.nd
  unfold M_Condition_holds at hx
  show MS _ [some (.fz ((u_Cd C_Condition C_CauseIs C_ThingIs C_DaysIn C_Over C_Not C_All C_Some) self)), some (.fz (e_T_i_i_s_s_s_i loss))] _ _
  refine ms_one (m_ret (ps_ret pe_w) (ME.r me_bl) ?_)
  cases hx; rfl

/-! CauseIs.holds -/
noncomputable def M_CauseIs_holds (self : Str) (loss : (Int × Int × Str × Str × Str × Int)) : Option Bool :=
  some ((loss.2.2.2.2.1 == self))
def sp_CauseIs_holds (K : PySem.W.Frag) (C_CauseIs : Addr) : Sp := SpF K (fun x : Str × (Int × Int × Str × Str × Str × Int) => [.fz ((r_CauseIs C_CauseIs) x.1), .fz (e_T_i_i_s_s_s_i x.2)]) (fun x => M_CauseIs_holds x.1 x.2) (fun r => .fz (.bl r))
abbrev N_CauseIs_holds : List Str := ["self", "loss"]
theorem sc_CauseIs_holds : FnScope N_CauseIs_holds ["self", "loss"] (defScope s_CauseIs_holds) := ⟨rfl, rfl, rfl, by decide +kernel, rfl, by decide +kernel, by decide +kernel⟩
theorem ok_CauseIs_holds {f : Addr} {fd : FuncData} (F : Fun K "holds" "CauseIs.holds" s_CauseIs_holds f fd) (o_CauseIs : OC K C_CauseIs ["name"]) : FnOk P w K mg base CX0 1 f fd ["self", "loss"] (sp_CauseIs_holds K C_CauseIs) := by
  refine fn_m F sc_CauseIs_holds (fun x => rfl) (fun x _ => rfl) fun cdv A outer s H E hr x hx => ?_
  obtain ⟨⟨self, loss⟩, r⟩ := x
  replace hx : M_CauseIs_holds self loss = some r := hx
  have nd := sc_CauseIs_holds.nd
  unfold M_CauseIs_holds at hx
  show MS _ [some (.fz ((r_CauseIs C_CauseIs) self)), some (.fz (e_T_i_i_s_s_s_i loss))] _ _
  refine ms_one (m_ret (ps_ret pe_w) (ME.r (me_eqS (me_ixT (MV.u (ME.v (me_var (pv 1) rfl)) (.fz _)) me_int rfl) (me_fld (j := 0) (mv_var (pv 0) rfl) o_CauseIs))) ?_)
  cases hx; rfl

/-! ThingIs.holds -/
noncomputable def M_ThingIs_holds (self : Str) (loss : (Int × Int × Str × Str × Str × Int)) : Option Bool :=
  some ((loss.2.2.2.1 == self))
def sp_ThingIs_holds (K : PySem.W.Frag) (C_ThingIs : Addr) : Sp := SpF K (fun x : Str × (Int × Int × Str × Str × Str × Int) => [.fz ((r_ThingIs C_ThingIs) x.1), .fz (e_T_i_i_s_s_s_i x.2)]) (fun x => M_ThingIs_holds x.1 x.2) (fun r => .fz (.bl r))
abbrev N_ThingIs_holds : List Str := ["self", "loss"]
theorem sc_ThingIs_holds : FnScope N_ThingIs_holds ["self", "loss"] (defScope s_ThingIs_holds) := ⟨rfl, rfl, rfl, by decide +kernel, rfl, by decide +kernel, by decide +kernel⟩
theorem ok_ThingIs_holds {f : Addr} {fd : FuncData} (F : Fun K "holds" "ThingIs.holds" s_ThingIs_holds f fd) (o_ThingIs : OC K C_ThingIs ["name"]) : FnOk P w K mg base CX0 1 f fd ["self", "loss"] (sp_ThingIs_holds K C_ThingIs) := by
  refine fn_m F sc_ThingIs_holds (fun x => rfl) (fun x _ => rfl) fun cdv A outer s H E hr x hx => ?_
  obtain ⟨⟨self, loss⟩, r⟩ := x
  replace hx : M_ThingIs_holds self loss = some r := hx
  have nd := sc_ThingIs_holds.nd
  unfold M_ThingIs_holds at hx
  show MS _ [some (.fz ((r_ThingIs C_ThingIs) self)), some (.fz (e_T_i_i_s_s_s_i loss))] _ _
  refine ms_one (m_ret (ps_ret pe_w) (ME.r (me_eqS (me_ixT (MV.u (ME.v (me_var (pv 1) rfl)) (.fz _)) me_int rfl) (me_fld (j := 0) (mv_var (pv 0) rfl) o_ThingIs))) ?_)
  cases hx; rfl

/-! DaysIn.holds -/
noncomputable def M_DaysIn_holds (self : (Int × Int)) (loss : (Int × Int × Str × Str × Str × Int)) : Option Bool :=
  some (decide (self.1 ≤ loss.2.1) && decide (loss.2.1 ≤ self.2))
def sp_DaysIn_holds (K : PySem.W.Frag) (C_DaysIn : Addr) : Sp := SpF K (fun x : (Int × Int) × (Int × Int × Str × Str × Str × Int) => [.fz ((r_DaysIn C_DaysIn) x.1), .fz (e_T_i_i_s_s_s_i x.2)]) (fun x => M_DaysIn_holds x.1 x.2) (fun r => .fz (.bl r))
abbrev N_DaysIn_holds : List Str := ["self", "loss"]
theorem sc_DaysIn_holds : FnScope N_DaysIn_holds ["self", "loss"] (defScope s_DaysIn_holds) := ⟨rfl, rfl, rfl, by decide +kernel, rfl, by decide +kernel, by decide +kernel⟩
theorem ok_DaysIn_holds {f : Addr} {fd : FuncData} (F : Fun K "holds" "DaysIn.holds" s_DaysIn_holds f fd) (o_DaysIn : OC K C_DaysIn ["first", "last"]) : FnOk P w K mg base CX0 1 f fd ["self", "loss"] (sp_DaysIn_holds K C_DaysIn) := by
  refine fn_m F sc_DaysIn_holds (fun x => rfl) (fun x _ => rfl) fun cdv A outer s H E hr x hx => ?_
  obtain ⟨⟨self, loss⟩, r⟩ := x
  replace hx : M_DaysIn_holds self loss = some r := hx
  have nd := sc_DaysIn_holds.nd
  unfold M_DaysIn_holds at hx
  show MS _ [some (.fz ((r_DaysIn C_DaysIn) self)), some (.fz (e_T_i_i_s_s_s_i loss))] _ _
  refine ms_one (m_ret (ps_ret pe_w) (ME.r (me_chain (f := fun i j => decide (i ≤ j)) (f' := fun i j => decide (i ≤ j)) op_le op_le (me_fld (j := 0) (mv_var (pv 0) rfl) o_DaysIn) (me_ixT (MV.u (ME.v (me_var (pv 1) rfl)) (.fz _)) me_int rfl) (me_fld (j := 1) (mv_var (pv 0) rfl) o_DaysIn))) ?_)
  cases hx; rfl

/-! Over.holds -/
noncomputable def M_Over_holds (self : Int) (loss : (Int × Int × Str × Str × Str × Int)) : Option Bool :=
  some (decide (self < loss.2.2.2.2.2))
def sp_Over_holds (K : PySem.W.Frag) (C_Over : Addr) : Sp := SpF K (fun x : Int × (Int × Int × Str × Str × Str × Int) => [.fz ((r_Over C_Over) x.1), .fz (e_T_i_i_s_s_s_i x.2)]) (fun x => M_Over_holds x.1 x.2) (fun r => .fz (.bl r))
abbrev N_Over_holds : List Str := ["self", "loss"]
theorem sc_Over_holds : FnScope N_Over_holds ["self", "loss"] (defScope s_Over_holds) := ⟨rfl, rfl, rfl, by decide +kernel, rfl, by decide +kernel, by decide +kernel⟩
theorem ok_Over_holds {f : Addr} {fd : FuncData} (F : Fun K "holds" "Over.holds" s_Over_holds f fd) (o_Over : OC K C_Over ["cents"]) : FnOk P w K mg base CX0 1 f fd ["self", "loss"] (sp_Over_holds K C_Over) := by
  refine fn_m F sc_Over_holds (fun x => rfl) (fun x _ => rfl) fun cdv A outer s H E hr x hx => ?_
  obtain ⟨⟨self, loss⟩, r⟩ := x
  replace hx : M_Over_holds self loss = some r := hx
  have nd := sc_Over_holds.nd
  unfold M_Over_holds at hx
  show MS _ [some (.fz ((r_Over C_Over) self)), some (.fz (e_T_i_i_s_s_s_i loss))] _ _
  refine ms_one (m_ret (ps_ret pe_w) (ME.r (me_gt (me_ixT (MV.u (ME.v (me_var (pv 1) rfl)) (.fz _)) me_int rfl) (me_fld (j := 0) (mv_var (pv 0) rfl) o_Over))) ?_)
  cases hx; rfl

/-! CauseIs.__init__ -/
noncomputable def M_CauseIs___init__ (name : Str) : Option Str :=
  some name
def sp_CauseIs___init__ (K : PySem.W.Frag) (C_CauseIs : Addr) : Sp := SpX K (fun x : ((Str) × Str) => [.fz (.str x.1)]) (fun x => M_CauseIs___init__ x.1 = some x.2) (fun l x => .at l C_CauseIs [] []) (fun l x => .at l C_CauseIs ["name"] [(.fz (.str x.2))]) (fun _ => .fz .non)
def spI_CauseIs___init__ (K : PySem.W.Frag) (C_CauseIs : Addr) : Sp := SpI K C_CauseIs ["name"] (fun x : ((Str) × Str) => [.fz (.str x.1)]) (fun x => M_CauseIs___init__ x.1 = some x.2) (fun x => [(.fz (.str x.2))])
theorem toI_CauseIs___init__ {k : Nat} {f : Addr} {fd : FuncData} {ps : List Str} {C_CauseIs : Addr} (h : FnOk P w K mg base CX0 k f fd ps (sp_CauseIs___init__ K C_CauseIs)) : FnOk P w K mg base CX0 k f fd ps (spI_CauseIs___init__ K C_CauseIs) := SpX.init (fun y => y) h (fun _ => rfl) (fun _ h => h) (fun _ _ => rfl) (fun _ _ => rfl)
abbrev N_CauseIs___init__ : List Str := ["self", "name"]
theorem sc_CauseIs___init__ : FnScope N_CauseIs___init__ ["self", "name"] (defScope s_CauseIs___init__) := ⟨rfl, rfl, rfl, by decide +kernel, rfl, by decide +kernel, by decide +kernel⟩
theorem ok_CauseIs___init__ {f : Addr} {fd : FuncData} (F : Fun K "__init__" "CauseIs.__init__" s_CauseIs___init__ f fd) (o_CauseIs : OC K C_CauseIs ["name"]) : FnOk P w K mg base CX0 1 f fd ["self", "name"] (sp_CauseIs___init__ K C_CauseIs) := by
  refine fn_mX F sc_CauseIs___init__ (fun x => rfl) (fun l x _ => rfl) (fun x _ => rfl) (fun l x => ⟨_, _, _, rfl⟩) fun cdv A outer s H E hr l x hx => ?_
  obtain ⟨name, r⟩ := x
  replace hx : M_CauseIs___init__ name = some r := hx
  have nd := sc_CauseIs___init__.nd
  unfold M_CauseIs___init__ at hx
  show MS _ [some (.at l C_CauseIs [] []), some (.fz (.str name))] _ _
  refine ms_one (m_setFldN (i := 0) (pv _) rfl o_CauseIs (me_var (pv 1) rfl) ?_)
  cases hx; exact ⟨rfl, rfl⟩

/-! ThingIs.__init__ -/
noncomputable def M_ThingIs___init__ (name : Str) : Option Str :=
  some name
def sp_ThingIs___init__ (K : PySem.W.Frag) (C_ThingIs : Addr) : Sp := SpX K (fun x : ((Str) × Str) => [.fz (.str x.1)]) (fun x => M_ThingIs___init__ x.1 = some x.2) (fun l x => .at l C_ThingIs [] []) (fun l x => .at l C_ThingIs ["name"] [(.fz (.str x.2))]) (fun _ => .fz .non)
def spI_ThingIs___init__ (K : PySem.W.Frag) (C_ThingIs : Addr) : Sp := SpI K C_ThingIs ["name"] (fun x : ((Str) × Str) => [.fz (.str x.1)]) (fun x => M_ThingIs___init__ x.1 = some x.2) (fun x => [(.fz (.str x.2))])
theorem toI_ThingIs___init__ {k : Nat} {f : Addr} {fd : FuncData} {ps : List Str} {C_ThingIs : Addr} (h : FnOk P w K mg base CX0 k f fd ps (sp_ThingIs___init__ K C_ThingIs)) : FnOk P w K mg base CX0 k f fd ps (spI_ThingIs___init__ K C_ThingIs) := SpX.init (fun y => y) h (fun _ => rfl) (fun _ h => h) (fun _ _ => rfl) (fun _ _ => rfl)
abbrev N_ThingIs___init__ : List Str := ["self", "name"]
theorem sc_ThingIs___init__ : FnScope N_ThingIs___init__ ["self", "name"] (defScope s_ThingIs___init__) := ⟨rfl, rfl, rfl, by decide +kernel, rfl, by decide +kernel, by decide +kernel⟩
theorem ok_ThingIs___init__ {f : Addr} {fd : FuncData} (F : Fun K "__init__" "ThingIs.__init__" s_ThingIs___init__ f fd) (o_ThingIs : OC K C_ThingIs ["name"]) : FnOk P w K mg base CX0 1 f fd ["self", "name"] (sp_ThingIs___init__ K C_ThingIs) := by
  refine fn_mX F sc_ThingIs___init__ (fun x => rfl) (fun l x _ => rfl) (fun x _ => rfl) (fun l x => ⟨_, _, _, rfl⟩) fun cdv A outer s H E hr l x hx => ?_
  obtain ⟨name, r⟩ := x
  replace hx : M_ThingIs___init__ name = some r := hx
  have nd := sc_ThingIs___init__.nd
  unfold M_ThingIs___init__ at hx
  show MS _ [some (.at l C_ThingIs [] []), some (.fz (.str name))] _ _
  refine ms_one (m_setFldN (i := 0) (pv _) rfl o_ThingIs (me_var (pv 1) rfl) ?_)
  cases hx; exact ⟨rfl, rfl⟩

/-! DaysIn.__init__ -/
noncomputable def M_DaysIn___init__ (first : Int) (last : Int) : Option (Int × Int) :=
  some (first, last)
def sp_DaysIn___init__ (K : PySem.W.Frag) (C_DaysIn : Addr) : Sp := SpX K (fun x : ((Int × Int) × (Int × Int)) => [.fz (.int x.1.1), .fz (.int x.1.2)]) (fun x => M_DaysIn___init__ x.1.1 x.1.2 = some x.2) (fun l x => .at l C_DaysIn [] []) (fun l x => .at l C_DaysIn ["first", "last"] [(.fz (.int x.2.1)), (.fz (.int x.2.2))]) (fun _ => .fz .non)
def spI_DaysIn___init__ (K : PySem.W.Frag) (C_DaysIn : Addr) : Sp := SpI K C_DaysIn ["first", "last"] (fun x : ((Int × Int) × (Int × Int)) => [.fz (.int x.1.1), .fz (.int x.1.2)]) (fun x => M_DaysIn___init__ x.1.1 x.1.2 = some x.2) (fun x => [(.fz (.int x.2.1)), (.fz (.int x.2.2))])
theorem toI_DaysIn___init__ {k : Nat} {f : Addr} {fd : FuncData} {ps : List Str} {C_DaysIn : Addr} (h : FnOk P w K mg base CX0 k f fd ps (sp_DaysIn___init__ K C_DaysIn)) : FnOk P w K mg base CX0 k f fd ps (spI_DaysIn___init__ K C_DaysIn) := SpX.init (fun y => y) h (fun _ => rfl) (fun _ h => h) (fun _ _ => rfl) (fun _ _ => rfl)
abbrev N_DaysIn___init__ : List Str := ["self", "first", "last"]
theorem sc_DaysIn___init__ : FnScope N_DaysIn___init__ ["self", "first", "last"] (defScope s_DaysIn___init__) := ⟨rfl, rfl, rfl, by decide +kernel, rfl, by decide +kernel, by decide +kernel⟩
theorem ok_DaysIn___init__ {f : Addr} {fd : FuncData} (F : Fun K "__init__" "DaysIn.__init__" s_DaysIn___init__ f fd) (o_DaysIn : OC K C_DaysIn ["first", "last"]) : FnOk P w K mg base CX0 1 f fd ["self", "first", "last"] (sp_DaysIn___init__ K C_DaysIn) := by
  refine fn_mX F sc_DaysIn___init__ (fun x => rfl) (fun l x _ => rfl) (fun x _ => rfl) (fun l x => ⟨_, _, _, rfl⟩) fun cdv A outer s H E hr l x hx => ?_
  obtain ⟨⟨first, last⟩, r⟩ := x
  replace hx : M_DaysIn___init__ first last = some r := hx
  have nd := sc_DaysIn___init__.nd
  unfold M_DaysIn___init__ at hx
  show MS _ [some (.at l C_DaysIn [] []), some (.fz (.int first)), some (.fz (.int last))] _ _
  refine ms_cons (m_setFldN (i := 0) (pv _) rfl o_DaysIn (me_var (pv 1) rfl) ?_)
  show MS _ [some (.at l C_DaysIn ["first"] [(.fz (.int first))]), some (.fz (.int first)), some (.fz (.int last))] _ _
  refine ms_one (m_setFldN (i := 0) (pv _) rfl o_DaysIn (me_var (pv 2) rfl) ?_)
  cases hx; exact ⟨rfl, rfl⟩

/-! Over.__init__ -/
noncomputable def M_Over___init__ (cents : Int) : Option Int :=
  some cents
def sp_Over___init__ (K : PySem.W.Frag) (C_Over : Addr) : Sp := SpX K (fun x : ((Int) × Int) => [.fz (.int x.1)]) (fun x => M_Over___init__ x.1 = some x.2) (fun l x => .at l C_Over [] []) (fun l x => .at l C_Over ["cents"] [(.fz (.int x.2))]) (fun _ => .fz .non)
def spI_Over___init__ (K : PySem.W.Frag) (C_Over : Addr) : Sp := SpI K C_Over ["cents"] (fun x : ((Int) × Int) => [.fz (.int x.1)]) (fun x => M_Over___init__ x.1 = some x.2) (fun x => [(.fz (.int x.2))])
theorem toI_Over___init__ {k : Nat} {f : Addr} {fd : FuncData} {ps : List Str} {C_Over : Addr} (h : FnOk P w K mg base CX0 k f fd ps (sp_Over___init__ K C_Over)) : FnOk P w K mg base CX0 k f fd ps (spI_Over___init__ K C_Over) := SpX.init (fun y => y) h (fun _ => rfl) (fun _ h => h) (fun _ _ => rfl) (fun _ _ => rfl)
abbrev N_Over___init__ : List Str := ["self", "cents"]
theorem sc_Over___init__ : FnScope N_Over___init__ ["self", "cents"] (defScope s_Over___init__) := ⟨rfl, rfl, rfl, by decide +kernel, rfl, by decide +kernel, by decide +kernel⟩
theorem ok_Over___init__ {f : Addr} {fd : FuncData} (F : Fun K "__init__" "Over.__init__" s_Over___init__ f fd) (o_Over : OC K C_Over ["cents"]) : FnOk P w K mg base CX0 1 f fd ["self", "cents"] (sp_Over___init__ K C_Over) := by
  refine fn_mX F sc_Over___init__ (fun x => rfl) (fun l x _ => rfl) (fun x _ => rfl) (fun l x => ⟨_, _, _, rfl⟩) fun cdv A outer s H E hr l x hx => ?_
  obtain ⟨cents, r⟩ := x
  replace hx : M_Over___init__ cents = some r := hx
  have nd := sc_Over___init__.nd
  unfold M_Over___init__ at hx
  show MS _ [some (.at l C_Over [] []), some (.fz (.int cents))] _ _
  refine ms_one (m_setFldN (i := 0) (pv _) rfl o_Over (me_var (pv 1) rfl) ?_)
  cases hx; exact ⟨rfl, rfl⟩

/-! Not.__init__ -/
noncomputable def M_Not___init__ (part : Cd) : Option Cd :=
  some part
def sp_Not___init__ (K : PySem.W.Frag) (C_Not C_Condition C_CauseIs C_ThingIs C_DaysIn C_Over C_All C_Some : Addr) : Sp := SpX K (fun x : ((Cd) × Cd) => [.fz ((u_Cd C_Condition C_CauseIs C_ThingIs C_DaysIn C_Over C_Not C_All C_Some) x.1)]) (fun x => M_Not___init__ x.1 = some x.2) (fun l x => .at l C_Not [] []) (fun l x => .at l C_Not ["part"] [(.fz ((u_Cd C_Condition C_CauseIs C_ThingIs C_DaysIn C_Over C_Not C_All C_Some) x.2))]) (fun _ => .fz .non)
def spI_Not___init__ (K : PySem.W.Frag) (C_Not C_Condition C_CauseIs C_ThingIs C_DaysIn C_Over C_All C_Some : Addr) : Sp := SpI K C_Not ["part"] (fun x : ((Cd) × Cd) => [.fz ((u_Cd C_Condition C_CauseIs C_ThingIs C_DaysIn C_Over C_Not C_All C_Some) x.1)]) (fun x => M_Not___init__ x.1 = some x.2) (fun x => [(.fz ((u_Cd C_Condition C_CauseIs C_ThingIs C_DaysIn C_Over C_Not C_All C_Some) x.2))])
theorem toI_Not___init__ {k : Nat} {f : Addr} {fd : FuncData} {ps : List Str} {C_Not C_Condition C_CauseIs C_ThingIs C_DaysIn C_Over C_All C_Some : Addr} (h : FnOk P w K mg base CX0 k f fd ps (sp_Not___init__ K C_Not C_Condition C_CauseIs C_ThingIs C_DaysIn C_Over C_All C_Some)) : FnOk P w K mg base CX0 k f fd ps (spI_Not___init__ K C_Not C_Condition C_CauseIs C_ThingIs C_DaysIn C_Over C_All C_Some) := SpX.init (fun y => y) h (fun _ => rfl) (fun _ h => h) (fun _ _ => rfl) (fun _ _ => rfl)
abbrev N_Not___init__ : List Str := ["self", "part"]
theorem sc_Not___init__ : FnScope N_Not___init__ ["self", "part"] (defScope s_Not___init__) := ⟨rfl, rfl, rfl, by decide +kernel, rfl, by decide +kernel, by decide +kernel⟩
theorem ok_Not___init__ {f : Addr} {fd : FuncData} (F : Fun K "__init__" "Not.__init__" s_Not___init__ f fd) (o_Not : OC K C_Not ["part"]) : FnOk P w K mg base CX0 1 f fd ["self", "part"] (sp_Not___init__ K C_Not C_Condition C_CauseIs C_ThingIs C_DaysIn C_Over C_All C_Some) := by
  refine fn_mX F sc_Not___init__ (fun x => rfl) (fun l x _ => rfl) (fun x _ => rfl) (fun l x => ⟨_, _, _, rfl⟩) fun cdv A outer s H E hr l x hx => ?_
  obtain ⟨part, r⟩ := x
  replace hx : M_Not___init__ part = some r := hx
  have nd := sc_Not___init__.nd
  unfold M_Not___init__ at hx
  show MS _ [some (.at l C_Not [] []), some (.fz ((u_Cd C_Condition C_CauseIs C_ThingIs C_DaysIn C_Over C_Not C_All C_Some) part))] _ _
  refine ms_one (m_setFldN (i := 0) (pv _) rfl o_Not (me_var (pv 1) rfl) ?_)
  cases hx; exact ⟨rfl, rfl⟩

/-! All.__init__ -/
noncomputable def M_All___init__ (several : (List Cd)) : Option (List Cd) :=
  some several
def sp_All___init__ (K : PySem.W.Frag) (C_All C_Condition C_CauseIs C_ThingIs C_DaysIn C_Over C_Not C_Some : Addr) : Sp := SpX K (fun x : (((List Cd)) × (List Cd)) => [.vw (x.1.map (u_Cd C_Condition C_CauseIs C_ThingIs C_DaysIn C_Over C_Not C_All C_Some))]) (fun x => M_All___init__ x.1 = some x.2) (fun l x => .at l C_All [] []) (fun l x => .at l C_All ["several"] [(.lst ((x.2.map (u_Cd C_Condition C_CauseIs C_ThingIs C_DaysIn C_Over C_Not C_All C_Some)).map .fz))]) (fun _ => .fz .non)
def spI_All___init__ (K : PySem.W.Frag) (C_All C_Condition C_CauseIs C_ThingIs C_DaysIn C_Over C_Not C_Some : Addr) : Sp := SpI K C_All ["several"] (fun x : (((List Cd)) × (List Cd)) => [.vw (x.1.map (u_Cd C_Condition C_CauseIs C_ThingIs C_DaysIn C_Over C_Not C_All C_Some))]) (fun x => M_All___init__ x.1 = some x.2) (fun x => [(.lst ((x.2.map (u_Cd C_Condition C_CauseIs C_ThingIs C_DaysIn C_Over C_Not C_All C_Some)).map .fz))])
theorem toI_All___init__ {k : Nat} {f : Addr} {fd : FuncData} {ps : List Str} {C_All C_Condition C_CauseIs C_ThingIs C_DaysIn C_Over C_Not C_Some : Addr} (h : FnOk P w K mg base CX0 k f fd ps (sp_All___init__ K C_All C_Condition C_CauseIs C_ThingIs C_DaysIn C_Over C_Not C_Some)) : FnOk P w K mg base CX0 k f fd ps (spI_All___init__ K C_All C_Condition C_CauseIs C_ThingIs C_DaysIn C_Over C_Not C_Some) := SpX.init (fun y => y) h (fun _ => rfl) (fun _ h => h) (fun _ _ => rfl) (fun _ _ => rfl)
abbrev N_All___init__ : List Str := ["self", "several"]
theorem sc_All___init__ : FnScope N_All___init__ ["self", "several"] (defScope s_All___init__) := ⟨rfl, rfl, rfl, by decide +kernel, rfl, by decide +kernel, by decide +kernel⟩
theorem ok_All___init__ {f : Addr} {fd : FuncData} (F : Fun K "__init__" "All.__init__" s_All___init__ f fd) (z_list : mg "list" = none) (o_All : OC K C_All ["several"]) : FnOk P w K mg base CX0 1 f fd ["self", "several"] (sp_All___init__ K C_All C_Condition C_CauseIs C_ThingIs C_DaysIn C_Over C_Not C_Some) := by
  refine fn_mX F sc_All___init__ (fun x => rfl) (fun l x _ => by simp only [O.nv, O.nvL, O.nvL_fz, Bool.and_self]) (fun x _ => rfl) (fun l x => ⟨_, _, _, rfl⟩) fun cdv A outer s H E hr l x hx => ?_
  obtain ⟨several, r⟩ := x
  replace hx : M_All___init__ several = some r := hx
  have nd := sc_All___init__.nd
  unfold M_All___init__ at hx
  show MS _ [some (.at l C_All [] []), some (.vw (several.map (u_Cd C_Condition C_CauseIs C_ThingIs C_DaysIn C_Over C_Not C_All C_Some)))] _ _
  refine ms_one (m_setFldN (i := 0) (pv _) rfl o_All (me_list (ds := several.map (u_Cd C_Condition C_CauseIs C_ThingIs C_DaysIn C_Over C_Not C_All C_Some)) (by rfl) z_list (ml_var (pv 1) rfl)) ?_)
  cases hx; exact ⟨rfl, rfl⟩

/-! Some.__init__ -/
noncomputable def M_Some___init__ (several : (List Cd)) : Option (List Cd) :=
  some several
def sp_Some___init__ (K : PySem.W.Frag) (C_Some C_Condition C_CauseIs C_ThingIs C_DaysIn C_Over C_Not C_All : Addr) : Sp := SpX K (fun x : (((List Cd)) × (List Cd)) => [.vw (x.1.map (u_Cd C_Condition C_CauseIs C_ThingIs C_DaysIn C_Over C_Not C_All C_Some))]) (fun x => M_Some___init__ x.1 = some x.2) (fun l x => .at l C_Some [] []) (fun l x => .at l C_Some ["several"] [(.lst ((x.2.map (u_Cd C_Condition C_CauseIs C_ThingIs C_DaysIn C_Over C_Not C_All C_Some)).map .fz))]) (fun _ => .fz .non)
def spI_Some___init__ (K : PySem.W.Frag) (C_Some C_Condition C_CauseIs C_ThingIs C_DaysIn C_Over C_Not C_All : Addr) : Sp := SpI K C_Some ["several"] (fun x : (((List Cd)) × (List Cd)) => [.vw (x.1.map (u_Cd C_Condition C_CauseIs C_ThingIs C_DaysIn C_Over C_Not C_All C_Some))]) (fun x => M_Some___init__ x.1 = some x.2) (fun x => [(.lst ((x.2.map (u_Cd C_Condition C_CauseIs C_ThingIs C_DaysIn C_Over C_Not C_All C_Some)).map .fz))])
theorem toI_Some___init__ {k : Nat} {f : Addr} {fd : FuncData} {ps : List Str} {C_Some C_Condition C_CauseIs C_ThingIs C_DaysIn C_Over C_Not C_All : Addr} (h : FnOk P w K mg base CX0 k f fd ps (sp_Some___init__ K C_Some C_Condition C_CauseIs C_ThingIs C_DaysIn C_Over C_Not C_All)) : FnOk P w K mg base CX0 k f fd ps (spI_Some___init__ K C_Some C_Condition C_CauseIs C_ThingIs C_DaysIn C_Over C_Not C_All) := SpX.init (fun y => y) h (fun _ => rfl) (fun _ h => h) (fun _ _ => rfl) (fun _ _ => rfl)
abbrev N_Some___init__ : List Str := ["self", "several"]
theorem sc_Some___init__ : FnScope N_Some___init__ ["self", "several"] (defScope s_Some___init__) := ⟨rfl, rfl, rfl, by decide +kernel, rfl, by decide +kernel, by decide +kernel⟩
theorem ok_Some___init__ {f : Addr} {fd : FuncData} (F : Fun K "__init__" "Some.__init__" s_Some___init__ f fd) (z_list : mg "list" = none) (o_Some : OC K C_Some ["several"]) : FnOk P w K mg base CX0 1 f fd ["self", "several"] (sp_Some___init__ K C_Some C_Condition C_CauseIs C_ThingIs C_DaysIn C_Over C_Not C_All) := by
  refine fn_mX F sc_Some___init__ (fun x => rfl) (fun l x _ => by simp only [O.nv, O.nvL, O.nvL_fz, Bool.and_self]) (fun x _ => rfl) (fun l x => ⟨_, _, _, rfl⟩) fun cdv A outer s H E hr l x hx => ?_
  obtain ⟨several, r⟩ := x
  replace hx : M_Some___init__ several = some r := hx
  have nd := sc_Some___init__.nd
  unfold M_Some___init__ at hx
  show MS _ [some (.at l C_Some [] []), some (.vw (several.map (u_Cd C_Condition C_CauseIs C_ThingIs C_DaysIn C_Over C_Not C_All C_Some)))] _ _
  refine ms_one (m_setFldN (i := 0) (pv _) rfl o_Some (me_list (ds := several.map (u_Cd C_Condition C_CauseIs C_ThingIs C_DaysIn C_Over C_Not C_All C_Some)) (by rfl) z_list (ml_var (pv 1) rfl)) ?_)
  cases hx; exact ⟨rfl, rfl⟩

/-! group holds -/

abbrev TK_holds : Type := (Cd × (Int × Int × Str × Str × Str × Int) → Option Bool) × ((List Cd) × (Int × Int × Str × Str × Str × Int) → Option Bool) × ((List Cd) × (Int × Int × Str × Str × Str × Int) → Option Bool)
noncomputable def U_Cd_holds (r : TK_holds) (v : Cd) (y0 : (Int × Int × Str × Str × Str × Int)) : Option Bool := match v with
  | .plain p => M_Condition_holds (.plain p) y0
  | .cause p => M_CauseIs_holds p y0
  | .thing p => M_ThingIs_holds p y0
  | .days p => M_DaysIn_holds p y0
  | .over p => M_Over_holds p y0
  | .notOf p => r.1 (p, y0)
  | .allOf p => r.2.1 (p, y0)
  | .someOf p => r.2.2 (p, y0)
noncomputable def M_Not_holds (r : TK_holds) (self : Cd) (loss : (Int × Int × Str × Str × Str × Int)) : Option Bool :=
  bd (U_Cd_holds r self loss) fun v1 =>
  some (!v1)
noncomputable def M_All_holds (r : TK_holds) (self : (List Cd)) (loss : (Int × Int × Str × Str × Str × Int)) : Option Bool :=
  bd (lpO (fun (x2 : Cd) (p1 : Unit) => (bd (U_Cd_holds r x2 loss) fun v4 =>
    cond (!v4) (some (.rt false)) <|
    some (.nx ()) : Option (Ou (Unit) (Unit) Bool))) self ()) fun o3 => ouR o3 fun p1 =>
  some true
noncomputable def M_Some_holds (r : TK_holds) (self : (List Cd)) (loss : (Int × Int × Str × Str × Str × Int)) : Option Bool :=
  bd (lpO (fun (x2 : Cd) (p1 : Unit) => (bd (U_Cd_holds r x2 loss) fun v4 =>
    cond v4 (some (.rt true)) <|
    some (.nx ()) : Option (Ou (Unit) (Unit) Bool))) self ()) fun o3 => ouR o3 fun p1 =>
  some false
noncomputable def Kn_holds : Nat → TK_holds
  | 0 => (fun _ => none, fun _ => none, fun _ => none)
  | n + 1 => let r := Kn_holds n; (fun x => M_Not_holds r x.1 x.2, fun x => M_All_holds r x.1 x.2, fun x => M_Some_holds r x.1 x.2)
noncomputable def Mf_Not_holds (n : Nat) (x0 : Cd) (x1 : (Int × Int × Str × Str × Str × Int)) := (Kn_holds n).1 (x0, x1)
theorem Mf_Not_holds_S (n : Nat) (x0 : Cd) (x1 : (Int × Int × Str × Str × Str × Int)) : Mf_Not_holds (n + 1) x0 x1 = M_Not_holds (Kn_holds n) x0 x1 := rfl
noncomputable def Mf_All_holds (n : Nat) (x0 : (List Cd)) (x1 : (Int × Int × Str × Str × Str × Int)) := (Kn_holds n).2.1 (x0, x1)
theorem Mf_All_holds_S (n : Nat) (x0 : (List Cd)) (x1 : (Int × Int × Str × Str × Str × Int)) : Mf_All_holds (n + 1) x0 x1 = M_All_holds (Kn_holds n) x0 x1 := rfl
noncomputable def Mf_Some_holds (n : Nat) (x0 : (List Cd)) (x1 : (Int × Int × Str × Str × Str × Int)) := (Kn_holds n).2.2 (x0, x1)
theorem Mf_Some_holds_S (n : Nat) (x0 : (List Cd)) (x1 : (Int × Int × Str × Str × Str × Int)) : Mf_Some_holds (n + 1) x0 x1 = M_Some_holds (Kn_holds n) x0 x1 := rfl
def sp_Not_holds (K : PySem.W.Frag) (C_Not C_Condition C_CauseIs C_ThingIs C_DaysIn C_Over C_All C_Some : Addr) (n : Nat) : Sp := SpF K (fun x : Cd × (Int × Int × Str × Str × Str × Int) => [.fz ((r_Not C_Not C_Condition C_CauseIs C_ThingIs C_DaysIn C_Over C_All C_Some) x.1), .fz (e_T_i_i_s_s_s_i x.2)]) (fun x => Mf_Not_holds n x.1 x.2) (fun r => .fz (.bl r))
def sp_All_holds (K : PySem.W.Frag) (C_All C_Condition C_CauseIs C_ThingIs C_DaysIn C_Over C_Not C_Some : Addr) (n : Nat) : Sp := SpF K (fun x : (List Cd) × (Int × Int × Str × Str × Str × Int) => [.fz ((r_All C_All C_Condition C_CauseIs C_ThingIs C_DaysIn C_Over C_Not C_Some) x.1), .fz (e_T_i_i_s_s_s_i x.2)]) (fun x => Mf_All_holds n x.1 x.2) (fun r => .fz (.bl r))
def sp_Some_holds (K : PySem.W.Frag) (C_Some C_Condition C_CauseIs C_ThingIs C_DaysIn C_Over C_Not C_All : Addr) (n : Nat) : Sp := SpF K (fun x : (List Cd) × (Int × Int × Str × Str × Str × Int) => [.fz ((r_Some C_Some C_Condition C_CauseIs C_ThingIs C_DaysIn C_Over C_Not C_All) x.1), .fz (e_T_i_i_s_s_s_i x.2)]) (fun x => Mf_Some_holds n x.1 x.2) (fun r => .fz (.bl r))
abbrev N_Not_holds : List Str := ["self", "loss"]
theorem sc_Not_holds : FnScope N_Not_holds ["self", "loss"] (defScope s_Not_holds) := ⟨rfl, rfl, rfl, by decide +kernel, rfl, by decide +kernel, by decide +kernel⟩
theorem ok_Not_holds {f : Addr} {fd : FuncData} (n : Nat) (F : Fun K "holds" "Not.holds" s_Not_holds f fd) (o_Not : OC K C_Not ["part"]) (o_Condition : OC K C_Condition []) (o_CauseIs : OC K C_CauseIs ["name"]) (o_ThingIs : OC K C_ThingIs ["name"]) (o_DaysIn : OC K C_DaysIn ["first", "last"]) (o_Over : OC K C_Over ["cents"]) (o_All : OC K C_All ["several"]) (o_Some : OC K C_Some ["several"]) (m_Condition_holds : Mt1 P w K mg base C_Condition "holds" 1 ["self", "loss"] (sp_Condition_holds K C_Condition C_CauseIs C_ThingIs C_DaysIn C_Over C_Not C_All C_Some)) (m_CauseIs_holds : Mt1 P w K mg base C_CauseIs "holds" 1 ["self", "loss"] (sp_CauseIs_holds K C_CauseIs)) (m_ThingIs_holds : Mt1 P w K mg base C_ThingIs "holds" 1 ["self", "loss"] (sp_ThingIs_holds K C_ThingIs)) (m_DaysIn_holds : Mt1 P w K mg base C_DaysIn "holds" 1 ["self", "loss"] (sp_DaysIn_holds K C_DaysIn)) (m_Over_holds : Mt1 P w K mg base C_Over "holds" 1 ["self", "loss"] (sp_Over_holds K C_Over)) (m_Not_holds : Mt1 P w K mg base C_Not "holds" (1 + n) ["self", "loss"] (sp_Not_holds K C_Not C_Condition C_CauseIs C_ThingIs C_DaysIn C_Over C_All C_Some n)) (m_All_holds : Mt1 P w K mg base C_All "holds" (1 + n) ["self", "loss"] (sp_All_holds K C_All C_Condition C_CauseIs C_ThingIs C_DaysIn C_Over C_Not C_Some n)) (m_Some_holds : Mt1 P w K mg base C_Some "holds" (1 + n) ["self", "loss"] (sp_Some_holds K C_Some C_Condition C_CauseIs C_ThingIs C_DaysIn C_Over C_Not C_All n)) : FnOk P w K mg base CX0 (1 + n + 1) f fd ["self", "loss"] (sp_Not_holds K C_Not C_Condition C_CauseIs C_ThingIs C_DaysIn C_Over C_All C_Some (n + 1)) := by
  refine fn_m F sc_Not_holds (fun x => rfl) (fun x _ => rfl) fun cdv A outer s H E hr x hx => ?_
  obtain ⟨⟨self, loss⟩, r⟩ := x
  replace hx : M_Not_holds (Kn_holds n) self loss = some r := hx
  have nd := sc_Not_holds.nd
  unfold M_Not_holds at hx
  show MS _ [some (.fz ((r_Not C_Not C_Condition C_CauseIs C_ThingIs C_DaysIn C_Over C_All C_Some) self)), some (.fz (e_T_i_i_s_s_s_i loss))] _ _
  replace hx := bd_some hx
  obtain ⟨v1, hv1, hx⟩ := hx
  refine ms_one (m_ret (ps_ret pe_w) (ME.r (me_not (show ME _ _ _ (.fz (.bl v1)) from by obtain ⟨cc, hv⟩ : ∃ cc, self = cc := ⟨_, rfl⟩; cases cc with | plain p => exact me_mt m_Condition_holds o_Condition (((.plain p), loss), v1) (MV.as (ME.v (me_fld (j := 0) (mv_var (pv 0) rfl) o_Not)) (congrArg (u_Cd C_Condition C_CauseIs C_ThingIs C_DaysIn C_Over C_Not C_All C_Some) hv)) (ma_fz (me_var (pv 1) rfl) ma_nil) rfl ((congrArg (fun q => U_Cd_holds (Kn_holds n) q loss) hv).symm.trans hv1) (hr.mono (by omega)) | cause p => exact me_mt m_CauseIs_holds o_CauseIs ((p, loss), v1) (MV.as (ME.v (me_fld (j := 0) (mv_var (pv 0) rfl) o_Not)) ((congrArg (u_Cd C_Condition C_CauseIs C_ThingIs C_DaysIn C_Over C_Not C_All C_Some) hv).trans (u_Cd_cause C_Condition C_CauseIs C_ThingIs C_DaysIn C_Over C_Not C_All C_Some _))) (ma_fz (me_var (pv 1) rfl) ma_nil) rfl ((congrArg (fun q => U_Cd_holds (Kn_holds n) q loss) hv).symm.trans hv1) (hr.mono (by omega)) | thing p => exact me_mt m_ThingIs_holds o_ThingIs ((p, loss), v1) (MV.as (ME.v (me_fld (j := 0) (mv_var (pv 0) rfl) o_Not)) ((congrArg (u_Cd C_Condition C_CauseIs C_ThingIs C_DaysIn C_Over C_Not C_All C_Some) hv).trans (u_Cd_thing C_Condition C_CauseIs C_ThingIs C_DaysIn C_Over C_Not C_All C_Some _))) (ma_fz (me_var (pv 1) rfl) ma_nil) rfl ((congrArg (fun q => U_Cd_holds (Kn_holds n) q loss) hv).symm.trans hv1) (hr.mono (by omega)) | days p => exact me_mt m_DaysIn_holds o_DaysIn ((p, loss), v1) (MV.as (ME.v (me_fld (j := 0) (mv_var (pv 0) rfl) o_Not)) ((congrArg (u_Cd C_Condition C_CauseIs C_ThingIs C_DaysIn C_Over C_Not C_All C_Some) hv).trans (u_Cd_days C_Condition C_CauseIs C_ThingIs C_DaysIn C_Over C_Not C_All C_Some _))) (ma_fz (me_var (pv 1) rfl) ma_nil) rfl ((congrArg (fun q => U_Cd_holds (Kn_holds n) q loss) hv).symm.trans hv1) (hr.mono (by omega)) | over p => exact me_mt m_Over_holds o_Over ((p, loss), v1) (MV.as (ME.v (me_fld (j := 0) (mv_var (pv 0) rfl) o_Not)) ((congrArg (u_Cd C_Condition C_CauseIs C_ThingIs C_DaysIn C_Over C_Not C_All C_Some) hv).trans (u_Cd_over C_Condition C_CauseIs C_ThingIs C_DaysIn C_Over C_Not C_All C_Some _))) (ma_fz (me_var (pv 1) rfl) ma_nil) rfl ((congrArg (fun q => U_Cd_holds (Kn_holds n) q loss) hv).symm.trans hv1) (hr.mono (by omega)) | notOf p => exact me_mt m_Not_holds o_Not ((p, loss), v1) (MV.as (ME.v (me_fld (j := 0) (mv_var (pv 0) rfl) o_Not)) ((congrArg (u_Cd C_Condition C_CauseIs C_ThingIs C_DaysIn C_Over C_Not C_All C_Some) hv).trans (u_Cd_notOf C_Condition C_CauseIs C_ThingIs C_DaysIn C_Over C_Not C_All C_Some _))) (ma_fz (me_var (pv 1) rfl) ma_nil) rfl ((congrArg (fun q => U_Cd_holds (Kn_holds n) q loss) hv).symm.trans hv1) (hr.mono (by omega)) | allOf p => exact me_mt m_All_holds o_All ((p, loss), v1) (MV.as (ME.v (me_fld (j := 0) (mv_var (pv 0) rfl) o_Not)) ((congrArg (u_Cd C_Condition C_CauseIs C_ThingIs C_DaysIn C_Over C_Not C_All C_Some) hv).trans (u_Cd_allOf C_Condition C_CauseIs C_ThingIs C_DaysIn C_Over C_Not C_All C_Some _))) (ma_fz (me_var (pv 1) rfl) ma_nil) rfl ((congrArg (fun q => U_Cd_holds (Kn_holds n) q loss) hv).symm.trans hv1) (hr.mono (by omega)) | someOf p => exact me_mt m_Some_holds o_Some ((p, loss), v1) (MV.as (ME.v (me_fld (j := 0) (mv_var (pv 0) rfl) o_Not)) ((congrArg (u_Cd C_Condition C_CauseIs C_ThingIs C_DaysIn C_Over C_Not C_All C_Some) hv).trans (u_Cd_someOf C_Condition C_CauseIs C_ThingIs C_DaysIn C_Over C_Not C_All C_Some _))) (ma_fz (me_var (pv 1) rfl) ma_nil) rfl ((congrArg (fun q => U_Cd_holds (Kn_holds n) q loss) hv).symm.trans hv1) (hr.mono (by omega))))) ?_)
  cases hx; rfl

abbrev N_All_holds : List Str := ["self", "loss", "part"]
theorem sc_All_holds : FnScope N_All_holds ["self", "loss"] (defScope s_All_holds) := ⟨rfl, rfl, rfl, by decide +kernel, rfl, by decide +kernel, by decide +kernel⟩
theorem ok_All_holds {f : Addr} {fd : FuncData} (n : Nat) (F : Fun K "holds" "All.holds" s_All_holds f fd) (o_All : OC K C_All ["several"]) (o_Condition : OC K C_Condition []) (o_CauseIs : OC K C_CauseIs ["name"]) (o_ThingIs : OC K C_ThingIs ["name"]) (o_DaysIn : OC K C_DaysIn ["first", "last"]) (o_Over : OC K C_Over ["cents"]) (o_Not : OC K C_Not ["part"]) (o_Some : OC K C_Some ["several"]) (m_Condition_holds : Mt1 P w K mg base C_Condition "holds" 1 ["self", "loss"] (sp_Condition_holds K C_Condition C_CauseIs C_ThingIs C_DaysIn C_Over C_Not C_All C_Some)) (m_CauseIs_holds : Mt1 P w K mg base C_CauseIs "holds" 1 ["self", "loss"] (sp_CauseIs_holds K C_CauseIs)) (m_ThingIs_holds : Mt1 P w K mg base C_ThingIs "holds" 1 ["self", "loss"] (sp_ThingIs_holds K C_ThingIs)) (m_DaysIn_holds : Mt1 P w K mg base C_DaysIn "holds" 1 ["self", "loss"] (sp_DaysIn_holds K C_DaysIn)) (m_Over_holds : Mt1 P w K mg base C_Over "holds" 1 ["self", "loss"] (sp_Over_holds K C_Over)) (m_Not_holds : Mt1 P w K mg base C_Not "holds" (1 + n) ["self", "loss"] (sp_Not_holds K C_Not C_Condition C_CauseIs C_ThingIs C_DaysIn C_Over C_All C_Some n)) (m_All_holds : Mt1 P w K mg base C_All "holds" (1 + n) ["self", "loss"] (sp_All_holds K C_All C_Condition C_CauseIs C_ThingIs C_DaysIn C_Over C_Not C_Some n)) (m_Some_holds : Mt1 P w K mg base C_Some "holds" (1 + n) ["self", "loss"] (sp_Some_holds K C_Some C_Condition C_CauseIs C_ThingIs C_DaysIn C_Over C_Not C_All n)) : FnOk P w K mg base CX0 (1 + n + 1) f fd ["self", "loss"] (sp_All_holds K C_All C_Condition C_CauseIs C_ThingIs C_DaysIn C_Over C_Not C_Some (n + 1)) := by
  refine fn_m F sc_All_holds (fun x => rfl) (fun x _ => rfl) fun cdv A outer s H E hr x hx => ?_
  obtain ⟨⟨self, loss⟩, r⟩ := x
  replace hx : M_All_holds (Kn_holds n) self loss = some r := hx
  have nd := sc_All_holds.nd
  unfold M_All_holds at hx
  show MS _ [some (.fz ((r_All C_All C_Condition C_CauseIs C_ThingIs C_DaysIn C_Over C_Not C_Some) self)), some (.fz (e_T_i_i_s_s_s_i loss)), none] _ _
  replace hx := bd_some hx
  obtain ⟨o3, ho3, hx⟩ := hx
  refine ms_cons (m_forO (xs := self) (enc := (u_Cd C_Condition C_CauseIs C_ThingIs C_DaysIn C_Over C_Not C_All C_Some)) (ps_for PassesOwn.never rfl (pi_list pe_w) (pg_name (i := 2) nd rfl (Or.inl rfl)) pss_w) (by exact (mi_list (ds := self.map (u_Cd C_Condition C_CauseIs C_ThingIs C_DaysIn C_Over C_Not C_All C_Some)) (ME.k (me_fld (j := 0) (mv_var (pv 0) rfl) o_All)))) ho3 (fun p1 => [some (.fz ((r_All C_All C_Condition C_CauseIs C_ThingIs C_DaysIn C_Over C_Not C_Some) self)), some (.fz (e_T_i_i_s_s_s_i loss)), none]) (fun r => .fz (.bl r)) le_auto (fun x2 p1 p1o mx hx => ?_) (fun p1 τ e le => ?_) fun q e => ?_)
  ·
    refine ⟨_, _, mg_name, ?_⟩
    show MS _ [some (.fz ((r_All C_All C_Condition C_CauseIs C_ThingIs C_DaysIn C_Over C_Not C_Some) self)), some (.fz (e_T_i_i_s_s_s_i loss)), some (.fz ((u_Cd C_Condition C_CauseIs C_ThingIs C_DaysIn C_Over C_Not C_All C_Some) x2))] _ _
    replace hx := bd_some hx
    obtain ⟨v4, hv4, hx⟩ := hx
    refine ms_one (m_if (t := (!v4)) (mt_not (mt_val (show ME _ _ _ (.fz (.bl v4)) from by obtain ⟨cc, hv⟩ : ∃ cc, x2 = cc := ⟨_, rfl⟩; cases cc with | plain p => exact me_mt m_Condition_holds o_Condition (((.plain p), loss), v4) (MV.as (mv_var (pv 2) rfl) (congrArg (u_Cd C_Condition C_CauseIs C_ThingIs C_DaysIn C_Over C_Not C_All C_Some) hv)) (ma_fz (me_var (pv 1) rfl) ma_nil) rfl ((congrArg (fun q => U_Cd_holds (Kn_holds n) q loss) hv).symm.trans hv4) (hr.mono (by omega)) | cause p => exact me_mt m_CauseIs_holds o_CauseIs ((p, loss), v4) (MV.as (mv_var (pv 2) rfl) ((congrArg (u_Cd C_Condition C_CauseIs C_ThingIs C_DaysIn C_Over C_Not C_All C_Some) hv).trans (u_Cd_cause C_Condition C_CauseIs C_ThingIs C_DaysIn C_Over C_Not C_All C_Some _))) (ma_fz (me_var (pv 1) rfl) ma_nil) rfl ((congrArg (fun q => U_Cd_holds (Kn_holds n) q loss) hv).symm.trans hv4) (hr.mono (by omega)) | thing p => exact me_mt m_ThingIs_holds o_ThingIs ((p, loss), v4) (MV.as (mv_var (pv 2) rfl) ((congrArg (u_Cd C_Condition C_CauseIs C_ThingIs C_DaysIn C_Over C_Not C_All C_Some) hv).trans (u_Cd_thing C_Condition C_CauseIs C_ThingIs C_DaysIn C_Over C_Not C_All C_Some _))) (ma_fz (me_var (pv 1) rfl) ma_nil) rfl ((congrArg (fun q => U_Cd_holds (Kn_holds n) q loss) hv).symm.trans hv4) (hr.mono (by omega)) | days p => exact me_mt m_DaysIn_holds o_DaysIn ((p, loss), v4) (MV.as (mv_var (pv 2) rfl) ((congrArg (u_Cd C_Condition C_CauseIs C_ThingIs C_DaysIn C_Over C_Not C_All C_Some) hv).trans (u_Cd_days C_Condition C_CauseIs C_ThingIs C_DaysIn C_Over C_Not C_All C_Some _))) (ma_fz (me_var (pv 1) rfl) ma_nil) rfl ((congrArg (fun q => U_Cd_holds (Kn_holds n) q loss) hv).symm.trans hv4) (hr.mono (by omega)) | over p => exact me_mt m_Over_holds o_Over ((p, loss), v4) (MV.as (mv_var (pv 2) rfl) ((congrArg (u_Cd C_Condition C_CauseIs C_ThingIs C_DaysIn C_Over C_Not C_All C_Some) hv).trans (u_Cd_over C_Condition C_CauseIs C_ThingIs C_DaysIn C_Over C_Not C_All C_Some _))) (ma_fz (me_var (pv 1) rfl) ma_nil) rfl ((congrArg (fun q => U_Cd_holds (Kn_holds n) q loss) hv).symm.trans hv4) (hr.mono (by omega)) | notOf p => exact me_mt m_Not_holds o_Not ((p, loss), v4) (MV.as (mv_var (pv 2) rfl) ((congrArg (u_Cd C_Condition C_CauseIs C_ThingIs C_DaysIn C_Over C_Not C_All C_Some) hv).trans (u_Cd_notOf C_Condition C_CauseIs C_ThingIs C_DaysIn C_Over C_Not C_All C_Some _))) (ma_fz (me_var (pv 1) rfl) ma_nil) rfl ((congrArg (fun q => U_Cd_holds (Kn_holds n) q loss) hv).symm.trans hv4) (hr.mono (by omega)) | allOf p => exact me_mt m_All_holds o_All ((p, loss), v4) (MV.as (mv_var (pv 2) rfl) ((congrArg (u_Cd C_Condition C_CauseIs C_ThingIs C_DaysIn C_Over C_Not C_All C_Some) hv).trans (u_Cd_allOf C_Condition C_CauseIs C_ThingIs C_DaysIn C_Over C_Not C_All C_Some _))) (ma_fz (me_var (pv 1) rfl) ma_nil) rfl ((congrArg (fun q => U_Cd_holds (Kn_holds n) q loss) hv).symm.trans hv4) (hr.mono (by omega)) | someOf p => exact me_mt m_Some_holds o_Some ((p, loss), v4) (MV.as (mv_var (pv 2) rfl) ((congrArg (u_Cd C_Condition C_CauseIs C_ThingIs C_DaysIn C_Over C_Not C_All C_Some) hv).trans (u_Cd_someOf C_Condition C_CauseIs C_ThingIs C_DaysIn C_Over C_Not C_All C_Some _))) (ma_fz (me_var (pv 1) rfl) ma_nil) rfl ((congrArg (fun q => U_Cd_holds (Kn_holds n) q loss) hv).symm.trans hv4) (hr.mono (by omega))))) (fun h => ?_) fun h => ms_nil ?_)
    · replace hx := cond_t hx h
      refine ms_one (m_ret (ps_ret pe_w) (ME.r me_bl) ?_)
      cases hx; exact ⟨_, rfl, rfl⟩
    replace hx := cond_f hx h
    cases hx; exact ⟨_, rfl, le_auto⟩
  · subst e
    dsimp only [ouR] at hx
    refine ms_le le ?_
    show MS _ [some (.fz ((r_All C_All C_Condition C_CauseIs C_ThingIs C_DaysIn C_Over C_Not C_Some) self)), some (.fz (e_T_i_i_s_s_s_i loss)), none] _ _
    refine ms_one (m_ret (ps_ret pe_w) (ME.r me_bl) ?_)
    cases hx; rfl
  · subst e; cases hx; rfl

abbrev N_Some_holds : List Str := ["self", "loss", "part"]
theorem sc_Some_holds : FnScope N_Some_holds ["self", "loss"] (defScope s_Some_holds) := ⟨rfl, rfl, rfl, by decide +kernel, rfl, by decide +kernel, by decide +kernel⟩
theorem ok_Some_holds {f : Addr} {fd : FuncData} (n : Nat) (F : Fun K "holds" "Some.holds" s_Some_holds f fd) (o_Some : OC K C_Some ["several"]) (o_Condition : OC K C_Condition []) (o_CauseIs : OC K C_CauseIs ["name"]) (o_ThingIs : OC K C_ThingIs ["name"]) (o_DaysIn : OC K C_DaysIn ["first", "last"]) (o_Over : OC K C_Over ["cents"]) (o_Not : OC K C_Not ["part"]) (o_All : OC K C_All ["several"]) (m_Condition_holds : Mt1 P w K mg base C_Condition "holds" 1 ["self", "loss"] (sp_Condition_holds K C_Condition C_CauseIs C_ThingIs C_DaysIn C_Over C_Not C_All C_Some)) (m_CauseIs_holds : Mt1 P w K mg base C_CauseIs "holds" 1 ["self", "loss"] (sp_CauseIs_holds K C_CauseIs)) (m_ThingIs_holds : Mt1 P w K mg base C_ThingIs "holds" 1 ["self", "loss"] (sp_ThingIs_holds K C_ThingIs)) (m_DaysIn_holds : Mt1 P w K mg base C_DaysIn "holds" 1 ["self", "loss"] (sp_DaysIn_holds K C_DaysIn)) (m_Over_holds : Mt1 P w K mg base C_Over "holds" 1 ["self", "loss"] (sp_Over_holds K C_Over)) (m_Not_holds : Mt1 P w K mg base C_Not "holds" (1 + n) ["self", "loss"] (sp_Not_holds K C_Not C_Condition C_CauseIs C_ThingIs C_DaysIn C_Over C_All C_Some n)) (m_All_holds : Mt1 P w K mg base C_All "holds" (1 + n) ["self", "loss"] (sp_All_holds K C_All C_Condition C_CauseIs C_ThingIs C_DaysIn C_Over C_Not C_Some n)) (m_Some_holds : Mt1 P w K mg base C_Some "holds" (1 + n) ["self", "loss"] (sp_Some_holds K C_Some C_Condition C_CauseIs C_ThingIs C_DaysIn C_Over C_Not C_All n)) : FnOk P w K mg base CX0 (1 + n + 1) f fd ["self", "loss"] (sp_Some_holds K C_Some C_Condition C_CauseIs C_ThingIs C_DaysIn C_Over C_Not C_All (n + 1)) := by
  refine fn_m F sc_Some_holds (fun x => rfl) (fun x _ => rfl) fun cdv A outer s H E hr x hx => ?_
  obtain ⟨⟨self, loss⟩, r⟩ := x
  replace hx : M_Some_holds (Kn_holds n) self loss = some r := hx
  have nd := sc_Some_holds.nd
  unfold M_Some_holds at hx
  show MS _ [some (.fz ((r_Some C_Some C_Condition C_CauseIs C_ThingIs C_DaysIn C_Over C_Not C_All) self)), some (.fz (e_T_i_i_s_s_s_i loss)), none] _ _
  replace hx := bd_some hx
  obtain ⟨o3, ho3, hx⟩ := hx
  refine ms_cons (m_forO (xs := self) (enc := (u_Cd C_Condition C_CauseIs C_ThingIs C_DaysIn C_Over C_Not C_All C_Some)) (ps_for PassesOwn.never rfl (pi_list pe_w) (pg_name (i := 2) nd rfl (Or.inl rfl)) pss_w) (by exact (mi_list (ds := self.map (u_Cd C_Condition C_CauseIs C_ThingIs C_DaysIn C_Over C_Not C_All C_Some)) (ME.k (me_fld (j := 0) (mv_var (pv 0) rfl) o_Some)))) ho3 (fun p1 => [some (.fz ((r_Some C_Some C_Condition C_CauseIs C_ThingIs C_DaysIn C_Over C_Not C_All) self)), some (.fz (e_T_i_i_s_s_s_i loss)), none]) (fun r => .fz (.bl r)) le_auto (fun x2 p1 p1o mx hx => ?_) (fun p1 τ e le => ?_) fun q e => ?_)
  ·
    refine ⟨_, _, mg_name, ?_⟩
    show MS _ [some (.fz ((r_Some C_Some C_Condition C_CauseIs C_ThingIs C_DaysIn C_Over C_Not C_All) self)), some (.fz (e_T_i_i_s_s_s_i loss)), some (.fz ((u_Cd C_Condition C_CauseIs C_ThingIs C_DaysIn C_Over C_Not C_All C_Some) x2))] _ _
    replace hx := bd_some hx
    obtain ⟨v4, hv4, hx⟩ := hx
    refine ms_one (m_if (t := v4) (mt_val (show ME _ _ _ (.fz (.bl v4)) from by obtain ⟨cc, hv⟩ : ∃ cc, x2 = cc := ⟨_, rfl⟩; cases cc with | plain p => exact me_mt m_Condition_holds o_Condition (((.plain p), loss), v4) (MV.as (mv_var (pv 2) rfl) (congrArg (u_Cd C_Condition C_CauseIs C_ThingIs C_DaysIn C_Over C_Not C_All C_Some) hv)) (ma_fz (me_var (pv 1) rfl) ma_nil) rfl ((congrArg (fun q => U_Cd_holds (Kn_holds n) q loss) hv).symm.trans hv4) (hr.mono (by omega)) | cause p => exact me_mt m_CauseIs_holds o_CauseIs ((p, loss), v4) (MV.as (mv_var (pv 2) rfl) ((congrArg (u_Cd C_Condition C_CauseIs C_ThingIs C_DaysIn C_Over C_Not C_All C_Some) hv).trans (u_Cd_cause C_Condition C_CauseIs C_ThingIs C_DaysIn C_Over C_Not C_All C_Some _))) (ma_fz (me_var (pv 1) rfl) ma_nil) rfl ((congrArg (fun q => U_Cd_holds (Kn_holds n) q loss) hv).symm.trans hv4) (hr.mono (by omega)) | thing p => exact me_mt m_ThingIs_holds o_ThingIs ((p, loss), v4) (MV.as (mv_var (pv 2) rfl) ((congrArg (u_Cd C_Condition C_CauseIs C_ThingIs C_DaysIn C_Over C_Not C_All C_Some) hv).trans (u_Cd_thing C_Condition C_CauseIs C_ThingIs C_DaysIn C_Over C_Not C_All C_Some _))) (ma_fz (me_var (pv 1) rfl) ma_nil) rfl ((congrArg (fun q => U_Cd_holds (Kn_holds n) q loss) hv).symm.trans hv4) (hr.mono (by omega)) | days p => exact me_mt m_DaysIn_holds o_DaysIn ((p, loss), v4) (MV.as (mv_var (pv 2) rfl) ((congrArg (u_Cd C_Condition C_CauseIs C_ThingIs C_DaysIn C_Over C_Not C_All C_Some) hv).trans (u_Cd_days C_Condition C_CauseIs C_ThingIs C_DaysIn C_Over C_Not C_All C_Some _))) (ma_fz (me_var (pv 1) rfl) ma_nil) rfl ((congrArg (fun q => U_Cd_holds (Kn_holds n) q loss) hv).symm.trans hv4) (hr.mono (by omega)) | over p => exact me_mt m_Over_holds o_Over ((p, loss), v4) (MV.as (mv_var (pv 2) rfl) ((congrArg (u_Cd C_Condition C_CauseIs C_ThingIs C_DaysIn C_Over C_Not C_All C_Some) hv).trans (u_Cd_over C_Condition C_CauseIs C_ThingIs C_DaysIn C_Over C_Not C_All C_Some _))) (ma_fz (me_var (pv 1) rfl) ma_nil) rfl ((congrArg (fun q => U_Cd_holds (Kn_holds n) q loss) hv).symm.trans hv4) (hr.mono (by omega)) | notOf p => exact me_mt m_Not_holds o_Not ((p, loss), v4) (MV.as (mv_var (pv 2) rfl) ((congrArg (u_Cd C_Condition C_CauseIs C_ThingIs C_DaysIn C_Over C_Not C_All C_Some) hv).trans (u_Cd_notOf C_Condition C_CauseIs C_ThingIs C_DaysIn C_Over C_Not C_All C_Some _))) (ma_fz (me_var (pv 1) rfl) ma_nil) rfl ((congrArg (fun q => U_Cd_holds (Kn_holds n) q loss) hv).symm.trans hv4) (hr.mono (by omega)) | allOf p => exact me_mt m_All_holds o_All ((p, loss), v4) (MV.as (mv_var (pv 2) rfl) ((congrArg (u_Cd C_Condition C_CauseIs C_ThingIs C_DaysIn C_Over C_Not C_All C_Some) hv).trans (u_Cd_allOf C_Condition C_CauseIs C_ThingIs C_DaysIn C_Over C_Not C_All C_Some _))) (ma_fz (me_var (pv 1) rfl) ma_nil) rfl ((congrArg (fun q => U_Cd_holds (Kn_holds n) q loss) hv).symm.trans hv4) (hr.mono (by omega)) | someOf p => exact me_mt m_Some_holds o_Some ((p, loss), v4) (MV.as (mv_var (pv 2) rfl) ((congrArg (u_Cd C_Condition C_CauseIs C_ThingIs C_DaysIn C_Over C_Not C_All C_Some) hv).trans (u_Cd_someOf C_Condition C_CauseIs C_ThingIs C_DaysIn C_Over C_Not C_All C_Some _))) (ma_fz (me_var (pv 1) rfl) ma_nil) rfl ((congrArg (fun q => U_Cd_holds (Kn_holds n) q loss) hv).symm.trans hv4) (hr.mono (by omega)))) (fun h => ?_) fun h => ms_nil ?_)
    · replace hx := cond_t hx h
      refine ms_one (m_ret (ps_ret pe_w) (ME.r me_bl) ?_)
      cases hx; exact ⟨_, rfl, rfl⟩
    replace hx := cond_f hx h
    cases hx; exact ⟨_, rfl, le_auto⟩
  · subst e
    dsimp only [ouR] at hx
    refine ms_le le ?_
    show MS _ [some (.fz ((r_Some C_Some C_Condition C_CauseIs C_ThingIs C_DaysIn C_Over C_Not C_All) self)), some (.fz (e_T_i_i_s_s_s_i loss)), none] _ _
    refine ms_one (m_ret (ps_ret pe_w) (ME.r me_bl) ?_)
    cases hx; rfl
  · subst e; cases hx; rfl

-- GROUP holds 64 1 : Not_holds All_holds Some_holds


/-! group marks -/

abbrev TK_marks : Type := ((List Cd) → Option (List (Str × D))) × (Cd → Option (List (Str × D))) × ((List Cd) → Option (List (Str × D))) × ((List Cd) → Option (List (Str × D)))
noncomputable def U_Cd_marks (r : TK_marks) (v : Cd)  : Option (List (Str × D)) := match v with
  | .plain p => M_Condition_marks (.plain p) 
  | .cause p => M_CauseIs_marks p 
  | .thing p => M_ThingIs_marks p 
  | .days p => M_DaysIn_marks p 
  | .over p => M_Over_marks p 
  | .notOf p => r.2.1 p
  | .allOf p => r.2.2.1 p
  | .someOf p => r.2.2.2 p
noncomputable def M_joined_marks (r : TK_marks) (several : (List Cd)) : Option (List (Str × D)) :=
  lt ([] : List (Str × D)) fun found =>
  bd (lp (fun (x2 : Cd) (p1 : (List (Str × D))) => (bd (U_Cd_marks r x2) fun v4 =>
    gd (p1.length + v4.length ≤ sizeLine) <|
    lt (p1 ++ v4) fun found_1 =>
    some found_1 : Option ((List (Str × D))))) several found) fun p3 =>
  some p3
noncomputable def M_Not_marks (r : TK_marks) (self : Cd) : Option (List (Str × D)) :=
  bd (U_Cd_marks r self) fun v1 =>
  some v1
noncomputable def M_All_marks (r : TK_marks) (self : (List Cd)) : Option (List (Str × D)) :=
  bd (r.1 self) fun v1 =>
  some v1
noncomputable def M_Some_marks (r : TK_marks) (self : (List Cd)) : Option (List (Str × D)) :=
  bd (r.1 self) fun v1 =>
  some v1
noncomputable def Kn_marks : Nat → TK_marks
  | 0 => (fun _ => none, fun _ => none, fun _ => none, fun _ => none)
  | n + 1 => let r := Kn_marks n; (fun x => M_joined_marks r x, fun x => M_Not_marks r x, fun x => M_All_marks r x, fun x => M_Some_marks r x)
noncomputable def Mf_joined_marks (n : Nat) (x0 : (List Cd)) := (Kn_marks n).1 x0
theorem Mf_joined_marks_S (n : Nat) (x0 : (List Cd)) : Mf_joined_marks (n + 1) x0 = M_joined_marks (Kn_marks n) x0 := rfl
noncomputable def Mf_Not_marks (n : Nat) (x0 : Cd) := (Kn_marks n).2.1 x0
theorem Mf_Not_marks_S (n : Nat) (x0 : Cd) : Mf_Not_marks (n + 1) x0 = M_Not_marks (Kn_marks n) x0 := rfl
noncomputable def Mf_All_marks (n : Nat) (x0 : (List Cd)) := (Kn_marks n).2.2.1 x0
theorem Mf_All_marks_S (n : Nat) (x0 : (List Cd)) : Mf_All_marks (n + 1) x0 = M_All_marks (Kn_marks n) x0 := rfl
noncomputable def Mf_Some_marks (n : Nat) (x0 : (List Cd)) := (Kn_marks n).2.2.2 x0
theorem Mf_Some_marks_S (n : Nat) (x0 : (List Cd)) : Mf_Some_marks (n + 1) x0 = M_Some_marks (Kn_marks n) x0 := rfl
def sp_joined_marks (K : PySem.W.Frag) (C_Condition C_CauseIs C_ThingIs C_DaysIn C_Over C_Not C_All C_Some : Addr) (n : Nat) : Sp := SpF K (fun x : (List Cd) => [.vw (x.map (u_Cd C_Condition C_CauseIs C_ThingIs C_DaysIn C_Over C_Not C_All C_Some))]) (fun x => Mf_joined_marks n x) (fun r => .lst ((r.map e_T_s_d).map .fz))
def sp_Not_marks (K : PySem.W.Frag) (C_Not C_Condition C_CauseIs C_ThingIs C_DaysIn C_Over C_All C_Some : Addr) (n : Nat) : Sp := SpF K (fun x : Cd => [.fz ((r_Not C_Not C_Condition C_CauseIs C_ThingIs C_DaysIn C_Over C_All C_Some) x)]) (fun x => Mf_Not_marks n x) (fun r => .lst ((r.map e_T_s_d).map .fz))
def sp_All_marks (K : PySem.W.Frag) (C_All C_Condition C_CauseIs C_ThingIs C_DaysIn C_Over C_Not C_Some : Addr) (n : Nat) : Sp := SpF K (fun x : (List Cd) => [.fz ((r_All C_All C_Condition C_CauseIs C_ThingIs C_DaysIn C_Over C_Not C_Some) x)]) (fun x => Mf_All_marks n x) (fun r => .lst ((r.map e_T_s_d).map .fz))
def sp_Some_marks (K : PySem.W.Frag) (C_Some C_Condition C_CauseIs C_ThingIs C_DaysIn C_Over C_Not C_All : Addr) (n : Nat) : Sp := SpF K (fun x : (List Cd) => [.fz ((r_Some C_Some C_Condition C_CauseIs C_ThingIs C_DaysIn C_Over C_Not C_All) x)]) (fun x => Mf_Some_marks n x) (fun r => .lst ((r.map e_T_s_d).map .fz))
abbrev N_joined_marks : List Str := ["several", "found", "part"]
theorem sc_joined_marks : FnScope N_joined_marks ["several"] (defScope s_joined_marks) := ⟨rfl, rfl, rfl, by decide +kernel, rfl, by decide +kernel, by decide +kernel⟩
theorem ok_joined_marks {f : Addr} {fd : FuncData} (n : Nat) (F : Fun K "joined_marks" "joined_marks" s_joined_marks f fd) (o_Condition : OC K C_Condition []) (o_CauseIs : OC K C_CauseIs ["name"]) (o_ThingIs : OC K C_ThingIs ["name"]) (o_DaysIn : OC K C_DaysIn ["first", "last"]) (o_Over : OC K C_Over ["cents"]) (o_Not : OC K C_Not ["part"]) (o_All : OC K C_All ["several"]) (o_Some : OC K C_Some ["several"]) (m_Condition_marks : Mt1 P w K mg base C_Condition "marks" 1 ["self"] (sp_Condition_marks K C_Condition C_CauseIs C_ThingIs C_DaysIn C_Over C_Not C_All C_Some)) (m_CauseIs_marks : Mt1 P w K mg base C_CauseIs "marks" 1 ["self"] (sp_CauseIs_marks K C_CauseIs)) (m_ThingIs_marks : Mt1 P w K mg base C_ThingIs "marks" 1 ["self"] (sp_ThingIs_marks K C_ThingIs)) (m_DaysIn_marks : Mt1 P w K mg base C_DaysIn "marks" 1 ["self"] (sp_DaysIn_marks K C_DaysIn)) (m_Over_marks : Mt1 P w K mg base C_Over "marks" 1 ["self"] (sp_Over_marks K C_Over)) (m_Not_marks : Mt1 P w K mg base C_Not "marks" (1 + n) ["self"] (sp_Not_marks K C_Not C_Condition C_CauseIs C_ThingIs C_DaysIn C_Over C_All C_Some n)) (m_All_marks : Mt1 P w K mg base C_All "marks" (1 + n) ["self"] (sp_All_marks K C_All C_Condition C_CauseIs C_ThingIs C_DaysIn C_Over C_Not C_Some n)) (m_Some_marks : Mt1 P w K mg base C_Some "marks" (1 + n) ["self"] (sp_Some_marks K C_Some C_Condition C_CauseIs C_ThingIs C_DaysIn C_Over C_Not C_All n)) : FnOk P w K mg base CX0 (1 + n + 1) f fd ["several"] (sp_joined_marks K C_Condition C_CauseIs C_ThingIs C_DaysIn C_Over C_Not C_All C_Some (n + 1)) := by
  refine fn_m F sc_joined_marks (fun x => rfl) (fun x _ => O.nvL_fz _) fun cdv A outer s H E hr x hx => ?_
  obtain ⟨several, r⟩ := x
  replace hx : M_joined_marks (Kn_marks n) several = some r := hx
  have nd := sc_joined_marks.nd
  unfold M_joined_marks at hx
  show MS _ [some (.vw (several.map (u_Cd C_Condition C_CauseIs C_ThingIs C_DaysIn C_Over C_Not C_All C_Some))), none, none] _ _
  replace hx := lt_some hx
  obtain ⟨found, efound, hx⟩ := hx
  refine ms_cons (m_set (ps_set (i := 1) nd rfl (Or.inl rfl) pe_w) (ME.is (o' := (.lst ((found.map e_T_s_d).map .fz))) (me_lst (ds := [].map e_T_s_d) mf_nil) (by rw [efound] <;> rfl)) ?_)
  show MS _ [some (.vw (several.map (u_Cd C_Condition C_CauseIs C_ThingIs C_DaysIn C_Over C_Not C_All C_Some))), some (.lst ((found.map e_T_s_d).map .fz)), none] _ _
  replace hx := bd_some hx
  obtain ⟨p3, hp3, hx⟩ := hx
  refine ms_cons (m_forP (xs := several) (enc := (u_Cd C_Condition C_CauseIs C_ThingIs C_DaysIn C_Over C_Not C_All C_Some)) (ps_for PassesOwn.never rfl (pi_list pe_w) (pg_name (i := 2) nd rfl (Or.inl rfl)) pss_w) (by exact (mi_list (ds := several.map (u_Cd C_Condition C_CauseIs C_ThingIs C_DaysIn C_Over C_Not C_All C_Some)) (mk_var (pv 0) rfl))) hp3 (fun p1 => [some (.vw (several.map (u_Cd C_Condition C_CauseIs C_ThingIs C_DaysIn C_Over C_Not C_All C_Some))), some (.lst ((p1.map e_T_s_d).map .fz)), none]) le_auto (fun x2 p1 p1o mx hx => ?_) fun τ le => ?_)
  ·
    refine ⟨_, _, mg_name, ?_⟩
    show MS _ [some (.vw (several.map (u_Cd C_Condition C_CauseIs C_ThingIs C_DaysIn C_Over C_Not C_All C_Some))), some (.lst ((p1.map e_T_s_d).map .fz)), some (.fz ((u_Cd C_Condition C_CauseIs C_ThingIs C_DaysIn C_Over C_Not C_All C_Some) x2))] _ _
    replace hx := bd_some hx
    obtain ⟨v4, hv4, hx⟩ := hx
    replace hx := gd_some hx
    obtain ⟨g5, hx⟩ := hx
    replace hx := lt_some hx
    obtain ⟨found_1, efound_1, hx⟩ := hx
    refine ms_one (m_extendPT (xs := p1) (ys := v4) (enc := e_T_s_d) (MQ.toP (mq_var (pv 1) rfl)) (ME.v (show ME _ _ _ (.lst ((v4.map e_T_s_d).map .fz)) from by obtain ⟨cc, hv⟩ : ∃ cc, x2 = cc := ⟨_, rfl⟩; cases cc with | plain p => exact me_mt0 m_Condition_marks o_Condition ((.plain p), v4) (MV.as (mv_var (pv 2) rfl) (congrArg (u_Cd C_Condition C_CauseIs C_ThingIs C_DaysIn C_Over C_Not C_All C_Some) hv)) rfl ((congrArg (fun q => U_Cd_marks (Kn_marks n) q ) hv).symm.trans hv4) (hr.mono (by omega)) | cause p => exact me_mt0 m_CauseIs_marks o_CauseIs (p, v4) (MV.as (mv_var (pv 2) rfl) ((congrArg (u_Cd C_Condition C_CauseIs C_ThingIs C_DaysIn C_Over C_Not C_All C_Some) hv).trans (u_Cd_cause C_Condition C_CauseIs C_ThingIs C_DaysIn C_Over C_Not C_All C_Some _))) rfl ((congrArg (fun q => U_Cd_marks (Kn_marks n) q ) hv).symm.trans hv4) (hr.mono (by omega)) | thing p => exact me_mt0 m_ThingIs_marks o_ThingIs (p, v4) (MV.as (mv_var (pv 2) rfl) ((congrArg (u_Cd C_Condition C_CauseIs C_ThingIs C_DaysIn C_Over C_Not C_All C_Some) hv).trans (u_Cd_thing C_Condition C_CauseIs C_ThingIs C_DaysIn C_Over C_Not C_All C_Some _))) rfl ((congrArg (fun q => U_Cd_marks (Kn_marks n) q ) hv).symm.trans hv4) (hr.mono (by omega)) | days p => exact me_mt0 m_DaysIn_marks o_DaysIn (p, v4) (MV.as (mv_var (pv 2) rfl) ((congrArg (u_Cd C_Condition C_CauseIs C_ThingIs C_DaysIn C_Over C_Not C_All C_Some) hv).trans (u_Cd_days C_Condition C_CauseIs C_ThingIs C_DaysIn C_Over C_Not C_All C_Some _))) rfl ((congrArg (fun q => U_Cd_marks (Kn_marks n) q ) hv).symm.trans hv4) (hr.mono (by omega)) | over p => exact me_mt0 m_Over_marks o_Over (p, v4) (MV.as (mv_var (pv 2) rfl) ((congrArg (u_Cd C_Condition C_CauseIs C_ThingIs C_DaysIn C_Over C_Not C_All C_Some) hv).trans (u_Cd_over C_Condition C_CauseIs C_ThingIs C_DaysIn C_Over C_Not C_All C_Some _))) rfl ((congrArg (fun q => U_Cd_marks (Kn_marks n) q ) hv).symm.trans hv4) (hr.mono (by omega)) | notOf p => exact me_mt0 m_Not_marks o_Not (p, v4) (MV.as (mv_var (pv 2) rfl) ((congrArg (u_Cd C_Condition C_CauseIs C_ThingIs C_DaysIn C_Over C_Not C_All C_Some) hv).trans (u_Cd_notOf C_Condition C_CauseIs C_ThingIs C_DaysIn C_Over C_Not C_All C_Some _))) rfl ((congrArg (fun q => U_Cd_marks (Kn_marks n) q ) hv).symm.trans hv4) (hr.mono (by omega)) | allOf p => exact me_mt0 m_All_marks o_All (p, v4) (MV.as (mv_var (pv 2) rfl) ((congrArg (u_Cd C_Condition C_CauseIs C_ThingIs C_DaysIn C_Over C_Not C_All C_Some) hv).trans (u_Cd_allOf C_Condition C_CauseIs C_ThingIs C_DaysIn C_Over C_Not C_All C_Some _))) rfl ((congrArg (fun q => U_Cd_marks (Kn_marks n) q ) hv).symm.trans hv4) (hr.mono (by omega)) | someOf p => exact me_mt0 m_Some_marks o_Some (p, v4) (MV.as (mv_var (pv 2) rfl) ((congrArg (u_Cd C_Condition C_CauseIs C_ThingIs C_DaysIn C_Over C_Not C_All C_Some) hv).trans (u_Cd_someOf C_Condition C_CauseIs C_ThingIs C_DaysIn C_Over C_Not C_All C_Some _))) rfl ((congrArg (fun q => U_Cd_marks (Kn_marks n) q ) hv).symm.trans hv4) (hr.mono (by omega)))) g5 ?_)
    rw [← efound_1]
    cases hx; exact le_auto
  refine ms_le le ?_
  show MS _ [some (.vw (several.map (u_Cd C_Condition C_CauseIs C_ThingIs C_DaysIn C_Over C_Not C_All C_Some))), some (.lst ((p3.map e_T_s_d).map .fz)), none] _ _
  refine ms_one (m_ret (ps_ret pe_w) (mr_var (pv 1) rfl) ?_)
  cases hx; rfl

abbrev N_Not_marks : List Str := ["self"]
theorem sc_Not_marks : FnScope N_Not_marks ["self"] (defScope s_Not_marks) := ⟨rfl, rfl, rfl, by decide +kernel, rfl, by decide +kernel, by decide +kernel⟩
theorem ok_Not_marks {f : Addr} {fd : FuncData} (n : Nat) (F : Fun K "marks" "Not.marks" s_Not_marks f fd) (o_Not : OC K C_Not ["part"]) (o_Condition : OC K C_Condition []) (o_CauseIs : OC K C_CauseIs ["name"]) (o_ThingIs : OC K C_ThingIs ["name"]) (o_DaysIn : OC K C_DaysIn ["first", "last"]) (o_Over : OC K C_Over ["cents"]) (o_All : OC K C_All ["several"]) (o_Some : OC K C_Some ["several"]) (m_Condition_marks : Mt1 P w K mg base C_Condition "marks" 1 ["self"] (sp_Condition_marks K C_Condition C_CauseIs C_ThingIs C_DaysIn C_Over C_Not C_All C_Some)) (m_CauseIs_marks : Mt1 P w K mg base C_CauseIs "marks" 1 ["self"] (sp_CauseIs_marks K C_CauseIs)) (m_ThingIs_marks : Mt1 P w K mg base C_ThingIs "marks" 1 ["self"] (sp_ThingIs_marks K C_ThingIs)) (m_DaysIn_marks : Mt1 P w K mg base C_DaysIn "marks" 1 ["self"] (sp_DaysIn_marks K C_DaysIn)) (m_Over_marks : Mt1 P w K mg base C_Over "marks" 1 ["self"] (sp_Over_marks K C_Over)) (m_Not_marks : Mt1 P w K mg base C_Not "marks" (1 + n) ["self"] (sp_Not_marks K C_Not C_Condition C_CauseIs C_ThingIs C_DaysIn C_Over C_All C_Some n)) (m_All_marks : Mt1 P w K mg base C_All "marks" (1 + n) ["self"] (sp_All_marks K C_All C_Condition C_CauseIs C_ThingIs C_DaysIn C_Over C_Not C_Some n)) (m_Some_marks : Mt1 P w K mg base C_Some "marks" (1 + n) ["self"] (sp_Some_marks K C_Some C_Condition C_CauseIs C_ThingIs C_DaysIn C_Over C_Not C_All n)) : FnOk P w K mg base CX0 (1 + n + 1) f fd ["self"] (sp_Not_marks K C_Not C_Condition C_CauseIs C_ThingIs C_DaysIn C_Over C_All C_Some (n + 1)) := by
  refine fn_m F sc_Not_marks (fun x => rfl) (fun x _ => O.nvL_fz _) fun cdv A outer s H E hr x hx => ?_
  obtain ⟨self, r⟩ := x
  replace hx : M_Not_marks (Kn_marks n) self = some r := hx
  have nd := sc_Not_marks.nd
  unfold M_Not_marks at hx
  show MS _ [some (.fz ((r_Not C_Not C_Condition C_CauseIs C_ThingIs C_DaysIn C_Over C_All C_Some) self))] _ _
  replace hx := bd_some hx
  obtain ⟨v1, hv1, hx⟩ := hx
  refine ms_one (m_ret (ps_ret pe_w) (ME.r (show ME _ _ _ (.lst ((v1.map e_T_s_d).map .fz)) from by obtain ⟨cc, hv⟩ : ∃ cc, self = cc := ⟨_, rfl⟩; cases cc with | plain p => exact me_mt0 m_Condition_marks o_Condition ((.plain p), v1) (MV.as (ME.v (me_fld (j := 0) (mv_var (pv 0) rfl) o_Not)) (congrArg (u_Cd C_Condition C_CauseIs C_ThingIs C_DaysIn C_Over C_Not C_All C_Some) hv)) rfl ((congrArg (fun q => U_Cd_marks (Kn_marks n) q ) hv).symm.trans hv1) (hr.mono (by omega)) | cause p => exact me_mt0 m_CauseIs_marks o_CauseIs (p, v1) (MV.as (ME.v (me_fld (j := 0) (mv_var (pv 0) rfl) o_Not)) ((congrArg (u_Cd C_Condition C_CauseIs C_ThingIs C_DaysIn C_Over C_Not C_All C_Some) hv).trans (u_Cd_cause C_Condition C_CauseIs C_ThingIs C_DaysIn C_Over C_Not C_All C_Some _))) rfl ((congrArg (fun q => U_Cd_marks (Kn_marks n) q ) hv).symm.trans hv1) (hr.mono (by omega)) | thing p => exact me_mt0 m_ThingIs_marks o_ThingIs (p, v1) (MV.as (ME.v (me_fld (j := 0) (mv_var (pv 0) rfl) o_Not)) ((congrArg (u_Cd C_Condition C_CauseIs C_ThingIs C_DaysIn C_Over C_Not C_All C_Some) hv).trans (u_Cd_thing C_Condition C_CauseIs C_ThingIs C_DaysIn C_Over C_Not C_All C_Some _))) rfl ((congrArg (fun q => U_Cd_marks (Kn_marks n) q ) hv).symm.trans hv1) (hr.mono (by omega)) | days p => exact me_mt0 m_DaysIn_marks o_DaysIn (p, v1) (MV.as (ME.v (me_fld (j := 0) (mv_var (pv 0) rfl) o_Not)) ((congrArg (u_Cd C_Condition C_CauseIs C_ThingIs C_DaysIn C_Over C_Not C_All C_Some) hv).trans (u_Cd_days C_Condition C_CauseIs C_ThingIs C_DaysIn C_Over C_Not C_All C_Some _))) rfl ((congrArg (fun q => U_Cd_marks (Kn_marks n) q ) hv).symm.trans hv1) (hr.mono (by omega)) | over p => exact me_mt0 m_Over_marks o_Over (p, v1) (MV.as (ME.v (me_fld (j := 0) (mv_var (pv 0) rfl) o_Not)) ((congrArg (u_Cd C_Condition C_CauseIs C_ThingIs C_DaysIn C_Over C_Not C_All C_Some) hv).trans (u_Cd_over C_Condition C_CauseIs C_ThingIs C_DaysIn C_Over C_Not C_All C_Some _))) rfl ((congrArg (fun q => U_Cd_marks (Kn_marks n) q ) hv).symm.trans hv1) (hr.mono (by omega)) | notOf p => exact me_mt0 m_Not_marks o_Not (p, v1) (MV.as (ME.v (me_fld (j := 0) (mv_var (pv 0) rfl) o_Not)) ((congrArg (u_Cd C_Condition C_CauseIs C_ThingIs C_DaysIn C_Over C_Not C_All C_Some) hv).trans (u_Cd_notOf C_Condition C_CauseIs C_ThingIs C_DaysIn C_Over C_Not C_All C_Some _))) rfl ((congrArg (fun q => U_Cd_marks (Kn_marks n) q ) hv).symm.trans hv1) (hr.mono (by omega)) | allOf p => exact me_mt0 m_All_marks o_All (p, v1) (MV.as (ME.v (me_fld (j := 0) (mv_var (pv 0) rfl) o_Not)) ((congrArg (u_Cd C_Condition C_CauseIs C_ThingIs C_DaysIn C_Over C_Not C_All C_Some) hv).trans (u_Cd_allOf C_Condition C_CauseIs C_ThingIs C_DaysIn C_Over C_Not C_All C_Some _))) rfl ((congrArg (fun q => U_Cd_marks (Kn_marks n) q ) hv).symm.trans hv1) (hr.mono (by omega)) | someOf p => exact me_mt0 m_Some_marks o_Some (p, v1) (MV.as (ME.v (me_fld (j := 0) (mv_var (pv 0) rfl) o_Not)) ((congrArg (u_Cd C_Condition C_CauseIs C_ThingIs C_DaysIn C_Over C_Not C_All C_Some) hv).trans (u_Cd_someOf C_Condition C_CauseIs C_ThingIs C_DaysIn C_Over C_Not C_All C_Some _))) rfl ((congrArg (fun q => U_Cd_marks (Kn_marks n) q ) hv).symm.trans hv1) (hr.mono (by omega)))) ?_)
  cases hx; rfl

abbrev N_All_marks : List Str := ["self"]
theorem sc_All_marks : FnScope N_All_marks ["self"] (defScope s_All_marks) := ⟨rfl, rfl, rfl, by decide +kernel, rfl, by decide +kernel, by decide +kernel⟩
theorem ok_All_marks {f : Addr} {fd : FuncData} (n : Nat) (F : Fun K "marks" "All.marks" s_All_marks f fd) (o_All : OC K C_All ["several"]) (c_joined_marks : Fn1 P w K mg base "joined_marks" (1 + n) ["several"] (sp_joined_marks K C_Condition C_CauseIs C_ThingIs C_DaysIn C_Over C_Not C_All C_Some n)) : FnOk P w K mg base CX0 (1 + n + 1) f fd ["self"] (sp_All_marks K C_All C_Condition C_CauseIs C_ThingIs C_DaysIn C_Over C_Not C_Some (n + 1)) := by
  refine fn_m F sc_All_marks (fun x => rfl) (fun x _ => O.nvL_fz _) fun cdv A outer s H E hr x hx => ?_
  obtain ⟨self, r⟩ := x
  replace hx : M_All_marks (Kn_marks n) self = some r := hx
  have nd := sc_All_marks.nd
  unfold M_All_marks at hx
  show MS _ [some (.fz ((r_All C_All C_Condition C_CauseIs C_ThingIs C_DaysIn C_Over C_Not C_Some) self))] _ _
  replace hx := bd_some hx
  obtain ⟨v1, hv1, hx⟩ := hx
  refine ms_one (m_ret (ps_ret pe_w) (ME.r (me_fn c_joined_marks (self, v1) (ma_vw (MV.l (ME.v (me_fld (j := 0) (mv_var (pv 0) rfl) o_All)) (.fz _)) ma_nil) hv1 (hr.mono (by omega)))) ?_)
  cases hx; rfl

abbrev N_Some_marks : List Str := ["self"]
theorem sc_Some_marks : FnScope N_Some_marks ["self"] (defScope s_Some_marks) := ⟨rfl, rfl, rfl, by decide +kernel, rfl, by decide +kernel, by decide +kernel⟩
theorem ok_Some_marks {f : Addr} {fd : FuncData} (n : Nat) (F : Fun K "marks" "Some.marks" s_Some_marks f fd) (o_Some : OC K C_Some ["several"]) (c_joined_marks : Fn1 P w K mg base "joined_marks" (1 + n) ["several"] (sp_joined_marks K C_Condition C_CauseIs C_ThingIs C_DaysIn C_Over C_Not C_All C_Some n)) : FnOk P w K mg base CX0 (1 + n + 1) f fd ["self"] (sp_Some_marks K C_Some C_Condition C_CauseIs C_ThingIs C_DaysIn C_Over C_Not C_All (n + 1)) := by
  refine fn_m F sc_Some_marks (fun x => rfl) (fun x _ => O.nvL_fz _) fun cdv A outer s H E hr x hx => ?_
  obtain ⟨self, r⟩ := x
  replace hx : M_Some_marks (Kn_marks n) self = some r := hx
  have nd := sc_Some_marks.nd
  unfold M_Some_marks at hx
  show MS _ [some (.fz ((r_Some C_Some C_Condition C_CauseIs C_ThingIs C_DaysIn C_Over C_Not C_All) self))] _ _
  replace hx := bd_some hx
  obtain ⟨v1, hv1, hx⟩ := hx
  refine ms_one (m_ret (ps_ret pe_w) (ME.r (me_fn c_joined_marks (self, v1) (ma_vw (MV.l (ME.v (me_fld (j := 0) (mv_var (pv 0) rfl) o_Some)) (.fz _)) ma_nil) hv1 (hr.mono (by omega)))) ?_)
  cases hx; rfl

-- GROUP marks 64 1 : joined_marks Not_marks All_marks Some_marks

/-! group lholds -/

abbrev TK_lholds : Type := (D × (Int × Int × Str × Str × Str × Int) → Option Bool)
noncomputable def M__law_holds (r : TK_lholds) (tree_here : D) (loss_here : (Int × Int × Str × Str × Str × Int)) : Option Bool :=
  bd (ixD tree_here (0 : Int)) fun v1 =>
  gd (D.ok v1 ∧ D.ok (.str ("cause" : Str))) <|
  cond ((D.eqv v1 (.str ("cause" : Str)))) (bd (ixD tree_here (1 : Int)) fun v3 =>
    gd (D.ok (.str loss_here.2.2.2.2.1) ∧ D.ok v3) <|
    some ((D.eqv (.str loss_here.2.2.2.2.1) v3))) <|
  gd (D.ok v1 ∧ D.ok (.str ("thing" : Str))) <|
  cond ((D.eqv v1 (.str ("thing" : Str)))) (bd (ixD tree_here (1 : Int)) fun v6 =>
    gd (D.ok (.str loss_here.2.2.2.1) ∧ D.ok v6) <|
    some ((D.eqv (.str loss_here.2.2.2.1) v6))) <|
  gd (D.ok v1 ∧ D.ok (.str ("days" : Str))) <|
  cond ((D.eqv v1 (.str ("days" : Str)))) (bd (ixD tree_here (1 : Int)) fun v9 =>
    bd (asI v9) fun v10 =>
    bd (cond (decide (v10 ≤ loss_here.2.1)) (bd (ixD tree_here (2 : Int)) fun v11 => bd (asI v11) fun v12 => some (decide (loss_here.2.1 ≤ v12))) (some false)) fun v13 =>
    some v13) <|
  gd (D.ok v1 ∧ D.ok (.str ("over" : Str))) <|
  cond ((D.eqv v1 (.str ("over" : Str)))) (bd (ixD tree_here (1 : Int)) fun v16 =>
    bd (asI v16) fun v17 =>
    some (decide (v17 < loss_here.2.2.2.2.2))) <|
  gd (D.ok v1 ∧ D.ok (.str ("not" : Str))) <|
  cond ((D.eqv v1 (.str ("not" : Str)))) (bd (ixD tree_here (1 : Int)) fun v19 =>
    bd (r (v19, loss_here)) fun v20 =>
    some (!v20)) <|
  gd (D.ok v1 ∧ D.ok (.str ("all" : Str))) <|
  cond ((D.eqv v1 (.str ("all" : Str)))) (bd (ixD tree_here (1 : Int)) fun v22 =>
    bd (asLD v22) fun l23 =>
    gd (l23.length < sizeLine) <|
    bd (mpO (fun x25 : D => bd (r (x25, loss_here)) fun v26 => some v26) l23) fun v27 =>
    some (!(v27.contains false))) <|
  gd (D.ok v1 ∧ D.ok (.str ("some" : Str))) <|
  cond ((D.eqv v1 (.str ("some" : Str)))) (bd (ixD tree_here (1 : Int)) fun v29 =>
    bd (asLD v29) fun l30 =>
    gd (l30.length < sizeLine) <|
    bd (mpO (fun x32 : D => bd (r (x32, loss_here)) fun v33 => some v33) l30) fun v34 =>
    some ((v34.contains true))) <|
  some true
noncomputable def Kn_lholds : Nat → TK_lholds
  | 0 => (fun _ => none)
  | n + 1 => let r := Kn_lholds n; (fun x => M__law_holds r x.1 x.2)
noncomputable def Mf__law_holds (n : Nat) (x0 : D) (x1 : (Int × Int × Str × Str × Str × Int)) := (Kn_lholds n) (x0, x1)
theorem Mf__law_holds_S (n : Nat) (x0 : D) (x1 : (Int × Int × Str × Str × Str × Int)) : Mf__law_holds (n + 1) x0 x1 = M__law_holds (Kn_lholds n) x0 x1 := rfl
def sp__law_holds (K : PySem.W.Frag) (n : Nat) : Sp := SpF K (fun x : D × (Int × Int × Str × Str × Str × Int) => [.fz x.1, .fz (e_T_i_i_s_s_s_i x.2)]) (fun x => Mf__law_holds n x.1 x.2) (fun r => .fz (.bl r))
abbrev N__law_holds : List Str := ["_law_tree_here", "_law_loss_here", "_law_kind", "_law_part"]
theorem sc__law_holds : FnScope N__law_holds ["_law_tree_here", "_law_loss_here"] (defScope s__law_holds) := ⟨rfl, rfl, rfl, by decide +kernel, rfl, by decide +kernel, by decide +kernel⟩
theorem ok__law_holds {f : Addr} {fd : FuncData} (n : Nat) (F : Fun K "_law_holds" "_law_holds" s__law_holds f fd) (c__law_holds : Fn1 P w K mg base "_law_holds" (0 + n) ["_law_tree_here", "_law_loss_here"] (sp__law_holds K n)) : FnOk P w K mg base CX0 (0 + n + 1) f fd ["_law_tree_here", "_law_loss_here"] (sp__law_holds K (n + 1)) := by
  refine fn_m F sc__law_holds (fun x => rfl) (fun x _ => rfl) fun cdv A outer s H E hr x hx => ?_
  obtain ⟨⟨tree_here, loss_here⟩, r⟩ := x
  replace hx : M__law_holds (Kn_lholds n) tree_here loss_here = some r := hx
  have nd := sc__law_holds.nd
  unfold M__law_holds at hx
  show MS _ [some (.fz tree_here), some (.fz (e_T_i_i_s_s_s_i loss_here)), none, none] _ _
  replace hx := bd_some hx
  obtain ⟨v1, hv1, hx⟩ := hx
  refine ms_cons (m_set (ps_set (i := 2) nd rfl (Or.inl rfl) pe_w) (me_ixD hv1 (me_var (pv 0) rfl) me_int) ?_)
  show MS _ [some (.fz tree_here), some (.fz (e_T_i_i_s_s_s_i loss_here)), some (.fz v1), none] _ _
  replace hx := gd_some hx
  obtain ⟨g2, hx⟩ := hx
  refine ms_cons (m_if (t := ((D.eqv v1 (.str ("cause" : Str))))) (mt_eqDT (d1 := v1) (d2 := (.str ("cause" : Str))) hr.units g2 rfl rfl (ME.v (me_var (pv 2) rfl)) (ME.v me_str)) (fun h => ?_) fun h => ms_nil ?_)
  · replace hx := cond_t hx h
    replace hx := bd_some hx
    obtain ⟨v3, hv3, hx⟩ := hx
    replace hx := gd_some hx
    obtain ⟨g4, hx⟩ := hx
    refine ms_one (m_ret (ps_ret pe_w) (ME.r (me_eqDT (d1 := (.str loss_here.2.2.2.2.1)) (d2 := v3) hr.units g4 rfl rfl (ME.v (me_ixT (MV.u (ME.v (me_var (pv 1) rfl)) (.fz _)) me_int rfl)) (ME.v (me_ixD hv3 (me_var (pv 0) rfl) me_int)))) ?_)
    cases hx; rfl
  replace hx := cond_f hx h
  replace hx := gd_some hx
  obtain ⟨g5, hx⟩ := hx
  refine ms_cons (m_if (t := ((D.eqv v1 (.str ("thing" : Str))))) (mt_eqDT (d1 := v1) (d2 := (.str ("thing" : Str))) hr.units g5 rfl rfl (ME.v (me_var (pv 2) rfl)) (ME.v me_str)) (fun h => ?_) fun h => ms_nil ?_)
  · replace hx := cond_t hx h
    replace hx := bd_some hx
    obtain ⟨v6, hv6, hx⟩ := hx
    replace hx := gd_some hx
    obtain ⟨g7, hx⟩ := hx
    refine ms_one (m_ret (ps_ret pe_w) (ME.r (me_eqDT (d1 := (.str loss_here.2.2.2.1)) (d2 := v6) hr.units g7 rfl rfl (ME.v (me_ixT (MV.u (ME.v (me_var (pv 1) rfl)) (.fz _)) me_int rfl)) (ME.v (me_ixD hv6 (me_var (pv 0) rfl) me_int)))) ?_)
    cases hx; rfl
  replace hx := cond_f hx h
  replace hx := gd_some hx
  obtain ⟨g8, hx⟩ := hx
  refine ms_cons (m_if (t := ((D.eqv v1 (.str ("days" : Str))))) (mt_eqDT (d1 := v1) (d2 := (.str ("days" : Str))) hr.units g8 rfl rfl (ME.v (me_var (pv 2) rfl)) (ME.v me_str)) (fun h => ?_) fun h => ms_nil ?_)
  · replace hx := cond_t hx h
    replace hx := bd_some hx
    obtain ⟨v9, hv9, hx⟩ := hx
    replace hx := bd_some hx
    obtain ⟨v10, hv10, hx⟩ := hx
    replace hx := bd_some hx
    obtain ⟨v13, hv13, hx⟩ := hx
    refine ms_one (m_ret (ps_ret pe_w) (ME.r (ME.isB (me_and (me_le (ME.is (o' := .fz (.int v10)) (me_ixD hv9 (me_var (pv 0) rfl) me_int) (asI_is hv10)) (me_ixT (MV.u (ME.v (me_var (pv 1) rfl)) (.fz _)) me_int rfl)) fun q14 => (by have hx := cond_t hv13 q14; replace hx := bd_some hx; obtain ⟨v11, hv11, hx⟩ := hx; replace hx := bd_some hx; obtain ⟨v12, hv12, hx⟩ := hx; cases hx; exact (me_one (me_le (me_ixT (MV.u (ME.v (me_var (pv 1) rfl)) (.fz _)) me_int rfl) (ME.is (o' := .fz (.int v12)) (me_ixD hv11 (me_var (pv 0) rfl) me_int) (asI_is hv12)))))) (and_c hv13))) ?_)
    cases hx; rfl
  replace hx := cond_f hx h
  replace hx := gd_some hx
  obtain ⟨g15, hx⟩ := hx
  refine ms_cons (m_if (t := ((D.eqv v1 (.str ("over" : Str))))) (mt_eqDT (d1 := v1) (d2 := (.str ("over" : Str))) hr.units g15 rfl rfl (ME.v (me_var (pv 2) rfl)) (ME.v me_str)) (fun h => ?_) fun h => ms_nil ?_)
  · replace hx := cond_t hx h
    replace hx := bd_some hx
    obtain ⟨v16, hv16, hx⟩ := hx
    replace hx := bd_some hx
    obtain ⟨v17, hv17, hx⟩ := hx
    refine ms_one (m_ret (ps_ret pe_w) (ME.r (me_gt (me_ixT (MV.u (ME.v (me_var (pv 1) rfl)) (.fz _)) me_int rfl) (ME.is (o' := .fz (.int v17)) (me_ixD hv16 (me_var (pv 0) rfl) me_int) (asI_is hv17)))) ?_)
    cases hx; rfl
  replace hx := cond_f hx h
  replace hx := gd_some hx
  obtain ⟨g18, hx⟩ := hx
  refine ms_cons (m_if (t := ((D.eqv v1 (.str ("not" : Str))))) (mt_eqDT (d1 := v1) (d2 := (.str ("not" : Str))) hr.units g18 rfl rfl (ME.v (me_var (pv 2) rfl)) (ME.v me_str)) (fun h => ?_) fun h => ms_nil ?_)
  · replace hx := cond_t hx h
    replace hx := bd_some hx
    obtain ⟨v19, hv19, hx⟩ := hx
    replace hx := bd_some hx
    obtain ⟨v20, hv20, hx⟩ := hx
    refine ms_one (m_ret (ps_ret pe_w) (ME.r (me_not (me_fn c__law_holds ((v19, loss_here), v20) (ma_fz (me_ixD hv19 (me_var (pv 0) rfl) me_int) (ma_fz (me_var (pv 1) rfl) ma_nil)) hv20 (hr.mono (by omega))))) ?_)
    cases hx; rfl
  replace hx := cond_f hx h
  replace hx := gd_some hx
  obtain ⟨g21, hx⟩ := hx
  refine ms_cons (m_if (t := ((D.eqv v1 (.str ("all" : Str))))) (mt_eqDT (d1 := v1) (d2 := (.str ("all" : Str))) hr.units g21 rfl rfl (ME.v (me_var (pv 2) rfl)) (ME.v me_str)) (fun h => ?_) fun h => ms_nil ?_)
  · replace hx := cond_t hx h
    replace hx := bd_some hx
    obtain ⟨v22, hv22, hx⟩ := hx
    replace hx := bd_some hx
    obtain ⟨l23, hl23, hx⟩ := hx
    replace hx := gd_some hx
    obtain ⟨g24, hx⟩ := hx
    replace hx := bd_some hx
    obtain ⟨v27, hv27, hx⟩ := hx
    refine ms_one (m_ret (ps_ret pe_w) (ME.r (me_niLT_b (xb := v27) me_bl (ME.l (by exact (me_lcO (g := (gName 3)) (xs := l23) (ys := v27) (enc := e_d) (enc2 := D.bl) hv27 (fun te he => pe_lc (own := [("_law_part", 3)]) rfl nd (pi_list pe_w) (blkOk_by (N := N__law_holds) (sc := defScope s__law_holds) (by decide +kernel)) (fun _ _ _ _ _ => (pg_name (i := 3) nd rfl (Or.inl rfl))) (fun _ _ _ _ _ => pts_nil) he) (mic_list (MV.l (ME.v (ME.is (o' := .fz (.lst (l23.map e_d))) (me_ixD hv22 (me_var (pv 0) rfl) me_int) (asLD_is hl23))) (.fz _))) g24 (fun x25 mx x25y hx => by replace hx := bd_some hx; obtain ⟨v26, hv26, hx⟩ := hx; injection hx with hx; subst x25y; exact ⟨_, _, mg_name, by decide, fun s H C cl fp => (me_fn c__law_holds ((x25, loss_here), v26) (ma_fz (me_var (pv 3) rfl) (ma_fz (me_var (pv 1) rfl) ma_nil)) hv26 (hr.mono (by omega)))⟩)))))) ?_)
    cases hx; rfl
  replace hx := cond_f hx h
  replace hx := gd_some hx
  obtain ⟨g28, hx⟩ := hx
  refine ms_cons (m_if (t := ((D.eqv v1 (.str ("some" : Str))))) (mt_eqDT (d1 := v1) (d2 := (.str ("some" : Str))) hr.units g28 rfl rfl (ME.v (me_var (pv 2) rfl)) (ME.v me_str)) (fun h => ?_) fun h => ms_nil ?_)
  · replace hx := cond_t hx h
    replace hx := bd_some hx
    obtain ⟨v29, hv29, hx⟩ := hx
    replace hx := bd_some hx
    obtain ⟨l30, hl30, hx⟩ := hx
    replace hx := gd_some hx
    obtain ⟨g31, hx⟩ := hx
    replace hx := bd_some hx
    obtain ⟨v34, hv34, hx⟩ := hx
    refine ms_one (m_ret (ps_ret pe_w) (ME.r (me_inLT_b (xb := v34) me_bl (ME.l (by exact (me_lcO (g := (gName 3)) (xs := l30) (ys := v34) (enc := e_d) (enc2 := D.bl) hv34 (fun te he => pe_lc (own := [("_law_part", 3)]) rfl nd (pi_list pe_w) (blkOk_by (N := N__law_holds) (sc := defScope s__law_holds) (by decide +kernel)) (fun _ _ _ _ _ => (pg_name (i := 3) nd rfl (Or.inl rfl))) (fun _ _ _ _ _ => pts_nil) he) (mic_list (MV.l (ME.v (ME.is (o' := .fz (.lst (l30.map e_d))) (me_ixD hv29 (me_var (pv 0) rfl) me_int) (asLD_is hl30))) (.fz _))) g31 (fun x32 mx x32y hx => by replace hx := bd_some hx; obtain ⟨v33, hv33, hx⟩ := hx; injection hx with hx; subst x32y; exact ⟨_, _, mg_name, by decide, fun s H C cl fp => (me_fn c__law_holds ((x32, loss_here), v33) (ma_fz (me_var (pv 3) rfl) (ma_fz (me_var (pv 1) rfl) ma_nil)) hv33 (hr.mono (by omega)))⟩)))))) ?_)
    cases hx; rfl
  replace hx := cond_f hx h
  refine ms_one (m_ret (ps_ret pe_w) (ME.r me_bl) ?_)
  cases hx; rfl

-- GROUP lholds 64 0 : _law_holds


/-! group made -/

abbrev TK_made : Type := (D → Option Cd)
noncomputable def M__law_made (r : TK_made) (tree_here : D) : Option Cd :=
  bd (ixD tree_here (0 : Int)) fun v1 =>
  gd (D.ok v1 ∧ D.ok (.str ("always" : Str))) <|
  cond ((D.eqv v1 (.str ("always" : Str)))) (some (Cd.plain ())) <|
  gd (D.ok v1 ∧ D.ok (.str ("cause" : Str))) <|
  cond ((D.eqv v1 (.str ("cause" : Str)))) (bd (ixD tree_here (1 : Int)) fun v4 =>
    bd (asS v4) fun v5 =>
    bd (M_CauseIs___init__ v5) fun v6 =>
    some (Cd.cause v6)) <|
  gd (D.ok v1 ∧ D.ok (.str ("thing" : Str))) <|
  cond ((D.eqv v1 (.str ("thing" : Str)))) (bd (ixD tree_here (1 : Int)) fun v8 =>
    bd (asS v8) fun v9 =>
    bd (M_ThingIs___init__ v9) fun v10 =>
    some (Cd.thing v10)) <|
  gd (D.ok v1 ∧ D.ok (.str ("days" : Str))) <|
  cond ((D.eqv v1 (.str ("days" : Str)))) (bd (ixD tree_here (1 : Int)) fun v12 =>
    bd (asI v12) fun v13 =>
    bd (ixD tree_here (2 : Int)) fun v14 =>
    bd (asI v14) fun v15 =>
    bd (M_DaysIn___init__ v13 v15) fun v16 =>
    some (Cd.days v16)) <|
  gd (D.ok v1 ∧ D.ok (.str ("over" : Str))) <|
  cond ((D.eqv v1 (.str ("over" : Str)))) (bd (ixD tree_here (1 : Int)) fun v18 =>
    bd (asI v18) fun v19 =>
    bd (M_Over___init__ v19) fun v20 =>
    some (Cd.over v20)) <|
  gd (D.ok v1 ∧ D.ok (.str ("not" : Str))) <|
  cond ((D.eqv v1 (.str ("not" : Str)))) (bd (ixD tree_here (1 : Int)) fun v22 =>
    bd (r v22) fun v23 =>
    bd (M_Not___init__ v23) fun v24 =>
    some (Cd.notOf v24)) <|
  bd (ixD tree_here (1 : Int)) fun v25 =>
  bd (asLD v25) fun l26 =>
  gd (l26.length < sizeLine) <|
  bd (mpO (fun x28 : D => bd (r x28) fun v29 => some v29) l26) fun v30 =>
  gd (D.ok v1 ∧ D.ok (.str ("all" : Str))) <|
  bd (cond ((D.eqv v1 (.str ("all" : Str)))) (bd (M_All___init__ v30) fun v33 =>
    lt (Cd.allOf v33) fun made_here =>
    some made_here) (bd (M_Some___init__ v30) fun v34 =>
    lt (Cd.someOf v34) fun made_here_1 =>
    some made_here_1) : Option (Cd)) fun p32 =>
  gd (([] : List Cd).length < sizeLine) <|
  lt (([] : List Cd) ++ [(Cd.plain ())]) fun parts =>
  some p32
noncomputable def Kn_made : Nat → TK_made
  | 0 => (fun _ => none)
  | n + 1 => let r := Kn_made n; (fun x => M__law_made r x)
noncomputable def Mf__law_made (n : Nat) (x0 : D) := (Kn_made n) x0
theorem Mf__law_made_S (n : Nat) (x0 : D) : Mf__law_made (n + 1) x0 = M__law_made (Kn_made n) x0 := rfl
def sp__law_made (K : PySem.W.Frag) (C_Condition C_CauseIs C_ThingIs C_DaysIn C_Over C_Not C_All C_Some : Addr) (n : Nat) : Sp := SpF K (fun x : D => [.fz x]) (fun x => Mf__law_made n x) (fun r => .fz ((u_Cd C_Condition C_CauseIs C_ThingIs C_DaysIn C_Over C_Not C_All C_Some) r))
abbrev N__law_made : List Str := ["_law_tree_here", "_law_kind", "_law_parts", "_law_made_here", "_law_part"]
theorem sc__law_made : FnScope N__law_made ["_law_tree_here"] (defScope s__law_made) := ⟨rfl, rfl, rfl, by decide +kernel, rfl, by decide +kernel, by decide +kernel⟩
theorem ok__law_made {f : Addr} {fd : FuncData} (n : Nat) (F : Fun K "_law_made" "_law_made" s__law_made f fd) (p_Condition : MkP K C_Condition) (e_Condition : mg "Condition" = some (.ref C_Condition)) (i_CauseIs : Mk1 P w K mg base "CauseIs" C_CauseIs 1 ["self", "name"] (spI_CauseIs___init__ K C_CauseIs)) (i_ThingIs : Mk1 P w K mg base "ThingIs" C_ThingIs 1 ["self", "name"] (spI_ThingIs___init__ K C_ThingIs)) (i_DaysIn : Mk1 P w K mg base "DaysIn" C_DaysIn 1 ["self", "first", "last"] (spI_DaysIn___init__ K C_DaysIn)) (i_Over : Mk1 P w K mg base "Over" C_Over 1 ["self", "cents"] (spI_Over___init__ K C_Over)) (c__law_made : Fn1 P w K mg base "_law_made" (2 + n) ["_law_tree_here"] (sp__law_made K C_Condition C_CauseIs C_ThingIs C_DaysIn C_Over C_Not C_All C_Some n)) (i_Not : Mk1 P w K mg base "Not" C_Not 1 ["self", "part"] (spI_Not___init__ K C_Not C_Condition C_CauseIs C_ThingIs C_DaysIn C_Over C_All C_Some)) (i_All : Mk1 P w K mg base "All" C_All 1 ["self", "several"] (spI_All___init__ K C_All C_Condition C_CauseIs C_ThingIs C_DaysIn C_Over C_Not C_Some)) (i_Some : Mk1 P w K mg base "Some" C_Some 1 ["self", "several"] (spI_Some___init__ K C_Some C_Condition C_CauseIs C_ThingIs C_DaysIn C_Over C_Not C_All)) : FnOk P w K mg base CX0 (2 + n + 1) f fd ["_law_tree_here"] (sp__law_made K C_Condition C_CauseIs C_ThingIs C_DaysIn C_Over C_Not C_All C_Some (n + 1)) := by
  refine fn_m F sc__law_made (fun x => rfl) (fun x _ => rfl) fun cdv A outer s H E hr x hx => ?_
  obtain ⟨tree_here, r⟩ := x
  replace hx : M__law_made (Kn_made n) tree_here = some r := hx
  have nd := sc__law_made.nd
  unfold M__law_made at hx
  show MS _ [some (.fz tree_here), none, none, none, none] _ _
  replace hx := bd_some hx
  obtain ⟨v1, hv1, hx⟩ := hx
  refine ms_cons (m_set (ps_set (i := 1) nd rfl (Or.inl rfl) pe_w) (me_ixD hv1 (me_var (pv 0) rfl) me_int) ?_)
  show MS _ [some (.fz tree_here), some (.fz v1), none, none, none] _ _
  replace hx := gd_some hx
  obtain ⟨g2, hx⟩ := hx
  refine ms_cons (m_if (t := ((D.eqv v1 (.str ("always" : Str))))) (mt_eqDT (d1 := v1) (d2 := (.str ("always" : Str))) hr.units g2 rfl rfl (ME.v (me_var (pv 1) rfl)) (ME.v me_str)) (fun h => ?_) fun h => ms_nil ?_)
  · replace hx := cond_t hx h
    refine ms_one (m_ret (ps_ret pe_w) (ME.r (ME.as (ME.is (o' := .fz ((r_Condition C_Condition) ())) (ME.frz (me_plain p_Condition e_Condition) rfl) rfl) (u_Cd_plain C_Condition C_CauseIs C_ThingIs C_DaysIn C_Over C_Not C_All C_Some _).symm)) ?_)
    cases hx; rfl
  replace hx := cond_f hx h
  replace hx := gd_some hx
  obtain ⟨g3, hx⟩ := hx
  refine ms_cons (m_if (t := ((D.eqv v1 (.str ("cause" : Str))))) (mt_eqDT (d1 := v1) (d2 := (.str ("cause" : Str))) hr.units g3 rfl rfl (ME.v (me_var (pv 1) rfl)) (ME.v me_str)) (fun h => ?_) fun h => ms_nil ?_)
  · replace hx := cond_t hx h
    replace hx := bd_some hx
    obtain ⟨v4, hv4, hx⟩ := hx
    replace hx := bd_some hx
    obtain ⟨v5, hv5, hx⟩ := hx
    replace hx := bd_some hx
    obtain ⟨v6, hv6, hx⟩ := hx
    refine ms_one (m_ret (ps_ret pe_w) (ME.r (ME.as (ME.is (o' := .fz ((r_CauseIs C_CauseIs) v6)) (ME.frz (me_make i_CauseIs (v5, v6) (ma_fz (ME.is (o' := .fz (.str v5)) (me_ixD hv4 (me_var (pv 0) rfl) me_int) (asS_is hv5)) ma_nil) hv6 (hr.mono (by omega))) rfl) rfl) (u_Cd_cause C_Condition C_CauseIs C_ThingIs C_DaysIn C_Over C_Not C_All C_Some _).symm)) ?_)
    cases hx; rfl
  replace hx := cond_f hx h
  replace hx := gd_some hx
  obtain ⟨g7, hx⟩ := hx
  refine ms_cons (m_if (t := ((D.eqv v1 (.str ("thing" : Str))))) (mt_eqDT (d1 := v1) (d2 := (.str ("thing" : Str))) hr.units g7 rfl rfl (ME.v (me_var (pv 1) rfl)) (ME.v me_str)) (fun h => ?_) fun h => ms_nil ?_)
  · replace hx := cond_t hx h
    replace hx := bd_some hx
    obtain ⟨v8, hv8, hx⟩ := hx
    replace hx := bd_some hx
    obtain ⟨v9, hv9, hx⟩ := hx
    replace hx := bd_some hx
    obtain ⟨v10, hv10, hx⟩ := hx
    refine ms_one (m_ret (ps_ret pe_w) (ME.r (ME.as (ME.is (o' := .fz ((r_ThingIs C_ThingIs) v10)) (ME.frz (me_make i_ThingIs (v9, v10) (ma_fz (ME.is (o' := .fz (.str v9)) (me_ixD hv8 (me_var (pv 0) rfl) me_int) (asS_is hv9)) ma_nil) hv10 (hr.mono (by omega))) rfl) rfl) (u_Cd_thing C_Condition C_CauseIs C_ThingIs C_DaysIn C_Over C_Not C_All C_Some _).symm)) ?_)
    cases hx; rfl
  replace hx := cond_f hx h
  replace hx := gd_some hx
  obtain ⟨g11, hx⟩ := hx
  refine ms_cons (m_if (t := ((D.eqv v1 (.str ("days" : Str))))) (mt_eqDT (d1 := v1) (d2 := (.str ("days" : Str))) hr.units g11 rfl rfl (ME.v (me_var (pv 1) rfl)) (ME.v me_str)) (fun h => ?_) fun h => ms_nil ?_)
  · replace hx := cond_t hx h
    replace hx := bd_some hx
    obtain ⟨v12, hv12, hx⟩ := hx
    replace hx := bd_some hx
    obtain ⟨v13, hv13, hx⟩ := hx
    replace hx := bd_some hx
    obtain ⟨v14, hv14, hx⟩ := hx
    replace hx := bd_some hx
    obtain ⟨v15, hv15, hx⟩ := hx
    replace hx := bd_some hx
    obtain ⟨v16, hv16, hx⟩ := hx
    refine ms_one (m_ret (ps_ret pe_w) (ME.r (ME.as (ME.is (o' := .fz ((r_DaysIn C_DaysIn) v16)) (ME.frz (me_make i_DaysIn ((v13, v15), v16) (ma_fz (ME.is (o' := .fz (.int v13)) (me_ixD hv12 (me_var (pv 0) rfl) me_int) (asI_is hv13)) (ma_fz (ME.is (o' := .fz (.int v15)) (me_ixD hv14 (me_var (pv 0) rfl) me_int) (asI_is hv15)) ma_nil)) hv16 (hr.mono (by omega))) rfl) rfl) (u_Cd_days C_Condition C_CauseIs C_ThingIs C_DaysIn C_Over C_Not C_All C_Some _).symm)) ?_)
    cases hx; rfl
  replace hx := cond_f hx h
  replace hx := gd_some hx
  obtain ⟨g17, hx⟩ := hx
  refine ms_cons (m_if (t := ((D.eqv v1 (.str ("over" : Str))))) (mt_eqDT (d1 := v1) (d2 := (.str ("over" : Str))) hr.units g17 rfl rfl (ME.v (me_var (pv 1) rfl)) (ME.v me_str)) (fun h => ?_) fun h => ms_nil ?_)
  · replace hx := cond_t hx h
    replace hx := bd_some hx
    obtain ⟨v18, hv18, hx⟩ := hx
    replace hx := bd_some hx
    obtain ⟨v19, hv19, hx⟩ := hx
    replace hx := bd_some hx
    obtain ⟨v20, hv20, hx⟩ := hx
    refine ms_one (m_ret (ps_ret pe_w) (ME.r (ME.as (ME.is (o' := .fz ((r_Over C_Over) v20)) (ME.frz (me_make i_Over (v19, v20) (ma_fz (ME.is (o' := .fz (.int v19)) (me_ixD hv18 (me_var (pv 0) rfl) me_int) (asI_is hv19)) ma_nil) hv20 (hr.mono (by omega))) rfl) rfl) (u_Cd_over C_Condition C_CauseIs C_ThingIs C_DaysIn C_Over C_Not C_All C_Some _).symm)) ?_)
    cases hx; rfl
  replace hx := cond_f hx h
  replace hx := gd_some hx
  obtain ⟨g21, hx⟩ := hx
  refine ms_cons (m_if (t := ((D.eqv v1 (.str ("not" : Str))))) (mt_eqDT (d1 := v1) (d2 := (.str ("not" : Str))) hr.units g21 rfl rfl (ME.v (me_var (pv 1) rfl)) (ME.v me_str)) (fun h => ?_) fun h => ms_nil ?_)
  · replace hx := cond_t hx h
    replace hx := bd_some hx
    obtain ⟨v22, hv22, hx⟩ := hx
    replace hx := bd_some hx
    obtain ⟨v23, hv23, hx⟩ := hx
    replace hx := bd_some hx
    obtain ⟨v24, hv24, hx⟩ := hx
    refine ms_one (m_ret (ps_ret pe_w) (ME.r (ME.as (ME.is (o' := .fz ((r_Not C_Not C_Condition C_CauseIs C_ThingIs C_DaysIn C_Over C_All C_Some) v24)) (ME.frz (me_make i_Not (v23, v24) (ma_fz (me_fn c__law_made (v22, v23) (ma_fz (me_ixD hv22 (me_var (pv 0) rfl) me_int) ma_nil) hv23 (hr.mono (by omega))) ma_nil) hv24 (hr.mono (by omega))) rfl) rfl) (u_Cd_notOf C_Condition C_CauseIs C_ThingIs C_DaysIn C_Over C_Not C_All C_Some _).symm)) ?_)
    cases hx; rfl
  replace hx := cond_f hx h
  replace hx := bd_some hx
  obtain ⟨v25, hv25, hx⟩ := hx
  replace hx := bd_some hx
  obtain ⟨l26, hl26, hx⟩ := hx
  replace hx := gd_some hx
  obtain ⟨g27, hx⟩ := hx
  replace hx := bd_some hx
  obtain ⟨v30, hv30, hx⟩ := hx
  refine ms_cons (m_setLcO (i := 2) (g := (gName 4)) (xs := l26) (ys := v30) (enc := e_d) (enc2 := (u_Cd C_Condition C_CauseIs C_ThingIs C_DaysIn C_Over C_Not C_All C_Some)) hv30 (fun te he => ps_setLc (i := 2) (own := [("_law_part", 4)]) rfl nd rfl rfl (sw_true rfl rfl rfl (by decide +kernel)) (pi_list pe_w) (blkOk_by (N := N__law_made) (sc := defScope s__law_made) (by decide +kernel)) (fun _ _ _ _ _ => (pg_name (i := 4) nd rfl (Or.inl rfl))) (fun _ _ _ _ _ => pts_nil) he) (mic_list (MV.l (ME.v (ME.is (o' := .fz (.lst (l26.map e_d))) (me_ixD hv25 (me_var (pv 0) rfl) me_int) (asLD_is hl26))) (.fz _))) g27 (fun x28 mx x28y hx => by replace hx := bd_some hx; obtain ⟨v29, hv29, hx⟩ := hx; injection hx with hx; subst x28y; exact ⟨_, _, mg_name, by decide, fun s H C cl fp => (me_fn c__law_made (x28, v29) (ma_fz (me_var (pv 4) rfl) ma_nil) hv29 (hr.mono (by omega)))⟩) ?_)
  show MS _ [some (.fz tree_here), some (.fz v1), some (.lst ((v30.map (u_Cd C_Condition C_CauseIs C_ThingIs C_DaysIn C_Over C_Not C_All C_Some)).map .fz)), none, none] _ _
  replace hx := gd_some hx
  obtain ⟨g31, hx⟩ := hx
  replace hx := bd_some hx
  obtain ⟨p32, hp32, hx⟩ := hx
  refine ms_cons (m_ifP (out := p32) (fun p32 => [some (.fz tree_here), some (.fz v1), some (.lst ((v30.map (u_Cd C_Condition C_CauseIs C_ThingIs C_DaysIn C_Over C_Not C_All C_Some)).map .fz)), some (.fz ((u_Cd C_Condition C_CauseIs C_ThingIs C_DaysIn C_Over C_Not C_All C_Some) p32)), none]) (t := ((D.eqv v1 (.str ("all" : Str))))) (mt_eqDT (d1 := v1) (d2 := (.str ("all" : Str))) hr.units g31 rfl rfl (ME.v (me_var (pv 1) rfl)) (ME.v me_str)) (fun h => ?_) (fun h => ?_) fun τ le => ?_)
  · replace hx := cond_t hp32 h
    replace hx := bd_some hx
    obtain ⟨v33, hv33, hx⟩ := hx
    replace hx := lt_some hx
    obtain ⟨made_here, emade_here, hx⟩ := hx
    refine ms_one (m_set (ps_set (i := 3) nd rfl (Or.inl rfl) pe_w) (ME.is (o' := (.fz ((u_Cd C_Condition C_CauseIs C_ThingIs C_DaysIn C_Over C_Not C_All C_Some) made_here))) (ME.as (ME.is (o' := .fz ((r_All C_All C_Condition C_CauseIs C_ThingIs C_DaysIn C_Over C_Not C_Some) v33)) (ME.frz (me_make i_All (v30, v33) (ma_vw (ml_var (pv 2) rfl) ma_nil) hv33 (hr.mono (by omega))) (by simp only [O.nv, O.nvL, O.nvL_fz, Bool.and_self])) (by simp only [O.frz, O.frzL, O.frzL_fz])) (u_Cd_allOf C_Condition C_CauseIs C_ThingIs C_DaysIn C_Over C_Not C_All C_Some _).symm) (by rw [emade_here] <;> rfl)) ?_)
    cases hx; exact le_auto
  · replace hx := cond_f hp32 h
    replace hx := bd_some hx
    obtain ⟨v34, hv34, hx⟩ := hx
    replace hx := lt_some hx
    obtain ⟨made_here_1, emade_here_1, hx⟩ := hx
    refine ms_one (m_set (ps_set (i := 3) nd rfl (Or.inl rfl) pe_w) (ME.is (o' := (.fz ((u_Cd C_Condition C_CauseIs C_ThingIs C_DaysIn C_Over C_Not C_All C_Some) made_here_1))) (ME.as (ME.is (o' := .fz ((r_Some C_Some C_Condition C_CauseIs C_ThingIs C_DaysIn C_Over C_Not C_All) v34)) (ME.frz (me_make i_Some (v30, v34) (ma_vw (ml_var (pv 2) rfl) ma_nil) hv34 (hr.mono (by omega))) (by simp only [O.nv, O.nvL, O.nvL_fz, Bool.and_self])) (by simp only [O.frz, O.frzL, O.frzL_fz])) (u_Cd_someOf C_Condition C_CauseIs C_ThingIs C_DaysIn C_Over C_Not C_All C_Some _).symm) (by rw [emade_here_1] <;> rfl)) ?_)
    cases hx; exact le_auto
  refine ms_le le ?_
  show MS _ [some (.fz tree_here), some (.fz v1), some (.lst ((v30.map (u_Cd C_Condition C_CauseIs C_ThingIs C_DaysIn C_Over C_Not C_All C_Some)).map .fz)), some (.fz ((u_Cd C_Condition C_CauseIs C_ThingIs C_DaysIn C_Over C_Not C_All C_Some) p32)), none] _ _
  refine ms_cons (m_clearP (MQ.toP (mq_var (pv 2) rfl)) ?_)
  show MS _ [some (.fz tree_here), some (.fz v1), some (.lst ((([] : List Cd).map (u_Cd C_Condition C_CauseIs C_ThingIs C_DaysIn C_Over C_Not C_All C_Some)).map .fz)), some (.fz ((u_Cd C_Condition C_CauseIs C_ThingIs C_DaysIn C_Over C_Not C_All C_Some) p32)), none] _ _
  replace hx := gd_some hx
  obtain ⟨g35, hx⟩ := hx
  replace hx := lt_some hx
  obtain ⟨parts, eparts, hx⟩ := hx
  refine ms_cons (m_appendT (i := 2) (xs := ([] : List Cd)) (enc := (u_Cd C_Condition C_CauseIs C_ThingIs C_DaysIn C_Over C_Not C_All C_Some)) (y := (Cd.plain ())) g35 (pv _) rfl (ME.as (ME.is (o' := .fz ((r_Condition C_Condition) ())) (ME.frz (me_plain p_Condition e_Condition) rfl) rfl) (u_Cd_plain C_Condition C_CauseIs C_ThingIs C_DaysIn C_Over C_Not C_All C_Some _).symm) ?_)
  rw [← eparts]
  show MS _ [some (.fz tree_here), some (.fz v1), some (.lst ((parts.map (u_Cd C_Condition C_CauseIs C_ThingIs C_DaysIn C_Over C_Not C_All C_Some)).map .fz)), some (.fz ((u_Cd C_Condition C_CauseIs C_ThingIs C_DaysIn C_Over C_Not C_All C_Some) p32)), none] _ _
  refine ms_one (m_ret (ps_ret pe_w) (ME.r (me_var (pv 3) rfl)) ?_)
  cases hx; rfl

-- GROUP made 64 2 : _law_made
/-! _law_cell -/
noncomputable def M__law_cell (script : (List Int)) (k_0 : Int) : Option Int :=
  cond (decide (k_0 < (script.length : Int))) (bd (L2.atI script k_0) fun v1 =>
    some (v1 % 1000000000000000000)) <|
  gd (CMul k_0 k_0) <|
  some (((((k_0 * k_0) * 48271) + (7919 * (script.length : Int))) + 12345) % 2147483647)
def sp__law_cell (K : PySem.W.Frag) : Sp := SpF K (fun x : (List Int) × Int => [.vw (x.1.map D.int), .fz (.int x.2)]) (fun x => M__law_cell x.1 x.2) (fun r => .fz (.int r))
abbrev N__law_cell : List Str := ["_law_script", "_law_k"]
theorem sc__law_cell : FnScope N__law_cell ["_law_script", "_law_k"] (defScope s__law_cell) := ⟨rfl, rfl, rfl, by decide +kernel, rfl, by decide +kernel, by decide +kernel⟩
theorem ok__law_cell {f : Addr} {fd : FuncData} (F : Fun K "_law_cell" "_law_cell" s__law_cell f fd) (z_len : mg "len" = none) : FnOk P w K mg base CX0 1 f fd ["_law_script", "_law_k"] (sp__law_cell K) := by
  refine fn_m F sc__law_cell (fun x => rfl) (fun x _ => rfl) fun cdv A outer s H E hr x hx => ?_
  obtain ⟨⟨script, k_0⟩, r⟩ := x
  replace hx : M__law_cell script k_0 = some r := hx
  have nd := sc__law_cell.nd
  unfold M__law_cell at hx
  show MS _ [some (.vw (script.map D.int)), some (.fz (.int k_0))] _ _
  refine ms_cons (m_if (t := (decide (k_0 < (script.length : Int)))) (mt_lt (me_var (pv 1) rfl) (me_lenLT (xs := script) (enc := D.int) (by rfl) z_len (ml_var (pv 0) rfl))) (fun h => ?_) fun h => ms_nil ?_)
  · replace hx := cond_t hx h
    replace hx := bd_some hx
    obtain ⟨v1, hv1, hx⟩ := hx
    refine ms_one (m_ret (ps_ret pe_w) (ME.r (me_mod (me_ixLT (xs := script) (enc := D.int) hv1 (ml_var (pv 0) rfl) (me_var (pv 1) rfl)) (ME.is (o' := .fz (.int 1000000000000000000)) (me_pow me_int me_int ⟨by decide, by decide, by decide⟩) rfl) (by decide))) ?_)
    cases hx; rfl
  replace hx := cond_f hx h
  replace hx := gd_some hx
  obtain ⟨g2, hx⟩ := hx
  refine ms_one (m_ret (ps_ret pe_w) (ME.r (me_mod (me_add (me_add (me_mul (me_mul (me_var (pv 1) rfl) (me_var (pv 1) rfl) g2) me_int (.inr ⟨by decide, by decide⟩)) (me_mul me_int (me_lenLT (xs := script) (enc := D.int) (by rfl) z_len (ml_var (pv 0) rfl)) (.inl ⟨by decide, by decide⟩))) me_int) me_int (by decide))) ?_)
  cases hx; rfl

/-! _law_mix -/
noncomputable def M__law_mix (number : Int) (k_0 : Int) : Option Int :=
  gd (CMul k_0 k_0) <|
  lt ((((number * 48271) + ((k_0 * k_0) * 69621)) + 4099) % 2147483647) fun number_1 =>
  gd (CMul number_1 number_1) <|
  some ((number_1 * number_1) % 2147483629)
def sp__law_mix (K : PySem.W.Frag) : Sp := SpF K (fun x : Int × Int => [.fz (.int x.1), .fz (.int x.2)]) (fun x => M__law_mix x.1 x.2) (fun r => .fz (.int r))
abbrev N__law_mix : List Str := ["_law_number", "_law_k"]
theorem sc__law_mix : FnScope N__law_mix ["_law_number", "_law_k"] (defScope s__law_mix) := ⟨rfl, rfl, rfl, by decide +kernel, rfl, by decide +kernel, by decide +kernel⟩
theorem ok__law_mix {f : Addr} {fd : FuncData} (F : Fun K "_law_mix" "_law_mix" s__law_mix f fd)  : FnOk P w K mg base CX0 1 f fd ["_law_number", "_law_k"] (sp__law_mix K) := by
  refine fn_m F sc__law_mix (fun x => rfl) (fun x _ => rfl) fun cdv A outer s H E hr x hx => ?_
  obtain ⟨⟨number, k_0⟩, r⟩ := x
  replace hx : M__law_mix number k_0 = some r := hx
  have nd := sc__law_mix.nd
  unfold M__law_mix at hx
  show MS _ [some (.fz (.int number)), some (.fz (.int k_0))] _ _
  replace hx := gd_some hx
  obtain ⟨g1, hx⟩ := hx
  replace hx := lt_some hx
  obtain ⟨number_1, enumber_1, hx⟩ := hx
  refine ms_cons (m_set (ps_set (i := 0) nd rfl (Or.inl rfl) pe_w) (ME.is (o' := (.fz (.int number_1))) (me_mod (me_add (me_add (me_mul (me_var (pv 0) rfl) me_int (.inr ⟨by decide, by decide⟩)) (me_mul (me_mul (me_var (pv 1) rfl) (me_var (pv 1) rfl) g1) me_int (.inr ⟨by decide, by decide⟩))) me_int) me_int (by decide)) (by rw [enumber_1] <;> rfl)) ?_)
  show MS _ [some (.fz (.int number_1)), some (.fz (.int k_0))] _ _
  replace hx := gd_some hx
  obtain ⟨g2, hx⟩ := hx
  refine ms_one (m_ret (ps_ret pe_w) (ME.r (me_mod (me_mul (me_var (pv 0) rfl) (me_var (pv 0) rfl) g2) me_int (by decide))) ?_)
  cases hx; rfl

/-! _law_whole -/
noncomputable def M__law_whole (found : D) : Option Bool :=
  bd (isiD "int" found) fun k1 =>
  bd (cond k1 (bd (isiD "bool" found) fun k2 => some (!k2)) (some false)) fun v3 =>
  some v3
def sp__law_whole (K : PySem.W.Frag) : Sp := SpF K (fun x : D => [.fz x]) (fun x => M__law_whole x) (fun r => .fz (.bl r))
abbrev N__law_whole : List Str := ["_law_found"]
theorem sc__law_whole : FnScope N__law_whole ["_law_found"] (defScope s__law_whole) := ⟨rfl, rfl, rfl, by decide +kernel, rfl, by decide +kernel, by decide +kernel⟩
theorem ok__law_whole {f : Addr} {fd : FuncData} (F : Fun K "_law_whole" "_law_whole" s__law_whole f fd) (z_isinstance : mg "isinstance" = none) (z_int : mg "int" = none) (z_bool : mg "bool" = none) : FnOk P w K mg base CX0 1 f fd ["_law_found"] (sp__law_whole K) := by
  refine fn_m F sc__law_whole (fun x => rfl) (fun x _ => rfl) fun cdv A outer s H E hr x hx => ?_
  obtain ⟨found, r⟩ := x
  replace hx : M__law_whole found = some r := hx
  have nd := sc__law_whole.nd
  unfold M__law_whole at hx
  show MS _ [some (.fz found)] _ _
  replace hx := bd_some hx
  obtain ⟨k1, hk1, hx⟩ := hx
  replace hx := bd_some hx
  obtain ⟨v3, hv3, hx⟩ := hx
  refine ms_one (m_ret (ps_ret pe_w) (ME.r (ME.isB (me_and (me_isiD (T := "int") hk1 (by rfl) z_isinstance (pe_bltn (v := .ty "int") (by rfl) z_int (by decide +kernel) rfl) (mv_var (pv 0) rfl)) fun q4 => (by have hx := cond_t hv3 q4; replace hx := bd_some hx; obtain ⟨k2, hk2, hx⟩ := hx; cases hx; exact (me_one (me_not (me_isiD (T := "bool") hk2 (by rfl) z_isinstance (pe_bltn (v := .ty "bool") (by rfl) z_bool (by decide +kernel) rfl) (mv_var (pv 0) rfl)))))) (and_c hv3))) ?_)
  cases hx; rfl

/-! _law_name -/
noncomputable def M__law_name (number : Int) : Option Str :=
  lt ("abcdefghijklmnopqrstuvwxyz" : Str) fun letters =>
  lt (1 + (number % 8)) fun size =>
  lt (number / 8) fun number_1 =>
  lt ("" : Str) fun name_here =>
  gd (-(2 ^ 62) ≤ size ∧ size < 2 ^ 62) <|
  bd (lp (fun (x3 : Nat) (p2 : Str × Int) => (bd (L2.atI letters.cps.toList (p2.2 % 26)) fun c5 =>
    gd (letters.length ≤ sizeLine) <|
    gd (p2.1.length + (sg1 c5).length ≤ sizeLine) <|
    lt (p2.1 ++ (sg1 c5)) fun name_here_1 =>
    gd (CMul (7 * (x3 : Int)) (x3 : Int)) <|
    lt ((p2.2 / 26) + ((7 * (x3 : Int)) * (x3 : Int))) fun number_2 =>
    some (name_here_1, number_2) : Option (Str × Int))) (List.range size.toNat) (name_here, number_1)) fun p4 =>
  some p4.1
def sp__law_name (K : PySem.W.Frag) : Sp := SpF K (fun x : Int => [.fz (.int x)]) (fun x => M__law_name x) (fun r => .fz (.str r))
abbrev N__law_name : List Str := ["_law_number", "_law_letters", "_law_size", "_law_name_here", "_law_k"]
theorem sc__law_name : FnScope N__law_name ["_law_number"] (defScope s__law_name) := ⟨rfl, rfl, rfl, by decide +kernel, rfl, by decide +kernel, by decide +kernel⟩
theorem ok__law_name {f : Addr} {fd : FuncData} (F : Fun K "_law_name" "_law_name" s__law_name f fd) (z_range : mg "range" = none) : FnOk P w K mg base CX0 1 f fd ["_law_number"] (sp__law_name K) := by
  refine fn_m F sc__law_name (fun x => rfl) (fun x _ => rfl) fun cdv A outer s H E hr x hx => ?_
  obtain ⟨number, r⟩ := x
  replace hx : M__law_name number = some r := hx
  have nd := sc__law_name.nd
  unfold M__law_name at hx
  show MS _ [some (.fz (.int number)), none, none, none, none] _ _
  replace hx := lt_some hx
  obtain ⟨letters, eletters, hx⟩ := hx
  refine ms_cons (m_set (ps_set (i := 1) nd rfl (Or.inl rfl) pe_w) (ME.is (o' := (.fz (.str letters))) me_str (by rw [eletters] <;> rfl)) ?_)
  show MS _ [some (.fz (.int number)), some (.fz (.str letters)), none, none, none] _ _
  replace hx := lt_some hx
  obtain ⟨size, esize, hx⟩ := hx
  refine ms_cons (m_set (ps_set (i := 2) nd rfl (Or.inl rfl) pe_w) (ME.is (o' := (.fz (.int size))) (me_add me_int (me_mod (me_var (pv 0) rfl) me_int (by decide))) (by rw [esize] <;> rfl)) ?_)
  show MS _ [some (.fz (.int number)), some (.fz (.str letters)), some (.fz (.int size)), none, none] _ _
  replace hx := lt_some hx
  obtain ⟨number_1, enumber_1, hx⟩ := hx
  refine ms_cons (m_set (ps_set (i := 0) nd rfl (Or.inl rfl) pe_w) (ME.is (o' := (.fz (.int number_1))) (me_fdiv (me_var (pv 0) rfl) me_int ⟨by decide, by decide⟩) (by rw [enumber_1] <;> rfl)) ?_)
  show MS _ [some (.fz (.int number_1)), some (.fz (.str letters)), some (.fz (.int size)), none, none] _ _
  replace hx := lt_some hx
  obtain ⟨name_here, ename_here, hx⟩ := hx
  refine ms_cons (m_set (ps_set (i := 3) nd rfl (Or.inl rfl) pe_w) (ME.is (o' := (.fz (.str name_here))) me_str (by rw [ename_here] <;> rfl)) ?_)
  show MS _ [some (.fz (.int number_1)), some (.fz (.str letters)), some (.fz (.int size)), some (.fz (.str name_here)), none] _ _
  replace hx := gd_some hx
  obtain ⟨g1, hx⟩ := hx
  replace hx := bd_some hx
  obtain ⟨p4, hp4, hx⟩ := hx
  refine ms_cons (m_forP (xs := (List.range size.toNat)) (enc := (fun k : Nat => D.int (k : Nat))) (ps_for PassesOwn.never rfl (pi_range1 (by rfl) z_range pa_w) (pg_name (i := 4) nd rfl (Or.inl rfl)) pss_w) (by exact (mi_rangeT (mf_cons (me_var (pv 2) rfl) mf_nil) g1)) hp4 (fun p2 => [some (.fz (.int p2.2)), some (.fz (.str letters)), some (.fz (.int size)), some (.fz (.str p2.1)), none]) le_auto (fun x3 p2 p2o mx hx => ?_) fun τ le => ?_)
  ·
    refine ⟨_, _, mg_name, ?_⟩
    show MS _ [some (.fz (.int p2.2)), some (.fz (.str letters)), some (.fz (.int size)), some (.fz (.str p2.1)), some (.fz (.int (x3 : Int)))] _ _
    replace hx := bd_some hx
    obtain ⟨c5, hc5, hx⟩ := hx
    replace hx := gd_some hx
    obtain ⟨g6, hx⟩ := hx
    replace hx := gd_some hx
    obtain ⟨g7, hx⟩ := hx
    replace hx := lt_some hx
    obtain ⟨name_here_1, ename_here_1, hx⟩ := hx
    refine ms_cons (m_set (ps_set (i := 3) nd rfl (Or.inl rfl) pe_w) (ME.is (o' := (.fz (.str name_here_1))) (me_cat (me_var (pv 3) rfl) (me_ixS (me_var (pv 1) rfl) (me_mod (me_var (pv 0) rfl) me_int (by decide)) g6 hc5) g7) (by rw [ename_here_1] <;> rfl)) ?_)
    show MS _ [some (.fz (.int p2.2)), some (.fz (.str letters)), some (.fz (.int size)), some (.fz (.str name_here_1)), some (.fz (.int (x3 : Int)))] _ _
    replace hx := gd_some hx
    obtain ⟨g8, hx⟩ := hx
    replace hx := lt_some hx
    obtain ⟨number_2, enumber_2, hx⟩ := hx
    refine ms_one (m_set (ps_set (i := 0) nd rfl (Or.inl rfl) pe_w) (ME.is (o' := (.fz (.int number_2))) (me_add (me_fdiv (me_var (pv 0) rfl) me_int ⟨by decide, by decide⟩) (me_mul (me_mul me_int (me_var (pv 4) rfl) (.inl ⟨by decide, by decide⟩)) (me_var (pv 4) rfl) g8)) (by rw [enumber_2] <;> rfl)) ?_)
    cases hx; exact le_auto
  refine ms_le le ?_
  show MS _ [some (.fz (.int p4.2)), some (.fz (.str letters)), some (.fz (.int size)), some (.fz (.str p4.1)), none] _ _
  refine ms_one (m_ret (ps_ret pe_w) (ME.r (me_var (pv 3) rfl)) ?_)
  cases hx; rfl

/-! _law_other -/
noncomputable def M__law_other (name_here : Str) (number : Int) : Option Str :=
  lt ("abcdefghijklmnopqrstuvwxyz" : Str) fun letters =>
  gd (name_here.length ≤ sizeLine) <|
  gd (0 < (name_here.length : Int)) <|
  lt ((number / 8) % (name_here.length : Int)) fun at_0 =>
  bd (L2.atI letters.cps.toList ((number / 64) % 26)) fun c3 =>
  gd (letters.length ≤ sizeLine) <|
  lt (sg1 c3) fun sign =>
  lt (number % 8) fun way =>
  cond (((way == 0)) || ((way == 1))) (gd (name_here.length ≤ sizeLine) <|
    gd ((cutS name_here none (some at_0)).length + sign.length ≤ sizeLine) <|
    gd (name_here.length ≤ sizeLine) <|
    gd (((cutS name_here none (some at_0)) ++ sign).length + (cutS name_here (some (at_0 + 1)) none).length ≤ sizeLine) <|
    some (((cutS name_here none (some at_0)) ++ sign) ++ (cutS name_here (some (at_0 + 1)) none))) <|
  bd (cond ((way == 2)) (gd (name_here.length ≤ sizeLine) <| some (decide ((name_here.length : Int) < 8))) (some false)) fun v10 =>
  cond v10 (gd (name_here.length ≤ sizeLine) <|
    gd ((cutS name_here none (some at_0)).length + sign.length ≤ sizeLine) <|
    gd (name_here.length ≤ sizeLine) <|
    gd (((cutS name_here none (some at_0)) ++ sign).length + (cutS name_here (some at_0) none).length ≤ sizeLine) <|
    some (((cutS name_here none (some at_0)) ++ sign) ++ (cutS name_here (some at_0) none))) <|
  bd (cond ((way == 3)) (gd (name_here.length ≤ sizeLine) <| some (decide (1 < (name_here.length : Int)))) (some false)) fun v17 =>
  cond v17 (gd (name_here.length ≤ sizeLine) <|
    gd (name_here.length ≤ sizeLine) <|
    gd ((cutS name_here none (some at_0)).length + (cutS name_here (some (at_0 + 1)) none).length ≤ sizeLine) <|
    some ((cutS name_here none (some at_0)) ++ (cutS name_here (some (at_0 + 1)) none))) <|
  cond ((way == 4)) (gd (name_here.length ≤ sizeLine) <|
    some (revS name_here)) <|
  cond ((way == 5)) (gd (name_here.length ≤ sizeLine) <|
    gd (name_here.length ≤ sizeLine) <|
    gd ((cutS name_here (some (1 : Int)) none).length + (cutS name_here none (some (1 : Int))).length ≤ sizeLine) <|
    some ((cutS name_here (some (1 : Int)) none) ++ (cutS name_here none (some (1 : Int))))) <|
  some name_here
def sp__law_other (K : PySem.W.Frag) : Sp := SpF K (fun x : Str × Int => [.fz (.str x.1), .fz (.int x.2)]) (fun x => M__law_other x.1 x.2) (fun r => .fz (.str r))
abbrev N__law_other : List Str := ["_law_name_here", "_law_number", "_law_letters", "_law_at", "_law_sign", "_law_way"]
theorem sc__law_other : FnScope N__law_other ["_law_name_here", "_law_number"] (defScope s__law_other) := ⟨rfl, rfl, rfl, by decide +kernel, rfl, by decide +kernel, by decide +kernel⟩
theorem ok__law_other {f : Addr} {fd : FuncData} (F : Fun K "_law_other" "_law_other" s__law_other f fd) (z_len : mg "len" = none) : FnOk P w K mg base CX0 1 f fd ["_law_name_here", "_law_number"] (sp__law_other K) := by
  refine fn_m F sc__law_other (fun x => rfl) (fun x _ => rfl) fun cdv A outer s H E hr x hx => ?_
  obtain ⟨⟨name_here, number⟩, r⟩ := x
  replace hx : M__law_other name_here number = some r := hx
  have nd := sc__law_other.nd
  unfold M__law_other at hx
  show MS _ [some (.fz (.str name_here)), some (.fz (.int number)), none, none, none, none] _ _
  replace hx := lt_some hx
  obtain ⟨letters, eletters, hx⟩ := hx
  refine ms_cons (m_set (ps_set (i := 2) nd rfl (Or.inl rfl) pe_w) (ME.is (o' := (.fz (.str letters))) me_str (by rw [eletters] <;> rfl)) ?_)
  show MS _ [some (.fz (.str name_here)), some (.fz (.int number)), some (.fz (.str letters)), none, none, none] _ _
  replace hx := gd_some hx
  obtain ⟨g1, hx⟩ := hx
  replace hx := gd_some hx
  obtain ⟨g2, hx⟩ := hx
  replace hx := lt_some hx
  obtain ⟨at_0, eat_0, hx⟩ := hx
  refine ms_cons (m_set (ps_set (i := 3) nd rfl (Or.inl rfl) pe_w) (ME.is (o' := (.fz (.int at_0))) (me_mod (me_fdiv (me_var (pv 1) rfl) me_int ⟨by decide, by decide⟩) (me_lenS (by rfl) z_len (me_var (pv 0) rfl) g1) g2) (by rw [eat_0] <;> rfl)) ?_)
  show MS _ [some (.fz (.str name_here)), some (.fz (.int number)), some (.fz (.str letters)), some (.fz (.int at_0)), none, none] _ _
  replace hx := bd_some hx
  obtain ⟨c3, hc3, hx⟩ := hx
  replace hx := gd_some hx
  obtain ⟨g4, hx⟩ := hx
  replace hx := lt_some hx
  obtain ⟨sign, esign, hx⟩ := hx
  refine ms_cons (m_set (ps_set (i := 4) nd rfl (Or.inl rfl) pe_w) (ME.is (o' := (.fz (.str sign))) (me_ixS (me_var (pv 2) rfl) (me_mod (me_fdiv (me_var (pv 1) rfl) me_int ⟨by decide, by decide⟩) me_int (by decide)) g4 hc3) (by rw [esign] <;> rfl)) ?_)
  show MS _ [some (.fz (.str name_here)), some (.fz (.int number)), some (.fz (.str letters)), some (.fz (.int at_0)), some (.fz (.str sign)), none] _ _
  replace hx := lt_some hx
  obtain ⟨way, eway, hx⟩ := hx
  refine ms_cons (m_set (ps_set (i := 5) nd rfl (Or.inl rfl) pe_w) (ME.is (o' := (.fz (.int way))) (me_mod (me_var (pv 1) rfl) me_int (by decide)) (by rw [eway] <;> rfl)) ?_)
  show MS _ [some (.fz (.str name_here)), some (.fz (.int number)), some (.fz (.str letters)), some (.fz (.int at_0)), some (.fz (.str sign)), some (.fz (.int way))] _ _
  refine ms_cons (m_if (t := (((way == 0)) || ((way == 1)))) (MW.t (mw_or (mt_eqI (me_var (pv 5) rfl) me_int) fun _ => (mw_or1 (mt_eqI (me_var (pv 5) rfl) me_int)))) (fun h => ?_) fun h => ms_nil ?_)
  · replace hx := cond_t hx h
    replace hx := gd_some hx
    obtain ⟨g5, hx⟩ := hx
    replace hx := gd_some hx
    obtain ⟨g6, hx⟩ := hx
    replace hx := gd_some hx
    obtain ⟨g7, hx⟩ := hx
    replace hx := gd_some hx
    obtain ⟨g8, hx⟩ := hx
    refine ms_one (m_ret (ps_ret pe_w) (ME.r (me_cat (me_cat (me_slS g5 (me_var (pv 0) rfl) .none (.some (me_var (pv 3) rfl))) (me_var (pv 4) rfl) g6) (me_slS g7 (me_var (pv 0) rfl) (.some (me_add (me_var (pv 3) rfl) me_int)) .none) g8)) ?_)
    cases hx; rfl
  replace hx := cond_f hx h
  replace hx := bd_some hx
  obtain ⟨v10, hv10, hx⟩ := hx
  refine ms_cons (m_if (t := v10) (MW.t (MW.is (mw_and (mt_eqI (me_var (pv 5) rfl) me_int) fun q11 => (by have hx := cond_t hv10 q11; replace hx := gd_some hx; obtain ⟨g9, hx⟩ := hx; cases hx; exact (mw_and1 (mt_lt (me_lenS (by rfl) z_len (me_var (pv 0) rfl) g9) me_int)))) (and_c hv10))) (fun h => ?_) fun h => ms_nil ?_)
  · replace hx := cond_t hx h
    replace hx := gd_some hx
    obtain ⟨g12, hx⟩ := hx
    replace hx := gd_some hx
    obtain ⟨g13, hx⟩ := hx
    replace hx := gd_some hx
    obtain ⟨g14, hx⟩ := hx
    replace hx := gd_some hx
    obtain ⟨g15, hx⟩ := hx
    refine ms_one (m_ret (ps_ret pe_w) (ME.r (me_cat (me_cat (me_slS g12 (me_var (pv 0) rfl) .none (.some (me_var (pv 3) rfl))) (me_var (pv 4) rfl) g13) (me_slS g14 (me_var (pv 0) rfl) (.some (me_var (pv 3) rfl)) .none) g15)) ?_)
    cases hx; rfl
  replace hx := cond_f hx h
  replace hx := bd_some hx
  obtain ⟨v17, hv17, hx⟩ := hx
  refine ms_cons (m_if (t := v17) (MW.t (MW.is (mw_and (mt_eqI (me_var (pv 5) rfl) me_int) fun q18 => (by have hx := cond_t hv17 q18; replace hx := gd_some hx; obtain ⟨g16, hx⟩ := hx; cases hx; exact (mw_and1 (mt_gt (me_lenS (by rfl) z_len (me_var (pv 0) rfl) g16) me_int)))) (and_c hv17))) (fun h => ?_) fun h => ms_nil ?_)
  · replace hx := cond_t hx h
    replace hx := gd_some hx
    obtain ⟨g19, hx⟩ := hx
    replace hx := gd_some hx
    obtain ⟨g20, hx⟩ := hx
    replace hx := gd_some hx
    obtain ⟨g21, hx⟩ := hx
    refine ms_one (m_ret (ps_ret pe_w) (ME.r (me_cat (me_slS g19 (me_var (pv 0) rfl) .none (.some (me_var (pv 3) rfl))) (me_slS g20 (me_var (pv 0) rfl) (.some (me_add (me_var (pv 3) rfl) me_int)) .none) g21)) ?_)
    cases hx; rfl
  replace hx := cond_f hx h
  refine ms_cons (m_if (t := ((way == 4))) (mt_eqI (me_var (pv 5) rfl) me_int) (fun h => ?_) fun h => ms_nil ?_)
  · replace hx := cond_t hx h
    replace hx := gd_some hx
    obtain ⟨g22, hx⟩ := hx
    refine ms_one (m_ret (ps_ret pe_w) (ME.r (me_revS g22 (me_var (pv 0) rfl))) ?_)
    cases hx; rfl
  replace hx := cond_f hx h
  refine ms_cons (m_if (t := ((way == 5))) (mt_eqI (me_var (pv 5) rfl) me_int) (fun h => ?_) fun h => ms_nil ?_)
  · replace hx := cond_t hx h
    replace hx := gd_some hx
    obtain ⟨g23, hx⟩ := hx
    replace hx := gd_some hx
    obtain ⟨g24, hx⟩ := hx
    replace hx := gd_some hx
    obtain ⟨g25, hx⟩ := hx
    refine ms_one (m_ret (ps_ret pe_w) (ME.r (me_cat (me_slS g23 (me_var (pv 0) rfl) (.some me_int) .none) (me_slS g24 (me_var (pv 0) rfl) .none (.some me_int)) g25)) ?_)
    cases hx; rfl
  replace hx := cond_f hx h
  refine ms_one (m_ret (ps_ret pe_w) (ME.r (me_var (pv 0) rfl)) ?_)
  cases hx; rfl
abbrev e_T_L_s_L_i_L_i (p : ((List Str) × (List Int) × (List Int))) : D := .tup [.lst (p.1.map D.str), .lst (p.2.1.map D.int), .lst (p.2.2.map D.int)]
/-! _law_pools -/
noncomputable def M__law_pools (script : (List Int)) : Option ((List Str) × (List Int) × (List Int)) :=
  bd (M__law_cell script (0 : Int)) fun v1 =>
  bd (M__law_name v1) fun v2 =>
  lt [v2] fun names =>
  bd (lp (fun (x4 : Nat) (p3 : (List Str)) => (bd (L2.atI p3 (x4 : Int)) fun v6 =>
    bd (M__law_cell script (1 : Int)) fun v7 =>
    bd (M__law_mix v7 (x4 : Int)) fun v8 =>
    bd (M__law_other v6 v8) fun v9 =>
    gd (p3.length < sizeLine) <|
    lt (p3 ++ [v9]) fun names_1 =>
    some names_1 : Option ((List Str)))) (List.range (3 : Int).toNat) names) fun p5 =>
  lt [("and" : Str), ("or" : Str), ("not" : Str), ("cause" : Str), ("thing" : Str), ("days" : Str), ("over" : Str), ("always" : Str)] fun odd =>
  bd (M__law_cell script (0 : Int)) fun v11 =>
  bd (L2.atI odd (v11 % 8)) fun v12 =>
  gd (p5.length < sizeLine) <|
  lt (p5 ++ [v12]) fun names_2 =>
  bd (M__law_cell script (2 : Int)) fun v14 =>
  lt (v14 % (1000000 + 1)) fun day =>
  bd (M__law_cell script (1 : Int)) fun v15 =>
  bd (M__law_mix v15 (5 : Int)) fun v16 =>
  gd (SrtOk D.int [day, (min (1000000 : Int) (day + 1)), (364 + (365 * (v16 % 2700))), (v16 % (1000000 + 1))]) <|
  lt ((srt D.int [day, (min (1000000 : Int) (day + 1)), (364 + (365 * (v16 % 2700))), (v16 % (1000000 + 1))]) : (List Int)) fun days =>
  bd (M__law_cell script (3 : Int)) fun v18 =>
  lt (v18 % 1000000000000) fun cents =>
  lt ([cents, (min (1000000000000 - 1) (cents + 1)), (v16 % 100), ((v16 * 463) % 1000000000000)] : (List Int)) fun sums =>
  some (names_2, days, sums)
def sp__law_pools (K : PySem.W.Frag) : Sp := SpF K (fun x : (List Int) => [.vw (x.map D.int)]) (fun x => M__law_pools x) (fun r => .fz (e_T_L_s_L_i_L_i r))
abbrev N__law_pools : List Str := ["_law_script", "_law_names", "_law_k", "_law_odd", "_law_day", "_law_far", "_law_days", "_law_cents", "_law_sums"]
theorem sc__law_pools : FnScope N__law_pools ["_law_script"] (defScope s__law_pools) := ⟨rfl, rfl, rfl, by decide +kernel, rfl, by decide +kernel, by decide +kernel⟩
theorem ok__law_pools {f : Addr} {fd : FuncData} (F : Fun K "_law_pools" "_law_pools" s__law_pools f fd) (z_range : mg "range" = none) (z_sorted : mg "sorted" = none) (z_min : mg "min" = none) (c__law_cell : Fn1 P w K mg base "_law_cell" 1 ["_law_script", "_law_k"] (sp__law_cell K)) (c__law_name : Fn1 P w K mg base "_law_name" 1 ["_law_number"] (sp__law_name K)) (c__law_mix : Fn1 P w K mg base "_law_mix" 1 ["_law_number", "_law_k"] (sp__law_mix K)) (c__law_other : Fn1 P w K mg base "_law_other" 1 ["_law_name_here", "_law_number"] (sp__law_other K)) : FnOk P w K mg base CX0 2 f fd ["_law_script"] (sp__law_pools K) := by
  refine fn_m F sc__law_pools (fun x => rfl) (fun x _ => rfl) fun cdv A outer s H E hr x hx => ?_
  obtain ⟨script, r⟩ := x
  replace hx : M__law_pools script = some r := hx
  have nd := sc__law_pools.nd
  unfold M__law_pools at hx
  show MS _ [some (.vw (script.map D.int)), none, none, none, none, none, none, none, none] _ _
  replace hx := bd_some hx
  obtain ⟨v1, hv1, hx⟩ := hx
  replace hx := bd_some hx
  obtain ⟨v2, hv2, hx⟩ := hx
  replace hx := lt_some hx
  obtain ⟨names, enames, hx⟩ := hx
  refine ms_cons (m_set (ps_set (i := 1) nd rfl (Or.inl rfl) pe_w) (ME.is (o' := (.lst ((names.map D.str).map .fz))) (me_lst (ds := [v2].map D.str) (mf_cons (me_fn c__law_name (v1, v2) (ma_fz (me_fn c__law_cell ((script, 0), v1) (ma_vw (ml_var (pv 0) rfl) (ma_fz me_int ma_nil)) hv1 (hr.mono (by decide))) ma_nil) hv2 (hr.mono (by decide))) mf_nil)) (by rw [enames] <;> rfl)) ?_)
  show MS _ [some (.vw (script.map D.int)), some (.lst ((names.map D.str).map .fz)), none, none, none, none, none, none, none] _ _
  replace hx := bd_some hx
  obtain ⟨p5, hp5, hx⟩ := hx
  refine ms_cons (m_forP (xs := (List.range (3 : Int).toNat)) (enc := (fun k : Nat => D.int (k : Nat))) (ps_for PassesOwn.never rfl (pi_range1 (by rfl) z_range pa_w) (pg_name (i := 2) nd rfl (Or.inl rfl)) pss_w) (by exact (mi_rangeT (mf_cons me_int mf_nil) ⟨by decide, by decide⟩)) hp5 (fun p3 => [some (.vw (script.map D.int)), some (.lst ((p3.map D.str).map .fz)), none, none, none, none, none, none, none]) le_auto (fun x4 p3 p3o mx hx => ?_) fun τ le => ?_)
  ·
    refine ⟨_, _, mg_name, ?_⟩
    show MS _ [some (.vw (script.map D.int)), some (.lst ((p3.map D.str).map .fz)), some (.fz (.int (x4 : Int))), none, none, none, none, none, none] _ _
    replace hx := bd_some hx
    obtain ⟨v6, hv6, hx⟩ := hx
    replace hx := bd_some hx
    obtain ⟨v7, hv7, hx⟩ := hx
    replace hx := bd_some hx
    obtain ⟨v8, hv8, hx⟩ := hx
    replace hx := bd_some hx
    obtain ⟨v9, hv9, hx⟩ := hx
    replace hx := gd_some hx
    obtain ⟨g10, hx⟩ := hx
    replace hx := lt_some hx
    obtain ⟨names_1, enames_1, hx⟩ := hx
    refine ms_one (m_appendT (i := 1) (xs := p3) (enc := D.str) (y := v9) g10 (pv _) rfl (me_fn c__law_other ((v6, v8), v9) (ma_fz (me_ixLT (xs := p3) (enc := D.str) hv6 (ml_var (pv 1) rfl) (me_var (pv 2) rfl)) (ma_fz (me_fn c__law_mix ((v7, (x4 : Int)), v8) (ma_fz (me_fn c__law_cell ((script, 1), v7) (ma_vw (ml_var (pv 0) rfl) (ma_fz me_int ma_nil)) hv7 (hr.mono (by decide))) (ma_fz (me_var (pv 2) rfl) ma_nil)) hv8 (hr.mono (by decide))) ma_nil)) hv9 (hr.mono (by decide))) ?_)
    rw [← enames_1]
    cases hx; exact le_auto
  refine ms_le le ?_
  show MS _ [some (.vw (script.map D.int)), some (.lst ((p5.map D.str).map .fz)), none, none, none, none, none, none, none] _ _
  replace hx := lt_some hx
  obtain ⟨odd, eodd, hx⟩ := hx
  refine ms_cons (m_set (ps_set (i := 3) nd rfl (Or.inl rfl) pe_w) (ME.is (o' := (.lst ((odd.map D.str).map .fz))) (me_lst (ds := [("and" : Str), ("or" : Str), ("not" : Str), ("cause" : Str), ("thing" : Str), ("days" : Str), ("over" : Str), ("always" : Str)].map D.str) (mf_cons me_str (mf_cons me_str (mf_cons me_str (mf_cons me_str (mf_cons me_str (mf_cons me_str (mf_cons me_str (mf_cons me_str mf_nil))))))))) (by rw [eodd] <;> rfl)) ?_)
  show MS _ [some (.vw (script.map D.int)), some (.lst ((p5.map D.str).map .fz)), none, some (.lst ((odd.map D.str).map .fz)), none, none, none, none, none] _ _
  replace hx := bd_some hx
  obtain ⟨v11, hv11, hx⟩ := hx
  replace hx := bd_some hx
  obtain ⟨v12, hv12, hx⟩ := hx
  replace hx := gd_some hx
  obtain ⟨g13, hx⟩ := hx
  replace hx := lt_some hx
  obtain ⟨names_2, enames_2, hx⟩ := hx
  refine ms_cons (m_appendT (i := 1) (xs := p5) (enc := D.str) (y := v12) g13 (pv _) rfl (me_ixLT (xs := odd) (enc := D.str) hv12 (ml_var (pv 3) rfl) (me_mod (me_fn c__law_cell ((script, 0), v11) (ma_vw (ml_var (pv 0) rfl) (ma_fz me_int ma_nil)) hv11 (hr.mono (by decide))) me_int (by decide))) ?_)
  rw [← enames_2]
  show MS _ [some (.vw (script.map D.int)), some (.lst ((names_2.map D.str).map .fz)), none, some (.lst ((odd.map D.str).map .fz)), none, none, none, none, none] _ _
  replace hx := bd_some hx
  obtain ⟨v14, hv14, hx⟩ := hx
  replace hx := lt_some hx
  obtain ⟨day, eday, hx⟩ := hx
  refine ms_cons (m_set (ps_set (i := 4) nd rfl (Or.inl rfl) pe_w) (ME.is (o' := (.fz (.int day))) (me_mod (me_fn c__law_cell ((script, 2), v14) (ma_vw (ml_var (pv 0) rfl) (ma_fz me_int ma_nil)) hv14 (hr.mono (by decide))) (me_add (ME.is (o' := .fz (.int 1000000)) (me_pow me_int me_int ⟨by decide, by decide, by decide⟩) rfl) me_int) (by decide)) (by rw [eday] <;> rfl)) ?_)
  show MS _ [some (.vw (script.map D.int)), some (.lst ((names_2.map D.str).map .fz)), none, some (.lst ((odd.map D.str).map .fz)), some (.fz (.int day)), none, none, none, none] _ _
  replace hx := bd_some hx
  obtain ⟨v15, hv15, hx⟩ := hx
  replace hx := bd_some hx
  obtain ⟨v16, hv16, hx⟩ := hx
  refine ms_cons (m_set (ps_set (i := 5) nd rfl (Or.inl rfl) pe_w) (me_fn c__law_mix ((v15, 5), v16) (ma_fz (me_fn c__law_cell ((script, 1), v15) (ma_vw (ml_var (pv 0) rfl) (ma_fz me_int ma_nil)) hv15 (hr.mono (by decide))) (ma_fz me_int ma_nil)) hv16 (hr.mono (by decide))) ?_)
  show MS _ [some (.vw (script.map D.int)), some (.lst ((names_2.map D.str).map .fz)), none, some (.lst ((odd.map D.str).map .fz)), some (.fz (.int day)), some (.fz (.int v16)), none, none, none] _ _
  replace hx := gd_some hx
  obtain ⟨g17, hx⟩ := hx
  replace hx := lt_some hx
  obtain ⟨days, edays, hx⟩ := hx
  refine ms_cons (m_set (ps_set (i := 6) nd rfl (Or.inl rfl) pe_w) (ME.is (o' := (.lst ((days.map D.int).map .fz))) (me_sorted (bs := [day, (min (1000000 : Int) (day + 1)), (364 + (365 * (v16 % 2700))), (v16 % (1000000 + 1))]) (enc := D.int) hr.units (by rfl) z_sorted (ME.l (me_lst (ds := [day, (min (1000000 : Int) (day + 1)), (364 + (365 * (v16 % 2700))), (v16 % (1000000 + 1))].map D.int) (mf_cons (me_var (pv 4) rfl) (mf_cons (me_min rfl (by rfl) z_min (ME.is (o' := .fz (.int 1000000)) (me_pow me_int me_int ⟨by decide, by decide, by decide⟩) rfl) (me_add (me_var (pv 4) rfl) me_int)) (mf_cons (me_add me_int (me_mul me_int (me_mod (me_var (pv 5) rfl) me_int (by decide)) (.inl ⟨by decide, by decide⟩))) (mf_cons (me_mod (me_var (pv 5) rfl) (me_add (ME.is (o' := .fz (.int 1000000)) (me_pow me_int me_int ⟨by decide, by decide, by decide⟩) rfl) me_int) (by decide)) mf_nil)))))) g17.1 g17.2.1 g17.2.2.1 g17.2.2.2) (by rw [edays] <;> rfl)) ?_)
  show MS _ [some (.vw (script.map D.int)), some (.lst ((names_2.map D.str).map .fz)), none, some (.lst ((odd.map D.str).map .fz)), some (.fz (.int day)), some (.fz (.int v16)), some (.lst ((days.map D.int).map .fz)), none, none] _ _
  replace hx := bd_some hx
  obtain ⟨v18, hv18, hx⟩ := hx
  replace hx := lt_some hx
  obtain ⟨cents, ecents, hx⟩ := hx
  refine ms_cons (m_set (ps_set (i := 7) nd rfl (Or.inl rfl) pe_w) (ME.is (o' := (.fz (.int cents))) (me_mod (me_fn c__law_cell ((script, 3), v18) (ma_vw (ml_var (pv 0) rfl) (ma_fz me_int ma_nil)) hv18 (hr.mono (by decide))) (ME.is (o' := .fz (.int 1000000000000)) (me_pow me_int me_int ⟨by decide, by decide, by decide⟩) rfl) (by decide)) (by rw [ecents] <;> rfl)) ?_)
  show MS _ [some (.vw (script.map D.int)), some (.lst ((names_2.map D.str).map .fz)), none, some (.lst ((odd.map D.str).map .fz)), some (.fz (.int day)), some (.fz (.int v16)), some (.lst ((days.map D.int).map .fz)), some (.fz (.int cents)), none] _ _
  replace hx := lt_some hx
  obtain ⟨sums, esums, hx⟩ := hx
  refine ms_cons (m_set (ps_set (i := 8) nd rfl (Or.inl rfl) pe_w) (ME.is (o' := (.lst ((sums.map D.int).map .fz))) (me_lst (ds := [cents, (min (1000000000000 - 1) (cents + 1)), (v16 % 100), ((v16 * 463) % 1000000000000)].map D.int) (mf_cons (me_var (pv 7) rfl) (mf_cons (me_min rfl (by rfl) z_min (me_sub (ME.is (o' := .fz (.int 1000000000000)) (me_pow me_int me_int ⟨by decide, by decide, by decide⟩) rfl) me_int) (me_add (me_var (pv 7) rfl) me_int)) (mf_cons (me_mod (me_var (pv 5) rfl) me_int (by decide)) (mf_cons (me_mod (me_mul (me_var (pv 5) rfl) me_int (.inr ⟨by decide, by decide⟩)) (ME.is (o' := .fz (.int 1000000000000)) (me_pow me_int me_int ⟨by decide, by decide, by decide⟩) rfl) (by decide)) mf_nil))))) (by rw [esums] <;> rfl)) ?_)
  show MS _ [some (.vw (script.map D.int)), some (.lst ((names_2.map D.str).map .fz)), none, some (.lst ((odd.map D.str).map .fz)), some (.fz (.int day)), some (.fz (.int v16)), some (.lst ((days.map D.int).map .fz)), some (.fz (.int cents)), some (.lst ((sums.map D.int).map .fz))] _ _
  refine ms_frzl (i := 1) rfl ?_
  refine ms_frzl (i := 6) rfl ?_
  refine ms_frzl (i := 8) rfl ?_
  show MS _ [some (.vw (script.map D.int)), some (.fz (.lst (names_2.map D.str))), none, some (.lst ((odd.map D.str).map .fz)), some (.fz (.int day)), some (.fz (.int v16)), some (.fz (.lst (days.map D.int))), some (.fz (.int cents)), some (.fz (.lst (sums.map D.int)))] _ _
  refine ms_one (m_ret (ps_ret pe_w) (ME.r (me_tup (mf_cons (me_var (pv 1) rfl) (mf_cons (me_var (pv 6) rfl) (mf_cons (me_var (pv 8) rfl) mf_nil))))) ?_)
  cases hx; rfl

/-! _law_leaf -/
abbrev e_T_s (p : Str) : D := .tup [.str p]
abbrev e_T_s_s (p : (Str × Str)) : D := .tup [.str p.1, .str p.2]
abbrev e_T_s_i_i (p : (Str × Int × Int)) : D := .tup [.str p.1, .int p.2.1, .int p.2.2]
abbrev e_T_s_i (p : (Str × Int)) : D := .tup [.str p.1, .int p.2]
noncomputable def M__law_leaf (number : Int) (pools_here : ((List Str) × (List Int) × (List Int))) : Option D :=
  lt (number % 7) fun way =>
  lt ((number / 7) % 20) fun at_0 =>
  cond ((way == 0)) (some (e_T_s ("always" : Str))) <|
  cond (decide (way < 3)) (bd (L2.atI [("cause" : Str), ("thing" : Str)] (way - 1)) fun v1 =>
    bd (L2.atI pools_here.1 (at_0 % 5)) fun v2 =>
    some (e_T_s_s (v1, v2))) <|
  cond (decide (way < 5)) (bd (L2.atI pools_here.2.1 (at_0 % 4)) fun v3 =>
    bd (L2.atI pools_here.2.1 ((at_0 / 4) % 4)) fun v4 =>
    some (e_T_s_i_i (("days" : Str), (min v3 v4), (max v3 v4)))) <|
  bd (L2.atI pools_here.2.2 (at_0 % 4)) fun v5 =>
  some (e_T_s_i (("over" : Str), v5))
def sp__law_leaf (K : PySem.W.Frag) : Sp := SpF K (fun x : Int × ((List Str) × (List Int) × (List Int)) => [.fz (.int x.1), .fz (e_T_L_s_L_i_L_i x.2)]) (fun x => M__law_leaf x.1 x.2) (fun r => .fz r)
abbrev N__law_leaf : List Str := ["_law_number", "_law_pools_here", "_law_way", "_law_at", "_law_one", "_law_two"]
theorem sc__law_leaf : FnScope N__law_leaf ["_law_number", "_law_pools_here"] (defScope s__law_leaf) := ⟨rfl, rfl, rfl, by decide +kernel, rfl, by decide +kernel, by decide +kernel⟩
theorem ok__law_leaf {f : Addr} {fd : FuncData} (F : Fun K "_law_leaf" "_law_leaf" s__law_leaf f fd) (z_min : mg "min" = none) (z_max : mg "max" = none) : FnOk P w K mg base CX0 1 f fd ["_law_number", "_law_pools_here"] (sp__law_leaf K) := by
  refine fn_m F sc__law_leaf (fun x => rfl) (fun x _ => rfl) fun cdv A outer s H E hr x hx => ?_
  obtain ⟨⟨number, pools_here⟩, r⟩ := x
  replace hx : M__law_leaf number pools_here = some r := hx
  have nd := sc__law_leaf.nd
  unfold M__law_leaf at hx
  show MS _ [some (.fz (.int number)), some (.fz (e_T_L_s_L_i_L_i pools_here)), none, none, none, none] _ _
  replace hx := lt_some hx
  obtain ⟨way, eway, hx⟩ := hx
  refine ms_cons (m_set (ps_set (i := 2) nd rfl (Or.inl rfl) pe_w) (ME.is (o' := (.fz (.int way))) (me_mod (me_var (pv 0) rfl) me_int (by decide)) (by rw [eway] <;> rfl)) ?_)
  show MS _ [some (.fz (.int number)), some (.fz (e_T_L_s_L_i_L_i pools_here)), some (.fz (.int way)), none, none, none] _ _
  replace hx := lt_some hx
  obtain ⟨at_0, eat_0, hx⟩ := hx
  refine ms_cons (m_set (ps_set (i := 3) nd rfl (Or.inl rfl) pe_w) (ME.is (o' := (.fz (.int at_0))) (me_mod (me_fdiv (me_var (pv 0) rfl) me_int ⟨by decide, by decide⟩) me_int (by decide)) (by rw [eat_0] <;> rfl)) ?_)
  show MS _ [some (.fz (.int number)), some (.fz (e_T_L_s_L_i_L_i pools_here)), some (.fz (.int way)), some (.fz (.int at_0)), none, none] _ _
  refine ms_cons (m_if (t := ((way == 0))) (mt_eqI (me_var (pv 2) rfl) me_int) (fun h => ?_) fun h => ms_nil ?_)
  · replace hx := cond_t hx h
    refine ms_one (m_ret (ps_ret pe_w) (ME.r (me_tup (mf_cons me_str mf_nil))) ?_)
    cases hx; rfl
  replace hx := cond_f hx h
  refine ms_cons (m_if (t := (decide (way < 3))) (mt_lt (me_var (pv 2) rfl) me_int) (fun h => ?_) fun h => ms_nil ?_)
  · replace hx := cond_t hx h
    replace hx := bd_some hx
    obtain ⟨v1, hv1, hx⟩ := hx
    replace hx := bd_some hx
    obtain ⟨v2, hv2, hx⟩ := hx
    refine ms_one (m_ret (ps_ret pe_w) (ME.r (me_tup (mf_cons (me_ixLT (xs := [("cause" : Str), ("thing" : Str)]) (enc := D.str) hv1 (ME.l (me_lst (ds := [("cause" : Str), ("thing" : Str)].map D.str) (mf_cons me_str (mf_cons me_str mf_nil)))) (me_sub (me_var (pv 2) rfl) me_int)) (mf_cons (me_ixLT (xs := pools_here.1) (enc := D.str) hv2 (MV.l (ME.v (me_ixT (MV.u (ME.v (me_var (pv 1) rfl)) (.fz _)) me_int rfl)) (.fz _)) (me_mod (me_var (pv 3) rfl) me_int (by decide))) mf_nil)))) ?_)
    cases hx; rfl
  replace hx := cond_f hx h
  refine ms_cons (m_if (t := (decide (way < 5))) (mt_lt (me_var (pv 2) rfl) me_int) (fun h => ?_) fun h => ms_nil ?_)
  · replace hx := cond_t hx h
    replace hx := bd_some hx
    obtain ⟨v3, hv3, hx⟩ := hx
    refine ms_cons (m_set (ps_set (i := 4) nd rfl (Or.inl rfl) pe_w) (me_ixLT (xs := pools_here.2.1) (enc := D.int) hv3 (MV.l (ME.v (me_ixT (MV.u (ME.v (me_var (pv 1) rfl)) (.fz _)) me_int rfl)) (.fz _)) (me_mod (me_var (pv 3) rfl) me_int (by decide))) ?_)
    show MS _ [some (.fz (.int number)), some (.fz (e_T_L_s_L_i_L_i pools_here)), some (.fz (.int way)), some (.fz (.int at_0)), some (.fz (.int v3)), none] _ _
    replace hx := bd_some hx
    obtain ⟨v4, hv4, hx⟩ := hx
    refine ms_cons (m_set (ps_set (i := 5) nd rfl (Or.inl rfl) pe_w) (me_ixLT (xs := pools_here.2.1) (enc := D.int) hv4 (MV.l (ME.v (me_ixT (MV.u (ME.v (me_var (pv 1) rfl)) (.fz _)) me_int rfl)) (.fz _)) (me_mod (me_fdiv (me_var (pv 3) rfl) me_int ⟨by decide, by decide⟩) me_int (by decide))) ?_)
    show MS _ [some (.fz (.int number)), some (.fz (e_T_L_s_L_i_L_i pools_here)), some (.fz (.int way)), some (.fz (.int at_0)), some (.fz (.int v3)), some (.fz (.int v4))] _ _
    refine ms_one (m_ret (ps_ret pe_w) (ME.r (me_tup (mf_cons me_str (mf_cons (me_min rfl (by rfl) z_min (me_var (pv 4) rfl) (me_var (pv 5) rfl)) (mf_cons (me_max rfl (by rfl) z_max (me_var (pv 4) rfl) (me_var (pv 5) rfl)) mf_nil))))) ?_)
    cases hx; rfl
  replace hx := cond_f hx h
  replace hx := bd_some hx
  obtain ⟨v5, hv5, hx⟩ := hx
  refine ms_one (m_ret (ps_ret pe_w) (ME.r (me_tup (mf_cons me_str (mf_cons (me_ixLT (xs := pools_here.2.2) (enc := D.int) hv5 (MV.l (ME.v (me_ixT (MV.u (ME.v (me_var (pv 1) rfl)) (.fz _)) me_int rfl)) (.fz _)) (me_mod (me_var (pv 3) rfl) me_int (by decide))) mf_nil)))) ?_)
  cases hx; rfl

/-! _law_loss -/
noncomputable def M__law_loss (script : (List Int)) (k_0 : Int) (pools_here : ((List Str) × (List Int) × (List Int))) : Option (Int × Int × Str × Str × Str × Int) :=
  bd (M__law_cell script k_0) fun v1 =>
  bd (M__law_mix v1 (k_0 + 100)) fun v2 =>
  bd (M__law_name v2) fun v3 =>
  gd (pools_here.1.length + [v3].length ≤ sizeLine) <|
  lt (pools_here.1 ++ [v3]) fun names =>
  bd (L2.atI pools_here.2.1 (v2 % 4)) fun v5 =>
  lt ((v5 + ((v2 / 4) % 3)) - 1) fun day =>
  bd (L2.atI pools_here.2.2 ((v2 / 12) % 4)) fun v6 =>
  lt ((v6 + ((v2 / 48) % 3)) - 1) fun cents =>
  bd (cond ((((v2 / 144) % 4) == 0)) (lt ((v2 / 576) % (1000000 + 1)) fun day_1 =>
    lt ((v2 * 739) % 1000000000000) fun cents_1 =>
    some (day_1, cents_1)) (some (day, cents)) : Option (Int × Int)) fun p7 =>
  bd (L2.atI names ((v2 / 577) % 6)) fun v8 =>
  bd (L2.atI names ((v2 / 3463) % 6)) fun v9 =>
  gd (v8.length + ("." : Str).length ≤ sizeLine) <|
  gd ((v8 ++ ("." : Str)).length + v9.length ≤ sizeLine) <|
  bd (L2.atI [v9, ((v8 ++ ("." : Str)) ++ v9), ("a.b.c.d" : Str)] ((v2 / 20771) % 3)) fun v12 =>
  lt (max (0 : Int) (min (1000000 : Int) p7.1)) fun day_2 =>
  some ((v2 % (1000000000 + 1)), day_2, v12, v8, v9, (max (1 : Int) (min (1000000000000 - 1) p7.2)))
def sp__law_loss (K : PySem.W.Frag) : Sp := SpF K (fun x : (List Int) × Int × ((List Str) × (List Int) × (List Int)) => [.vw (x.1.map D.int), .fz (.int x.2.1), .fz (e_T_L_s_L_i_L_i x.2.2)]) (fun x => M__law_loss x.1 x.2.1 x.2.2) (fun r => .fz (e_T_i_i_s_s_s_i r))
abbrev N__law_loss : List Str := ["_law_script", "_law_k", "_law_pools_here", "_law_number", "_law_names", "_law_day", "_law_cents", "_law_thing", "_law_cause", "_law_event"]
theorem sc__law_loss : FnScope N__law_loss ["_law_script", "_law_k", "_law_pools_here"] (defScope s__law_loss) := ⟨rfl, rfl, rfl, by decide +kernel, rfl, by decide +kernel, by decide +kernel⟩
theorem ok__law_loss {f : Addr} {fd : FuncData} (F : Fun K "_law_loss" "_law_loss" s__law_loss f fd) (z_max : mg "max" = none) (z_min : mg "min" = none) (c__law_cell : Fn1 P w K mg base "_law_cell" 1 ["_law_script", "_law_k"] (sp__law_cell K)) (c__law_mix : Fn1 P w K mg base "_law_mix" 1 ["_law_number", "_law_k"] (sp__law_mix K)) (c__law_name : Fn1 P w K mg base "_law_name" 1 ["_law_number"] (sp__law_name K)) : FnOk P w K mg base CX0 2 f fd ["_law_script", "_law_k", "_law_pools_here"] (sp__law_loss K) := by
  refine fn_m F sc__law_loss (fun x => rfl) (fun x _ => rfl) fun cdv A outer s H E hr x hx => ?_
  obtain ⟨⟨script, k_0, pools_here⟩, r⟩ := x
  replace hx : M__law_loss script k_0 pools_here = some r := hx
  have nd := sc__law_loss.nd
  unfold M__law_loss at hx
  show MS _ [some (.vw (script.map D.int)), some (.fz (.int k_0)), some (.fz (e_T_L_s_L_i_L_i pools_here)), none, none, none, none, none, none, none] _ _
  replace hx := bd_some hx
  obtain ⟨v1, hv1, hx⟩ := hx
  replace hx := bd_some hx
  obtain ⟨v2, hv2, hx⟩ := hx
  refine ms_cons (m_set (ps_set (i := 3) nd rfl (Or.inl rfl) pe_w) (me_fn c__law_mix ((v1, (k_0 + 100)), v2) (ma_fz (me_fn c__law_cell ((script, k_0), v1) (ma_vw (ml_var (pv 0) rfl) (ma_fz (me_var (pv 1) rfl) ma_nil)) hv1 (hr.mono (by decide))) (ma_fz (me_add (me_var (pv 1) rfl) me_int) ma_nil)) hv2 (hr.mono (by decide))) ?_)
  show MS _ [some (.vw (script.map D.int)), some (.fz (.int k_0)), some (.fz (e_T_L_s_L_i_L_i pools_here)), some (.fz (.int v2)), none, none, none, none, none, none] _ _
  replace hx := bd_some hx
  obtain ⟨v3, hv3, hx⟩ := hx
  replace hx := gd_some hx
  obtain ⟨g4, hx⟩ := hx
  replace hx := lt_some hx
  obtain ⟨names, enames, hx⟩ := hx
  refine ms_cons (m_set (ps_set (i := 4) nd rfl (Or.inl rfl) pe_w) (ME.is (o' := (.lst ((names.map D.str).map .fz))) (me_catMM (xs := pools_here.1) (ys := [v3]) (enc := D.str) g4 (MV.l (ME.v (me_ixT (MV.u (ME.v (me_var (pv 2) rfl)) (.fz _)) me_int rfl)) (.fz _)) (ME.l (me_lst (ds := [v3].map D.str) (mf_cons (me_fn c__law_name (v2, v3) (ma_fz (me_var (pv 3) rfl) ma_nil) hv3 (hr.mono (by decide))) mf_nil)))) (by rw [enames] <;> rfl)) ?_)
  show MS _ [some (.vw (script.map D.int)), some (.fz (.int k_0)), some (.fz (e_T_L_s_L_i_L_i pools_here)), some (.fz (.int v2)), some (.lst ((names.map D.str).map .fz)), none, none, none, none, none] _ _
  replace hx := bd_some hx
  obtain ⟨v5, hv5, hx⟩ := hx
  replace hx := lt_some hx
  obtain ⟨day, eday, hx⟩ := hx
  refine ms_cons (m_set (ps_set (i := 5) nd rfl (Or.inl rfl) pe_w) (ME.is (o' := (.fz (.int day))) (me_sub (me_add (me_ixLT (xs := pools_here.2.1) (enc := D.int) hv5 (MV.l (ME.v (me_ixT (MV.u (ME.v (me_var (pv 2) rfl)) (.fz _)) me_int rfl)) (.fz _)) (me_mod (me_var (pv 3) rfl) me_int (by decide))) (me_mod (me_fdiv (me_var (pv 3) rfl) me_int ⟨by decide, by decide⟩) me_int (by decide))) me_int) (by rw [eday] <;> rfl)) ?_)
  show MS _ [some (.vw (script.map D.int)), some (.fz (.int k_0)), some (.fz (e_T_L_s_L_i_L_i pools_here)), some (.fz (.int v2)), some (.lst ((names.map D.str).map .fz)), some (.fz (.int day)), none, none, none, none] _ _
  replace hx := bd_some hx
  obtain ⟨v6, hv6, hx⟩ := hx
  replace hx := lt_some hx
  obtain ⟨cents, ecents, hx⟩ := hx
  refine ms_cons (m_set (ps_set (i := 6) nd rfl (Or.inl rfl) pe_w) (ME.is (o' := (.fz (.int cents))) (me_sub (me_add (me_ixLT (xs := pools_here.2.2) (enc := D.int) hv6 (MV.l (ME.v (me_ixT (MV.u (ME.v (me_var (pv 2) rfl)) (.fz _)) me_int rfl)) (.fz _)) (me_mod (me_fdiv (me_var (pv 3) rfl) me_int ⟨by decide, by decide⟩) me_int (by decide))) (me_mod (me_fdiv (me_var (pv 3) rfl) me_int ⟨by decide, by decide⟩) me_int (by decide))) me_int) (by rw [ecents] <;> rfl)) ?_)
  show MS _ [some (.vw (script.map D.int)), some (.fz (.int k_0)), some (.fz (e_T_L_s_L_i_L_i pools_here)), some (.fz (.int v2)), some (.lst ((names.map D.str).map .fz)), some (.fz (.int day)), some (.fz (.int cents)), none, none, none] _ _
  replace hx := bd_some hx
  obtain ⟨p7, hp7, hx⟩ := hx
  refine ms_cons (m_ifP (out := p7) (fun p7 => [some (.vw (script.map D.int)), some (.fz (.int k_0)), some (.fz (e_T_L_s_L_i_L_i pools_here)), some (.fz (.int v2)), some (.lst ((names.map D.str).map .fz)), some (.fz (.int p7.1)), some (.fz (.int p7.2)), none, none, none]) (t := ((((v2 / 144) % 4) == 0))) (mt_eqI (me_mod (me_fdiv (me_var (pv 3) rfl) me_int ⟨by decide, by decide⟩) me_int (by decide)) me_int) (fun h => ?_) (fun h => ?_) fun τ le => ?_)
  · replace hx := cond_t hp7 h
    replace hx := lt_some hx
    obtain ⟨day_1, eday_1, hx⟩ := hx
    refine ms_cons (m_set (ps_set (i := 5) nd rfl (Or.inl rfl) pe_w) (ME.is (o' := (.fz (.int day_1))) (me_mod (me_fdiv (me_var (pv 3) rfl) me_int ⟨by decide, by decide⟩) (me_add (ME.is (o' := .fz (.int 1000000)) (me_pow me_int me_int ⟨by decide, by decide, by decide⟩) rfl) me_int) (by decide)) (by rw [eday_1] <;> rfl)) ?_)
    show MS _ [some (.vw (script.map D.int)), some (.fz (.int k_0)), some (.fz (e_T_L_s_L_i_L_i pools_here)), some (.fz (.int v2)), some (.lst ((names.map D.str).map .fz)), some (.fz (.int day_1)), some (.fz (.int cents)), none, none, none] _ _
    replace hx := lt_some hx
    obtain ⟨cents_1, ecents_1, hx⟩ := hx
    refine ms_one (m_set (ps_set (i := 6) nd rfl (Or.inl rfl) pe_w) (ME.is (o' := (.fz (.int cents_1))) (me_mod (me_mul (me_var (pv 3) rfl) me_int (.inr ⟨by decide, by decide⟩)) (ME.is (o' := .fz (.int 1000000000000)) (me_pow me_int me_int ⟨by decide, by decide, by decide⟩) rfl) (by decide)) (by rw [ecents_1] <;> rfl)) ?_)
    cases hx; exact le_auto
  · replace hx := cond_f hp7 h
    refine ms_nil ?_
    cases hx; exact le_auto
  refine ms_le le ?_
  show MS _ [some (.vw (script.map D.int)), some (.fz (.int k_0)), some (.fz (e_T_L_s_L_i_L_i pools_here)), some (.fz (.int v2)), some (.lst ((names.map D.str).map .fz)), some (.fz (.int p7.1)), some (.fz (.int p7.2)), none, none, none] _ _
  replace hx := bd_some hx
  obtain ⟨v8, hv8, hx⟩ := hx
  refine ms_cons (m_set (ps_set (i := 7) nd rfl (Or.inl rfl) pe_w) (me_ixLT (xs := names) (enc := D.str) hv8 (ml_var (pv 4) rfl) (me_mod (me_fdiv (me_var (pv 3) rfl) me_int ⟨by decide, by decide⟩) me_int (by decide))) ?_)
  show MS _ [some (.vw (script.map D.int)), some (.fz (.int k_0)), some (.fz (e_T_L_s_L_i_L_i pools_here)), some (.fz (.int v2)), some (.lst ((names.map D.str).map .fz)), some (.fz (.int p7.1)), some (.fz (.int p7.2)), some (.fz (.str v8)), none, none] _ _
  replace hx := bd_some hx
  obtain ⟨v9, hv9, hx⟩ := hx
  refine ms_cons (m_set (ps_set (i := 8) nd rfl (Or.inl rfl) pe_w) (me_ixLT (xs := names) (enc := D.str) hv9 (ml_var (pv 4) rfl) (me_mod (me_fdiv (me_var (pv 3) rfl) me_int ⟨by decide, by decide⟩) me_int (by decide))) ?_)
  show MS _ [some (.vw (script.map D.int)), some (.fz (.int k_0)), some (.fz (e_T_L_s_L_i_L_i pools_here)), some (.fz (.int v2)), some (.lst ((names.map D.str).map .fz)), some (.fz (.int p7.1)), some (.fz (.int p7.2)), some (.fz (.str v8)), some (.fz (.str v9)), none] _ _
  replace hx := gd_some hx
  obtain ⟨g10, hx⟩ := hx
  replace hx := gd_some hx
  obtain ⟨g11, hx⟩ := hx
  replace hx := bd_some hx
  obtain ⟨v12, hv12, hx⟩ := hx
  refine ms_cons (m_set (ps_set (i := 9) nd rfl (Or.inl rfl) pe_w) (me_ixLT (xs := [v9, ((v8 ++ ("." : Str)) ++ v9), ("a.b.c.d" : Str)]) (enc := D.str) hv12 (ME.l (me_lst (ds := [v9, ((v8 ++ ("." : Str)) ++ v9), ("a.b.c.d" : Str)].map D.str) (mf_cons (me_var (pv 8) rfl) (mf_cons (me_cat (me_cat (me_var (pv 7) rfl) me_str g10) (me_var (pv 8) rfl) g11) (mf_cons me_str mf_nil))))) (me_mod (me_fdiv (me_var (pv 3) rfl) me_int ⟨by decide, by decide⟩) me_int (by decide))) ?_)
  show MS _ [some (.vw (script.map D.int)), some (.fz (.int k_0)), some (.fz (e_T_L_s_L_i_L_i pools_here)), some (.fz (.int v2)), some (.lst ((names.map D.str).map .fz)), some (.fz (.int p7.1)), some (.fz (.int p7.2)), some (.fz (.str v8)), some (.fz (.str v9)), some (.fz (.str v12))] _ _
  replace hx := lt_some hx
  obtain ⟨day_2, eday_2, hx⟩ := hx
  refine ms_cons (m_set (ps_set (i := 5) nd rfl (Or.inl rfl) pe_w) (ME.is (o' := (.fz (.int day_2))) (me_max rfl (by rfl) z_max me_int (me_min rfl (by rfl) z_min (ME.is (o' := .fz (.int 1000000)) (me_pow me_int me_int ⟨by decide, by decide, by decide⟩) rfl) (me_var (pv 5) rfl))) (by rw [eday_2] <;> rfl)) ?_)
  show MS _ [some (.vw (script.map D.int)), some (.fz (.int k_0)), some (.fz (e_T_L_s_L_i_L_i pools_here)), some (.fz (.int v2)), some (.lst ((names.map D.str).map .fz)), some (.fz (.int day_2)), some (.fz (.int p7.2)), some (.fz (.str v8)), some (.fz (.str v9)), some (.fz (.str v12))] _ _
  refine ms_one (m_ret (ps_ret pe_w) (ME.r (me_tup (mf_cons (me_mod (me_var (pv 3) rfl) (me_add (ME.is (o' := .fz (.int 1000000000)) (me_pow me_int me_int ⟨by decide, by decide, by decide⟩) rfl) me_int) (by decide)) (mf_cons (me_var (pv 5) rfl) (mf_cons (me_var (pv 9) rfl) (mf_cons (me_var (pv 7) rfl) (mf_cons (me_var (pv 8) rfl) (mf_cons (me_max rfl (by rfl) z_max me_int (me_min rfl (by rfl) z_min (me_sub (ME.is (o' := .fz (.int 1000000000000)) (me_pow me_int me_int ⟨by decide, by decide, by decide⟩) rfl) me_int) (me_var (pv 6) rfl))) mf_nil)))))))) ?_)
  cases hx; rfl

abbrev e_T_i_i (p : (Int × Int)) : D := .tup [.int p.1, .int p.2]
/-! _law_bracketed -/
abbrev e_T_d_i_i (p : (D × Int × Int)) : D := .tup [p.1, .int p.2.1, .int p.2.2]
noncomputable def M__law_bracketed (node : (D × Int × Int)) (least : Int) : Option (Int × Int) :=
  bd (ixD node.1 (0 : Int)) fun v1 =>
  bd (asS v1) fun v2 =>
  cond (decide ((dgI [(("all" : Str), (2 : Int)), (("some" : Str), (1 : Int))] v2 (3 : Int)) < least)) (some ((node.2.1 + 2), (node.2.2 + 1))) <|
  some (node.2.1, node.2.2)
def sp__law_bracketed (K : PySem.W.Frag) : Sp := SpF K (fun x : (D × Int × Int) × Int => [.fz (e_T_d_i_i x.1), .fz (.int x.2)]) (fun x => M__law_bracketed x.1 x.2) (fun r => .fz (e_T_i_i r))
abbrev N__law_bracketed : List Str := ["_law_node", "_law_least"]
theorem sc__law_bracketed : FnScope N__law_bracketed ["_law_node", "_law_least"] (defScope s__law_bracketed) := ⟨rfl, rfl, rfl, by decide +kernel, rfl, by decide +kernel, by decide +kernel⟩
theorem ok__law_bracketed {f : Addr} {fd : FuncData} (F : Fun K "_law_bracketed" "_law_bracketed" s__law_bracketed f fd)  : FnOk P w K mg base CX0 1 f fd ["_law_node", "_law_least"] (sp__law_bracketed K) := by
  refine fn_m F sc__law_bracketed (fun x => rfl) (fun x _ => rfl) fun cdv A outer s H E hr x hx => ?_
  obtain ⟨⟨node, least⟩, r⟩ := x
  replace hx : M__law_bracketed node least = some r := hx
  have nd := sc__law_bracketed.nd
  unfold M__law_bracketed at hx
  show MS _ [some (.fz (e_T_d_i_i node)), some (.fz (.int least))] _ _
  replace hx := bd_some hx
  obtain ⟨v1, hv1, hx⟩ := hx
  replace hx := bd_some hx
  obtain ⟨v2, hv2, hx⟩ := hx
  refine ms_cons (m_if (t := (decide ((dgI [(("all" : Str), (2 : Int)), (("some" : Str), (1 : Int))] v2 (3 : Int)) < least))) (mt_lt (me_dget (kvs := [(("all" : Str), (2 : Int)), (("some" : Str), (1 : Int))]) hr.units (mps_cons (mps_cons mps_nil)) (ME.is (o' := .fz (.str v2)) (me_ixD hv1 (me_ixT (MV.u (ME.v (me_var (pv 0) rfl)) (.fz _)) me_int rfl) me_int) (asS_is hv2)) me_int) (me_var (pv 1) rfl)) (fun h => ?_) fun h => ms_nil ?_)
  · replace hx := cond_t hx h
    refine ms_one (m_ret (ps_ret pe_w) (ME.r (me_tup (mf_cons (me_add (me_ixT (MV.u (ME.v (me_var (pv 0) rfl)) (.fz _)) me_int rfl) me_int) (mf_cons (me_add (me_ixT (MV.u (ME.v (me_var (pv 0) rfl)) (.fz _)) me_int rfl) me_int) mf_nil)))) ?_)
    cases hx; rfl
  replace hx := cond_f hx h
  refine ms_one (m_ret (ps_ret pe_w) (ME.r (me_tup (mf_cons (me_ixT (MV.u (ME.v (me_var (pv 0) rfl)) (.fz _)) me_int rfl) (mf_cons (me_ixT (MV.u (ME.v (me_var (pv 0) rfl)) (.fz _)) me_int rfl) mf_nil)))) ?_)
  cases hx; rfl

/-! _law_join -/
abbrev e_T_s_L_d (p : (Str × (List D))) : D := .tup [.str p.1, .lst (p.2.map e_d)]
noncomputable def M__law_join (row : (List (D × Int × Int))) (kind : Str) : Option (D × Int × Int) :=
  lt ((row.length : Int) - 1) fun size =>
  bd (lp (fun (x2 : (D × Int × Int)) (p1 : Int × Int) => (bd (L2.atI [2, 3] (if ((kind == ("all" : Str))) then 1 else 0)) fun v4 =>
    bd (M__law_bracketed x2 v4) fun v5 =>
    lt (p1.1 + v5.1) fun size_1 =>
    lt (max p1.2 v5.2) fun deep =>
    some (size_1, deep) : Option (Int × Int))) row (size, 0)) fun p3 =>
  gd (row.length < sizeLine) <|
  bd (mpO (fun x7 : (D × Int × Int) => some x7.1) row) fun v8 =>
  some ((e_T_s_L_d (kind, v8)), p3.1, p3.2)
def sp__law_join (K : PySem.W.Frag) : Sp := SpF K (fun x : (List (D × Int × Int)) × Str => [.fz (.lst (x.1.map e_T_d_i_i)), .fz (.str x.2)]) (fun x => M__law_join x.1 x.2) (fun r => .fz (e_T_d_i_i r))
abbrev N__law_join : List Str := ["_law_row", "_law_kind", "_law_size", "_law_deep", "_law_node", "_law_more"]
theorem sc__law_join : FnScope N__law_join ["_law_row", "_law_kind"] (defScope s__law_join) := ⟨rfl, rfl, rfl, by decide +kernel, rfl, by decide +kernel, by decide +kernel⟩
theorem ok__law_join {f : Addr} {fd : FuncData} (F : Fun K "_law_join" "_law_join" s__law_join f fd) (z_len : mg "len" = none) (z_int : mg "int" = none) (z_max : mg "max" = none) (c__law_bracketed : Fn1 P w K mg base "_law_bracketed" 1 ["_law_node", "_law_least"] (sp__law_bracketed K)) : FnOk P w K mg base CX0 2 f fd ["_law_row", "_law_kind"] (sp__law_join K) := by
  refine fn_m F sc__law_join (fun x => rfl) (fun x _ => rfl) fun cdv A outer s H E hr x hx => ?_
  obtain ⟨⟨row, kind⟩, r⟩ := x
  replace hx : M__law_join row kind = some r := hx
  have nd := sc__law_join.nd
  unfold M__law_join at hx
  show MS _ [some (.fz (.lst (row.map e_T_d_i_i))), some (.fz (.str kind)), none, none, none, none] _ _
  replace hx := lt_some hx
  obtain ⟨size, esize, hx⟩ := hx
  refine ms_cons (m_set (ps_set (i := 2) nd rfl (Or.inl rfl) pe_w) (ME.is (o' := (.fz (.int size))) (me_sub (me_lenLT (xs := row) (enc := e_T_d_i_i) (by rfl) z_len (ml_var (pv 0) rfl)) me_int) (by rw [esize] <;> rfl)) ?_)
  show MS _ [some (.fz (.lst (row.map e_T_d_i_i))), some (.fz (.str kind)), some (.fz (.int size)), none, none, none] _ _
  refine ms_cons (m_set (ps_set (i := 3) nd rfl (Or.inl rfl) pe_w) me_int ?_)
  show MS _ [some (.fz (.lst (row.map e_T_d_i_i))), some (.fz (.str kind)), some (.fz (.int size)), some (.fz (.int (0 : Int))), none, none] _ _
  replace hx := bd_some hx
  obtain ⟨p3, hp3, hx⟩ := hx
  refine ms_cons (m_forP (xs := row) (enc := e_T_d_i_i) (ps_for PassesOwn.never rfl (pi_list pe_w) (pg_name (i := 4) nd rfl (Or.inl rfl)) pss_w) (by exact (mi_list (ds := row.map e_T_d_i_i) (mk_var (pv 0) rfl))) hp3 (fun p1 => [some (.fz (.lst (row.map e_T_d_i_i))), some (.fz (.str kind)), some (.fz (.int p1.1)), some (.fz (.int p1.2)), none, none]) le_auto (fun x2 p1 p1o mx hx => ?_) fun τ le => ?_)
  ·
    refine ⟨_, _, mg_name, ?_⟩
    show MS _ [some (.fz (.lst (row.map e_T_d_i_i))), some (.fz (.str kind)), some (.fz (.int p1.1)), some (.fz (.int p1.2)), some (.fz (e_T_d_i_i x2)), none] _ _
    replace hx := bd_some hx
    obtain ⟨v4, hv4, hx⟩ := hx
    replace hx := bd_some hx
    obtain ⟨v5, hv5, hx⟩ := hx
    refine ms_cons (m_set (ps_set (i := 5) nd rfl (Or.inl rfl) pe_w) (me_fn c__law_bracketed ((x2, v4), v5) (ma_fz (me_var (pv 4) rfl) (ma_fz (me_ixLT (xs := [2, 3]) (enc := D.int) hv4 (ME.l (me_lst (ds := [2, 3].map D.int) (mf_cons me_int (mf_cons me_int mf_nil)))) (me_intB (by rfl) z_int (me_eqS (me_var (pv 1) rfl) me_str))) ma_nil)) hv5 (hr.mono (by decide))) ?_)
    show MS _ [some (.fz (.lst (row.map e_T_d_i_i))), some (.fz (.str kind)), some (.fz (.int p1.1)), some (.fz (.int p1.2)), some (.fz (e_T_d_i_i x2)), some (.fz (e_T_i_i v5))] _ _
    replace hx := lt_some hx
    obtain ⟨size_1, esize_1, hx⟩ := hx
    refine ms_cons (m_set (ps_set (i := 2) nd rfl (Or.inl rfl) pe_w) (ME.is (o' := (.fz (.int size_1))) (me_add (me_var (pv 2) rfl) (me_ixT (MV.u (ME.v (me_var (pv 5) rfl)) (.fz _)) me_int rfl)) (by rw [esize_1] <;> rfl)) ?_)
    show MS _ [some (.fz (.lst (row.map e_T_d_i_i))), some (.fz (.str kind)), some (.fz (.int size_1)), some (.fz (.int p1.2)), some (.fz (e_T_d_i_i x2)), some (.fz (e_T_i_i v5))] _ _
    replace hx := lt_some hx
    obtain ⟨deep, edeep, hx⟩ := hx
    refine ms_one (m_set (ps_set (i := 3) nd rfl (Or.inl rfl) pe_w) (ME.is (o' := (.fz (.int deep))) (me_max rfl (by rfl) z_max (me_var (pv 3) rfl) (me_ixT (MV.u (ME.v (me_var (pv 5) rfl)) (.fz _)) me_int rfl)) (by rw [edeep] <;> rfl)) ?_)
    cases hx; exact le_auto
  refine ms_le le ?_
  show MS _ [some (.fz (.lst (row.map e_T_d_i_i))), some (.fz (.str kind)), some (.fz (.int p3.1)), some (.fz (.int p3.2)), none, none] _ _
  replace hx := gd_some hx
  obtain ⟨g6, hx⟩ := hx
  replace hx := bd_some hx
  obtain ⟨v8, hv8, hx⟩ := hx
  refine ms_one (m_ret (ps_ret pe_w) (ME.r (me_tup (mf_cons (me_tup (mf_cons (me_var (pv 1) rfl) (mf_cons (ME.frzl (by exact (me_lcO (g := (gName 4)) (xs := row) (ys := v8) (enc := e_T_d_i_i) (enc2 := e_d) hv8 (fun te he => pe_lc (own := [("_law_node", 4)]) rfl nd (pi_list pe_w) (blkOk_by (N := N__law_join) (sc := defScope s__law_join) (by decide +kernel)) (fun _ _ _ _ _ => (pg_name (i := 4) nd rfl (Or.inl rfl))) (fun _ _ _ _ _ => pts_nil) he) (mic_list (ml_var (pv 0) rfl)) g6 (fun x7 mx x7y hx => by injection hx with hx; subst x7y; exact ⟨_, _, mg_name, by decide, fun s H C cl fp => (me_ixT (MV.u (ME.v (me_var (pv 4) rfl)) (.fz _)) me_int rfl)⟩)))) mf_nil))) (mf_cons (me_var (pv 2) rfl) (mf_cons (me_var (pv 3) rfl) mf_nil))))) ?_)
  cases hx; rfl

/-! _law_step -/
abbrev e_N_T_d_i_i (p : (Option (D × Int × Int))) : D := match p with
  | some v => e_T_d_i_i v
  | none => .non
noncomputable def M__law_step (row : (List (D × Int × Int))) (number : Int) (pools_here : ((List Str) × (List Int) × (List Int))) : Option (List (D × Int × Int)) :=
  lt (number % 8) fun way =>
  lt (min (row.length : Int) (2 + ((number / 8) % 7))) fun size =>
  bd (cond ((way == 4)) (gd (D.ok (.lst (row.map e_T_d_i_i)) ∧ D.ok (.lst (([] : List (D × Int × Int)).map e_T_d_i_i))) <| some (!(D.eqv (.lst (row.map e_T_d_i_i)) (.lst (([] : List (D × Int × Int)).map e_T_d_i_i))))) (some false)) fun v2 =>
  bd (cond v2 (bd (L2.atI row (-(1 : Int))) fun v5 =>
    bd (M__law_bracketed v5 (3 : Int)) fun v6 =>
    bd (L2.atI row (-(1 : Int))) fun v7 =>
    lt (some ((e_T_s_d (("not" : Str), v7.1)), (v6.1 + 1), (v6.2 + 1))) fun made_here =>
    some (1, made_here)) (some (size, none)) : Option (Int × (Option (D × Int × Int)))) fun p4 =>
  bd (cond ((decide (4 < way)) && (decide (1 < p4.1))) (bd (L2.atI [("all" : Str), ("some" : Str)] ((number / 64) % 2)) fun v9 =>
    bd (M__law_join (cutG row (some (-p4.1)) none) v9) fun v10 =>
    lt (some v10) fun made_here_1 =>
    some made_here_1) (some p4.2) : Option ((Option (D × Int × Int)))) fun p8 =>
  bd (cond (p8.isNone) (some true) (bd p8 fun v11 => bd (cond (decide (60 < v11.2.1)) (some true) (bd p8 fun v12 => some (decide (6 < v12.2.2)))) fun v13 => some v13)) fun v15 =>
  cond v15 (bd (M__law_leaf (number / 8) pools_here) fun v17 =>
    bd (ixD v17 (0 : Int)) fun v18 =>
    bd (asS v18) fun v19 =>
    gd (row.length + [(v17, (dgI [(("always" : Str), (1 : Int)), (("days" : Str), (3 : Int))] v19 (2 : Int)), 0)].length ≤ sizeLine) <|
    some (row ++ [(v17, (dgI [(("always" : Str), (1 : Int)), (("days" : Str), (3 : Int))] v19 (2 : Int)), 0)])) <|
  bd p8 fun v21 =>
  gd ((cutG row none (some ((row.length : Int) - p4.1))).length + [v21].length ≤ sizeLine) <|
  some ((cutG row none (some ((row.length : Int) - p4.1))) ++ [v21])
def sp__law_step (K : PySem.W.Frag) : Sp := SpF K (fun x : (List (D × Int × Int)) × Int × ((List Str) × (List Int) × (List Int)) => [.fz (.lst (x.1.map e_T_d_i_i)), .fz (.int x.2.1), .fz (e_T_L_s_L_i_L_i x.2.2)]) (fun x => M__law_step x.1 x.2.1 x.2.2) (fun r => .lst ((r.map e_T_d_i_i).map .fz))
abbrev N__law_step : List Str := ["_law_row", "_law_number", "_law_pools_here", "_law_way", "_law_size", "_law_made_here", "_law_more", "_law_leaf_here"]
theorem sc__law_step : FnScope N__law_step ["_law_row", "_law_number", "_law_pools_here"] (defScope s__law_step) := ⟨rfl, rfl, rfl, by decide +kernel, rfl, by decide +kernel, by decide +kernel⟩
theorem ok__law_step {f : Addr} {fd : FuncData} (F : Fun K "_law_step" "_law_step" s__law_step f fd) (z_min : mg "min" = none) (z_len : mg "len" = none) (c__law_bracketed : Fn1 P w K mg base "_law_bracketed" 1 ["_law_node", "_law_least"] (sp__law_bracketed K)) (c__law_join : Fn1 P w K mg base "_law_join" 2 ["_law_row", "_law_kind"] (sp__law_join K)) (c__law_leaf : Fn1 P w K mg base "_law_leaf" 1 ["_law_number", "_law_pools_here"] (sp__law_leaf K)) : FnOk P w K mg base CX0 3 f fd ["_law_row", "_law_number", "_law_pools_here"] (sp__law_step K) := by
  refine fn_m F sc__law_step (fun x => rfl) (fun x _ => O.nvL_fz _) fun cdv A outer s H E hr x hx => ?_
  obtain ⟨⟨row, number, pools_here⟩, r⟩ := x
  replace hx : M__law_step row number pools_here = some r := hx
  have nd := sc__law_step.nd
  unfold M__law_step at hx
  show MS _ [some (.fz (.lst (row.map e_T_d_i_i))), some (.fz (.int number)), some (.fz (e_T_L_s_L_i_L_i pools_here)), none, none, none, none, none] _ _
  replace hx := lt_some hx
  obtain ⟨way, eway, hx⟩ := hx
  refine ms_cons (m_set (ps_set (i := 3) nd rfl (Or.inl rfl) pe_w) (ME.is (o' := (.fz (.int way))) (me_mod (me_var (pv 1) rfl) me_int (by decide)) (by rw [eway] <;> rfl)) ?_)
  show MS _ [some (.fz (.lst (row.map e_T_d_i_i))), some (.fz (.int number)), some (.fz (e_T_L_s_L_i_L_i pools_here)), some (.fz (.int way)), none, none, none, none] _ _
  replace hx := lt_some hx
  obtain ⟨size, esize, hx⟩ := hx
  refine ms_cons (m_set (ps_set (i := 4) nd rfl (Or.inl rfl) pe_w) (ME.is (o' := (.fz (.int size))) (me_min rfl (by rfl) z_min (me_lenLT (xs := row) (enc := e_T_d_i_i) (by rfl) z_len (ml_var (pv 0) rfl)) (me_add me_int (me_mod (me_fdiv (me_var (pv 1) rfl) me_int ⟨by decide, by decide⟩) me_int (by decide)))) (by rw [esize] <;> rfl)) ?_)
  show MS _ [some (.fz (.lst (row.map e_T_d_i_i))), some (.fz (.int number)), some (.fz (e_T_L_s_L_i_L_i pools_here)), some (.fz (.int way)), some (.fz (.int size)), none, none, none] _ _
  refine ms_cons (m_set (ps_set (i := 5) nd rfl (Or.inl rfl) pe_w) me_non ?_)
  show MS _ [some (.fz (.lst (row.map e_T_d_i_i))), some (.fz (.int number)), some (.fz (e_T_L_s_L_i_L_i pools_here)), some (.fz (.int way)), some (.fz (.int size)), some (.fz (e_N_T_d_i_i none)), none, none] _ _
  replace hx := bd_some hx
  obtain ⟨v2, hv2, hx⟩ := hx
  replace hx := bd_some hx
  obtain ⟨p4, hp4, hx⟩ := hx
  refine ms_cons (m_ifP (out := p4) (fun p4 => [some (.fz (.lst (row.map e_T_d_i_i))), some (.fz (.int number)), some (.fz (e_T_L_s_L_i_L_i pools_here)), some (.fz (.int way)), some (.fz (.int p4.1)), some (.fz (e_N_T_d_i_i p4.2)), none, none]) (t := v2) (MW.t (MW.is (mw_and (mt_eqI (me_var (pv 3) rfl) me_int) fun q3 => (by have hx := cond_t hv2 q3; replace hx := gd_some hx; obtain ⟨g1, hx⟩ := hx; cases hx; exact (mw_and1 (mt_neDT (d1 := .lst (row.map e_T_d_i_i)) (d2 := .lst (([] : List (D × Int × Int)).map e_T_d_i_i)) hr.units g1 rfl frz_own (mv_var (pv 0) rfl) (ME.v (me_lst (ds := [].map e_T_d_i_i) mf_nil)))))) (and_c hv2))) (fun h => ?_) (fun h => ?_) fun τ le => ?_)
  · replace hx := cond_t hp4 h
    refine ms_cons (m_set (ps_set (i := 4) nd rfl (Or.inl rfl) pe_w) me_int ?_)
    show MS _ [some (.fz (.lst (row.map e_T_d_i_i))), some (.fz (.int number)), some (.fz (e_T_L_s_L_i_L_i pools_here)), some (.fz (.int way)), some (.fz (.int (1 : Int))), some (.fz (e_N_T_d_i_i none)), none, none] _ _
    replace hx := bd_some hx
    obtain ⟨v5, hv5, hx⟩ := hx
    replace hx := bd_some hx
    obtain ⟨v6, hv6, hx⟩ := hx
    refine ms_cons (m_set (ps_set (i := 6) nd rfl (Or.inl rfl) pe_w) (me_fn c__law_bracketed ((v5, 3), v6) (ma_fz (me_ixLT (xs := row) (enc := e_T_d_i_i) hv5 (ml_var (pv 0) rfl) (me_neg me_int)) (ma_fz me_int ma_nil)) hv6 (hr.mono (by decide))) ?_)
    show MS _ [some (.fz (.lst (row.map e_T_d_i_i))), some (.fz (.int number)), some (.fz (e_T_L_s_L_i_L_i pools_here)), some (.fz (.int way)), some (.fz (.int (1 : Int))), some (.fz (e_N_T_d_i_i none)), some (.fz (e_T_i_i v6)), none] _ _
    replace hx := bd_some hx
    obtain ⟨v7, hv7, hx⟩ := hx
    replace hx := lt_some hx
    obtain ⟨made_here, emade_here, hx⟩ := hx
    refine ms_one (m_set (ps_set (i := 5) nd rfl (Or.inl rfl) pe_w) (ME.is (o' := (.fz (e_N_T_d_i_i made_here))) (me_tup (mf_cons (me_tup (mf_cons me_str (mf_cons (me_ixT (MV.u (ME.v (me_ixLT (xs := row) (enc := e_T_d_i_i) hv7 (ml_var (pv 0) rfl) (me_neg me_int))) (.fz _)) me_int rfl) mf_nil))) (mf_cons (me_add (me_ixT (MV.u (ME.v (me_var (pv 6) rfl)) (.fz _)) me_int rfl) me_int) (mf_cons (me_add (me_ixT (MV.u (ME.v (me_var (pv 6) rfl)) (.fz _)) me_int rfl) me_int) mf_nil)))) (by rw [emade_here] <;> rfl)) ?_)
    cases hx; exact le_auto
  · replace hx := cond_f hp4 h
    refine ms_nil ?_
    cases hx; exact le_auto
  refine ms_le le ?_
  show MS _ [some (.fz (.lst (row.map e_T_d_i_i))), some (.fz (.int number)), some (.fz (e_T_L_s_L_i_L_i pools_here)), some (.fz (.int way)), some (.fz (.int p4.1)), some (.fz (e_N_T_d_i_i p4.2)), none, none] _ _
  replace hx := bd_some hx
  obtain ⟨p8, hp8, hx⟩ := hx
  refine ms_cons (m_ifP (out := p8) (fun p8 => [some (.fz (.lst (row.map e_T_d_i_i))), some (.fz (.int number)), some (.fz (e_T_L_s_L_i_L_i pools_here)), some (.fz (.int way)), some (.fz (.int p4.1)), some (.fz (e_N_T_d_i_i p8)), none, none]) (t := ((decide (4 < way)) && (decide (1 < p4.1)))) (MW.t (mw_and (mt_gt (me_var (pv 3) rfl) me_int) fun _ => (mw_and1 (mt_gt (me_var (pv 4) rfl) me_int)))) (fun h => ?_) (fun h => ?_) fun τ le => ?_)
  · replace hx := cond_t hp8 h
    replace hx := bd_some hx
    obtain ⟨v9, hv9, hx⟩ := hx
    replace hx := bd_some hx
    obtain ⟨v10, hv10, hx⟩ := hx
    replace hx := lt_some hx
    obtain ⟨made_here_1, emade_here_1, hx⟩ := hx
    refine ms_one (m_set (ps_set (i := 5) nd rfl (Or.inl rfl) pe_w) (ME.is (o' := (.fz (e_N_T_d_i_i made_here_1))) (me_fn c__law_join (((cutG row (some (-p4.1)) none), v9), v10) (ma_fz (ME.frzl (me_slLT (xs := row) (enc := e_T_d_i_i) (ml_var (pv 0) rfl) (.some (me_neg (me_var (pv 4) rfl))) .none)) (ma_fz (me_ixLT (xs := [("all" : Str), ("some" : Str)]) (enc := D.str) hv9 (ME.l (me_lst (ds := [("all" : Str), ("some" : Str)].map D.str) (mf_cons me_str (mf_cons me_str mf_nil)))) (me_mod (me_fdiv (me_var (pv 1) rfl) me_int ⟨by decide, by decide⟩) me_int (by decide))) ma_nil)) hv10 (hr.mono (by decide))) (by rw [emade_here_1] <;> rfl)) ?_)
    cases hx; exact le_auto
  · replace hx := cond_f hp8 h
    refine ms_nil ?_
    cases hx; exact le_auto
  refine ms_le le ?_
  show MS _ [some (.fz (.lst (row.map e_T_d_i_i))), some (.fz (.int number)), some (.fz (e_T_L_s_L_i_L_i pools_here)), some (.fz (.int way)), some (.fz (.int p4.1)), some (.fz (e_N_T_d_i_i p8)), none, none] _ _
  replace hx := bd_some hx
  obtain ⟨v15, hv15, hx⟩ := hx
  refine ms_cons (m_if (t := v15) (MW.t (MW.is (mw_or (MT.is (l := (p8.isNone)) (mt_isN (mv_var (pv 5) rfl)) (by cases p8 <;> rfl)) fun q16 => (by have hx := cond_f hv15 q16; replace hx := bd_some hx; obtain ⟨v11, hv11, hx⟩ := hx; replace hx := bd_some hx; obtain ⟨v13, hv13, hx⟩ := hx; first | (cases hx; exact (MW.is (mw_or (mt_gt (me_ixT (MV.u (ME.v (ME.is (o' := .fz (e_T_d_i_i v11)) (me_var (pv 5) rfl) (by rw [hv11]))) (.fz _)) me_int rfl) me_int) fun q14 => (by have hx := cond_f hv13 q14; replace hx := bd_some hx; obtain ⟨v12, hv12, hx⟩ := hx; cases hx; exact (mw_or1 (mt_gt (me_ixT (MV.u (ME.v (ME.is (o' := .fz (e_T_d_i_i v12)) (me_var (pv 5) rfl) (by rw [hv12]))) (.fz _)) me_int rfl) me_int)))) (or_c hv13))) | (injection hx with hx; subst hx; exact (MW.is (mw_or (mt_gt (me_ixT (MV.u (ME.v (ME.is (o' := .fz (e_T_d_i_i v11)) (me_var (pv 5) rfl) (by rw [hv11]))) (.fz _)) me_int rfl) me_int) fun q14 => (by have hx := cond_f hv13 q14; replace hx := bd_some hx; obtain ⟨v12, hv12, hx⟩ := hx; cases hx; exact (mw_or1 (mt_gt (me_ixT (MV.u (ME.v (ME.is (o' := .fz (e_T_d_i_i v12)) (me_var (pv 5) rfl) (by rw [hv12]))) (.fz _)) me_int rfl) me_int)))) (or_c hv13))))) (or_c hv15))) (fun h => ?_) fun h => ms_nil ?_)
  · replace hx := cond_t hx h
    replace hx := bd_some hx
    obtain ⟨v17, hv17, hx⟩ := hx
    refine ms_cons (m_set (ps_set (i := 7) nd rfl (Or.inl rfl) pe_w) (me_fn c__law_leaf (((number / 8), pools_here), v17) (ma_fz (me_fdiv (me_var (pv 1) rfl) me_int ⟨by decide, by decide⟩) (ma_fz (me_var (pv 2) rfl) ma_nil)) hv17 (hr.mono (by decide))) ?_)
    show MS _ [some (.fz (.lst (row.map e_T_d_i_i))), some (.fz (.int number)), some (.fz (e_T_L_s_L_i_L_i pools_here)), some (.fz (.int way)), some (.fz (.int p4.1)), some (.fz (e_N_T_d_i_i p8)), none, some (.fz v17)] _ _
    replace hx := bd_some hx
    obtain ⟨v18, hv18, hx⟩ := hx
    replace hx := bd_some hx
    obtain ⟨v19, hv19, hx⟩ := hx
    replace hx := gd_some hx
    obtain ⟨g20, hx⟩ := hx
    refine ms_one (m_ret (ps_ret pe_w) (ME.r (me_catMM (xs := row) (ys := [(v17, (dgI [(("always" : Str), (1 : Int)), (("days" : Str), (3 : Int))] v19 (2 : Int)), 0)]) (enc := e_T_d_i_i) g20 (ml_var (pv 0) rfl) (ME.l (me_lst (ds := [(v17, (dgI [(("always" : Str), (1 : Int)), (("days" : Str), (3 : Int))] v19 (2 : Int)), 0)].map e_T_d_i_i) (mf_cons (me_tup (mf_cons (me_var (pv 7) rfl) (mf_cons (me_dget (kvs := [(("always" : Str), (1 : Int)), (("days" : Str), (3 : Int))]) hr.units (mps_cons (mps_cons mps_nil)) (ME.is (o' := .fz (.str v19)) (me_ixD hv18 (me_var (pv 7) rfl) me_int) (asS_is hv19)) me_int) (mf_cons me_int mf_nil)))) mf_nil))))) ?_)
    cases hx; rfl
  replace hx := cond_f hx h
  replace hx := bd_some hx
  obtain ⟨v21, hv21, hx⟩ := hx
  replace hx := gd_some hx
  obtain ⟨g22, hx⟩ := hx
  refine ms_one (m_ret (ps_ret pe_w) (ME.r (me_catLT (xs := (cutG row none (some ((row.length : Int) - p4.1)))) (ys := [v21]) (enc := e_T_d_i_i) g22 (ME.v (me_slLT (xs := row) (enc := e_T_d_i_i) (ml_var (pv 0) rfl) .none (.some (me_sub (me_lenLT (xs := row) (enc := e_T_d_i_i) (by rfl) z_len (ml_var (pv 0) rfl)) (me_var (pv 4) rfl))))) (ME.v (me_lst (ds := [v21].map e_T_d_i_i) (mf_cons (ME.is (o' := .fz (e_T_d_i_i v21)) (me_var (pv 5) rfl) (by rw [hv21])) mf_nil))))) ?_)
  cases hx; rfl

/-! _law_tree -/
noncomputable def M__law_tree (script : (List Int)) (start : Int) (pools_here : ((List Str) × (List Int) × (List Int))) : Option D :=
  lt ([] : List (D × Int × Int)) fun row =>
  gd (-(2 ^ 62) ≤ start ∧ start < 2 ^ 62 ∧ -(2 ^ 62) ≤ (max (start + 9) (min (script.length : Int) (63 : Int))) ∧ (max (start + 9) (min (script.length : Int) (63 : Int))) < 2 ^ 62) <|
  bd (lp (fun (x3 : Nat) (p2 : (List (D × Int × Int))) => (bd (M__law_cell script (start + (x3 : Int))) fun v5 =>
    bd (M__law_mix v5 (start + (x3 : Int))) fun v6 =>
    bd (M__law_step p2 v6 pools_here) fun v7 =>
    some v7 : Option ((List (D × Int × Int))))) (List.range ((max (start + 9) (min (script.length : Int) (63 : Int))) - start).toNat) row) fun p4 =>
  bd (rgN (min (8 : Int) (p4.length : Int)) (1 : Int) (-(1 : Int))) fun n8 =>
  bd (lpO (fun (x10 : Nat) (p9 : Unit) => (bd (L2.atI [("some" : Str), ("all" : Str)] ((script.length : Int) % 2)) fun v12 =>
    bd (M__law_join (cutG p4 (some (-((min (8 : Int) (p4.length : Int)) + (x10 : Int) * (-(1 : Int))))) none) v12) fun v13 =>
    cond ((decide (v13.2.1 ≤ 60)) && (decide (v13.2.2 ≤ 6))) (some (.rt v13.1)) <|
    some (.nx ()) : Option (Ou (Unit) (Unit) D))) (List.range n8) ()) fun o11 => ouR o11 fun p9 =>
  bd (L2.atI p4 (-(1 : Int))) fun v14 =>
  some v14.1
def sp__law_tree (K : PySem.W.Frag) : Sp := SpF K (fun x : (List Int) × Int × ((List Str) × (List Int) × (List Int)) => [.vw (x.1.map D.int), .fz (.int x.2.1), .fz (e_T_L_s_L_i_L_i x.2.2)]) (fun x => M__law_tree x.1 x.2.1 x.2.2) (fun r => .fz r)
abbrev N__law_tree : List Str := ["_law_script", "_law_start", "_law_pools_here", "_law_row", "_law_k", "_law_size", "_law_made_here"]
theorem sc__law_tree : FnScope N__law_tree ["_law_script", "_law_start", "_law_pools_here"] (defScope s__law_tree) := ⟨rfl, rfl, rfl, by decide +kernel, rfl, by decide +kernel, by decide +kernel⟩
theorem ok__law_tree {f : Addr} {fd : FuncData} (F : Fun K "_law_tree" "_law_tree" s__law_tree f fd) (z_range : mg "range" = none) (z_max : mg "max" = none) (z_min : mg "min" = none) (z_len : mg "len" = none) (c__law_cell : Fn1 P w K mg base "_law_cell" 1 ["_law_script", "_law_k"] (sp__law_cell K)) (c__law_mix : Fn1 P w K mg base "_law_mix" 1 ["_law_number", "_law_k"] (sp__law_mix K)) (c__law_step : Fn1 P w K mg base "_law_step" 3 ["_law_row", "_law_number", "_law_pools_here"] (sp__law_step K)) (c__law_join : Fn1 P w K mg base "_law_join" 2 ["_law_row", "_law_kind"] (sp__law_join K)) : FnOk P w K mg base CX0 4 f fd ["_law_script", "_law_start", "_law_pools_here"] (sp__law_tree K) := by
  refine fn_m F sc__law_tree (fun x => rfl) (fun x _ => rfl) fun cdv A outer s H E hr x hx => ?_
  obtain ⟨⟨script, start, pools_here⟩, r⟩ := x
  replace hx : M__law_tree script start pools_here = some r := hx
  have nd := sc__law_tree.nd
  unfold M__law_tree at hx
  show MS _ [some (.vw (script.map D.int)), some (.fz (.int start)), some (.fz (e_T_L_s_L_i_L_i pools_here)), none, none, none, none] _ _
  replace hx := lt_some hx
  obtain ⟨row, erow, hx⟩ := hx
  refine ms_cons (m_set (ps_set (i := 3) nd rfl (Or.inl rfl) pe_w) (ME.is (o' := (.lst ((row.map e_T_d_i_i).map .fz))) (me_lst (ds := [].map e_T_d_i_i) mf_nil) (by rw [erow] <;> rfl)) ?_)
  show MS _ [some (.vw (script.map D.int)), some (.fz (.int start)), some (.fz (e_T_L_s_L_i_L_i pools_here)), some (.lst ((row.map e_T_d_i_i).map .fz)), none, none, none] _ _
  replace hx := gd_some hx
  obtain ⟨g1, hx⟩ := hx
  replace hx := bd_some hx
  obtain ⟨p4, hp4, hx⟩ := hx
  refine ms_cons (m_forP (xs := (List.range ((max (start + 9) (min (script.length : Int) (63 : Int))) - start).toNat)) (enc := (fun k : Nat => D.int (start + (k : Nat)))) (ps_for PassesOwn.never rfl (pi_range2 (by rfl) z_range pa_w) (pg_name (i := 4) nd rfl (Or.inl rfl)) pss_w) (by exact (mi_rangeT2 (mf_cons (me_var (pv 1) rfl) (mf_cons (me_max rfl (by rfl) z_max (me_add (me_var (pv 1) rfl) me_int) (me_min rfl (by rfl) z_min (me_lenLT (xs := script) (enc := D.int) (by rfl) z_len (ml_var (pv 0) rfl)) me_int)) mf_nil)) g1)) hp4 (fun p2 => [some (.vw (script.map D.int)), some (.fz (.int start)), some (.fz (e_T_L_s_L_i_L_i pools_here)), some (.lst ((p2.map e_T_d_i_i).map .fz)), none, none, none]) le_auto (fun x3 p2 p2o mx hx => ?_) fun τ le => ?_)
  ·
    refine ⟨_, _, mg_name, ?_⟩
    show MS _ [some (.vw (script.map D.int)), some (.fz (.int start)), some (.fz (e_T_L_s_L_i_L_i pools_here)), some (.lst ((p2.map e_T_d_i_i).map .fz)), some (.fz (.int (start + (x3 : Int)))), none, none] _ _
    refine ms_frzl (i := 3) rfl ?_
    show MS _ [some (.vw (script.map D.int)), some (.fz (.int start)), some (.fz (e_T_L_s_L_i_L_i pools_here)), some (.fz (.lst (p2.map e_T_d_i_i))), some (.fz (.int (start + (x3 : Int)))), none, none] _ _
    replace hx := bd_some hx
    obtain ⟨v5, hv5, hx⟩ := hx
    replace hx := bd_some hx
    obtain ⟨v6, hv6, hx⟩ := hx
    replace hx := bd_some hx
    obtain ⟨v7, hv7, hx⟩ := hx
    refine ms_one (m_set (ps_set (i := 3) nd rfl (Or.inl rfl) pe_w) (me_fn c__law_step ((p2, v6, pools_here), v7) (ma_fz (me_var (pv 3) rfl) (ma_fz (me_fn c__law_mix ((v5, (start + (x3 : Int))), v6) (ma_fz (me_fn c__law_cell ((script, (start + (x3 : Int))), v5) (ma_vw (ml_var (pv 0) rfl) (ma_fz (me_var (pv 4) rfl) ma_nil)) hv5 (hr.mono (by decide))) (ma_fz (me_var (pv 4) rfl) ma_nil)) hv6 (hr.mono (by decide))) (ma_fz (me_var (pv 2) rfl) ma_nil))) hv7 (hr.mono (by decide))) ?_)
    cases hx; exact le_auto
  refine ms_le le ?_
  show MS _ [some (.vw (script.map D.int)), some (.fz (.int start)), some (.fz (e_T_L_s_L_i_L_i pools_here)), some (.lst ((p4.map e_T_d_i_i).map .fz)), none, none, none] _ _
  replace hx := bd_some hx
  obtain ⟨n8, hn8, hx⟩ := hx
  replace hx := bd_some hx
  obtain ⟨o11, ho11, hx⟩ := hx
  refine ms_cons (m_forO (xs := (List.range n8)) (enc := (fun k : Nat => D.int ((min (8 : Int) (p4.length : Int)) + (k : Nat) * (-(1 : Int))))) (ps_for PassesOwn.never rfl (pi_range3 (by rfl) z_range pa_w) (pg_name (i := 5) nd rfl (Or.inl rfl)) pss_w) (by exact (mi_range3 (mf_cons (me_min rfl (by rfl) z_min me_int (me_lenLT (xs := p4) (enc := e_T_d_i_i) (by rfl) z_len (ml_var (pv 3) rfl))) (mf_cons me_int (mf_cons (me_neg me_int) mf_nil))) (rgN_ok hn8))) ho11 (fun p9 => [some (.vw (script.map D.int)), some (.fz (.int start)), some (.fz (e_T_L_s_L_i_L_i pools_here)), some (.lst ((p4.map e_T_d_i_i).map .fz)), none, none, none]) (fun r => .fz r) le_auto (fun x10 p9 p9o mx hx => ?_) (fun p9 τ e le => ?_) fun q e => ?_)
  ·
    refine ⟨_, _, mg_name, ?_⟩
    show MS _ [some (.vw (script.map D.int)), some (.fz (.int start)), some (.fz (e_T_L_s_L_i_L_i pools_here)), some (.lst ((p4.map e_T_d_i_i).map .fz)), none, some (.fz (.int ((min (8 : Int) (p4.length : Int)) + (x10 : Int) * (-(1 : Int))))), none] _ _
    replace hx := bd_some hx
    obtain ⟨v12, hv12, hx⟩ := hx
    replace hx := bd_some hx
    obtain ⟨v13, hv13, hx⟩ := hx
    refine ms_cons (m_set (ps_set (i := 6) nd rfl (Or.inl rfl) pe_w) (me_fn c__law_join (((cutG p4 (some (-((min (8 : Int) (p4.length : Int)) + (x10 : Int) * (-(1 : Int))))) none), v12), v13) (ma_fz (ME.frzl (me_slLT (xs := p4) (enc := e_T_d_i_i) (ml_var (pv 3) rfl) (.some (me_neg (me_var (pv 5) rfl))) .none)) (ma_fz (me_ixLT (xs := [("some" : Str), ("all" : Str)]) (enc := D.str) hv12 (ME.l (me_lst (ds := [("some" : Str), ("all" : Str)].map D.str) (mf_cons me_str (mf_cons me_str mf_nil)))) (me_mod (me_lenLT (xs := script) (enc := D.int) (by rfl) z_len (ml_var (pv 0) rfl)) me_int (by decide))) ma_nil)) hv13 (hr.mono (by decide))) ?_)
    show MS _ [some (.vw (script.map D.int)), some (.fz (.int start)), some (.fz (e_T_L_s_L_i_L_i pools_here)), some (.lst ((p4.map e_T_d_i_i).map .fz)), none, some (.fz (.int ((min (8 : Int) (p4.length : Int)) + (x10 : Int) * (-(1 : Int))))), some (.fz (e_T_d_i_i v13))] _ _
    refine ms_one (m_if (t := ((decide (v13.2.1 ≤ 60)) && (decide (v13.2.2 ≤ 6)))) (MW.t (mw_and (mt_le (me_ixT (MV.u (ME.v (me_var (pv 6) rfl)) (.fz _)) me_int rfl) me_int) fun _ => (mw_and1 (mt_le (me_ixT (MV.u (ME.v (me_var (pv 6) rfl)) (.fz _)) me_int rfl) me_int)))) (fun h => ?_) fun h => ms_nil ?_)
    · replace hx := cond_t hx h
      refine ms_one (m_ret (ps_ret pe_w) (ME.r (me_ixT (MV.u (ME.v (me_var (pv 6) rfl)) (.fz _)) me_int rfl)) ?_)
      cases hx; exact ⟨_, rfl, rfl⟩
    replace hx := cond_f hx h
    cases hx; exact ⟨_, rfl, le_auto⟩
  · subst e
    dsimp only [ouR] at hx
    refine ms_le le ?_
    show MS _ [some (.vw (script.map D.int)), some (.fz (.int start)), some (.fz (e_T_L_s_L_i_L_i pools_here)), some (.lst ((p4.map e_T_d_i_i).map .fz)), none, none, none] _ _
    replace hx := bd_some hx
    obtain ⟨v14, hv14, hx⟩ := hx
    refine ms_one (m_ret (ps_ret pe_w) (ME.r (me_ixT (MV.u (ME.v (me_ixLT (xs := p4) (enc := e_T_d_i_i) hv14 (ml_var (pv 3) rfl) (me_neg me_int))) (.fz _)) me_int rfl)) ?_)
    cases hx; rfl
  · subst e; cases hx; rfl

/-! group lmarks -/

abbrev TK_lmarks : Type := (D → Option (List (Str × D)))
noncomputable def M__law_marks (r : TK_lmarks) (tree_here : D) : Option (List (Str × D)) :=
  bd (ixD tree_here (0 : Int)) fun v1 =>
  gd (D.ok v1 ∧ D.ok (.str ("cause" : Str))) <|
  bd (cond ((D.eqv v1 (.str ("cause" : Str)))) (some true) (gd (D.ok v1 ∧ D.ok (.str ("thing" : Str))) <| some ((D.eqv v1 (.str ("thing" : Str)))))) fun v4 =>
  cond v4 (bd (ixD tree_here (1 : Int)) fun v6 =>
    bd (asS v1) fun v7 =>
    some [(v7, v6)]) <|
  gd (D.ok v1 ∧ D.ok (.str ("days" : Str))) <|
  cond ((D.eqv v1 (.str ("days" : Str)))) (bd (ixD tree_here (1 : Int)) fun v9 =>
    bd (ixD tree_here (2 : Int)) fun v10 =>
    bd (asI v10) fun v11 =>
    some [(("day" : Str), v9), (("day" : Str), (.int (v11 + 1)))]) <|
  gd (D.ok v1 ∧ D.ok (.str ("over" : Str))) <|
  cond ((D.eqv v1 (.str ("over" : Str)))) (bd (ixD tree_here (1 : Int)) fun v13 =>
    some [(("cents" : Str), v13)]) <|
  gd (D.ok v1 ∧ D.ok (.str ("not" : Str))) <|
  cond ((D.eqv v1 (.str ("not" : Str)))) (bd (ixD tree_here (1 : Int)) fun v15 =>
    bd (r v15) fun v16 =>
    some v16) <|
  lt ([] : List (Str × D)) fun found =>
  gd (D.ok v1 ∧ D.ok (.str ("all" : Str))) <|
  bd (cond ((D.eqv v1 (.str ("all" : Str)))) (some true) (gd (D.ok v1 ∧ D.ok (.str ("some" : Str))) <| some ((D.eqv v1 (.str ("some" : Str)))))) fun v19 =>
  bd (cond v19 (bd (ixD tree_here (1 : Int)) fun v22 =>
    bd (asLD v22) fun l23 =>
    bd (lp (fun (x25 : D) (p24 : (List (Str × D))) => (bd (r x25) fun v27 =>
      gd (p24.length + v27.length ≤ sizeLine) <|
      lt (p24 ++ v27) fun found_1 =>
      some found_1 : Option ((List (Str × D))))) l23 found) fun p26 =>
    some p26) (some found) : Option ((List (Str × D)))) fun p21 =>
  some p21
noncomputable def Kn_lmarks : Nat → TK_lmarks
  | 0 => (fun _ => none)
  | n + 1 => let r := Kn_lmarks n; (fun x => M__law_marks r x)
noncomputable def Mf__law_marks (n : Nat) (x0 : D) := (Kn_lmarks n) x0
theorem Mf__law_marks_S (n : Nat) (x0 : D) : Mf__law_marks (n + 1) x0 = M__law_marks (Kn_lmarks n) x0 := rfl
def sp__law_marks (K : PySem.W.Frag) (n : Nat) : Sp := SpF K (fun x : D => [.fz x]) (fun x => Mf__law_marks n x) (fun r => .lst ((r.map e_T_s_d).map .fz))
abbrev N__law_marks : List Str := ["_law_tree_here", "_law_kind", "_law_found", "_law_part"]
theorem sc__law_marks : FnScope N__law_marks ["_law_tree_here"] (defScope s__law_marks) := ⟨rfl, rfl, rfl, by decide +kernel, rfl, by decide +kernel, by decide +kernel⟩
theorem ok__law_marks {f : Addr} {fd : FuncData} (n : Nat) (F : Fun K "_law_marks" "_law_marks" s__law_marks f fd) (c__law_marks : Fn1 P w K mg base "_law_marks" (0 + n) ["_law_tree_here"] (sp__law_marks K n)) : FnOk P w K mg base CX0 (0 + n + 1) f fd ["_law_tree_here"] (sp__law_marks K (n + 1)) := by
  refine fn_m F sc__law_marks (fun x => rfl) (fun x _ => O.nvL_fz _) fun cdv A outer s H E hr x hx => ?_
  obtain ⟨tree_here, r⟩ := x
  replace hx : M__law_marks (Kn_lmarks n) tree_here = some r := hx
  have nd := sc__law_marks.nd
  unfold M__law_marks at hx
  show MS _ [some (.fz tree_here), none, none, none] _ _
  replace hx := bd_some hx
  obtain ⟨v1, hv1, hx⟩ := hx
  refine ms_cons (m_set (ps_set (i := 1) nd rfl (Or.inl rfl) pe_w) (me_ixD hv1 (me_var (pv 0) rfl) me_int) ?_)
  show MS _ [some (.fz tree_here), some (.fz v1), none, none] _ _
  replace hx := gd_some hx
  obtain ⟨g2, hx⟩ := hx
  replace hx := bd_some hx
  obtain ⟨v4, hv4, hx⟩ := hx
  refine ms_cons (m_if (t := v4) (MW.t (MW.is (mw_or (mt_eqDT (d1 := v1) (d2 := (.str ("cause" : Str))) hr.units g2 rfl rfl (ME.v (me_var (pv 1) rfl)) (ME.v me_str)) fun q5 => (by have hx := cond_f hv4 q5; replace hx := gd_some hx; obtain ⟨g3, hx⟩ := hx; cases hx; exact (mw_or1 (mt_eqDT (d1 := v1) (d2 := (.str ("thing" : Str))) hr.units g3 rfl rfl (ME.v (me_var (pv 1) rfl)) (ME.v me_str))))) (or_c hv4))) (fun h => ?_) fun h => ms_nil ?_)
  · replace hx := cond_t hx h
    replace hx := bd_some hx
    obtain ⟨v6, hv6, hx⟩ := hx
    replace hx := bd_some hx
    obtain ⟨v7, hv7, hx⟩ := hx
    refine ms_one (m_ret (ps_ret pe_w) (ME.r (me_lst (ds := [(v7, v6)].map e_T_s_d) (mf_cons (me_tup (mf_cons (ME.is (o' := .fz (.str v7)) (me_var (pv 1) rfl) (asS_is hv7)) (mf_cons (me_ixD hv6 (me_var (pv 0) rfl) me_int) mf_nil))) mf_nil))) ?_)
    cases hx; rfl
  replace hx := cond_f hx h
  replace hx := gd_some hx
  obtain ⟨g8, hx⟩ := hx
  refine ms_cons (m_if (t := ((D.eqv v1 (.str ("days" : Str))))) (mt_eqDT (d1 := v1) (d2 := (.str ("days" : Str))) hr.units g8 rfl rfl (ME.v (me_var (pv 1) rfl)) (ME.v me_str)) (fun h => ?_) fun h => ms_nil ?_)
  · replace hx := cond_t hx h
    replace hx := bd_some hx
    obtain ⟨v9, hv9, hx⟩ := hx
    replace hx := bd_some hx
    obtain ⟨v10, hv10, hx⟩ := hx
    replace hx := bd_some hx
    obtain ⟨v11, hv11, hx⟩ := hx
    refine ms_one (m_ret (ps_ret pe_w) (ME.r (me_lst (ds := [(("day" : Str), v9), (("day" : Str), (.int (v11 + 1)))].map e_T_s_d) (mf_cons (me_tup (mf_cons me_str (mf_cons (me_ixD hv9 (me_var (pv 0) rfl) me_int) mf_nil))) (mf_cons (me_tup (mf_cons me_str (mf_cons (me_add (ME.is (o' := .fz (.int v11)) (me_ixD hv10 (me_var (pv 0) rfl) me_int) (asI_is hv11)) me_int) mf_nil))) mf_nil)))) ?_)
    cases hx; rfl
  replace hx := cond_f hx h
  replace hx := gd_some hx
  obtain ⟨g12, hx⟩ := hx
  refine ms_cons (m_if (t := ((D.eqv v1 (.str ("over" : Str))))) (mt_eqDT (d1 := v1) (d2 := (.str ("over" : Str))) hr.units g12 rfl rfl (ME.v (me_var (pv 1) rfl)) (ME.v me_str)) (fun h => ?_) fun h => ms_nil ?_)
  · replace hx := cond_t hx h
    replace hx := bd_some hx
    obtain ⟨v13, hv13, hx⟩ := hx
    refine ms_one (m_ret (ps_ret pe_w) (ME.r (me_lst (ds := [(("cents" : Str), v13)].map e_T_s_d) (mf_cons (me_tup (mf_cons me_str (mf_cons (me_ixD hv13 (me_var (pv 0) rfl) me_int) mf_nil))) mf_nil))) ?_)
    cases hx; rfl
  replace hx := cond_f hx h
  replace hx := gd_some hx
  obtain ⟨g14, hx⟩ := hx
  refine ms_cons (m_if (t := ((D.eqv v1 (.str ("not" : Str))))) (mt_eqDT (d1 := v1) (d2 := (.str ("not" : Str))) hr.units g14 rfl rfl (ME.v (me_var (pv 1) rfl)) (ME.v me_str)) (fun h => ?_) fun h => ms_nil ?_)
  · replace hx := cond_t hx h
    replace hx := bd_some hx
    obtain ⟨v15, hv15, hx⟩ := hx
    replace hx := bd_some hx
    obtain ⟨v16, hv16, hx⟩ := hx
    refine ms_one (m_ret (ps_ret pe_w) (ME.r (me_fn c__law_marks (v15, v16) (ma_fz (me_ixD hv15 (me_var (pv 0) rfl) me_int) ma_nil) hv16 (hr.mono (by omega)))) ?_)
    cases hx; rfl
  replace hx := cond_f hx h
  replace hx := lt_some hx
  obtain ⟨found, efound, hx⟩ := hx
  refine ms_cons (m_set (ps_set (i := 2) nd rfl (Or.inl rfl) pe_w) (ME.is (o' := (.lst ((found.map e_T_s_d).map .fz))) (me_lst (ds := [].map e_T_s_d) mf_nil) (by rw [efound] <;> rfl)) ?_)
  show MS _ [some (.fz tree_here), some (.fz v1), some (.lst ((found.map e_T_s_d).map .fz)), none] _ _
  replace hx := gd_some hx
  obtain ⟨g17, hx⟩ := hx
  replace hx := bd_some hx
  obtain ⟨v19, hv19, hx⟩ := hx
  replace hx := bd_some hx
  obtain ⟨p21, hp21, hx⟩ := hx
  refine ms_cons (m_ifP (out := p21) (fun p21 => [some (.fz tree_here), some (.fz v1), some (.lst ((p21.map e_T_s_d).map .fz)), none]) (t := v19) (MW.t (MW.is (mw_or (mt_eqDT (d1 := v1) (d2 := (.str ("all" : Str))) hr.units g17 rfl rfl (ME.v (me_var (pv 1) rfl)) (ME.v me_str)) fun q20 => (by have hx := cond_f hv19 q20; replace hx := gd_some hx; obtain ⟨g18, hx⟩ := hx; cases hx; exact (mw_or1 (mt_eqDT (d1 := v1) (d2 := (.str ("some" : Str))) hr.units g18 rfl rfl (ME.v (me_var (pv 1) rfl)) (ME.v me_str))))) (or_c hv19))) (fun h => ?_) (fun h => ?_) fun τ le => ?_)
  · replace hx := cond_t hp21 h
    replace hx := bd_some hx
    obtain ⟨v22, hv22, hx⟩ := hx
    replace hx := bd_some hx
    obtain ⟨l23, hl23, hx⟩ := hx
    replace hx := bd_some hx
    obtain ⟨p26, hp26, hx⟩ := hx
    refine ms_one (m_forP (xs := l23) (enc := e_d) (ps_for PassesOwn.never rfl (pi_list pe_w) (pg_name (i := 3) nd rfl (Or.inl rfl)) pss_w) (by exact (mi_list (ds := l23.map e_d) (ME.k (ME.is (o' := .fz (.lst (l23.map e_d))) (me_ixD hv22 (me_var (pv 0) rfl) me_int) (asLD_is hl23))))) hp26 (fun p24 => [some (.fz tree_here), some (.fz v1), some (.lst ((p24.map e_T_s_d).map .fz)), none]) le_auto (fun x25 p24 p24o mx hx => ?_) fun τ le => ?_)
    ·
      refine ⟨_, _, mg_name, ?_⟩
      show MS _ [some (.fz tree_here), some (.fz v1), some (.lst ((p24.map e_T_s_d).map .fz)), some (.fz x25)] _ _
      replace hx := bd_some hx
      obtain ⟨v27, hv27, hx⟩ := hx
      replace hx := gd_some hx
      obtain ⟨g28, hx⟩ := hx
      replace hx := lt_some hx
      obtain ⟨found_1, efound_1, hx⟩ := hx
      refine ms_one (m_set (ps_set (i := 2) nd rfl (Or.inl rfl) pe_w) (ME.is (o' := (.lst ((found_1.map e_T_s_d).map .fz))) (me_catLT (xs := p24) (ys := v27) (enc := e_T_s_d) g28 (mv_var (pv 2) rfl) (ME.v (me_fn c__law_marks (x25, v27) (ma_fz (me_var (pv 3) rfl) ma_nil) hv27 (hr.mono (by omega))))) (by rw [efound_1] <;> rfl)) ?_)
      cases hx; exact le_auto
    cases hx; exact (le.trans le_auto)
  · replace hx := cond_f hp21 h
    refine ms_nil ?_
    cases hx; exact le_auto
  refine ms_le le ?_
  show MS _ [some (.fz tree_here), some (.fz v1), some (.lst ((p21.map e_T_s_d).map .fz)), none] _ _
  refine ms_one (m_ret (ps_ret pe_w) (mr_var (pv 2) rfl) ?_)
  cases hx; rfl

-- GROUP lmarks 64 0 : _law_marks

/-! _law_marks_are -/
noncomputable def M__law_marks_are (found : (List (Str × D))) (due : (List (Str × D))) : Option Bool :=
  cond ((!true) || (!((found.length : Int) == (due.length : Int)))) (some false) <|
  gd (-(2 ^ 62) ≤ (due.length : Int) ∧ (due.length : Int) < 2 ^ 62) <|
  bd (lpO (fun (x3 : Nat) (p2 : Unit) => (bd (L2.atI found (x3 : Int)) fun v5 =>
    bd (cond (!true) (some true) (bd (L2.atI found (x3 : Int)) fun v6 => bd (L2.atI due (x3 : Int)) fun v7 => gd (D.ok (e_T_s_d v6) ∧ D.ok (e_T_s_d v7)) <| some (!(D.eqv (e_T_s_d v6) (e_T_s_d v7))))) fun v9 =>
    cond v9 (some (.rt false)) <|
    bd (L2.atI due (x3 : Int)) fun v11 =>
    bd (M__law_whole v11.2) fun v12 =>
    bd (L2.atI found (x3 : Int)) fun v13 =>
    bd (M__law_whole v13.2) fun v14 =>
    cond (!(v12 == v14)) (some (.rt false)) <|
    some (.nx ()) : Option (Ou (Unit) (Unit) Bool))) (List.range (due.length : Int).toNat) ()) fun o4 => ouR o4 fun p2 =>
  some true
def sp__law_marks_are (K : PySem.W.Frag) : Sp := SpF K (fun x : (List (Str × D)) × (List (Str × D)) => [.vw (x.1.map e_T_s_d), .vw (x.2.map e_T_s_d)]) (fun x => M__law_marks_are x.1 x.2) (fun r => .fz (.bl r))
abbrev N__law_marks_are : List Str := ["_law_found", "_law_due", "_law_k"]
theorem sc__law_marks_are : FnScope N__law_marks_are ["_law_found", "_law_due"] (defScope s__law_marks_are) := ⟨rfl, rfl, rfl, by decide +kernel, rfl, by decide +kernel, by decide +kernel⟩
theorem ok__law_marks_are {f : Addr} {fd : FuncData} (F : Fun K "_law_marks_are" "_law_marks_are" s__law_marks_are f fd) (z_isinstance : mg "isinstance" = none) (z_list : mg "list" = none) (z_len : mg "len" = none) (z_range : mg "range" = none) (z_tuple : mg "tuple" = none) (c__law_whole : Fn1 P w K mg base "_law_whole" 1 ["_law_found"] (sp__law_whole K)) : FnOk P w K mg base CX0 2 f fd ["_law_found", "_law_due"] (sp__law_marks_are K) := by
  refine fn_m F sc__law_marks_are (fun x => rfl) (fun x _ => rfl) fun cdv A outer s H E hr x hx => ?_
  obtain ⟨⟨found, due⟩, r⟩ := x
  replace hx : M__law_marks_are found due = some r := hx
  have nd := sc__law_marks_are.nd
  unfold M__law_marks_are at hx
  show MS _ [some (.vw (found.map e_T_s_d)), some (.vw (due.map e_T_s_d)), none] _ _
  refine ms_cons (m_if (t := ((!true) || (!((found.length : Int) == (due.length : Int))))) (MW.t (mw_or (mt_not (mt_val (me_isi (k := true) (by rfl) z_isinstance (pe_bltn (v := .ty "list") (by rfl) z_list (by decide +kernel) rfl) (mv_var (pv 0) rfl) rfl (by decide +kernel)))) fun _ => (mw_or1 (mt_neI (me_lenLT (xs := found) (enc := e_T_s_d) (by rfl) z_len (ml_var (pv 0) rfl)) (me_lenLT (xs := due) (enc := e_T_s_d) (by rfl) z_len (ml_var (pv 1) rfl)))))) (fun h => ?_) fun h => ms_nil ?_)
  · replace hx := cond_t hx h
    refine ms_one (m_ret (ps_ret pe_w) (ME.r me_bl) ?_)
    cases hx; rfl
  replace hx := cond_f hx h
  replace hx := gd_some hx
  obtain ⟨g1, hx⟩ := hx
  replace hx := bd_some hx
  obtain ⟨o4, ho4, hx⟩ := hx
  refine ms_cons (m_forO (xs := (List.range (due.length : Int).toNat)) (enc := (fun k : Nat => D.int (k : Nat))) (ps_for PassesOwn.never rfl (pi_range1 (by rfl) z_range pa_w) (pg_name (i := 2) nd rfl (Or.inl rfl)) pss_w) (by exact (mi_rangeT (mf_cons (me_lenLT (xs := due) (enc := e_T_s_d) (by rfl) z_len (ml_var (pv 1) rfl)) mf_nil) g1)) ho4 (fun p2 => [some (.vw (found.map e_T_s_d)), some (.vw (due.map e_T_s_d)), none]) (fun r => .fz (.bl r)) le_auto (fun x3 p2 p2o mx hx => ?_) (fun p2 τ e le => ?_) fun q e => ?_)
  ·
    refine ⟨_, _, mg_name, ?_⟩
    show MS _ [some (.vw (found.map e_T_s_d)), some (.vw (due.map e_T_s_d)), some (.fz (.int (x3 : Int)))] _ _
    replace hx := bd_some hx
    obtain ⟨v5, hv5, hx⟩ := hx
    replace hx := bd_some hx
    obtain ⟨v9, hv9, hx⟩ := hx
    refine ms_cons (m_if (t := v9) (MW.t (MW.is (mw_or (mt_not (mt_val (me_isi (k := true) (by rfl) z_isinstance (pe_bltn (v := .ty "tuple") (by rfl) z_tuple (by decide +kernel) rfl) (ME.v (me_ixLT (xs := found) (enc := e_T_s_d) hv5 (ml_var (pv 0) rfl) (me_var (pv 2) rfl))) rfl (by decide +kernel)))) fun q10 => (by have hx := cond_f hv9 q10; replace hx := bd_some hx; obtain ⟨v6, hv6, hx⟩ := hx; replace hx := bd_some hx; obtain ⟨v7, hv7, hx⟩ := hx; replace hx := gd_some hx; obtain ⟨g8, hx⟩ := hx; cases hx; exact (mw_or1 (mt_neDT (d1 := e_T_s_d v6) (d2 := e_T_s_d v7) hr.units g8 rfl rfl (ME.v (me_ixLT (xs := found) (enc := e_T_s_d) hv6 (ml_var (pv 0) rfl) (me_var (pv 2) rfl))) (ME.v (me_ixLT (xs := due) (enc := e_T_s_d) hv7 (ml_var (pv 1) rfl) (me_var (pv 2) rfl))))))) (or_c hv9))) (fun h => ?_) fun h => ms_nil ?_)
    · replace hx := cond_t hx h
      refine ms_one (m_ret (ps_ret pe_w) (ME.r me_bl) ?_)
      cases hx; exact ⟨_, rfl, rfl⟩
    replace hx := cond_f hx h
    replace hx := bd_some hx
    obtain ⟨v11, hv11, hx⟩ := hx
    replace hx := bd_some hx
    obtain ⟨v12, hv12, hx⟩ := hx
    replace hx := bd_some hx
    obtain ⟨v13, hv13, hx⟩ := hx
    replace hx := bd_some hx
    obtain ⟨v14, hv14, hx⟩ := hx
    refine ms_one (m_if (t := (!(v12 == v14))) (mt_neB (me_fn c__law_whole (v11.2, v12) (ma_fz (me_ixT (MV.u (ME.v (me_ixLT (xs := due) (enc := e_T_s_d) hv11 (ml_var (pv 1) rfl) (me_var (pv 2) rfl))) (.fz _)) me_int rfl) ma_nil) hv12 (hr.mono (by decide))) (me_fn c__law_whole (v13.2, v14) (ma_fz (me_ixT (MV.u (ME.v (me_ixLT (xs := found) (enc := e_T_s_d) hv13 (ml_var (pv 0) rfl) (me_var (pv 2) rfl))) (.fz _)) me_int rfl) ma_nil) hv14 (hr.mono (by decide)))) (fun h => ?_) fun h => ms_nil ?_)
    · replace hx := cond_t hx h
      refine ms_one (m_ret (ps_ret pe_w) (ME.r me_bl) ?_)
      cases hx; exact ⟨_, rfl, rfl⟩
    replace hx := cond_f hx h
    cases hx; exact ⟨_, rfl, le_auto⟩
  · subst e
    dsimp only [ouR] at hx
    refine ms_le le ?_
    show MS _ [some (.vw (found.map e_T_s_d)), some (.vw (due.map e_T_s_d)), none] _ _
    refine ms_one (m_ret (ps_ret pe_w) (ME.r me_bl) ?_)
    cases hx; rfl
  · subst e; cases hx; rfl

/-! _law_unparted_name -/
noncomputable def M__law_unparted_name (name_here : Str) (due : (List (Str × D))) (kind : Str) (number : Int) (names : (List Str)) : Option Str :=
  gd (D.ok (e_T_s_d (kind, (.str name_here))) ∧ D.ok (.lst (due.map e_T_s_d))) <|
  cond ((inDL e_T_s_d due (e_T_s_d (kind, (.str name_here))))) (some name_here) <|
  bd (M__law_name number) fun v2 =>
  gd (names.length + [v2].length ≤ sizeLine) <|
  gd ((names ++ [v2]).length < sizeLine) <|
  bd (fmO (fun x5 : Str => gd (D.ok (e_T_s_d (kind, (.str x5))) ∧ D.ok (.lst (due.map e_T_s_d))) <| some (!(inDL e_T_s_d due (e_T_s_d (kind, (.str x5)))))) (fun x5 : Str => some x5) (names ++ [v2])) fun v7 =>
  gd (D.ok (.lst (v7.map D.str)) ∧ D.ok (.lst (([] : List Str).map D.str))) <|
  cond ((D.eqv (.lst (v7.map D.str)) (.lst (([] : List Str).map D.str)))) (some name_here) <|
  gd (0 < (v7.length : Int)) <|
  bd (L2.atI v7 (number % (v7.length : Int))) fun v11 =>
  some v11
def sp__law_unparted_name (K : PySem.W.Frag) : Sp := SpF K (fun x : Str × (List (Str × D)) × Str × Int × (List Str) => [.fz (.str x.1), .vw (x.2.1.map e_T_s_d), .fz (.str x.2.2.1), .fz (.int x.2.2.2.1), .fz (.lst (x.2.2.2.2.map D.str))]) (fun x => M__law_unparted_name x.1 x.2.1 x.2.2.1 x.2.2.2.1 x.2.2.2.2) (fun r => .fz (.str r))
abbrev N__law_unparted_name : List Str := ["_law_name_here", "_law_due", "_law_kind", "_law_number", "_law_names", "_law_some", "_law_one"]
theorem sc__law_unparted_name : FnScope N__law_unparted_name ["_law_name_here", "_law_due", "_law_kind", "_law_number", "_law_names"] (defScope s__law_unparted_name) := ⟨rfl, rfl, rfl, by decide +kernel, rfl, by decide +kernel, by decide +kernel⟩
theorem ok__law_unparted_name {f : Addr} {fd : FuncData} (F : Fun K "_law_unparted_name" "_law_unparted_name" s__law_unparted_name f fd) (z_len : mg "len" = none) (c__law_name : Fn1 P w K mg base "_law_name" 1 ["_law_number"] (sp__law_name K)) : FnOk P w K mg base CX0 2 f fd ["_law_name_here", "_law_due", "_law_kind", "_law_number", "_law_names"] (sp__law_unparted_name K) := by
  refine fn_m F sc__law_unparted_name (fun x => rfl) (fun x _ => rfl) fun cdv A outer s H E hr x hx => ?_
  obtain ⟨⟨name_here, due, kind, number, names⟩, r⟩ := x
  replace hx : M__law_unparted_name name_here due kind number names = some r := hx
  have nd := sc__law_unparted_name.nd
  unfold M__law_unparted_name at hx
  show MS _ [some (.fz (.str name_here)), some (.vw (due.map e_T_s_d)), some (.fz (.str kind)), some (.fz (.int number)), some (.fz (.lst (names.map D.str))), none, none] _ _
  replace hx := gd_some hx
  obtain ⟨g1, hx⟩ := hx
  refine ms_cons (m_if (t := ((inDL e_T_s_d due (e_T_s_d (kind, (.str name_here)))))) (mt_inDL (xs := due) (enc := e_T_s_d) (d := e_T_s_d (kind, (.str name_here))) (r_u65 hr) g1 rfl (ME.v (me_tup (mf_cons (me_var (pv 2) rfl) (mf_cons (me_var (pv 0) rfl) mf_nil)))) (mv_var (pv 1) rfl)) (fun h => ?_) fun h => ms_nil ?_)
  · replace hx := cond_t hx h
    refine ms_one (m_ret (ps_ret pe_w) (ME.r (me_var (pv 0) rfl)) ?_)
    cases hx; rfl
  replace hx := cond_f hx h
  replace hx := bd_some hx
  obtain ⟨v2, hv2, hx⟩ := hx
  replace hx := gd_some hx
  obtain ⟨g3, hx⟩ := hx
  replace hx := gd_some hx
  obtain ⟨g4, hx⟩ := hx
  replace hx := bd_some hx
  obtain ⟨v7, hv7, hx⟩ := hx
  refine ms_cons (m_setLcIfO (i := 5) (g := (gName 6)) (xs := (names ++ [v2])) (ys := v7) (enc := D.str) (enc2 := D.str) hv7 (fun tt te ht he => ps_setLc (i := 5) (own := [("_law_one", 6)]) rfl nd rfl rfl (sw_true rfl rfl rfl (by decide +kernel)) (pi_list pe_w) (blkOk_by (N := N__law_unparted_name) (sc := defScope s__law_unparted_name) (by decide +kernel)) (fun _ _ _ _ _ => (pg_name (i := 6) nd rfl (Or.inl rfl))) (fun s H C cl fp => pts_one (ht s H C cl fp)) he) (mic_list (ME.l (me_catMM (xs := names) (ys := [v2]) (enc := D.str) g3 (ml_var (pv 4) rfl) (ME.l (me_lst (ds := [v2].map D.str) (mf_cons (me_fn c__law_name (number, v2) (ma_fz (me_var (pv 3) rfl) ma_nil) hv2 (hr.mono (by decide))) mf_nil)))))) g4 (fun x5 mx k8 hx => by have hx := hx; replace hx := gd_some hx; obtain ⟨g6, hx⟩ := hx; injection hx with hx; subst k8; exact ⟨_, _, mg_name, by decide, fun s H C cl fp => ⟨(mt_niDL (xs := due) (enc := e_T_s_d) (d := e_T_s_d (kind, (.str x5))) (r_u65 hr) g6 rfl (ME.v (me_tup (mf_cons (me_var (pv 2) rfl) (mf_cons (me_var (pv 6) rfl) mf_nil)))) (mv_var (pv 1) rfl)), fun hk x5y hx => by injection hx with hx; subst x5y; exact (me_var (pv 6) rfl)⟩⟩) ?_)
  show MS _ [some (.fz (.str name_here)), some (.vw (due.map e_T_s_d)), some (.fz (.str kind)), some (.fz (.int number)), some (.fz (.lst (names.map D.str))), some (.lst ((v7.map D.str).map .fz)), none] _ _
  replace hx := gd_some hx
  obtain ⟨g9, hx⟩ := hx
  refine ms_cons (m_if (t := ((D.eqv (.lst (v7.map D.str)) (.lst (([] : List Str).map D.str))))) (mt_eqDT (d1 := .lst (v7.map D.str)) (d2 := .lst (([] : List Str).map D.str)) hr.units g9 frz_own frz_own (mv_var (pv 5) rfl) (ME.v (me_lst (ds := [].map D.str) mf_nil))) (fun h => ?_) fun h => ms_nil ?_)
  · replace hx := cond_t hx h
    refine ms_one (m_ret (ps_ret pe_w) (ME.r (me_var (pv 0) rfl)) ?_)
    cases hx; rfl
  replace hx := cond_f hx h
  replace hx := gd_some hx
  obtain ⟨g10, hx⟩ := hx
  replace hx := bd_some hx
  obtain ⟨v11, hv11, hx⟩ := hx
  refine ms_one (m_ret (ps_ret pe_w) (ME.r (me_ixLT (xs := v7) (enc := D.str) hv11 (ml_var (pv 5) rfl) (me_mod (me_var (pv 3) rfl) (me_lenLT (xs := v7) (enc := D.str) (by rfl) z_len (ml_var (pv 5) rfl)) g10))) ?_)
  cases hx; rfl

/-! _law_unparted -/
noncomputable def M__law_unparted (loss_here : (Int × Int × Str × Str × Str × Int)) (due : (List (Str × D))) (pools_here : ((List Str) × (List Int) × (List Int))) (number : Int) : Option (Int × Int × Str × Str × Str × Int) :=
  gd (due.length < sizeLine) <|
  bd (fmO (fun x2 : (Str × D) => bd (cond ((x2.1 == ("day" : Str))) (bd (asI x2.2) fun v3 => some (decide (v3 ≤ loss_here.2.1))) (some false)) fun v4 => some v4) (fun x2 : (Str × D) => bd (asI x2.2) fun v6 => some v6) due) fun v7 =>
  gd ([0].length + v7.length ≤ sizeLine) <|
  bd (mxL ([0] ++ v7)) fun v10 =>
  gd (due.length < sizeLine) <|
  bd (fmO (fun x12 : (Str × D) => bd (cond ((x12.1 == ("day" : Str))) (bd (asI x12.2) fun v13 => some (decide (loss_here.2.1 < v13))) (some false)) fun v14 => some v14) (fun x12 : (Str × D) => bd (asI x12.2) fun v16 => some (v16 - 1)) due) fun v17 =>
  gd ([1000000].length + v17.length ≤ sizeLine) <|
  bd (mnL ([1000000] ++ v17)) fun v20 =>
  gd (due.length < sizeLine) <|
  bd (fmO (fun x22 : (Str × D) => bd (cond ((x22.1 == ("cents" : Str))) (bd (asI x22.2) fun v23 => some (decide (v23 < loss_here.2.2.2.2.2))) (some false)) fun v24 => some v24) (fun x22 : (Str × D) => bd (asI x22.2) fun v26 => some (v26 + 1)) due) fun v27 =>
  gd ([1].length + v27.length ≤ sizeLine) <|
  bd (mxL ([1] ++ v27)) fun v30 =>
  gd (due.length < sizeLine) <|
  bd (fmO (fun x32 : (Str × D) => bd (cond ((x32.1 == ("cents" : Str))) (bd (asI x32.2) fun v33 => some (decide (loss_here.2.2.2.2.2 ≤ v33))) (some false)) fun v34 => some v34) (fun x32 : (Str × D) => bd (asI x32.2) fun v36 => some v36) due) fun v37 =>
  gd ([(1000000000000 - 1)].length + v37.length ≤ sizeLine) <|
  bd (mnL ([(1000000000000 - 1)] ++ v37)) fun v40 =>
  gd (0 < ((v20 - v10) + 1)) <|
  bd (L2.atI [v10, v20, (v10 + (number % ((v20 - v10) + 1)))] ((number / 7) % 3)) fun v42 =>
  gd (0 < ((v40 - v30) + 1)) <|
  bd (L2.atI [v30, v40, (v30 + ((number * 739) % ((v40 - v30) + 1)))] ((number / 21) % 3)) fun v44 =>
  bd (M__law_unparted_name loss_here.2.2.2.1 due ("thing" : Str) (number / 63) pools_here.1) fun v45 =>
  bd (M__law_unparted_name loss_here.2.2.2.2.1 due ("cause" : Str) (number / 64) pools_here.1) fun v46 =>
  some ((number % (1000000000 + 1)), v42, ("flood.x" : Str), v45, v46, v44)
def sp__law_unparted (K : PySem.W.Frag) : Sp := SpF K (fun x : (Int × Int × Str × Str × Str × Int) × (List (Str × D)) × ((List Str) × (List Int) × (List Int)) × Int => [.fz (e_T_i_i_s_s_s_i x.1), .vw (x.2.1.map e_T_s_d), .fz (e_T_L_s_L_i_L_i x.2.2.1), .fz (.int x.2.2.2)]) (fun x => M__law_unparted x.1 x.2.1 x.2.2.1 x.2.2.2) (fun r => .fz (e_T_i_i_s_s_s_i r))
abbrev N__law_unparted : List Str := ["_law_loss_here", "_law_due", "_law_pools_here", "_law_number", "_law_low", "_law_high", "_law_least", "_law_most", "_law_day", "_law_cents", "_law_thing", "_law_cause", "_law_one"]
theorem sc__law_unparted : FnScope N__law_unparted ["_law_loss_here", "_law_due", "_law_pools_here", "_law_number"] (defScope s__law_unparted) := ⟨rfl, rfl, rfl, by decide +kernel, rfl, by decide +kernel, by decide +kernel⟩
theorem ok__law_unparted {f : Addr} {fd : FuncData} (F : Fun K "_law_unparted" "_law_unparted" s__law_unparted f fd) (z_max : mg "max" = none) (z_min : mg "min" = none) (c__law_unparted_name : Fn1 P w K mg base "_law_unparted_name" 2 ["_law_name_here", "_law_due", "_law_kind", "_law_number", "_law_names"] (sp__law_unparted_name K)) : FnOk P w K mg base CX0 3 f fd ["_law_loss_here", "_law_due", "_law_pools_here", "_law_number"] (sp__law_unparted K) := by
  refine fn_m F sc__law_unparted (fun x => rfl) (fun x _ => rfl) fun cdv A outer s H E hr x hx => ?_
  obtain ⟨⟨loss_here, due, pools_here, number⟩, r⟩ := x
  replace hx : M__law_unparted loss_here due pools_here number = some r := hx
  have nd := sc__law_unparted.nd
  unfold M__law_unparted at hx
  show MS _ [some (.fz (e_T_i_i_s_s_s_i loss_here)), some (.vw (due.map e_T_s_d)), some (.fz (e_T_L_s_L_i_L_i pools_here)), some (.fz (.int number)), none, none, none, none, none, none, none, none, none] _ _
  replace hx := gd_some hx
  obtain ⟨g1, hx⟩ := hx
  replace hx := bd_some hx
  obtain ⟨v7, hv7, hx⟩ := hx
  replace hx := gd_some hx
  obtain ⟨g9, hx⟩ := hx
  replace hx := bd_some hx
  obtain ⟨v10, hv10, hx⟩ := hx
  refine ms_cons (m_set (ps_set (i := 4) nd rfl (Or.inl rfl) pe_w) (me_maxL (ns := ([0] ++ v7)) rfl (by rfl) z_max (ME.l (me_catLT (xs := [0]) (ys := v7) (enc := D.int) g9 (ME.v (me_lst (ds := [0].map D.int) (mf_cons me_int mf_nil))) (ME.v (by exact (me_lcIfO (g := (gName 12)) (xs := due) (ys := v7) (enc := e_T_s_d) (enc2 := D.int) hv7 (fun tt te ht he => pe_lc (own := [("_law_one", 12)]) rfl nd (pi_list pe_w) (blkOk_by (N := N__law_unparted) (sc := defScope s__law_unparted) (by decide +kernel)) (fun _ _ _ _ _ => (pg_name (i := 12) nd rfl (Or.inl rfl))) (fun s H C cl fp => pts_one (ht s H C cl fp)) he) (mic_list (ml_var (pv 1) rfl)) g1 (fun x2 mx k8 hx => by have hx := hx; replace hx := bd_some hx; obtain ⟨v4, hv4, hx⟩ := hx; injection hx with hx; subst k8; exact ⟨_, _, mg_name, by decide, fun s H C cl fp => ⟨(MW.t (MW.is (mw_and (mt_eqS (me_ixT (MV.u (ME.v (me_var (pv 12) rfl)) (.fz _)) me_int rfl) me_str) fun q5 => (by have hx := cond_t hv4 q5; replace hx := bd_some hx; obtain ⟨v3, hv3, hx⟩ := hx; cases hx; exact (mw_and1 (mt_le (ME.is (o' := .fz (.int v3)) (me_ixT (MV.u (ME.v (me_var (pv 12) rfl)) (.fz _)) me_int rfl) (asI_is hv3)) (me_ixT (MV.u (ME.v (me_var (pv 0) rfl)) (.fz _)) me_int rfl))))) (and_c hv4))), fun hk x2y hx => by replace hx := bd_some hx; obtain ⟨v6, hv6, hx⟩ := hx; injection hx with hx; subst x2y; exact (ME.is (o' := .fz (.int v6)) (me_ixT (MV.u (ME.v (me_var (pv 12) rfl)) (.fz _)) me_int rfl) (asI_is hv6))⟩⟩)))))) (mxL_is hv10).1 (mxL_is hv10).2) ?_)
  show MS _ [some (.fz (e_T_i_i_s_s_s_i loss_here)), some (.vw (due.map e_T_s_d)), some (.fz (e_T_L_s_L_i_L_i pools_here)), some (.fz (.int number)), some (.fz (.int v10)), none, none, none, none, none, none, none, none] _ _
  replace hx := gd_some hx
  obtain ⟨g11, hx⟩ := hx
  replace hx := bd_some hx
  obtain ⟨v17, hv17, hx⟩ := hx
  replace hx := gd_some hx
  obtain ⟨g19, hx⟩ := hx
  replace hx := bd_some hx
  obtain ⟨v20, hv20, hx⟩ := hx
  refine ms_cons (m_set (ps_set (i := 5) nd rfl (Or.inl rfl) pe_w) (me_minL (ns := ([1000000] ++ v17)) rfl (by rfl) z_min (ME.l (me_catLT (xs := [1000000]) (ys := v17) (enc := D.int) g19 (ME.v (me_lst (ds := [1000000].map D.int) (mf_cons (ME.is (o' := .fz (.int 1000000)) (me_pow me_int me_int ⟨by decide, by decide, by decide⟩) rfl) mf_nil))) (ME.v (by exact (me_lcIfO (g := (gName 12)) (xs := due) (ys := v17) (enc := e_T_s_d) (enc2 := D.int) hv17 (fun tt te ht he => pe_lc (own := [("_law_one", 12)]) rfl nd (pi_list pe_w) (blkOk_by (N := N__law_unparted) (sc := defScope s__law_unparted) (by decide +kernel)) (fun _ _ _ _ _ => (pg_name (i := 12) nd rfl (Or.inl rfl))) (fun s H C cl fp => pts_one (ht s H C cl fp)) he) (mic_list (ml_var (pv 1) rfl)) g11 (fun x12 mx k18 hx => by have hx := hx; replace hx := bd_some hx; obtain ⟨v14, hv14, hx⟩ := hx; injection hx with hx; subst k18; exact ⟨_, _, mg_name, by decide, fun s H C cl fp => ⟨(MW.t (MW.is (mw_and (mt_eqS (me_ixT (MV.u (ME.v (me_var (pv 12) rfl)) (.fz _)) me_int rfl) me_str) fun q15 => (by have hx := cond_t hv14 q15; replace hx := bd_some hx; obtain ⟨v13, hv13, hx⟩ := hx; cases hx; exact (mw_and1 (mt_gt (ME.is (o' := .fz (.int v13)) (me_ixT (MV.u (ME.v (me_var (pv 12) rfl)) (.fz _)) me_int rfl) (asI_is hv13)) (me_ixT (MV.u (ME.v (me_var (pv 0) rfl)) (.fz _)) me_int rfl))))) (and_c hv14))), fun hk x12y hx => by replace hx := bd_some hx; obtain ⟨v16, hv16, hx⟩ := hx; injection hx with hx; subst x12y; exact (me_sub (ME.is (o' := .fz (.int v16)) (me_ixT (MV.u (ME.v (me_var (pv 12) rfl)) (.fz _)) me_int rfl) (asI_is hv16)) me_int)⟩⟩)))))) (mnL_is hv20).1 (mnL_is hv20).2) ?_)
  show MS _ [some (.fz (e_T_i_i_s_s_s_i loss_here)), some (.vw (due.map e_T_s_d)), some (.fz (e_T_L_s_L_i_L_i pools_here)), some (.fz (.int number)), some (.fz (.int v10)), some (.fz (.int v20)), none, none, none, none, none, none, none] _ _
  replace hx := gd_some hx
  obtain ⟨g21, hx⟩ := hx
  replace hx := bd_some hx
  obtain ⟨v27, hv27, hx⟩ := hx
  replace hx := gd_some hx
  obtain ⟨g29, hx⟩ := hx
  replace hx := bd_some hx
  obtain ⟨v30, hv30, hx⟩ := hx
  refine ms_cons (m_set (ps_set (i := 6) nd rfl (Or.inl rfl) pe_w) (me_maxL (ns := ([1] ++ v27)) rfl (by rfl) z_max (ME.l (me_catLT (xs := [1]) (ys := v27) (enc := D.int) g29 (ME.v (me_lst (ds := [1].map D.int) (mf_cons me_int mf_nil))) (ME.v (by exact (me_lcIfO (g := (gName 12)) (xs := due) (ys := v27) (enc := e_T_s_d) (enc2 := D.int) hv27 (fun tt te ht he => pe_lc (own := [("_law_one", 12)]) rfl nd (pi_list pe_w) (blkOk_by (N := N__law_unparted) (sc := defScope s__law_unparted) (by decide +kernel)) (fun _ _ _ _ _ => (pg_name (i := 12) nd rfl (Or.inl rfl))) (fun s H C cl fp => pts_one (ht s H C cl fp)) he) (mic_list (ml_var (pv 1) rfl)) g21 (fun x22 mx k28 hx => by have hx := hx; replace hx := bd_some hx; obtain ⟨v24, hv24, hx⟩ := hx; injection hx with hx; subst k28; exact ⟨_, _, mg_name, by decide, fun s H C cl fp => ⟨(MW.t (MW.is (mw_and (mt_eqS (me_ixT (MV.u (ME.v (me_var (pv 12) rfl)) (.fz _)) me_int rfl) me_str) fun q25 => (by have hx := cond_t hv24 q25; replace hx := bd_some hx; obtain ⟨v23, hv23, hx⟩ := hx; cases hx; exact (mw_and1 (mt_lt (ME.is (o' := .fz (.int v23)) (me_ixT (MV.u (ME.v (me_var (pv 12) rfl)) (.fz _)) me_int rfl) (asI_is hv23)) (me_ixT (MV.u (ME.v (me_var (pv 0) rfl)) (.fz _)) me_int rfl))))) (and_c hv24))), fun hk x22y hx => by replace hx := bd_some hx; obtain ⟨v26, hv26, hx⟩ := hx; injection hx with hx; subst x22y; exact (me_add (ME.is (o' := .fz (.int v26)) (me_ixT (MV.u (ME.v (me_var (pv 12) rfl)) (.fz _)) me_int rfl) (asI_is hv26)) me_int)⟩⟩)))))) (mxL_is hv30).1 (mxL_is hv30).2) ?_)
  show MS _ [some (.fz (e_T_i_i_s_s_s_i loss_here)), some (.vw (due.map e_T_s_d)), some (.fz (e_T_L_s_L_i_L_i pools_here)), some (.fz (.int number)), some (.fz (.int v10)), some (.fz (.int v20)), some (.fz (.int v30)), none, none, none, none, none, none] _ _
  replace hx := gd_some hx
  obtain ⟨g31, hx⟩ := hx
  replace hx := bd_some hx
  obtain ⟨v37, hv37, hx⟩ := hx
  replace hx := gd_some hx
  obtain ⟨g39, hx⟩ := hx
  replace hx := bd_some hx
  obtain ⟨v40, hv40, hx⟩ := hx
  refine ms_cons (m_set (ps_set (i := 7) nd rfl (Or.inl rfl) pe_w) (me_minL (ns := ([(1000000000000 - 1)] ++ v37)) rfl (by rfl) z_min (ME.l (me_catLT (xs := [(1000000000000 - 1)]) (ys := v37) (enc := D.int) g39 (ME.v (me_lst (ds := [(1000000000000 - 1)].map D.int) (mf_cons (me_sub (ME.is (o' := .fz (.int 1000000000000)) (me_pow me_int me_int ⟨by decide, by decide, by decide⟩) rfl) me_int) mf_nil))) (ME.v (by exact (me_lcIfO (g := (gName 12)) (xs := due) (ys := v37) (enc := e_T_s_d) (enc2 := D.int) hv37 (fun tt te ht he => pe_lc (own := [("_law_one", 12)]) rfl nd (pi_list pe_w) (blkOk_by (N := N__law_unparted) (sc := defScope s__law_unparted) (by decide +kernel)) (fun _ _ _ _ _ => (pg_name (i := 12) nd rfl (Or.inl rfl))) (fun s H C cl fp => pts_one (ht s H C cl fp)) he) (mic_list (ml_var (pv 1) rfl)) g31 (fun x32 mx k38 hx => by have hx := hx; replace hx := bd_some hx; obtain ⟨v34, hv34, hx⟩ := hx; injection hx with hx; subst k38; exact ⟨_, _, mg_name, by decide, fun s H C cl fp => ⟨(MW.t (MW.is (mw_and (mt_eqS (me_ixT (MV.u (ME.v (me_var (pv 12) rfl)) (.fz _)) me_int rfl) me_str) fun q35 => (by have hx := cond_t hv34 q35; replace hx := bd_some hx; obtain ⟨v33, hv33, hx⟩ := hx; cases hx; exact (mw_and1 (mt_ge (ME.is (o' := .fz (.int v33)) (me_ixT (MV.u (ME.v (me_var (pv 12) rfl)) (.fz _)) me_int rfl) (asI_is hv33)) (me_ixT (MV.u (ME.v (me_var (pv 0) rfl)) (.fz _)) me_int rfl))))) (and_c hv34))), fun hk x32y hx => by replace hx := bd_some hx; obtain ⟨v36, hv36, hx⟩ := hx; injection hx with hx; subst x32y; exact (ME.is (o' := .fz (.int v36)) (me_ixT (MV.u (ME.v (me_var (pv 12) rfl)) (.fz _)) me_int rfl) (asI_is hv36))⟩⟩)))))) (mnL_is hv40).1 (mnL_is hv40).2) ?_)
  show MS _ [some (.fz (e_T_i_i_s_s_s_i loss_here)), some (.vw (due.map e_T_s_d)), some (.fz (e_T_L_s_L_i_L_i pools_here)), some (.fz (.int number)), some (.fz (.int v10)), some (.fz (.int v20)), some (.fz (.int v30)), some (.fz (.int v40)), none, none, none, none, none] _ _
  replace hx := gd_some hx
  obtain ⟨g41, hx⟩ := hx
  replace hx := bd_some hx
  obtain ⟨v42, hv42, hx⟩ := hx
  refine ms_cons (m_set (ps_set (i := 8) nd rfl (Or.inl rfl) pe_w) (me_ixLT (xs := [v10, v20, (v10 + (number % ((v20 - v10) + 1)))]) (enc := D.int) hv42 (ME.l (me_lst (ds := [v10, v20, (v10 + (number % ((v20 - v10) + 1)))].map D.int) (mf_cons (me_var (pv 4) rfl) (mf_cons (me_var (pv 5) rfl) (mf_cons (me_add (me_var (pv 4) rfl) (me_mod (me_var (pv 3) rfl) (me_add (me_sub (me_var (pv 5) rfl) (me_var (pv 4) rfl)) me_int) g41)) mf_nil))))) (me_mod (me_fdiv (me_var (pv 3) rfl) me_int ⟨by decide, by decide⟩) me_int (by decide))) ?_)
  show MS _ [some (.fz (e_T_i_i_s_s_s_i loss_here)), some (.vw (due.map e_T_s_d)), some (.fz (e_T_L_s_L_i_L_i pools_here)), some (.fz (.int number)), some (.fz (.int v10)), some (.fz (.int v20)), some (.fz (.int v30)), some (.fz (.int v40)), some (.fz (.int v42)), none, none, none, none] _ _
  replace hx := gd_some hx
  obtain ⟨g43, hx⟩ := hx
  replace hx := bd_some hx
  obtain ⟨v44, hv44, hx⟩ := hx
  refine ms_cons (m_set (ps_set (i := 9) nd rfl (Or.inl rfl) pe_w) (me_ixLT (xs := [v30, v40, (v30 + ((number * 739) % ((v40 - v30) + 1)))]) (enc := D.int) hv44 (ME.l (me_lst (ds := [v30, v40, (v30 + ((number * 739) % ((v40 - v30) + 1)))].map D.int) (mf_cons (me_var (pv 6) rfl) (mf_cons (me_var (pv 7) rfl) (mf_cons (me_add (me_var (pv 6) rfl) (me_mod (me_mul (me_var (pv 3) rfl) me_int (.inr ⟨by decide, by decide⟩)) (me_add (me_sub (me_var (pv 7) rfl) (me_var (pv 6) rfl)) me_int) g43)) mf_nil))))) (me_mod (me_fdiv (me_var (pv 3) rfl) me_int ⟨by decide, by decide⟩) me_int (by decide))) ?_)
  show MS _ [some (.fz (e_T_i_i_s_s_s_i loss_here)), some (.vw (due.map e_T_s_d)), some (.fz (e_T_L_s_L_i_L_i pools_here)), some (.fz (.int number)), some (.fz (.int v10)), some (.fz (.int v20)), some (.fz (.int v30)), some (.fz (.int v40)), some (.fz (.int v42)), some (.fz (.int v44)), none, none, none] _ _
  replace hx := bd_some hx
  obtain ⟨v45, hv45, hx⟩ := hx
  refine ms_cons (m_set (ps_set (i := 10) nd rfl (Or.inl rfl) pe_w) (me_fn c__law_unparted_name ((loss_here.2.2.2.1, due, ("thing" : Str), (number / 63), pools_here.1), v45) (ma_fz (me_ixT (MV.u (ME.v (me_var (pv 0) rfl)) (.fz _)) me_int rfl) (ma_vw (ml_var (pv 1) rfl) (ma_fz me_str (ma_fz (me_fdiv (me_var (pv 3) rfl) me_int ⟨by decide, by decide⟩) (ma_fz (me_ixT (MV.u (ME.v (me_var (pv 2) rfl)) (.fz _)) me_int rfl) ma_nil))))) hv45 (hr.mono (by decide))) ?_)
  show MS _ [some (.fz (e_T_i_i_s_s_s_i loss_here)), some (.vw (due.map e_T_s_d)), some (.fz (e_T_L_s_L_i_L_i pools_here)), some (.fz (.int number)), some (.fz (.int v10)), some (.fz (.int v20)), some (.fz (.int v30)), some (.fz (.int v40)), some (.fz (.int v42)), some (.fz (.int v44)), some (.fz (.str v45)), none, none] _ _
  replace hx := bd_some hx
  obtain ⟨v46, hv46, hx⟩ := hx
  refine ms_cons (m_set (ps_set (i := 11) nd rfl (Or.inl rfl) pe_w) (me_fn c__law_unparted_name ((loss_here.2.2.2.2.1, due, ("cause" : Str), (number / 64), pools_here.1), v46) (ma_fz (me_ixT (MV.u (ME.v (me_var (pv 0) rfl)) (.fz _)) me_int rfl) (ma_vw (ml_var (pv 1) rfl) (ma_fz me_str (ma_fz (me_fdiv (me_var (pv 3) rfl) me_int ⟨by decide, by decide⟩) (ma_fz (me_ixT (MV.u (ME.v (me_var (pv 2) rfl)) (.fz _)) me_int rfl) ma_nil))))) hv46 (hr.mono (by decide))) ?_)
  show MS _ [some (.fz (e_T_i_i_s_s_s_i loss_here)), some (.vw (due.map e_T_s_d)), some (.fz (e_T_L_s_L_i_L_i pools_here)), some (.fz (.int number)), some (.fz (.int v10)), some (.fz (.int v20)), some (.fz (.int v30)), some (.fz (.int v40)), some (.fz (.int v42)), some (.fz (.int v44)), some (.fz (.str v45)), some (.fz (.str v46)), none] _ _
  refine ms_one (m_ret (ps_ret pe_w) (ME.r (me_tup (mf_cons (me_mod (me_var (pv 3) rfl) (me_add (ME.is (o' := .fz (.int 1000000000)) (me_pow me_int me_int ⟨by decide, by decide, by decide⟩) rfl) me_int) (by decide)) (mf_cons (me_var (pv 8) rfl) (mf_cons me_str (mf_cons (me_var (pv 10) rfl) (mf_cons (me_var (pv 11) rfl) (mf_cons (me_var (pv 9) rfl) mf_nil)))))))) ?_)
  cases hx; rfl

/-! law -/
noncomputable def M_law (script : (List Int)) : Option Bool :=
  bd (M__law_pools script) fun v1 =>
  bd (M__law_tree script (4 : Int) v1) fun v2 =>
  bd (Mf__law_made 64 v2) fun v3 =>
  bd (Mf__law_marks 64 v2) fun v4 =>
  bd (U_Cd_marks (Kn_marks 64) v3) fun v5 =>
  bd (M__law_marks_are v5 v4) fun v6 =>
  cond (!v6) (some false) <|
  gd (v5.length < sizeLine) <|
  lt (v5 ++ [(("day" : Str), (.int (7 : Int)))]) fun told =>
  bd (lpO (fun (x9 : Nat) (p8 : Unit) => (bd (M__law_loss script (4 + (5 * (x9 : Int))) v1) fun v11 =>
    bd (M__law_cell script (4 + (5 * (x9 : Int)))) fun v12 =>
    bd (M__law_mix v12 (x9 : Int)) fun v13 =>
    bd (M__law_unparted v11 v4 v1 v13) fun v14 =>
    bd (U_Cd_holds (Kn_holds 64) v3 v11) fun v15 =>
    bd (U_Cd_holds (Kn_holds 64) v3 v14) fun v16 =>
    cond ((!true) || ((!true) || (!(v15 == v16)))) (some (.rt false)) <|
    some (.nx ()) : Option (Ou (Unit) (Unit) Bool))) (List.range (12 : Int).toNat) ()) fun o10 => ouR o10 fun p8 =>
  bd (U_Cd_marks (Kn_marks 64) v3) fun v17 =>
  bd (M__law_marks_are v17 v4) fun v18 =>
  some v18
/-! small texts -/
open SX TL
def Sm (x : Str) (n : Nat) : Prop := x.length ≤ n ∧ x.cps.toList.all (· < 128) = true
theorem Sm.mono {x : Str} {n m : Nat} (h : Sm x n) (l : n ≤ m) : Sm x m := ⟨Nat.le_trans h.1 l, h.2⟩
theorem tl_cat (x y : Str) : (x ++ y).cps.toList = x.cps.toList ++ y.cps.toList := TL.tl_append x y
theorem len_cat (x y : Str) : (x ++ y).length = x.length + y.length := by
  rw [TL.len_tl, TL.len_tl x, TL.len_tl y]
  show (x ++ y).cps.toList.length = _
  rw [tl_cat, List.length_append]
theorem sm_cat {x y : Str} {n m : Nat} (h : Sm x n) (k : Sm y m) : Sm (x ++ y) (n + m) := by
  refine ⟨?_, ?_⟩
  · rw [len_cat]
    have := h.1
    have := k.1
    omega
  · rw [tl_cat, List.all_append, h.2, k.2]
    rfl
theorem sm_S {a : List Nat} {n : Nat} (l : a.length ≤ n) (h : a.all (· < 128) = true) : Sm (S a) n := ⟨by rw [S_len]; exact l, h⟩
theorem sm_sg {c : Nat} (h : c < 128) : Sm (sg1 c) 1 := ⟨Nat.le_refl 1, by simp [h]⟩
theorem sm_cut {x : Str} {n : Nat} (h : Sm x n) (lo hi : Option Int) : Sm (cutS x lo hi) n := by
  have e : (cutS x lo hi).cps.toList = (x.cps.toList.drop (HT.sIx x.length 0 lo)).take (HT.sIx x.length x.length hi - HT.sIx x.length 0 lo) := rfl
  refine ⟨?_, ?_⟩
  · rw [TL.len_tl]
    show (cutS x lo hi).cps.toList.length ≤ n
    rw [e, List.length_take, List.length_drop]
    have := h.1
    rw [TL.len_tl] at this
    have : x.cps.toList.length ≤ n := this
    omega
  · rw [e]
    exact List.all_eq_true.mpr fun c m => List.all_eq_true.mp h.2 c (List.mem_of_mem_drop (List.mem_of_mem_take m))
theorem sm_rev {x : Str} {n : Nat} (h : Sm x n) : Sm (revS x) n := by
  have e : (revS x).cps.toList = x.cps.toList.reverse := rfl
  refine ⟨?_, by rw [e, List.all_reverse]; exact h.2⟩
  rw [TL.len_tl]
  show (revS x).cps.toList.length ≤ n
  rw [e, List.length_reverse]
  have := h.1
  rw [TL.len_tl] at this
  exact this
theorem sum_rep (a : Nat) : ∀ n : Nat, (List.replicate n a).sum = n * a
  | 0 => by simp
  | n + 1 => by rw [List.replicate_succ, List.sum_cons, sum_rep a n, Nat.add_mul]; omega
theorem sm_rep {x : Str} {n : Nat} {k : Int} {m : Nat} (h : Sm x n) (hk : k ≤ m) : Sm (repS x k) (m * n) := by
  have e : (repS x k).cps.toList = (List.replicate k.toNat x.cps.toList).flatten := rfl
  have l := h.1
  rw [TL.len_tl] at l
  have l : x.cps.toList.length ≤ n := l
  refine ⟨?_, ?_⟩
  · rw [TL.len_tl]
    show (repS x k).cps.toList.length ≤ _
    rw [e, List.length_flatten, List.map_replicate, sum_rep]
    exact Nat.mul_le_mul (by omega) l
  · rw [e, List.all_flatten]
    exact List.all_eq_true.mpr fun y m => by
      have := (List.mem_replicate.mp m).2
      rw [this]
      exact h.2
theorem Sm.lay {x : Str} {n : Nat} (h : Sm x n) : (PyData.str x).canLay0 = true := by
  show x.cps.all (· < 0x110000) = true
  rw [← Array.all_toList]
  exact List.all_eq_true.mpr fun c m => by
    have := List.all_eq_true.mp h.2 c m
    simp at this ⊢
    omega
theorem Sm.smp {x : Str} {n k : Nat} (h : Sm x n) : Smp k (.str x) := .str h.lay
theorem join_is (p : Str) (ys : List Str) : Txt.join p ys = S (TL.joinL p.cps.toList (ys.map fun y => y.cps.toList)) := by
  have q := join_S p.cps.toList (ys.map fun y => y.cps.toList)
  rw [List.map_map] at q
  have e : (S ∘ fun y : Str => y.cps.toList) = id := funext fun y => S_tl y
  rw [e, List.map_id, S_tl] at q
  exact q
theorem joinL_len (p : List Nat) (n : Nat) : ∀ {ys : List (List Nat)}, (∀ y ∈ ys, y.length ≤ n) → (TL.joinL p ys).length ≤ ys.length * (n + p.length)
  | [], _ => Nat.zero_le _
  | [x], h => by
    have := h x List.mem_cons_self
    show x.length ≤ 1 * _
    omega
  | x :: y :: r, h => by
    have q := joinL_len p n (ys := y :: r) fun z m => h z (List.mem_cons_of_mem _ m)
    have hx := h x List.mem_cons_self
    show (x ++ (p ++ TL.joinL p (y :: r))).length ≤ _
    rw [List.length_append, List.length_append, List.length_cons (a := x), Nat.add_mul]
    omega
theorem joinL_all (p : List Nat) (f : Nat → Bool) (hp : p.all f = true) : ∀ {ys : List (List Nat)}, (∀ y ∈ ys, y.all f = true) → (TL.joinL p ys).all f = true
  | [], _ => rfl
  | [x], h => h x List.mem_cons_self
  | x :: y :: r, h => by
    have q := joinL_all p f hp (ys := y :: r) fun z m => h z (List.mem_cons_of_mem _ m)
    show (x ++ (p ++ TL.joinL p (y :: r))).all f = true
    rw [List.all_append, List.all_append, q, hp, h x List.mem_cons_self]
    rfl
theorem sm_join {p : Str} {n m : Nat} (hp : Sm p m) {ys : List Str} (h : ∀ y ∈ ys, Sm y n) : Sm (Txt.join p ys) (ys.length * (n + m)) := by
  rw [join_is]
  have lp := hp.1
  rw [TL.len_tl] at lp
  have lp : p.cps.toList.length ≤ m := lp
  refine sm_S ?_ (joinL_all _ _ hp.2 fun y my => ?_)
  · refine Nat.le_trans (joinL_len _ n fun y my => ?_) ?_
    · obtain ⟨z, hz, rfl⟩ := List.mem_map.mp my
      have := (h z hz).1
      rw [TL.len_tl] at this
      exact this
    · rw [List.length_map]
      exact Nat.mul_le_mul_left _ (by omega)
  · obtain ⟨z, hz, rfl⟩ := List.mem_map.mp my
    exact (h z hz).2
theorem join_len {ys : List Str} {n : Nat} (h : ∀ y ∈ ys, Sm y n) : (ys.map (·.length)).sum ≤ ys.length * n := by
  induction ys with
  | nil => exact Nat.zero_le _
  | cons y r ih =>
    rw [List.map_cons, List.sum_cons, List.length_cons, Nat.add_mul]
    have := (h y List.mem_cons_self).1
    have := ih fun z m => h z (List.mem_cons_of_mem _ m)
    omega
/-! small letters -/
abbrev ABC : Str := "abcdefghijklmnopqrstuvwxyz"
theorem abc_len : ABC.length = 26 ∧ ABC.cps.toList.length = 26 := by decide +kernel
theorem abc_all : ABC.cps.toList.all (fun c => 97 ≤ c && c ≤ 122) = true := by decide +kernel
def Lc (x : Str) (n : Nat) : Prop := x.length ≤ n ∧ x.cps.toList.all (fun c => 97 ≤ c && c ≤ 122) = true
theorem Lc.sm {x : Str} {n : Nat} (h : Lc x n) : Sm x n := ⟨h.1, List.all_eq_true.mpr fun c m => by
  have := List.all_eq_true.mp h.2 c m
  simp at this ⊢
  omega⟩
theorem Lc.mono {x : Str} {n m : Nat} (h : Lc x n) (l : n ≤ m) : Lc x m := ⟨Nat.le_trans h.1 l, h.2⟩
theorem lc_cat {x y : Str} {n m : Nat} (h : Lc x n) (k : Lc y m) : Lc (x ++ y) (n + m) := by
  refine ⟨?_, ?_⟩
  · rw [len_cat]
    have := h.1
    have := k.1
    omega
  · rw [tl_cat, List.all_append, h.2, k.2]
    rfl
theorem lc_abc {c : Nat} (h : c ∈ ABC.cps.toList) : Lc (sg1 c) 1 := ⟨Nat.le_refl 1, by
  have := List.all_eq_true.mp abc_all c h
  show [c].all _ = true
  rw [List.all_cons, this]
  rfl⟩
/-! numbers as texts -/
theorem strI_n (n : Nat) : strI (n : Int) = S (numL n) := num_S n
theorem lg_of {m : Int} (h : m.natAbs < 2 ^ 250) : m.natAbs.log2 < 1920 := Nat.lt_of_lt_of_le (PySem.Flt.log2_lt_of (k := 250) (by decide) h) (by decide)
theorem zfill2 : ∀ r, r < 100 → Txt.zfill (S (numL r)) 2 = S [48 + r / 10, 48 + r % 10] := by decide +kernel
theorem numL1 {n : Nat} (h : n < 10) : numL n = [48 + n] := numL_lt h
theorem dot_S : ((".") : Str) = S [46] := by decide +kernel
theorem numL_short {n k : Nat} (hk : 0 < k) (h : n < 10 ^ k) : (S (numL n)).length ≤ k := by rw [S_len]; exact numL_len hk h
def amtL (n : Nat) : List Nat := numL (n / 100) ++ ([46] ++ [48 + n / 10 % 10, 48 + n % 10])
def amtS (n : Nat) : Str := S (amtL n)

/-! equality of data -/
theorem eqv_i (a b : Int) : D.eqv (.int a) (.int b) = (a == b) := by
  first | rfl | (show PyData.eqv (.int a) (.int b) = _; simp [PyData.eqv]) 
theorem eqv_b (a b : Bool) : D.eqv (.bl a) (.bl b) = (a == b) := by
  cases a <;> cases b <;> rfl
theorem eqv_s (a b : Str) : D.eqv (.str a) (.str b) = (a == b) := by
  first | rfl | (show PyData.eqv (.str a) (.str b) = _; simp [PyData.eqv]) 
theorem eqv_ni (b : Int) : D.eqv .non (.int b) = false := rfl
theorem eqv_l (ds es : List D) : D.eqv (.lst ds) (.lst es) = PyData.eqvAll (D.pyL ds) (D.pyL es) := rfl
theorem eqv_nil (ds : List D) : D.eqv (.lst ds) (.lst []) = ds.isEmpty := by
  cases ds <;> rfl
theorem eqv_map {α : Type} [BEq α] [LawfulBEq α] {enc : α → D} (h : ∀ a b, D.eqv (enc a) (enc b) = (a == b)) : ∀ xs ys : List α, D.eqv (.lst (xs.map enc)) (.lst (ys.map enc)) = (xs == ys)
  | [], [] => rfl
  | [], _ :: _ => rfl
  | _ :: _, [] => rfl
  | x :: xs, y :: ys => by
    have i := eqv_map h xs ys
    rw [eqv_l] at i ⊢
    show (PyData.eqv (enc x).py (enc y).py && PyData.eqvAll (D.pyL (xs.map enc)) (D.pyL (ys.map enc))) = _
    rw [i]
    have := h x y
    unfold D.eqv at this
    rw [this]
    rfl
theorem ixNn {n j : Nat} (hj : j < n) : ixN n (j : Int) = some j := by
  unfold ixN
  rw [if_pos (by omega), if_pos (by omega)]
  rfl

/-! sorted ints -/
theorem srtok_i (xs : List Int) : SrtOk D.int xs := ⟨fun _ _ => rfl, PySem.W.AllAlike.of fun _ _ => rfl, PySem.W.Sortable.others fun b => ⟨nofun, nofun⟩, fun _ _ => Nat.zero_le 60⟩
theorem srt_i (xs : List Int) : srt D.int xs = xs.mergeSort fun a b => decide (a ≤ b) := by
  unfold srt
  have e := PySem.W.dataLe_int (fun b : Int => b)
  have e2 : (fun b : Int => (D.int b).py) = fun b => PyData.int b := rfl
  rw [e2, e]
theorem srt_sorted (xs : List Int) : (srt D.int xs).Pairwise (· ≤ ·) := by
  rw [srt_i]
  have := List.pairwise_mergeSort (le := fun a b : Int => decide (a ≤ b)) (fun a b c h1 h2 => by simp at h1 h2 ⊢; omega) (fun a b => by simp; omega) xs
  exact this.imp fun h => of_decide_eq_true h
theorem srt_mem {xs : List Int} {x : Int} : x ∈ srt D.int xs ↔ x ∈ xs := by
  rw [srt_i]
  exact List.mem_mergeSort
theorem srt_len (xs : List Int) : (srt D.int xs).length = xs.length := by
  rw [srt_i]
  exact List.length_mergeSort xs
open SX TL
/-! conditions as trees -/
abbrev LOSS := Int × Int × Str × Str × Str × Int
mutual
def tr : Cd → D
  | .plain _ => .tup [.str "always"]
  | .cause x => .tup [.str "cause", .str x]
  | .thing x => .tup [.str "thing", .str x]
  | .days p => .tup [.str "days", .int p.1, .int p.2]
  | .over c => .tup [.str "over", .int c]
  | .notOf c => .tup [.str "not", tr c]
  | .allOf cs => .tup [.str "all", .lst (trL cs)]
  | .someOf cs => .tup [.str "some", .lst (trL cs)]
def trL : List Cd → List D
  | [] => []
  | c :: r => tr c :: trL r
end
theorem trL_map : ∀ cs : List Cd, trL cs = cs.map tr
  | [] => rfl
  | c :: r => congrArg (tr c :: ·) (trL_map r)
mutual
def hol (l : LOSS) : Cd → Bool
  | .plain _ => true
  | .cause x => l.2.2.2.2.1 == x
  | .thing x => l.2.2.2.1 == x
  | .days p => decide (p.1 ≤ l.2.1) && decide (l.2.1 ≤ p.2)
  | .over c => decide (c < l.2.2.2.2.2)
  | .notOf c => !(hol l c)
  | .allOf cs => holA l cs
  | .someOf cs => holS l cs
def holA (l : LOSS) : List Cd → Bool
  | [] => true
  | c :: r => hol l c && holA l r
def holS (l : LOSS) : List Cd → Bool
  | [] => false
  | c :: r => hol l c || holS l r
end
theorem holA_all (l : LOSS) : ∀ cs : List Cd, holA l cs = cs.all (hol l)
  | [] => rfl
  | c :: r => congrArg (hol l c && ·) (holA_all l r)
theorem holS_any (l : LOSS) : ∀ cs : List Cd, holS l cs = cs.any (hol l)
  | [] => rfl
  | c :: r => congrArg (hol l c || ·) (holS_any l r)
def kd : Cd → Str
  | .plain _ => "always"
  | .cause _ => "cause"
  | .thing _ => "thing"
  | .days _ => "days"
  | .over _ => "over"
  | .notOf _ => "not"
  | .allOf _ => "all"
  | .someOf _ => "some"
def rk : Cd → Int
  | .allOf _ => 2
  | .someOf _ => 1
  | _ => 3
theorem tr_0 (c : Cd) : ixD (tr c) 0 = some (.str (kd c)) := by cases c <;> rfl
theorem sm_lit {x : Str} (h : (decide (x.length ≤ 8) && x.cps.toList.all (· < 128)) = true) : Sm x 8 := by
  rw [Bool.and_eq_true] at h
  exact ⟨of_decide_eq_true h.1, h.2⟩
theorem kd_sm (c : Cd) : Sm (kd c) 8 := by
  cases c with
  | plain p => exact sm_lit (x := "always") (by decide +kernel)
  | cause p => exact sm_lit (x := "cause") (by decide +kernel)
  | thing p => exact sm_lit (x := "thing") (by decide +kernel)
  | days p => exact sm_lit (x := "days") (by decide +kernel)
  | over p => exact sm_lit (x := "over") (by decide +kernel)
  | notOf p => exact sm_lit (x := "not") (by decide +kernel)
  | allOf p => exact sm_lit (x := "all") (by decide +kernel)
  | someOf p => exact sm_lit (x := "some") (by decide +kernel)
theorem kd_ok (c : Cd) : D.ok (.str (kd c)) := by
  have : Sm (kd c) 8 := kd_sm c
  exact (this.smp (k := 0)).ok
theorem lit_ok {x : Str} (h : (decide (x.length ≤ 8) && x.cps.toList.all (· < 128)) = true) : D.ok (.str x) := ((sm_lit h).smp (k := 0)).ok
/-- of a bounded depth, with small names -/
inductive Mk : Nat → Cd → Prop where
  | plain {n : Nat} (u : Unit) : Mk n (.plain u)
  | cause {n : Nat} {x : Str} (h : Sm x 17) : Mk n (.cause x)
  | thing {n : Nat} {x : Str} (h : Sm x 17) : Mk n (.thing x)
  | days {n : Nat} (p : Int × Int) : Mk n (.days p)
  | over {n : Nat} (c : Int) : Mk n (.over c)
  | notOf {n : Nat} {c : Cd} (h : Mk n c) : Mk (n + 1) (.notOf c)
  | allOf {n : Nat} {cs : List Cd} (l : 1 ≤ cs.length ∧ cs.length ≤ 100) (h : ∀ c ∈ cs, Mk n c) : Mk (n + 1) (.allOf cs)
  | someOf {n : Nat} {cs : List Cd} (l : 1 ≤ cs.length ∧ cs.length ≤ 100) (h : ∀ c ∈ cs, Mk n c) : Mk (n + 1) (.someOf cs)
/-- small names, some parts -/
inductive Gd : Cd → Prop where
  | plain (u : Unit) : Gd (.plain u)
  | cause {x : Str} (h : Sm x 17) : Gd (.cause x)
  | thing {x : Str} (h : Sm x 17) : Gd (.thing x)
  | days (p : Int × Int) : Gd (.days p)
  | over (c : Int) : Gd (.over c)
  | notOf {c : Cd} (h : Gd c) : Gd (.notOf c)
  | allOf {cs : List Cd} (l : 1 ≤ cs.length ∧ cs.length ≤ 100) (h : ∀ c ∈ cs, Gd c) : Gd (.allOf cs)
  | someOf {cs : List Cd} (l : 1 ≤ cs.length ∧ cs.length ≤ 100) (h : ∀ c ∈ cs, Gd c) : Gd (.someOf cs)
/-! words; brackets and nots open -/
mutual
def wn : Cd → Int
  | .plain _ => 1
  | .cause _ => 2
  | .thing _ => 2
  | .days _ => 3
  | .over _ => 2
  | .notOf c => (if rk c < 3 then wn c + 2 else wn c) + 1
  | .allOf cs => wnL 3 cs ((cs.length : Int) - 1)
  | .someOf cs => wnL 2 cs ((cs.length : Int) - 1)
def wnL (l : Int) : List Cd → Int → Int
  | [], s => s
  | c :: r, s => wnL l r (s + (if rk c < l then wn c + 2 else wn c))
end
mutual
def dn : Cd → Int
  | .plain _ => 0
  | .cause _ => 0
  | .thing _ => 0
  | .days _ => 0
  | .over _ => 0
  | .notOf c => (if rk c < 3 then dn c + 1 else dn c) + 1
  | .allOf cs => dnL 3 cs 0
  | .someOf cs => dnL 2 cs 0
def dnL (l : Int) : List Cd → Int → Int
  | [], d => d
  | c :: r, d => dnL l r (max d (if rk c < l then dn c + 1 else dn c))
end
def wt : Cd → Int
  | .allOf _ => 1
  | .someOf _ => 2
  | _ => 0
theorem Mk.up {n m : Nat} {c : Cd} (h : Mk n c) (l : n ≤ m) : Mk m c := by
  induction h generalizing m with
  | plain u => exact .plain u
  | cause h => exact .cause h
  | thing h => exact .thing h
  | days p => exact .days p
  | over c => exact .over c
  | notOf h ih =>
    cases m with
    | zero => exact absurd l (by omega)
    | succ m => exact .notOf (ih (by omega))
  | allOf k h ih =>
    cases m with
    | zero => exact absurd l (by omega)
    | succ m => exact .allOf k fun c mc => ih c mc (by omega)
  | someOf k h ih =>
    cases m with
    | zero => exact absurd l (by omega)
    | succ m => exact .someOf k fun c mc => ih c mc (by omega)
theorem dnL_ge (l : Int) : ∀ (cs : List Cd) (d : Int), d ≤ dnL l cs d ∧ ∀ c ∈ cs, (if rk c < l then dn c + 1 else dn c) ≤ dnL l cs d
  | [], d => ⟨Int.le_refl _, fun _ m => (nomatch m)⟩
  | c :: r, d => by
    obtain ⟨h1, h2⟩ := dnL_ge l r (max d (if rk c < l then dn c + 1 else dn c))
    show d ≤ dnL l r (max d (if rk c < l then dn c + 1 else dn c)) ∧ _
    refine ⟨by omega, fun c' m => ?_⟩
    show _ ≤ dnL l r (max d (if rk c < l then dn c + 1 else dn c))
    rcases List.mem_cons.mp m with rfl | m
    · exact Int.le_trans (Int.le_max_right _ _) h1
    · exact h2 c' m
theorem Gd.mk {c : Cd} (h : Gd c) : 0 ≤ dn c ∧ Mk (2 * dn c + wt c).toNat c := by
  have b3 : ∀ c : Cd, 0 ≤ dn c → 2 * dn c + wt c ≤ 2 * (if rk c < 3 then dn c + 1 else dn c) := fun c h => by
    cases c <;> simp only [rk, wt] <;> simp <;> omega
  have b2 : ∀ c : Cd, 0 ≤ dn c → 2 * dn c + wt c ≤ 2 * (if rk c < 2 then dn c + 1 else dn c) + 1 := fun c h => by
    cases c <;> simp only [rk, wt] <;> simp <;> omega
  induction h with
  | plain u => exact ⟨Int.le_refl _, .plain u⟩
  | cause h => exact ⟨Int.le_refl _, .cause h⟩
  | thing h => exact ⟨Int.le_refl _, .thing h⟩
  | days p => exact ⟨Int.le_refl _, .days p⟩
  | over c => exact ⟨Int.le_refl _, .over c⟩
  | @notOf c h ih =>
    have := b3 c ih.1
    have h0 : 0 ≤ (if rk c < 3 then dn c + 1 else dn c) := by have := ih.1; split <;> omega
    refine ⟨by show 0 ≤ (if rk c < 3 then dn c + 1 else dn c) + 1; omega, ?_⟩
    show Mk (2 * ((if rk c < 3 then dn c + 1 else dn c) + 1) + 0).toNat _
    generalize (if rk c < 3 then dn c + 1 else dn c) = q at *
    exact (Mk.notOf (n := (2 * q).toNat) (ih.2.up (by omega))).up (by omega)
  | @allOf cs l h ih =>
    obtain ⟨h1, h2⟩ := dnL_ge 3 cs 0
    refine ⟨h1, ?_⟩
    show Mk (2 * dnL 3 cs 0 + 1).toNat _
    refine (Mk.allOf (n := (2 * dnL 3 cs 0).toNat) l fun c mc => (ih c mc).2.up ?_).up (by omega)
    have := b3 c (ih c mc).1
    have := h2 c mc
    generalize (if rk c < 3 then dn c + 1 else dn c) = q at *
    omega
  | @someOf cs l h ih =>
    obtain ⟨h1, h2⟩ := dnL_ge 2 cs 0
    refine ⟨h1, ?_⟩
    show Mk (2 * dnL 2 cs 0 + 2).toNat _
    refine (Mk.someOf (n := (2 * dnL 2 cs 0 + 1).toNat) l fun c mc => (ih c mc).2.up ?_).up (by omega)
    have := b2 c (ih c mc).1
    have := h2 c mc
    generalize (if rk c < 2 then dn c + 1 else dn c) = q at *
    omega
theorem Mk.smp {n : Nat} {c : Cd} (h : Mk n c) : Smp (2 * n + 1) (tr c) := by
  have ks : ∀ {k : Nat} (c : Cd), Smp k (.str (kd c)) := fun c => by
    exact (kd_sm c).smp
  induction h with
  | plain u => exact .tup (smps_cons (ks (.plain u)) smps_nil)
  | @cause n x h => exact .tup (smps_cons (ks (.cause x)) (smps_cons h.smp smps_nil))
  | @thing n x h => exact .tup (smps_cons (ks (.thing x)) (smps_cons h.smp smps_nil))
  | days p => exact .tup (smps_cons (ks (.days p)) (smps_cons (.int _) (smps_cons (.int _) smps_nil)))
  | over c => exact .tup (smps_cons (ks (.over c)) (smps_cons (.int _) smps_nil))
  | @notOf n c h ih => exact .tup (smps_cons (ks (.notOf c)) (smps_cons (ih.up (by omega)) smps_nil))
  | @allOf n cs l h ih =>
    refine .tup (smps_cons (ks (.allOf cs)) (smps_cons ?_ smps_nil))
    show Smp (2 * n + 1 + 1) (.lst (trL cs))
    rw [trL_map]
    exact .lst fun d m => by
      obtain ⟨c, mc, rfl⟩ := List.mem_map.mp m
      exact ih c mc
  | @someOf n cs l h ih =>
    refine .tup (smps_cons (ks (.someOf cs)) (smps_cons ?_ smps_nil))
    show Smp (2 * n + 1 + 1) (.lst (trL cs))
    rw [trL_map]
    exact .lst fun d m => by
      obtain ⟨c, mc, rfl⟩ := List.mem_map.mp m
      exact ih c mc
theorem mpO_enc {β : Type} {f : D → Option β} {g : Cd → β} {cs : List Cd} (h : ∀ c ∈ cs, f (tr c) = some (g c)) : mpO f (cs.map tr) = some (cs.map g) := by
  induction cs with
  | nil => rfl
  | cons c r ih =>
    show bd (f (tr c)) _ = _
    rw [bd_of (h c List.mem_cons_self)]
    show bd (mpO f (r.map tr)) _ = _
    rw [bd_of (ih fun c m => h c (List.mem_cons_of_mem _ m))]
    rfl
theorem made_ok {n : Nat} {c : Cd} (h : Mk n c) : Mf__law_made (n + 1) (tr c) = some c := by
  have w (n : Nat) (c : Cd) : Mf__law_made (n + 1) (tr c) = M__law_made (Kn_made n) (tr c) := rfl
  induction h with
  | plain u =>
    rw [w]; unfold M__law_made; rw [bd_of (show ixD (tr (.plain u)) 0 = some (.str "always") from rfl)]
    refine Ok.eq ?_
    repeat (refine ok_gd ⟨lit_ok (by decide +kernel), lit_ok (by decide +kernel)⟩ ?_; first | refine ok_t (by decide +kernel) ?_ | refine ok_f (by decide +kernel) ?_)
    exact ok_some rfl
  | @cause n x h =>
    rw [w]; unfold M__law_made; rw [bd_of (show ixD (tr (.cause x)) 0 = some (.str "cause") from rfl)]
    refine Ok.eq ?_
    repeat (refine ok_gd ⟨lit_ok (by decide +kernel), lit_ok (by decide +kernel)⟩ ?_; first | refine ok_t (by decide +kernel) ?_ | refine ok_f (by decide +kernel) ?_)
    exact ok_some rfl
  | @thing n x h =>
    rw [w]; unfold M__law_made; rw [bd_of (show ixD (tr (.thing x)) 0 = some (.str "thing") from rfl)]
    refine Ok.eq ?_
    repeat (refine ok_gd ⟨lit_ok (by decide +kernel), lit_ok (by decide +kernel)⟩ ?_; first | refine ok_t (by decide +kernel) ?_ | refine ok_f (by decide +kernel) ?_)
    exact ok_some rfl
  | days p =>
    rw [w]; unfold M__law_made; rw [bd_of (show ixD (tr (.days p)) 0 = some (.str "days") from rfl)]
    refine Ok.eq ?_
    repeat (refine ok_gd ⟨lit_ok (by decide +kernel), lit_ok (by decide +kernel)⟩ ?_; first | refine ok_t (by decide +kernel) ?_ | refine ok_f (by decide +kernel) ?_)
    exact ok_some rfl
  | over c =>
    rw [w]; unfold M__law_made; rw [bd_of (show ixD (tr (.over c)) 0 = some (.str "over") from rfl)]
    refine Ok.eq ?_
    repeat (refine ok_gd ⟨lit_ok (by decide +kernel), lit_ok (by decide +kernel)⟩ ?_; first | refine ok_t (by decide +kernel) ?_ | refine ok_f (by decide +kernel) ?_)
    exact ok_some rfl
  | @notOf n c h ih =>
    rw [w]; unfold M__law_made; rw [bd_of (show ixD (tr (.notOf c)) 0 = some (.str "not") from rfl)]
    refine Ok.eq ?_
    repeat (refine ok_gd ⟨lit_ok (by decide +kernel), lit_ok (by decide +kernel)⟩ ?_; first | refine ok_t (by decide +kernel) ?_ | refine ok_f (by decide +kernel) ?_)
    rw [bd_of (show ixD (tr (.notOf c)) 1 = some (tr c) from rfl), bd_of (show Kn_made (n + 1) (tr c) = some c from ih)]
    exact ok_some rfl
  | @allOf n cs l h ih =>
    rw [w]; unfold M__law_made; rw [bd_of (show ixD (tr (.allOf cs)) 0 = some (.str "all") from rfl)]
    refine Ok.eq ?_
    repeat (refine ok_gd ⟨lit_ok (by decide +kernel), lit_ok (by decide +kernel)⟩ ?_; first | refine ok_t (by decide +kernel) ?_ | refine ok_f (by decide +kernel) ?_)
    rw [bd_of (show ixD (tr (.allOf cs)) 1 = some (.lst (trL cs)) from rfl), bd_of (show asLD (.lst (trL cs)) = some (trL cs) from rfl), trL_map]
    refine ok_gd (by rw [List.length_map]; show _ < 16777216; omega) ?_
    rw [bd_of (mpO_enc (f := fun x => bd (Kn_made (n + 1) x) fun v => some v) (g := id) fun c mc => by rw [bd_of (show Kn_made (n + 1) (tr c) = some c from ih c mc)]; rfl), List.map_id]
    exact ok_gd ⟨lit_ok (by decide +kernel), lit_ok (by decide +kernel)⟩ (ok_bd (Q := fun v => v = .allOf cs) (ok_t (by decide +kernel) (ok_some rfl)) fun v hv => ok_gd (by decide) (ok_lt (ok_some hv)))
  | @someOf n cs l h ih =>
    rw [w]; unfold M__law_made; rw [bd_of (show ixD (tr (.someOf cs)) 0 = some (.str "some") from rfl)]
    refine Ok.eq ?_
    repeat (refine ok_gd ⟨lit_ok (by decide +kernel), lit_ok (by decide +kernel)⟩ ?_; first | refine ok_t (by decide +kernel) ?_ | refine ok_f (by decide +kernel) ?_)
    rw [bd_of (show ixD (tr (.someOf cs)) 1 = some (.lst (trL cs)) from rfl), bd_of (show asLD (.lst (trL cs)) = some (trL cs) from rfl), trL_map]
    refine ok_gd (by rw [List.length_map]; show _ < 16777216; omega) ?_
    rw [bd_of (mpO_enc (f := fun x => bd (Kn_made (n + 1) x) fun v => some v) (g := id) fun c mc => by rw [bd_of (show Kn_made (n + 1) (tr c) = some c from ih c mc)]; rfl), List.map_id]
    exact ok_gd ⟨lit_ok (by decide +kernel), lit_ok (by decide +kernel)⟩ (ok_bd (Q := fun v => v = .someOf cs) (ok_f (by decide +kernel) (ok_some rfl)) fun v hv => ok_gd (by decide) (ok_lt (ok_some hv)))
structure SmL (l : LOSS) : Prop where
  thing : Sm l.2.2.2.1 17
  cause : Sm l.2.2.2.2.1 17
  d0 : 0 ≤ l.2.1
  d1 : l.2.1 ≤ 1000000
  c0 : 1 ≤ l.2.2.2.2.2
  c1 : l.2.2.2.2.2 ≤ 999999999999
theorem cont_false (cs : List Cd) (f : Cd → Bool) : (!(List.contains (cs.map f) false)) = cs.all f := by
  induction cs with
  | nil => rfl
  | cons c r ih =>
    rw [List.map_cons, List.contains_cons, List.all_cons, Bool.not_or, ih]
    cases f c <;> rfl
theorem cont_true (cs : List Cd) (f : Cd → Bool) : (List.contains (cs.map f) true) = cs.any f := by
  induction cs with
  | nil => rfl
  | cons c r ih =>
    rw [List.map_cons, List.contains_cons, List.any_cons, ih]
    cases f c <;> rfl
theorem lholds_ok {n : Nat} {c : Cd} {l : LOSS} (sl : SmL l) (h : Mk n c) : Mf__law_holds (n + 1) (tr c) l = some (hol l c) := by
  have w (n : Nat) (c : Cd) : Mf__law_holds (n + 1) (tr c) l = M__law_holds (Kn_lholds n) (tr c) l := rfl
  induction h with
  | plain u =>
    rw [w]; unfold M__law_holds; rw [bd_of (show ixD (tr (.plain u)) 0 = some (.str "always") from rfl)]
    refine Ok.eq ?_
    repeat (refine ok_gd ⟨lit_ok (by decide +kernel), lit_ok (by decide +kernel)⟩ ?_; first | refine ok_t (by decide +kernel) ?_ | refine ok_f (by decide +kernel) ?_)
    exact ok_some rfl
  | @cause n x h =>
    rw [w]; unfold M__law_holds; rw [bd_of (show ixD (tr (.cause x)) 0 = some (.str "cause") from rfl)]
    refine Ok.eq ?_
    repeat (refine ok_gd ⟨lit_ok (by decide +kernel), lit_ok (by decide +kernel)⟩ ?_; first | refine ok_t (by decide +kernel) ?_ | refine ok_f (by decide +kernel) ?_)
    rw [bd_of (show ixD (tr (.cause x)) 1 = some (.str x) from rfl)]
    exact ok_gd ⟨(sl.cause.smp (k := 0)).ok, (h.smp (k := 0)).ok⟩ (ok_some (eqv_s _ _))
  | @thing n x h =>
    rw [w]; unfold M__law_holds; rw [bd_of (show ixD (tr (.thing x)) 0 = some (.str "thing") from rfl)]
    refine Ok.eq ?_
    repeat (refine ok_gd ⟨lit_ok (by decide +kernel), lit_ok (by decide +kernel)⟩ ?_; first | refine ok_t (by decide +kernel) ?_ | refine ok_f (by decide +kernel) ?_)
    rw [bd_of (show ixD (tr (.thing x)) 1 = some (.str x) from rfl)]
    exact ok_gd ⟨(sl.thing.smp (k := 0)).ok, (h.smp (k := 0)).ok⟩ (ok_some (eqv_s _ _))
  | days p =>
    rw [w]; unfold M__law_holds; rw [bd_of (show ixD (tr (.days p)) 0 = some (.str "days") from rfl)]
    refine Ok.eq ?_
    repeat (refine ok_gd ⟨lit_ok (by decide +kernel), lit_ok (by decide +kernel)⟩ ?_; first | refine ok_t (by decide +kernel) ?_ | refine ok_f (by decide +kernel) ?_)
    rw [bd_of (show ixD (tr (.days p)) 1 = some (.int p.1) from rfl), bd_of (show asI (.int p.1) = some p.1 from rfl)]
    refine ok_bd (Q := fun v => v = (decide (p.1 ≤ l.2.1) && decide (l.2.1 ≤ p.2))) (ok_cond (fun e => ?_) fun e => ok_some (by rw [e]; rfl)) fun v hv => ok_some hv
    rw [bd_of (show ixD (tr (.days p)) 2 = some (.int p.2) from rfl), bd_of (show asI (.int p.2) = some p.2 from rfl)]
    exact ok_some (by rw [e]; rfl)
  | over c =>
    rw [w]; unfold M__law_holds; rw [bd_of (show ixD (tr (.over c)) 0 = some (.str "over") from rfl)]
    refine Ok.eq ?_
    repeat (refine ok_gd ⟨lit_ok (by decide +kernel), lit_ok (by decide +kernel)⟩ ?_; first | refine ok_t (by decide +kernel) ?_ | refine ok_f (by decide +kernel) ?_)
    exact ok_some rfl
  | @notOf n c h ih =>
    rw [w]; unfold M__law_holds; rw [bd_of (show ixD (tr (.notOf c)) 0 = some (.str "not") from rfl)]
    refine Ok.eq ?_
    repeat (refine ok_gd ⟨lit_ok (by decide +kernel), lit_ok (by decide +kernel)⟩ ?_; first | refine ok_t (by decide +kernel) ?_ | refine ok_f (by decide +kernel) ?_)
    rw [bd_of (show ixD (tr (.notOf c)) 1 = some (tr c) from rfl), bd_of (show Kn_lholds (n + 1) (tr c, l) = some (hol l c) from ih)]
    exact ok_some rfl
  | @allOf n cs z h ih =>
    rw [w]; unfold M__law_holds; rw [bd_of (show ixD (tr (.allOf cs)) 0 = some (.str "all") from rfl)]
    refine Ok.eq ?_
    repeat (refine ok_gd ⟨lit_ok (by decide +kernel), lit_ok (by decide +kernel)⟩ ?_; first | refine ok_t (by decide +kernel) ?_ | refine ok_f (by decide +kernel) ?_)
    rw [bd_of (show ixD (tr (.allOf cs)) 1 = some (.lst (trL cs)) from rfl), bd_of (show asLD (.lst (trL cs)) = some (trL cs) from rfl), trL_map]
    refine ok_gd (by rw [List.length_map]; show _ < 16777216; omega) ?_
    rw [bd_of (mpO_enc (f := fun x => bd (Kn_lholds (n + 1) (x, l)) fun v => some v) (g := hol l) fun c mc => by rw [bd_of (show Kn_lholds (n + 1) (tr c, l) = some (hol l c) from ih c mc)])]
    exact ok_some (by rw [cont_false]; exact (holA_all l cs).symm)
  | @someOf n cs z h ih =>
    rw [w]; unfold M__law_holds; rw [bd_of (show ixD (tr (.someOf cs)) 0 = some (.str "some") from rfl)]
    refine Ok.eq ?_
    repeat (refine ok_gd ⟨lit_ok (by decide +kernel), lit_ok (by decide +kernel)⟩ ?_; first | refine ok_t (by decide +kernel) ?_ | refine ok_f (by decide +kernel) ?_)
    rw [bd_of (show ixD (tr (.someOf cs)) 1 = some (.lst (trL cs)) from rfl), bd_of (show asLD (.lst (trL cs)) = some (trL cs) from rfl), trL_map]
    refine ok_gd (by rw [List.length_map]; show _ < 16777216; omega) ?_
    rw [bd_of (mpO_enc (f := fun x => bd (Kn_lholds (n + 1) (x, l)) fun v => some v) (g := hol l) fun c mc => by rw [bd_of (show Kn_lholds (n + 1) (tr c, l) = some (hol l c) from ih c mc)])]
    exact ok_some (by rw [cont_true]; exact (holS_any l cs).symm)
theorem all_lp {f : Cd → Option Bool} {g : Cd → Bool} {cs : List Cd} (h : ∀ c ∈ cs, f c = some (g c)) : lpO (fun (x : Cd) (_ : Unit) => (bd (f x) fun v => cond (!v) (some (.rt false)) <| some (.nx ()) : Option (Ou Unit Unit Bool))) cs () = some (if cs.all g then .nx () else .rt false) := by
  induction cs with
  | nil => rfl
  | cons c r ih =>
    have i := ih fun c m => h c (List.mem_cons_of_mem _ m)
    rw [List.all_cons]
    unfold lpO
    rw [h c List.mem_cons_self]
    cases g c with
    | true => exact i
    | false => rfl
theorem any_lp {f : Cd → Option Bool} {g : Cd → Bool} {cs : List Cd} (h : ∀ c ∈ cs, f c = some (g c)) : lpO (fun (x : Cd) (_ : Unit) => (bd (f x) fun v => cond v (some (.rt true)) <| some (.nx ()) : Option (Ou Unit Unit Bool))) cs () = some (if cs.any g then .rt true else .nx ()) := by
  induction cs with
  | nil => rfl
  | cons c r ih =>
    have i := ih fun c m => h c (List.mem_cons_of_mem _ m)
    rw [List.any_cons]
    unfold lpO
    rw [h c List.mem_cons_self]
    cases g c with
    | true => rfl
    | false => exact i
theorem holds_ok {n : Nat} {c : Cd} (l : LOSS) (h : Mk n c) : U_Cd_holds (Kn_holds n) c l = some (hol l c) := by
  induction h with
  | plain u => rfl
  | cause h => rfl
  | thing h => rfl
  | @days n p =>
    show M_DaysIn_holds p l = _
    unfold M_DaysIn_holds
    rfl
  | over c => rfl
  | @notOf n c h ih =>
    show M_Not_holds (Kn_holds n) c l = _
    unfold M_Not_holds
    rw [bd_of ih]
    rfl
  | @allOf n cs z h ih =>
    show M_All_holds (Kn_holds n) cs l = some (holA l cs)
    unfold M_All_holds
    rw [bd_of (all_lp (f := fun x => U_Cd_holds (Kn_holds n) x l) ih), holA_all]
    cases cs.all (hol l) <;> rfl
  | @someOf n cs z h ih =>
    show M_Some_holds (Kn_holds n) cs l = some (holS l cs)
    unfold M_Some_holds
    rw [bd_of (any_lp (f := fun x => U_Cd_holds (Kn_holds n) x l) ih), holS_any]
    cases cs.any (hol l) <;> rfl
/-! names, pools, trees, losses of a script -/
theorem cell0 {ns : List Int} {k : Int} (h : 0 ≤ k) (h2 : k ≤ 1000) : Ok (M__law_cell ns k) fun c => 0 ≤ c := by
  unfold M__law_cell
  refine ok_cond (fun h1 => ok_bd (ok_atI h (of_decide_eq_true h1) fun y _ => trivial) fun y (_ : True) => ok_some (Int.emod_nonneg _ (by decide))) fun _ => ok_gd (.inl ⟨by omega, by omega⟩) (ok_some (Int.emod_nonneg _ (by decide)))
theorem mix0 (a : Int) {k : Int} (h : 0 ≤ k) (h2 : k ≤ 1000) : Ok (M__law_mix a k) fun c => 0 ≤ c := by
  unfold M__law_mix
  refine ok_gd (.inl ⟨by omega, by omega⟩) (ok_ltx fun x ex => ok_gd (.inl ⟨by omega, by omega⟩) (ok_some (Int.emod_nonneg _ (by decide))))
theorem abc_at {k : Int} : Ok (L2.atI ABC.cps.toList (k % 26)) fun c => c ∈ ABC.cps.toList := ok_atIm (by omega) (by rw [abc_len.2]; omega) fun c m => m
theorem abc_z : ABC.length ≤ sizeLine := by
  rw [abc_len.1]
  decide
theorem name_ok (n : Int) : Ok (M__law_name n) fun x => Lc x 8 ∧ 1 ≤ x.length := by
  unfold M__law_name
  refine ok_lt (ok_ltx fun size es => ok_lt (ok_lt (ok_gd ⟨by omega, by omega⟩ ?_)))
  refine ok_bd (ok_lp (fun k (p : Str × Int) => p.1.length = k ∧ Lc p.1 k) ⟨show ("" : Str).length = 0 from by decide +kernel, show Lc "" 0 from by unfold Lc; decide +kernel⟩ (fun k x p hx hp => ?_) fun p hp => hp) fun p hp => ok_some ?_
  · obtain ⟨hk, ex⟩ := List.getElem?_eq_some_iff.mp hx
    rw [List.length_range] at hk
    rw [List.getElem_range] at ex
    subst ex
    obtain ⟨l1, l2⟩ := hp
    refine ok_bd abc_at fun c hc => ok_gd abc_z (ok_gd ?_ (ok_lt (ok_gd (.inr ⟨by omega, by omega⟩) (ok_lt (ok_some ⟨?_, lc_cat l2 (lc_abc hc)⟩)))))
    · rw [l1]
      show _ + 1 ≤ 16777216
      omega
    · rw [len_cat, l1]
      rfl
  · rw [List.length_range] at hp
    exact ⟨hp.2.mono (by omega), by omega⟩
theorem other_ok {x : Str} (h : Lc x 8) (h1 : 1 ≤ x.length) (n : Int) : Ok (M__law_other x n) fun y => Sm y 17 := by
  have l := h.1
  have s := h.sm
  have zx : x.length ≤ sizeLine := by
    show _ ≤ 16777216
    omega
  have cl : ∀ lo hi, (cutS x lo hi).length ≤ 8 := fun lo hi => (sm_cut s lo hi).1
  unfold M__law_other
  refine ok_lt (ok_gd zx (ok_gd (by omega) (ok_lt (ok_bd abc_at fun c hc => ok_gd abc_z (ok_lt (ok_lt ?_))))))
  have sg := (lc_abc hc).sm
  have z1 : ∀ lo hi, (cutS x lo hi).length + (sg1 c).length ≤ sizeLine := fun lo hi => by
    have := cl lo hi
    show _ + 1 ≤ 16777216
    omega
  have z2 : ∀ lo hi lo2 hi2, ((cutS x lo hi) ++ sg1 c).length + (cutS x lo2 hi2).length ≤ sizeLine := fun lo hi lo2 hi2 => by
    have := cl lo hi
    have := cl lo2 hi2
    rw [len_cat]
    show _ + 1 + _ ≤ 16777216
    omega
  have z3 : ∀ lo hi lo2 hi2, (cutS x lo hi).length + (cutS x lo2 hi2).length ≤ sizeLine := fun lo hi lo2 hi2 => by
    have := cl lo hi
    have := cl lo2 hi2
    show _ ≤ 16777216
    omega
  have s3 : ∀ lo hi lo2 hi2, Sm (((cutS x lo hi) ++ sg1 c) ++ (cutS x lo2 hi2)) 17 := fun lo hi lo2 hi2 => sm_cat (sm_cat (sm_cut s lo hi) sg) (sm_cut s lo2 hi2)
  have s2 : ∀ lo hi lo2 hi2, Sm ((cutS x lo hi) ++ (cutS x lo2 hi2)) 17 := fun lo hi lo2 hi2 => (sm_cat (sm_cut s lo hi) (sm_cut s lo2 hi2)).mono (by omega)
  refine ok_cond (fun _ => ok_gd zx (ok_gd (z1 _ _) (ok_gd zx (ok_gd (z2 _ _ _ _) (ok_some (s3 _ _ _ _)))))) fun _ => ?_
  refine ok_bd (Q := fun _ => True) (ok_cond (fun _ => ok_gd zx (ok_some trivial)) fun _ => ok_some trivial) fun v _ => ?_
  refine ok_cond (fun _ => ok_gd zx (ok_gd (z1 _ _) (ok_gd zx (ok_gd (z2 _ _ _ _) (ok_some (s3 _ _ _ _)))))) fun _ => ?_
  refine ok_bd (Q := fun _ => True) (ok_cond (fun _ => ok_gd zx (ok_some trivial)) fun _ => ok_some trivial) fun v _ => ?_
  refine ok_cond (fun _ => ok_gd zx (ok_gd zx (ok_gd (z3 _ _ _ _) (ok_some (s2 _ _ _ _))))) fun _ => ?_
  refine ok_cond (fun _ => ok_gd zx (ok_some ((sm_rev s).mono (by omega)))) fun _ => ?_
  refine ok_cond (fun _ => ok_gd zx (ok_gd zx (ok_gd (z3 _ _ _ _) (ok_some (s2 _ _ _ _))))) fun _ => ok_some (s.mono (by omega))
theorem atI_last' {α : Type} {xs : List α} (h : xs ≠ []) : ∃ y ∈ xs, L2.atI xs (-1) = some y := by
  have l0 : 0 < xs.length := List.length_pos_iff.mpr h
  refine ⟨xs[xs.length - 1], List.getElem_mem _, ?_⟩
  unfold L2.atI
  have e : ixN xs.length (-1) = some (xs.length - 1) := by
    unfold ixN
    rw [if_neg (by decide), if_pos (by omega)]
    exact congrArg some (by omega)
  rw [e]
  exact List.getElem?_eq_getElem (by omega)
theorem cut_len {α : Type} (xs : List α) (lo hi : Option Int) : (cutG xs lo hi).length ≤ xs.length := by
  unfold cutG
  rw [List.length_take, List.length_drop]
  omega
theorem cut_mem {α : Type} {xs : List α} {lo hi : Option Int} {x : α} (m : x ∈ cutG xs lo hi) : x ∈ xs := List.mem_of_mem_drop (List.mem_of_mem_take m)
abbrev POOL := List Str × List Int × List Int
structure PoolOk (p : POOL) : Prop where
  l1 : p.1.length = 5
  sm : ∀ x ∈ p.1, Sm x 17
  l2 : p.2.1.length = 4
  l3 : p.2.2.length = 4
theorem odd_sm : ∀ x ∈ ([("and" : Str), ("or" : Str), ("not" : Str), ("cause" : Str), ("thing" : Str), ("days" : Str), ("over" : Str), ("always" : Str)] : List Str), Sm x 17 := by
  have : ([("and" : Str), ("or" : Str), ("not" : Str), ("cause" : Str), ("thing" : Str), ("days" : Str), ("over" : Str), ("always" : Str)] : List Str).all (fun x => decide (x.length ≤ 17) && x.cps.toList.all (· < 128)) = true := by decide +kernel
  intro x m
  have h := List.all_eq_true.mp this x m
  rw [Bool.and_eq_true] at h
  exact ⟨of_decide_eq_true h.1, h.2⟩
/-- lower-case letters, of any length that other tells -/
theorem other_lc {x : Str} (h : Lc x 8) (h1 : 1 ≤ x.length) (n : Int) : Ok (M__law_other x n) fun y => Lc y 8 ∧ 1 ≤ y.length := by
  have l := h.1
  have s := h.sm
  have zx : x.length ≤ sizeLine := by
    show _ ≤ 16777216
    omega
  have cc : ∀ lo hi, (cutS x lo hi).cps.toList = (x.cps.toList.drop (HT.sIx x.length 0 lo)).take (HT.sIx x.length x.length hi - HT.sIx x.length 0 lo) := fun _ _ => rfl
  have xl : x.cps.toList.length = x.length := (TL.len_tl x).symm
  have cln : ∀ lo hi, (cutS x lo hi).length = min (HT.sIx x.length x.length hi - HT.sIx x.length 0 lo) (x.length - HT.sIx x.length 0 lo) := fun lo hi => by
    rw [TL.len_tl (cutS x lo hi)]
    show (cutS x lo hi).cps.toList.length = _
    rw [cc, List.length_take, List.length_drop, xl]
  have cal : ∀ lo hi, (cutS x lo hi).cps.toList.all (fun c => 97 ≤ c && c ≤ 122) = true := fun lo hi => by
    rw [cc]
    exact List.all_eq_true.mpr fun c m => List.all_eq_true.mp h.2 c (List.mem_of_mem_drop (List.mem_of_mem_take m))
  have cl : ∀ lo hi, (cutS x lo hi).length ≤ 8 := fun lo hi => (sm_cut s lo hi).1
  unfold M__law_other
  refine ok_lt (ok_gd zx (ok_gd (by omega) (ok_ltx fun at_0 ea => (ok_bd abc_at fun c hc => ok_gd abc_z (ok_lt (ok_lt ?_))))))
  have a0 := Int.emod_nonneg (n / 8) (show (x.length : Int) ≠ 0 by omega)
  have a1 := Int.emod_lt_of_pos (n / 8) (show (0 : Int) < x.length by omega)
  rw [← ea] at a0 a1
  clear ea
  obtain ⟨k, rfl⟩ := Int.eq_ofNat_of_zero_le a0
  have s_n : ∀ j : Nat, HT.sIx x.length x.length (some (j : Int)) = min j x.length := fun j => by
    unfold HT.sIx; simp; omega
  have s_0 : ∀ j : Nat, HT.sIx x.length 0 (some (j : Int)) = min j x.length := fun j => by
    unfold HT.sIx; simp; omega
  have s_x : HT.sIx x.length x.length none = x.length := rfl
  have s_z : HT.sIx x.length 0 none = 0 := rfl
  have sg := lc_abc hc
  have gl : (sg1 c).length = 1 := rfl
  have p1 : ((k : Int) + 1) = ((k + 1 : Nat) : Int) := by omega
  have all2 : ∀ {a b : Str}, a.cps.toList.all (fun c => 97 ≤ c && c ≤ 122) = true → b.cps.toList.all (fun c => 97 ≤ c && c ≤ 122) = true → (a ++ b).cps.toList.all (fun c => 97 ≤ c && c ≤ 122) = true := fun ha hb => by
    rw [tl_cat, List.all_append, ha, hb]; rfl
  rw [p1]
  have e1 : (cutS x none (some (k : Int))).length = k := by rw [cln, s_n, s_z]; omega
  have e2 : (cutS x (some ((k + 1 : Nat) : Int)) none).length = x.length - (k + 1) := by rw [cln, s_0, s_x]; omega
  have e3 : (cutS x (some (k : Int)) none).length = x.length - k := by rw [cln, s_0, s_x]; omega
  have e4 : (cutS x (some (1 : Int)) none).length = x.length - 1 := by
    have : HT.sIx x.length 0 (some (1 : Int)) = min 1 x.length := s_0 1
    rw [cln, this, s_x]; omega
  have e5 : (cutS x none (some (1 : Int))).length = 1 := by
    have : HT.sIx x.length x.length (some (1 : Int)) = min 1 x.length := s_n 1
    rw [cln, this, s_z]; omega
  refine ok_cond (fun _ => ok_gd zx (ok_gd (by rw [e1, gl]; show _ ≤ 16777216; omega) (ok_gd zx (ok_gd (by rw [len_cat, e1, e2, gl]; show _ ≤ 16777216; omega) (ok_some ⟨⟨by rw [len_cat, len_cat, e1, e2, gl]; omega, all2 (all2 (cal _ _) sg.2) (cal _ _)⟩, by rw [len_cat, len_cat, e1, e2, gl]; omega⟩))))) fun _ => ?_
  refine ok_bd (Q := fun v => v = true → x.length < 8) (ok_cond (fun _ => ok_gd zx (ok_some fun h => by have := of_decide_eq_true h; omega)) fun _ => ok_some fun h => nomatch h) fun v hv => ?_
  refine ok_cond (fun q => ok_gd zx (ok_gd (by rw [e1, gl]; show _ ≤ 16777216; omega) (ok_gd zx (ok_gd (by rw [len_cat, e1, e3, gl]; show _ ≤ 16777216; omega) (ok_some ⟨⟨by have := hv q; rw [len_cat, len_cat, e1, e3, gl]; omega, all2 (all2 (cal _ _) sg.2) (cal _ _)⟩, by rw [len_cat, len_cat, e1, e3, gl]; omega⟩))))) fun _ => ?_
  refine ok_bd (Q := fun v => v = true → 1 < x.length) (ok_cond (fun _ => ok_gd zx (ok_some fun h => by have := of_decide_eq_true h; omega)) fun _ => ok_some fun h => nomatch h) fun v hv => ?_
  refine ok_cond (fun q => ok_gd zx (ok_gd zx (ok_gd (by rw [e1, e2]; show _ ≤ 16777216; omega) (ok_some ⟨⟨by rw [len_cat, e1, e2]; omega, all2 (cal _ _) (cal _ _)⟩, by have := hv q; rw [len_cat, e1, e2]; omega⟩)))) fun _ => ?_
  have rl : (revS x).length = x.length := by
    rw [TL.len_tl (revS x)]
    show (revS x).cps.toList.length = _
    rw [show (revS x).cps.toList = x.cps.toList.reverse from rfl, List.length_reverse, xl]
  refine ok_cond (fun _ => ok_gd zx (ok_some ⟨⟨by rw [rl]; exact l, by rw [show (revS x).cps.toList = x.cps.toList.reverse from rfl, List.all_reverse]; exact h.2⟩, by rw [rl]; exact h1⟩)) fun _ => ?_
  refine ok_cond (fun _ => ok_gd zx (ok_gd zx (ok_gd (by rw [e4, e5]; show _ ≤ 16777216; omega) (ok_some ⟨⟨by rw [len_cat, e4, e5]; omega, all2 (cal _ _) (cal _ _)⟩, by rw [len_cat, e4, e5]; omega⟩)))) fun _ => ok_some ⟨h, h1⟩
theorem pools_ok {ns : List Int} : Ok (M__law_pools ns) PoolOk := by
  unfold M__law_pools
  refine ok_bd (cell0 (by omega) (by omega)) fun v1 _ => ok_bd (name_ok v1) fun v2 ⟨a1, a2⟩ => ok_lt ?_
  refine ok_bd (ok_lp (fun k (p : List Str) => p.length = k + 1 ∧ ∀ x ∈ p, Lc x 8 ∧ 1 ≤ x.length) ⟨rfl, fun x m => by cases List.mem_singleton.mp m; exact ⟨a1, a2⟩⟩ (fun k x p hx hp => ?_) fun p hp => hp) fun p hp => ?_
  · obtain ⟨hk, ex⟩ := List.getElem?_eq_some_iff.mp hx
    rw [List.length_range] at hk
    rw [List.getElem_range] at ex
    subst ex
    have hk : k < 3 := hk
    refine ok_bd (ok_atIm (by omega) (by rw [hp.1]; omega) hp.2) fun v6 h6 => ok_bd (cell0 (by omega) (by omega)) fun v7 _ => ok_bd (mix0 _ (by omega) (by omega)) fun v8 _ => ok_bd (other_lc h6.1 h6.2 v8) fun v9 h9 => ok_gd (by rw [hp.1]; show _ < 16777216; omega) (ok_lt (ok_some ⟨by rw [List.length_append, hp.1]; rfl, fun x m => ?_⟩))
    rcases List.mem_append.mp m with m | m
    · exact hp.2 x m
    · cases List.mem_singleton.mp m
      exact h9
  · have pl : p.length = 4 := hp.1
    refine ok_lt (ok_bd (cell0 (by omega) (by omega)) fun v11 _ => ok_bd (ok_atIm (by omega) (by show _ < (8 : Int); omega) odd_sm) fun v12 h12 => ok_gd (by rw [pl]; decide) (ok_lt ?_))
    refine ok_bd (cell0 (by omega) (by omega)) fun v14 _ => ok_lt (ok_bd (cell0 (by omega) (by omega)) fun v15 _ => ok_bd (mix0 _ (by omega) (by omega)) fun v16 _ => ok_gd (srtok_i _) (ok_lt (ok_bd (cell0 (by omega) (by omega)) fun v18 _ => ok_lt (ok_lt (ok_some ?_)))))
    refine ⟨by show (p ++ [v12]).length = 5; rw [List.length_append, pl]; rfl, fun x m => ?_, by show (srt D.int _).length = 4; rw [srt_len]; rfl, rfl⟩
    rcases List.mem_append.mp m with m | m
    · exact (hp.2 x m).1.sm.mono (by omega)
    · cases List.mem_singleton.mp m
      exact h12
/-- a node of the grown rows: tree, words, brackets and nots -/
def nd (c : Cd) : D × Int × Int := (tr c, wn c, dn c)
def Nd (t : D × Int × Int) : Prop := ∃ c, t = nd c ∧ Gd c
theorem dg_rk (c : Cd) : dgI [(("all" : Str), (2 : Int)), (("some" : Str), (1 : Int))] (kd c) (3 : Int) = rk c := by
  cases c with
  | plain p => exact (by decide +kernel : dgI [(("all" : Str), (2 : Int)), (("some" : Str), (1 : Int))] "always" (3 : Int) = 3)
  | cause p => exact (by decide +kernel : dgI [(("all" : Str), (2 : Int)), (("some" : Str), (1 : Int))] "cause" (3 : Int) = 3)
  | thing p => exact (by decide +kernel : dgI [(("all" : Str), (2 : Int)), (("some" : Str), (1 : Int))] "thing" (3 : Int) = 3)
  | days p => exact (by decide +kernel : dgI [(("all" : Str), (2 : Int)), (("some" : Str), (1 : Int))] "days" (3 : Int) = 3)
  | over p => exact (by decide +kernel : dgI [(("all" : Str), (2 : Int)), (("some" : Str), (1 : Int))] "over" (3 : Int) = 3)
  | notOf p => exact (by decide +kernel : dgI [(("all" : Str), (2 : Int)), (("some" : Str), (1 : Int))] "not" (3 : Int) = 3)
  | allOf p => exact (by decide +kernel : dgI [(("all" : Str), (2 : Int)), (("some" : Str), (1 : Int))] "all" (3 : Int) = 2)
  | someOf p => exact (by decide +kernel : dgI [(("all" : Str), (2 : Int)), (("some" : Str), (1 : Int))] "some" (3 : Int) = 1)
theorem brk_ok (c : Cd) (l : Int) : M__law_bracketed (nd c) l = some (if rk c < l then wn c + 2 else wn c, if rk c < l then dn c + 1 else dn c) := by
  unfold M__law_bracketed
  show bd (ixD (tr c) 0) _ = _
  rw [bd_of (tr_0 c), bd_of (show asS (.str (kd c)) = some (kd c) from rfl), dg_rk]
  by_cases h : rk c < l
  · rw [decide_eq_true h, if_pos h, if_pos h]; rfl
  · rw [decide_eq_false h, if_neg h, if_neg h]; rfl
theorem row_cs : ∀ {row : List (D × Int × Int)}, (∀ t ∈ row, Nd t) → ∃ cs : List Cd, row = cs.map nd ∧ ∀ c ∈ cs, Gd c
  | [], _ => ⟨[], rfl, fun _ m => (nomatch m)⟩
  | t :: r, h => by
    obtain ⟨cs, e, q⟩ := row_cs fun t m => h t (List.mem_cons_of_mem _ m)
    obtain ⟨c, h1, h2⟩ := h t List.mem_cons_self
    refine ⟨c :: cs, by rw [List.map_cons, e, h1], fun c' m => ?_⟩
    rcases List.mem_cons.mp m with rfl | m
    · exact h2
    · exact q c' m
theorem join_lp {e : Option Int} {lv : Int} (he : e = some lv) : ∀ (cs : List Cd) (s d : Int), lp (fun (x2 : (D × Int × Int)) (p1 : Int × Int) => (bd e fun v4 =>
    bd (M__law_bracketed x2 v4) fun v5 =>
    lt (p1.1 + v5.1) fun size_1 =>
    lt (max p1.2 v5.2) fun deep =>
    some (size_1, deep) : Option (Int × Int))) (cs.map nd) (s, d) = some (wnL lv cs s, dnL lv cs d)
  | [], s, d => rfl
  | c :: r, s, d => by
    show bd (bd e _) _ = _
    rw [bd_of he, bd_of (brk_ok c lv)]
    exact join_lp he r _ _
theorem join_ok {row : List (D × Int × Int)} (hr : ∀ t ∈ row, Nd t) (hl : 1 ≤ row.length ∧ row.length ≤ 100) {kind : Str} (hk : kind = "all" ∨ kind = "some") : Ok (M__law_join row kind) Nd := by
  obtain ⟨lv, hlv, hv⟩ : ∃ lv : Int, L2.atI [(2 : Int), 3] (if ((kind == ("all" : Str))) then 1 else 0) = some lv ∧ (kind = "all" ∧ lv = 3 ∨ kind = "some" ∧ lv = 2) := by
    rcases hk with rfl | rfl
    · exact ⟨3, by decide +kernel, .inl ⟨rfl, rfl⟩⟩
    · exact ⟨2, by decide +kernel, .inr ⟨rfl, rfl⟩⟩
  obtain ⟨cs, rfl, hg⟩ := row_cs hr
  rw [List.length_map] at hl
  unfold M__law_join
  refine ok_lt ?_
  rw [bd_of (join_lp hlv cs _ _)]
  refine ok_gd (by rw [List.length_map]; show _ < 16777216; omega) ?_
  rw [bd_of (mpO_pure (fun x : D × Int × Int => x.1) (cs.map nd)), List.length_map]
  have e : ((cs.map nd).map fun x : D × Int × Int => x.1) = trL cs := by rw [List.map_map, trL_map]; rfl
  refine ok_some ?_
  show ∃ c, ((.tup [.str kind, .lst (((cs.map nd).map fun x : D × Int × Int => x.1).map e_d)] : D), _) = nd c ∧ Gd c
  rw [e, show (trL cs).map e_d = trL cs from List.map_id _]
  rcases hv with ⟨rfl, rfl⟩ | ⟨rfl, rfl⟩
  · exact ⟨.allOf cs, rfl, .allOf hl hg⟩
  · exact ⟨.someOf cs, rfl, .someOf hl hg⟩
theorem leaf_ok {n : Int} {p : POOL} (hp : PoolOk p) : Ok (M__law_leaf n p) fun d => ∃ c, d = tr c ∧ Gd c ∧ wn c = dgI [(("always" : Str), (1 : Int)), (("days" : Str), (3 : Int))] (kd c) (2 : Int) ∧ dn c = 0 := by
  have w1 : dgI [(("always" : Str), (1 : Int)), (("days" : Str), (3 : Int))] "always" (2 : Int) = 1 := by decide +kernel
  have w2 : dgI [(("always" : Str), (1 : Int)), (("days" : Str), (3 : Int))] "cause" (2 : Int) = 2 := by decide +kernel
  have w3 : dgI [(("always" : Str), (1 : Int)), (("days" : Str), (3 : Int))] "thing" (2 : Int) = 2 := by decide +kernel
  have w4 : dgI [(("always" : Str), (1 : Int)), (("days" : Str), (3 : Int))] "days" (2 : Int) = 3 := by decide +kernel
  have w5 : dgI [(("always" : Str), (1 : Int)), (("days" : Str), (3 : Int))] "over" (2 : Int) = 2 := by decide +kernel
  unfold M__law_leaf
  refine ok_ltx fun way ew => ok_ltx fun a ea => ok_cond (fun _ => ok_some ⟨.plain (), rfl, .plain (), w1.symm, rfl⟩) fun h0 => ok_cond (fun h => ?_) fun h1 => ok_cond (fun _ => ?_) fun _ => ?_
  · have w0 : way ≠ 0 := fun z => by rw [z] at h0; cases h0
    have w3' := of_decide_eq_true h
    refine ok_bd (ok_atIm (xs := [("cause" : Str), "thing"]) (Q := fun v => v = "cause" ∨ v = "thing") (by omega) (by show _ < (2 : Int); omega) fun y m => by simpa using m) fun v1 hv => ok_bd (ok_atIm (by omega) (by rw [hp.l1]; omega) hp.sm) fun v2 h2 => ok_some ?_
    rcases hv with rfl | rfl
    · exact ⟨.cause v2, rfl, .cause h2, w2.symm, rfl⟩
    · exact ⟨.thing v2, rfl, .thing h2, w3.symm, rfl⟩
  · exact ok_bd (ok_atIm (Q := fun _ => True) (by omega) (by rw [hp.l2]; omega) fun _ _ => trivial) fun v3 _ => ok_bd (ok_atIm (Q := fun _ => True) (by omega) (by rw [hp.l2]; omega) fun _ _ => trivial) fun v4 _ => ok_some ⟨.days (min v3 v4, max v3 v4), rfl, .days _, w4.symm, rfl⟩
  · exact ok_bd (ok_atIm (Q := fun _ => True) (by omega) (by rw [hp.l3]; omega) fun _ _ => trivial) fun v5 _ => ok_some ⟨.over v5, rfl, .over _, w5.symm, rfl⟩
def Ndr (t : D × Int × Int) : Prop := ∃ c, t = nd c ∧ Gd c ∧ wn c ≤ 60 ∧ dn c ≤ 6
theorem wt_le (c : Cd) : wt c ≤ 2 := by cases c <;> simp [wt]
theorem Gd.mk14 {c : Cd} (h : Gd c) (l : dn c ≤ 6) : Mk 14 c := by
  have := wt_le c
  have := h.mk.1
  exact h.mk.2.up (by omega)
theorem Ndr.nd {t : D × Int × Int} : Ndr t → Nd t := fun ⟨c, e, g, _⟩ => ⟨c, e, g⟩
theorem row_smp {row : List (D × Int × Int)} (h : ∀ t ∈ row, Ndr t) : Smp 31 (.lst (row.map e_T_d_i_i)) := .lst (smps_map fun t m => by
  obtain ⟨c, e, g, _, k⟩ := h t m
  subst e
  exact .tup (smps_cons (g.mk14 k).smp (smps_cons (.int _) (smps_cons (.int _) smps_nil))))
theorem cut_last {α : Type} (xs : List α) {k : Int} (h0 : 0 < k) (h1 : k ≤ xs.length) : (cutG xs (some (-k)) none).length = k.toNat := by
  unfold cutG
  have e1 : HT.sIx xs.length 0 (some (-k)) = xs.length - k.toNat := by unfold HT.sIx; simp; split <;> omega
  have e2 : HT.sIx xs.length xs.length none = xs.length := rfl
  rw [e1, e2, List.length_take, List.length_drop]
  omega
theorem step_ok {row : List (D × Int × Int)} {n : Int} {p : POOL} (hp : PoolOk p) (hr : ∀ t ∈ row, Ndr t) (hl : row.length ≤ 90) : Ok (M__law_step row n p) fun r => (∀ t ∈ r, Ndr t) ∧ r.length ≤ row.length + 1 ∧ 1 ≤ r.length := by
  unfold M__law_step
  refine ok_lt (ok_ltx fun size es => ?_)
  refine ok_bd (Q := fun v => v = true → row ≠ []) (ok_cond (fun _ => ok_gd ⟨(row_smp hr).ok, (row_smp (row := []) fun _ m => (nomatch m)).ok⟩ (ok_some fun e z => ?_)) fun _ => ok_some (by intro e; cases e)) fun v2 h2 => ?_
  · rw [z] at e
    cases e
  refine ok_bd (Q := fun q => (∀ t, q.2 = some t → Nd t) ∧ 0 ≤ q.1 ∧ q.1 ≤ row.length) (ok_cond (fun e => ?_) fun _ => ok_some ⟨(by intro t z; cases z), by show 0 ≤ size; omega, by show size ≤ _; omega⟩) fun p4 h4 => ?_
  · obtain ⟨t, mt, et⟩ := atI_last' (h2 e)
    obtain ⟨c, rfl, gc, _⟩ := hr t mt
    rw [bd_of et, bd_of (brk_ok c 3), bd_of et]
    refine ok_lt (ok_some ⟨(by intro t' z; cases z; exact ⟨.notOf c, rfl, .notOf gc⟩), by show (0 : Int) ≤ 1; omega, ?_⟩)
    · show (1 : Int) ≤ _
      have := List.length_pos_iff.mpr (h2 e)
      omega
  refine ok_bd (Q := fun q => ∀ t, q = some t → Nd t) (ok_cond (fun hc => ?_) fun _ => ok_some h4.1) fun p8 h8 => ?_
  · refine ok_bd (ok_atIm (xs := [("all" : Str), "some"]) (Q := fun v => v = "all" ∨ v = "some") (by omega) (by show _ < (2 : Int); omega) fun y m => by simpa using m) fun v9 h9 => ?_
    rw [Bool.and_eq_true] at hc
    have := of_decide_eq_true hc.2
    have := cut_last row (k := p4.1) (by omega) h4.2.2
    exact ok_bd (join_ok (fun t m => (hr t (cut_mem m)).nd) (by omega) h9) fun v10 h10 => ok_lt (ok_some fun t z => by cases z; exact h10)
  refine ok_bd (Q := fun v => v = false → ∃ t, p8 = some t ∧ Ndr t) ?_ fun v hv => ok_cond (fun _ => ?_) fun e => ?_
  · cases p8 with
    | none => exact ok_some fun z => nomatch z
    | some t =>
      refine ok_f rfl ?_
      show Ok (bd (cond _ _ _) _) _
      refine ok_bd (Q := fun v => v = false → t.2.1 ≤ 60 ∧ t.2.2 ≤ 6) (ok_cond (fun _ => ok_some fun z => nomatch z) fun y => ok_some fun z => ?_) fun v hv => ok_some fun z => ?_
      · have := of_decide_eq_false z
        have := of_decide_eq_false y
        omega
      · obtain ⟨c, rfl, gc⟩ := h8 t rfl
        exact ⟨_, rfl, c, rfl, gc, hv z⟩
  · refine ok_bd (leaf_ok hp) fun d ⟨c, ed, mk, w0, d0⟩ => ?_
    subst ed
    rw [bd_of (tr_0 c), bd_of (show asS (.str (kd c)) = some (kd c) from rfl)]
    refine ok_gd (by show _ + 1 ≤ 16777216; omega) (ok_some ⟨fun t m => ?_, by rw [List.length_append]; exact Nat.le_refl _, by rw [List.length_append]; show 1 ≤ _ + 1; omega⟩)
    rcases List.mem_append.mp m with m | m
    · exact hr t m
    · cases List.mem_singleton.mp m
      refine ⟨c, by unfold nd; rw [w0, d0], mk, ?_, by omega⟩
      rw [w0]
      show (if _ then (1 : Int) else if _ then (3 : Int) else (2 : Int)) ≤ (60 : Int)
      split
      · omega
      · split <;> omega
  · obtain ⟨t, et, ht⟩ := hv e
    rw [bd_of et]
    have := cut_len row none (some ((row.length : Int) - p4.1))
    refine ok_gd (by show _ + 1 ≤ 16777216; omega) (ok_some ⟨fun t' m => ?_, by rw [List.length_append]; show _ + 1 ≤ _; omega, by rw [List.length_append]; show 1 ≤ _ + 1; omega⟩)
    rcases List.mem_append.mp m with m | m
    · exact hr t' (cut_mem m)
    · cases List.mem_singleton.mp m
      exact ht
theorem rg8 : ∀ m : Nat, m < 9 → RgC (m : Int) 1 (-1) (m - 1) := by
  unfold RgC
  decide +kernel
theorem tree_ok {ns : List Int} {start : Int} {p : POOL} (hp : PoolOk p) (h0 : 0 ≤ start) (h1 : start ≤ 10) : Ok (M__law_tree ns start p) fun d => ∃ c, d = tr c ∧ Mk 14 c ∧ Gd c ∧ wn c ≤ 60 ∧ dn c ≤ 6 := by
  unfold M__law_tree
  refine ok_lt (ok_gd ⟨by omega, by omega, by omega, by omega⟩ ?_)
  obtain ⟨m, em, hm, hm9⟩ : ∃ m : Nat, ((max (start + 9) (min (ns.length : Int) (63 : Int))) - start).toNat = m ∧ m ≤ 70 ∧ 9 ≤ m := ⟨_, rfl, by omega, by omega⟩
  rw [em]
  refine ok_bd (ok_lp (Q := fun r => (∀ t ∈ r, Ndr t) ∧ r.length ≤ 70 ∧ 1 ≤ r.length) (fun k r => (∀ t ∈ r, Ndr t) ∧ r.length ≤ k ∧ (0 < k → 1 ≤ r.length)) ⟨fun _ m => (nomatch m), Nat.le_refl _, fun h => absurd h (by omega)⟩ (fun k x r hx hr => ?_) fun r hr => ?_) fun r ⟨hr, r70, r1⟩ => ?_
  · obtain ⟨hk, ex⟩ := List.getElem?_eq_some_iff.mp hx
    rw [List.length_range] at hk
    rw [List.getElem_range] at ex
    subst ex
    refine ok_bd (cell0 (by omega) (by omega)) fun v5 _ => ok_bd (mix0 _ (by omega) (by omega)) fun v6 _ => ok_bd (step_ok hp hr.1 (by omega)) fun v7 h7 => ok_some ⟨h7.1, by omega, fun _ => h7.2.2⟩
  · rw [List.length_range] at hr
    exact ⟨hr.1, by omega, hr.2.2 (by omega)⟩
  · have hne : r ≠ [] := fun z => by rw [z] at r1; exact absurd r1 (by decide)
    obtain ⟨q, eq_, q9⟩ : ∃ q : Nat, min (8 : Int) (r.length : Int) = (q : Int) ∧ q < 9 := ⟨(min (8 : Int) (r.length : Int)).toNat, by omega, by omega⟩
    rw [eq_, bd_of (rgN_is (rg8 q q9))]
    refine ok_bd (ok_lpO (Q := fun o => o = .nx () ∨ ∃ d, o = .rt d ∧ ∃ c, d = tr c ∧ Mk 14 c ∧ Gd c ∧ wn c ≤ 60 ∧ dn c ≤ 6) (fun _ _ => True) trivial (fun i x v hx _ => ?_) fun v _ => .inl rfl) fun o ho => ?_
    · refine ok_bd (ok_atIm (xs := [("some" : Str), "all"]) (Q := fun v => v = "all" ∨ v = "some") (by omega) (by show _ < (2 : Int); omega) fun y m => by simp only [List.mem_cons, List.not_mem_nil, or_false] at m; exact m.symm) fun v12 h12 => ?_
      have xq : x < q - 1 := by
        obtain ⟨hk, ex⟩ := List.getElem?_eq_some_iff.mp hx
        rw [List.length_range] at hk
        rw [List.getElem_range] at ex
        omega
      have := cut_last r (k := (q : Int) + (x : Int) * (-(1 : Int))) (by omega) (by omega)
      refine ok_bd (join_ok (fun t m => (hr t (cut_mem m)).nd) (by omega) h12) fun v13 h13 => ok_cond (fun e => ok_some ?_) fun _ => ok_some trivial
      rw [Bool.and_eq_true] at e
      obtain ⟨c, rfl, gc⟩ := h13
      exact .inr ⟨_, rfl, c, rfl, gc.mk14 (of_decide_eq_true e.2), gc, of_decide_eq_true e.1, of_decide_eq_true e.2⟩
    · rcases ho with rfl | ⟨d, rfl, hd⟩
      · obtain ⟨t, mt, et⟩ := atI_last' hne
        show Ok (bd (L2.atI r (-1)) _) _
        rw [bd_of et]
        obtain ⟨c, rfl, gc, w, d⟩ := hr t mt
        exact ok_some ⟨c, rfl, gc.mk14 d, gc, w, d⟩
      · exact ok_some hd
theorem loss_ok {ns : List Int} {k : Int} {p : POOL} (hp : PoolOk p) (h0 : 0 ≤ k) (h1 : k ≤ 500) : Ok (M__law_loss ns k p) SmL := by
  unfold M__law_loss
  refine ok_bd (cell0 (by omega) (by omega)) fun v1 _ => ok_bd (mix0 _ (by omega) (by omega)) fun v2 _ => ok_bd (name_ok v2) fun v3 ⟨a1, a2⟩ => ok_gd (by rw [hp.l1]; show 5 + 1 ≤ 16777216; decide) (ok_ltx fun names en => ?_)
  have nl : names.length = 6 := by rw [en, List.length_append, hp.l1]; rfl
  have nm : ∀ x ∈ names, Sm x 17 := fun x m => by
    rw [en] at m
    rcases List.mem_append.mp m with m | m
    · exact hp.sm x m
    · cases List.mem_singleton.mp m
      exact a1.sm.mono (by omega)
  clear en
  refine ok_bd (ok_atIm (Q := fun _ => True) (by omega) (by rw [hp.l2]; omega) fun _ _ => trivial) fun v5 _ => ok_lt (ok_bd (ok_atIm (Q := fun _ => True) (by omega) (by rw [hp.l3]; omega) fun _ _ => trivial) fun v6 _ => ok_lt ?_)
  refine ok_bd (Q := fun _ => True) (ok_cond (fun _ => ok_lt (ok_lt (ok_some trivial))) fun _ => ok_some trivial) fun p7 _ => ?_
  refine ok_bd (ok_atIm (by omega) (by rw [nl]; omega) nm) fun v8 h8 => ok_bd (ok_atIm (by omega) (by rw [nl]; omega) nm) fun v9 h9 => ?_
  have l8 := h8.1
  have l9 := h9.1
  have ld : (".": Str).length = 1 := by decide +kernel
  refine ok_gd (by rw [ld]; show _ ≤ 16777216; omega) (ok_gd (by rw [len_cat, ld]; show _ ≤ 16777216; omega) (ok_bd (ok_atIm (Q := fun _ => True) (by omega) (by show _ < (3 : Int); omega) fun _ _ => trivial) fun v12 _ => ok_ltx fun day ed => ok_some ⟨h8, h9, by show 0 ≤ day; omega, by show day ≤ 1000000; omega, by show 1 ≤ max (1 : Int) (min (1000000000000 - 1) p7.2); omega, by show max (1 : Int) (min (1000000000000 - 1) p7.2) ≤ 999999999999; omega⟩))
theorem isiI (T : String) (k : Bool) (h : kitB "int" T = some k) (i : Int) : isiD T (.int i) = some k := h
theorem isiS (T : String) (k : Bool) (h : kitB "str" T = some k) (x : Str) : isiD T (.str x) = some k := h
theorem whole_i (i : Int) : M__law_whole (.int i) = some true := by
  unfold M__law_whole
  rw [bd_of (isiI "int" true (by decide +kernel) i)]
  refine Ok.eq (ok_bd (Q := fun v => v = true) (ok_t rfl ?_) fun v hv => ok_some hv)
  rw [bd_of (isiI "bool" false (by decide +kernel) i)]
  exact ok_some rfl
theorem whole_s (x : Str) : M__law_whole (.str x) = some false := by
  unfold M__law_whole
  rw [bd_of (isiS "int" false (by decide +kernel) x)]
  exact Ok.eq (ok_bd (Q := fun v => v = false) (ok_f rfl (ok_some rfl)) fun v hv => ok_some hv)
def MkO (m : Str × D) : Prop := Smp 1 (e_T_s_d m) ∧ ∃ b, M__law_whole m.2 = some b
theorem marks_same {xs : List (Str × D)} (h : xs.length ≤ 1000) (g : ∀ m ∈ xs, MkO m) : M__law_marks_are xs xs = some true := by
  unfold M__law_marks_are
  refine Ok.eq ?_
  refine ok_f (by rw [beq_self_eq_true]; rfl) (ok_gd ⟨by omega, by omega⟩ ?_)
  refine ok_bd (ok_lpN (Q := fun o => o = .nx ()) (fun _ _ => True) trivial (fun i x v hx _ => ?_) fun v _ => rfl) fun o ho => ?_
  · obtain ⟨hi, ex⟩ := List.getElem?_eq_some_iff.mp hx
    rw [List.length_range, Int.toNat_natCast] at hi
    rw [List.getElem_range] at ex
    subst ex
    have e := atI_nat (List.getElem?_eq_getElem hi)
    obtain ⟨s, b, w⟩ := g _ (List.getElem_mem hi)
    rw [bd_of e]
    refine ok_bd (Q := fun v => v = false) (ok_f rfl ?_) fun v hv => ?_
    · rw [bd_of e, bd_of e]
      exact ok_gd ⟨s.ok, s.ok⟩ (ok_some (by rw [s.eqv]; rfl))
    · subst hv
      refine ok_f rfl ?_
      rw [bd_of e, bd_of w, bd_of e, bd_of w]
      exact ok_f (by rw [beq_self_eq_true]; rfl) (ok_some ⟨(), .inl rfl, trivial⟩)
  · subst ho
    exact ok_some rfl
theorem mk_s {k x : Str} {n m : Nat} (hk : Sm k n) (hx : Sm x m) : MkO (k, .str x) := ⟨.tup fun d md => by
  simp only [List.mem_cons, List.not_mem_nil, or_false] at md
  rcases md with rfl | rfl
  · exact hk.smp
  · exact hx.smp, false, whole_s x⟩
theorem mk_i {k : Str} {n : Nat} (hk : Sm k n) (i : Int) : MkO (k, .int i) := ⟨.tup fun d md => by
  simp only [List.mem_cons, List.not_mem_nil, or_false] at md
  rcases md with rfl | rfl
  · exact hk.smp
  · exact .int _, true, whole_i i⟩
mutual
def mks : Cd → List (Str × D)
  | .plain _ => []
  | .cause x => [("cause", .str x)]
  | .thing x => [("thing", .str x)]
  | .days p => [("day", .int p.1), ("day", .int (p.2 + 1))]
  | .over c => [("cents", .int c)]
  | .notOf c => mks c
  | .allOf cs => mksL cs
  | .someOf cs => mksL cs
def mksL : List Cd → List (Str × D)
  | [] => []
  | c :: r => mks c ++ mksL r
end
theorem mksL_mem {m : Str × D} : ∀ {cs : List Cd}, m ∈ mksL cs ↔ ∃ c ∈ cs, m ∈ mks c
  | [] => ⟨fun h => (nomatch h), fun ⟨_, h, _⟩ => (nomatch h)⟩
  | c :: r => by
    show m ∈ mks c ++ mksL r ↔ _
    rw [List.mem_append, mksL_mem]
    constructor
    · rintro (h | ⟨c', h1, h2⟩)
      · exact ⟨c, List.mem_cons_self, h⟩
      · exact ⟨c', List.mem_cons_of_mem _ h1, h2⟩
    · rintro ⟨c', h1, h2⟩
      rcases List.mem_cons.mp h1 with rfl | h1
      · exact .inl h2
      · exact .inr ⟨c', h1, h2⟩
theorem mksL_len (l : Int) : ∀ {cs : List Cd} (s : Int), (∀ c ∈ cs, ((mks c).length : Int) ≤ wn c) → ((mksL cs).length : Int) + s ≤ wnL l cs s
  | [], s, _ => by show ((0 : Nat) : Int) + s ≤ s; omega
  | c :: r, s, h => by
    have h1 := h c List.mem_cons_self
    have h2 := mksL_len l (cs := r) (s + (if rk c < l then wn c + 2 else wn c)) fun c m => h c (List.mem_cons_of_mem _ m)
    show (((mks c ++ mksL r).length : Nat) : Int) + s ≤ wnL l r (s + (if rk c < l then wn c + 2 else wn c))
    rw [List.length_append]
    have h3 : wn c ≤ (if rk c < l then wn c + 2 else wn c) := by split <;> omega
    omega
theorem mks_len {c : Cd} (h : Gd c) : ((mks c).length : Int) ≤ wn c := by
  induction h with
  | plain u => show (0 : Int) ≤ 1; decide
  | cause h => show (1 : Int) ≤ 2; decide
  | thing h => show (1 : Int) ≤ 2; decide
  | days p => show (2 : Int) ≤ 3; decide
  | over c => show (1 : Int) ≤ 2; decide
  | @notOf c h ih =>
    show ((mks c).length : Int) ≤ (if rk c < 3 then wn c + 2 else wn c) + 1
    split <;> omega
  | @allOf cs l h ih =>
    have := mksL_len 3 ((cs.length : Int) - 1) ih
    show ((mksL cs).length : Int) ≤ wnL 3 cs ((cs.length : Int) - 1)
    omega
  | @someOf cs l h ih =>
    have := mksL_len 2 ((cs.length : Int) - 1) ih
    show ((mksL cs).length : Int) ≤ wnL 2 cs ((cs.length : Int) - 1)
    omega
/-- kinds of marks -/
inductive MSh : Str × D → Prop where
  | cause {x : Str} (h : Sm x 17) : MSh ("cause", .str x)
  | thing {x : Str} (h : Sm x 17) : MSh ("thing", .str x)
  | day (i : Int) : MSh ("day", .int i)
  | cents (i : Int) : MSh ("cents", .int i)
theorem mks_sh {c : Cd} (h : Gd c) : ∀ m ∈ mks c, MSh m := by
  induction h with
  | plain u => exact fun m h => (nomatch h)
  | cause h => exact fun m k => by cases List.mem_singleton.mp k; exact .cause h
  | thing h => exact fun m k => by cases List.mem_singleton.mp k; exact .thing h
  | days p =>
    intro m k
    rcases List.mem_cons.mp k with rfl | k
    · exact .day _
    · cases List.mem_singleton.mp k; exact .day _
  | over c => exact fun m k => by cases List.mem_singleton.mp k; exact .cents _
  | notOf h ih => exact ih
  | allOf l h ih => exact fun m k => by obtain ⟨c, h1, h2⟩ := mksL_mem.mp k; exact ih c h1 m h2
  | someOf l h ih => exact fun m k => by obtain ⟨c, h1, h2⟩ := mksL_mem.mp k; exact ih c h1 m h2
theorem MSh.ok {m : Str × D} (h : MSh m) : MkO m := by
  cases h with
  | cause h => exact mk_s (sm_lit (by decide +kernel)) h
  | thing h => exact mk_s (sm_lit (by decide +kernel)) h
  | day i => exact mk_i (sm_lit (by decide +kernel)) i
  | cents i => exact mk_i (sm_lit (by decide +kernel)) i
/-! the program's marks -/
theorem joined_lp {f : Cd → Option (List (Str × D))} : ∀ {cs : List Cd} {a : List (Str × D)}, (∀ c ∈ cs, f c = some (mks c)) → a.length + (mksL cs).length ≤ 1000 → lp (fun (x2 : Cd) (p1 : (List (Str × D))) => (bd (f x2) fun v4 =>
    gd (p1.length + v4.length ≤ sizeLine) <|
    lt (p1 ++ v4) fun found_1 =>
    some found_1 : Option ((List (Str × D))))) cs a = some (a ++ mksL cs)
  | [], a, _, _ => by show some a = some (a ++ []); rw [List.append_nil]
  | c :: r, a, h, l => by
    have e : mksL (c :: r) = mks c ++ mksL r := rfl
    rw [e, List.length_append] at l
    show bd (bd (f c) _) _ = _
    rw [bd_of (h c List.mem_cons_self), gd_pos (show a.length + (mks c).length ≤ sizeLine from (by omega : a.length + (mks c).length ≤ 16777216))]
    show lp _ r (a ++ mks c) = _
    rw [joined_lp (fun c m => h c (List.mem_cons_of_mem _ m)) (by rw [List.length_append]; omega), e, List.append_assoc]
theorem mksL_le {c : Cd} : ∀ {cs : List Cd}, c ∈ cs → (mks c).length ≤ (mksL cs).length
  | c' :: r, m => by
    show _ ≤ (mks c' ++ mksL r).length
    rw [List.length_append]
    rcases List.mem_cons.mp m with rfl | m
    · omega
    · have := mksL_le m
      omega
theorem marks_ok {n : Nat} {c : Cd} (h : Mk n c) (l : (mks c).length ≤ 1000) : ∀ f, 2 * n ≤ f → U_Cd_marks (Kn_marks f) c = some (mks c) := by
  induction h with
  | plain u => exact fun _ _ => rfl
  | cause h => exact fun _ _ => rfl
  | thing h => exact fun _ _ => rfl
  | days p => exact fun _ _ => rfl
  | over c => exact fun _ _ => rfl
  | @notOf n c h ih =>
    intro f hf
    obtain ⟨g, rfl⟩ : ∃ g, f = g + 1 := ⟨f - 1, by omega⟩
    show M_Not_marks (Kn_marks g) c = some (mks c)
    unfold M_Not_marks
    rw [bd_of (ih l g (by omega))]
  | @allOf n cs z h ih =>
    intro f hf
    obtain ⟨g, rfl⟩ : ∃ g, f = g + 2 := ⟨f - 2, by omega⟩
    show M_All_marks (Kn_marks (g + 1)) cs = some (mksL cs)
    unfold M_All_marks
    show bd (M_joined_marks (Kn_marks g) cs) _ = _
    rw [bd_of (show M_joined_marks (Kn_marks g) cs = some (mksL cs) from ?_)]
    unfold M_joined_marks
    show bd (lp _ cs []) _ = _
    rw [bd_of (joined_lp (f := U_Cd_marks (Kn_marks g)) (a := []) (fun c m => ih c m (Nat.le_trans (mksL_le m) l) g (by omega)) (by show 0 + _ ≤ _; rw [Nat.zero_add]; exact l))]
    rfl
  | @someOf n cs z h ih =>
    intro f hf
    obtain ⟨g, rfl⟩ : ∃ g, f = g + 2 := ⟨f - 2, by omega⟩
    show M_Some_marks (Kn_marks (g + 1)) cs = some (mksL cs)
    unfold M_Some_marks
    show bd (M_joined_marks (Kn_marks g) cs) _ = _
    rw [bd_of (show M_joined_marks (Kn_marks g) cs = some (mksL cs) from ?_)]
    unfold M_joined_marks
    show bd (lp _ cs []) _ = _
    rw [bd_of (joined_lp (f := U_Cd_marks (Kn_marks g)) (a := []) (fun c m => ih c m (Nat.le_trans (mksL_le m) l) g (by omega)) (by show 0 + _ ≤ _; rw [Nat.zero_add]; exact l))]
    rfl
/-! the law's marks -/
theorem ltrees_lp {f : D → Option (List (Str × D))} : ∀ {cs : List Cd} {a : List (Str × D)}, (∀ c ∈ cs, f (tr c) = some (mks c)) → a.length + (mksL cs).length ≤ 1000 → lp (fun (x2 : D) (p1 : (List (Str × D))) => (bd (f x2) fun v4 =>
    gd (p1.length + v4.length ≤ sizeLine) <|
    lt (p1 ++ v4) fun found_1 =>
    some found_1 : Option ((List (Str × D))))) (trL cs) a = some (a ++ mksL cs)
  | [], a, _, _ => by show some a = some (a ++ []); rw [List.append_nil]
  | c :: r, a, h, l => by
    have e : mksL (c :: r) = mks c ++ mksL r := rfl
    rw [e, List.length_append] at l
    show bd (bd (f (tr c)) _) _ = _
    rw [bd_of (h c List.mem_cons_self), gd_pos (show a.length + (mks c).length ≤ sizeLine from (by omega : a.length + (mks c).length ≤ 16777216))]
    show lp _ (trL r) (a ++ mks c) = _
    rw [ltrees_lp (fun c m => h c (List.mem_cons_of_mem _ m)) (by rw [List.length_append]; omega), e, List.append_assoc]
theorem lmarks_ok {n : Nat} {c : Cd} (h : Mk n c) (l : (mks c).length ≤ 1000) : Mf__law_marks (n + 1) (tr c) = some (mks c) := by
  have w (n : Nat) (c : Cd) : Mf__law_marks (n + 1) (tr c) = M__law_marks (Kn_lmarks n) (tr c) := rfl
  induction h with
  | plain u =>
    rw [w]; unfold M__law_marks; rw [bd_of (show ixD (tr (.plain u)) 0 = some (.str "always") from rfl)]
    refine Ok.eq ?_
    refine ok_gd ⟨lit_ok (by decide +kernel), lit_ok (by decide +kernel)⟩ (ok_bd (Q := fun v => v = false) (ok_f (by decide +kernel) (ok_gd ⟨lit_ok (by decide +kernel), lit_ok (by decide +kernel)⟩ (ok_some (by decide +kernel)))) fun v hv => ok_f hv ?_)
    repeat (refine ok_gd ⟨lit_ok (by decide +kernel), lit_ok (by decide +kernel)⟩ ?_; first | refine ok_t (by decide +kernel) ?_ | refine ok_f (by decide +kernel) ?_)
    refine ok_lt (ok_gd ⟨lit_ok (by decide +kernel), lit_ok (by decide +kernel)⟩ (ok_bd (Q := fun v => v = false) (ok_f (by decide +kernel) (ok_gd ⟨lit_ok (by decide +kernel), lit_ok (by decide +kernel)⟩ (ok_some (by decide +kernel)))) fun v hv => ?_))
    exact ok_bd (Q := fun v => v = []) (ok_f hv (ok_some rfl)) fun v hv => ok_some hv
  | @cause n x h =>
    rw [w]; unfold M__law_marks; rw [bd_of (show ixD (tr (.cause x)) 0 = some (.str "cause") from rfl)]
    refine Ok.eq ?_
    refine ok_gd ⟨lit_ok (by decide +kernel), lit_ok (by decide +kernel)⟩ (ok_bd (Q := fun v => v = true) (ok_t (by decide +kernel) (ok_some rfl)) fun v hv => ok_t hv ?_)
    exact ok_some rfl
  | @thing n x h =>
    rw [w]; unfold M__law_marks; rw [bd_of (show ixD (tr (.thing x)) 0 = some (.str "thing") from rfl)]
    refine Ok.eq ?_
    refine ok_gd ⟨lit_ok (by decide +kernel), lit_ok (by decide +kernel)⟩ (ok_bd (Q := fun v => v = true) (ok_f (by decide +kernel) (ok_gd ⟨lit_ok (by decide +kernel), lit_ok (by decide +kernel)⟩ (ok_some (by decide +kernel)))) fun v hv => ok_t hv ?_)
    exact ok_some rfl
  | days p =>
    rw [w]; unfold M__law_marks; rw [bd_of (show ixD (tr (.days p)) 0 = some (.str "days") from rfl)]
    refine Ok.eq ?_
    refine ok_gd ⟨lit_ok (by decide +kernel), lit_ok (by decide +kernel)⟩ (ok_bd (Q := fun v => v = false) (ok_f (by decide +kernel) (ok_gd ⟨lit_ok (by decide +kernel), lit_ok (by decide +kernel)⟩ (ok_some (by decide +kernel)))) fun v hv => ok_f hv ?_)
    repeat (refine ok_gd ⟨lit_ok (by decide +kernel), lit_ok (by decide +kernel)⟩ ?_; first | refine ok_t (by decide +kernel) ?_ | refine ok_f (by decide +kernel) ?_)
    exact ok_some rfl
  | over c =>
    rw [w]; unfold M__law_marks; rw [bd_of (show ixD (tr (.over c)) 0 = some (.str "over") from rfl)]
    refine Ok.eq ?_
    refine ok_gd ⟨lit_ok (by decide +kernel), lit_ok (by decide +kernel)⟩ (ok_bd (Q := fun v => v = false) (ok_f (by decide +kernel) (ok_gd ⟨lit_ok (by decide +kernel), lit_ok (by decide +kernel)⟩ (ok_some (by decide +kernel)))) fun v hv => ok_f hv ?_)
    repeat (refine ok_gd ⟨lit_ok (by decide +kernel), lit_ok (by decide +kernel)⟩ ?_; first | refine ok_t (by decide +kernel) ?_ | refine ok_f (by decide +kernel) ?_)
    exact ok_some rfl
  | @notOf n c h ih =>
    rw [w]; unfold M__law_marks; rw [bd_of (show ixD (tr (.notOf c)) 0 = some (.str "not") from rfl)]
    refine Ok.eq ?_
    refine ok_gd ⟨lit_ok (by decide +kernel), lit_ok (by decide +kernel)⟩ (ok_bd (Q := fun v => v = false) (ok_f (by decide +kernel) (ok_gd ⟨lit_ok (by decide +kernel), lit_ok (by decide +kernel)⟩ (ok_some (by decide +kernel)))) fun v hv => ok_f hv ?_)
    repeat (refine ok_gd ⟨lit_ok (by decide +kernel), lit_ok (by decide +kernel)⟩ ?_; first | refine ok_t (by decide +kernel) ?_ | refine ok_f (by decide +kernel) ?_)
    rw [bd_of (show ixD (tr (.notOf c)) 1 = some (tr c) from rfl), bd_of (show Kn_lmarks (n + 1) (tr c) = some (mks c) from ih l)]
    exact ok_some rfl
  | @allOf n cs z h ih =>
    rw [w]; unfold M__law_marks; rw [bd_of (show ixD (tr (.allOf cs)) 0 = some (.str "all") from rfl)]
    refine Ok.eq ?_
    refine ok_gd ⟨lit_ok (by decide +kernel), lit_ok (by decide +kernel)⟩ (ok_bd (Q := fun v => v = false) (ok_f (by decide +kernel) (ok_gd ⟨lit_ok (by decide +kernel), lit_ok (by decide +kernel)⟩ (ok_some (by decide +kernel)))) fun v hv => ok_f hv ?_)
    repeat (refine ok_gd ⟨lit_ok (by decide +kernel), lit_ok (by decide +kernel)⟩ ?_; first | refine ok_t (by decide +kernel) ?_ | refine ok_f (by decide +kernel) ?_)
    refine ok_lt (ok_gd ⟨lit_ok (by decide +kernel), lit_ok (by decide +kernel)⟩ (ok_bd (Q := fun v => v = true) (ok_t (by decide +kernel) (ok_some rfl)) fun v hv => ?_))
    refine ok_bd (Q := fun v => v = mksL cs) (ok_t hv ?_) fun v hv => ok_some hv
    rw [bd_of (show ixD (tr (.allOf cs)) 1 = some (.lst (trL cs)) from rfl), bd_of (show asLD (.lst (trL cs)) = some (trL cs) from rfl)]
    rw [bd_of (ltrees_lp (f := Kn_lmarks (n + 1)) (a := []) (fun c m => ih c m (Nat.le_trans (mksL_le m) l)) (by show 0 + _ ≤ _; rw [Nat.zero_add]; exact l))]
    exact ok_some rfl
  | @someOf n cs z h ih =>
    rw [w]; unfold M__law_marks; rw [bd_of (show ixD (tr (.someOf cs)) 0 = some (.str "some") from rfl)]
    refine Ok.eq ?_
    refine ok_gd ⟨lit_ok (by decide +kernel), lit_ok (by decide +kernel)⟩ (ok_bd (Q := fun v => v = false) (ok_f (by decide +kernel) (ok_gd ⟨lit_ok (by decide +kernel), lit_ok (by decide +kernel)⟩ (ok_some (by decide +kernel)))) fun v hv => ok_f hv ?_)
    repeat (refine ok_gd ⟨lit_ok (by decide +kernel), lit_ok (by decide +kernel)⟩ ?_; first | refine ok_t (by decide +kernel) ?_ | refine ok_f (by decide +kernel) ?_)
    refine ok_lt (ok_gd ⟨lit_ok (by decide +kernel), lit_ok (by decide +kernel)⟩ (ok_bd (Q := fun v => v = true) (ok_f (by decide +kernel) (ok_gd ⟨lit_ok (by decide +kernel), lit_ok (by decide +kernel)⟩ (ok_some (by decide +kernel)))) fun v hv => ?_))
    refine ok_bd (Q := fun v => v = mksL cs) (ok_t hv ?_) fun v hv => ok_some hv
    rw [bd_of (show ixD (tr (.someOf cs)) 1 = some (.lst (trL cs)) from rfl), bd_of (show asLD (.lst (trL cs)) = some (trL cs) from rfl)]
    rw [bd_of (ltrees_lp (f := Kn_lmarks (n + 1)) (a := []) (fun c m => ih c m (Nat.le_trans (mksL_le m) l)) (by show 0 + _ ≤ _; rw [Nat.zero_add]; exact l))]
    exact ok_some rfl
/-! losses that no mark parts -/
structure Agr (ms : List (Str × D)) (l k : LOSS) : Prop where
  day : ∀ i, (("day" : Str), D.int i) ∈ ms → (i ≤ l.2.1 ↔ i ≤ k.2.1)
  cents : ∀ i, (("cents" : Str), D.int i) ∈ ms → (i < l.2.2.2.2.2 ↔ i < k.2.2.2.2.2)
  thing : ∀ x, (("thing" : Str), D.str x) ∈ ms → (l.2.2.2.1 = x ↔ k.2.2.2.1 = x)
  cause : ∀ x, (("cause" : Str), D.str x) ∈ ms → (l.2.2.2.2.1 = x ↔ k.2.2.2.2.1 = x)
theorem Agr.sub {ms ns : List (Str × D)} {l k : LOSS} (h : Agr ms l k) (s : ∀ m ∈ ns, m ∈ ms) : Agr ns l k :=
  ⟨fun i m => h.day i (s _ m), fun i m => h.cents i (s _ m), fun i m => h.thing i (s _ m), fun i m => h.cause i (s _ m)⟩
theorem beq_of {a b x : Str} (h : a = x ↔ b = x) : (a == x) = (b == x) := by
  rw [Bool.eq_iff_iff, beq_iff_eq, beq_iff_eq]; exact h
theorem hol_same {c : Cd} {l k : LOSS} (g : Gd c) (h : Agr (mks c) l k) : hol l c = hol k c := by
  induction g with
  | plain u => rfl
  | @cause x _ => exact beq_of (h.cause x List.mem_cons_self)
  | @thing x _ => exact beq_of (h.thing x List.mem_cons_self)
  | days p =>
    have h1 := h.day p.1 List.mem_cons_self
    have h2 := h.day (p.2 + 1) (List.mem_cons_of_mem _ List.mem_cons_self)
    show (decide (p.1 ≤ l.2.1) && decide (l.2.1 ≤ p.2)) = (decide (p.1 ≤ k.2.1) && decide (k.2.1 ≤ p.2))
    rw [decide_eq_decide.mpr h1, decide_eq_decide.mpr (show l.2.1 ≤ p.2 ↔ k.2.1 ≤ p.2 by omega)]
  | over c =>
    exact decide_eq_decide.mpr (h.cents c List.mem_cons_self)
  | notOf g ih => exact congrArg (!·) (ih h)
  | @allOf cs z g ih =>
    show holA l cs = holA k cs
    rw [holA_all, holA_all, Bool.eq_iff_iff, List.all_eq_true, List.all_eq_true]
    exact ⟨fun q c m => by rw [← ih c m (h.sub fun x y => mksL_mem.mpr ⟨c, m, y⟩)]; exact q c m, fun q c m => by rw [ih c m (h.sub fun x y => mksL_mem.mpr ⟨c, m, y⟩)]; exact q c m⟩
  | @someOf cs z g ih =>
    show holS l cs = holS k cs
    rw [holS_any, holS_any, Bool.eq_iff_iff, List.any_eq_true, List.any_eq_true]
    exact ⟨fun ⟨c, m, q⟩ => ⟨c, m, by rw [← ih c m (h.sub fun x y => mksL_mem.mpr ⟨c, m, y⟩)]; exact q⟩, fun ⟨c, m, q⟩ => ⟨c, m, by rw [ih c m (h.sub fun x y => mksL_mem.mpr ⟨c, m, y⟩)]; exact q⟩⟩
theorem eqv_ms (a : Str) (d : D) (b x : Str) : D.eqv (e_T_s_d (a, d)) (e_T_s_d (b, .str x)) = ((a == b) && D.eqv d (.str x)) := by
  show (PyData.eqv (.str a) (.str b) && (PyData.eqv d.py (.str x) && true)) = _
  rw [Bool.and_true]
  exact congrArg (· && _) (eqv_s a b)
theorem inDL_iff {due : List (Str × D)} (hs : ∀ m ∈ due, MSh m) (k x : Str) : inDL e_T_s_d due (e_T_s_d (k, .str x)) = true ↔ (k, D.str x) ∈ due := by
  unfold inDL
  rw [List.any_eq_true]
  constructor
  · rintro ⟨⟨a, d⟩, m, h⟩
    rw [eqv_ms, Bool.and_eq_true, beq_iff_eq] at h
    obtain ⟨rfl, h2⟩ := h
    have q := hs _ m
    cases q with
    | cause _ => rw [eqv_s, beq_iff_eq] at h2; subst h2; exact m
    | thing _ => rw [eqv_s, beq_iff_eq] at h2; subst h2; exact m
    | day i => exact nomatch h2
    | cents i => exact nomatch h2
  · intro m
    exact ⟨_, m, by rw [eqv_ms, Bool.and_eq_true, beq_self_eq_true, eqv_s, beq_self_eq_true]; exact ⟨rfl, rfl⟩⟩
theorem due_smp {due : List (Str × D)} (hs : ∀ m ∈ due, MSh m) : Smp 2 (.lst (due.map e_T_s_d)) := .lst (smps_map fun m h => (hs m h).ok.1)
theorem strs_smp {xs : List Str} (h : ∀ x ∈ xs, Sm x 17) : Smp 1 (.lst (xs.map D.str)) := .lst (smps_map fun x m => (h x m).smp)
theorem uname_ok {due : List (Str × D)} (hs : ∀ m ∈ due, MSh m) (hl : due.length ≤ 1000) {x k : Str} (hx : Sm x 17) (hk : Sm k 8) (n : Int) {names : List Str} (hn : ∀ y ∈ names, Sm y 17) (ln : names.length = 5) :
    Ok (M__law_unparted_name x due k n names) fun y => ∀ z, (k, D.str z) ∈ due → (x = z ↔ y = z) := by
  have s1 : ∀ y, Sm y 17 → Smp 1 (e_T_s_d (k, .str y)) := fun y hy => .tup (smps_cons hk.smp (smps_cons hy.smp smps_nil))
  unfold M__law_unparted_name
  refine ok_gd ⟨(s1 x hx).ok, (due_smp hs).ok⟩ (ok_cond (fun _ => ok_some fun z _ => Iff.rfl) fun h0 => ?_)
  have nx : (k, D.str x) ∉ due := fun m => by rw [(inDL_iff hs k x).mpr m] at h0; cases h0
  refine ok_bd (name_ok n) fun v2 ⟨a1, _⟩ => ok_gd (by rw [ln]; show 5 + 1 ≤ 16777216; decide) (ok_gd (by rw [List.length_append, ln]; show 5 + 1 < 16777216; decide) ?_)
  have hall : ∀ y ∈ names ++ [v2], Sm y 17 := fun y m => by
    rcases List.mem_append.mp m with m | m
    · exact hn y m
    · cases List.mem_singleton.mp m; exact a1.sm.mono (by omega)
  rw [bd_of (fmO_of (p := fun y => !(inDL e_T_s_d due (e_T_s_d (k, .str y)))) (g := fun y => y) (fun y m => by rw [gd_pos ⟨(s1 y (hall y m)).ok, (due_smp hs).ok⟩]) (fun y _ _ => rfl)), show (List.map (fun y : Str => y) _) = _ from List.map_id' _]
  generalize ef : (names ++ [v2]).filter _ = fs
  have hf : ∀ y ∈ fs, Sm y 17 ∧ (k, D.str y) ∉ due := fun y m => by
    rw [← ef, List.mem_filter] at m
    refine ⟨hall y m.1, fun q => ?_⟩
    have := m.2
    simp only [(inDL_iff hs k y).mpr q] at this
    cases this
  refine ok_gd ⟨(strs_smp fun y m => (hf y m).1).ok, (strs_smp (xs := []) fun _ m => (nomatch m)).ok⟩ (ok_cond (fun _ => ok_some fun z _ => Iff.rfl) fun h1 => ?_)
  have pos : 0 < (fs.length : Int) := by
    cases fs with
    | nil => cases h1
    | cons => rw [List.length_cons]; omega
  refine ok_gd pos (ok_bd (ok_atIm (Int.emod_nonneg _ (by omega)) (Int.emod_lt_of_pos _ pos) fun y m => (hf y m).2) fun y hy => ok_some fun z mz => ?_)
  exact ⟨fun e => absurd (e ▸ mz) nx, fun e => absurd (e ▸ mz) hy⟩
def iOf (d : D) : Int := (asI d).getD 0
theorem three {a b c : Int} {n : Int} {P : Int → Prop} (h0 : 0 ≤ n) (h3 : n < 3) (ha : P a) (hb : P b) (hc : P c) : Ok (L2.atI [a, b, c] n) P := ok_atIm h0 h3 fun y m => by
  simp only [List.mem_cons, List.not_mem_nil, or_false] at m
  rcases m with rfl | rfl | rfl
  · exact ha
  · exact hb
  · exact hc
theorem flt_ok {due : List (Str × D)} (hs : ∀ m ∈ due, MSh m) {k : Str} (hk : k = "day" ∨ k = "cents") (q : Int → Bool) (g : Int → Int) :
    fmO (fun x2 : (Str × D) => bd (cond ((x2.1 == k)) (bd (asI x2.2) fun v3 => some (q v3)) (some false)) fun v4 => some v4) (fun x2 : (Str × D) => bd (asI x2.2) fun v6 => some (g v6)) due = some ((due.filter fun x => (x.1 == k) && q (iOf x.2)).map fun x => g (iOf x.2)) := by
  refine fmO_of (fun x m => ?_) fun x m h => ?_
  · cases hs x m with
    | cause h => rcases hk with rfl | rfl <;> rfl
    | thing h => rcases hk with rfl | rfl <;> rfl
    | day i =>
      show bd (cond (("day" : Str) == k) _ _) _ = some ((("day" : Str) == k) && q i)
      cases (("day" : Str) == k) <;> rfl
    | cents i =>
      show bd (cond (("cents" : Str) == k) _ _) _ = some ((("cents" : Str) == k) && q i)
      cases (("cents" : Str) == k) <;> rfl
  · cases hs x m with
    | cause h' => rcases hk with rfl | rfl <;> cases h
    | thing h' => rcases hk with rfl | rfl <;> cases h
    | day i => rfl
    | cents i => rfl
theorem flt_mem {due : List (Str × D)} (hs : ∀ m ∈ due, MSh m) {k : Str} {q : Int → Bool} {g : Int → Int} {y : Int} (h : y ∈ (due.filter fun x => (x.1 == k) && q (iOf x.2)).map fun x => g (iOf x.2)) : ∃ i, q i = true ∧ y = g i := by
  obtain ⟨x, m, rfl⟩ := List.mem_map.mp h
  rw [List.mem_filter, Bool.and_eq_true] at m
  exact ⟨_, m.2.2, rfl⟩
theorem mem_flt {due : List (Str × D)} {k : Str} {q : Int → Bool} {g : Int → Int} {i : Int} (m : (k, D.int i) ∈ due) (h : q i = true) : g i ∈ (due.filter fun x => (x.1 == k) && q (iOf x.2)).map fun x => g (iOf x.2) :=
  List.mem_map.mpr ⟨_, List.mem_filter.mpr ⟨m, by rw [Bool.and_eq_true, beq_self_eq_true]; exact ⟨rfl, h⟩⟩, rfl⟩
theorem mx_ok {xs : List Int} {a b : Int} (h : a ≤ b) (hx : ∀ y ∈ xs, y ≤ b) : Ok (mxL ([a] ++ xs)) fun m => a ≤ m ∧ m ≤ b ∧ ∀ y ∈ xs, y ≤ m := by
  obtain ⟨h1, h2⟩ := mxL_is (ns := [a] ++ xs) rfl
  refine ⟨_, rfl, h2 a (List.mem_append_left _ List.mem_cons_self), ?_, fun y m => h2 y (List.mem_append_right _ m)⟩
  rcases List.mem_append.mp h1 with m | m
  · rw [List.mem_singleton.mp m]; exact h
  · exact hx _ m
theorem mn_ok {xs : List Int} {a b : Int} (h : b ≤ a) (hx : ∀ y ∈ xs, b ≤ y) : Ok (mnL ([a] ++ xs)) fun m => m ≤ a ∧ b ≤ m ∧ ∀ y ∈ xs, m ≤ y := by
  obtain ⟨h1, h2⟩ := mnL_is (ns := [a] ++ xs) rfl
  refine ⟨_, rfl, h2 a (List.mem_append_left _ List.mem_cons_self), ?_, fun y m => h2 y (List.mem_append_right _ m)⟩
  rcases List.mem_append.mp h1 with m | m
  · rw [List.mem_singleton.mp m]; exact h
  · exact hx _ m
theorem unparted_ok {due : List (Str × D)} (hs : ∀ m ∈ due, MSh m) (hl : due.length ≤ 1000) {l : LOSS} (sl : SmL l) {p : POOL} (hp : PoolOk p) (n : Int) : Ok (M__law_unparted l due p n) fun k => Agr due l k := by
  have fl : ∀ (q : Str × D → Bool) (g : Str × D → Int), ((due.filter q).map g).length ≤ 1000 := fun q g => by
    rw [List.length_map]
    exact Nat.le_trans (List.length_filter_le _ _) hl
  have z : due.length < sizeLine := by show _ < 16777216; omega
  have z1 : ∀ (q : Str × D → Bool) (g : Str × D → Int), 1 + ((due.filter q).map g).length ≤ sizeLine := fun q g => by
    have := fl q g
    show _ ≤ 16777216; omega
  unfold M__law_unparted
  refine ok_gd z ?_
  rw [bd_of (flt_ok hs (k := "day") (.inl rfl) (fun v => decide (v ≤ l.2.1)) fun v => v)]
  refine ok_gd (z1 _ _) (ok_bd (mx_ok (b := l.2.1) sl.d0 fun y m => by obtain ⟨i, h, rfl⟩ := flt_mem (k := "day") (q := fun v => decide (v ≤ l.2.1)) (g := fun v => v) hs m; exact of_decide_eq_true h) fun low ⟨w1, w2, w3⟩ => ok_gd z ?_)
  rw [bd_of (flt_ok hs (k := "day") (.inl rfl) (fun v => decide (l.2.1 < v)) fun v => v - 1)]
  refine ok_gd (z1 _ _) (ok_bd (mn_ok (b := l.2.1) sl.d1 fun y m => by obtain ⟨i, h, rfl⟩ := flt_mem (k := "day") (q := fun v => decide (l.2.1 < v)) (g := fun v => v - 1) hs m; have := of_decide_eq_true h; omega) fun high ⟨g1, g2, g3⟩ => ok_gd z ?_)
  rw [bd_of (flt_ok hs (k := "cents") (.inr rfl) (fun v => decide (v < l.2.2.2.2.2)) fun v => v + 1)]
  refine ok_gd (z1 _ _) (ok_bd (mx_ok (b := l.2.2.2.2.2) sl.c0 fun y m => by obtain ⟨i, h, rfl⟩ := flt_mem (k := "cents") (q := fun v => decide (v < l.2.2.2.2.2)) (g := fun v => v + 1) hs m; have := of_decide_eq_true h; omega) fun least ⟨p1, p2, p3⟩ => ok_gd z ?_)
  rw [bd_of (flt_ok hs (k := "cents") (.inr rfl) (fun v => decide (l.2.2.2.2.2 ≤ v)) fun v => v)]
  refine ok_gd (z1 _ _) (ok_bd (mn_ok (b := l.2.2.2.2.2) sl.c1 fun y m => by obtain ⟨i, h, rfl⟩ := flt_mem (k := "cents") (q := fun v => decide (l.2.2.2.2.2 ≤ v)) (g := fun v => v) hs m; exact of_decide_eq_true h) fun most ⟨r1, r2, r3⟩ => ok_gd (by omega) ?_)
  have e1 := Int.emod_nonneg n (show (high - low) + 1 ≠ 0 by omega)
  have e2 := Int.emod_lt_of_pos n (show 0 < (high - low) + 1 by omega)
  have e3 := Int.emod_nonneg (n * 739) (show (most - least) + 1 ≠ 0 by omega)
  have e4 := Int.emod_lt_of_pos (n * 739) (show 0 < (most - least) + 1 by omega)
  refine ok_bd (three (P := fun d => low ≤ d ∧ d ≤ high) (by omega) (by omega) (by omega) (by omega) (by omega)) fun day hd => ok_gd (by omega) (ok_bd (three (P := fun d => least ≤ d ∧ d ≤ most) (by omega) (by omega) (by omega) (by omega) (by omega)) fun cents hc => ?_)
  refine ok_bd (uname_ok hs hl sl.thing (sm_lit (by decide +kernel)) _ hp.sm hp.l1) fun th ht => ok_bd (uname_ok hs hl sl.cause (sm_lit (by decide +kernel)) _ hp.sm hp.l1) fun ca hca => ok_some ⟨fun i m => ?_, fun i m => ?_, ht, hca⟩
  · show i ≤ l.2.1 ↔ i ≤ day
    constructor
    · intro h
      have := w3 i (mem_flt (q := fun v => decide (v ≤ l.2.1)) (g := fun v => v) m (decide_eq_true h))
      omega
    · intro h
      by_cases c : i ≤ l.2.1
      · exact c
      · have := g3 (i - 1) (mem_flt (q := fun v => decide (l.2.1 < v)) (g := fun v => v - 1) m (decide_eq_true (show l.2.1 < i by omega)))
        omega
  · show i < l.2.2.2.2.2 ↔ i < cents
    constructor
    · intro h
      have := p3 (i + 1) (mem_flt (q := fun v => decide (v < l.2.2.2.2.2)) (g := fun v => v + 1) m (decide_eq_true h))
      omega
    · intro h
      by_cases c : i < l.2.2.2.2.2
      · exact c
      · have := r3 i (mem_flt (q := fun v => decide (l.2.2.2.2.2 ≤ v)) (g := fun v => v) m (decide_eq_true (show l.2.2.2.2.2 ≤ i by omega)))
        omega
theorem law_true (ns : List Int) (h : ns.length ≤ 63) : M_law ns = some true := by
  unfold M_law
  refine Ok.eq (ok_bd pools_ok fun p hp => ok_bd (tree_ok hp (by omega) (by omega)) fun d1 ⟨c, e1, m1, gc, w60, _⟩ => ?_)
  subst e1
  have ml := mks_len gc
  have ms := mks_sh gc
  have a1 : Mf__law_made 64 (tr c) = some c := made_ok (m1.up (by omega))
  have a2 : Mf__law_marks 64 (tr c) = some (mks c) := lmarks_ok (m1.up (by omega)) (by omega)
  have a3 : U_Cd_marks (Kn_marks 64) c = some (mks c) := marks_ok m1 (by omega) 64 (by omega)
  have a4 : ∀ l : LOSS, U_Cd_holds (Kn_holds 64) c l = some (hol l c) := fun l => holds_ok l (m1.up (by omega))
  have a5 := marks_same (xs := mks c) (by omega) fun m mm => (ms m mm).ok
  rw [bd_of a1, bd_of a2, bd_of a3, bd_of a5]
  refine ok_f rfl (ok_gd (by show _ < 16777216; omega) (ok_lt ?_))
  refine ok_bd (ok_lpN (Q := fun o => o = .nx ()) (fun _ _ => True) trivial (fun i x v hx _ => ?_) fun v _ => rfl) fun o ho => ?_
  · have x12 : x < 12 := List.mem_range.mp (List.mem_of_getElem? hx)
    refine ok_bd (loss_ok hp (by omega) (by omega)) fun l sl => ok_bd (cell0 (by omega) (by omega)) fun v12 _ => ok_bd (mix0 _ (by omega) (by omega)) fun v13 _ => ok_bd (unparted_ok ms (by omega) sl hp v13) fun k ag => ?_
    rw [bd_of (a4 l), bd_of (a4 k), hol_same gc ag]
    exact ok_f (by rw [beq_self_eq_true]; rfl) (ok_some ⟨(), .inl rfl, trivial⟩)
  · subst ho
    show Ok (bd (U_Cd_marks (Kn_marks 64) c) _) _
    rw [bd_of a3, bd_of a5]
    exact ok_some rfl
abbrev N_law : List Str := ["_law_script", "_law_pools_here", "_law_tree_here", "_law_made_here", "_law_due", "_law_told", "_law_k", "_law_loss_here", "_law_other_here", "_law_one", "_law_two"]
theorem sc_law : FnScope N_law ["_law_script"] (defScope s_law) := ⟨rfl, rfl, rfl, by decide +kernel, rfl, by decide +kernel, by decide +kernel⟩
theorem ok_law {f : Addr} {fd : FuncData} (F : Fun K "law" "law" s_law f fd) (z_range : mg "range" = none) (z_isinstance : mg "isinstance" = none) (z_bool : mg "bool" = none) (o_Condition : OC K C_Condition []) (o_CauseIs : OC K C_CauseIs ["name"]) (o_ThingIs : OC K C_ThingIs ["name"]) (o_DaysIn : OC K C_DaysIn ["first", "last"]) (o_Over : OC K C_Over ["cents"]) (o_Not : OC K C_Not ["part"]) (o_All : OC K C_All ["several"]) (o_Some : OC K C_Some ["several"]) (c__law_pools : Fn1 P w K mg base "_law_pools" 2 ["_law_script"] (sp__law_pools K)) (c__law_tree : Fn1 P w K mg base "_law_tree" 4 ["_law_script", "_law_start", "_law_pools_here"] (sp__law_tree K)) (c__law_made : Fn1 P w K mg base "_law_made" 66 ["_law_tree_here"] (sp__law_made K C_Condition C_CauseIs C_ThingIs C_DaysIn C_Over C_Not C_All C_Some 64)) (c__law_marks : Fn1 P w K mg base "_law_marks" 64 ["_law_tree_here"] (sp__law_marks K 64)) (m_Condition_marks : Mt1 P w K mg base C_Condition "marks" 1 ["self"] (sp_Condition_marks K C_Condition C_CauseIs C_ThingIs C_DaysIn C_Over C_Not C_All C_Some)) (m_CauseIs_marks : Mt1 P w K mg base C_CauseIs "marks" 1 ["self"] (sp_CauseIs_marks K C_CauseIs)) (m_ThingIs_marks : Mt1 P w K mg base C_ThingIs "marks" 1 ["self"] (sp_ThingIs_marks K C_ThingIs)) (m_DaysIn_marks : Mt1 P w K mg base C_DaysIn "marks" 1 ["self"] (sp_DaysIn_marks K C_DaysIn)) (m_Over_marks : Mt1 P w K mg base C_Over "marks" 1 ["self"] (sp_Over_marks K C_Over)) (m_Not_marks : Mt1 P w K mg base C_Not "marks" 65 ["self"] (sp_Not_marks K C_Not C_Condition C_CauseIs C_ThingIs C_DaysIn C_Over C_All C_Some 64)) (m_All_marks : Mt1 P w K mg base C_All "marks" 65 ["self"] (sp_All_marks K C_All C_Condition C_CauseIs C_ThingIs C_DaysIn C_Over C_Not C_Some 64)) (m_Some_marks : Mt1 P w K mg base C_Some "marks" 65 ["self"] (sp_Some_marks K C_Some C_Condition C_CauseIs C_ThingIs C_DaysIn C_Over C_Not C_All 64)) (c__law_marks_are : Fn1 P w K mg base "_law_marks_are" 2 ["_law_found", "_law_due"] (sp__law_marks_are K)) (c__law_loss : Fn1 P w K mg base "_law_loss" 2 ["_law_script", "_law_k", "_law_pools_here"] (sp__law_loss K)) (c__law_cell : Fn1 P w K mg base "_law_cell" 1 ["_law_script", "_law_k"] (sp__law_cell K)) (c__law_mix : Fn1 P w K mg base "_law_mix" 1 ["_law_number", "_law_k"] (sp__law_mix K)) (c__law_unparted : Fn1 P w K mg base "_law_unparted" 3 ["_law_loss_here", "_law_due", "_law_pools_here", "_law_number"] (sp__law_unparted K)) (m_Condition_holds : Mt1 P w K mg base C_Condition "holds" 1 ["self", "loss"] (sp_Condition_holds K C_Condition C_CauseIs C_ThingIs C_DaysIn C_Over C_Not C_All C_Some)) (m_CauseIs_holds : Mt1 P w K mg base C_CauseIs "holds" 1 ["self", "loss"] (sp_CauseIs_holds K C_CauseIs)) (m_ThingIs_holds : Mt1 P w K mg base C_ThingIs "holds" 1 ["self", "loss"] (sp_ThingIs_holds K C_ThingIs)) (m_DaysIn_holds : Mt1 P w K mg base C_DaysIn "holds" 1 ["self", "loss"] (sp_DaysIn_holds K C_DaysIn)) (m_Over_holds : Mt1 P w K mg base C_Over "holds" 1 ["self", "loss"] (sp_Over_holds K C_Over)) (m_Not_holds : Mt1 P w K mg base C_Not "holds" 65 ["self", "loss"] (sp_Not_holds K C_Not C_Condition C_CauseIs C_ThingIs C_DaysIn C_Over C_All C_Some 64)) (m_All_holds : Mt1 P w K mg base C_All "holds" 65 ["self", "loss"] (sp_All_holds K C_All C_Condition C_CauseIs C_ThingIs C_DaysIn C_Over C_Not C_Some 64)) (m_Some_holds : Mt1 P w K mg base C_Some "holds" 65 ["self", "loss"] (sp_Some_holds K C_Some C_Condition C_CauseIs C_ThingIs C_DaysIn C_Over C_Not C_All 64)) : FnOk P w K mg base CX0 67 f fd ["_law_script"] (spLaw K) := by
  refine fn_m F sc_law (fun x => rfl) (fun x _ => rfl) fun cdv A outer s H E hr script hx => ?_
  have hx : M_law script = some true := law_true script hx
  have nd := sc_law.nd
  unfold M_law at hx
  show MS _ [some (.vw (script.map D.int)), none, none, none, none, none, none, none, none, none, none] _ _
  replace hx := bd_some hx
  obtain ⟨v1, hv1, hx⟩ := hx
  refine ms_cons (m_set (ps_set (i := 1) nd rfl (Or.inl rfl) pe_w) (me_fn c__law_pools (script, v1) (ma_vw (ml_var (pv 0) rfl) ma_nil) hv1 (hr.mono (by decide))) ?_)
  show MS _ [some (.vw (script.map D.int)), some (.fz (e_T_L_s_L_i_L_i v1)), none, none, none, none, none, none, none, none, none] _ _
  replace hx := bd_some hx
  obtain ⟨v2, hv2, hx⟩ := hx
  refine ms_cons (m_set (ps_set (i := 2) nd rfl (Or.inl rfl) pe_w) (me_fn c__law_tree ((script, 4, v1), v2) (ma_vw (ml_var (pv 0) rfl) (ma_fz me_int (ma_fz (me_var (pv 1) rfl) ma_nil))) hv2 (hr.mono (by decide))) ?_)
  show MS _ [some (.vw (script.map D.int)), some (.fz (e_T_L_s_L_i_L_i v1)), some (.fz v2), none, none, none, none, none, none, none, none] _ _
  replace hx := bd_some hx
  obtain ⟨v3, hv3, hx⟩ := hx
  refine ms_cons (m_set (ps_set (i := 3) nd rfl (Or.inl rfl) pe_w) (me_fn c__law_made (v2, v3) (ma_fz (me_var (pv 2) rfl) ma_nil) hv3 (hr.mono (by decide))) ?_)
  show MS _ [some (.vw (script.map D.int)), some (.fz (e_T_L_s_L_i_L_i v1)), some (.fz v2), some (.fz ((u_Cd C_Condition C_CauseIs C_ThingIs C_DaysIn C_Over C_Not C_All C_Some) v3)), none, none, none, none, none, none, none] _ _
  replace hx := bd_some hx
  obtain ⟨v4, hv4, hx⟩ := hx
  refine ms_cons (m_set (ps_set (i := 4) nd rfl (Or.inl rfl) pe_w) (me_fn c__law_marks (v2, v4) (ma_fz (me_var (pv 2) rfl) ma_nil) hv4 (hr.mono (by decide))) ?_)
  show MS _ [some (.vw (script.map D.int)), some (.fz (e_T_L_s_L_i_L_i v1)), some (.fz v2), some (.fz ((u_Cd C_Condition C_CauseIs C_ThingIs C_DaysIn C_Over C_Not C_All C_Some) v3)), some (.lst ((v4.map e_T_s_d).map .fz)), none, none, none, none, none, none] _ _
  replace hx := bd_some hx
  obtain ⟨v5, hv5, hx⟩ := hx
  refine ms_cons (m_set (ps_set (i := 5) nd rfl (Or.inl rfl) pe_w) (show ME _ _ _ (.lst ((v5.map e_T_s_d).map .fz)) from by obtain ⟨cc, hv⟩ : ∃ cc, v3 = cc := ⟨_, rfl⟩; cases cc with | plain p => exact me_mt0 m_Condition_marks o_Condition ((.plain p), v5) (MV.as (mv_var (pv 3) rfl) (congrArg (u_Cd C_Condition C_CauseIs C_ThingIs C_DaysIn C_Over C_Not C_All C_Some) hv)) rfl ((congrArg (fun q => U_Cd_marks (Kn_marks 64) q ) hv).symm.trans hv5) (hr.mono (by decide)) | cause p => exact me_mt0 m_CauseIs_marks o_CauseIs (p, v5) (MV.as (mv_var (pv 3) rfl) ((congrArg (u_Cd C_Condition C_CauseIs C_ThingIs C_DaysIn C_Over C_Not C_All C_Some) hv).trans (u_Cd_cause C_Condition C_CauseIs C_ThingIs C_DaysIn C_Over C_Not C_All C_Some _))) rfl ((congrArg (fun q => U_Cd_marks (Kn_marks 64) q ) hv).symm.trans hv5) (hr.mono (by decide)) | thing p => exact me_mt0 m_ThingIs_marks o_ThingIs (p, v5) (MV.as (mv_var (pv 3) rfl) ((congrArg (u_Cd C_Condition C_CauseIs C_ThingIs C_DaysIn C_Over C_Not C_All C_Some) hv).trans (u_Cd_thing C_Condition C_CauseIs C_ThingIs C_DaysIn C_Over C_Not C_All C_Some _))) rfl ((congrArg (fun q => U_Cd_marks (Kn_marks 64) q ) hv).symm.trans hv5) (hr.mono (by decide)) | days p => exact me_mt0 m_DaysIn_marks o_DaysIn (p, v5) (MV.as (mv_var (pv 3) rfl) ((congrArg (u_Cd C_Condition C_CauseIs C_ThingIs C_DaysIn C_Over C_Not C_All C_Some) hv).trans (u_Cd_days C_Condition C_CauseIs C_ThingIs C_DaysIn C_Over C_Not C_All C_Some _))) rfl ((congrArg (fun q => U_Cd_marks (Kn_marks 64) q ) hv).symm.trans hv5) (hr.mono (by decide)) | over p => exact me_mt0 m_Over_marks o_Over (p, v5) (MV.as (mv_var (pv 3) rfl) ((congrArg (u_Cd C_Condition C_CauseIs C_ThingIs C_DaysIn C_Over C_Not C_All C_Some) hv).trans (u_Cd_over C_Condition C_CauseIs C_ThingIs C_DaysIn C_Over C_Not C_All C_Some _))) rfl ((congrArg (fun q => U_Cd_marks (Kn_marks 64) q ) hv).symm.trans hv5) (hr.mono (by decide)) | notOf p => exact me_mt0 m_Not_marks o_Not (p, v5) (MV.as (mv_var (pv 3) rfl) ((congrArg (u_Cd C_Condition C_CauseIs C_ThingIs C_DaysIn C_Over C_Not C_All C_Some) hv).trans (u_Cd_notOf C_Condition C_CauseIs C_ThingIs C_DaysIn C_Over C_Not C_All C_Some _))) rfl ((congrArg (fun q => U_Cd_marks (Kn_marks 64) q ) hv).symm.trans hv5) (hr.mono (by decide)) | allOf p => exact me_mt0 m_All_marks o_All (p, v5) (MV.as (mv_var (pv 3) rfl) ((congrArg (u_Cd C_Condition C_CauseIs C_ThingIs C_DaysIn C_Over C_Not C_All C_Some) hv).trans (u_Cd_allOf C_Condition C_CauseIs C_ThingIs C_DaysIn C_Over C_Not C_All C_Some _))) rfl ((congrArg (fun q => U_Cd_marks (Kn_marks 64) q ) hv).symm.trans hv5) (hr.mono (by decide)) | someOf p => exact me_mt0 m_Some_marks o_Some (p, v5) (MV.as (mv_var (pv 3) rfl) ((congrArg (u_Cd C_Condition C_CauseIs C_ThingIs C_DaysIn C_Over C_Not C_All C_Some) hv).trans (u_Cd_someOf C_Condition C_CauseIs C_ThingIs C_DaysIn C_Over C_Not C_All C_Some _))) rfl ((congrArg (fun q => U_Cd_marks (Kn_marks 64) q ) hv).symm.trans hv5) (hr.mono (by decide))) ?_)
  show MS _ [some (.vw (script.map D.int)), some (.fz (e_T_L_s_L_i_L_i v1)), some (.fz v2), some (.fz ((u_Cd C_Condition C_CauseIs C_ThingIs C_DaysIn C_Over C_Not C_All C_Some) v3)), some (.lst ((v4.map e_T_s_d).map .fz)), some (.lst ((v5.map e_T_s_d).map .fz)), none, none, none, none, none] _ _
  replace hx := bd_some hx
  obtain ⟨v6, hv6, hx⟩ := hx
  refine ms_cons (m_if (t := (!v6)) (mt_not (mt_val (me_fn c__law_marks_are ((v5, v4), v6) (ma_vw (ml_var (pv 5) rfl) (ma_vw (ml_var (pv 4) rfl) ma_nil)) hv6 (hr.mono (by decide))))) (fun h => ?_) fun h => ms_nil ?_)
  · replace hx := cond_t hx h
    refine ms_one (m_ret (ps_ret pe_w) (ME.r me_bl) ?_)
    first | (cases hx; done) | (cases hx; rfl) | (injection hx with hx; show O.fz (.bl _) = O.fz (.bl true); rw [hx])
  replace hx := cond_f hx h
  replace hx := gd_some hx
  obtain ⟨g7, hx⟩ := hx
  replace hx := lt_some hx
  obtain ⟨told, etold, hx⟩ := hx
  refine ms_cons (m_appendT (i := 5) (xs := v5) (enc := e_T_s_d) (y := (("day" : Str), (.int (7 : Int)))) g7 (pv _) rfl (me_tup (mf_cons me_str (mf_cons me_int mf_nil))) ?_)
  rw [← etold]
  show MS _ [some (.vw (script.map D.int)), some (.fz (e_T_L_s_L_i_L_i v1)), some (.fz v2), some (.fz ((u_Cd C_Condition C_CauseIs C_ThingIs C_DaysIn C_Over C_Not C_All C_Some) v3)), some (.lst ((v4.map e_T_s_d).map .fz)), some (.lst ((told.map e_T_s_d).map .fz)), none, none, none, none, none] _ _
  replace hx := bd_some hx
  obtain ⟨o10, ho10, hx⟩ := hx
  refine ms_cons (m_forO (xs := (List.range (12 : Int).toNat)) (enc := (fun k : Nat => D.int (k : Nat))) (ps_for PassesOwn.never rfl (pi_range1 (by rfl) z_range pa_w) (pg_name (i := 6) nd rfl (Or.inl rfl)) pss_w) (by exact (mi_rangeT (mf_cons me_int mf_nil) ⟨by decide, by decide⟩)) ho10 (fun p8 => [some (.vw (script.map D.int)), some (.fz (e_T_L_s_L_i_L_i v1)), some (.fz v2), some (.fz ((u_Cd C_Condition C_CauseIs C_ThingIs C_DaysIn C_Over C_Not C_All C_Some) v3)), some (.lst ((v4.map e_T_s_d).map .fz)), some (.lst ((told.map e_T_s_d).map .fz)), none, none, none, none, none]) (fun r => .fz (.bl r)) le_auto (fun x9 p8 p8o mx hx => ?_) (fun p8 τ e le => ?_) fun q e => ?_)
  ·
    refine ⟨_, _, mg_name, ?_⟩
    show MS _ [some (.vw (script.map D.int)), some (.fz (e_T_L_s_L_i_L_i v1)), some (.fz v2), some (.fz ((u_Cd C_Condition C_CauseIs C_ThingIs C_DaysIn C_Over C_Not C_All C_Some) v3)), some (.lst ((v4.map e_T_s_d).map .fz)), some (.lst ((told.map e_T_s_d).map .fz)), some (.fz (.int (x9 : Int))), none, none, none, none] _ _
    replace hx := bd_some hx
    obtain ⟨v11, hv11, hx⟩ := hx
    refine ms_cons (m_set (ps_set (i := 7) nd rfl (Or.inl rfl) pe_w) (me_fn c__law_loss ((script, (4 + (5 * (x9 : Int))), v1), v11) (ma_vw (ml_var (pv 0) rfl) (ma_fz (me_add me_int (me_mul me_int (me_var (pv 6) rfl) (.inl ⟨by decide, by decide⟩))) (ma_fz (me_var (pv 1) rfl) ma_nil))) hv11 (hr.mono (by decide))) ?_)
    show MS _ [some (.vw (script.map D.int)), some (.fz (e_T_L_s_L_i_L_i v1)), some (.fz v2), some (.fz ((u_Cd C_Condition C_CauseIs C_ThingIs C_DaysIn C_Over C_Not C_All C_Some) v3)), some (.lst ((v4.map e_T_s_d).map .fz)), some (.lst ((told.map e_T_s_d).map .fz)), some (.fz (.int (x9 : Int))), some (.fz (e_T_i_i_s_s_s_i v11)), none, none, none] _ _
    replace hx := bd_some hx
    obtain ⟨v12, hv12, hx⟩ := hx
    replace hx := bd_some hx
    obtain ⟨v13, hv13, hx⟩ := hx
    replace hx := bd_some hx
    obtain ⟨v14, hv14, hx⟩ := hx
    refine ms_cons (m_set (ps_set (i := 8) nd rfl (Or.inl rfl) pe_w) (me_fn c__law_unparted ((v11, v4, v1, v13), v14) (ma_fz (me_var (pv 7) rfl) (ma_vw (ml_var (pv 4) rfl) (ma_fz (me_var (pv 1) rfl) (ma_fz (me_fn c__law_mix ((v12, (x9 : Int)), v13) (ma_fz (me_fn c__law_cell ((script, (4 + (5 * (x9 : Int)))), v12) (ma_vw (ml_var (pv 0) rfl) (ma_fz (me_add me_int (me_mul me_int (me_var (pv 6) rfl) (.inl ⟨by decide, by decide⟩))) ma_nil)) hv12 (hr.mono (by decide))) (ma_fz (me_var (pv 6) rfl) ma_nil)) hv13 (hr.mono (by decide))) ma_nil)))) hv14 (hr.mono (by decide))) ?_)
    show MS _ [some (.vw (script.map D.int)), some (.fz (e_T_L_s_L_i_L_i v1)), some (.fz v2), some (.fz ((u_Cd C_Condition C_CauseIs C_ThingIs C_DaysIn C_Over C_Not C_All C_Some) v3)), some (.lst ((v4.map e_T_s_d).map .fz)), some (.lst ((told.map e_T_s_d).map .fz)), some (.fz (.int (x9 : Int))), some (.fz (e_T_i_i_s_s_s_i v11)), some (.fz (e_T_i_i_s_s_s_i v14)), none, none] _ _
    replace hx := bd_some hx
    obtain ⟨v15, hv15, hx⟩ := hx
    refine ms_cons (m_set (ps_set (i := 9) nd rfl (Or.inl rfl) pe_w) (show ME _ _ _ (.fz (.bl v15)) from by obtain ⟨cc, hv⟩ : ∃ cc, v3 = cc := ⟨_, rfl⟩; cases cc with | plain p => exact me_mt m_Condition_holds o_Condition (((.plain p), v11), v15) (MV.as (mv_var (pv 3) rfl) (congrArg (u_Cd C_Condition C_CauseIs C_ThingIs C_DaysIn C_Over C_Not C_All C_Some) hv)) (ma_fz (me_var (pv 7) rfl) ma_nil) rfl ((congrArg (fun q => U_Cd_holds (Kn_holds 64) q v11) hv).symm.trans hv15) (hr.mono (by decide)) | cause p => exact me_mt m_CauseIs_holds o_CauseIs ((p, v11), v15) (MV.as (mv_var (pv 3) rfl) ((congrArg (u_Cd C_Condition C_CauseIs C_ThingIs C_DaysIn C_Over C_Not C_All C_Some) hv).trans (u_Cd_cause C_Condition C_CauseIs C_ThingIs C_DaysIn C_Over C_Not C_All C_Some _))) (ma_fz (me_var (pv 7) rfl) ma_nil) rfl ((congrArg (fun q => U_Cd_holds (Kn_holds 64) q v11) hv).symm.trans hv15) (hr.mono (by decide)) | thing p => exact me_mt m_ThingIs_holds o_ThingIs ((p, v11), v15) (MV.as (mv_var (pv 3) rfl) ((congrArg (u_Cd C_Condition C_CauseIs C_ThingIs C_DaysIn C_Over C_Not C_All C_Some) hv).trans (u_Cd_thing C_Condition C_CauseIs C_ThingIs C_DaysIn C_Over C_Not C_All C_Some _))) (ma_fz (me_var (pv 7) rfl) ma_nil) rfl ((congrArg (fun q => U_Cd_holds (Kn_holds 64) q v11) hv).symm.trans hv15) (hr.mono (by decide)) | days p => exact me_mt m_DaysIn_holds o_DaysIn ((p, v11), v15) (MV.as (mv_var (pv 3) rfl) ((congrArg (u_Cd C_Condition C_CauseIs C_ThingIs C_DaysIn C_Over C_Not C_All C_Some) hv).trans (u_Cd_days C_Condition C_CauseIs C_ThingIs C_DaysIn C_Over C_Not C_All C_Some _))) (ma_fz (me_var (pv 7) rfl) ma_nil) rfl ((congrArg (fun q => U_Cd_holds (Kn_holds 64) q v11) hv).symm.trans hv15) (hr.mono (by decide)) | over p => exact me_mt m_Over_holds o_Over ((p, v11), v15) (MV.as (mv_var (pv 3) rfl) ((congrArg (u_Cd C_Condition C_CauseIs C_ThingIs C_DaysIn C_Over C_Not C_All C_Some) hv).trans (u_Cd_over C_Condition C_CauseIs C_ThingIs C_DaysIn C_Over C_Not C_All C_Some _))) (ma_fz (me_var (pv 7) rfl) ma_nil) rfl ((congrArg (fun q => U_Cd_holds (Kn_holds 64) q v11) hv).symm.trans hv15) (hr.mono (by decide)) | notOf p => exact me_mt m_Not_holds o_Not ((p, v11), v15) (MV.as (mv_var (pv 3) rfl) ((congrArg (u_Cd C_Condition C_CauseIs C_ThingIs C_DaysIn C_Over C_Not C_All C_Some) hv).trans (u_Cd_notOf C_Condition C_CauseIs C_ThingIs C_DaysIn C_Over C_Not C_All C_Some _))) (ma_fz (me_var (pv 7) rfl) ma_nil) rfl ((congrArg (fun q => U_Cd_holds (Kn_holds 64) q v11) hv).symm.trans hv15) (hr.mono (by decide)) | allOf p => exact me_mt m_All_holds o_All ((p, v11), v15) (MV.as (mv_var (pv 3) rfl) ((congrArg (u_Cd C_Condition C_CauseIs C_ThingIs C_DaysIn C_Over C_Not C_All C_Some) hv).trans (u_Cd_allOf C_Condition C_CauseIs C_ThingIs C_DaysIn C_Over C_Not C_All C_Some _))) (ma_fz (me_var (pv 7) rfl) ma_nil) rfl ((congrArg (fun q => U_Cd_holds (Kn_holds 64) q v11) hv).symm.trans hv15) (hr.mono (by decide)) | someOf p => exact me_mt m_Some_holds o_Some ((p, v11), v15) (MV.as (mv_var (pv 3) rfl) ((congrArg (u_Cd C_Condition C_CauseIs C_ThingIs C_DaysIn C_Over C_Not C_All C_Some) hv).trans (u_Cd_someOf C_Condition C_CauseIs C_ThingIs C_DaysIn C_Over C_Not C_All C_Some _))) (ma_fz (me_var (pv 7) rfl) ma_nil) rfl ((congrArg (fun q => U_Cd_holds (Kn_holds 64) q v11) hv).symm.trans hv15) (hr.mono (by decide))) ?_)
    show MS _ [some (.vw (script.map D.int)), some (.fz (e_T_L_s_L_i_L_i v1)), some (.fz v2), some (.fz ((u_Cd C_Condition C_CauseIs C_ThingIs C_DaysIn C_Over C_Not C_All C_Some) v3)), some (.lst ((v4.map e_T_s_d).map .fz)), some (.lst ((told.map e_T_s_d).map .fz)), some (.fz (.int (x9 : Int))), some (.fz (e_T_i_i_s_s_s_i v11)), some (.fz (e_T_i_i_s_s_s_i v14)), some (.fz (.bl v15)), none] _ _
    replace hx := bd_some hx
    obtain ⟨v16, hv16, hx⟩ := hx
    refine ms_cons (m_set (ps_set (i := 10) nd rfl (Or.inl rfl) pe_w) (show ME _ _ _ (.fz (.bl v16)) from by obtain ⟨cc, hv⟩ : ∃ cc, v3 = cc := ⟨_, rfl⟩; cases cc with | plain p => exact me_mt m_Condition_holds o_Condition (((.plain p), v14), v16) (MV.as (mv_var (pv 3) rfl) (congrArg (u_Cd C_Condition C_CauseIs C_ThingIs C_DaysIn C_Over C_Not C_All C_Some) hv)) (ma_fz (me_var (pv 8) rfl) ma_nil) rfl ((congrArg (fun q => U_Cd_holds (Kn_holds 64) q v14) hv).symm.trans hv16) (hr.mono (by decide)) | cause p => exact me_mt m_CauseIs_holds o_CauseIs ((p, v14), v16) (MV.as (mv_var (pv 3) rfl) ((congrArg (u_Cd C_Condition C_CauseIs C_ThingIs C_DaysIn C_Over C_Not C_All C_Some) hv).trans (u_Cd_cause C_Condition C_CauseIs C_ThingIs C_DaysIn C_Over C_Not C_All C_Some _))) (ma_fz (me_var (pv 8) rfl) ma_nil) rfl ((congrArg (fun q => U_Cd_holds (Kn_holds 64) q v14) hv).symm.trans hv16) (hr.mono (by decide)) | thing p => exact me_mt m_ThingIs_holds o_ThingIs ((p, v14), v16) (MV.as (mv_var (pv 3) rfl) ((congrArg (u_Cd C_Condition C_CauseIs C_ThingIs C_DaysIn C_Over C_Not C_All C_Some) hv).trans (u_Cd_thing C_Condition C_CauseIs C_ThingIs C_DaysIn C_Over C_Not C_All C_Some _))) (ma_fz (me_var (pv 8) rfl) ma_nil) rfl ((congrArg (fun q => U_Cd_holds (Kn_holds 64) q v14) hv).symm.trans hv16) (hr.mono (by decide)) | days p => exact me_mt m_DaysIn_holds o_DaysIn ((p, v14), v16) (MV.as (mv_var (pv 3) rfl) ((congrArg (u_Cd C_Condition C_CauseIs C_ThingIs C_DaysIn C_Over C_Not C_All C_Some) hv).trans (u_Cd_days C_Condition C_CauseIs C_ThingIs C_DaysIn C_Over C_Not C_All C_Some _))) (ma_fz (me_var (pv 8) rfl) ma_nil) rfl ((congrArg (fun q => U_Cd_holds (Kn_holds 64) q v14) hv).symm.trans hv16) (hr.mono (by decide)) | over p => exact me_mt m_Over_holds o_Over ((p, v14), v16) (MV.as (mv_var (pv 3) rfl) ((congrArg (u_Cd C_Condition C_CauseIs C_ThingIs C_DaysIn C_Over C_Not C_All C_Some) hv).trans (u_Cd_over C_Condition C_CauseIs C_ThingIs C_DaysIn C_Over C_Not C_All C_Some _))) (ma_fz (me_var (pv 8) rfl) ma_nil) rfl ((congrArg (fun q => U_Cd_holds (Kn_holds 64) q v14) hv).symm.trans hv16) (hr.mono (by decide)) | notOf p => exact me_mt m_Not_holds o_Not ((p, v14), v16) (MV.as (mv_var (pv 3) rfl) ((congrArg (u_Cd C_Condition C_CauseIs C_ThingIs C_DaysIn C_Over C_Not C_All C_Some) hv).trans (u_Cd_notOf C_Condition C_CauseIs C_ThingIs C_DaysIn C_Over C_Not C_All C_Some _))) (ma_fz (me_var (pv 8) rfl) ma_nil) rfl ((congrArg (fun q => U_Cd_holds (Kn_holds 64) q v14) hv).symm.trans hv16) (hr.mono (by decide)) | allOf p => exact me_mt m_All_holds o_All ((p, v14), v16) (MV.as (mv_var (pv 3) rfl) ((congrArg (u_Cd C_Condition C_CauseIs C_ThingIs C_DaysIn C_Over C_Not C_All C_Some) hv).trans (u_Cd_allOf C_Condition C_CauseIs C_ThingIs C_DaysIn C_Over C_Not C_All C_Some _))) (ma_fz (me_var (pv 8) rfl) ma_nil) rfl ((congrArg (fun q => U_Cd_holds (Kn_holds 64) q v14) hv).symm.trans hv16) (hr.mono (by decide)) | someOf p => exact me_mt m_Some_holds o_Some ((p, v14), v16) (MV.as (mv_var (pv 3) rfl) ((congrArg (u_Cd C_Condition C_CauseIs C_ThingIs C_DaysIn C_Over C_Not C_All C_Some) hv).trans (u_Cd_someOf C_Condition C_CauseIs C_ThingIs C_DaysIn C_Over C_Not C_All C_Some _))) (ma_fz (me_var (pv 8) rfl) ma_nil) rfl ((congrArg (fun q => U_Cd_holds (Kn_holds 64) q v14) hv).symm.trans hv16) (hr.mono (by decide))) ?_)
    show MS _ [some (.vw (script.map D.int)), some (.fz (e_T_L_s_L_i_L_i v1)), some (.fz v2), some (.fz ((u_Cd C_Condition C_CauseIs C_ThingIs C_DaysIn C_Over C_Not C_All C_Some) v3)), some (.lst ((v4.map e_T_s_d).map .fz)), some (.lst ((told.map e_T_s_d).map .fz)), some (.fz (.int (x9 : Int))), some (.fz (e_T_i_i_s_s_s_i v11)), some (.fz (e_T_i_i_s_s_s_i v14)), some (.fz (.bl v15)), some (.fz (.bl v16))] _ _
    refine ms_one (m_if (t := ((!true) || ((!true) || (!(v15 == v16))))) (MW.t (mw_or (mt_not (mt_val (me_isi (k := true) (by rfl) z_isinstance (pe_bltn (v := .ty "bool") (by rfl) z_bool (by decide +kernel) rfl) (mv_var (pv 9) rfl) rfl (by decide +kernel)))) fun _ => (mw_or (mt_not (mt_val (me_isi (k := true) (by rfl) z_isinstance (pe_bltn (v := .ty "bool") (by rfl) z_bool (by decide +kernel) rfl) (mv_var (pv 10) rfl) rfl (by decide +kernel)))) fun _ => (mw_or1 (mt_neB (me_var (pv 9) rfl) (me_var (pv 10) rfl)))))) (fun h => ?_) fun h => ms_nil ?_)
    · replace hx := cond_t hx h
      refine ms_one (m_ret (ps_ret pe_w) (ME.r me_bl) ?_)
      cases hx; exact ⟨_, rfl, rfl⟩
    replace hx := cond_f hx h
    cases hx; exact ⟨_, rfl, le_auto⟩
  · subst e
    dsimp only [ouR] at hx
    refine ms_le le ?_
    show MS _ [some (.vw (script.map D.int)), some (.fz (e_T_L_s_L_i_L_i v1)), some (.fz v2), some (.fz ((u_Cd C_Condition C_CauseIs C_ThingIs C_DaysIn C_Over C_Not C_All C_Some) v3)), some (.lst ((v4.map e_T_s_d).map .fz)), some (.lst ((told.map e_T_s_d).map .fz)), none, none, none, none, none] _ _
    replace hx := bd_some hx
    obtain ⟨v17, hv17, hx⟩ := hx
    replace hx := bd_some hx
    obtain ⟨v18, hv18, hx⟩ := hx
    refine ms_one (m_ret (ps_ret pe_w) (ME.r (me_fn c__law_marks_are ((v17, v4), v18) (ma_vw (ME.l (show ME _ _ _ (.lst ((v17.map e_T_s_d).map .fz)) from by obtain ⟨cc, hv⟩ : ∃ cc, v3 = cc := ⟨_, rfl⟩; cases cc with | plain p => exact me_mt0 m_Condition_marks o_Condition ((.plain p), v17) (MV.as (mv_var (pv 3) rfl) (congrArg (u_Cd C_Condition C_CauseIs C_ThingIs C_DaysIn C_Over C_Not C_All C_Some) hv)) rfl ((congrArg (fun q => U_Cd_marks (Kn_marks 64) q ) hv).symm.trans hv17) (hr.mono (by decide)) | cause p => exact me_mt0 m_CauseIs_marks o_CauseIs (p, v17) (MV.as (mv_var (pv 3) rfl) ((congrArg (u_Cd C_Condition C_CauseIs C_ThingIs C_DaysIn C_Over C_Not C_All C_Some) hv).trans (u_Cd_cause C_Condition C_CauseIs C_ThingIs C_DaysIn C_Over C_Not C_All C_Some _))) rfl ((congrArg (fun q => U_Cd_marks (Kn_marks 64) q ) hv).symm.trans hv17) (hr.mono (by decide)) | thing p => exact me_mt0 m_ThingIs_marks o_ThingIs (p, v17) (MV.as (mv_var (pv 3) rfl) ((congrArg (u_Cd C_Condition C_CauseIs C_ThingIs C_DaysIn C_Over C_Not C_All C_Some) hv).trans (u_Cd_thing C_Condition C_CauseIs C_ThingIs C_DaysIn C_Over C_Not C_All C_Some _))) rfl ((congrArg (fun q => U_Cd_marks (Kn_marks 64) q ) hv).symm.trans hv17) (hr.mono (by decide)) | days p => exact me_mt0 m_DaysIn_marks o_DaysIn (p, v17) (MV.as (mv_var (pv 3) rfl) ((congrArg (u_Cd C_Condition C_CauseIs C_ThingIs C_DaysIn C_Over C_Not C_All C_Some) hv).trans (u_Cd_days C_Condition C_CauseIs C_ThingIs C_DaysIn C_Over C_Not C_All C_Some _))) rfl ((congrArg (fun q => U_Cd_marks (Kn_marks 64) q ) hv).symm.trans hv17) (hr.mono (by decide)) | over p => exact me_mt0 m_Over_marks o_Over (p, v17) (MV.as (mv_var (pv 3) rfl) ((congrArg (u_Cd C_Condition C_CauseIs C_ThingIs C_DaysIn C_Over C_Not C_All C_Some) hv).trans (u_Cd_over C_Condition C_CauseIs C_ThingIs C_DaysIn C_Over C_Not C_All C_Some _))) rfl ((congrArg (fun q => U_Cd_marks (Kn_marks 64) q ) hv).symm.trans hv17) (hr.mono (by decide)) | notOf p => exact me_mt0 m_Not_marks o_Not (p, v17) (MV.as (mv_var (pv 3) rfl) ((congrArg (u_Cd C_Condition C_CauseIs C_ThingIs C_DaysIn C_Over C_Not C_All C_Some) hv).trans (u_Cd_notOf C_Condition C_CauseIs C_ThingIs C_DaysIn C_Over C_Not C_All C_Some _))) rfl ((congrArg (fun q => U_Cd_marks (Kn_marks 64) q ) hv).symm.trans hv17) (hr.mono (by decide)) | allOf p => exact me_mt0 m_All_marks o_All (p, v17) (MV.as (mv_var (pv 3) rfl) ((congrArg (u_Cd C_Condition C_CauseIs C_ThingIs C_DaysIn C_Over C_Not C_All C_Some) hv).trans (u_Cd_allOf C_Condition C_CauseIs C_ThingIs C_DaysIn C_Over C_Not C_All C_Some _))) rfl ((congrArg (fun q => U_Cd_marks (Kn_marks 64) q ) hv).symm.trans hv17) (hr.mono (by decide)) | someOf p => exact me_mt0 m_Some_marks o_Some (p, v17) (MV.as (mv_var (pv 3) rfl) ((congrArg (u_Cd C_Condition C_CauseIs C_ThingIs C_DaysIn C_Over C_Not C_All C_Some) hv).trans (u_Cd_someOf C_Condition C_CauseIs C_ThingIs C_DaysIn C_Over C_Not C_All C_Some _))) rfl ((congrArg (fun q => U_Cd_marks (Kn_marks 64) q ) hv).symm.trans hv17) (hr.mono (by decide)))) (ma_vw (ml_var (pv 4) rfl) ma_nil)) hv18 (hr.mono (by decide)))) ?_)
    first | (cases hx; done) | (cases hx; rfl) | (injection hx with hx; show O.fz (.bl _) = O.fz (.bl true); rw [hx])
  · subst e; cases hx; rfl
end
theorem all_mk {l : PySem.W.OpenLaw} {w : World} {K : PySem.W.Frag} {h : Heap} {mg : Str → Option Value} {fa : Addr} (X : K.In h) (G : h.Ns mainGlobals mg) (hfa : mg "law" = some (.ref fa))
    {C_CauseIs : Addr} (a_CauseIs : PySem.W.nsIn K mainGlobals "CauseIs" = some (some (.ref C_CauseIs))) (pg_CauseIs : PySem.W.plainGet K C_CauseIs Str.empty = true) (hd_CauseIs : PySem.W.hasDictIn K C_CauseIs = true) (po_CauseIs : PySem.W.plainOver K C_CauseIs = true) (sa_CauseIs : PySem.W.findIn K (.ref C_CauseIs) "__setattr__" = some (some (.builtin "object.__setattr__"))) (mk_CauseIs : PySem.W.makesIn K C_CauseIs = true) (kc_CauseIs : PySem.W.keepIn K (.ref C_CauseIs) = true)
    (na_CauseIs_name : PySem.W.findIn K (.ref C_CauseIs) "name" = some none)
    {C_ThingIs : Addr} (a_ThingIs : PySem.W.nsIn K mainGlobals "ThingIs" = some (some (.ref C_ThingIs))) (pg_ThingIs : PySem.W.plainGet K C_ThingIs Str.empty = true) (hd_ThingIs : PySem.W.hasDictIn K C_ThingIs = true) (po_ThingIs : PySem.W.plainOver K C_ThingIs = true) (sa_ThingIs : PySem.W.findIn K (.ref C_ThingIs) "__setattr__" = some (some (.builtin "object.__setattr__"))) (mk_ThingIs : PySem.W.makesIn K C_ThingIs = true) (kc_ThingIs : PySem.W.keepIn K (.ref C_ThingIs) = true)
    (na_ThingIs_name : PySem.W.findIn K (.ref C_ThingIs) "name" = some none)
    {C_DaysIn : Addr} (a_DaysIn : PySem.W.nsIn K mainGlobals "DaysIn" = some (some (.ref C_DaysIn))) (pg_DaysIn : PySem.W.plainGet K C_DaysIn Str.empty = true) (hd_DaysIn : PySem.W.hasDictIn K C_DaysIn = true) (po_DaysIn : PySem.W.plainOver K C_DaysIn = true) (sa_DaysIn : PySem.W.findIn K (.ref C_DaysIn) "__setattr__" = some (some (.builtin "object.__setattr__"))) (mk_DaysIn : PySem.W.makesIn K C_DaysIn = true) (kc_DaysIn : PySem.W.keepIn K (.ref C_DaysIn) = true)
    (na_DaysIn_first : PySem.W.findIn K (.ref C_DaysIn) "first" = some none)
    (na_DaysIn_last : PySem.W.findIn K (.ref C_DaysIn) "last" = some none)
    {C_Over : Addr} (a_Over : PySem.W.nsIn K mainGlobals "Over" = some (some (.ref C_Over))) (pg_Over : PySem.W.plainGet K C_Over Str.empty = true) (hd_Over : PySem.W.hasDictIn K C_Over = true) (po_Over : PySem.W.plainOver K C_Over = true) (sa_Over : PySem.W.findIn K (.ref C_Over) "__setattr__" = some (some (.builtin "object.__setattr__"))) (mk_Over : PySem.W.makesIn K C_Over = true) (kc_Over : PySem.W.keepIn K (.ref C_Over) = true)
    (na_Over_cents : PySem.W.findIn K (.ref C_Over) "cents" = some none)
    {C_Not : Addr} (a_Not : PySem.W.nsIn K mainGlobals "Not" = some (some (.ref C_Not))) (pg_Not : PySem.W.plainGet K C_Not Str.empty = true) (hd_Not : PySem.W.hasDictIn K C_Not = true) (po_Not : PySem.W.plainOver K C_Not = true) (sa_Not : PySem.W.findIn K (.ref C_Not) "__setattr__" = some (some (.builtin "object.__setattr__"))) (mk_Not : PySem.W.makesIn K C_Not = true) (kc_Not : PySem.W.keepIn K (.ref C_Not) = true)
    (na_Not_part : PySem.W.findIn K (.ref C_Not) "part" = some none)
    {C_All : Addr} (a_All : PySem.W.nsIn K mainGlobals "All" = some (some (.ref C_All))) (pg_All : PySem.W.plainGet K C_All Str.empty = true) (hd_All : PySem.W.hasDictIn K C_All = true) (po_All : PySem.W.plainOver K C_All = true) (sa_All : PySem.W.findIn K (.ref C_All) "__setattr__" = some (some (.builtin "object.__setattr__"))) (mk_All : PySem.W.makesIn K C_All = true) (kc_All : PySem.W.keepIn K (.ref C_All) = true)
    (na_All_several : PySem.W.findIn K (.ref C_All) "several" = some none)
    {C_Some : Addr} (a_Some : PySem.W.nsIn K mainGlobals "Some" = some (some (.ref C_Some))) (pg_Some : PySem.W.plainGet K C_Some Str.empty = true) (hd_Some : PySem.W.hasDictIn K C_Some = true) (po_Some : PySem.W.plainOver K C_Some = true) (sa_Some : PySem.W.findIn K (.ref C_Some) "__setattr__" = some (some (.builtin "object.__setattr__"))) (mk_Some : PySem.W.makesIn K C_Some = true) (kc_Some : PySem.W.keepIn K (.ref C_Some) = true)
    (na_Some_several : PySem.W.findIn K (.ref C_Some) "several" = some none)
    {C_Condition : Addr} (a_Condition : PySem.W.nsIn K mainGlobals "Condition" = some (some (.ref C_Condition))) (pg_Condition : PySem.W.plainGet K C_Condition Str.empty = true) (hd_Condition : PySem.W.hasDictIn K C_Condition = true) (po_Condition : PySem.W.plainOver K C_Condition = true) (sa_Condition : PySem.W.findIn K (.ref C_Condition) "__setattr__" = some (some (.builtin "object.__setattr__"))) (mk_Condition : PySem.W.makesIn K C_Condition = true) (kc_Condition : PySem.W.keepIn K (.ref C_Condition) = true)
    (ob_Condition : PySem.W.findIn K (.ref C_Condition) "__init__" = some (some (.builtin "object.__init__")))
    {f0 : Addr} {od0 an0 : Option Addr} {sl0 : Array (Option Value)} {oc0 kV0 dc0 pm0 cd0 ct0 : Value}
    (a0 : PySem.W.nsIn K mainGlobals "_law_cell" = some (some (.ref f0))) (l0 : K.lookup f0 = some ⟨oc0, od0, .func (PySem.W.fnOf "_law_cell" "_law_cell" (defArgs s__law_cell) (defBody s__law_cell) (defScope s__law_cell) .none kV0 dc0 pm0 an0 cd0 ct0), sl0⟩) (c0 : PySem.W.codeIn K cd0 "_law_cell" = true) (k0 : PySem.W.keepIn K (.ref f0) = true)
    {f1 : Addr} {od1 an1 : Option Addr} {sl1 : Array (Option Value)} {oc1 kV1 dc1 pm1 cd1 ct1 : Value}
    (a1 : PySem.W.nsIn K mainGlobals "_law_name" = some (some (.ref f1))) (l1 : K.lookup f1 = some ⟨oc1, od1, .func (PySem.W.fnOf "_law_name" "_law_name" (defArgs s__law_name) (defBody s__law_name) (defScope s__law_name) .none kV1 dc1 pm1 an1 cd1 ct1), sl1⟩) (c1 : PySem.W.codeIn K cd1 "_law_name" = true) (k1 : PySem.W.keepIn K (.ref f1) = true)
    {f2 : Addr} {od2 an2 : Option Addr} {sl2 : Array (Option Value)} {oc2 kV2 dc2 pm2 cd2 ct2 : Value}
    (a2 : PySem.W.nsIn K mainGlobals "_law_mix" = some (some (.ref f2))) (l2 : K.lookup f2 = some ⟨oc2, od2, .func (PySem.W.fnOf "_law_mix" "_law_mix" (defArgs s__law_mix) (defBody s__law_mix) (defScope s__law_mix) .none kV2 dc2 pm2 an2 cd2 ct2), sl2⟩) (c2 : PySem.W.codeIn K cd2 "_law_mix" = true) (k2 : PySem.W.keepIn K (.ref f2) = true)
    {f3 : Addr} {od3 an3 : Option Addr} {sl3 : Array (Option Value)} {oc3 kV3 dc3 pm3 cd3 ct3 : Value}
    (a3 : PySem.W.nsIn K mainGlobals "_law_other" = some (some (.ref f3))) (l3 : K.lookup f3 = some ⟨oc3, od3, .func (PySem.W.fnOf "_law_other" "_law_other" (defArgs s__law_other) (defBody s__law_other) (defScope s__law_other) .none kV3 dc3 pm3 an3 cd3 ct3), sl3⟩) (c3 : PySem.W.codeIn K cd3 "_law_other" = true) (k3 : PySem.W.keepIn K (.ref f3) = true)
    {f4 : Addr} {od4 an4 : Option Addr} {sl4 : Array (Option Value)} {oc4 kV4 dc4 pm4 cd4 ct4 : Value}
    (a4 : PySem.W.nsIn K mainGlobals "_law_pools" = some (some (.ref f4))) (l4 : K.lookup f4 = some ⟨oc4, od4, .func (PySem.W.fnOf "_law_pools" "_law_pools" (defArgs s__law_pools) (defBody s__law_pools) (defScope s__law_pools) .none kV4 dc4 pm4 an4 cd4 ct4), sl4⟩) (c4 : PySem.W.codeIn K cd4 "_law_pools" = true) (k4 : PySem.W.keepIn K (.ref f4) = true)
    {f5 : Addr} {od5 an5 : Option Addr} {sl5 : Array (Option Value)} {oc5 kV5 dc5 pm5 cd5 ct5 : Value}
    (a5 : PySem.W.nsIn K mainGlobals "_law_bracketed" = some (some (.ref f5))) (l5 : K.lookup f5 = some ⟨oc5, od5, .func (PySem.W.fnOf "_law_bracketed" "_law_bracketed" (defArgs s__law_bracketed) (defBody s__law_bracketed) (defScope s__law_bracketed) .none kV5 dc5 pm5 an5 cd5 ct5), sl5⟩) (c5 : PySem.W.codeIn K cd5 "_law_bracketed" = true) (k5 : PySem.W.keepIn K (.ref f5) = true)
    {f6 : Addr} {od6 an6 : Option Addr} {sl6 : Array (Option Value)} {oc6 kV6 dc6 pm6 cd6 ct6 : Value}
    (a6 : PySem.W.nsIn K mainGlobals "_law_join" = some (some (.ref f6))) (l6 : K.lookup f6 = some ⟨oc6, od6, .func (PySem.W.fnOf "_law_join" "_law_join" (defArgs s__law_join) (defBody s__law_join) (defScope s__law_join) .none kV6 dc6 pm6 an6 cd6 ct6), sl6⟩) (c6 : PySem.W.codeIn K cd6 "_law_join" = true) (k6 : PySem.W.keepIn K (.ref f6) = true)
    {f7 : Addr} {od7 an7 : Option Addr} {sl7 : Array (Option Value)} {oc7 kV7 dc7 pm7 cd7 ct7 : Value}
    (a7 : PySem.W.nsIn K mainGlobals "_law_leaf" = some (some (.ref f7))) (l7 : K.lookup f7 = some ⟨oc7, od7, .func (PySem.W.fnOf "_law_leaf" "_law_leaf" (defArgs s__law_leaf) (defBody s__law_leaf) (defScope s__law_leaf) .none kV7 dc7 pm7 an7 cd7 ct7), sl7⟩) (c7 : PySem.W.codeIn K cd7 "_law_leaf" = true) (k7 : PySem.W.keepIn K (.ref f7) = true)
    {f8 : Addr} {od8 an8 : Option Addr} {sl8 : Array (Option Value)} {oc8 kV8 dc8 pm8 cd8 ct8 : Value}
    (a8 : PySem.W.nsIn K mainGlobals "_law_step" = some (some (.ref f8))) (l8 : K.lookup f8 = some ⟨oc8, od8, .func (PySem.W.fnOf "_law_step" "_law_step" (defArgs s__law_step) (defBody s__law_step) (defScope s__law_step) .none kV8 dc8 pm8 an8 cd8 ct8), sl8⟩) (c8 : PySem.W.codeIn K cd8 "_law_step" = true) (k8 : PySem.W.keepIn K (.ref f8) = true)
    {f9 : Addr} {od9 an9 : Option Addr} {sl9 : Array (Option Value)} {oc9 kV9 dc9 pm9 cd9 ct9 : Value}
    (a9 : PySem.W.nsIn K mainGlobals "_law_tree" = some (some (.ref f9))) (l9 : K.lookup f9 = some ⟨oc9, od9, .func (PySem.W.fnOf "_law_tree" "_law_tree" (defArgs s__law_tree) (defBody s__law_tree) (defScope s__law_tree) .none kV9 dc9 pm9 an9 cd9 ct9), sl9⟩) (c9 : PySem.W.codeIn K cd9 "_law_tree" = true) (k9 : PySem.W.keepIn K (.ref f9) = true)
    {f10 : Addr} {od10 an10 : Option Addr} {sl10 : Array (Option Value)} {oc10 kV10 dc10 pm10 cd10 ct10 : Value}
    (a10 : PySem.W.findIn K (.ref C_CauseIs) "__init__" = some (some (.ref f10))) (l10 : K.lookup f10 = some ⟨oc10, od10, .func (PySem.W.fnOf "__init__" "CauseIs.__init__" (defArgs s_CauseIs___init__) (defBody s_CauseIs___init__) (defScope s_CauseIs___init__) .none kV10 dc10 pm10 an10 cd10 ct10), sl10⟩) (c10 : PySem.W.codeIn K cd10 "CauseIs.__init__" = true) (k10 : PySem.W.keepIn K (.ref f10) = true) (i10 : PySem.W.isFn K (.ref f10) = true)
    {f11 : Addr} {od11 an11 : Option Addr} {sl11 : Array (Option Value)} {oc11 kV11 dc11 pm11 cd11 ct11 : Value}
    (a11 : PySem.W.findIn K (.ref C_ThingIs) "__init__" = some (some (.ref f11))) (l11 : K.lookup f11 = some ⟨oc11, od11, .func (PySem.W.fnOf "__init__" "ThingIs.__init__" (defArgs s_ThingIs___init__) (defBody s_ThingIs___init__) (defScope s_ThingIs___init__) .none kV11 dc11 pm11 an11 cd11 ct11), sl11⟩) (c11 : PySem.W.codeIn K cd11 "ThingIs.__init__" = true) (k11 : PySem.W.keepIn K (.ref f11) = true) (i11 : PySem.W.isFn K (.ref f11) = true)
    {f12 : Addr} {od12 an12 : Option Addr} {sl12 : Array (Option Value)} {oc12 kV12 dc12 pm12 cd12 ct12 : Value}
    (a12 : PySem.W.findIn K (.ref C_DaysIn) "__init__" = some (some (.ref f12))) (l12 : K.lookup f12 = some ⟨oc12, od12, .func (PySem.W.fnOf "__init__" "DaysIn.__init__" (defArgs s_DaysIn___init__) (defBody s_DaysIn___init__) (defScope s_DaysIn___init__) .none kV12 dc12 pm12 an12 cd12 ct12), sl12⟩) (c12 : PySem.W.codeIn K cd12 "DaysIn.__init__" = true) (k12 : PySem.W.keepIn K (.ref f12) = true) (i12 : PySem.W.isFn K (.ref f12) = true)
    {f13 : Addr} {od13 an13 : Option Addr} {sl13 : Array (Option Value)} {oc13 kV13 dc13 pm13 cd13 ct13 : Value}
    (a13 : PySem.W.findIn K (.ref C_Over) "__init__" = some (some (.ref f13))) (l13 : K.lookup f13 = some ⟨oc13, od13, .func (PySem.W.fnOf "__init__" "Over.__init__" (defArgs s_Over___init__) (defBody s_Over___init__) (defScope s_Over___init__) .none kV13 dc13 pm13 an13 cd13 ct13), sl13⟩) (c13 : PySem.W.codeIn K cd13 "Over.__init__" = true) (k13 : PySem.W.keepIn K (.ref f13) = true) (i13 : PySem.W.isFn K (.ref f13) = true)
    {f14 : Addr} {od14 an14 : Option Addr} {sl14 : Array (Option Value)} {oc14 kV14 dc14 pm14 cd14 ct14 : Value}
    (a14 : PySem.W.findIn K (.ref C_Not) "__init__" = some (some (.ref f14))) (l14 : K.lookup f14 = some ⟨oc14, od14, .func (PySem.W.fnOf "__init__" "Not.__init__" (defArgs s_Not___init__) (defBody s_Not___init__) (defScope s_Not___init__) .none kV14 dc14 pm14 an14 cd14 ct14), sl14⟩) (c14 : PySem.W.codeIn K cd14 "Not.__init__" = true) (k14 : PySem.W.keepIn K (.ref f14) = true) (i14 : PySem.W.isFn K (.ref f14) = true)
    {f15 : Addr} {od15 an15 : Option Addr} {sl15 : Array (Option Value)} {oc15 kV15 dc15 pm15 cd15 ct15 : Value}
    (a15 : PySem.W.findIn K (.ref C_All) "__init__" = some (some (.ref f15))) (l15 : K.lookup f15 = some ⟨oc15, od15, .func (PySem.W.fnOf "__init__" "All.__init__" (defArgs s_All___init__) (defBody s_All___init__) (defScope s_All___init__) .none kV15 dc15 pm15 an15 cd15 ct15), sl15⟩) (c15 : PySem.W.codeIn K cd15 "All.__init__" = true) (k15 : PySem.W.keepIn K (.ref f15) = true) (i15 : PySem.W.isFn K (.ref f15) = true)
    {f16 : Addr} {od16 an16 : Option Addr} {sl16 : Array (Option Value)} {oc16 kV16 dc16 pm16 cd16 ct16 : Value}
    (a16 : PySem.W.findIn K (.ref C_Some) "__init__" = some (some (.ref f16))) (l16 : K.lookup f16 = some ⟨oc16, od16, .func (PySem.W.fnOf "__init__" "Some.__init__" (defArgs s_Some___init__) (defBody s_Some___init__) (defScope s_Some___init__) .none kV16 dc16 pm16 an16 cd16 ct16), sl16⟩) (c16 : PySem.W.codeIn K cd16 "Some.__init__" = true) (k16 : PySem.W.keepIn K (.ref f16) = true) (i16 : PySem.W.isFn K (.ref f16) = true)
    {f17 : Addr} {od17 an17 : Option Addr} {sl17 : Array (Option Value)} {oc17 kV17 dc17 pm17 cd17 ct17 : Value}
    (a17 : PySem.W.nsIn K mainGlobals "_law_made" = some (some (.ref f17))) (l17 : K.lookup f17 = some ⟨oc17, od17, .func (PySem.W.fnOf "_law_made" "_law_made" (defArgs s__law_made) (defBody s__law_made) (defScope s__law_made) .none kV17 dc17 pm17 an17 cd17 ct17), sl17⟩) (c17 : PySem.W.codeIn K cd17 "_law_made" = true) (k17 : PySem.W.keepIn K (.ref f17) = true)
    {f18 : Addr} {od18 an18 : Option Addr} {sl18 : Array (Option Value)} {oc18 kV18 dc18 pm18 cd18 ct18 : Value}
    (a18 : PySem.W.nsIn K mainGlobals "_law_marks" = some (some (.ref f18))) (l18 : K.lookup f18 = some ⟨oc18, od18, .func (PySem.W.fnOf "_law_marks" "_law_marks" (defArgs s__law_marks) (defBody s__law_marks) (defScope s__law_marks) .none kV18 dc18 pm18 an18 cd18 ct18), sl18⟩) (c18 : PySem.W.codeIn K cd18 "_law_marks" = true) (k18 : PySem.W.keepIn K (.ref f18) = true)
    {f19 : Addr} {od19 an19 : Option Addr} {sl19 : Array (Option Value)} {oc19 kV19 dc19 pm19 cd19 ct19 : Value}
    (a19 : PySem.W.findIn K (.ref C_Condition) "marks" = some (some (.ref f19))) (l19 : K.lookup f19 = some ⟨oc19, od19, .func (PySem.W.fnOf "marks" "Condition.marks" (defArgs s_Condition_marks) (defBody s_Condition_marks) (defScope s_Condition_marks) .none kV19 dc19 pm19 an19 cd19 ct19), sl19⟩) (c19 : PySem.W.codeIn K cd19 "Condition.marks" = true) (k19 : PySem.W.keepIn K (.ref f19) = true) (i19 : PySem.W.isFn K (.ref f19) = true)
    {f20 : Addr} {od20 an20 : Option Addr} {sl20 : Array (Option Value)} {oc20 kV20 dc20 pm20 cd20 ct20 : Value}
    (a20 : PySem.W.findIn K (.ref C_CauseIs) "marks" = some (some (.ref f20))) (l20 : K.lookup f20 = some ⟨oc20, od20, .func (PySem.W.fnOf "marks" "CauseIs.marks" (defArgs s_CauseIs_marks) (defBody s_CauseIs_marks) (defScope s_CauseIs_marks) .none kV20 dc20 pm20 an20 cd20 ct20), sl20⟩) (c20 : PySem.W.codeIn K cd20 "CauseIs.marks" = true) (k20 : PySem.W.keepIn K (.ref f20) = true) (i20 : PySem.W.isFn K (.ref f20) = true)
    {f21 : Addr} {od21 an21 : Option Addr} {sl21 : Array (Option Value)} {oc21 kV21 dc21 pm21 cd21 ct21 : Value}
    (a21 : PySem.W.findIn K (.ref C_ThingIs) "marks" = some (some (.ref f21))) (l21 : K.lookup f21 = some ⟨oc21, od21, .func (PySem.W.fnOf "marks" "ThingIs.marks" (defArgs s_ThingIs_marks) (defBody s_ThingIs_marks) (defScope s_ThingIs_marks) .none kV21 dc21 pm21 an21 cd21 ct21), sl21⟩) (c21 : PySem.W.codeIn K cd21 "ThingIs.marks" = true) (k21 : PySem.W.keepIn K (.ref f21) = true) (i21 : PySem.W.isFn K (.ref f21) = true)
    {f22 : Addr} {od22 an22 : Option Addr} {sl22 : Array (Option Value)} {oc22 kV22 dc22 pm22 cd22 ct22 : Value}
    (a22 : PySem.W.findIn K (.ref C_DaysIn) "marks" = some (some (.ref f22))) (l22 : K.lookup f22 = some ⟨oc22, od22, .func (PySem.W.fnOf "marks" "DaysIn.marks" (defArgs s_DaysIn_marks) (defBody s_DaysIn_marks) (defScope s_DaysIn_marks) .none kV22 dc22 pm22 an22 cd22 ct22), sl22⟩) (c22 : PySem.W.codeIn K cd22 "DaysIn.marks" = true) (k22 : PySem.W.keepIn K (.ref f22) = true) (i22 : PySem.W.isFn K (.ref f22) = true)
    {f23 : Addr} {od23 an23 : Option Addr} {sl23 : Array (Option Value)} {oc23 kV23 dc23 pm23 cd23 ct23 : Value}
    (a23 : PySem.W.findIn K (.ref C_Over) "marks" = some (some (.ref f23))) (l23 : K.lookup f23 = some ⟨oc23, od23, .func (PySem.W.fnOf "marks" "Over.marks" (defArgs s_Over_marks) (defBody s_Over_marks) (defScope s_Over_marks) .none kV23 dc23 pm23 an23 cd23 ct23), sl23⟩) (c23 : PySem.W.codeIn K cd23 "Over.marks" = true) (k23 : PySem.W.keepIn K (.ref f23) = true) (i23 : PySem.W.isFn K (.ref f23) = true)
    {f24 : Addr} {od24 an24 : Option Addr} {sl24 : Array (Option Value)} {oc24 kV24 dc24 pm24 cd24 ct24 : Value}
    (a24 : PySem.W.nsIn K mainGlobals "joined_marks" = some (some (.ref f24))) (l24 : K.lookup f24 = some ⟨oc24, od24, .func (PySem.W.fnOf "joined_marks" "joined_marks" (defArgs s_joined_marks) (defBody s_joined_marks) (defScope s_joined_marks) .none kV24 dc24 pm24 an24 cd24 ct24), sl24⟩) (c24 : PySem.W.codeIn K cd24 "joined_marks" = true) (k24 : PySem.W.keepIn K (.ref f24) = true)
    {f25 : Addr} {od25 an25 : Option Addr} {sl25 : Array (Option Value)} {oc25 kV25 dc25 pm25 cd25 ct25 : Value}
    (a25 : PySem.W.findIn K (.ref C_Not) "marks" = some (some (.ref f25))) (l25 : K.lookup f25 = some ⟨oc25, od25, .func (PySem.W.fnOf "marks" "Not.marks" (defArgs s_Not_marks) (defBody s_Not_marks) (defScope s_Not_marks) .none kV25 dc25 pm25 an25 cd25 ct25), sl25⟩) (c25 : PySem.W.codeIn K cd25 "Not.marks" = true) (k25 : PySem.W.keepIn K (.ref f25) = true) (i25 : PySem.W.isFn K (.ref f25) = true)
    {f26 : Addr} {od26 an26 : Option Addr} {sl26 : Array (Option Value)} {oc26 kV26 dc26 pm26 cd26 ct26 : Value}
    (a26 : PySem.W.findIn K (.ref C_All) "marks" = some (some (.ref f26))) (l26 : K.lookup f26 = some ⟨oc26, od26, .func (PySem.W.fnOf "marks" "All.marks" (defArgs s_All_marks) (defBody s_All_marks) (defScope s_All_marks) .none kV26 dc26 pm26 an26 cd26 ct26), sl26⟩) (c26 : PySem.W.codeIn K cd26 "All.marks" = true) (k26 : PySem.W.keepIn K (.ref f26) = true) (i26 : PySem.W.isFn K (.ref f26) = true)
    {f27 : Addr} {od27 an27 : Option Addr} {sl27 : Array (Option Value)} {oc27 kV27 dc27 pm27 cd27 ct27 : Value}
    (a27 : PySem.W.findIn K (.ref C_Some) "marks" = some (some (.ref f27))) (l27 : K.lookup f27 = some ⟨oc27, od27, .func (PySem.W.fnOf "marks" "Some.marks" (defArgs s_Some_marks) (defBody s_Some_marks) (defScope s_Some_marks) .none kV27 dc27 pm27 an27 cd27 ct27), sl27⟩) (c27 : PySem.W.codeIn K cd27 "Some.marks" = true) (k27 : PySem.W.keepIn K (.ref f27) = true) (i27 : PySem.W.isFn K (.ref f27) = true)
    {f28 : Addr} {od28 an28 : Option Addr} {sl28 : Array (Option Value)} {oc28 kV28 dc28 pm28 cd28 ct28 : Value}
    (a28 : PySem.W.nsIn K mainGlobals "_law_whole" = some (some (.ref f28))) (l28 : K.lookup f28 = some ⟨oc28, od28, .func (PySem.W.fnOf "_law_whole" "_law_whole" (defArgs s__law_whole) (defBody s__law_whole) (defScope s__law_whole) .none kV28 dc28 pm28 an28 cd28 ct28), sl28⟩) (c28 : PySem.W.codeIn K cd28 "_law_whole" = true) (k28 : PySem.W.keepIn K (.ref f28) = true)
    {f29 : Addr} {od29 an29 : Option Addr} {sl29 : Array (Option Value)} {oc29 kV29 dc29 pm29 cd29 ct29 : Value}
    (a29 : PySem.W.nsIn K mainGlobals "_law_marks_are" = some (some (.ref f29))) (l29 : K.lookup f29 = some ⟨oc29, od29, .func (PySem.W.fnOf "_law_marks_are" "_law_marks_are" (defArgs s__law_marks_are) (defBody s__law_marks_are) (defScope s__law_marks_are) .none kV29 dc29 pm29 an29 cd29 ct29), sl29⟩) (c29 : PySem.W.codeIn K cd29 "_law_marks_are" = true) (k29 : PySem.W.keepIn K (.ref f29) = true)
    {f30 : Addr} {od30 an30 : Option Addr} {sl30 : Array (Option Value)} {oc30 kV30 dc30 pm30 cd30 ct30 : Value}
    (a30 : PySem.W.nsIn K mainGlobals "_law_loss" = some (some (.ref f30))) (l30 : K.lookup f30 = some ⟨oc30, od30, .func (PySem.W.fnOf "_law_loss" "_law_loss" (defArgs s__law_loss) (defBody s__law_loss) (defScope s__law_loss) .none kV30 dc30 pm30 an30 cd30 ct30), sl30⟩) (c30 : PySem.W.codeIn K cd30 "_law_loss" = true) (k30 : PySem.W.keepIn K (.ref f30) = true)
    {f31 : Addr} {od31 an31 : Option Addr} {sl31 : Array (Option Value)} {oc31 kV31 dc31 pm31 cd31 ct31 : Value}
    (a31 : PySem.W.nsIn K mainGlobals "_law_unparted_name" = some (some (.ref f31))) (l31 : K.lookup f31 = some ⟨oc31, od31, .func (PySem.W.fnOf "_law_unparted_name" "_law_unparted_name" (defArgs s__law_unparted_name) (defBody s__law_unparted_name) (defScope s__law_unparted_name) .none kV31 dc31 pm31 an31 cd31 ct31), sl31⟩) (c31 : PySem.W.codeIn K cd31 "_law_unparted_name" = true) (k31 : PySem.W.keepIn K (.ref f31) = true)
    {f32 : Addr} {od32 an32 : Option Addr} {sl32 : Array (Option Value)} {oc32 kV32 dc32 pm32 cd32 ct32 : Value}
    (a32 : PySem.W.nsIn K mainGlobals "_law_unparted" = some (some (.ref f32))) (l32 : K.lookup f32 = some ⟨oc32, od32, .func (PySem.W.fnOf "_law_unparted" "_law_unparted" (defArgs s__law_unparted) (defBody s__law_unparted) (defScope s__law_unparted) .none kV32 dc32 pm32 an32 cd32 ct32), sl32⟩) (c32 : PySem.W.codeIn K cd32 "_law_unparted" = true) (k32 : PySem.W.keepIn K (.ref f32) = true)
    {f33 : Addr} {od33 an33 : Option Addr} {sl33 : Array (Option Value)} {oc33 kV33 dc33 pm33 cd33 ct33 : Value}
    (a33 : PySem.W.findIn K (.ref C_Condition) "holds" = some (some (.ref f33))) (l33 : K.lookup f33 = some ⟨oc33, od33, .func (PySem.W.fnOf "holds" "Condition.holds" (defArgs s_Condition_holds) (defBody s_Condition_holds) (defScope s_Condition_holds) .none kV33 dc33 pm33 an33 cd33 ct33), sl33⟩) (c33 : PySem.W.codeIn K cd33 "Condition.holds" = true) (k33 : PySem.W.keepIn K (.ref f33) = true) (i33 : PySem.W.isFn K (.ref f33) = true)
    {f34 : Addr} {od34 an34 : Option Addr} {sl34 : Array (Option Value)} {oc34 kV34 dc34 pm34 cd34 ct34 : Value}
    (a34 : PySem.W.findIn K (.ref C_CauseIs) "holds" = some (some (.ref f34))) (l34 : K.lookup f34 = some ⟨oc34, od34, .func (PySem.W.fnOf "holds" "CauseIs.holds" (defArgs s_CauseIs_holds) (defBody s_CauseIs_holds) (defScope s_CauseIs_holds) .none kV34 dc34 pm34 an34 cd34 ct34), sl34⟩) (c34 : PySem.W.codeIn K cd34 "CauseIs.holds" = true) (k34 : PySem.W.keepIn K (.ref f34) = true) (i34 : PySem.W.isFn K (.ref f34) = true)
    {f35 : Addr} {od35 an35 : Option Addr} {sl35 : Array (Option Value)} {oc35 kV35 dc35 pm35 cd35 ct35 : Value}
    (a35 : PySem.W.findIn K (.ref C_ThingIs) "holds" = some (some (.ref f35))) (l35 : K.lookup f35 = some ⟨oc35, od35, .func (PySem.W.fnOf "holds" "ThingIs.holds" (defArgs s_ThingIs_holds) (defBody s_ThingIs_holds) (defScope s_ThingIs_holds) .none kV35 dc35 pm35 an35 cd35 ct35), sl35⟩) (c35 : PySem.W.codeIn K cd35 "ThingIs.holds" = true) (k35 : PySem.W.keepIn K (.ref f35) = true) (i35 : PySem.W.isFn K (.ref f35) = true)
    {f36 : Addr} {od36 an36 : Option Addr} {sl36 : Array (Option Value)} {oc36 kV36 dc36 pm36 cd36 ct36 : Value}
    (a36 : PySem.W.findIn K (.ref C_DaysIn) "holds" = some (some (.ref f36))) (l36 : K.lookup f36 = some ⟨oc36, od36, .func (PySem.W.fnOf "holds" "DaysIn.holds" (defArgs s_DaysIn_holds) (defBody s_DaysIn_holds) (defScope s_DaysIn_holds) .none kV36 dc36 pm36 an36 cd36 ct36), sl36⟩) (c36 : PySem.W.codeIn K cd36 "DaysIn.holds" = true) (k36 : PySem.W.keepIn K (.ref f36) = true) (i36 : PySem.W.isFn K (.ref f36) = true)
    {f37 : Addr} {od37 an37 : Option Addr} {sl37 : Array (Option Value)} {oc37 kV37 dc37 pm37 cd37 ct37 : Value}
    (a37 : PySem.W.findIn K (.ref C_Over) "holds" = some (some (.ref f37))) (l37 : K.lookup f37 = some ⟨oc37, od37, .func (PySem.W.fnOf "holds" "Over.holds" (defArgs s_Over_holds) (defBody s_Over_holds) (defScope s_Over_holds) .none kV37 dc37 pm37 an37 cd37 ct37), sl37⟩) (c37 : PySem.W.codeIn K cd37 "Over.holds" = true) (k37 : PySem.W.keepIn K (.ref f37) = true) (i37 : PySem.W.isFn K (.ref f37) = true)
    {f38 : Addr} {od38 an38 : Option Addr} {sl38 : Array (Option Value)} {oc38 kV38 dc38 pm38 cd38 ct38 : Value}
    (a38 : PySem.W.findIn K (.ref C_Not) "holds" = some (some (.ref f38))) (l38 : K.lookup f38 = some ⟨oc38, od38, .func (PySem.W.fnOf "holds" "Not.holds" (defArgs s_Not_holds) (defBody s_Not_holds) (defScope s_Not_holds) .none kV38 dc38 pm38 an38 cd38 ct38), sl38⟩) (c38 : PySem.W.codeIn K cd38 "Not.holds" = true) (k38 : PySem.W.keepIn K (.ref f38) = true) (i38 : PySem.W.isFn K (.ref f38) = true)
    {f39 : Addr} {od39 an39 : Option Addr} {sl39 : Array (Option Value)} {oc39 kV39 dc39 pm39 cd39 ct39 : Value}
    (a39 : PySem.W.findIn K (.ref C_All) "holds" = some (some (.ref f39))) (l39 : K.lookup f39 = some ⟨oc39, od39, .func (PySem.W.fnOf "holds" "All.holds" (defArgs s_All_holds) (defBody s_All_holds) (defScope s_All_holds) .none kV39 dc39 pm39 an39 cd39 ct39), sl39⟩) (c39 : PySem.W.codeIn K cd39 "All.holds" = true) (k39 : PySem.W.keepIn K (.ref f39) = true) (i39 : PySem.W.isFn K (.ref f39) = true)
    {f40 : Addr} {od40 an40 : Option Addr} {sl40 : Array (Option Value)} {oc40 kV40 dc40 pm40 cd40 ct40 : Value}
    (a40 : PySem.W.findIn K (.ref C_Some) "holds" = some (some (.ref f40))) (l40 : K.lookup f40 = some ⟨oc40, od40, .func (PySem.W.fnOf "holds" "Some.holds" (defArgs s_Some_holds) (defBody s_Some_holds) (defScope s_Some_holds) .none kV40 dc40 pm40 an40 cd40 ct40), sl40⟩) (c40 : PySem.W.codeIn K cd40 "Some.holds" = true) (k40 : PySem.W.keepIn K (.ref f40) = true) (i40 : PySem.W.isFn K (.ref f40) = true)
    {f41 : Addr} {od41 an41 : Option Addr} {sl41 : Array (Option Value)} {oc41 kV41 dc41 pm41 cd41 ct41 : Value}
    (a41 : PySem.W.nsIn K mainGlobals "law" = some (some (.ref f41))) (l41 : K.lookup f41 = some ⟨oc41, od41, .func (PySem.W.fnOf "law" "law" (defArgs s_law) (defBody s_law) (defScope s_law) .none kV41 dc41 pm41 an41 cd41 ct41), sl41⟩) (c41 : PySem.W.codeIn K cd41 "law" = true) (k41 : PySem.W.keepIn K (.ref f41) = true)
    (z_len : PySem.W.nsIn K mainGlobals "len" = some none)
    (z_range : PySem.W.nsIn K mainGlobals "range" = some none)
    (z_sorted : PySem.W.nsIn K mainGlobals "sorted" = some none)
    (z_min : PySem.W.nsIn K mainGlobals "min" = some none)
    (z_int : PySem.W.nsIn K mainGlobals "int" = some none)
    (z_max : PySem.W.nsIn K mainGlobals "max" = some none)
    (z_list : PySem.W.nsIn K mainGlobals "list" = some none)
    (z_isinstance : PySem.W.nsIn K mainGlobals "isinstance" = some none)
    (z_bool : PySem.W.nsIn K mainGlobals "bool" = some none)
    (z_tuple : PySem.W.nsIn K mainGlobals "tuple" = some none)
    : ∃ fd : FuncData, (∀ (s : Shared) (v : Value), BindsTo s fd ⟨[v], []⟩ [("_law_script", v)]) ∧ ∀ base : Heap, K.In base → base.Ns mainGlobals mg → FnOk l.prog w K mg base CX0 67 fa fd ["_law_script"] (spLaw K) := by
  have e := hfa.symm.trans (PySem.W.mg_of X G a41)
  cases e
  have z_len := PySem.W.mg_none_of X G z_len
  have z_range := PySem.W.mg_none_of X G z_range
  have z_sorted := PySem.W.mg_none_of X G z_sorted
  have z_min := PySem.W.mg_none_of X G z_min
  have z_int := PySem.W.mg_none_of X G z_int
  have z_max := PySem.W.mg_none_of X G z_max
  have z_list := PySem.W.mg_none_of X G z_list
  have z_isinstance := PySem.W.mg_none_of X G z_isinstance
  have z_bool := PySem.W.mg_none_of X G z_bool
  have z_tuple := PySem.W.mg_none_of X G z_tuple
  have F0 := fun_mk (st := s__law_cell) l0 c0 k0
  have b0 := F0.binds (ps := ["_law_script", "_law_k"]) fun _ _ _ _ _ _ us hl => match us, hl with | [_, _], _ => rfl
  have F1 := fun_mk (st := s__law_name) l1 c1 k1
  have b1 := F1.binds (ps := ["_law_number"]) fun _ _ _ _ _ _ us hl => match us, hl with | [_], _ => rfl
  have F2 := fun_mk (st := s__law_mix) l2 c2 k2
  have b2 := F2.binds (ps := ["_law_number", "_law_k"]) fun _ _ _ _ _ _ us hl => match us, hl with | [_, _], _ => rfl
  have F3 := fun_mk (st := s__law_other) l3 c3 k3
  have b3 := F3.binds (ps := ["_law_name_here", "_law_number"]) fun _ _ _ _ _ _ us hl => match us, hl with | [_, _], _ => rfl
  have F4 := fun_mk (st := s__law_pools) l4 c4 k4
  have b4 := F4.binds (ps := ["_law_script"]) fun _ _ _ _ _ _ us hl => match us, hl with | [_], _ => rfl
  have F5 := fun_mk (st := s__law_bracketed) l5 c5 k5
  have b5 := F5.binds (ps := ["_law_node", "_law_least"]) fun _ _ _ _ _ _ us hl => match us, hl with | [_, _], _ => rfl
  have F6 := fun_mk (st := s__law_join) l6 c6 k6
  have b6 := F6.binds (ps := ["_law_row", "_law_kind"]) fun _ _ _ _ _ _ us hl => match us, hl with | [_, _], _ => rfl
  have F7 := fun_mk (st := s__law_leaf) l7 c7 k7
  have b7 := F7.binds (ps := ["_law_number", "_law_pools_here"]) fun _ _ _ _ _ _ us hl => match us, hl with | [_, _], _ => rfl
  have F8 := fun_mk (st := s__law_step) l8 c8 k8
  have b8 := F8.binds (ps := ["_law_row", "_law_number", "_law_pools_here"]) fun _ _ _ _ _ _ us hl => match us, hl with | [_, _, _], _ => rfl
  have F9 := fun_mk (st := s__law_tree) l9 c9 k9
  have b9 := F9.binds (ps := ["_law_script", "_law_start", "_law_pools_here"]) fun _ _ _ _ _ _ us hl => match us, hl with | [_, _, _], _ => rfl
  have F10 := fun_mk (st := s_CauseIs___init__) l10 c10 k10
  have b10 := F10.binds (ps := ["self", "name"]) fun _ _ _ _ _ _ us hl => match us, hl with | [_, _], _ => rfl
  have F11 := fun_mk (st := s_ThingIs___init__) l11 c11 k11
  have b11 := F11.binds (ps := ["self", "name"]) fun _ _ _ _ _ _ us hl => match us, hl with | [_, _], _ => rfl
  have F12 := fun_mk (st := s_DaysIn___init__) l12 c12 k12
  have b12 := F12.binds (ps := ["self", "first", "last"]) fun _ _ _ _ _ _ us hl => match us, hl with | [_, _, _], _ => rfl
  have F13 := fun_mk (st := s_Over___init__) l13 c13 k13
  have b13 := F13.binds (ps := ["self", "cents"]) fun _ _ _ _ _ _ us hl => match us, hl with | [_, _], _ => rfl
  have F14 := fun_mk (st := s_Not___init__) l14 c14 k14
  have b14 := F14.binds (ps := ["self", "part"]) fun _ _ _ _ _ _ us hl => match us, hl with | [_, _], _ => rfl
  have F15 := fun_mk (st := s_All___init__) l15 c15 k15
  have b15 := F15.binds (ps := ["self", "several"]) fun _ _ _ _ _ _ us hl => match us, hl with | [_, _], _ => rfl
  have F16 := fun_mk (st := s_Some___init__) l16 c16 k16
  have b16 := F16.binds (ps := ["self", "several"]) fun _ _ _ _ _ _ us hl => match us, hl with | [_, _], _ => rfl
  have F17 := fun_mk (st := s__law_made) l17 c17 k17
  have b17 := F17.binds (ps := ["_law_tree_here"]) fun _ _ _ _ _ _ us hl => match us, hl with | [_], _ => rfl
  have F18 := fun_mk (st := s__law_marks) l18 c18 k18
  have b18 := F18.binds (ps := ["_law_tree_here"]) fun _ _ _ _ _ _ us hl => match us, hl with | [_], _ => rfl
  have F19 := fun_mk (st := s_Condition_marks) l19 c19 k19
  have b19 := F19.binds (ps := ["self"]) fun _ _ _ _ _ _ us hl => match us, hl with | [_], _ => rfl
  have F20 := fun_mk (st := s_CauseIs_marks) l20 c20 k20
  have b20 := F20.binds (ps := ["self"]) fun _ _ _ _ _ _ us hl => match us, hl with | [_], _ => rfl
  have F21 := fun_mk (st := s_ThingIs_marks) l21 c21 k21
  have b21 := F21.binds (ps := ["self"]) fun _ _ _ _ _ _ us hl => match us, hl with | [_], _ => rfl
  have F22 := fun_mk (st := s_DaysIn_marks) l22 c22 k22
  have b22 := F22.binds (ps := ["self"]) fun _ _ _ _ _ _ us hl => match us, hl with | [_], _ => rfl
  have F23 := fun_mk (st := s_Over_marks) l23 c23 k23
  have b23 := F23.binds (ps := ["self"]) fun _ _ _ _ _ _ us hl => match us, hl with | [_], _ => rfl
  have F24 := fun_mk (st := s_joined_marks) l24 c24 k24
  have b24 := F24.binds (ps := ["several"]) fun _ _ _ _ _ _ us hl => match us, hl with | [_], _ => rfl
  have F25 := fun_mk (st := s_Not_marks) l25 c25 k25
  have b25 := F25.binds (ps := ["self"]) fun _ _ _ _ _ _ us hl => match us, hl with | [_], _ => rfl
  have F26 := fun_mk (st := s_All_marks) l26 c26 k26
  have b26 := F26.binds (ps := ["self"]) fun _ _ _ _ _ _ us hl => match us, hl with | [_], _ => rfl
  have F27 := fun_mk (st := s_Some_marks) l27 c27 k27
  have b27 := F27.binds (ps := ["self"]) fun _ _ _ _ _ _ us hl => match us, hl with | [_], _ => rfl
  have F28 := fun_mk (st := s__law_whole) l28 c28 k28
  have b28 := F28.binds (ps := ["_law_found"]) fun _ _ _ _ _ _ us hl => match us, hl with | [_], _ => rfl
  have F29 := fun_mk (st := s__law_marks_are) l29 c29 k29
  have b29 := F29.binds (ps := ["_law_found", "_law_due"]) fun _ _ _ _ _ _ us hl => match us, hl with | [_, _], _ => rfl
  have F30 := fun_mk (st := s__law_loss) l30 c30 k30
  have b30 := F30.binds (ps := ["_law_script", "_law_k", "_law_pools_here"]) fun _ _ _ _ _ _ us hl => match us, hl with | [_, _, _], _ => rfl
  have F31 := fun_mk (st := s__law_unparted_name) l31 c31 k31
  have b31 := F31.binds (ps := ["_law_name_here", "_law_due", "_law_kind", "_law_number", "_law_names"]) fun _ _ _ _ _ _ us hl => match us, hl with | [_, _, _, _, _], _ => rfl
  have F32 := fun_mk (st := s__law_unparted) l32 c32 k32
  have b32 := F32.binds (ps := ["_law_loss_here", "_law_due", "_law_pools_here", "_law_number"]) fun _ _ _ _ _ _ us hl => match us, hl with | [_, _, _, _], _ => rfl
  have F33 := fun_mk (st := s_Condition_holds) l33 c33 k33
  have b33 := F33.binds (ps := ["self", "loss"]) fun _ _ _ _ _ _ us hl => match us, hl with | [_, _], _ => rfl
  have F34 := fun_mk (st := s_CauseIs_holds) l34 c34 k34
  have b34 := F34.binds (ps := ["self", "loss"]) fun _ _ _ _ _ _ us hl => match us, hl with | [_, _], _ => rfl
  have F35 := fun_mk (st := s_ThingIs_holds) l35 c35 k35
  have b35 := F35.binds (ps := ["self", "loss"]) fun _ _ _ _ _ _ us hl => match us, hl with | [_, _], _ => rfl
  have F36 := fun_mk (st := s_DaysIn_holds) l36 c36 k36
  have b36 := F36.binds (ps := ["self", "loss"]) fun _ _ _ _ _ _ us hl => match us, hl with | [_, _], _ => rfl
  have F37 := fun_mk (st := s_Over_holds) l37 c37 k37
  have b37 := F37.binds (ps := ["self", "loss"]) fun _ _ _ _ _ _ us hl => match us, hl with | [_, _], _ => rfl
  have F38 := fun_mk (st := s_Not_holds) l38 c38 k38
  have b38 := F38.binds (ps := ["self", "loss"]) fun _ _ _ _ _ _ us hl => match us, hl with | [_, _], _ => rfl
  have F39 := fun_mk (st := s_All_holds) l39 c39 k39
  have b39 := F39.binds (ps := ["self", "loss"]) fun _ _ _ _ _ _ us hl => match us, hl with | [_, _], _ => rfl
  have F40 := fun_mk (st := s_Some_holds) l40 c40 k40
  have b40 := F40.binds (ps := ["self", "loss"]) fun _ _ _ _ _ _ us hl => match us, hl with | [_, _], _ => rfl
  have F41 := fun_mk (st := s_law) l41 c41 k41
  refine ⟨PySem.W.fnOf "law" "law" (defArgs s_law) (defBody s_law) (defScope s_law) .none kV41 dc41 pm41 an41 cd41 ct41, fun s v => .of_eq rfl, fun base _ _ => ?_⟩
  have n__law_cell : Fn1 l.prog w K mg base "_law_cell" 1 ["_law_script", "_law_k"] (sp__law_cell K) := ⟨_, _, PySem.W.mg_of X G a0, k0, b0, ok__law_cell F0 z_len⟩
  have n__law_name : Fn1 l.prog w K mg base "_law_name" 1 ["_law_number"] (sp__law_name K) := ⟨_, _, PySem.W.mg_of X G a1, k1, b1, ok__law_name F1 z_range⟩
  have n__law_mix : Fn1 l.prog w K mg base "_law_mix" 1 ["_law_number", "_law_k"] (sp__law_mix K) := ⟨_, _, PySem.W.mg_of X G a2, k2, b2, ok__law_mix F2 ⟩
  have n__law_other : Fn1 l.prog w K mg base "_law_other" 1 ["_law_name_here", "_law_number"] (sp__law_other K) := ⟨_, _, PySem.W.mg_of X G a3, k3, b3, ok__law_other F3 z_len⟩
  have n__law_pools : Fn1 l.prog w K mg base "_law_pools" 2 ["_law_script"] (sp__law_pools K) := ⟨_, _, PySem.W.mg_of X G a4, k4, b4, ok__law_pools F4 z_range z_sorted z_min n__law_cell n__law_name n__law_mix n__law_other⟩
  have n__law_bracketed : Fn1 l.prog w K mg base "_law_bracketed" 1 ["_law_node", "_law_least"] (sp__law_bracketed K) := ⟨_, _, PySem.W.mg_of X G a5, k5, b5, ok__law_bracketed F5 ⟩
  have n__law_join : Fn1 l.prog w K mg base "_law_join" 2 ["_law_row", "_law_kind"] (sp__law_join K) := ⟨_, _, PySem.W.mg_of X G a6, k6, b6, ok__law_join F6 z_len z_int z_max n__law_bracketed⟩
  have n__law_leaf : Fn1 l.prog w K mg base "_law_leaf" 1 ["_law_number", "_law_pools_here"] (sp__law_leaf K) := ⟨_, _, PySem.W.mg_of X G a7, k7, b7, ok__law_leaf F7 z_min z_max⟩
  have n__law_step : Fn1 l.prog w K mg base "_law_step" 3 ["_law_row", "_law_number", "_law_pools_here"] (sp__law_step K) := ⟨_, _, PySem.W.mg_of X G a8, k8, b8, ok__law_step F8 z_min z_len n__law_bracketed n__law_join n__law_leaf⟩
  have n__law_tree : Fn1 l.prog w K mg base "_law_tree" 4 ["_law_script", "_law_start", "_law_pools_here"] (sp__law_tree K) := ⟨_, _, PySem.W.mg_of X G a9, k9, b9, ok__law_tree F9 z_range z_max z_min z_len n__law_cell n__law_mix n__law_step n__law_join⟩
  have o_CauseIs___init__ := ok_CauseIs___init__ (P := l.prog) (w := w) (mg := mg) (base := base) (C_CauseIs := C_CauseIs) F10 ⟨⟨pg_CauseIs, hd_CauseIs, po_CauseIs, sa_CauseIs⟩, fun _ => fun m => (List.mem_cons.mp m).elim (fun e => by rw [e]; exact na_CauseIs_name) (fun m => (nomatch m))⟩
  have ni_CauseIs : Mk1 l.prog w K mg base "CauseIs" C_CauseIs 1 ["self", "name"] (spI_CauseIs___init__ K C_CauseIs) := ⟨_, _, PySem.W.mg_of X G a_CauseIs, ⟨mk_CauseIs, a10, i10, kc_CauseIs⟩, b10, toI_CauseIs___init__ o_CauseIs___init__⟩
  have o_ThingIs___init__ := ok_ThingIs___init__ (P := l.prog) (w := w) (mg := mg) (base := base) (C_ThingIs := C_ThingIs) F11 ⟨⟨pg_ThingIs, hd_ThingIs, po_ThingIs, sa_ThingIs⟩, fun _ => fun m => (List.mem_cons.mp m).elim (fun e => by rw [e]; exact na_ThingIs_name) (fun m => (nomatch m))⟩
  have ni_ThingIs : Mk1 l.prog w K mg base "ThingIs" C_ThingIs 1 ["self", "name"] (spI_ThingIs___init__ K C_ThingIs) := ⟨_, _, PySem.W.mg_of X G a_ThingIs, ⟨mk_ThingIs, a11, i11, kc_ThingIs⟩, b11, toI_ThingIs___init__ o_ThingIs___init__⟩
  have o_DaysIn___init__ := ok_DaysIn___init__ (P := l.prog) (w := w) (mg := mg) (base := base) (C_DaysIn := C_DaysIn) F12 ⟨⟨pg_DaysIn, hd_DaysIn, po_DaysIn, sa_DaysIn⟩, fun _ => fun m => (List.mem_cons.mp m).elim (fun e => by rw [e]; exact na_DaysIn_first) (fun m => (List.mem_cons.mp m).elim (fun e => by rw [e]; exact na_DaysIn_last) (fun m => (nomatch m)))⟩
  have ni_DaysIn : Mk1 l.prog w K mg base "DaysIn" C_DaysIn 1 ["self", "first", "last"] (spI_DaysIn___init__ K C_DaysIn) := ⟨_, _, PySem.W.mg_of X G a_DaysIn, ⟨mk_DaysIn, a12, i12, kc_DaysIn⟩, b12, toI_DaysIn___init__ o_DaysIn___init__⟩
  have o_Over___init__ := ok_Over___init__ (P := l.prog) (w := w) (mg := mg) (base := base) (C_Over := C_Over) F13 ⟨⟨pg_Over, hd_Over, po_Over, sa_Over⟩, fun _ => fun m => (List.mem_cons.mp m).elim (fun e => by rw [e]; exact na_Over_cents) (fun m => (nomatch m))⟩
  have ni_Over : Mk1 l.prog w K mg base "Over" C_Over 1 ["self", "cents"] (spI_Over___init__ K C_Over) := ⟨_, _, PySem.W.mg_of X G a_Over, ⟨mk_Over, a13, i13, kc_Over⟩, b13, toI_Over___init__ o_Over___init__⟩
  have o_Not___init__ := ok_Not___init__ (P := l.prog) (w := w) (mg := mg) (base := base) (C_Not := C_Not) (C_Condition := C_Condition) (C_CauseIs := C_CauseIs) (C_ThingIs := C_ThingIs) (C_DaysIn := C_DaysIn) (C_Over := C_Over) (C_All := C_All) (C_Some := C_Some) F14 ⟨⟨pg_Not, hd_Not, po_Not, sa_Not⟩, fun _ => fun m => (List.mem_cons.mp m).elim (fun e => by rw [e]; exact na_Not_part) (fun m => (nomatch m))⟩
  have ni_Not : Mk1 l.prog w K mg base "Not" C_Not 1 ["self", "part"] (spI_Not___init__ K C_Not C_Condition C_CauseIs C_ThingIs C_DaysIn C_Over C_All C_Some) := ⟨_, _, PySem.W.mg_of X G a_Not, ⟨mk_Not, a14, i14, kc_Not⟩, b14, toI_Not___init__ o_Not___init__⟩
  have o_All___init__ := ok_All___init__ (P := l.prog) (w := w) (mg := mg) (base := base) (C_All := C_All) (C_Condition := C_Condition) (C_CauseIs := C_CauseIs) (C_ThingIs := C_ThingIs) (C_DaysIn := C_DaysIn) (C_Over := C_Over) (C_Not := C_Not) (C_Some := C_Some) F15 z_list ⟨⟨pg_All, hd_All, po_All, sa_All⟩, fun _ => fun m => (List.mem_cons.mp m).elim (fun e => by rw [e]; exact na_All_several) (fun m => (nomatch m))⟩
  have ni_All : Mk1 l.prog w K mg base "All" C_All 1 ["self", "several"] (spI_All___init__ K C_All C_Condition C_CauseIs C_ThingIs C_DaysIn C_Over C_Not C_Some) := ⟨_, _, PySem.W.mg_of X G a_All, ⟨mk_All, a15, i15, kc_All⟩, b15, toI_All___init__ o_All___init__⟩
  have o_Some___init__ := ok_Some___init__ (P := l.prog) (w := w) (mg := mg) (base := base) (C_Some := C_Some) (C_Condition := C_Condition) (C_CauseIs := C_CauseIs) (C_ThingIs := C_ThingIs) (C_DaysIn := C_DaysIn) (C_Over := C_Over) (C_Not := C_Not) (C_All := C_All) F16 z_list ⟨⟨pg_Some, hd_Some, po_Some, sa_Some⟩, fun _ => fun m => (List.mem_cons.mp m).elim (fun e => by rw [e]; exact na_Some_several) (fun m => (nomatch m))⟩
  have ni_Some : Mk1 l.prog w K mg base "Some" C_Some 1 ["self", "several"] (spI_Some___init__ K C_Some C_Condition C_CauseIs C_ThingIs C_DaysIn C_Over C_Not C_All) := ⟨_, _, PySem.W.mg_of X G a_Some, ⟨mk_Some, a16, i16, kc_Some⟩, b16, toI_Some___init__ o_Some___init__⟩
  have O_made : ∀ n : Nat, FnOk l.prog w K mg base CX0 (2 + n) f17 (PySem.W.fnOf "_law_made" "_law_made" (defArgs s__law_made) (defBody s__law_made) (defScope s__law_made) .none kV17 dc17 pm17 an17 cd17 ct17) ["_law_tree_here"] (sp__law_made K C_Condition C_CauseIs C_ThingIs C_DaysIn C_Over C_Not C_All C_Some n) ∧ True := by
    intro n
    induction n with
    | zero => exact ⟨fn_vac (fun _ => rfl), trivial⟩
    | succ n ih =>
      obtain ⟨ih__law_made, _⟩ := ih
      have n__law_made : Fn1 l.prog w K mg base "_law_made" (2 + n) ["_law_tree_here"] (sp__law_made K C_Condition C_CauseIs C_ThingIs C_DaysIn C_Over C_Not C_All C_Some n) := ⟨_, _, PySem.W.mg_of X G a17, k17, b17, ih__law_made⟩
      exact ⟨ok__law_made (P := l.prog) (w := w) (mg := mg) (base := base) (C_Condition := C_Condition) (C_CauseIs := C_CauseIs) (C_ThingIs := C_ThingIs) (C_DaysIn := C_DaysIn) (C_Over := C_Over) (C_Not := C_Not) (C_All := C_All) (C_Some := C_Some) n F17 ⟨mk_Condition, ob_Condition, kc_Condition⟩ (PySem.W.mg_of X G a_Condition) ni_CauseIs ni_ThingIs ni_DaysIn ni_Over n__law_made ni_Not ni_All ni_Some, trivial⟩
  obtain ⟨o__law_made, _⟩ := O_made 64
  have n__law_made : Fn1 l.prog w K mg base "_law_made" 66 ["_law_tree_here"] (sp__law_made K C_Condition C_CauseIs C_ThingIs C_DaysIn C_Over C_Not C_All C_Some 64) := ⟨_, _, PySem.W.mg_of X G a17, k17, b17, o__law_made⟩
  have O_lmarks : ∀ n : Nat, FnOk l.prog w K mg base CX0 (0 + n) f18 (PySem.W.fnOf "_law_marks" "_law_marks" (defArgs s__law_marks) (defBody s__law_marks) (defScope s__law_marks) .none kV18 dc18 pm18 an18 cd18 ct18) ["_law_tree_here"] (sp__law_marks K n) ∧ True := by
    intro n
    induction n with
    | zero => exact ⟨fn_vac (fun _ => rfl), trivial⟩
    | succ n ih =>
      obtain ⟨ih__law_marks, _⟩ := ih
      have n__law_marks : Fn1 l.prog w K mg base "_law_marks" (0 + n) ["_law_tree_here"] (sp__law_marks K n) := ⟨_, _, PySem.W.mg_of X G a18, k18, b18, ih__law_marks⟩
      exact ⟨ok__law_marks (P := l.prog) (w := w) (mg := mg) (base := base)  n F18 n__law_marks, trivial⟩
  obtain ⟨o__law_marks, _⟩ := O_lmarks 64
  have n__law_marks : Fn1 l.prog w K mg base "_law_marks" 64 ["_law_tree_here"] (sp__law_marks K 64) := ⟨_, _, PySem.W.mg_of X G a18, k18, b18, o__law_marks⟩
  have o_Condition_marks := ok_Condition_marks (P := l.prog) (w := w) (mg := mg) (base := base) (C_Condition := C_Condition) (C_CauseIs := C_CauseIs) (C_ThingIs := C_ThingIs) (C_DaysIn := C_DaysIn) (C_Over := C_Over) (C_Not := C_Not) (C_All := C_All) (C_Some := C_Some) F19 
  have nm_Condition_marks : Mt1 l.prog w K mg base C_Condition "marks" 1 ["self"] (sp_Condition_marks K C_Condition C_CauseIs C_ThingIs C_DaysIn C_Over C_Not C_All C_Some) := ⟨_, _, ⟨a19, i19, k19⟩, b19, o_Condition_marks⟩
  have o_CauseIs_marks := ok_CauseIs_marks (P := l.prog) (w := w) (mg := mg) (base := base) (C_CauseIs := C_CauseIs) F20 ⟨⟨pg_CauseIs, hd_CauseIs, po_CauseIs, sa_CauseIs⟩, fun _ => fun m => (List.mem_cons.mp m).elim (fun e => by rw [e]; exact na_CauseIs_name) (fun m => (nomatch m))⟩
  have nm_CauseIs_marks : Mt1 l.prog w K mg base C_CauseIs "marks" 1 ["self"] (sp_CauseIs_marks K C_CauseIs) := ⟨_, _, ⟨a20, i20, k20⟩, b20, o_CauseIs_marks⟩
  have o_ThingIs_marks := ok_ThingIs_marks (P := l.prog) (w := w) (mg := mg) (base := base) (C_ThingIs := C_ThingIs) F21 ⟨⟨pg_ThingIs, hd_ThingIs, po_ThingIs, sa_ThingIs⟩, fun _ => fun m => (List.mem_cons.mp m).elim (fun e => by rw [e]; exact na_ThingIs_name) (fun m => (nomatch m))⟩
  have nm_ThingIs_marks : Mt1 l.prog w K mg base C_ThingIs "marks" 1 ["self"] (sp_ThingIs_marks K C_ThingIs) := ⟨_, _, ⟨a21, i21, k21⟩, b21, o_ThingIs_marks⟩
  have o_DaysIn_marks := ok_DaysIn_marks (P := l.prog) (w := w) (mg := mg) (base := base) (C_DaysIn := C_DaysIn) F22 ⟨⟨pg_DaysIn, hd_DaysIn, po_DaysIn, sa_DaysIn⟩, fun _ => fun m => (List.mem_cons.mp m).elim (fun e => by rw [e]; exact na_DaysIn_first) (fun m => (List.mem_cons.mp m).elim (fun e => by rw [e]; exact na_DaysIn_last) (fun m => (nomatch m)))⟩
  have nm_DaysIn_marks : Mt1 l.prog w K mg base C_DaysIn "marks" 1 ["self"] (sp_DaysIn_marks K C_DaysIn) := ⟨_, _, ⟨a22, i22, k22⟩, b22, o_DaysIn_marks⟩
  have o_Over_marks := ok_Over_marks (P := l.prog) (w := w) (mg := mg) (base := base) (C_Over := C_Over) F23 ⟨⟨pg_Over, hd_Over, po_Over, sa_Over⟩, fun _ => fun m => (List.mem_cons.mp m).elim (fun e => by rw [e]; exact na_Over_cents) (fun m => (nomatch m))⟩
  have nm_Over_marks : Mt1 l.prog w K mg base C_Over "marks" 1 ["self"] (sp_Over_marks K C_Over) := ⟨_, _, ⟨a23, i23, k23⟩, b23, o_Over_marks⟩
  have O_marks : ∀ n : Nat, FnOk l.prog w K mg base CX0 (1 + n) f24 (PySem.W.fnOf "joined_marks" "joined_marks" (defArgs s_joined_marks) (defBody s_joined_marks) (defScope s_joined_marks) .none kV24 dc24 pm24 an24 cd24 ct24) ["several"] (sp_joined_marks K C_Condition C_CauseIs C_ThingIs C_DaysIn C_Over C_Not C_All C_Some n) ∧ FnOk l.prog w K mg base CX0 (1 + n) f25 (PySem.W.fnOf "marks" "Not.marks" (defArgs s_Not_marks) (defBody s_Not_marks) (defScope s_Not_marks) .none kV25 dc25 pm25 an25 cd25 ct25) ["self"] (sp_Not_marks K C_Not C_Condition C_CauseIs C_ThingIs C_DaysIn C_Over C_All C_Some n) ∧ FnOk l.prog w K mg base CX0 (1 + n) f26 (PySem.W.fnOf "marks" "All.marks" (defArgs s_All_marks) (defBody s_All_marks) (defScope s_All_marks) .none kV26 dc26 pm26 an26 cd26 ct26) ["self"] (sp_All_marks K C_All C_Condition C_CauseIs C_ThingIs C_DaysIn C_Over C_Not C_Some n) ∧ FnOk l.prog w K mg base CX0 (1 + n) f27 (PySem.W.fnOf "marks" "Some.marks" (defArgs s_Some_marks) (defBody s_Some_marks) (defScope s_Some_marks) .none kV27 dc27 pm27 an27 cd27 ct27) ["self"] (sp_Some_marks K C_Some C_Condition C_CauseIs C_ThingIs C_DaysIn C_Over C_Not C_All n) ∧ True := by
    intro n
    induction n with
    | zero => exact ⟨fn_vac (fun _ => rfl), fn_vac (fun _ => rfl), fn_vac (fun _ => rfl), fn_vac (fun _ => rfl), trivial⟩
    | succ n ih =>
      obtain ⟨ih_joined_marks, ih_Not_marks, ih_All_marks, ih_Some_marks, _⟩ := ih
      have nm_Not_marks : Mt1 l.prog w K mg base C_Not "marks" (1 + n) ["self"] (sp_Not_marks K C_Not C_Condition C_CauseIs C_ThingIs C_DaysIn C_Over C_All C_Some n) := ⟨_, _, ⟨a25, i25, k25⟩, b25, ih_Not_marks⟩
      have nm_All_marks : Mt1 l.prog w K mg base C_All "marks" (1 + n) ["self"] (sp_All_marks K C_All C_Condition C_CauseIs C_ThingIs C_DaysIn C_Over C_Not C_Some n) := ⟨_, _, ⟨a26, i26, k26⟩, b26, ih_All_marks⟩
      have nm_Some_marks : Mt1 l.prog w K mg base C_Some "marks" (1 + n) ["self"] (sp_Some_marks K C_Some C_Condition C_CauseIs C_ThingIs C_DaysIn C_Over C_Not C_All n) := ⟨_, _, ⟨a27, i27, k27⟩, b27, ih_Some_marks⟩
      have n_joined_marks : Fn1 l.prog w K mg base "joined_marks" (1 + n) ["several"] (sp_joined_marks K C_Condition C_CauseIs C_ThingIs C_DaysIn C_Over C_Not C_All C_Some n) := ⟨_, _, PySem.W.mg_of X G a24, k24, b24, ih_joined_marks⟩
      exact ⟨ok_joined_marks (P := l.prog) (w := w) (mg := mg) (base := base) (C_Condition := C_Condition) (C_CauseIs := C_CauseIs) (C_ThingIs := C_ThingIs) (C_DaysIn := C_DaysIn) (C_Over := C_Over) (C_Not := C_Not) (C_All := C_All) (C_Some := C_Some) n F24 ⟨⟨pg_Condition, hd_Condition, po_Condition, sa_Condition⟩, fun _ => fun m => (nomatch m)⟩ ⟨⟨pg_CauseIs, hd_CauseIs, po_CauseIs, sa_CauseIs⟩, fun _ => fun m => (List.mem_cons.mp m).elim (fun e => by rw [e]; exact na_CauseIs_name) (fun m => (nomatch m))⟩ ⟨⟨pg_ThingIs, hd_ThingIs, po_ThingIs, sa_ThingIs⟩, fun _ => fun m => (List.mem_cons.mp m).elim (fun e => by rw [e]; exact na_ThingIs_name) (fun m => (nomatch m))⟩ ⟨⟨pg_DaysIn, hd_DaysIn, po_DaysIn, sa_DaysIn⟩, fun _ => fun m => (List.mem_cons.mp m).elim (fun e => by rw [e]; exact na_DaysIn_first) (fun m => (List.mem_cons.mp m).elim (fun e => by rw [e]; exact na_DaysIn_last) (fun m => (nomatch m)))⟩ ⟨⟨pg_Over, hd_Over, po_Over, sa_Over⟩, fun _ => fun m => (List.mem_cons.mp m).elim (fun e => by rw [e]; exact na_Over_cents) (fun m => (nomatch m))⟩ ⟨⟨pg_Not, hd_Not, po_Not, sa_Not⟩, fun _ => fun m => (List.mem_cons.mp m).elim (fun e => by rw [e]; exact na_Not_part) (fun m => (nomatch m))⟩ ⟨⟨pg_All, hd_All, po_All, sa_All⟩, fun _ => fun m => (List.mem_cons.mp m).elim (fun e => by rw [e]; exact na_All_several) (fun m => (nomatch m))⟩ ⟨⟨pg_Some, hd_Some, po_Some, sa_Some⟩, fun _ => fun m => (List.mem_cons.mp m).elim (fun e => by rw [e]; exact na_Some_several) (fun m => (nomatch m))⟩ nm_Condition_marks nm_CauseIs_marks nm_ThingIs_marks nm_DaysIn_marks nm_Over_marks nm_Not_marks nm_All_marks nm_Some_marks, ok_Not_marks (P := l.prog) (w := w) (mg := mg) (base := base) (C_Not := C_Not) (C_Condition := C_Condition) (C_CauseIs := C_CauseIs) (C_ThingIs := C_ThingIs) (C_DaysIn := C_DaysIn) (C_Over := C_Over) (C_All := C_All) (C_Some := C_Some) n F25 ⟨⟨pg_Not, hd_Not, po_Not, sa_Not⟩, fun _ => fun m => (List.mem_cons.mp m).elim (fun e => by rw [e]; exact na_Not_part) (fun m => (nomatch m))⟩ ⟨⟨pg_Condition, hd_Condition, po_Condition, sa_Condition⟩, fun _ => fun m => (nomatch m)⟩ ⟨⟨pg_CauseIs, hd_CauseIs, po_CauseIs, sa_CauseIs⟩, fun _ => fun m => (List.mem_cons.mp m).elim (fun e => by rw [e]; exact na_CauseIs_name) (fun m => (nomatch m))⟩ ⟨⟨pg_ThingIs, hd_ThingIs, po_ThingIs, sa_ThingIs⟩, fun _ => fun m => (List.mem_cons.mp m).elim (fun e => by rw [e]; exact na_ThingIs_name) (fun m => (nomatch m))⟩ ⟨⟨pg_DaysIn, hd_DaysIn, po_DaysIn, sa_DaysIn⟩, fun _ => fun m => (List.mem_cons.mp m).elim (fun e => by rw [e]; exact na_DaysIn_first) (fun m => (List.mem_cons.mp m).elim (fun e => by rw [e]; exact na_DaysIn_last) (fun m => (nomatch m)))⟩ ⟨⟨pg_Over, hd_Over, po_Over, sa_Over⟩, fun _ => fun m => (List.mem_cons.mp m).elim (fun e => by rw [e]; exact na_Over_cents) (fun m => (nomatch m))⟩ ⟨⟨pg_All, hd_All, po_All, sa_All⟩, fun _ => fun m => (List.mem_cons.mp m).elim (fun e => by rw [e]; exact na_All_several) (fun m => (nomatch m))⟩ ⟨⟨pg_Some, hd_Some, po_Some, sa_Some⟩, fun _ => fun m => (List.mem_cons.mp m).elim (fun e => by rw [e]; exact na_Some_several) (fun m => (nomatch m))⟩ nm_Condition_marks nm_CauseIs_marks nm_ThingIs_marks nm_DaysIn_marks nm_Over_marks nm_Not_marks nm_All_marks nm_Some_marks, ok_All_marks (P := l.prog) (w := w) (mg := mg) (base := base) (C_All := C_All) (C_Condition := C_Condition) (C_CauseIs := C_CauseIs) (C_ThingIs := C_ThingIs) (C_DaysIn := C_DaysIn) (C_Over := C_Over) (C_Not := C_Not) (C_Some := C_Some) n F26 ⟨⟨pg_All, hd_All, po_All, sa_All⟩, fun _ => fun m => (List.mem_cons.mp m).elim (fun e => by rw [e]; exact na_All_several) (fun m => (nomatch m))⟩ n_joined_marks, ok_Some_marks (P := l.prog) (w := w) (mg := mg) (base := base) (C_Some := C_Some) (C_Condition := C_Condition) (C_CauseIs := C_CauseIs) (C_ThingIs := C_ThingIs) (C_DaysIn := C_DaysIn) (C_Over := C_Over) (C_Not := C_Not) (C_All := C_All) n F27 ⟨⟨pg_Some, hd_Some, po_Some, sa_Some⟩, fun _ => fun m => (List.mem_cons.mp m).elim (fun e => by rw [e]; exact na_Some_several) (fun m => (nomatch m))⟩ n_joined_marks, trivial⟩
  obtain ⟨o_joined_marks, o_Not_marks, o_All_marks, o_Some_marks, _⟩ := O_marks 64
  have n_joined_marks : Fn1 l.prog w K mg base "joined_marks" 65 ["several"] (sp_joined_marks K C_Condition C_CauseIs C_ThingIs C_DaysIn C_Over C_Not C_All C_Some 64) := ⟨_, _, PySem.W.mg_of X G a24, k24, b24, o_joined_marks⟩
  have nm_Not_marks : Mt1 l.prog w K mg base C_Not "marks" 65 ["self"] (sp_Not_marks K C_Not C_Condition C_CauseIs C_ThingIs C_DaysIn C_Over C_All C_Some 64) := ⟨_, _, ⟨a25, i25, k25⟩, b25, o_Not_marks⟩
  have nm_All_marks : Mt1 l.prog w K mg base C_All "marks" 65 ["self"] (sp_All_marks K C_All C_Condition C_CauseIs C_ThingIs C_DaysIn C_Over C_Not C_Some 64) := ⟨_, _, ⟨a26, i26, k26⟩, b26, o_All_marks⟩
  have nm_Some_marks : Mt1 l.prog w K mg base C_Some "marks" 65 ["self"] (sp_Some_marks K C_Some C_Condition C_CauseIs C_ThingIs C_DaysIn C_Over C_Not C_All 64) := ⟨_, _, ⟨a27, i27, k27⟩, b27, o_Some_marks⟩
  have n__law_whole : Fn1 l.prog w K mg base "_law_whole" 1 ["_law_found"] (sp__law_whole K) := ⟨_, _, PySem.W.mg_of X G a28, k28, b28, ok__law_whole F28 z_isinstance z_int z_bool⟩
  have n__law_marks_are : Fn1 l.prog w K mg base "_law_marks_are" 2 ["_law_found", "_law_due"] (sp__law_marks_are K) := ⟨_, _, PySem.W.mg_of X G a29, k29, b29, ok__law_marks_are F29 z_isinstance z_list z_len z_range z_tuple n__law_whole⟩
  have n__law_loss : Fn1 l.prog w K mg base "_law_loss" 2 ["_law_script", "_law_k", "_law_pools_here"] (sp__law_loss K) := ⟨_, _, PySem.W.mg_of X G a30, k30, b30, ok__law_loss F30 z_max z_min n__law_cell n__law_mix n__law_name⟩
  have n__law_unparted_name : Fn1 l.prog w K mg base "_law_unparted_name" 2 ["_law_name_here", "_law_due", "_law_kind", "_law_number", "_law_names"] (sp__law_unparted_name K) := ⟨_, _, PySem.W.mg_of X G a31, k31, b31, ok__law_unparted_name F31 z_len n__law_name⟩
  have n__law_unparted : Fn1 l.prog w K mg base "_law_unparted" 3 ["_law_loss_here", "_law_due", "_law_pools_here", "_law_number"] (sp__law_unparted K) := ⟨_, _, PySem.W.mg_of X G a32, k32, b32, ok__law_unparted F32 z_max z_min n__law_unparted_name⟩
  have o_Condition_holds := ok_Condition_holds (P := l.prog) (w := w) (mg := mg) (base := base) (C_Condition := C_Condition) (C_CauseIs := C_CauseIs) (C_ThingIs := C_ThingIs) (C_DaysIn := C_DaysIn) (C_Over := C_Over) (C_Not := C_Not) (C_All := C_All) (C_Some := C_Some) F33 
  have nm_Condition_holds : Mt1 l.prog w K mg base C_Condition "holds" 1 ["self", "loss"] (sp_Condition_holds K C_Condition C_CauseIs C_ThingIs C_DaysIn C_Over C_Not C_All C_Some) := ⟨_, _, ⟨a33, i33, k33⟩, b33, o_Condition_holds⟩
  have o_CauseIs_holds := ok_CauseIs_holds (P := l.prog) (w := w) (mg := mg) (base := base) (C_CauseIs := C_CauseIs) F34 ⟨⟨pg_CauseIs, hd_CauseIs, po_CauseIs, sa_CauseIs⟩, fun _ => fun m => (List.mem_cons.mp m).elim (fun e => by rw [e]; exact na_CauseIs_name) (fun m => (nomatch m))⟩
  have nm_CauseIs_holds : Mt1 l.prog w K mg base C_CauseIs "holds" 1 ["self", "loss"] (sp_CauseIs_holds K C_CauseIs) := ⟨_, _, ⟨a34, i34, k34⟩, b34, o_CauseIs_holds⟩
  have o_ThingIs_holds := ok_ThingIs_holds (P := l.prog) (w := w) (mg := mg) (base := base) (C_ThingIs := C_ThingIs) F35 ⟨⟨pg_ThingIs, hd_ThingIs, po_ThingIs, sa_ThingIs⟩, fun _ => fun m => (List.mem_cons.mp m).elim (fun e => by rw [e]; exact na_ThingIs_name) (fun m => (nomatch m))⟩
  have nm_ThingIs_holds : Mt1 l.prog w K mg base C_ThingIs "holds" 1 ["self", "loss"] (sp_ThingIs_holds K C_ThingIs) := ⟨_, _, ⟨a35, i35, k35⟩, b35, o_ThingIs_holds⟩
  have o_DaysIn_holds := ok_DaysIn_holds (P := l.prog) (w := w) (mg := mg) (base := base) (C_DaysIn := C_DaysIn) F36 ⟨⟨pg_DaysIn, hd_DaysIn, po_DaysIn, sa_DaysIn⟩, fun _ => fun m => (List.mem_cons.mp m).elim (fun e => by rw [e]; exact na_DaysIn_first) (fun m => (List.mem_cons.mp m).elim (fun e => by rw [e]; exact na_DaysIn_last) (fun m => (nomatch m)))⟩
  have nm_DaysIn_holds : Mt1 l.prog w K mg base C_DaysIn "holds" 1 ["self", "loss"] (sp_DaysIn_holds K C_DaysIn) := ⟨_, _, ⟨a36, i36, k36⟩, b36, o_DaysIn_holds⟩
  have o_Over_holds := ok_Over_holds (P := l.prog) (w := w) (mg := mg) (base := base) (C_Over := C_Over) F37 ⟨⟨pg_Over, hd_Over, po_Over, sa_Over⟩, fun _ => fun m => (List.mem_cons.mp m).elim (fun e => by rw [e]; exact na_Over_cents) (fun m => (nomatch m))⟩
  have nm_Over_holds : Mt1 l.prog w K mg base C_Over "holds" 1 ["self", "loss"] (sp_Over_holds K C_Over) := ⟨_, _, ⟨a37, i37, k37⟩, b37, o_Over_holds⟩
  have O_holds : ∀ n : Nat, FnOk l.prog w K mg base CX0 (1 + n) f38 (PySem.W.fnOf "holds" "Not.holds" (defArgs s_Not_holds) (defBody s_Not_holds) (defScope s_Not_holds) .none kV38 dc38 pm38 an38 cd38 ct38) ["self", "loss"] (sp_Not_holds K C_Not C_Condition C_CauseIs C_ThingIs C_DaysIn C_Over C_All C_Some n) ∧ FnOk l.prog w K mg base CX0 (1 + n) f39 (PySem.W.fnOf "holds" "All.holds" (defArgs s_All_holds) (defBody s_All_holds) (defScope s_All_holds) .none kV39 dc39 pm39 an39 cd39 ct39) ["self", "loss"] (sp_All_holds K C_All C_Condition C_CauseIs C_ThingIs C_DaysIn C_Over C_Not C_Some n) ∧ FnOk l.prog w K mg base CX0 (1 + n) f40 (PySem.W.fnOf "holds" "Some.holds" (defArgs s_Some_holds) (defBody s_Some_holds) (defScope s_Some_holds) .none kV40 dc40 pm40 an40 cd40 ct40) ["self", "loss"] (sp_Some_holds K C_Some C_Condition C_CauseIs C_ThingIs C_DaysIn C_Over C_Not C_All n) ∧ True := by
    intro n
    induction n with
    | zero => exact ⟨fn_vac (fun _ => rfl), fn_vac (fun _ => rfl), fn_vac (fun _ => rfl), trivial⟩
    | succ n ih =>
      obtain ⟨ih_Not_holds, ih_All_holds, ih_Some_holds, _⟩ := ih
      have nm_Not_holds : Mt1 l.prog w K mg base C_Not "holds" (1 + n) ["self", "loss"] (sp_Not_holds K C_Not C_Condition C_CauseIs C_ThingIs C_DaysIn C_Over C_All C_Some n) := ⟨_, _, ⟨a38, i38, k38⟩, b38, ih_Not_holds⟩
      have nm_All_holds : Mt1 l.prog w K mg base C_All "holds" (1 + n) ["self", "loss"] (sp_All_holds K C_All C_Condition C_CauseIs C_ThingIs C_DaysIn C_Over C_Not C_Some n) := ⟨_, _, ⟨a39, i39, k39⟩, b39, ih_All_holds⟩
      have nm_Some_holds : Mt1 l.prog w K mg base C_Some "holds" (1 + n) ["self", "loss"] (sp_Some_holds K C_Some C_Condition C_CauseIs C_ThingIs C_DaysIn C_Over C_Not C_All n) := ⟨_, _, ⟨a40, i40, k40⟩, b40, ih_Some_holds⟩
      exact ⟨ok_Not_holds (P := l.prog) (w := w) (mg := mg) (base := base) (C_Not := C_Not) (C_Condition := C_Condition) (C_CauseIs := C_CauseIs) (C_ThingIs := C_ThingIs) (C_DaysIn := C_DaysIn) (C_Over := C_Over) (C_All := C_All) (C_Some := C_Some) n F38 ⟨⟨pg_Not, hd_Not, po_Not, sa_Not⟩, fun _ => fun m => (List.mem_cons.mp m).elim (fun e => by rw [e]; exact na_Not_part) (fun m => (nomatch m))⟩ ⟨⟨pg_Condition, hd_Condition, po_Condition, sa_Condition⟩, fun _ => fun m => (nomatch m)⟩ ⟨⟨pg_CauseIs, hd_CauseIs, po_CauseIs, sa_CauseIs⟩, fun _ => fun m => (List.mem_cons.mp m).elim (fun e => by rw [e]; exact na_CauseIs_name) (fun m => (nomatch m))⟩ ⟨⟨pg_ThingIs, hd_ThingIs, po_ThingIs, sa_ThingIs⟩, fun _ => fun m => (List.mem_cons.mp m).elim (fun e => by rw [e]; exact na_ThingIs_name) (fun m => (nomatch m))⟩ ⟨⟨pg_DaysIn, hd_DaysIn, po_DaysIn, sa_DaysIn⟩, fun _ => fun m => (List.mem_cons.mp m).elim (fun e => by rw [e]; exact na_DaysIn_first) (fun m => (List.mem_cons.mp m).elim (fun e => by rw [e]; exact na_DaysIn_last) (fun m => (nomatch m)))⟩ ⟨⟨pg_Over, hd_Over, po_Over, sa_Over⟩, fun _ => fun m => (List.mem_cons.mp m).elim (fun e => by rw [e]; exact na_Over_cents) (fun m => (nomatch m))⟩ ⟨⟨pg_All, hd_All, po_All, sa_All⟩, fun _ => fun m => (List.mem_cons.mp m).elim (fun e => by rw [e]; exact na_All_several) (fun m => (nomatch m))⟩ ⟨⟨pg_Some, hd_Some, po_Some, sa_Some⟩, fun _ => fun m => (List.mem_cons.mp m).elim (fun e => by rw [e]; exact na_Some_several) (fun m => (nomatch m))⟩ nm_Condition_holds nm_CauseIs_holds nm_ThingIs_holds nm_DaysIn_holds nm_Over_holds nm_Not_holds nm_All_holds nm_Some_holds, ok_All_holds (P := l.prog) (w := w) (mg := mg) (base := base) (C_All := C_All) (C_Condition := C_Condition) (C_CauseIs := C_CauseIs) (C_ThingIs := C_ThingIs) (C_DaysIn := C_DaysIn) (C_Over := C_Over) (C_Not := C_Not) (C_Some := C_Some) n F39 ⟨⟨pg_All, hd_All, po_All, sa_All⟩, fun _ => fun m => (List.mem_cons.mp m).elim (fun e => by rw [e]; exact na_All_several) (fun m => (nomatch m))⟩ ⟨⟨pg_Condition, hd_Condition, po_Condition, sa_Condition⟩, fun _ => fun m => (nomatch m)⟩ ⟨⟨pg_CauseIs, hd_CauseIs, po_CauseIs, sa_CauseIs⟩, fun _ => fun m => (List.mem_cons.mp m).elim (fun e => by rw [e]; exact na_CauseIs_name) (fun m => (nomatch m))⟩ ⟨⟨pg_ThingIs, hd_ThingIs, po_ThingIs, sa_ThingIs⟩, fun _ => fun m => (List.mem_cons.mp m).elim (fun e => by rw [e]; exact na_ThingIs_name) (fun m => (nomatch m))⟩ ⟨⟨pg_DaysIn, hd_DaysIn, po_DaysIn, sa_DaysIn⟩, fun _ => fun m => (List.mem_cons.mp m).elim (fun e => by rw [e]; exact na_DaysIn_first) (fun m => (List.mem_cons.mp m).elim (fun e => by rw [e]; exact na_DaysIn_last) (fun m => (nomatch m)))⟩ ⟨⟨pg_Over, hd_Over, po_Over, sa_Over⟩, fun _ => fun m => (List.mem_cons.mp m).elim (fun e => by rw [e]; exact na_Over_cents) (fun m => (nomatch m))⟩ ⟨⟨pg_Not, hd_Not, po_Not, sa_Not⟩, fun _ => fun m => (List.mem_cons.mp m).elim (fun e => by rw [e]; exact na_Not_part) (fun m => (nomatch m))⟩ ⟨⟨pg_Some, hd_Some, po_Some, sa_Some⟩, fun _ => fun m => (List.mem_cons.mp m).elim (fun e => by rw [e]; exact na_Some_several) (fun m => (nomatch m))⟩ nm_Condition_holds nm_CauseIs_holds nm_ThingIs_holds nm_DaysIn_holds nm_Over_holds nm_Not_holds nm_All_holds nm_Some_holds, ok_Some_holds (P := l.prog) (w := w) (mg := mg) (base := base) (C_Some := C_Some) (C_Condition := C_Condition) (C_CauseIs := C_CauseIs) (C_ThingIs := C_ThingIs) (C_DaysIn := C_DaysIn) (C_Over := C_Over) (C_Not := C_Not) (C_All := C_All) n F40 ⟨⟨pg_Some, hd_Some, po_Some, sa_Some⟩, fun _ => fun m => (List.mem_cons.mp m).elim (fun e => by rw [e]; exact na_Some_several) (fun m => (nomatch m))⟩ ⟨⟨pg_Condition, hd_Condition, po_Condition, sa_Condition⟩, fun _ => fun m => (nomatch m)⟩ ⟨⟨pg_CauseIs, hd_CauseIs, po_CauseIs, sa_CauseIs⟩, fun _ => fun m => (List.mem_cons.mp m).elim (fun e => by rw [e]; exact na_CauseIs_name) (fun m => (nomatch m))⟩ ⟨⟨pg_ThingIs, hd_ThingIs, po_ThingIs, sa_ThingIs⟩, fun _ => fun m => (List.mem_cons.mp m).elim (fun e => by rw [e]; exact na_ThingIs_name) (fun m => (nomatch m))⟩ ⟨⟨pg_DaysIn, hd_DaysIn, po_DaysIn, sa_DaysIn⟩, fun _ => fun m => (List.mem_cons.mp m).elim (fun e => by rw [e]; exact na_DaysIn_first) (fun m => (List.mem_cons.mp m).elim (fun e => by rw [e]; exact na_DaysIn_last) (fun m => (nomatch m)))⟩ ⟨⟨pg_Over, hd_Over, po_Over, sa_Over⟩, fun _ => fun m => (List.mem_cons.mp m).elim (fun e => by rw [e]; exact na_Over_cents) (fun m => (nomatch m))⟩ ⟨⟨pg_Not, hd_Not, po_Not, sa_Not⟩, fun _ => fun m => (List.mem_cons.mp m).elim (fun e => by rw [e]; exact na_Not_part) (fun m => (nomatch m))⟩ ⟨⟨pg_All, hd_All, po_All, sa_All⟩, fun _ => fun m => (List.mem_cons.mp m).elim (fun e => by rw [e]; exact na_All_several) (fun m => (nomatch m))⟩ nm_Condition_holds nm_CauseIs_holds nm_ThingIs_holds nm_DaysIn_holds nm_Over_holds nm_Not_holds nm_All_holds nm_Some_holds, trivial⟩
  obtain ⟨o_Not_holds, o_All_holds, o_Some_holds, _⟩ := O_holds 64
  have nm_Not_holds : Mt1 l.prog w K mg base C_Not "holds" 65 ["self", "loss"] (sp_Not_holds K C_Not C_Condition C_CauseIs C_ThingIs C_DaysIn C_Over C_All C_Some 64) := ⟨_, _, ⟨a38, i38, k38⟩, b38, o_Not_holds⟩
  have nm_All_holds : Mt1 l.prog w K mg base C_All "holds" 65 ["self", "loss"] (sp_All_holds K C_All C_Condition C_CauseIs C_ThingIs C_DaysIn C_Over C_Not C_Some 64) := ⟨_, _, ⟨a39, i39, k39⟩, b39, o_All_holds⟩
  have nm_Some_holds : Mt1 l.prog w K mg base C_Some "holds" 65 ["self", "loss"] (sp_Some_holds K C_Some C_Condition C_CauseIs C_ThingIs C_DaysIn C_Over C_Not C_All 64) := ⟨_, _, ⟨a40, i40, k40⟩, b40, o_Some_holds⟩
  exact ok_law F41 z_range z_isinstance z_bool ⟨⟨pg_Condition, hd_Condition, po_Condition, sa_Condition⟩, fun _ => fun m => (nomatch m)⟩ ⟨⟨pg_CauseIs, hd_CauseIs, po_CauseIs, sa_CauseIs⟩, fun _ => fun m => (List.mem_cons.mp m).elim (fun e => by rw [e]; exact na_CauseIs_name) (fun m => (nomatch m))⟩ ⟨⟨pg_ThingIs, hd_ThingIs, po_ThingIs, sa_ThingIs⟩, fun _ => fun m => (List.mem_cons.mp m).elim (fun e => by rw [e]; exact na_ThingIs_name) (fun m => (nomatch m))⟩ ⟨⟨pg_DaysIn, hd_DaysIn, po_DaysIn, sa_DaysIn⟩, fun _ => fun m => (List.mem_cons.mp m).elim (fun e => by rw [e]; exact na_DaysIn_first) (fun m => (List.mem_cons.mp m).elim (fun e => by rw [e]; exact na_DaysIn_last) (fun m => (nomatch m)))⟩ ⟨⟨pg_Over, hd_Over, po_Over, sa_Over⟩, fun _ => fun m => (List.mem_cons.mp m).elim (fun e => by rw [e]; exact na_Over_cents) (fun m => (nomatch m))⟩ ⟨⟨pg_Not, hd_Not, po_Not, sa_Not⟩, fun _ => fun m => (List.mem_cons.mp m).elim (fun e => by rw [e]; exact na_Not_part) (fun m => (nomatch m))⟩ ⟨⟨pg_All, hd_All, po_All, sa_All⟩, fun _ => fun m => (List.mem_cons.mp m).elim (fun e => by rw [e]; exact na_All_several) (fun m => (nomatch m))⟩ ⟨⟨pg_Some, hd_Some, po_Some, sa_Some⟩, fun _ => fun m => (List.mem_cons.mp m).elim (fun e => by rw [e]; exact na_Some_several) (fun m => (nomatch m))⟩ n__law_pools n__law_tree n__law_made n__law_marks nm_Condition_marks nm_CauseIs_marks nm_ThingIs_marks nm_DaysIn_marks nm_Over_marks nm_Not_marks nm_All_marks nm_Some_marks n__law_marks_are n__law_loss n__law_cell n__law_mix n__law_unparted nm_Condition_holds nm_CauseIs_holds nm_ThingIs_holds nm_DaysIn_holds nm_Over_holds nm_Not_holds nm_All_holds nm_Some_holds
theorem walk {l : PySem.W.OpenLaw} {q : Program} {loose : List Str} {XP : (Str → Option Value) → Heap → Prop} {YP : World → Heap → Prop} {d : DefRec} {K : Params → PySem.W.Frag} (hn : l.most = some 63) (hdf : d.params.defaults = [])
    (hY : ∀ (w : World) (h : Heap), YP w h → (K w.params).In h)
    (F : ∀ (w : World) (mg : Str → Option Value) (fa : Addr) (h : Heap), (K w.params).In h → h.Ns mainGlobals mg → mg d.name = some (.ref fa) →
      ∃ fd : FuncData, (∀ (s : Shared) (u : Value), BindsTo s fd ⟨[u], []⟩ [("_law_script", u)]) ∧ ∀ base : Heap, (K w.params).In base → base.Ns mainGlobals mg → FnOk l.prog w (K w.params) mg base CX0 67 fa fd ["_law_script"] (spLaw (K w.params))) :
    PySem.W.WalkO q loose XP YP l.row.toRowW d [] (fun f vs => PySem.call f vs) :=
  L2.walk_of (n := 63) (k := 67) (x := "_law_script") (CX := fun _ => CX0) (sp := fun w => spLaw (K w.params)) hn (by decide) hdf ⟨rfl, by decide, by decide⟩ hY F (fun _ H a ns hl _ hS => spLaw_of hS hl) fun _ _ _ _ _ z => z
end K26

open PySem PySem.W PyProof.Rows in
set_option maxRecDepth 100000 in
set_option maxHeartbeats 0 in
theorem PySem.Challenge.cw_coverroll_k26_whole_marks_part_losses_holds : PySem.Challenge.rw_coverroll_k26_whole_marks_part_losses.Holds := by
  w_on; o_law; k_head; (case hw => w_witness2)
  k_fill
  refine K26.walk (l := PySem.Challenge.rw_coverroll_k26_whole_marks_part_losses) rfl rfl (fun w h Y => PySem.W.kIn_of Y) ?F
  case F =>
    intro w mg fa h KX G hmg
    refine' K26.all_mk KX G hmg ?a_CauseIs ?pg_CauseIs ?hd_CauseIs ?po_CauseIs ?sa_CauseIs ?mk_CauseIs ?kc_CauseIs ?na_CauseIs_name ?a_ThingIs ?pg_ThingIs ?hd_ThingIs ?po_ThingIs ?sa_ThingIs ?mk_ThingIs ?kc_ThingIs ?na_ThingIs_name ?a_DaysIn ?pg_DaysIn ?hd_DaysIn ?po_DaysIn ?sa_DaysIn ?mk_DaysIn ?kc_DaysIn ?na_DaysIn_first ?na_DaysIn_last ?a_Over ?pg_Over ?hd_Over ?po_Over ?sa_Over ?mk_Over ?kc_Over ?na_Over_cents ?a_Not ?pg_Not ?hd_Not ?po_Not ?sa_Not ?mk_Not ?kc_Not ?na_Not_part ?a_All ?pg_All ?hd_All ?po_All ?sa_All ?mk_All ?kc_All ?na_All_several ?a_Some ?pg_Some ?hd_Some ?po_Some ?sa_Some ?mk_Some ?kc_Some ?na_Some_several ?a_Condition ?pg_Condition ?hd_Condition ?po_Condition ?sa_Condition ?mk_Condition ?kc_Condition ?ob_Condition ?a0 ?l0 ?c0 ?k0 ?a1 ?l1 ?c1 ?k1 ?a2 ?l2 ?c2 ?k2 ?a3 ?l3 ?c3 ?k3 ?a4 ?l4 ?c4 ?k4 ?a5 ?l5 ?c5 ?k5 ?a6 ?l6 ?c6 ?k6 ?a7 ?l7 ?c7 ?k7 ?a8 ?l8 ?c8 ?k8 ?a9 ?l9 ?c9 ?k9 ?a10 ?l10 ?c10 ?k10 ?i10 ?a11 ?l11 ?c11 ?k11 ?i11 ?a12 ?l12 ?c12 ?k12 ?i12 ?a13 ?l13 ?c13 ?k13 ?i13 ?a14 ?l14 ?c14 ?k14 ?i14 ?a15 ?l15 ?c15 ?k15 ?i15 ?a16 ?l16 ?c16 ?k16 ?i16 ?a17 ?l17 ?c17 ?k17 ?a18 ?l18 ?c18 ?k18 ?a19 ?l19 ?c19 ?k19 ?i19 ?a20 ?l20 ?c20 ?k20 ?i20 ?a21 ?l21 ?c21 ?k21 ?i21 ?a22 ?l22 ?c22 ?k22 ?i22 ?a23 ?l23 ?c23 ?k23 ?i23 ?a24 ?l24 ?c24 ?k24 ?a25 ?l25 ?c25 ?k25 ?i25 ?a26 ?l26 ?c26 ?k26 ?i26 ?a27 ?l27 ?c27 ?k27 ?i27 ?a28 ?l28 ?c28 ?k28 ?a29 ?l29 ?c29 ?k29 ?a30 ?l30 ?c30 ?k30 ?a31 ?l31 ?c31 ?k31 ?a32 ?l32 ?c32 ?k32 ?a33 ?l33 ?c33 ?k33 ?i33 ?a34 ?l34 ?c34 ?k34 ?i34 ?a35 ?l35 ?c35 ?k35 ?i35 ?a36 ?l36 ?c36 ?k36 ?i36 ?a37 ?l37 ?c37 ?k37 ?i37 ?a38 ?l38 ?c38 ?k38 ?i38 ?a39 ?l39 ?c39 ?k39 ?i39 ?a40 ?l40 ?c40 ?k40 ?i40 ?a41 ?l41 ?c41 ?k41 ?z_len ?z_range ?z_sorted ?z_min ?z_int ?z_max ?z_list ?z_isinstance ?z_bool ?z_tuple
    (case a_CauseIs => k_is)
    (case pg_CauseIs => k_is)
    (case hd_CauseIs => k_is)
    (case po_CauseIs => k_is)
    (case sa_CauseIs => k_is)
    (case mk_CauseIs => k_is)
    (case kc_CauseIs => k_is)
    (case na_CauseIs_name => k_is)
    (case a_ThingIs => k_is)
    (case pg_ThingIs => k_is)
    (case hd_ThingIs => k_is)
    (case po_ThingIs => k_is)
    (case sa_ThingIs => k_is)
    (case mk_ThingIs => k_is)
    (case kc_ThingIs => k_is)
    (case na_ThingIs_name => k_is)
    (case a_DaysIn => k_is)
    (case pg_DaysIn => k_is)
    (case hd_DaysIn => k_is)
    (case po_DaysIn => k_is)
    (case sa_DaysIn => k_is)
    (case mk_DaysIn => k_is)
    (case kc_DaysIn => k_is)
    (case na_DaysIn_first => k_is)
    (case na_DaysIn_last => k_is)
    (case a_Over => k_is)
    (case pg_Over => k_is)
    (case hd_Over => k_is)
    (case po_Over => k_is)
    (case sa_Over => k_is)
    (case mk_Over => k_is)
    (case kc_Over => k_is)
    (case na_Over_cents => k_is)
    (case a_Not => k_is)
    (case pg_Not => k_is)
    (case hd_Not => k_is)
    (case po_Not => k_is)
    (case sa_Not => k_is)
    (case mk_Not => k_is)
    (case kc_Not => k_is)
    (case na_Not_part => k_is)
    (case a_All => k_is)
    (case pg_All => k_is)
    (case hd_All => k_is)
    (case po_All => k_is)
    (case sa_All => k_is)
    (case mk_All => k_is)
    (case kc_All => k_is)
    (case na_All_several => k_is)
    (case a_Some => k_is)
    (case pg_Some => k_is)
    (case hd_Some => k_is)
    (case po_Some => k_is)
    (case sa_Some => k_is)
    (case mk_Some => k_is)
    (case kc_Some => k_is)
    (case na_Some_several => k_is)
    (case a_Condition => k_is)
    (case pg_Condition => k_is)
    (case hd_Condition => k_is)
    (case po_Condition => k_is)
    (case sa_Condition => k_is)
    (case mk_Condition => k_is)
    (case kc_Condition => k_is)
    (case ob_Condition => k_is)
    (case a0 => k_is)
    (case l0 => k_is)
    (case c0 => k_is)
    (case k0 => k_is)
    (case a1 => k_is)
    (case l1 => k_is)
    (case c1 => k_is)
    (case k1 => k_is)
    (case a2 => k_is)
    (case l2 => k_is)
    (case c2 => k_is)
    (case k2 => k_is)
    (case a3 => k_is)
    (case l3 => k_is)
    (case c3 => k_is)
    (case k3 => k_is)
    (case a4 => k_is)
    (case l4 => k_is)
    (case c4 => k_is)
    (case k4 => k_is)
    (case a5 => k_is)
    (case l5 => k_is)
    (case c5 => k_is)
    (case k5 => k_is)
    (case a6 => k_is)
    (case l6 => k_is)
    (case c6 => k_is)
    (case k6 => k_is)
    (case a7 => k_is)
    (case l7 => k_is)
    (case c7 => k_is)
    (case k7 => k_is)
    (case a8 => k_is)
    (case l8 => k_is)
    (case c8 => k_is)
    (case k8 => k_is)
    (case a9 => k_is)
    (case l9 => k_is)
    (case c9 => k_is)
    (case k9 => k_is)
    (case a10 => k_is)
    (case l10 => k_is)
    (case c10 => k_is)
    (case k10 => k_is)
    (case i10 => k_is)
    (case a11 => k_is)
    (case l11 => k_is)
    (case c11 => k_is)
    (case k11 => k_is)
    (case i11 => k_is)
    (case a12 => k_is)
    (case l12 => k_is)
    (case c12 => k_is)
    (case k12 => k_is)
    (case i12 => k_is)
    (case a13 => k_is)
    (case l13 => k_is)
    (case c13 => k_is)
    (case k13 => k_is)
    (case i13 => k_is)
    (case a14 => k_is)
    (case l14 => k_is)
    (case c14 => k_is)
    (case k14 => k_is)
    (case i14 => k_is)
    (case a15 => k_is)
    (case l15 => k_is)
    (case c15 => k_is)
    (case k15 => k_is)
    (case i15 => k_is)
    (case a16 => k_is)
    (case l16 => k_is)
    (case c16 => k_is)
    (case k16 => k_is)
    (case i16 => k_is)
    (case a17 => k_is)
    (case l17 => k_is)
    (case c17 => k_is)
    (case k17 => k_is)
    (case a18 => k_is)
    (case l18 => k_is)
    (case c18 => k_is)
    (case k18 => k_is)
    (case a19 => k_is)
    (case l19 => k_is)
    (case c19 => k_is)
    (case k19 => k_is)
    (case i19 => k_is)
    (case a20 => k_is)
    (case l20 => k_is)
    (case c20 => k_is)
    (case k20 => k_is)
    (case i20 => k_is)
    (case a21 => k_is)
    (case l21 => k_is)
    (case c21 => k_is)
    (case k21 => k_is)
    (case i21 => k_is)
    (case a22 => k_is)
    (case l22 => k_is)
    (case c22 => k_is)
    (case k22 => k_is)
    (case i22 => k_is)
    (case a23 => k_is)
    (case l23 => k_is)
    (case c23 => k_is)
    (case k23 => k_is)
    (case i23 => k_is)
    (case a24 => k_is)
    (case l24 => k_is)
    (case c24 => k_is)
    (case k24 => k_is)
    (case a25 => k_is)
    (case l25 => k_is)
    (case c25 => k_is)
    (case k25 => k_is)
    (case i25 => k_is)
    (case a26 => k_is)
    (case l26 => k_is)
    (case c26 => k_is)
    (case k26 => k_is)
    (case i26 => k_is)
    (case a27 => k_is)
    (case l27 => k_is)
    (case c27 => k_is)
    (case k27 => k_is)
    (case i27 => k_is)
    (case a28 => k_is)
    (case l28 => k_is)
    (case c28 => k_is)
    (case k28 => k_is)
    (case a29 => k_is)
    (case l29 => k_is)
    (case c29 => k_is)
    (case k29 => k_is)
    (case a30 => k_is)
    (case l30 => k_is)
    (case c30 => k_is)
    (case k30 => k_is)
    (case a31 => k_is)
    (case l31 => k_is)
    (case c31 => k_is)
    (case k31 => k_is)
    (case a32 => k_is)
    (case l32 => k_is)
    (case c32 => k_is)
    (case k32 => k_is)
    (case a33 => k_is)
    (case l33 => k_is)
    (case c33 => k_is)
    (case k33 => k_is)
    (case i33 => k_is)
    (case a34 => k_is)
    (case l34 => k_is)
    (case c34 => k_is)
    (case k34 => k_is)
    (case i34 => k_is)
    (case a35 => k_is)
    (case l35 => k_is)
    (case c35 => k_is)
    (case k35 => k_is)
    (case i35 => k_is)
    (case a36 => k_is)
    (case l36 => k_is)
    (case c36 => k_is)
    (case k36 => k_is)
    (case i36 => k_is)
    (case a37 => k_is)
    (case l37 => k_is)
    (case c37 => k_is)
    (case k37 => k_is)
    (case i37 => k_is)
    (case a38 => k_is)
    (case l38 => k_is)
    (case c38 => k_is)
    (case k38 => k_is)
    (case i38 => k_is)
    (case a39 => k_is)
    (case l39 => k_is)
    (case c39 => k_is)
    (case k39 => k_is)
    (case i39 => k_is)
    (case a40 => k_is)
    (case l40 => k_is)
    (case c40 => k_is)
    (case k40 => k_is)
    (case i40 => k_is)
    (case a41 => k_is)
    (case l41 => k_is)
    (case c41 => k_is)
    (case k41 => k_is)
    (case z_len => k_is)
    (case z_range => k_is)
    (case z_sorted => k_is)
    (case z_min => k_is)
    (case z_int => k_is)
    (case z_max => k_is)
    (case z_list => k_is)
    (case z_isinstance => k_is)
    (case z_bool => k_is)
    (case z_tuple => k_is)
