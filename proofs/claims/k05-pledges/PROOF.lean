import PyProof.Rows.All
import Wide.All
import OpenK.AllK
import Wide.FinOn
import HandS.ForMost
import HandS.Evl
import HandS.Wide
import HandS.IsInst
import HandS.Exc
import HandS.ExcOwn
import HandS.ExcIs
import HandS.TryOnly
import HandS.WordsExc
import HandS.More
import PySem.Challenge.RW_yearpledge_k05_pledges
set_option Elab.async false
set_option linter.all false
set_option autoImplicit false
set_option maxRecDepth 100000
set_option maxHeartbeats 2000000
/-! A layer of shown data over the readings: what is evaluated is told by data alone. -/
namespace Yp
open PySem L2 Evl

/-! ### data -/
structure Kx where
  K : PySem.W.Frag
  T : Addr
  P : Addr
inductive Da where
  | pd (d : PyData)
  | tab (c : List (Int × Int))
  | ple (n : Int) (r : List (Int × Int × Int))
  | exc (A : Addr)
/-- a caught exception of the class at A, kept at a -/
def ExT (A a : Addr) : HO := .ext fun h => ∃ oe : PySem.Obj, PySem.W.InstAt h a oe A none
def pD (p : Int × Int) : PyData := .tuple [.int p.1, .int p.2]
def rD (r : Int × Int × Int) : PyData := .tuple [.int r.1, .int r.2.1, .int r.2.2]
def Rp (C : Kx) (G : Hp) (v : V) : Da → Prop
  | .pd d => Dp C.K G v d
  | .tab c => ∃ a dx l, v = .ref a ∧ G a = some (.ins C.T dx [("chances", .ref l)]) ∧ Dp C.K G (.ref l) (.list (c.map pD))
  | .ple n r => ∃ a dx l, v = .ref a ∧ G a = some (.ins C.P dx [("age", .int n), ("rows", .ref l)]) ∧ Dp C.K G (.ref l) (.list (r.map rD))
  | .exc A => ∃ a, v = .ref a ∧ G a = some (ExT A a)

mutual
theorem dp_mono {K : PySem.W.Frag} {G G' : Hp} (e : Ex G G') : ∀ (d : PyData) (v : V), Dp K G v d → Dp K G' v d
  | _, _, .non => .non
  | _, _, .bl b => .bl b
  | _, _, .int i => .int i
  | _, _, .str x => .str x
  | .list ds, _, .lst h ha => .lst (ex_l e h) (dpAll_mono e ds _ ha)
  | .tuple ds, _, .tup h ha => .tup (ex_t e h) (dpAll_mono e ds _ ha)
theorem dpAll_mono {K : PySem.W.Frag} {G G' : Hp} (e : Ex G G') : ∀ (ds : List PyData) (vs : List V), DpAll K G vs ds → DpAll K G' vs ds
  | _, _, .nil => .nil
  | d :: ds, _, .cons h t => .cons (dp_mono e d _ h) (dpAll_mono e ds _ t)
end
theorem Rp.mono {C : Kx} {G G' : Hp} {v : V} (e : Ex G G') : ∀ {d : Da}, Rp C G v d → Rp C G' v d
  | .pd d, h => dp_mono e d v h
  | .tab c, ⟨a, dx, l, e1, e2, h⟩ => ⟨a, dx, l, e1, e a _ e2, dp_mono e _ _ h⟩
  | .ple n r, ⟨a, dx, l, e1, e2, h⟩ => ⟨a, dx, l, e1, e a _ e2, dp_mono e _ _ h⟩
  | .exc A, ⟨a, e1, e2⟩ => ⟨a, e1, e a _ e2⟩

section
variable {K : PySem.W.Frag} {G G' : Hp} {v : V} {vs : List V} {d : PyData} {ds : List PyData}
theorem dp_int {i : Int} (h : Dp K G v (.int i)) : v = .int i := by cases h; rfl
theorem dp_bl {b : Bool} (h : Dp K G v (.bool b)) : v = .bl b := by cases h; rfl
theorem dp_tup (h : Dp K G v (.tuple ds)) : ∃ a xs, v = .ref a ∧ SqT K G a xs ∧ DpAll K G xs ds := by
  cases h with
  | tup h1 h2 => exact ⟨_, _, rfl, h1, h2⟩
theorem dp_lst (h : Dp K G v (.list ds)) : ∃ a xs, v = .ref a ∧ SqL K G a xs ∧ DpAll K G xs ds := by
  cases h with
  | lst h1 h2 => exact ⟨_, _, rfl, h1, h2⟩
theorem dpa_len : ∀ {vs : List V} {ds : List PyData}, DpAll K G vs ds → vs.length = ds.length
  | _, _, .nil => rfl
  | _, _, .cons _ t => by
    show _ + 1 = _ + 1
    rw [dpa_len t]
theorem dpa_get : ∀ {vs : List V} {ds : List PyData} {i : Nat} {d : PyData}, DpAll K G vs ds → ds[i]? = some d → ∃ v, vs[i]? = some v ∧ Dp K G v d
  | _, _, _, _, .nil, h => by simp at h
  | _, _, 0, d, .cons h t, e => by
    have e' : _ = d := Option.some.inj e
    subst e'
    exact ⟨_, rfl, h⟩
  | _, _, i + 1, d, .cons h t, e => dpa_get (i := i) t (by simpa using e)
theorem dpa_of : ∀ {vs : List V} {ds : List PyData} {i : Nat} {v : V}, DpAll K G vs ds → vs[i]? = some v → ∃ d, ds[i]? = some d ∧ Dp K G v d
  | _, _, _, _, .nil, h => by simp at h
  | _, _, 0, v, .cons h t, e => by
    have e' : _ = v := Option.some.inj e
    subst e'
    exact ⟨_, rfl, h⟩
  | _, _, i + 1, v, .cons h t, e => dpa_of (i := i) t (by simpa using e)
theorem dpa_app : ∀ {vs ws : List V} {ds es : List PyData}, DpAll K G vs ds → DpAll K G ws es → DpAll K G (vs ++ ws) (ds ++ es)
  | _, _, _, _, .nil, s => s
  | _, _, _, _, .cons h t, s => .cons h (dpa_app t s)
theorem dpa_take : ∀ {vs : List V} {ds : List PyData} (n : Nat), DpAll K G vs ds → DpAll K G (vs.take n) (ds.take n)
  | _, _, 0, _ => .nil
  | _, _, n + 1, .nil => .nil
  | _, _, n + 1, .cons h t => .cons h (dpa_take n t)
theorem dpa_drop : ∀ {vs : List V} {ds : List PyData} (n : Nat), DpAll K G vs ds → DpAll K G (vs.drop n) (ds.drop n)
  | _, _, 0, h => h
  | _, _, n + 1, .nil => .nil
  | _, _, n + 1, .cons h t => dpa_drop n t
theorem dpa_ints : ∀ (ns : List Int), DpAll K G (ns.map V.int) (ns.map PyData.int)
  | [] => .nil
  | n :: r => .cons (.int n) (dpa_ints r)
theorem dpa_intsV : ∀ {ns : List Int} {vs : List V}, DpAll K G vs (ns.map PyData.int) → vs = ns.map V.int
  | [], _, .nil => rfl
  | n :: r, _, .cons h t => by rw [dp_int h, dpa_intsV t]; rfl
end

/-! ### two heaps: what is shown, what is tracked -/
structure Stp (G H G' H' : Hp) : Prop where
  g : Ex G G'
  h : Ex H H'
  s : Ex G' H'
  n : ∀ a, G a = none → G' a ≠ none → H a = none
theorem Stp.refl {G H : Hp} (s : Ex G H) : Stp G H G H := ⟨Ex.refl _, Ex.refl _, s, fun a h1 h2 => absurd h1 h2⟩
theorem Stp.trans {G H G1 H1 G2 H2 : Hp} (a : Stp G H G1 H1) (b : Stp G1 H1 G2 H2) : Stp G H G2 H2 :=
  ⟨a.g.trans b.g, a.h.trans b.h, b.s, fun x h1 h2 => by
    by_cases h : G1 x = none
    · exact fresh_back a.h (b.n x h h2)
    · exact a.n x h1 h⟩
theorem Stp.free {G H G' H' : Hp} (a : Stp G H G' H') (s : Ex G H) {l : Addr} {o : HO} (h1 : H l = some o) (h2 : G l = none) : G' l = none := by
  cases q : G' l with
  | none => rfl
  | some u =>
    have z := a.n l h2 (by rw [q]; exact fun z => nomatch z)
    rw [z] at h1
    cases h1
/-- a new cell -/
theorem Stp.new {G H : Hp} {p : Addr} {o : HO} (s : Ex G H) (h : H p = none) : Stp G H (upd G p o) (upd H p o) := by
  have hg : G p = none := fresh_back s h
  refine ⟨Ex.new hg, Ex.new h, fun a u e => ?_, fun a h1 h2 => ?_⟩
  · by_cases q : a = p
    · subst q
      rw [upd_same] at e ⊢
      exact e
    · rw [upd_ne q] at e ⊢
      exact s a u e
  · by_cases q : a = p
    · subst q; exact h
    · rw [upd_ne q] at h2
      exact absurd h1 h2
/-- an own cell is changed -/
theorem Stp.mut {G0 H0 G H : Hp} {l : Addr} {o : HO} (a : Stp G0 H0 G H) (h0 : H0 l = none) (hg : G l = none) : Stp G0 H0 G (upd H l o) :=
  ⟨a.g, Ex.mut a.h h0, fun x u e => by
    rw [upd_ne (ne_of_none e hg)]
    exact a.s x u e, a.n⟩
/-- an own cell is shown -/
theorem Stp.show {G0 H0 G H : Hp} {l : Addr} {o : HO} (a : Stp G0 H0 G H) (h0 : H0 l = none) (hg : G l = none) (hl : H l = some o) : Stp G0 H0 (upd G l o) H :=
  ⟨a.g.trans (Ex.new hg), a.h, fun x u e => by
    by_cases q : x = l
    · subst q
      rw [upd_same] at e
      rw [hl]
      exact e
    · rw [upd_ne q] at e
      exact a.s x u e, fun x h1 h2 => by
    by_cases q : x = l
    · subst q; exact h0
    · rw [upd_ne q] at h2
      exact a.n x h1 h2⟩

/-! ### slots -/
inductive Sl where
  | un
  | va (d : Da)
  | ow (xs : List PyData)
  | ob (A x : Addr) (fs : List (Str × PyData))
  | nl (rs : List (List PyData))
def FsAt (K : PySem.W.Frag) (H0 G : Hp) : List (Str × V) → List (Str × PyData) → Prop := Paired fun p q => p.1 = q.1 ∧ Dp K G p.2 q.2 ∧ ∀ l, p.2 = .ref l → H0 l = none
theorem FsAt.mono {K : PySem.W.Frag} {H0 G G' : Hp} (e : Ex G G') : ∀ {fs : List (Str × V)} {gs : List (Str × PyData)}, FsAt K H0 G fs gs → FsAt K H0 G' fs gs
  | _, _, .nil => .nil
  | _, _, .cons h t => .cons ⟨h.1, dp_mono e _ _ h.2.1, h.2.2⟩ (FsAt.mono e t)
theorem FsAt.put {K : PySem.W.Frag} {H0 G : Hp} {f : Str} {v : V} {d : PyData} (h : Dp K G v d) (hf : ∀ l, v = .ref l → H0 l = none) : ∀ {fs : List (Str × V)} {gs : List (Str × PyData)}, FsAt K H0 G fs gs → (∀ p ∈ gs, p.1 ≠ f) → FsAt K H0 G (putF f v fs) (gs ++ [(f, d)])
  | _, _, .nil, _ => .cons ⟨rfl, h, hf⟩ .nil
  | (g, x) :: fs, (g', y) :: gs, .cons p t, n => by
    have e : g = g' := p.1
    have n1 : g ≠ f := by rw [e]; exact n (g', y) (by simp)
    unfold putF
    rw [if_neg n1]
    exact .cons p (FsAt.put h hf t fun q hq => n q (List.mem_cons_of_mem _ hq))
/-- an own list of own lists -/
structure OwnN (K : PySem.W.Frag) (Hc G H : Hp) (l : Addr) (ls : List Addr) (rs : List (List PyData)) : Prop where
  c : ∀ a ∈ l :: ls, Hc a = none ∧ G a = none
  o : H l = some (.lst (ls.map V.ref))
  nd : (l :: ls).Nodup
  r : Paired (fun a r => ∃ vs, H a = some (.lst vs) ∧ DpAll K G vs r) ls rs
def NL (K : PySem.W.Frag) (H0 G H : Hp) (σ : L2.St) (ds : List Sl) : Prop := ∀ (i : Nat) (rs : List (List PyData)), ds[i]? = some (.nl rs) → ∃ l ls, σ[i]? = some (some (.ref l)) ∧ OwnN K H0 G H l ls rs ∧
  (∀ (j : Nat) (xs : List PyData) (l' : Addr), ds[j]? = some (.ow xs) → σ[j]? = some (some (.ref l')) → l' ∉ l :: ls) ∧ ∀ (j : Nat) (rs' : List (List PyData)), ds[j]? = some (.nl rs') → j = i
theorem paired_get {α β : Type} {R : α → β → Prop} {a : α} : ∀ {xs : List α} {ys : List β}, Paired R xs ys → a ∈ xs → ∃ b, R a b
  | _, _, .nil, h => by cases h
  | _, _, .cons h t, m => by
    rcases List.mem_cons.mp m with e | m
    · rw [e]; exact ⟨_, h⟩
    · exact paired_get t m
theorem paired_mapM {α β : Type} {R S : α → β → Prop} : ∀ {xs : List α} {ys : List β}, Paired R xs ys → (∀ a ∈ xs, ∀ b, R a b → S a b) → Paired S xs ys
  | _, _, .nil, _ => .nil
  | _, _, .cons h t, f => .cons (f _ List.mem_cons_self _ h) (paired_mapM t fun a ha b hb => f a (List.mem_cons_of_mem _ ha) b hb)
theorem OwnN.lst {K : PySem.W.Frag} {Hc G H : Hp} {l : Addr} {ls : List Addr} {rs : List (List PyData)} (n : OwnN K Hc G H l ls rs) : ∀ a ∈ l :: ls, ∃ vs, H a = some (.lst vs) := fun a ha => by
  rcases List.mem_cons.mp ha with e | ha
  · rw [e]; exact ⟨_, n.o⟩
  · obtain ⟨r, vs, h, _⟩ := paired_get n.r ha
    exact ⟨vs, h⟩
theorem OwnN.go {K : PySem.W.Frag} {Hc Hc' G H G' H' : Hp} {l : Addr} {ls : List Addr} {rs : List (List PyData)} (n : OwnN K Hc G H l ls rs) (eG : Ex G G') (hK : ∀ a ∈ l :: ls, ∀ vs, H a = some (.lst vs) → Hc' a = none ∧ G' a = none ∧ H' a = some (.lst vs)) : OwnN K Hc' G' H' l ls rs :=
  ⟨fun a ha => by
    obtain ⟨vs, h⟩ := n.lst a ha
    exact ⟨(hK a ha vs h).1, (hK a ha vs h).2.1⟩, (hK l List.mem_cons_self _ n.o).2.2, n.nd, paired_mapM n.r fun a ha r ⟨vs, h1, h2⟩ => ⟨vs, (hK a (List.mem_cons_of_mem _ ha) vs h1).2.2, dpAll_mono eG _ _ h2⟩⟩
theorem NL.of {K : PySem.W.Frag} {H0 G H G' H' : Hp} {σ σ' : L2.St} {ds ds' : List Sl} (n : NL K H0 G H σ ds) (eG : Ex G G')
    (hK : ∀ (a : Addr) (vs : List V), G a = none → H a = some (.lst vs) → (∀ (j : Nat) (xs : List PyData), ds[j]? = some (.ow xs) → σ[j]? ≠ some (some (.ref a))) → G' a = none ∧ H' a = some (.lst vs))
    (hS : ∀ (i : Nat) (rs : List (List PyData)), ds'[i]? = some (.nl rs) → ds[i]? = some (.nl rs) ∧ σ'[i]? = σ[i]?)
    (hO : ∀ (j : Nat) (xs : List PyData) (l' : Addr), ds'[j]? = some (.ow xs) → σ'[j]? = some (some (.ref l')) → (∃ xs', ds[j]? = some (.ow xs') ∧ σ[j]? = some (some (.ref l'))) ∨ H l' = none) : NL K H0 G' H' σ' ds' := fun i rs h => by
  obtain ⟨h1, h2⟩ := hS i rs h
  obtain ⟨l, ls, e1, ow, di, on⟩ := n i rs h1
  refine ⟨l, ls, h2.trans e1, ow.go eG fun a ha vs hv => ⟨(ow.c a ha).1, hK a vs (ow.c a ha).2 hv fun j xs hj hs => di j xs a hj hs ha⟩, fun j xs l' hj hs hm => ?_, fun j rs' hj => on j rs' (hS j rs' hj).1⟩
  rcases hO j xs l' hj hs with ⟨xs', k1, k2⟩ | k
  · exact di j xs' l' k1 k2 hm
  · obtain ⟨vs, hv⟩ := ow.lst l' hm
    rw [k] at hv
    cases hv
theorem set_ne' {ds : List Sl} {i j : Nat} {x s : Sl} (h : (ds.set i x)[j]? = some s) (n : s ≠ x) : i ≠ j ∧ ds[j]? = some s := by
  by_cases q : i = j
  · subst q
    by_cases hi : i < ds.length
    · rw [List.getElem?_set_self hi] at h
      exact absurd (Option.some.inj h).symm n
    · rw [List.set_eq_of_length_le (by omega), List.getElem?_eq_none (by omega)] at h
      cases h
  · rw [List.getElem?_set_ne q] at h
    exact ⟨q, h⟩
/-- a slot is set to what is neither own list nor nested -/
theorem NL.set {K : PySem.W.Frag} {H0 G H G' H' : Hp} {σ : L2.St} {ds : List Sl} {i : Nat} {x : Sl} {y : Option V} (n : NL K H0 G H σ ds) (eG : Ex G G') (n1 : ∀ xs, x ≠ .ow xs) (n2 : ∀ rs, x ≠ .nl rs)
    (hK : ∀ (a : Addr) (vs : List V), G a = none → H a = some (.lst vs) → (∀ (j : Nat) (xs : List PyData), ds[j]? = some (.ow xs) → σ[j]? ≠ some (some (.ref a))) → G' a = none ∧ H' a = some (.lst vs)) : NL K H0 G' H' (σ.set i y) (ds.set i x) :=
  n.of eG hK (fun j rs h => by
    obtain ⟨q, h⟩ := set_ne' h (Ne.symm (n2 rs))
    exact ⟨h, List.getElem?_set_ne q⟩) fun j xs l' h hs => by
    obtain ⟨q, h⟩ := set_ne' h (Ne.symm (n1 xs))
    rw [List.getElem?_set_ne q] at hs
    exact .inl ⟨xs, h, hs⟩
/-- the same, the slots' values as they are -/
theorem NL.set0 {K : PySem.W.Frag} {H0 G H G' H' : Hp} {σ : L2.St} {ds : List Sl} {i : Nat} {x : Sl} (n : NL K H0 G H σ ds) (eG : Ex G G') (n1 : ∀ xs, x ≠ .ow xs) (n2 : ∀ rs, x ≠ .nl rs)
    (hK : ∀ (a : Addr) (vs : List V), G a = none → H a = some (.lst vs) → (∀ (j : Nat) (xs : List PyData), ds[j]? = some (.ow xs) → σ[j]? ≠ some (some (.ref a))) → G' a = none ∧ H' a = some (.lst vs)) : NL K H0 G' H' σ (ds.set i x) :=
  n.of eG hK (fun j rs h => by
    obtain ⟨q, h⟩ := set_ne' h (Ne.symm (n2 rs))
    exact ⟨h, rfl⟩) fun j xs l' h hs => by
    obtain ⟨q, h⟩ := set_ne' h (Ne.symm (n1 xs))
    exact .inl ⟨xs, h, hs⟩
structure En (C : Kx) (G0 H0 G H : Hp) (σ : L2.St) (ds : List Sl) : Prop where
  stp : Stp G0 H0 G H
  s0 : Ex G0 H0
  len : σ.length = ds.length
  va : ∀ (i : Nat) (d : Da), ds[i]? = some (.va d) → ∃ v, σ[i]? = some (some v) ∧ Rp C G v d
  ow : ∀ (i : Nat) (xs : List PyData), ds[i]? = some (.ow xs) → ∃ l vs, σ[i]? = some (some (.ref l)) ∧ H0 l = none ∧ G l = none ∧ H l = some (.lst vs) ∧ DpAll C.K G vs xs
  ob : ∀ (i : Nat) (A l : Addr) (fs : List (Str × PyData)), ds[i]? = some (.ob A l fs) → ∃ dx vs, σ[i]? = some (some (.ref l)) ∧ H0 l = none ∧ G l = none ∧ H l = some (.ins A dx vs) ∧ FsAt C.K H0 G vs fs
  di : ∀ (i j : Nat) (xs ys : List PyData) (l : Addr), ds[i]? = some (.ow xs) → ds[j]? = some (.ow ys) → σ[i]? = some (some (.ref l)) → σ[j]? = some (some (.ref l)) → i = j
  nl : NL C.K H0 G H σ ds
section
variable {C : Kx} {G0 H0 G H G' H' : Hp} {σ : L2.St} {ds : List Sl}
theorem En.ex (e : En C G0 H0 G H σ ds) : Ex G H := e.stp.s
theorem En.step (e : En C G0 H0 G H σ ds) (a : Stp G H G' H') : En C G0 H0 G' H' σ ds where
  stp := e.stp.trans a
  s0 := e.s0
  len := e.len
  va := fun i d h => let ⟨v, h1, h2⟩ := e.va i d h; ⟨v, h1, h2.mono a.g⟩
  ow := fun i xs h => let ⟨l, vs, h1, h2, h3, h4, h5⟩ := e.ow i xs h; ⟨l, vs, h1, h2, a.free e.ex h4 h3, a.h _ _ h4, dpAll_mono a.g _ _ h5⟩
  ob := fun i A l fs h => let ⟨dx, vs, h1, h2, h3, h4, h5⟩ := e.ob i A l fs h; ⟨dx, vs, h1, h2, a.free e.ex h4 h3, a.h _ _ h4, h5.mono a.g⟩
  di := e.di
  nl := e.nl.of a.g (fun x vs hg hh _ => ⟨a.free e.ex hh hg, a.h _ _ hh⟩) (fun i rs h => ⟨h, rfl⟩) fun j xs l' h1 h2 => .inl ⟨xs, h1, h2⟩
/-- a slot set to a shown value -/
theorem En.set {i : Nat} {v : V} {d : Da} (e : En C G0 H0 G H σ ds) (r : Rp C G v d) : En C G0 H0 G H (σ.set i (some v)) (ds.set i (.va d)) where
  stp := e.stp
  s0 := e.s0
  len := by rw [List.length_set, List.length_set]; exact e.len
  va := fun j d' h => by
    by_cases q : i = j
    · subst q
      by_cases hi : i < ds.length
      · rw [List.getElem?_set_self hi] at h
        cases h
        exact ⟨v, List.getElem?_set_self (by rw [e.len]; exact hi), r⟩
      · rw [List.set_eq_of_length_le (by omega)] at h
        rw [List.getElem?_eq_none (by omega)] at h
        cases h
    · rw [List.getElem?_set_ne q] at h ⊢
      exact e.va j d' h
  ow := fun j xs h => by
    by_cases q : i = j
    · subst q
      by_cases hi : i < ds.length
      · rw [List.getElem?_set_self hi] at h
        cases h
      · rw [List.set_eq_of_length_le (by omega)] at h
        rw [List.getElem?_eq_none (by omega)] at h
        cases h
    · rw [List.getElem?_set_ne q] at h ⊢
      exact e.ow j xs h
  ob := fun j A x fs h => by
    by_cases q : i = j
    · subst q
      by_cases hi : i < ds.length
      · rw [List.getElem?_set_self hi] at h
        cases h
      · rw [List.set_eq_of_length_le (by omega)] at h
        rw [List.getElem?_eq_none (by omega)] at h
        cases h
    · rw [List.getElem?_set_ne q] at h ⊢
      exact e.ob j A x fs h
  di := fun j k xs ys l h1 h2 h3 h4 => by
    have f : ∀ {j : Nat} {xs : List PyData}, (ds.set i (.va d))[j]? = some (.ow xs) → i ≠ j := fun {j xs} h q => by
      subst q
      by_cases hi : i < ds.length
      · rw [List.getElem?_set_self hi] at h
        cases h
      · rw [List.set_eq_of_length_le (by omega), List.getElem?_eq_none (by omega)] at h
        cases h
    have n1 := f h1
    have n2 := f h2
    rw [List.getElem?_set_ne n1] at h1 h3
    rw [List.getElem?_set_ne n2] at h2 h4
    exact e.di j k xs ys l h1 h2 h3 h4
  nl := e.nl.set (Ex.refl _) (fun _ z => by cases z) (fun _ z => by cases z) fun a vs h1 h2 _ => ⟨h1, h2⟩
end

/-- a slot set to an own new list -/
theorem En.setO {C : Kx} {G0 H0 G H G' H' : Hp} {σ : L2.St} {ds : List Sl} {i : Nat} {l : Addr} {vs : List V} {xs : List PyData} (e0 : En C G0 H0 G H σ ds) (a : Stp G H G' H') (hH : H l = none) (hg : G' l = none) (hl : H' l = some (.lst vs)) (r : DpAll C.K G' vs xs) :
    En C G0 H0 G' H' (σ.set i (some (.ref l))) (ds.set i (.ow xs)) := by
  have e := e0.step a
  have h0 : H0 l = none := fresh_back e0.stp.h hH
  have hi0 : ∀ {j : Nat} {s : Sl}, (ds.set i (.ow xs))[j]? = some s → (i = j ∧ s = .ow xs ∧ i < ds.length) ∨ (i ≠ j ∧ ds[j]? = some s) := fun {j s} h => by
    by_cases q : i = j
    · subst q
      by_cases hi : i < ds.length
      · rw [List.getElem?_set_self hi] at h
        cases h
        exact .inl ⟨rfl, rfl, hi⟩
      · rw [List.set_eq_of_length_le (by omega), List.getElem?_eq_none (by omega)] at h
        cases h
    · rw [List.getElem?_set_ne q] at h
      exact .inr ⟨q, h⟩
  refine ⟨e.stp, e.s0, by rw [List.length_set, List.length_set]; exact e.len, fun j d h => ?_, fun j ys h => ?_, fun j A x fs h => ?_, fun j k ys zs m h1 h2 h3 h4 => ?_, ?_⟩
  · rcases hi0 h with ⟨_, z, _⟩ | ⟨q, h⟩
    · cases z
    · rw [List.getElem?_set_ne q]
      exact e.va j d h
  · rcases hi0 h with ⟨q, z, hi⟩ | ⟨q, h⟩
    · cases z
      subst q
      exact ⟨l, vs, List.getElem?_set_self (by rw [e.len]; exact hi), h0, hg, hl, r⟩
    · rw [List.getElem?_set_ne q]
      exact e.ow j ys h
  · rcases hi0 h with ⟨_, z, _⟩ | ⟨q, h⟩
    · cases z
    · rw [List.getElem?_set_ne q]
      exact e.ob j A x fs h
  · have old : ∀ {j : Nat} {ys : List PyData}, ds[j]? = some (.ow ys) → σ[j]? = some (some (.ref l)) → False := fun {j ys} h1 h2 => by
      obtain ⟨l', vs', z1, z2, z3, z4, z5⟩ := e0.ow j ys h1
      rw [h2] at z1
      cases z1
      rw [hH] at z4
      cases z4
    rcases hi0 h1 with ⟨q, z, hi⟩ | ⟨q, h1⟩
    · subst q
      rw [List.getElem?_set_self (by rw [e.len]; exact hi)] at h3
      cases h3
      rcases hi0 h2 with ⟨q, _, _⟩ | ⟨q, h2⟩
      · exact q
      · rw [List.getElem?_set_ne q] at h4
        exact (old h2 h4).elim
    · rw [List.getElem?_set_ne q] at h3
      rcases hi0 h2 with ⟨q2, _, hi⟩ | ⟨q2, h2⟩
      · subst q2
        rw [List.getElem?_set_self (by rw [e.len]; exact hi)] at h4
        cases h4
        exact (old h1 h3).elim
      · rw [List.getElem?_set_ne q2] at h4
        exact e.di j k ys zs m h1 h2 h3 h4
  · refine e0.nl.of a.g (fun x vs hg hh _ => ⟨a.free e0.ex hh hg, a.h _ _ hh⟩) (fun j rs h => ?_) fun j ys l' h hs => ?_
    · obtain ⟨q, h⟩ := set_ne' h (fun z => by cases z)
      exact ⟨h, List.getElem?_set_ne q⟩
    · rcases hi0 h with ⟨q, z, hi⟩ | ⟨q, h⟩
      · subst q
        rw [List.getElem?_set_self (by rw [e.len]; exact hi)] at hs
        cases hs
        exact .inr hH
      · rw [List.getElem?_set_ne q] at hs
        exact .inl ⟨ys, h, hs⟩
/-- an own list is changed -/
theorem En.mut {C : Kx} {G0 H0 G H : Hp} {σ : L2.St} {ds : List Sl} {i : Nat} {l : Addr} {ws : List V} {xs ys : List PyData} (e : En C G0 H0 G H σ ds) (hd : ds[i]? = some (.ow xs)) (hs : σ[i]? = some (some (.ref l))) (r : DpAll C.K G ws ys) :
    En C G0 H0 G (upd H l (.lst ws)) σ (ds.set i (.ow ys)) := by
  obtain ⟨l', vs, z1, z2, z3, z4, z5⟩ := e.ow i xs hd
  rw [hs] at z1
  cases z1
  have hi : i < ds.length := by
    rcases Nat.lt_or_ge i ds.length with h | h
    · exact h
    · rw [List.getElem?_eq_none h] at hd
      cases hd
  have hi0 : ∀ {j : Nat} {s : Sl}, (ds.set i (.ow ys))[j]? = some s → (i = j ∧ s = .ow ys) ∨ (i ≠ j ∧ ds[j]? = some s) := fun {j s} h => by
    by_cases q : i = j
    · subst q
      rw [List.getElem?_set_self hi] at h
      cases h
      exact .inl ⟨rfl, rfl⟩
    · rw [List.getElem?_set_ne q] at h
      exact .inr ⟨q, h⟩
  refine ⟨e.stp.mut z2 z3, e.s0, by rw [List.length_set]; exact e.len, fun j d h => ?_, fun j zs h => ?_, fun j A x fs h => ?_, fun j k us zs m h1 h2 h3 h4 => ?_, ?_⟩
  · rcases hi0 h with ⟨_, z⟩ | ⟨q, h⟩
    · cases z
    · exact e.va j d h
  · rcases hi0 h with ⟨q, z⟩ | ⟨q, h⟩
    · cases z
      subst q
      exact ⟨l, ws, hs, z2, z3, upd_same, r⟩
    · obtain ⟨l2, vs2, y1, y2, y3, y4, y5⟩ := e.ow j zs h
      refine ⟨l2, vs2, y1, y2, y3, ?_, y5⟩
      rw [upd_ne]
      · exact y4
      · rintro rfl
        exact q (e.di i j _ _ _ hd h hs y1)
  · rcases hi0 h with ⟨_, z⟩ | ⟨q, h⟩
    · cases z
    · obtain ⟨dx, vs2, y1, y2, y3, y4, y5⟩ := e.ob j A x fs h
      refine ⟨dx, vs2, y1, y2, y3, ?_, y5⟩
      rw [upd_ne]
      · exact y4
      · rintro rfl
        rw [y4] at z4
        cases z4
  · have f : ∀ {j : Nat} {us : List PyData}, (ds.set i (.ow ys))[j]? = some (.ow us) → ∃ us', ds[j]? = some (.ow us') := fun {j us} h => by
      rcases hi0 h with ⟨q, _⟩ | ⟨_, h⟩
      · subst q; exact ⟨_, hd⟩
      · exact ⟨_, h⟩
    obtain ⟨u1, g1⟩ := f h1
    obtain ⟨u2, g2⟩ := f h2
    exact e.di j k _ _ m g1 g2 h3 h4
  · refine e.nl.of (Ex.refl _) (fun a vs hg hh hn => ⟨hg, ?_⟩) (fun j rs h => ?_) fun j zs l' h hs2 => ?_
    · rw [upd_ne (fun z => by rw [z] at hn; exact hn i _ hd hs)]
      exact hh
    · obtain ⟨q, h⟩ := set_ne' h (fun z => by cases z)
      exact ⟨h, rfl⟩
    · rcases hi0 h with ⟨q, _⟩ | ⟨q, h⟩
      · subst q
        exact .inl ⟨_, hd, hs2⟩
      · exact .inl ⟨_, h, hs2⟩
/-- an own list is shown from now on -/
theorem En.shown {C : Kx} {G0 H0 G H : Hp} {σ : L2.St} {ds : List Sl} {i : Nat} {xs : List PyData} (e : En C G0 H0 G H σ ds) (hd : ds[i]? = some (.ow xs)) :
    ∃ G', Stp G0 H0 G' H ∧ Ex G G' ∧ En C G0 H0 G' H σ (ds.set i (.va (.pd (.list xs)))) := by
  obtain ⟨l, vs, z1, z2, z3, z4, z5⟩ := e.ow i xs hd
  have hi : i < ds.length := by
    rcases Nat.lt_or_ge i ds.length with h | h
    · exact h
    · rw [List.getElem?_eq_none h] at hd
      cases hd
  have hi0 : ∀ {j : Nat} {s : Sl}, (ds.set i (.va (.pd (.list xs))))[j]? = some s → (i = j ∧ s = .va (.pd (.list xs))) ∨ (i ≠ j ∧ ds[j]? = some s) := fun {j s} h => by
    by_cases q : i = j
    · subst q
      rw [List.getElem?_set_self hi] at h
      cases h
      exact .inl ⟨rfl, rfl⟩
    · rw [List.getElem?_set_ne q] at h
      exact .inr ⟨q, h⟩
  have st := e.stp.show z2 z3 z4
  have ex : Ex G (upd G l (.lst vs)) := Ex.new z3
  refine ⟨upd G l (.lst vs), st, ex, st, e.s0, by rw [List.length_set]; exact e.len, fun j d h => ?_, fun j zs h => ?_, fun j A x fs h => ?_, fun j k us zs m h1 h2 h3 h4 => ?_, e.nl.set0 ex (fun _ z => by cases z) (fun _ z => by cases z) fun a vs hg hh hn => ⟨?_, hh⟩⟩
  · rcases hi0 h with ⟨q, z⟩ | ⟨q, h⟩
    · cases z
      subst q
      exact ⟨_, z1, .lst (sq_of upd_same) (dpAll_mono ex _ _ z5)⟩
    · obtain ⟨v, h1, h2⟩ := e.va j d h
      exact ⟨v, h1, h2.mono ex⟩
  · rcases hi0 h with ⟨_, z⟩ | ⟨q, h⟩
    · cases z
    · obtain ⟨l2, vs2, y1, y2, y3, y4, y5⟩ := e.ow j zs h
      refine ⟨l2, vs2, y1, y2, ?_, y4, dpAll_mono ex _ _ y5⟩
      rw [upd_ne]
      · exact y3
      · rintro rfl
        exact q (e.di i j _ _ _ hd h z1 y1)
  · rcases hi0 h with ⟨_, z⟩ | ⟨q, h⟩
    · cases z
    · obtain ⟨dx, vs2, y1, y2, y3, y4, y5⟩ := e.ob j A x fs h
      refine ⟨dx, vs2, y1, y2, ?_, y4, y5.mono ex⟩
      rw [upd_ne]
      · exact y3
      · rintro rfl
        rw [y4] at z4
        cases z4
  · have f : ∀ {j : Nat} {us : List PyData}, (ds.set i (.va (.pd (.list xs))))[j]? = some (.ow us) → ds[j]? = some (.ow us) := fun {j us} h => by
      rcases hi0 h with ⟨_, z⟩ | ⟨_, h⟩
      · cases z
      · exact h
    exact e.di j k _ _ m (f h1) (f h2) h3 h4
  · rw [upd_ne (fun z => by rw [z] at hn; exact hn i _ hd z1)]
    exact hg

/-! ### what is evaluated -/
abbrev RpAll (C : Kx) (G : Hp) : List V → List Da → Prop := Paired (Rp C G)
theorem RpAll.mono {C : Kx} {G G' : Hp} (e : Ex G G') : ∀ {vs : List V} {ds : List Da}, RpAll C G vs ds → RpAll C G' vs ds
  | _, _, .nil => .nil
  | _, _, .cons h t => .cons (h.mono e) (RpAll.mono e t)
def XD (C : Kx) (te : TE) (ds : List Sl) (d : Da) : Prop := ∀ (G0 H0 G H : Hp) (σ : L2.St), En C G0 H0 G H σ ds → ∀ Q : VK, (∀ v G' H', Stp G H G' H' → Rp C G' v d → Q v H') → te σ H Q
/-- a new list of one's own -/
def XL (C : Kx) (te : TE) (ds : List Sl) (xs : List PyData) : Prop := ∀ (G0 H0 G H : Hp) (σ : L2.St), En C G0 H0 G H σ ds → ∀ Q : VK, (∀ l vs G' H', Stp G H G' H' → H l = none → G' l = none → H' l = some (.lst vs) → DpAll C.K G' vs xs → Q (.ref l) H') → te σ H Q
def TD (C : Kx) (t : TT) (ds : List Sl) (b : Bool) : Prop := ∀ (G0 H0 G H : Hp) (σ : L2.St), En C G0 H0 G H σ ds → ∀ Q : Bool → Hp → Prop, (∀ G' H', Stp G H G' H' → Q b H') → t σ H Q
def AD (C : Kx) (ta : TA) (ds : List Sl) (das : List Da) : Prop := ∀ (G0 H0 G H : Hp) (σ : L2.St), En C G0 H0 G H σ ds → ∀ Q : List V → Hp → Prop, (∀ vs G' H', Stp G H G' H' → RpAll C G' vs das → Q vs H') → ta σ H Q
def AP (C : Kx) (ta : TA) (ds : List Sl) (xs : List PyData) : Prop := ∀ (G0 H0 G H : Hp) (σ : L2.St), En C G0 H0 G H σ ds → ∀ Q : List V → Hp → Prop, (∀ vs G' H', Stp G H G' H' → DpAll C.K G' vs xs → Q vs H') → ta σ H Q
def RD (C : Kx) (r : R2) (a b d : Da) : Prop := ∀ (G H : Hp) (x y : V), Ex G H → Rp C G x a → Rp C G y b → ∀ Q : VK, (∀ v G' H', Stp G H G' H' → Rp C G' v d → Q v H') → r x y H Q
def UD (C : Kx) (r : V → Hp → VK → Prop) (a d : Da) : Prop := ∀ (G H : Hp) (x : V), Ex G H → Rp C G x a → ∀ Q : VK, (∀ v G' H', Stp G H G' H' → Rp C G' v d → Q v H') → r x H Q
def CD (C : Kx) (r : List V → Hp → VK → Prop) (das : List Da) (d : Da) : Prop := ∀ (G H : Hp) (vs : List V), Ex G H → RpAll C G vs das → ∀ Q : VK, (∀ v G' H', Stp G H G' H' → Rp C G' v d → Q v H') → r vs H Q
def CL (C : Kx) (r : List V → Hp → VK → Prop) (das : List Da) (xs : List PyData) : Prop := ∀ (G H : Hp) (vs : List V), Ex G H → RpAll C G vs das → ∀ Q : VK, (∀ l ws G' H', Stp G H G' H' → H l = none → G' l = none → H' l = some (.lst ws) → DpAll C.K G' ws xs → Q (.ref l) H') → r vs H Q
abbrev dI (n : Int) : Da := .pd (.int n)
abbrev dB (b : Bool) : Da := .pd (.bool b)
section
variable {C : Kx} {ds : List Sl} {ta tb tc te : TE} {t u : TT} {a b c d : Da} {r r' : R2}
theorem xd_var {i : Nat} (h : ds[i]? = some (.va d)) : XD C (tVar i) ds d := fun G0 H0 G H σ e Q q => by
  obtain ⟨v, h1, h2⟩ := e.va i d h
  exact ⟨v, h1, q v G H (.refl e.ex) h2⟩
theorem xd_int {i : Int} : XD C (tC (.int i)) ds (dI i) := fun G0 H0 G H σ e Q q => q _ G H (.refl e.ex) (Dp.int i)
theorem xd_bl {k : Bool} : XD C (tC (.bl k)) ds (dB k) := fun G0 H0 G H σ e Q q => q _ G H (.refl e.ex) (Dp.bl k)
theorem xd_non : XD C (tC .non) ds (.pd .none) := fun G0 H0 G H σ e Q q => q _ G H (.refl e.ex) Dp.non
theorem xd_op (ha : XD C ta ds a) (hb : XD C tb ds b) (hr : RD C r a b d) : XD C (tOp r ta tb) ds d := fun G0 H0 G H σ e Q q =>
  ha G0 H0 G H σ e _ fun x G1 H1 s1 r1 => hb G0 H0 G1 H1 σ (e.step s1) _ fun y G2 H2 s2 r2 => hr G2 H2 x y s2.s (r1.mono s2.g) r2 Q fun v G3 H3 s3 r3 => q v G3 H3 ((s1.trans s2).trans s3) r3
theorem xd_un {r : V → Hp → VK → Prop} (ha : XD C ta ds a) (hr : UD C r a d) : XD C (tUn r ta) ds d := fun G0 H0 G H σ e Q q =>
  ha G0 H0 G H σ e _ fun x G1 H1 s1 r1 => hr G1 H1 x s1.s r1 Q fun v G3 H3 s3 r3 => q v G3 H3 (s1.trans s3) r3
theorem xd_chain {k k' : Bool} (ha : XD C ta ds a) (hb : XD C tb ds b) (hr : RD C r a b (dB k)) (hc : k = true → XD C tc ds c) (hr' : k = true → RD C r' b c (dB k')) : XD C (tChain r r' ta tb tc) ds (dB (k && k')) := fun G0 H0 G H σ e Q q =>
  ha G0 H0 G H σ e _ fun x G1 H1 s1 r1 => hb G0 H0 G1 H1 σ (e.step s1) _ fun y G2 H2 s2 r2 => hr G2 H2 x y s2.s (r1.mono s2.g) r2 _ fun v G3 H3 s3 r3 => by
    have ev := dp_bl r3
    subst ev
    refine ⟨k, rfl, ?_⟩
    cases k with
    | true =>
      rw [if_pos rfl]
      exact hc rfl G0 H0 G3 H3 σ (((e.step s1).step s2).step s3) _ fun z G4 H4 s4 r4 => hr' rfl G4 H4 y z s4.s (r2.mono (s3.g.trans s4.g)) r4 Q fun v G5 H5 s5 r5 => q v G5 H5 ((((s1.trans s2).trans s3).trans s4).trans s5) r5
    | false =>
      rw [if_neg Bool.false_ne_true]
      exact q _ G3 H3 ((s1.trans s2).trans s3) (Dp.bl false)
theorem xd_andV {k k' : Bool} (ha : XD C ta ds (dB k)) (hb : k = true → XD C tb ds (dB k')) : XD C (tAndV ta tb) ds (dB (k && k')) := fun G0 H0 G H σ e Q q =>
  ha G0 H0 G H σ e _ fun x G1 H1 s1 r1 => by
    have ev := dp_bl r1
    subst ev
    refine ⟨k, rfl, ?_⟩
    cases k with
    | true =>
      rw [if_pos rfl]
      exact hb rfl G0 H0 G1 H1 σ (e.step s1) _ fun z G4 H4 s4 r4 => q z G4 H4 (s1.trans s4) r4
    | false =>
      rw [if_neg Bool.false_ne_true]
      exact q _ G1 H1 s1 (Dp.bl false)
theorem xd_orV {k k' : Bool} (ha : XD C ta ds (dB k)) (hb : k = false → XD C tb ds (dB k')) : XD C (tOrV ta tb) ds (dB (k || k')) := fun G0 H0 G H σ e Q q =>
  ha G0 H0 G H σ e _ fun x G1 H1 s1 r1 => by
    have ev := dp_bl r1
    subst ev
    refine ⟨k, rfl, ?_⟩
    cases k with
    | false =>
      rw [if_neg Bool.false_ne_true]
      exact hb rfl G0 H0 G1 H1 σ (e.step s1) _ fun z G4 H4 s4 r4 => q z G4 H4 (s1.trans s4) r4
    | true =>
      rw [if_pos rfl]
      exact q _ G1 H1 s1 (Dp.bl true)
theorem xd_notV {k : Bool} (ha : XD C ta ds (dB k)) : XD C (tNotV ta) ds (dB (!k)) := fun G0 H0 G H σ e Q q =>
  ha G0 H0 G H σ e _ fun x G1 H1 s1 r1 => ⟨k, dp_bl r1, q _ G1 H1 s1 (Dp.bl _)⟩
/-! tests -/
theorem td_test {k : Bool} (ha : XD C ta ds (dB k)) : TD C (tTest ta) ds k := fun G0 H0 G H σ e Q q => ha G0 H0 G H σ e _ fun x G1 H1 s1 r1 => ⟨k, dp_bl r1, q G1 H1 s1⟩
theorem td_B {k : Bool} (ha : XD C ta ds (dB k)) : TD C (tB ta) ds k := fun G0 H0 G H σ e Q q => ha G0 H0 G H σ e _ fun x G1 H1 s1 r1 => ⟨k, dp_bl r1, q G1 H1 s1⟩
theorem td_not {k : Bool} (h : TD C t ds k) : TD C (tNot t) ds (!k) := fun G0 H0 G H σ e Q q => h G0 H0 G H σ e _ fun G1 H1 s1 => q G1 H1 s1
theorem td_and {k k' : Bool} (h : TD C t ds k) (h' : k = true → TD C u ds k') : TD C (tAnd t u) ds (k && k') := fun G0 H0 G H σ e Q q => h G0 H0 G H σ e _ fun G1 H1 s1 => by
  cases k with
  | true =>
    rw [if_pos rfl]
    exact h' rfl G0 H0 G1 H1 σ (e.step s1) _ fun G2 H2 s2 => q G2 H2 (s1.trans s2)
  | false =>
    rw [if_neg Bool.false_ne_true]
    exact q G1 H1 s1
theorem td_or {k k' : Bool} (h : TD C t ds k) (h' : k = false → TD C u ds k') : TD C (tOr t u) ds (k || k') := fun G0 H0 G H σ e Q q => h G0 H0 G H σ e _ fun G1 H1 s1 => by
  cases k with
  | false =>
    rw [if_neg Bool.false_ne_true]
    exact h' rfl G0 H0 G1 H1 σ (e.step s1) _ fun G2 H2 s2 => q G2 H2 (s1.trans s2)
  | true =>
    rw [if_pos rfl]
    exact q G1 H1 s1
/-! operators -/
theorem rd_i0 {g : Int → Int → V} {i j : Int} {x : PyData} (h : ∀ G : Hp, Dp C.K G (g i j) x) : RD C (rI0 g) (dI i) (dI j) (.pd x) := fun G H x y s hx hy Q q => ⟨i, j, dp_int hx, dp_int hy, q _ G H (.refl s) (h G)⟩
theorem rd_iC {Cc : Int → Int → Prop} {g : Int → Int → V} {i j : Int} {x : PyData} (hc : Cc i j) (h : ∀ G : Hp, Dp C.K G (g i j) x) : RD C (rI Cc g) (dI i) (dI j) (.pd x) := fun G H x y s hx hy Q q => ⟨i, j, dp_int hx, dp_int hy, hc, q _ G H (.refl s) (h G)⟩
theorem rd_add {i j : Int} : RD C (rI0 fun i j => .int (i + j)) (dI i) (dI j) (dI (i + j)) := rd_i0 fun _ => .int _
theorem rd_sub {i j : Int} : RD C (rI0 fun i j => .int (i - j)) (dI i) (dI j) (dI (i - j)) := rd_i0 fun _ => .int _
theorem rd_lt {i j : Int} : RD C (rI0 fun i j => .bl (decide (i < j))) (dI i) (dI j) (dB (decide (i < j))) := rd_i0 fun _ => .bl _
theorem rd_le {i j : Int} : RD C (rI0 fun i j => .bl (decide (i ≤ j))) (dI i) (dI j) (dB (decide (i ≤ j))) := rd_i0 fun _ => .bl _
theorem rd_gt {i j : Int} : RD C (rI0 fun i j => .bl (decide (j < i))) (dI i) (dI j) (dB (decide (j < i))) := rd_i0 fun _ => .bl _
theorem rd_ge {i j : Int} : RD C (rI0 fun i j => .bl (decide (j ≤ i))) (dI i) (dI j) (dB (decide (j ≤ i))) := rd_i0 fun _ => .bl _
theorem rd_mod {i j : Int} (h : j ≠ 0) : RD C (rI (fun _ j => j ≠ 0) fun i j => .int (i.fmod j)) (dI i) (dI j) (dI (i.fmod j)) := rd_iC h fun _ => .int _
theorem rd_div {i j : Int} (h : CDivW i j) : RD C (rI CDivW fun i j => .int (i / j)) (dI i) (dI j) (dI (i / j)) := rd_iC h fun _ => .int _
def CMulA (i j : Int) : Prop := CMul i j ∨ CMulW i j
theorem rd_mul {i j : Int} (h : CMulA i j) : RD C (rI CMulA fun i j => .int (i * j)) (dI i) (dI j) (dI (i * j)) := rd_iC h fun _ => .int _
theorem op_mulA {X : Cx} : OpR X (PySem.binaryOp .Mult) (rI CMulA fun i j => .int (i * j)) := opI fun _ _ _ _ _ _ _ hc q => PyProof.Rows.mul_int q (hc.elim (fun h => h.ok) fun h => h.ok)
theorem ud_neg {i : Int} : UD C (rU fun i => .int (-i)) (dI i) (dI (-i)) := fun G H x s hx Q q => ⟨i, dp_int hx, q _ G H (.refl s) (Dp.int _)⟩
theorem rd_eqD {x y : PyData} (hx : SeqAt.shaped x = true) (hy : SeqAt.shaped y = true) : RD C (rEqD C.K) (.pd x) (.pd y) (dB (PyData.eqv x y)) := fun G H v w s h1 h2 Q q => ⟨x, y, dp_mono s _ _ h1, dp_mono s _ _ h2, hx, hy, q _ G H (.refl s) (Dp.bl _)⟩
theorem rd_neD {x y : PyData} (hx : SeqAt.shaped x = true) (hy : SeqAt.shaped y = true) : RD C (rNeD C.K) (.pd x) (.pd y) (dB (!PyData.eqv x y)) := fun G H v w s h1 h2 Q q => ⟨x, y, dp_mono s _ _ h1, dp_mono s _ _ h2, hx, hy, q _ G H (.refl s) (Dp.bl _)⟩
theorem rd_is {d' : Da} (h : RD C r a b d) (e : d = d') : RD C r a b d' := e ▸ h
theorem xd_is {d' : Da} (h : XD C te ds d) (e : d = d') : XD C te ds d' := e ▸ h
theorem td_is {k k' : Bool} (h : TD C t ds k) (e : k = k') : TD C t ds k' := e ▸ h
theorem rd_eqI {i j : Int} : RD C (rEqD C.K) (dI i) (dI j) (dB (decide (i = j))) := rd_is (rd_eqD rfl rfl) (by
  have e : PyData.eqv (.int i) (.int j) = (i == j) := by simp only [PyData.eqv]
  rw [e]; rfl)
theorem rd_neI {i j : Int} : RD C (rNeD C.K) (dI i) (dI j) (dB (!decide (i = j))) := rd_is (rd_neD rfl rfl) (by
  have e : PyData.eqv (.int i) (.int j) = (i == j) := by simp only [PyData.eqv]
  rw [e]; rfl)
theorem eqv_pD (p q : Int × Int) : PyData.eqv (pD p) (pD q) = decide (p = q) := by
  have e : PyData.eqv (pD p) (pD q) = ((p.1 == q.1) && ((p.2 == q.2) && true)) := by simp only [pD, PyData.eqv, PyData.eqvAll]
  rw [e, Bool.and_true]
  obtain ⟨p1, p2⟩ := p
  obtain ⟨q1, q2⟩ := q
  show (decide (p1 = q1) && decide (p2 = q2)) = _
  rw [← Bool.decide_and]
  exact decide_eq_decide.mpr (by simp)
theorem rd_eqP {p q : Int × Int} : RD C (rEqD C.K) (.pd (pD p)) (.pd (pD q)) (dB (decide (p = q))) := rd_is (rd_eqD rfl rfl) (by rw [eqv_pD])
theorem rd_neP {p q : Int × Int} : RD C (rNeD C.K) (.pd (pD p)) (.pd (pD q)) (dB (!decide (p = q))) := rd_is (rd_neD rfl rfl) (by rw [eqv_pD])
/-! subscripts -/
theorem at_len {α β : Type} {xs : List α} {ys : List β} {i : Int} {y : β} (hl : xs.length = ys.length) (h : atI ys i = some y) : ∃ j : Nat, ixN xs.length i = some j ∧ ys[j]? = some y := by
  unfold atI at h
  rw [← hl] at h
  cases q : ixN xs.length i with
  | none => rw [q] at h; cases h
  | some j => rw [q] at h; exact ⟨j, rfl, h⟩
theorem dpa_at {K : PySem.W.Frag} {G : Hp} {vs : List V} {es : List PyData} {i : Int} {x : PyData} (h : DpAll K G vs es) (e : atI es i = some x) : ∃ v, atI vs i = some v ∧ Dp K G v x := by
  obtain ⟨j, h1, h2⟩ := at_len (dpa_len h) e
  obtain ⟨v, h3, h4⟩ := dpa_get h h2
  refine ⟨v, ?_, h4⟩
  unfold atI
  rw [h1]
  exact h3
theorem rd_ixT {es : List PyData} {i : Int} {x : PyData} (h : atI es i = some x) : RD C (rIx C.K) (.pd (.tuple es)) (dI i) (.pd x) := fun G H v w s h1 h2 Q q => by
  obtain ⟨p, vs, e1, e2, e3⟩ := dp_tup h1
  obtain ⟨z, e4, e5⟩ := dpa_at e3 h
  exact .inr (.inl ⟨p, vs, i, z, e1, dp_int h2, ex_t s e2, e4, q z G H (.refl s) e5⟩)
theorem rd_ixL {es : List PyData} {i : Int} {x : PyData} (h : atI es i = some x) : RD C (rIx C.K) (.pd (.list es)) (dI i) (.pd x) := fun G H v w s h1 h2 Q q => by
  obtain ⟨p, vs, e1, e2, e3⟩ := dp_lst h1
  obtain ⟨z, e4, e5⟩ := dpa_at e3 h
  exact .inl ⟨p, vs, i, z, e1, dp_int h2, ex_l s e2, e4, q z G H (.refl s) e5⟩
theorem rd_ix0 {p : Int × Int} : RD C (rIx C.K) (.pd (pD p)) (dI 0) (dI p.1) := rd_ixT rfl
theorem rd_ix1 {p : Int × Int} : RD C (rIx C.K) (.pd (pD p)) (dI 1) (dI p.2) := rd_ixT rfl
theorem rd_r0 {p : Int × Int × Int} : RD C (rIx C.K) (.pd (rD p)) (dI 0) (dI p.1) := rd_ixT rfl
theorem rd_r1 {p : Int × Int × Int} : RD C (rIx C.K) (.pd (rD p)) (dI 1) (dI p.2.1) := rd_ixT rfl
theorem rd_r2 {p : Int × Int × Int} : RD C (rIx C.K) (.pd (rD p)) (dI 2) (dI p.2.2) := rd_ixT rfl
theorem at_nat {α : Type} {xs : List α} {i : Int} {j : Nat} {x : α} (e : i = (j : Int)) (h : xs[j]? = some x) : atI xs i = some x := by
  rw [e]
  exact atI_nat h
/-! arguments, displays -/
theorem ad_nil : AD C tNil ds [] := fun G0 H0 G H σ e Q q => q [] G H (.refl e.ex) .nil
theorem ad_cons {tr : TA} {das : List Da} (h : XD C te ds d) (hr : AD C tr ds das) : AD C (tCons te tr) ds (d :: das) := fun G0 H0 G H σ e Q q =>
  h G0 H0 G H σ e _ fun x G1 H1 s1 r1 => hr G0 H0 G1 H1 σ (e.step s1) _ fun xs G2 H2 s2 r2 => q _ G2 H2 (s1.trans s2) (.cons (r1.mono s2.g) r2)
theorem ap_nil : AP C tNil ds [] := fun G0 H0 G H σ e Q q => q [] G H (.refl e.ex) .nil
theorem ap_cons {tr : TA} {x : PyData} {xs : List PyData} (h : XD C te ds (.pd x)) (hr : AP C tr ds xs) : AP C (tCons te tr) ds (x :: xs) := fun G0 H0 G H σ e Q q =>
  h G0 H0 G H σ e _ fun v G1 H1 s1 r1 => hr G0 H0 G1 H1 σ (e.step s1) _ fun vs G2 H2 s2 r2 => q _ G2 H2 (s1.trans s2) (.cons (dp_mono s2.g _ _ r1) r2)
theorem xd_tup {tr : TA} {xs : List PyData} (h : AP C tr ds xs) (hz : xs.length ≤ 100000 := by decide) : XD C (tTup tr) ds (.pd (.tuple xs)) := fun G0 H0 G H σ e Q q =>
  h G0 H0 G H σ e _ fun vs G1 H1 s1 r1 => ⟨by rw [dpa_len r1]; exact sz_of hz, fun p hp => q _ _ _ (s1.trans (.new s1.s hp)) (Dp.tup (st_of upd_same) (dpAll_mono (Ex.new (fresh_back s1.s hp)) _ _ r1))⟩
theorem xl_lst {tr : TA} {xs : List PyData} (h : AP C tr ds xs) (hz : xs.length ≤ 100000 := by decide) : XL C (tLst tr) ds xs := fun G0 H0 G H σ e Q q =>
  h G0 H0 G H σ e _ fun vs G1 H1 s1 r1 => ⟨by rw [dpa_len r1]; exact sz_of hz, fun p hp => q p vs G1 _ ⟨s1.g, s1.h.trans (Ex.new hp), s1.s.trans (Ex.new hp), s1.n⟩ (fresh_back s1.h hp) (fresh_back s1.s hp) upd_same r1⟩
/-- an own new list as a shown value -/
theorem xl_xd {xs : List PyData} (h : XL C te ds xs) : XD C te ds (.pd (.list xs)) := fun G0 H0 G H σ e Q q =>
  h G0 H0 G H σ e _ fun l vs G1 H1 s1 h1 h2 h3 r => q _ (upd G1 l (.lst vs)) H1 (s1.show h1 h2 h3) (Dp.lst (sq_of upd_same) (dpAll_mono (Ex.new h2) _ _ r))
/-- list + list, both new -/
theorem xl_cat {xs ys : List PyData} (ha : XL C ta ds xs) (hb : XL C tb ds ys) (hz : xs.length + ys.length ≤ 100000) : XL C (tOp rCat ta tb) ds (xs ++ ys) := fun G0 H0 G H σ e Q q =>
  ha G0 H0 G H σ e _ fun l vs G1 H1 s1 h1 h2 h3 r1 => hb G0 H0 G1 H1 σ (e.step s1) _ fun m ws G2 H2 s2 k1 k2 k3 r2 =>
    ⟨l, m, vs, ws, rfl, rfl, s2.h _ _ h3, k3, by rw [dpa_len r1, dpa_len r2]; exact sz_of hz, fun p hp => q p _ G2 _ ⟨(s1.trans s2).g, (s1.trans s2).h.trans (Ex.new hp), s2.s.trans (Ex.new hp), (s1.trans s2).n⟩ (fresh_back (s1.trans s2).h hp) (fresh_back s2.s hp) upd_same (dpa_app (dpAll_mono s2.g _ _ r1) r2)⟩
/-- own list + new list -/
theorem xl_catV {i : Nat} {xs ys : List PyData} (ha : ds[i]? = some (.ow xs)) (hb : XL C tb ds ys) (hz : xs.length + ys.length ≤ 100000) : XL C (tOp rCat (tVar i) tb) ds (xs ++ ys) := fun G0 H0 G H σ e Q q => by
  obtain ⟨l, vs, z1, z2, z3, z4, z5⟩ := e.ow i xs ha
  refine ⟨_, z1, hb G0 H0 G H σ e _ fun m ws G2 H2 s2 k1 k2 k3 r2 => ?_⟩
  exact ⟨l, m, vs, ws, rfl, rfl, s2.h _ _ z4, k3, by rw [dpa_len z5, dpa_len r2]; exact sz_of hz, fun p hp => q p _ G2 _ ⟨s2.g, s2.h.trans (Ex.new hp), s2.s.trans (Ex.new hp), s2.n⟩ (fresh_back s2.h hp) (fresh_back s2.s hp) upd_same (dpa_app (dpAll_mono s2.g _ _ z5) r2)⟩
/-! calls -/
theorem xd_cb {tr : TA} {das : List Da} {r : List V → Hp → VK → Prop} (h : AD C tr ds das) (hr : CD C r das d) : XD C (tCB r tr) ds d := fun G0 H0 G H σ e Q q =>
  h G0 H0 G H σ e _ fun vs G1 H1 s1 r1 => hr G1 H1 vs s1.s r1 Q fun v G2 H2 s2 r2 => q v G2 H2 (s1.trans s2) r2
theorem xl_cb {tr : TA} {das : List Da} {r : List V → Hp → VK → Prop} {xs : List PyData} (h : AD C tr ds das) (hr : CL C r das xs) : XL C (tCB r tr) ds xs := fun G0 H0 G H σ e Q q =>
  h G0 H0 G H σ e _ fun vs G1 H1 s1 r1 => hr G1 H1 vs s1.s r1 Q fun l ws G2 H2 s2 h1 h2 h3 r2 => q l ws G2 H2 (s1.trans s2) (fresh_back s1.h h1) h2 h3 r2
theorem rpa1 {G : Hp} {vs : List V} {a : Da} (h : RpAll C G vs [a]) : ∃ x, vs = [x] ∧ Rp C G x a := by
  cases h with
  | cons h t => cases t; exact ⟨_, rfl, h⟩
theorem rpa2 {G : Hp} {vs : List V} {a b : Da} (h : RpAll C G vs [a, b]) : ∃ x y, vs = [x, y] ∧ Rp C G x a ∧ Rp C G y b := by
  cases h with
  | cons h t =>
    obtain ⟨y, e, r⟩ := rpa1 t
    subst e
    exact ⟨_, y, rfl, h, r⟩
def rTupS (K : PySem.W.Frag) : List V → Hp → VK → Prop := fun vs H Q => ∃ p ys, vs = [.ref p] ∧ ((SqL K H p ys ∧ ∀ l, H l = none → Q (.ref l) (upd H l (.tup ys))) ∨ (SqT K H p ys ∧ Q (.ref p) H))
theorem cd_lenL {xs : List PyData} : CD C (rLenS C.K) [.pd (.list xs)] (dI xs.length) := fun G H vs s hv Q q => by
  obtain ⟨x, e, h⟩ := rpa1 hv
  subst e
  obtain ⟨p, ys, e1, e2, e3⟩ := dp_lst h
  subst e1
  refine ⟨p, ys, rfl, .inl (ex_l s e2), ?_⟩
  rw [dpa_len e3]
  exact q _ G H (.refl s) (Dp.int _)
theorem cd_lenT {xs : List PyData} : CD C (rLenS C.K) [.pd (.tuple xs)] (dI xs.length) := fun G H vs s hv Q q => by
  obtain ⟨x, e, h⟩ := rpa1 hv
  subst e
  obtain ⟨p, ys, e1, e2, e3⟩ := dp_tup h
  subst e1
  refine ⟨p, ys, rfl, .inr (ex_t s e2), ?_⟩
  rw [dpa_len e3]
  exact q _ G H (.refl s) (Dp.int _)
theorem cd_min2 {i j : Int} : CD C (fun xs H Q => ∃ i j, xs = [.int i, .int j] ∧ Q (.int (if j < i then j else i)) H) [dI i, dI j] (dI (if j < i then j else i)) := fun G H vs s hv Q q => by
  obtain ⟨x, y, e, h1, h2⟩ := rpa2 hv
  subst e
  exact ⟨i, j, by rw [dp_int h1, dp_int h2], q _ G H (.refl s) (Dp.int _)⟩
theorem cd_abs {i : Int} : CD C (fun xs H Q => ∃ i, xs = [.int i] ∧ Q (.int (if i < 0 then -i else i)) H) [dI i] (dI i.natAbs) := fun G H vs s hv Q q => by
  obtain ⟨x, e, h⟩ := rpa1 hv
  subst e
  refine ⟨i, by rw [dp_int h], ?_⟩
  have e : (if i < 0 then -i else i) = (i.natAbs : Int) := by split <;> omega
  rw [e]
  exact q _ G H (.refl s) (Dp.int _)
theorem cl_listL {xs : List PyData} : CL C (rListS C.K) [.pd (.list xs)] xs := fun G H vs s hv Q q => by
  obtain ⟨x, e, h⟩ := rpa1 hv
  subst e
  obtain ⟨p, ys, e1, e2, e3⟩ := dp_lst h
  subst e1
  exact ⟨p, ys, rfl, .inl (ex_l s e2), fun l hl => q l ys G _ ⟨Ex.refl _, Ex.new hl, s.trans (Ex.new hl), fun a h1 h2 => absurd h1 h2⟩ hl (fresh_back s hl) upd_same e3⟩
theorem cl_listT {xs : List PyData} : CL C (rListS C.K) [.pd (.tuple xs)] xs := fun G H vs s hv Q q => by
  obtain ⟨x, e, h⟩ := rpa1 hv
  subst e
  obtain ⟨p, ys, e1, e2, e3⟩ := dp_tup h
  subst e1
  exact ⟨p, ys, rfl, .inr (ex_t s e2), fun l hl => q l ys G _ ⟨Ex.refl _, Ex.new hl, s.trans (Ex.new hl), fun a h1 h2 => absurd h1 h2⟩ hl (fresh_back s hl) upd_same e3⟩
theorem cd_tupL {xs : List PyData} : CD C (rTupS C.K) [.pd (.list xs)] (.pd (.tuple xs)) := fun G H vs s hv Q q => by
  obtain ⟨x, e, h⟩ := rpa1 hv
  subst e
  obtain ⟨p, ys, e1, e2, e3⟩ := dp_lst h
  subst e1
  exact ⟨p, ys, rfl, .inl ⟨ex_l s e2, fun l hl => q _ _ _ (.new s hl) (Dp.tup (st_of upd_same) (dpAll_mono (Ex.new (fresh_back s hl)) _ _ e3))⟩⟩
theorem cd_tupT {xs : List PyData} : CD C (rTupS C.K) [.pd (.tuple xs)] (.pd (.tuple xs)) := fun G H vs s hv Q q => by
  obtain ⟨x, e, h⟩ := rpa1 hv
  subst e
  obtain ⟨p, ys, e1, e2, e3⟩ := dp_tup h
  subst e1
  exact ⟨p, ys, rfl, .inr ⟨ex_t s e2, q _ G H (.refl s) (Dp.tup e2 e3)⟩⟩
/-! isinstance -/
theorem tyx_of {K : PySem.W.Frag} {G H : Hp} (s : Ex G H) {v : V} {ds : List PyData} (h : Dp K G v (.tuple ds)) : TyX K H v (.type "tuple") := by
  obtain ⟨p, vs, e1, e2, e3⟩ := dp_tup h
  subst e1
  rcases ex_t s e2 with (h | ⟨o, h⟩) | ⟨o, its, n, h1, h2, _⟩
  · exact .base (.tup h)
  · exact .fTuple h
  · exact .kTuple h1 h2
theorem tyx_l {K : PySem.W.Frag} {G H : Hp} (s : Ex G H) {v : V} {ds : List PyData} (h : Dp K G v (.list ds)) : TyX K H v (.type "list") := by
  obtain ⟨p, vs, e1, e2, e3⟩ := dp_lst h
  subst e1
  rcases ex_l s e2 with (h | ⟨o, h⟩) | ⟨o, its, n, h1, h2, _⟩
  · exact .base (.lst h)
  · exact .base (.frz h)
  · exact .kList h1 h2
/-- isinstance(x, a built-in class): two arguments, the second a class -/
def tyN : PyData → String
  | .none => "NoneType" | .bool _ => "bool" | .int _ => "int" | .str _ => "str" | .list _ => "list" | .tuple _ => "tuple" | .dict _ => "dict"
theorem tyx_i {K : PySem.W.Frag} {H : Hp} {i : Int} : TyX K H (.int i) (.type "int") := .base (.int i)
theorem xd_isiI {i : Int} {n : String} {k : Bool} (h : XD C te ds (dI i)) (hk : kitB "int" n = some k) : XD C (tCB (rIsi C.K) (tCons te (tCons (tC (.ty n)) tNil))) ds (dB k) := fun G0 H0 G H σ e Q q =>
  h G0 H0 G H σ e _ fun v G1 H1 s1 r1 => ⟨v, .ty n, _, _, k, rfl, .ty n, by rw [dp_int r1]; exact tyx_i, kit_ty hk, q _ G1 H1 s1 (Dp.bl k)⟩
theorem xd_isiT {xs : List PyData} {n : String} {k : Bool} (h : XD C te ds (.pd (.tuple xs))) (hk : kitB "tuple" n = some k) : XD C (tCB (rIsi C.K) (tCons te (tCons (tC (.ty n)) tNil))) ds (dB k) := fun G0 H0 G H σ e Q q =>
  h G0 H0 G H σ e _ fun v G1 H1 s1 r1 => ⟨v, .ty n, _, _, k, rfl, .ty n, tyx_of s1.s r1, kit_ty hk, q _ G1 H1 s1 (Dp.bl k)⟩
theorem xd_isiL {xs : List PyData} {n : String} {k : Bool} (h : XD C te ds (.pd (.list xs))) (hk : kitB "list" n = some k) : XD C (tCB (rIsi C.K) (tCons te (tCons (tC (.ty n)) tNil))) ds (dB k) := fun G0 H0 G H σ e Q q =>
  h G0 H0 G H σ e _ fun v G1 H1 s1 r1 => ⟨v, .ty n, _, _, k, rfl, .ty n, tyx_l s1.s r1, kit_ty hk, q _ G1 H1 s1 (Dp.bl k)⟩
theorem kit_ii : kitB "int" "int" = some true := by decide +kernel
theorem kit_ib : kitB "int" "bool" = some false := by decide +kernel
theorem kit_tt : kitB "tuple" "tuple" = some true := by decide +kernel
theorem kit_ll : kitB "list" "list" = some true := by decide +kernel
theorem xd_isII {i : Int} (h : XD C te ds (dI i)) : XD C (tCB (rIsi C.K) (tCons te (tCons (tC (.ty "int")) tNil))) ds (dB true) := xd_isiI h kit_ii
theorem xd_isIB {i : Int} (h : XD C te ds (dI i)) : XD C (tCB (rIsi C.K) (tCons te (tCons (tC (.ty "bool")) tNil))) ds (dB false) := xd_isiI h kit_ib
theorem xd_isTT {xs : List PyData} (h : XD C te ds (.pd (.tuple xs))) : XD C (tCB (rIsi C.K) (tCons te (tCons (tC (.ty "tuple")) tNil))) ds (dB true) := xd_isiT h kit_tt
theorem xd_isLL {xs : List PyData} (h : XD C te ds (.pd (.list xs))) : XD C (tCB (rIsi C.K) (tCons te (tCons (tC (.ty "list")) tNil))) ds (dB true) := xd_isiL h kit_ll
theorem rd_pow {i j : Int} (h : CPow i j) : RD C (rI CPow fun i j => .int (i ^ j.toNat)) (dI i) (dI j) (dI (i ^ j.toNat)) := rd_iC h fun _ => .int _
/-! promises -/
def spR (C : Kx) (Rl : List Da → Da → Prop) : Sp := fun vs H Q _ => ∃ das d G, Ex G H ∧ RpAll C G vs das ∧ Rl das d ∧ ∀ v G' H', Stp G H G' H' → Rp C G' v d → Q v H'
theorem xd_call {tr : TA} {das : List Da} {Rl : List Da → Da → Prop} {E : XK} (h : AD C tr ds das) (hr : Rl das d) : XD C (tCall (spR C Rl) [] E tr) ds d := fun G0 H0 G H σ e Q q =>
  h G0 H0 G H σ e _ fun vs G1 H1 s1 r1 => by
    rw [List.append_nil]
    exact ⟨das, d, G1, s1.s, r1, hr, fun v G2 H2 s2 r2 => q v G2 H2 (s1.trans s2) r2⟩
/-- .. that gives out a new list -/
def spO (C : Kx) (Rl : List Da → List PyData → Prop) : Sp := fun vs H Q _ => ∃ das xs G, Ex G H ∧ RpAll C G vs das ∧ Rl das xs ∧ ∀ l ws G' H', Stp G H G' H' → H l = none → G' l = none → H' l = some (.lst ws) → DpAll C.K G' ws xs → Q (.ref l) H'
theorem xl_call {tr : TA} {das : List Da} {Rl : List Da → List PyData → Prop} {xs : List PyData} {E : XK} (h : AD C tr ds das) (hr : Rl das xs) : XL C (tCall (spO C Rl) [] E tr) ds xs := fun G0 H0 G H σ e Q q =>
  h G0 H0 G H σ e _ fun vs G1 H1 s1 r1 => by
    rw [List.append_nil]
    exact ⟨das, xs, G1, s1.s, r1, hr, fun l ws G2 H2 s2 h1 h2 h3 r2 => q l ws G2 H2 (s1.trans s2) (fresh_back s1.h h1) h2 h3 r2⟩
end

/-! ### what is walked -/
def JO (C : Kx) (J : It) (G : Hp) (items : List PyData) : Prop := ∀ (G1 H1 : Hp), Ex G G1 → Ex G1 H1 → ∀ i : Nat,
  (∀ d, items[i]? = some d → J.go i H1 ∧ ∀ x H', J.yld i H1 x H' → ∃ G', Stp G1 H1 G' H' ∧ Dp C.K G' x d) ∧ (items.length ≤ i → J.stop i H1)
def ID (C : Kx) (wi : TI) (ds : List Sl) (items : List PyData) : Prop := ∀ (G0 H0 G H : Hp) (σ : L2.St), En C G0 H0 G H σ ds → ∀ R : It → Hp → Prop, (∀ J G' H', Stp G H G' H' → JO C J G' items → R J H') → wi σ H R
section
variable {C : Kx} {ds : List Sl} {te : TE} {ta : TA}
theorem id_list {items : List PyData} (h : XD C te ds (.pd (.list items))) : ID C (iList C.K te) ds items := fun G0 H0 G H σ e R q =>
  h G0 H0 G H σ e _ fun v G1 H1 s1 r1 => by
    obtain ⟨p, vs, e1, e2, e3⟩ := dp_lst r1
    subst e1
    refine ⟨p, rfl, ⟨vs, ex_l s1.s e2⟩, q _ G1 H1 s1 fun G2 H2 a b i => ⟨fun d hd => ?_, fun hi => ?_⟩⟩
    · obtain ⟨w, h1, h2⟩ := dpa_get e3 hd
      have hq := ex_l (a.trans b) e2
      refine ⟨⟨vs, w, hq, h1⟩, fun x H' hy => ?_⟩
      obtain ⟨y1, y2⟩ := hy
      subst y1
      have e4 := y2 vs hq
      rw [h1] at e4
      cases e4
      exact ⟨G2, .refl b, dp_mono a _ _ h2⟩
    · exact ⟨vs, ex_l (a.trans b) e2, by rw [dpa_len e3]; exact hi⟩
theorem id_tup {items : List PyData} (h : XD C te ds (.pd (.tuple items))) : ID C (iTup C.K te) ds items := fun G0 H0 G H σ e R q =>
  h G0 H0 G H σ e _ fun v G1 H1 s1 r1 => by
    obtain ⟨p, vs, e1, e2, e3⟩ := dp_tup r1
    subst e1
    refine ⟨p, rfl, ⟨vs, ex_t s1.s e2⟩, q _ G1 H1 s1 fun G2 H2 a b i => ⟨fun d hd => ?_, fun hi => ?_⟩⟩
    · obtain ⟨w, h1, h2⟩ := dpa_get e3 hd
      have hq := ex_t (a.trans b) e2
      refine ⟨⟨vs, w, hq, h1⟩, fun x H' hy => ?_⟩
      obtain ⟨y1, y2⟩ := hy
      subst y1
      have e4 := y2 vs hq
      rw [h1] at e4
      cases e4
      exact ⟨G2, .refl b, dp_mono a _ _ h2⟩
    · exact ⟨vs, ex_t (a.trans b) e2, by rw [dpa_len e3]; exact hi⟩
theorem jo_r {G : Hp} {lo : Int} {n : Nat} : JO C (Itr lo n) G ((List.range n).map fun (i : Nat) => PyData.int (lo + (i : Int))) := fun G2 H2 a b i => by
  refine ⟨fun d hd => ?_, fun hi => ?_⟩
  · rw [List.getElem?_map] at hd
    by_cases hi : i < n
    · rw [List.getElem?_range hi] at hd
      cases hd
      exact ⟨hi, fun x H' hy => by
        obtain ⟨y1, y2⟩ := hy
        subst y1 y2
        exact ⟨G2, .refl b, .int _⟩⟩
    · rw [List.getElem?_eq_none (by rw [List.length_range]; omega)] at hd
      cases hd
  · rw [List.length_map, List.length_range] at hi
    exact hi
theorem id_rng1 {n : Int} (h : AD C ta ds [dI n]) (h1 : -(2 ^ 62) ≤ n ∧ n < 2 ^ 62) : ID C (iRng1 ta) ds ((List.range n.toNat).map fun (i : Nat) => PyData.int (i : Int)) := fun G0 H0 G H σ e R q =>
  h G0 H0 G H σ e _ fun vs G1 H1 s1 r1 => by
    obtain ⟨x, e1, h2⟩ := rpa1 r1
    subst e1
    refine ⟨n, by rw [dp_int h2], h1.1, h1.2, q _ G1 H1 s1 ?_⟩
    have z : ((List.range n.toNat).map fun (i : Nat) => PyData.int (i : Int)) = ((List.range n.toNat).map fun (i : Nat) => PyData.int ((0 : Int) + (i : Int))) := by
      congr 1
      funext i
      rw [Int.zero_add]
    rw [z]
    exact jo_r
theorem id_rng2 {lo n : Int} (h : AD C ta ds [dI lo, dI n]) (h1 : -(2 ^ 62) ≤ lo ∧ lo < 2 ^ 62 ∧ -(2 ^ 62) ≤ n ∧ n < 2 ^ 62) : ID C (iRng2 ta) ds ((List.range (n - lo).toNat).map fun (i : Nat) => PyData.int (lo + (i : Int))) := fun G0 H0 G H σ e R q =>
  h G0 H0 G H σ e _ fun vs G1 H1 s1 r1 => by
    obtain ⟨x, y, e1, h2, h3⟩ := rpa2 r1
    subst e1
    exact ⟨lo, n, by rw [dp_int h2, dp_int h3], h1, q _ G1 H1 s1 jo_r⟩
theorem ad_is {das das' : List Da} (h : AD C ta ds das) (e : das = das') : AD C ta ds das' := e ▸ h
theorem id_rng1' {n : Nat} {m : Int} (h : AD C ta ds [dI m]) (e : m.toNat = n) (h1 : -(2 ^ 62) ≤ m ∧ m < 2 ^ 62) : ID C (iRng1 ta) ds ((List.range n).map fun (i : Nat) => PyData.int (i : Int)) := e ▸ id_rng1 h h1
theorem id_rng2' {lo m : Int} {n : Nat} (h : AD C ta ds [dI lo, dI m]) (e : (m - lo).toNat = n) (h1 : -(2 ^ 62) ≤ lo ∧ lo < 2 ^ 62 ∧ -(2 ^ 62) ≤ m ∧ m < 2 ^ 62) : ID C (iRng2 ta) ds ((List.range n).map fun (i : Nat) => PyData.int (lo + (i : Int))) := e ▸ id_rng2 h h1
theorem jo_c {G : Hp} {lo c : Int} {n : Nat} : JO C (Itc lo c n) G ((List.range n).map fun (i : Nat) => PyData.int (lo + (i : Int) * c)) := fun G2 H2 a b i => by
  refine ⟨fun d hd => ?_, fun hi => ?_⟩
  · rw [List.getElem?_map] at hd
    by_cases hi : i < n
    · rw [List.getElem?_range hi] at hd
      cases hd
      exact ⟨hi, fun x H' hy => by
        obtain ⟨y1, y2⟩ := hy
        subst y1 y2
        exact ⟨G2, .refl b, .int _⟩⟩
    · rw [List.getElem?_eq_none (by rw [List.length_range]; omega)] at hd
      cases hd
  · rw [List.length_map, List.length_range] at hi
    exact hi
/-- range(lo, n, -1) -/
theorem id_down {lo n : Int} (h : AD C ta ds [dI lo, dI n, dI (-1)]) (h1 : -(2 ^ 62) ≤ lo ∧ lo < 2 ^ 62 ∧ -(2 ^ 62) ≤ n ∧ n < 2 ^ 62) : ID C (iRng3 ta) ds ((List.range (lo - n).toNat).map fun (i : Nat) => PyData.int (lo - (i : Int))) := fun G0 H0 G H σ e R q =>
  h G0 H0 G H σ e _ fun vs G1 H1 s1 r1 => by
    cases r1 with
    | cons h2 t =>
      obtain ⟨y, z, e1, h3, h4⟩ := rpa2 t
      subst e1
      refine ⟨lo, n, -1, _, by rw [dp_int h2, dp_int h3, dp_int h4], RgC.neg h1.1 h1.2.1 h1.2.2.1 h1.2.2.2, q _ G1 H1 s1 ?_⟩
      have z : ((List.range (lo - n).toNat).map fun (i : Nat) => PyData.int (lo - (i : Int))) = ((List.range (lo - n).toNat).map fun (i : Nat) => PyData.int (lo + (i : Int) * (-1))) := by
        congr 1
        funext i
        congr 1
        omega
      rw [z]
      exact jo_c
theorem jo_e {G : Hp} {K : PySem.W.Frag} {p : Addr} {vs : List V} {xs : List PyData} (hK : K = C.K) (hq : SqL K G p vs) (ha : DpAll K G vs xs) : JO C (Ite K p) G ((List.range xs.length).map fun (i : Nat) => PyData.tuple [.int (i : Int), xs.getD i .none]) := fun G2 H2 a b i => by
  subst hK
  have hq2 := ex_l (a.trans b) hq
  refine ⟨fun d hd => ?_, fun hi => ?_⟩
  · rw [List.getElem?_map] at hd
    by_cases hi : i < xs.length
    · rw [List.getElem?_range hi] at hd
      cases hd
      have e0 : xs[i]? = some (xs.getD i .none) := by rw [List.getD_eq_getElem?_getD, List.getElem?_eq_getElem hi]; rfl
      obtain ⟨w, h1, h2⟩ := dpa_get ha e0
      refine ⟨⟨vs, w, hq2, h1⟩, fun x H' hy => ?_⟩
      obtain ⟨T, y, e1, hT, e2, hy⟩ := hy
      subst e1 e2
      have e4 := hy vs hq2
      rw [h1] at e4
      cases e4
      exact ⟨_, .new b hT, .tup (st_of upd_same) (.cons (.int _) (.cons (dp_mono (a.trans (Ex.new (fresh_back b hT))) _ _ h2) .nil))⟩
    · rw [List.getElem?_eq_none (by rw [List.length_range]; omega)] at hd
      cases hd
  · rw [List.length_map, List.length_range] at hi
    exact ⟨vs, hq2, by rw [dpa_len ha]; exact hi⟩
/-- enumerate of a list -/
theorem id_enum {xs : List PyData} (h : AD C ta ds [.pd (.list xs)]) : ID C (iEnum C.K ta) ds ((List.range xs.length).map fun (i : Nat) => PyData.tuple [.int (i : Int), xs.getD i .none]) := fun G0 H0 G H σ e R q =>
  h G0 H0 G H σ e _ fun vs G1 H1 s1 r1 => by
    obtain ⟨x, e1, h2⟩ := rpa1 r1
    subst e1
    obtain ⟨p, ws, e1, e2, e3⟩ := dp_lst h2
    subst e1
    exact ⟨p, ws, rfl, ex_l s1.s e2, q _ G1 H1 s1 (jo_e rfl e2 e3)⟩
end
/-- walked as the one or as the other -/
def iOr (w1 w2 : TI) : TI := fun σ H R => w1 σ H R ∨ w2 σ H R
theorem pi_or {X : Cx} {tg iter : PySem.Expr} {w1 w2 : TI} (h1 : PI X tg iter w1) (h2 : PI X tg iter w2) : PI X tg iter (iOr w1 w2) :=
  ⟨fun pins s σ H R I h => h.elim (fun h => h1.run pins s σ H R I h) fun h => h2.run pins s σ H R I h⟩
theorem id_orL {C : Kx} {ds : List Sl} {w1 w2 : TI} {items : List PyData} (h : ID C w1 ds items) : ID C (iOr w1 w2) ds items := fun G0 H0 G H σ e R q => .inl (h G0 H0 G H σ e R q)
theorem id_orR {C : Kx} {ds : List Sl} {w1 w2 : TI} {items : List PyData} (h : ID C w2 ds items) : ID C (iOr w1 w2) ds items := fun G0 H0 G H σ e R q => .inr (h G0 H0 G H σ e R q)
/-- a target takes a value -/
def GD (C : Kx) (g : TG) (d : PyData) (ds ds' : List Sl) : Prop := ∀ (G0 H0 G H : Hp) (σ : L2.St) (x : V), En C G0 H0 G H σ ds → Dp C.K G x d → ∀ Q : L2.St → Hp → Prop, (∀ σ', En C G0 H0 G H σ' ds' → Q σ' H) → g x σ H Q
theorem gd_name {C : Kx} {j : Nat} {d : PyData} {ds : List Sl} : GD C (gName j) d ds (ds.set j (.va (.pd d))) := fun G0 H0 G H σ x e h Q q => q _ (e.set h)
theorem gd_tup2 {C : Kx} {i j : Nat} {a b : PyData} {ds : List Sl} : GD C (gTup C.K 2 (gCons (gName i) (gCons (gName j) gNil))) (.tuple [a, b]) ds ((ds.set i (.va (.pd a))).set j (.va (.pd b))) := fun G0 H0 G H σ x e h Q q => by
  obtain ⟨p, vs, e1, e2, e3⟩ := dp_tup h
  subst e1
  cases e3 with
  | cons h1 t =>
    cases t with
    | cons h2 t =>
      cases t
      have e4 : En C G0 H0 G H ((σ.set i (some _)).set j (some _)) ((ds.set i (.va (.pd a))).set j (.va (.pd b))) := (e.set (d := .pd a) h1).set (d := .pd b) h2
      exact ⟨p, _, rfl, ex_t e.ex e2, rfl, _, _, rfl, _, _, rfl, rfl, q _ e4⟩

/-! ### statements -/
structure DE where
  nx : List Sl → Prop
  rt : Da → Prop := fun _ => False
  ro : List PyData → Prop := fun _ => False
  bk : List Sl → Prop := fun _ => False
  ct : List Sl → Prop := fun _ => False
  ex : PySem.Value → List Sl → Prop := fun _ _ => False
def SD (C : Kx) (E : WX) (ts : TS) (ds : List Sl) (R : DE) : Prop := ∀ (G0 H0 G H : Hp) (σ : L2.St) (D : Ends), En C G0 H0 G H σ ds →
  (∀ ds' σ' G' H', R.nx ds' → Ex G G' → En C G0 H0 G' H' σ' ds' → D.nx σ' H') → (∀ d v G' H', R.rt d → Stp G0 H0 G' H' → Rp C G' v d → D.rt v H') →
  (∀ xs l vs G' H', R.ro xs → Stp G0 H0 G' H' → H0 l = none → G' l = none → H' l = some (.lst vs) → DpAll C.K G' vs xs → D.rt (.ref l) H') →
  (∀ ds' σ' G' H', R.bk ds' → Ex G G' → En C G0 H0 G' H' σ' ds' → D.bk σ' H') → (∀ ds' σ' G' H', R.ct ds' → Ex G G' → En C G0 H0 G' H' σ' ds' → D.ct σ' H') →
  (∀ c o ds' σ' G' H', o = none → R.ex c ds' → Ex G G' → En C G0 H0 G' H' σ' ds' → E c o σ' H') → ts D σ H
section
variable {C : Kx} {E : WX} {ds : List Sl} {R : DE} {te : TE} {t : TT} {tu tw tz : TS} {d : Da}
theorem sd_next (h : R.nx ds) : SD C E tNext ds R := fun G0 H0 G H σ D e kn kr ko kb kc kx => kn ds σ G H h (Ex.refl _) e
theorem sd_break (h : R.bk ds) : SD C E tBreak ds R := fun G0 H0 G H σ D e kn kr ko kb kc kx => kb ds σ G H h (Ex.refl _) e
theorem sd_cont (h : R.ct ds) : SD C E tCont ds R := fun G0 H0 G H σ D e kn kr ko kb kc kx => kc ds σ G H h (Ex.refl _) e
theorem sd_seq (h : SD C E tu ds { R with nx := fun ds' => SD C E tz ds' R }) : SD C E (tSeq tu tz) ds R := fun G0 H0 G H σ D e kn kr ko kb kc kx =>
  h G0 H0 G H σ { D with nx := tz D } e (fun ds' σ' G' H' h' x' e' => h' G0 H0 G' H' σ' D e' (fun ds2 σ2 G2 H2 h2 x2 e2 => kn ds2 σ2 G2 H2 h2 (x'.trans x2) e2) kr ko (fun ds2 σ2 G2 H2 h2 x2 e2 => kb ds2 σ2 G2 H2 h2 (x'.trans x2) e2) (fun ds2 σ2 G2 H2 h2 x2 e2 => kc ds2 σ2 G2 H2 h2 (x'.trans x2) e2) (fun c o ds2 σ2 G2 H2 ho h2 x2 e2 => kx c o ds2 σ2 G2 H2 ho h2 (x'.trans x2) e2)) kr ko kb kc kx
theorem sd_mid (M : List Sl → Prop) (h : SD C E tu ds { R with nx := M }) (k : ∀ ds', M ds' → SD C E tz ds' R) : SD C E (tSeq tu tz) ds R := sd_seq fun G0 H0 G H σ D e kn kr ko kb kc kx => h G0 H0 G H σ D e (fun ds' σ' G' H' h' x' e' => kn ds' σ' G' H' (k ds' h') x' e') kr ko kb kc kx
theorem sd_asg {i : Nat} (h : XD C te ds d) (k : R.nx (ds.set i (.va d))) : SD C E (tAsg te (gName i)) ds R := fun G0 H0 G H σ D e kn kr ko kb kc kx =>
  h G0 H0 G H σ e _ fun v G1 H1 s1 r1 => kn _ _ G1 H1 k s1.g ((e.step s1).set r1)
theorem sd_asgO {i : Nat} {xs : List PyData} (h : XL C te ds xs) (k : R.nx (ds.set i (.ow xs))) : SD C E (tAsg te (gName i)) ds R := fun G0 H0 G H σ D e kn kr ko kb kc kx =>
  h G0 H0 G H σ e _ fun l vs G1 H1 s1 h1 h2 h3 r1 => kn _ _ G1 H1 k s1.g (e.setO s1 h1 h2 h3 r1)
theorem sd_ret (h : XD C te ds d) (k : R.rt d) : SD C E (tRet te) ds R := fun G0 H0 G H σ D e kn kr ko kb kc kx =>
  h G0 H0 G H σ e _ fun v G1 H1 s1 r1 => kr d v G1 H1 k (e.stp.trans s1) r1
theorem sd_retL {xs : List PyData} (h : XL C te ds xs) (k : R.ro xs) : SD C E (tRet te) ds R := fun G0 H0 G H σ D e kn kr ko kb kc kx =>
  h G0 H0 G H σ e _ fun l vs G1 H1 s1 h1 h2 h3 r1 => ko xs l vs G1 H1 k (e.stp.trans s1) (fresh_back e.stp.h h1) h2 h3 r1
theorem sd_retO {i : Nat} {xs : List PyData} (h : ds[i]? = some (.ow xs)) (k : R.ro xs) : SD C E (tRet (tVar i)) ds R := fun G0 H0 G H σ D e kn kr ko kb kc kx => by
  obtain ⟨l, vs, z1, z2, z3, z4, z5⟩ := e.ow i xs h
  exact ⟨_, z1, ko xs l vs G H k e.stp z2 z3 z4 z5⟩
theorem sd_drop (h : XD C te ds d) (k : R.nx ds) : SD C E (tDrop te) ds R := fun G0 H0 G H σ D e kn kr ko kb kc kx =>
  h G0 H0 G H σ e _ fun v G1 H1 s1 r1 => kn _ _ G1 H1 k s1.g (e.step s1)
theorem sd_if {b : Bool} (h : TD C t ds b) (h1 : b = true → SD C E tu ds R) (h2 : b = false → SD C E tw ds R) : SD C E (tIfS t tu tw) ds R := fun G0 H0 G H σ D e kn kr ko kb kc kx =>
  h G0 H0 G H σ e _ fun G1 H1 s1 => by
    cases b with
    | true =>
      rw [if_pos rfl]
      exact h1 rfl G0 H0 G1 H1 σ D (e.step s1) (fun ds2 σ2 G2 H2 h2 x2 e2 => kn ds2 σ2 G2 H2 h2 (s1.g.trans x2) e2) kr ko (fun ds2 σ2 G2 H2 h2 x2 e2 => kb ds2 σ2 G2 H2 h2 (s1.g.trans x2) e2) (fun ds2 σ2 G2 H2 h2 x2 e2 => kc ds2 σ2 G2 H2 h2 (s1.g.trans x2) e2) (fun c o ds2 σ2 G2 H2 ho h2 x2 e2 => kx c o ds2 σ2 G2 H2 ho h2 (s1.g.trans x2) e2)
    | false =>
      rw [if_neg Bool.false_ne_true]
      exact h2 rfl G0 H0 G1 H1 σ D (e.step s1) (fun ds2 σ2 G2 H2 h2 x2 e2 => kn ds2 σ2 G2 H2 h2 (s1.g.trans x2) e2) kr ko (fun ds2 σ2 G2 H2 h2 x2 e2 => kb ds2 σ2 G2 H2 h2 (s1.g.trans x2) e2) (fun ds2 σ2 G2 H2 h2 x2 e2 => kc ds2 σ2 G2 H2 h2 (s1.g.trans x2) e2) (fun c o ds2 σ2 G2 H2 ho h2 x2 e2 => kx c o ds2 σ2 G2 H2 ho h2 (s1.g.trans x2) e2)
/-- an own list is shown from now on -/
theorem sd_shown (i : Nat) {xs : List PyData} (h : ds[i]? = some (.ow xs)) (k : SD C E tu (ds.set i (.va (.pd (.list xs)))) R) : SD C E tu ds R := fun G0 H0 G H σ D e kn kr ko kb kc kx => by
  obtain ⟨G', s1, s2, e'⟩ := e.shown h
  exact k G0 H0 G' H σ D e' (fun ds2 σ2 G2 H2 h2 x2 e2 => kn ds2 σ2 G2 H2 h2 (s2.trans x2) e2) kr ko (fun ds2 σ2 G2 H2 h2 x2 e2 => kb ds2 σ2 G2 H2 h2 (s2.trans x2) e2) (fun ds2 σ2 G2 H2 h2 x2 e2 => kc ds2 σ2 G2 H2 h2 (s2.trans x2) e2) (fun c o ds2 σ2 G2 H2 ho h2 x2 e2 => kx c o ds2 σ2 G2 H2 ho h2 (s2.trans x2) e2)
/-- xs.append(e) of an own list -/
theorem sd_app {i : Nat} {xs : List PyData} {x : PyData} (hd : ds[i]? = some (.ow xs)) (h : XD C te ds (.pd x)) (hz : xs.length < 100000) (k : R.nx (ds.set i (.ow (xs ++ [x])))) :
    SD C E (tDrop (tBM C.K "list" rAppend (tVar i) (tCons te tNil))) ds R := fun G0 H0 G H σ D e kn kr ko kb kc kx => by
  obtain ⟨l, vs, z1, z2, z3, z4, z5⟩ := e.ow i xs hd
  refine ⟨_, z1, Or.inl ⟨rfl, vs, sq_of z4⟩, h G0 H0 G H σ e _ fun v G1 H1 s1 r1 => ?_⟩
  have z5' := dpAll_mono s1.g _ _ z5
  exact ⟨l, vs, v, rfl, rfl, s1.h _ _ z4, by rw [dpa_len z5]; exact sz_lt hz, kn _ _ G1 _ k s1.g ((e.step s1).mut hd z1 (dpa_app z5' (.cons r1 .nil)))⟩
/-- a, b = e1, e2 -/
theorem sd_par {i j : Nat} {ta : TA} {a b : Da} (h : AD C ta ds [a, b]) (k : R.nx ((ds.set i (.va a)).set j (.va b))) : SD C E (tPar i j ta) ds R := fun G0 H0 G H σ D e kn kr ko kb kc kx =>
  h G0 H0 G H σ e _ fun vs G1 H1 s1 r1 => by
    obtain ⟨x, y, e1, r2, r3⟩ := rpa2 r1
    exact ⟨x, y, e1, kn _ _ G1 H1 k s1.g (((e.step s1).set r2).set r3)⟩
/-- while -/
theorem sd_while (W : Nat → List Sl → Prop) (m0 : Nat) (h0 : W m0 ds)
    (hs : ∀ m ds1, W m ds1 → ∃ b, TD C t ds1 b ∧ (b = true → SD C E tu ds1 { R with nx := fun d => ∃ m', m' < m ∧ W m' d, ct := fun d => ∃ m', m' < m ∧ W m' d, bk := R.nx }) ∧ (b = false → R.nx ds1)) : SD C E (tWhile t tu) ds R := fun G0 H0 G H σ D e kn kr ko kb kc kx => by
  refine ⟨fun m σ' H' => ∃ ds' G', Ex G G' ∧ W m ds' ∧ En C G0 H0 G' H' σ' ds', ⟨m0, ds, G, Ex.refl _, h0, e⟩, fun m σ1 H1 ⟨ds1, G1, x1, w1, e1⟩ => ?_⟩
  obtain ⟨b, ht, hy, hn⟩ := hs m ds1 w1
  refine ht G0 H0 G1 H1 σ1 e1 _ fun G2 H2 s2 => ?_
  cases b with
  | true =>
    rw [if_pos rfl]
    refine ⟨fun σ' H' => ∃ ds' G', Ex G G' ∧ (∃ m', m' < m ∧ W m' ds') ∧ En C G0 H0 G' H' σ' ds', fun σ' H' ⟨ds', G', x', ⟨m', hm, w'⟩, e'⟩ => ⟨m', hm, ds', G', x', w', e'⟩, ?_⟩
    have x3 := x1.trans s2.g
    exact hy rfl G0 H0 G2 H2 σ1 _ (e1.step s2) (fun ds' σ' G' H' h' x' e' => ⟨ds', G', x3.trans x', h', e'⟩) kr ko (fun ds' σ' G' H' h' x' e' => kn ds' σ' G' H' h' (x3.trans x') e') (fun ds' σ' G' H' h' x' e' => ⟨ds', G', x3.trans x', h', e'⟩) (fun c o ds2 σ2 G2 H2 ho h2 x2 e2 => kx c o ds2 σ2 G2 H2 ho h2 (x3.trans x2) e2)
  | false =>
    rw [if_neg Bool.false_ne_true]
    exact kn ds1 σ1 G2 H2 (hn rfl) (x1.trans s2.g) (e1.step s2)
/-- for -/
theorem sd_for {α : Type} {wi : TI} {g : TG} (xs : List α) (c : α → PyData) (hi : ID C wi ds (xs.map c)) (Iv : Nat → List Sl → Prop) (h0 : Iv 0 ds)
    (hs : ∀ (i : Nat) (x : α) (ds1 : List Sl), xs[i]? = some x → Iv i ds1 → ∃ ds2, GD C g (c x) ds1 ds2 ∧ SD C E tu ds2 { R with nx := Iv (i + 1), ct := Iv (i + 1), bk := R.nx }) (hd : ∀ ds1, Iv xs.length ds1 → R.nx ds1) : SD C E (tFor wi g tu) ds R := fun G0 H0 G H σ D e kn kr ko kb kc kx =>
  hi G0 H0 G H σ e _ fun J G1 H1 s1 jo => by
    refine ⟨fun i m σ' H' => m = xs.length - i ∧ i ≤ xs.length ∧ ∃ ds' G', Ex G1 G' ∧ Iv i ds' ∧ En C G0 H0 G' H' σ' ds', ⟨_, rfl, Nat.zero_le _, ds, G1, Ex.refl _, h0, e.step s1⟩, fun i m σ2 H2 ⟨em, hi, ds2, G2, x2, v2, e2⟩ => ?_⟩
    obtain ⟨jg, js⟩ := jo G2 H2 x2 e2.ex i
    by_cases hlt : i < xs.length
    · have hx : xs[i]? = some xs[i] := List.getElem?_eq_getElem hlt
      obtain ⟨go, yl⟩ := jg (c xs[i]) (by rw [List.getElem?_map, hx]; rfl)
      refine .inr ⟨go, fun σ' H' => ∃ ds' G', Ex G1 G' ∧ Iv (i + 1) ds' ∧ En C G0 H0 G' H' σ' ds', fun σ' H' ⟨ds', G', x', v', e'⟩ => ⟨xs.length - (i + 1), by omega, rfl, by omega, ds', G', x', v', e'⟩, fun x H3 hy => ?_⟩
      obtain ⟨G3, s3, r3⟩ := yl x H3 hy
      obtain ⟨ds4, hg, hb⟩ := hs i xs[i] ds2 hx v2
      refine hg G0 H0 G3 H3 σ2 x (e2.step s3) r3 _ fun σ4 e4 => ?_
      have x5 := x2.trans s3.g
      exact hb G0 H0 G3 H3 σ4 _ e4 (fun ds' σ' G' H' h' x' e' => ⟨ds', G', x5.trans x', h', e'⟩) kr ko (fun ds' σ' G' H' h' x' e' => kn ds' σ' G' H' h' ((s1.g.trans x5).trans x') e') (fun ds' σ' G' H' h' x' e' => ⟨ds', G', x5.trans x', h', e'⟩) (fun c o ds2 σ2 G2 H2 ho h2 x2 e2 => kx c o ds2 σ2 G2 H2 ho h2 ((s1.g.trans x5).trans x2) e2)
    · refine .inl ⟨js (by rw [List.length_map]; omega), kn ds2 σ2 G2 H2 (hd ds2 ?_) (s1.g.trans x2) e2⟩
      have : i = xs.length := by omega
      rw [← this]
      exact v2
end

/-! ### comprehensions -/
theorem En.pop {C : Kx} {G0 H0 G H : Hp} {σ : L2.St} {ds : List Sl} {x : Option V} {y : Sl} (e : En C G0 H0 G H (σ ++ [x]) (ds ++ [y])) : En C G0 H0 G H σ ds := by
  have hl : σ.length = ds.length := by
    have h := e.len
    rw [List.length_append, List.length_append] at h
    simpa using h
  have f : ∀ {j : Nat} {s : Sl}, ds[j]? = some s → (ds ++ [y])[j]? = some s ∧ (σ ++ [x])[j]? = σ[j]? := fun {j s} h => by
    have hj : j < ds.length := (List.getElem?_eq_some_iff.mp h).1
    exact ⟨by rw [List.getElem?_append_left hj]; exact h, List.getElem?_append_left (by omega)⟩
  refine ⟨e.stp, e.s0, hl, fun j d h => ?_, fun j xs h => ?_, fun j A x fs h => ?_, fun j k us zs m h1 h2 h3 h4 => ?_, e.nl.of (Ex.refl _) (fun a vs h1 h2 _ => ⟨h1, h2⟩) (fun j rs h => ⟨(f h).1, (f h).2.symm⟩) fun j xs l' h hs => .inl ⟨xs, (f h).1, (f h).2.trans hs⟩⟩
  · rw [← (f h).2]; exact e.va j d (f h).1
  · rw [← (f h).2]; exact e.ow j xs (f h).1
  · rw [← (f h).2]; exact e.ob j A x fs (f h).1
  · rw [← (f h1).2] at h3
    rw [← (f h2).2] at h4
    exact e.di j k us zs m (f h1).1 (f h2).1 h3 h4
theorem En.push {C : Kx} {G0 H0 G H : Hp} {σ : L2.St} {ds : List Sl} {D : Addr} (e : En C G0 H0 G H σ ds) (hD : H D = none) : En C G0 H0 G (upd H D (.lst [])) (σ ++ [some (.ref D)]) (ds ++ [.ow []]) := by
  have hl := e.len
  have h0 : H0 D = none := fresh_back e.stp.h hD
  have hg : G D = none := fresh_back e.ex hD
  have f : ∀ {j : Nat} {s : Sl}, (ds ++ [Sl.ow []])[j]? = some s → (ds[j]? = some s ∧ (σ ++ [some (.ref D)])[j]? = σ[j]?) ∨ (j = ds.length ∧ s = .ow [] ∧ (σ ++ [some (.ref D)])[j]? = some (some (.ref D))) := fun {j s} h => by
    rcases Nat.lt_trichotomy j ds.length with hj | hj | hj
    · rw [List.getElem?_append_left hj] at h
      exact .inl ⟨h, List.getElem?_append_left (by omega)⟩
    · subst hj
      rw [List.getElem?_append_right (Nat.le_refl _), Nat.sub_self] at h
      cases h
      refine .inr ⟨rfl, rfl, ?_⟩
      rw [← hl, List.getElem?_append_right (Nat.le_refl _), Nat.sub_self]
      rfl
    · rw [List.getElem?_eq_none (by rw [List.length_append]; exact hj)] at h
      cases h
  refine ⟨⟨e.stp.g, e.stp.h.trans (Ex.new hD), e.ex.trans (Ex.new hD), e.stp.n⟩, e.s0, by rw [List.length_append, List.length_append, hl]; rfl, fun j d h => ?_, fun j xs h => ?_, fun j A x fs h => ?_, fun j k us zs m h1 h2 h3 h4 => ?_, ?_⟩
  · rcases f h with ⟨h, q⟩ | ⟨_, z, _⟩
    · rw [q]; exact e.va j d h
    · cases z
  · rcases f h with ⟨h, q⟩ | ⟨_, z, q⟩
    · rw [q]
      obtain ⟨l, vs, z1, z2, z3, z4, z5⟩ := e.ow j xs h
      exact ⟨l, vs, z1, z2, z3, Ex.new hD _ _ z4, z5⟩
    · cases z
      exact ⟨D, [], q, h0, hg, upd_same, .nil⟩
  · rcases f h with ⟨h, q⟩ | ⟨_, z, _⟩
    · rw [q]
      obtain ⟨dx, vs, z1, z2, z3, z4, z5⟩ := e.ob j A x fs h
      exact ⟨dx, vs, z1, z2, z3, Ex.new hD _ _ z4, z5⟩
    · cases z
  · have no : ∀ {j : Nat} {ys : List PyData}, ds[j]? = some (.ow ys) → σ[j]? = some (some (.ref D)) → False := fun {j ys} h1 h2 => by
      obtain ⟨l, vs, z1, z2, z3, z4, z5⟩ := e.ow j ys h1
      rw [h2] at z1
      cases z1
      rw [hD] at z4
      cases z4
    rcases f h1 with ⟨h1, q1⟩ | ⟨y1, _, q1⟩
    · rw [q1] at h3
      rcases f h2 with ⟨h2, q2⟩ | ⟨y2, _, q2⟩
      · rw [q2] at h4
        exact e.di j k us zs m h1 h2 h3 h4
      · rw [q2] at h4
        cases h4
        exact (no h1 h3).elim
    · rw [q1] at h3
      cases h3
      rcases f h2 with ⟨h2, q2⟩ | ⟨y2, _, q2⟩
      · rw [q2] at h4
        exact (no h2 h4).elim
      · omega
  · refine e.nl.of (Ex.refl _) (fun a vs hg' hh _ => ⟨hg', Ex.new hD _ _ hh⟩) (fun j rs h => ?_) fun j xs l' h hs => ?_
    · rcases f h with ⟨h, q⟩ | ⟨_, z, _⟩
      · exact ⟨h, q⟩
      · cases z
    · rcases f h with ⟨h, q⟩ | ⟨_, z, q⟩
      · exact .inl ⟨xs, h, q.symm.trans hs⟩
      · rw [q] at hs
        cases hs
        exact .inr hD
section
variable {C : Kx} {ds : List Sl} {te : TE} {tt : TT} {wi : TI}
/-- [e for x in .. if t]: b tells which are kept, e what they give -/
theorem xl_lcI {α : Type} {j : Nat} {vs : List Nat} (xs : List α) (c e : α → PyData) (b : α → Bool) (hv : vs = [j]) (hz : xs.length < 50000) (hi : ID C wi ds (xs.map c))
    (ht : ∀ x, x ∈ xs → TD C tt (ds.set j (.va (.pd (c x)))) (b x)) (he : ∀ x, x ∈ xs → b x = true → XD C te (ds.set j (.va (.pd (c x)))) (.pd (e x))) : XL C (tLc wi (gName j) tt te vs) ds ((xs.filter b).map e) := fun G0 H0 G H σ en Q q => by
  subst hv
  refine hi G0 H0 G H σ en _ fun J G1 H1 s1 jo D hD => ?_
  have e1 := (en.step s1).push hD
  have hl := e1.len
  rw [List.length_append, List.length_append] at hl
  have hl' : σ.length = ds.length := by simpa using hl
  refine ⟨fun i m H' => m = xs.length - i ∧ i ≤ xs.length ∧ ∃ G', Ex G1 G' ∧ Stp G1 H1 G' H' ∧ En C G0 H0 G' H' (σ ++ [some (.ref D)]) (ds ++ [.ow (((xs.take i).filter b).map e)]),
    ⟨_, rfl, Nat.zero_le _, G1, Ex.refl _, ⟨Ex.refl _, Ex.new hD, s1.s.trans (Ex.new hD), fun a h1 h2 => absurd h1 h2⟩, e1⟩, fun i m H2 ⟨em, hi, G2, x2, s2, e2⟩ => ?_⟩
  obtain ⟨jg, js⟩ := jo G2 H2 x2 e2.ex i
  by_cases hlt : i < xs.length
  · have hx : xs[i]? = some xs[i] := List.getElem?_eq_getElem hlt
    have hmem : xs[i] ∈ xs := List.getElem_mem hlt
    obtain ⟨go, yl⟩ := jg (c xs[i]) (by rw [List.getElem?_map, hx]; rfl)
    have htk : xs.take (i + 1) = xs.take i ++ [xs[i]] := by rw [List.take_add_one, hx]; rfl
    refine .inr ⟨go, fun H' => ∃ G', Ex G1 G' ∧ Stp G1 H1 G' H' ∧ En C G0 H0 G' H' (σ ++ [some (.ref D)]) (ds ++ [.ow (((xs.take (i + 1)).filter b).map e)]), fun H' ⟨G', a1, a2, a3⟩ => ⟨xs.length - (i + 1), by omega, rfl, by omega, G', a1, a2, a3⟩, fun x H3 hy => ?_⟩
    obtain ⟨G3, s3, r3⟩ := yl x H3 hy
    show wipe ((wipe σ [j]).set j (some x)) [j] = wipe σ [j] ∧ _
    have w1 : (wipe σ [j]).set j (some x) = σ.set j (some x) := by
      show (σ.set j none).set j (some x) = σ.set j (some x)
      rw [List.set_set]
    rw [w1]
    refine ⟨by show (σ.set j (some x)).set j none = σ.set j none; rw [List.set_set], ?_⟩
    have e3 := e2.step s3
    have e3p : En C G0 H0 G3 H3 (σ.set j (some x)) (ds.set j (.va (.pd (c xs[i])))) := e3.pop.set (d := .pd (c xs[i])) r3
    refine ht _ hmem G0 H0 G3 H3 _ e3p _ fun G4 H4 s4 => ?_
    cases hb : b xs[i] with
    | true =>
      rw [if_pos rfl]
      refine he _ hmem hb G0 H0 G4 H4 _ (e3p.step s4) _ fun y G5 H5 s5 r5 => ?_
      have e5 := (e3.step s4).step s5
      have hσ : (σ ++ [some (V.ref D)])[σ.length]? = some (some (.ref D)) := by
        rw [List.getElem?_append_right (Nat.le_refl _), Nat.sub_self]; rfl
      have hds : (ds ++ [Sl.ow (((xs.take i).filter b).map e)])[σ.length]? = some (.ow (((xs.take i).filter b).map e)) := by
        rw [hl', List.getElem?_append_right (Nat.le_refl _), Nat.sub_self]; rfl
      obtain ⟨l, ws, z1, z2, z3, z4, z5⟩ := e5.ow σ.length _ hds
      rw [hσ] at z1
      cases z1
      refine ⟨ws, z4, ?_, G5, ((x2.trans s3.g).trans s4.g).trans s5.g, ?_, ?_⟩
      · rw [dpa_len z5, List.length_map]
        have h := List.length_filter_le b (xs.take i)
        rw [List.length_take] at h
        exact sz_lt (by omega)
      · exact (((s2.trans s3).trans s4).trans s5).mut hD z3
      · have e6 := e5.mut hds hσ (dpa_app z5 (.cons r5 .nil))
        have z : (ds ++ [Sl.ow (((xs.take i).filter b).map e)]).set σ.length (.ow (((xs.take i).filter b).map e ++ [e xs[i]])) = ds ++ [Sl.ow (((xs.take (i + 1)).filter b).map e)] := by
          rw [List.set_append_right _ _ (by omega), htk, hl', Nat.sub_self, List.filter_append, List.map_append, List.filter_cons, if_pos hb]
          rfl
        rw [z] at e6
        exact e6
    | false =>
      rw [if_neg Bool.false_ne_true]
      refine ⟨G4, ((x2.trans s3.g).trans s4.g), (s2.trans s3).trans s4, ?_⟩
      rw [htk, List.filter_append, List.filter_cons, if_neg (by rw [hb]; exact Bool.false_ne_true)]
      show En C G0 H0 G4 H4 _ (ds ++ [.ow (((xs.take i).filter b ++ []).map e)])
      rw [List.append_nil]
      exact e3.step s4
  · have hi' : i = xs.length := by omega
    subst hi'
    rw [List.take_length] at e2
    have hσ : (σ ++ [some (V.ref D)])[σ.length]? = some (some (.ref D)) := by
      rw [List.getElem?_append_right (Nat.le_refl _), Nat.sub_self]; rfl
    have hds : (ds ++ [Sl.ow ((xs.filter b).map e)])[σ.length]? = some (.ow ((xs.filter b).map e)) := by
      rw [hl', List.getElem?_append_right (Nat.le_refl _), Nat.sub_self]; rfl
    obtain ⟨l, ws, z1, z2, z3, z4, z5⟩ := e2.ow σ.length _ hds
    rw [hσ] at z1
    cases z1
    exact .inl ⟨js (by rw [List.length_map]; omega), q D ws G2 H2 (s1.trans s2) (fresh_back s1.h hD) z3 z4 z5⟩
theorem td_yes : TD C tYes ds true := fun G0 H0 G H σ e Q q => q G H (.refl e.ex)
/-- .. without an if -/
theorem xl_lc {α : Type} {j : Nat} {vs : List Nat} (xs : List α) (c e : α → PyData) (hv : vs = [j]) (hz : xs.length < 50000) (hi : ID C wi ds (xs.map c))
    (he : ∀ x, x ∈ xs → XD C te (ds.set j (.va (.pd (c x)))) (.pd (e x))) : XL C (tLc wi (gName j) tYes te vs) ds (xs.map e) := by
  have h := xl_lcI (tt := tYes) xs c e (fun _ => true) hv hz hi (fun _ _ => td_yes) (fun x hx _ => he x hx)
  rw [List.filter_eq_self.mpr (fun _ _ => rfl)] at h
  exact h
end

/-! ### objects -/
theorem lk1 (f : Str) (v : V) : [(f, v)].lookup f = some v := by simp [List.lookup]
section
variable {C : Kx} {ds : List Sl} {te : TE} {ta : TA} {E : XK} {W : WX}
theorem xd_chances {c : List (Int × Int)} (cl : Cls C.K C.T) (na : NoAttr C.K C.T "chances") (h : XD C te ds (.tab c)) : XD C (tFld C.K te "chances") ds (.pd (.list (c.map pD))) := fun G0 H0 G H σ e Q q =>
  h G0 H0 G H σ e _ fun v G1 H1 s1 r1 => by
    obtain ⟨a, dx, l, e1, e2, e3⟩ := r1
    exact ⟨a, C.T, dx, _, .ref l, e1, s1.s _ _ e2, cl, na, rfl, q _ G1 H1 s1 e3⟩
theorem xd_age {n : Int} {r : List (Int × Int × Int)} (cl : Cls C.K C.P) (na : NoAttr C.K C.P "age") (h : XD C te ds (.ple n r)) : XD C (tFld C.K te "age") ds (dI n) := fun G0 H0 G H σ e Q q =>
  h G0 H0 G H σ e _ fun v G1 H1 s1 r1 => by
    obtain ⟨a, dx, l, e1, e2, e3⟩ := r1
    exact ⟨a, C.P, dx, _, .int n, e1, s1.s _ _ e2, cl, na, rfl, q _ G1 H1 s1 (Dp.int n)⟩
theorem xd_rows {n : Int} {r : List (Int × Int × Int)} (cl : Cls C.K C.P) (na : NoAttr C.K C.P "rows") (h : XD C te ds (.ple n r)) : XD C (tFld C.K te "rows") ds (.pd (.list (r.map rD))) := fun G0 H0 G H σ e Q q =>
  h G0 H0 G H σ e _ fun v G1 H1 s1 r1 => by
    obtain ⟨a, dx, l, e1, e2, e3⟩ := r1
    exact ⟨a, C.P, dx, _, .ref l, e1, s1.s _ _ e2, cl, na, rfl, q _ G1 H1 s1 e3⟩
theorem xd_methT {m : Str} {c : List (Int × Int)} {das : List Da} {d : Da} {Rl : List Da → Da → Prop} (hm : (m == ("chances" : Str)) = false) (h : XD C te ds (.tab c)) (ha : AD C ta ds das) (hr : Rl (.tab c :: das) d) : XD C (tMeth C.T m (spR C Rl) [] E te ta) ds d := fun G0 H0 G H σ e Q q =>
  h G0 H0 G H σ e _ fun v G1 H1 s1 r1 => by
    have r1' := r1
    obtain ⟨a, dx, l, e1, e2, e3⟩ := r1'
    refine ⟨a, dx, _, e1, s1.s _ _ e2, by simp only [List.lookup, hm], ha G0 H0 G1 H1 σ (e.step s1) _ fun vs G2 H2 s2 r2 => ?_⟩
    rw [List.append_nil]
    exact ⟨.tab c :: das, d, G2, s2.s, .cons (r1.mono s2.g) r2, hr, fun v G3 H3 s3 r3 => q v G3 H3 ((s1.trans s2).trans s3) r3⟩
theorem xd_methP {m : Str} {n : Int} {r : List (Int × Int × Int)} {das : List Da} {d : Da} {Rl : List Da → Da → Prop} (hm : (m == ("age" : Str)) = false) (hm2 : (m == ("rows" : Str)) = false) (h : XD C te ds (.ple n r)) (ha : AD C ta ds das) (hr : Rl (.ple n r :: das) d) : XD C (tMeth C.P m (spR C Rl) [] E te ta) ds d := fun G0 H0 G H σ e Q q =>
  h G0 H0 G H σ e _ fun v G1 H1 s1 r1 => by
    have r1' := r1
    obtain ⟨a, dx, l, e1, e2, e3⟩ := r1'
    refine ⟨a, dx, _, e1, s1.s _ _ e2, by simp only [List.lookup, hm, hm2], ha G0 H0 G1 H1 σ (e.step s1) _ fun vs G2 H2 s2 r2 => ?_⟩
    rw [List.append_nil]
    exact ⟨.ple n r :: das, d, G2, s2.s, .cons (r1.mono s2.g) r2, hr, fun v G3 H3 s3 r3 => q v G3 H3 ((s1.trans s2).trans s3) r3⟩
/-- as Rp, the object and its list new since Hc -/
def RpF (C : Kx) (Hc G : Hp) (v : V) : Da → Prop
  | .pd d => Dp C.K G v d
  | .tab c => ∃ a dx l, v = .ref a ∧ G a = some (.ins C.T dx [("chances", .ref l)]) ∧ Dp C.K G (.ref l) (.list (c.map pD)) ∧ Hc l = none ∧ Hc a = none
  | .ple n r => ∃ a dx l, v = .ref a ∧ G a = some (.ins C.P dx [("age", .int n), ("rows", .ref l)]) ∧ Dp C.K G (.ref l) (.list (r.map rD)) ∧ Hc l = none ∧ Hc a = none
  | .exc _ => False
theorem RpF.rp {Hc G : Hp} {v : V} : ∀ {d : Da}, RpF C Hc G v d → Rp C G v d
  | .pd _, h => h
  | .tab _, ⟨a, dx, l, e1, e2, e3, _, _⟩ => ⟨a, dx, l, e1, e2, e3⟩
  | .ple _ _, ⟨a, dx, l, e1, e2, e3, _, _⟩ => ⟨a, dx, l, e1, e2, e3⟩
  | .exc _, h => h.elim
/-- the promise of an __init__ -/
def spI (C : Kx) (A : Addr) (Rl : List Da → Da → Prop) : Sp := fun vs H Q _ => ∃ das d Gc Hc x dx ws, vs = .ref x :: ws ∧ H = upd (upd Hc dx (.own x)) x (.ins A dx []) ∧ Hc x = none ∧ Hc dx = none ∧ dx ≠ x ∧ Ex Gc Hc ∧ RpAll C Gc ws das ∧ Rl das d ∧
  ∀ G' H', Stp Gc Hc G' H' → RpF C Hc G' (.ref x) d → Q .non H'
theorem xd_make {A : Addr} {das : List Da} {d : Da} {Rl : List Da → Da → Prop} (ha : AD C ta ds das) (hr : Rl das d) : XD C (tMake A (spI C A Rl) [] E ta) ds d := fun G0 H0 G H σ e Q q =>
  ha G0 H0 G H σ e _ fun vs G1 H1 s1 r1 x dx hx hdx ne => by
    rw [List.append_nil]
    exact ⟨das, d, G1, H1, x, dx, vs, rfl, rfl, hx, hdx, ne, s1.s, r1, hr, fun G2 H2 s2 r2 => ⟨rfl, q _ G2 H2 (s1.trans s2) r2.rp⟩⟩
/-- self.f = a number; = a new list -/
theorem En.fld {G0 H0 G H : Hp} {σ : L2.St} {i : Nat} {A : Addr} {fs : List (Str × PyData)} {f : Str} {v : V} {d : PyData} {l dx : Addr} {vs : List (Str × V)} (e : En C G0 H0 G H σ ds) (hd : ds[i]? = some (.ob A l fs)) (hs : σ[i]? = some (some (.ref l))) (hl : H l = some (.ins A dx vs)) (hf : FsAt C.K H0 G vs fs) (h0 : H0 l = none) (hg : G l = none)
    (r : Dp C.K G v d) (hv : ∀ l, v = .ref l → H0 l = none) (n : ∀ p ∈ fs, p.1 ≠ f) (only : ∀ (j : Nat) (A' x' : Addr) (fs' : List (Str × PyData)), ds[j]? = some (.ob A' x' fs') → j = i) : En C G0 H0 G (upd H l (.ins A dx (putF f v vs))) σ (ds.set i (.ob A l (fs ++ [(f, d)]))) := by
  have hi : i < ds.length := (List.getElem?_eq_some_iff.mp hd).1
  have hi0 : ∀ {j : Nat} {s : Sl}, (ds.set i (.ob A l (fs ++ [(f, d)])))[j]? = some s → (i = j ∧ s = .ob A l (fs ++ [(f, d)])) ∨ (i ≠ j ∧ ds[j]? = some s) := fun {j s} h => by
    by_cases q : i = j
    · subst q
      rw [List.getElem?_set_self hi] at h
      cases h
      exact .inl ⟨rfl, rfl⟩
    · rw [List.getElem?_set_ne q] at h
      exact .inr ⟨q, h⟩
  refine ⟨e.stp.mut h0 hg, e.s0, by rw [List.length_set]; exact e.len, fun j d h => ?_, fun j zs h => ?_, fun j A' x' fs' h => ?_, fun j k us zs m h1 h2 h3 h4 => ?_, e.nl.set0 (Ex.refl _) (fun _ z => by cases z) (fun _ z => by cases z) fun a vs' hg' hh _ => ⟨hg', ?_⟩⟩
  · rcases hi0 h with ⟨_, z⟩ | ⟨q, h⟩
    · cases z
    · exact e.va j d h
  · rcases hi0 h with ⟨_, z⟩ | ⟨q, h⟩
    · cases z
    · obtain ⟨l2, vs2, y1, y2, y3, y4, y5⟩ := e.ow j zs h
      refine ⟨l2, vs2, y1, y2, y3, ?_, y5⟩
      rw [upd_ne]
      · exact y4
      · rintro rfl
        rw [hl] at y4
        cases y4
  · rcases hi0 h with ⟨q, z⟩ | ⟨q, h⟩
    · cases z
      subst q
      exact ⟨dx, _, hs, h0, hg, upd_same, hf.put r hv n⟩
    · exact absurd (only j A' x' fs' h).symm q
  · have g : ∀ {j : Nat} {us : List PyData}, (ds.set i (.ob A l (fs ++ [(f, d)])))[j]? = some (.ow us) → ds[j]? = some (.ow us) := fun {j us} h => by
      rcases hi0 h with ⟨_, z⟩ | ⟨_, h⟩
      · cases z
      · exact h
    exact e.di j k _ _ m (g h1) (g h2) h3 h4
  · rw [upd_ne (fun z => by rw [z, hl] at hh; cases hh)]
    exact hh
def OnlyOb (ds : List Sl) (i : Nat) : Prop := ∀ (j : Nat) (A' x' : Addr) (fs' : List (Str × PyData)), ds[j]? = some (.ob A' x' fs') → j = i
theorem sd_fldI {R : DE} {tv : TE} {i : Nat} {A l : Addr} {fs : List (Str × PyData)} {f : Str} {n : Int} (hd : ds[i]? = some (.ob A l fs)) (cl : Cls C.K A) (na : NoAttr C.K A f) (hz : fs.length < 1000) (h : XD C tv ds (dI n)) (hn : ∀ p ∈ fs, p.1 ≠ f) (only : OnlyOb ds i)
    (k : R.nx (ds.set i (.ob A l (fs ++ [(f, .int n)])))) : SD C W (sFld C.K (tVar i) tv f) ds R := fun G0 H0 G H σ D e kn kr ko kb kc kx =>
  h G0 H0 G H σ e _ fun v G1 H1 s1 r1 => by
    have e1 := e.step s1
    obtain ⟨dx, vs, z1, z2, z3, z4, z5⟩ := e1.ob i A l fs hd
    refine ⟨_, z1, l, A, dx, vs, rfl, z4, cl, na, ?_, kn _ _ G1 _ k s1.g (e1.fld hd z1 z4 z5 z2 z3 r1 (fun l q => by rw [dp_int r1] at q; cases q) hn only)⟩
    rw [Paired.length z5]
    exact hz
theorem sd_fldL {R : DE} {tv : TE} {i : Nat} {A l : Addr} {fs : List (Str × PyData)} {f : Str} {xs : List PyData} (hd : ds[i]? = some (.ob A l fs)) (cl : Cls C.K A) (na : NoAttr C.K A f) (hz : fs.length < 1000) (h : XL C tv ds xs) (hn : ∀ p ∈ fs, p.1 ≠ f) (only : OnlyOb ds i)
    (k : R.nx (ds.set i (.ob A l (fs ++ [(f, .list xs)])))) : SD C W (sFld C.K (tVar i) tv f) ds R := fun G0 H0 G H σ D e kn kr ko kb kc kx =>
  h G0 H0 G H σ e _ fun m ws G1 H1 s1 h1 h2 h3 r1 => by
    have s2 := s1.show h1 h2 h3
    have e1 := e.step s2
    obtain ⟨dx, vs, z1, z2, z3, z4, z5⟩ := e1.ob i A l fs hd
    refine ⟨_, z1, l, A, dx, vs, rfl, z4, cl, na, ?_, kn _ _ _ _ k s2.g (e1.fld hd z1 z4 z5 z2 z3 (Dp.lst (sq_of upd_same) (dpAll_mono (Ex.new h2) _ _ r1)) (fun l q => by cases q; exact fresh_back e.stp.h h1) hn only)⟩
    rw [Paired.length z5]
    exact hz
end
/-! ### defs -/
def vaS (das : List Da) (n : Nat) : List Sl := das.map .va ++ List.replicate (n - das.length) .un
theorem rpa_len {C : Kx} {G : Hp} : ∀ {vs : List V} {das : List Da}, RpAll C G vs das → vs.length = das.length
  | _, _, .nil => rfl
  | _, _, .cons _ t => by
    show _ + 1 = _ + 1
    rw [rpa_len t]
theorem rpa_get {C : Kx} {G : Hp} : ∀ {vs : List V} {das : List Da} {i : Nat} {d : Da}, RpAll C G vs das → das[i]? = some d → ∃ v, vs[i]? = some v ∧ Rp C G v d
  | _, _, _, _, .nil, h => by simp at h
  | _, _, 0, d, .cons h t, e => by
    have e' : _ = d := Option.some.inj e
    subst e'
    exact ⟨_, rfl, h⟩
  | _, _, i + 1, d, .cons h t, e => rpa_get (i := i) t (by simpa using e)
theorem vaS_get {das : List Da} {n i : Nat} {s : Sl} (h : (vaS das n)[i]? = some s) : (∃ d, das[i]? = some d ∧ s = .va d) ∨ s = .un := by
  unfold vaS at h
  by_cases hi : i < (das.map Sl.va).length
  · rw [List.getElem?_append_left hi, List.getElem?_map] at h
    cases q : das[i]? with
    | none => rw [q] at h; cases h
    | some d =>
      rw [q] at h
      cases h
      exact .inl ⟨d, rfl, rfl⟩
  · rw [List.getElem?_append_right (by omega), List.getElem?_replicate] at h
    split at h
    · cases h; exact .inr rfl
    · cases h
theorem En.start {C : Kx} {G H : Hp} {vs : List V} {das : List Da} {N : List Str} (s : Ex G H) (r : RpAll C G vs das) : En C G H G H (L2.start N vs) (vaS das N.length) := by
  have hl := rpa_len r
  refine ⟨.refl s, s, ?_, fun i d h => ?_, fun i xs h => ?_, fun i A x fs h => ?_, fun i j xs ys l h1 => ?_, fun i rs h => ?_⟩
  · unfold L2.start vaS
    rw [List.length_append, List.length_append, List.length_map, List.length_map, List.length_replicate, List.length_replicate, hl]
  · rcases vaS_get h with ⟨d', h', e⟩ | e
    · cases e
      obtain ⟨v, h1, h2⟩ := rpa_get r h'
      refine ⟨v, ?_, h2⟩
      unfold L2.start
      have hi : i < vs.length := (List.getElem?_eq_some_iff.mp h1).1
      rw [List.getElem?_append_left (by rw [List.length_map]; exact hi), List.getElem?_map, h1]
      rfl
    · cases e
  · rcases vaS_get h with ⟨d', h', e⟩ | e <;> cases e
  · rcases vaS_get h with ⟨d', h', e⟩ | e <;> cases e
  · rcases vaS_get h1 with ⟨d', h', e⟩ | e <;> cases e
  · rcases vaS_get h with ⟨d', h', e⟩ | e <;> cases e
section
variable {P : PySem.Program} {w : PySem.World} {C : Kx} {mg : Str → Option PySem.Value} {base : PySem.Heap}
/-- a def by what its body tells -/
theorem fn_sd {x qual : Str} {st : PySem.Stmt} {f : Addr} {fd : PySem.FuncData} {N ps : List Str} {k : Nat} {Rl : List Da → Da → Prop} (F : Fun C.K x qual st f fd) (S : FnScope N ps (defScope st)) (len : ∀ das d, Rl das d → das.length = ps.length)
    (hb : ∀ (cdv : PySem.Value) (A : PySem.Around) (outer : List PySem.Env) (s : PySem.Shared) (H : Hp) (E : XK), Room k (A.deeper (PyProof.Rows.envOfC qual (defScope st) s.heap.objs.size f cdv)) →
      ∃ t, PSs (cxOf CX0 P w C.K mg base N qual (defScope st) f cdv A outer s H E).nox (defBody st) t ∧ ∀ das d, Rl das d → SD C (fun c o _ H => E c o H) t (vaS das N.length) { nx := fun _ => d = .pd .none, rt := fun d' => d' = d, ro := fun xs => d = .pd (.list xs) }) : FnOk P w C.K mg base CX0 (k + 1) f fd ps (spR C Rl) :=
  F.ok S (fun vs H Q E ⟨das, d, G, _, r, hr, _⟩ => by rw [rpa_len r]; exact len das d hr) fun cdv A outer s H vs Q E hroom ⟨das, d, G, sG, r, hr, q⟩ => by
    obtain ⟨t, h1, h2⟩ := hb cdv A outer s H E hroom
    refine ⟨t, h1, h2 das d hr G H G H _ _ (.start sG r) (fun ds' σ' G' H' e1 _ e2 => ?_) (fun d' v G' H' e1 e2 e3 => ?_) (fun xs l vs G' H' e1 e2 e3 e4 e5 e6 => ?_) (fun _ _ _ _ h => h.elim) (fun _ _ _ _ h => h.elim) (fun _ _ _ _ _ _ _ h => h.elim)⟩
    · have e1 : d = .pd .none := e1
      subst e1
      exact q _ G' H' e2.stp Dp.non
    · have e1 : d' = d := e1
      subst e1
      exact q v G' H' e2 e3
    · have e1 : d = .pd (.list xs) := e1
      subst e1
      exact q _ _ H' (e2.show e3 e4 e5) (Dp.lst (sq_of upd_same) (dpAll_mono (Ex.new e4) _ _ e6))
/-- .. that gives out a new list -/
theorem fn_so {x qual : Str} {st : PySem.Stmt} {f : Addr} {fd : PySem.FuncData} {N ps : List Str} {k : Nat} {Rl : List Da → List PyData → Prop} (F : Fun C.K x qual st f fd) (S : FnScope N ps (defScope st)) (len : ∀ das d, Rl das d → das.length = ps.length)
    (hb : ∀ (cdv : PySem.Value) (A : PySem.Around) (outer : List PySem.Env) (s : PySem.Shared) (H : Hp) (E : XK), Room k (A.deeper (PyProof.Rows.envOfC qual (defScope st) s.heap.objs.size f cdv)) →
      ∃ t, PSs (cxOf CX0 P w C.K mg base N qual (defScope st) f cdv A outer s H E).nox (defBody st) t ∧ ∀ das xs, Rl das xs → SD C (fun c o _ H => E c o H) t (vaS das N.length) { nx := fun _ => False, ro := fun xs' => xs' = xs }) : FnOk P w C.K mg base CX0 (k + 1) f fd ps (spO C Rl) :=
  F.ok S (fun vs H Q E ⟨das, d, G, _, r, hr, _⟩ => by rw [rpa_len r]; exact len das d hr) fun cdv A outer s H vs Q E hroom ⟨das, d, G, sG, r, hr, q⟩ => by
    obtain ⟨t, h1, h2⟩ := hb cdv A outer s H E hroom
    refine ⟨t, h1, h2 das d hr G H G H _ _ (.start sG r) (fun _ _ _ _ h => h.elim) (fun _ _ _ _ h => h.elim) (fun xs l vs G' H' e1 e2 e3 e4 e5 e6 => ?_) (fun _ _ _ _ h => h.elim) (fun _ _ _ _ h => h.elim) (fun _ _ _ _ _ _ _ h => h.elim)⟩
    have e1 : xs = d := e1
    subst e1
    exact q l vs G' H' e2 e3 e4 e5 e6
end
/-! ### an __init__ -/
def FD (C : Kx) (A : Addr) (d : Da) (fs : List (Str × PyData)) : Prop := (∃ c, A = C.T ∧ d = .tab c ∧ fs = ([(("chances" : Str), PyData.list (c.map pD))] : List (Str × PyData))) ∨ ∃ n r, A = C.P ∧ d = .ple n r ∧ fs = ([(("age" : Str), PyData.int n), (("rows" : Str), PyData.list (r.map rD))] : List (Str × PyData))
theorem fd_rp {C : Kx} {A x dx : Addr} {H0 G : Hp} {d : Da} {vs : List (Str × V)} {fs : List (Str × PyData)} (h : FD C A d fs) (hx : G x = some (.ins A dx vs)) (h0 : H0 x = none) (hf : FsAt C.K H0 G vs fs) : RpF C H0 G (.ref x) d := by
  rcases h with ⟨c, rfl, rfl, rfl⟩ | ⟨n, r, rfl, rfl, rfl⟩
  · cases hf with
    | cons h1 t =>
      cases t
      obtain ⟨e1, e2, e3⟩ := h1
      rename_i p
      obtain ⟨f, v⟩ := p
      have e1 : f = "chances" := e1
      subst e1
      obtain ⟨l, ws, e4, e5, e6⟩ := dp_lst e2
      have e4 : v = .ref l := e4
      subst e4
      exact ⟨x, dx, l, rfl, hx, e2, e3 l rfl, h0⟩
  · cases hf with
    | cons h1 t =>
      cases t with
      | cons h2 t =>
        cases t
        obtain ⟨e1, e2, e3⟩ := h1
        obtain ⟨g1, g2, g3⟩ := h2
        rename_i p q
        obtain ⟨f, v⟩ := p
        obtain ⟨f', v'⟩ := q
        have e1 : f = "age" := e1
        have g1 : f' = "rows" := g1
        subst e1 g1
        have e4 : v = .int n := dp_int e2
        subst e4
        obtain ⟨l, ws, g4, g5, g6⟩ := dp_lst g2
        have g4 : v' = .ref l := g4
        subst g4
        exact ⟨x, dx, l, rfl, hx, g2, g3 l rfl, h0⟩
theorem En.startI {C : Kx} {G Hc : Hp} {vs : List V} {das : List Da} {N : List Str} {A x dx : Addr} (s : Ex G Hc) (r : RpAll C G vs das) (hx : Hc x = none) (hd : Hc dx = none) (ne : dx ≠ x) :
    En C G Hc G (upd (upd Hc dx (.own x)) x (.ins A dx [])) (some (V.ref x) :: (vs.map some ++ List.replicate (N.length - (vs.length + 1)) none)) (.ob A x [] :: vaS das (N.length - 1)) := by
  have hxd : (upd Hc dx (.own x)) x = none := by rw [upd_ne (Ne.symm ne)]; exact hx
  have e1 : Ex Hc (upd (upd Hc dx (.own x)) x (.ins A dx [])) := (Ex.new hd).trans (Ex.new hxd)
  have en := En.start (C := C) (N := (List.replicate (N.length - 1) "")) s r
  rw [List.length_replicate] at en
  have hst : L2.start (List.replicate (N.length - 1) "") vs = vs.map some ++ List.replicate (N.length - (vs.length + 1)) none := by
    unfold L2.start
    rw [List.length_replicate, Nat.sub_sub, Nat.add_comm 1]
  rw [hst] at en
  refine ⟨⟨Ex.refl _, e1, s.trans e1, fun a h1 h2 => absurd h1 h2⟩, s, ?_, fun i d h => ?_, fun i xs h => ?_, fun i A' x' fs h => ?_, fun i j xs ys l h1 h2 h3 h4 => ?_, fun i rs h => ?_⟩
  · show _ + 1 = _ + 1
    rw [en.len]
  · cases i with
    | zero => cases h
    | succ i => exact en.va i d h
  · cases i with
    | zero => cases h
    | succ i =>
      rcases vaS_get (show (vaS das (N.length - 1))[i]? = some (.ow xs) from h) with ⟨d', h', e⟩ | e <;> cases e
  · cases i with
    | zero =>
      cases h
      exact ⟨dx, [], rfl, hx, fresh_back s hx, upd_same, .nil⟩
    | succ i =>
      rcases vaS_get (show (vaS das (N.length - 1))[i]? = some (.ob A' x' fs) from h) with ⟨d', h', e⟩ | e <;> cases e
  · cases i with
    | zero => cases h1
    | succ i =>
      rcases vaS_get (show (vaS das (N.length - 1))[i]? = some (.ow xs) from h1) with ⟨d', h', e⟩ | e <;> cases e
  · cases i with
    | zero => cases h
    | succ i =>
      rcases vaS_get (show (vaS das (N.length - 1))[i]? = some (.nl rs) from h) with ⟨d', h', e⟩ | e <;> cases e
section
variable {P : PySem.Program} {w : PySem.World} {C : Kx} {mg : Str → Option PySem.Value} {base : PySem.Heap}
theorem fn_si {x qual : Str} {st : PySem.Stmt} {f A0 : Addr} {fd : PySem.FuncData} {N ps : List Str} {k : Nat} {Rl : List Da → Da → Prop} (F : Fun C.K x qual st f fd) (S : FnScope N ps (defScope st)) (hN : 0 < N.length) (len : ∀ das d, Rl das d → das.length + 1 = ps.length)
    (hb : ∀ (cdv : PySem.Value) (A : PySem.Around) (outer : List PySem.Env) (s : PySem.Shared) (H : Hp) (E : XK), Room k (A.deeper (PyProof.Rows.envOfC qual (defScope st) s.heap.objs.size f cdv)) →
      ∃ t, PSs (cxOf CX0 P w C.K mg base N qual (defScope st) f cdv A outer s H E).nox (defBody st) t ∧ ∀ das d x, Rl das d → SD C (fun c o _ H => E c o H) t (.ob A0 x [] :: vaS das (N.length - 1)) { nx := fun ds' => ∃ fs, ds'[0]? = some (.ob A0 x fs) ∧ FD C A0 d fs }) : FnOk P w C.K mg base CX0 (k + 1) f fd ps (spI C A0 Rl) :=
  F.ok S (fun vs H Q E ⟨das, d, Gc, Hc, x, dx, ws, e, _, _, _, _, _, r, hr, _⟩ => by rw [e]; show ws.length + 1 = _; rw [rpa_len r]; exact len das d hr) fun cdv A outer s H vs Q E hroom ⟨das, d, Gc, Hc, x, dx, ws, e1, e2, hx, hd, ne, sG, r, hr, q⟩ => by
    obtain ⟨t, h1, h2⟩ := hb cdv A outer s H E hroom
    subst e1 e2
    refine ⟨t, h1, ?_⟩
    have en := En.startI (N := N) (A := A0) sG r hx hd ne
    have hst : L2.start N (.ref x :: ws) = some (V.ref x) :: (ws.map some ++ List.replicate (N.length - (ws.length + 1)) none) := rfl
    rw [hst]
    refine h2 das d x hr Gc Hc Gc _ _ _ en (fun ds' σ' G' H' e1 _ e2 => ?_) (fun _ _ _ _ h => h.elim) (fun _ _ _ _ _ h => h.elim) (fun _ _ _ _ h => h.elim) (fun _ _ _ _ h => h.elim) (fun _ _ _ _ _ _ _ h => h.elim)
    obtain ⟨fs, h3, h4⟩ := e1
    obtain ⟨dx', vs', z1, z2, z3, z4, z5⟩ := e2.ob 0 A0 x fs h3
    exact q _ H' (e2.stp.show z2 z3 z4) (fd_rp h4 upd_same z2 (z5.mono (Ex.new z3)))
end
/-! ### a op b op c op d, as a test -/
def tChain3 (r r' r'' : R2) (ta tb tc td : TE) : TE := fun σ H Q => ta σ H fun x H1 => tb σ H1 fun y H2 => r x y H2 fun z H3 => ∃ k, z = .bl k ∧
  (if k = true then tc σ H3 fun w' H4 => r' y w' H4 fun z2 H5 => ∃ k2, z2 = .bl k2 ∧ (if k2 = true then td σ H5 fun u' H6 => r'' w' u' H6 Q else Q (.bl false) H5) else Q (.bl false) H3)
section
open PySem PySem.Spec PyProof.Rows
theorem pt_chain3 {X : Cx} {op op' op'' : CmpOp} {r r' r'' : R2} {a b c d : Expr} {ta tb tc td : TE} {pos : Pos} (ho : OpR X (compareOp op) r) (ho' : OpR X (compareOp op') r') (ho'' : OpR X (compareOp op'') r'') (ha : PE X a ta) (hb : PE X b tb) (hc : PE X c tc) (hd : PE X d td)
    (hm : lastMarks [op, op', op''] [b, c, d] = false := by with_unfolding_all rfl) : PT X (.Compare a [op, op', op''] [b, c, d] pos) (tTest (tChain3 r r' r'' ta tb tc td)) := by
  refine ⟨fun pins s σ H Q I h => ?_⟩
  refine isTrue_chain (thn (ha.run pins s σ H _ I h) fun v s1 ⟨x, H1, I1, r1, q1⟩ => test_link (thn (hb.run pins s1 σ H1 _ I1 q1) fun u s2 ⟨y, H2, I2, r2, q2⟩ =>
    thn (ho pins s2 σ H2 x y v u _ I2 r1 r2 q2) fun d s3 ⟨z, H3, I3, r3, k, e, q3⟩ => ?_)) hm
  subst e
  cases r3
  refine wpAny_truthy_bool ?_
  cases k with
  | false =>
    obtain ⟨k', e', q'⟩ := q3
    cases e'
    exact ite_ff ⟨H3, I3, q'⟩
  | true =>
    refine ite_tt (test_link (thn (hc.run pins s3 σ H3 _ I3 q3) fun w' s4 ⟨z', H4, I4, r4, q4⟩ => thn (ho' pins s4 σ H4 y z' u w' _ I4 r2 r4 q4) fun d' s5 ⟨z2, H5, I5, r5, k2, e2, q5⟩ => ?_))
    subst e2
    cases r5
    refine wpAny_truthy_bool ?_
    cases k2 with
    | false =>
      obtain ⟨k', e', q'⟩ := q5
      cases e'
      exact ite_ff ⟨H5, I5, q'⟩
    | true =>
      refine ite_tt (test_last (thn (hd.run pins s5 σ H5 _ I5 q5) fun w2 s6 ⟨z3, H6, I6, r6, q6⟩ => thn (ho'' pins s6 σ H6 z' z3 w' w2 _ I6 r4 r6 q6) fun d3 s7 ⟨z4, H7, I7, r7, k4, e4, q7⟩ => ?_))
      subst e4
      cases r7
      exact wpAny_truthy_bool ⟨H7, I7, q7⟩
end
theorem xd_chain3 {C : Kx} {ds : List Sl} {ta tb tc td : TE} {a b c d : Da} {r r' r'' : R2} {k k' k'' : Bool} (ha : XD C ta ds a) (hb : XD C tb ds b) (hr : RD C r a b (dB k)) (hc : k = true → XD C tc ds c) (hr' : k = true → RD C r' b c (dB k')) (hd : k = true → k' = true → XD C td ds d) (hr'' : k = true → k' = true → RD C r'' c d (dB k'')) :
    XD C (tChain3 r r' r'' ta tb tc td) ds (dB (k && (k' && k''))) := fun G0 H0 G H σ e Q q =>
  ha G0 H0 G H σ e _ fun x G1 H1 s1 r1 => hb G0 H0 G1 H1 σ (e.step s1) _ fun y G2 H2 s2 r2 => hr G2 H2 x y s2.s (r1.mono s2.g) r2 _ fun v G3 H3 s3 r3 => by
    have ev := dp_bl r3
    subst ev
    refine ⟨k, rfl, ?_⟩
    cases k with
    | true =>
      rw [if_pos rfl]
      refine hc rfl G0 H0 G3 H3 σ (((e.step s1).step s2).step s3) _ fun z G4 H4 s4 r4 => hr' rfl G4 H4 y z s4.s (r2.mono (s3.g.trans s4.g)) r4 _ fun v G5 H5 s5 r5 => ?_
      have ev := dp_bl r5
      subst ev
      refine ⟨k', rfl, ?_⟩
      have s25 := (((s1.trans s2).trans s3).trans s4).trans s5
      cases k' with
      | true =>
        rw [if_pos rfl]
        exact hd rfl rfl G0 H0 G5 H5 σ (((((e.step s1).step s2).step s3).step s4).step s5) _ fun u G6 H6 s6 r6 => hr'' rfl rfl G6 H6 z u s6.s (r4.mono (s5.g.trans s6.g)) r6 Q fun v G7 H7 s7 r7 => q v G7 H7 ((s25.trans s6).trans s7) r7
      | false =>
        rw [if_neg Bool.false_ne_true]
        exact q _ G5 H5 s25 (Dp.bl false)
    | false =>
      rw [if_neg Bool.false_ne_true]
      exact q _ G3 H3 ((s1.trans s2).trans s3) (Dp.bl false)

/-! ### an own list lent for a while -/
def hide (G : Hp) (l : Addr) : Hp := fun a => if a = l then none else G a
theorem hide_ne {G : Hp} {l a : Addr} (h : a ≠ l) : hide G l a = G a := if_neg h
theorem hide_self {G : Hp} {l : Addr} : hide G l l = none := if_pos rfl
mutual
def noLst : PyData → Bool
  | .none | .bool _ | .int _ | .str _ => true
  | .list _ => false
  | .tuple xs => noLsts xs
  | .dict _ => false
def noLsts : List PyData → Bool
  | [] => true
  | x :: xs => noLst x && noLsts xs
end
theorem sqt_hide {K : PySem.W.Frag} {G : Hp} {l a : Addr} {xs vs : List V} (hl : G l = some (.lst vs)) (h : SqT K G a xs) : SqT K (hide G l) a xs := by
  rcases h with (h | ⟨o, h⟩) | h
  · exact .inl (.inl (by rw [hide_ne (by rintro rfl; rw [hl] at h; cases h)]; exact h))
  · exact .inl (.inr ⟨o, by rw [hide_ne (by rintro rfl; rw [hl] at h; cases h)]; exact h⟩)
  · exact .inr h
theorem sql_hide {K : PySem.W.Frag} {G : Hp} {l a : Addr} {xs : List V} (ne : a ≠ l) (h : SqL K G a xs) : SqL K (hide G l) a xs := by
  rcases h with (h | ⟨o, h⟩) | h
  · exact .inl (.inl (by rw [hide_ne ne]; exact h))
  · exact .inl (.inr ⟨o, by rw [hide_ne ne]; exact h⟩)
  · exact .inr h
mutual
theorem dp_hide {K : PySem.W.Frag} {G : Hp} {l : Addr} {vs : List V} (hl : G l = some (.lst vs)) : ∀ (d : PyData) (v : V), noLst d = true → Dp K G v d → Dp K (hide G l) v d
  | _, _, _, .non => .non
  | _, _, _, .bl b => .bl b
  | _, _, _, .int i => .int i
  | _, _, _, .str x => .str x
  | .list ds, _, n, .lst h ha => by simp [noLst] at n
  | .tuple ds, _, n, .tup h ha => .tup (sqt_hide hl h) (dpAll_hide hl ds _ (by simpa [noLst] using n) ha)
theorem dpAll_hide {K : PySem.W.Frag} {G : Hp} {l : Addr} {vs : List V} (hl : G l = some (.lst vs)) : ∀ (ds : List PyData) (ws : List V), noLsts ds = true → DpAll K G ws ds → DpAll K (hide G l) ws ds
  | _, _, _, .nil => .nil
  | d :: ds, _, n, .cons h t => by
    have n' : noLst d = true ∧ noLsts ds = true := by simpa [noLsts] using n
    exact .cons (dp_hide hl d _ n'.1 h) (dpAll_hide hl ds _ n'.2 t)
end
theorem Stp.hide {G H G' H' : Hp} {l : Addr} {vs : List V} (s : Stp (upd G l (.lst vs)) H G' H') (hg : G l = none) : Stp G H (hide G' l) H' :=
  ⟨fun a o e => by
    have ne : a ≠ l := ne_of_none e hg
    rw [hide_ne ne]
    exact s.g a o (by rw [upd_ne ne]; exact e), s.h, fun a o e => by
    by_cases q : a = l
    · subst q; rw [hide_self] at e; cases e
    · rw [hide_ne q] at e; exact s.s a o e, fun a h1 h2 => by
    by_cases q : a = l
    · subst q; rw [hide_self] at h2; exact absurd rfl h2
    · rw [hide_ne q] at h2; exact s.n a (by rw [upd_ne q]; exact h1) h2⟩
theorem En.lend {C : Kx} {G0 H0 G H : Hp} {σ : L2.St} {ds : List Sl} {i : Nat} {xs : List PyData} (e : En C G0 H0 G H σ ds) (hd : ds[i]? = some (.ow xs)) :
    ∃ l vs, σ[i]? = some (some (.ref l)) ∧ H l = some (.lst vs) ∧ G l = none ∧ DpAll C.K G vs xs ∧ En C G0 H0 (upd G l (.lst vs)) H σ (ds.set i (.va (.pd (.list xs)))) := by
  obtain ⟨l, vs, z1, z2, z3, z4, z5⟩ := e.ow i xs hd
  obtain ⟨G', s1, s2, e'⟩ := e.shown hd
  refine ⟨l, vs, z1, z4, z3, z5, ?_⟩
  have hi : i < ds.length := (List.getElem?_eq_some_iff.mp hd).1
  have hi0 : ∀ {j : Nat} {s : Sl}, (ds.set i (.va (.pd (.list xs))))[j]? = some s → (i = j ∧ s = .va (.pd (.list xs))) ∨ (i ≠ j ∧ ds[j]? = some s) := fun {j s} h => by
    by_cases q : i = j
    · subst q
      rw [List.getElem?_set_self hi] at h
      cases h
      exact .inl ⟨rfl, rfl⟩
    · rw [List.getElem?_set_ne q] at h
      exact .inr ⟨q, h⟩
  have st := e.stp.show z2 z3 z4
  have ex : Ex G (upd G l (.lst vs)) := Ex.new z3
  refine ⟨st, e.s0, by rw [List.length_set]; exact e.len, fun j d h => ?_, fun j zs h => ?_, fun j A x fs h => ?_, e'.di, e.nl.set0 ex (fun _ z => by cases z) (fun _ z => by cases z) fun a vs hg hh hn => ⟨?_, hh⟩⟩
  · rcases hi0 h with ⟨q, z⟩ | ⟨q, h⟩
    · cases z
      subst q
      exact ⟨_, z1, .lst (sq_of upd_same) (dpAll_mono ex _ _ z5)⟩
    · obtain ⟨v, h1, h2⟩ := e.va j d h
      exact ⟨v, h1, h2.mono ex⟩
  · rcases hi0 h with ⟨_, z⟩ | ⟨q, h⟩
    · cases z
    · obtain ⟨l2, vs2, y1, y2, y3, y4, y5⟩ := e.ow j zs h
      refine ⟨l2, vs2, y1, y2, ?_, y4, dpAll_mono ex _ _ y5⟩
      rw [upd_ne]
      · exact y3
      · rintro rfl
        exact q (e.di i j _ _ _ hd h z1 y1)
  · rcases hi0 h with ⟨_, z⟩ | ⟨q, h⟩
    · cases z
    · obtain ⟨dx, vs2, y1, y2, y3, y4, y5⟩ := e.ob j A x fs h
      refine ⟨dx, vs2, y1, y2, ?_, y4, y5.mono ex⟩
      rw [upd_ne]
      · exact y3
      · rintro rfl
        rw [y4] at z4
        cases z4
  · rw [upd_ne (fun z => by rw [z] at hn; exact hn i _ hd z1)]
    exact hg
section
variable {C : Kx} {ds : List Sl} {te tb : TE} {ta : TA} {tt : TT} {E : XK} {W : WX} {R : DE}
theorem xd_lend (i : Nat) {xs : List PyData} {d : PyData} (hd : ds[i]? = some (.ow xs)) (n : noLst d = true) (h : XD C te (ds.set i (.va (.pd (.list xs)))) (.pd d)) : XD C te ds (.pd d) := fun G0 H0 G H σ e Q q => by
  obtain ⟨l, vs, z1, z4, z3, z5, e'⟩ := e.lend hd
  exact h G0 H0 _ H σ e' Q fun v G' H' s r => q v _ H' (s.hide z3) (dp_hide (s.g l _ upd_same) d v n r)
theorem td_lend (i : Nat) {xs : List PyData} {b : Bool} (hd : ds[i]? = some (.ow xs)) (h : TD C tt (ds.set i (.va (.pd (.list xs)))) b) : TD C tt ds b := fun G0 H0 G H σ e Q q => by
  obtain ⟨l, vs, z1, z4, z3, z5, e'⟩ := e.lend hd
  exact h G0 H0 _ H σ e' Q fun G' H' s => q _ H' (s.hide z3)
theorem noLsts_map {α : Type} (f : α → PyData) (h : ∀ x, noLst (f x) = true) : ∀ xs : List α, noLsts (xs.map f) = true
  | [] => by simp [noLsts]
  | x :: r => by simp [noLsts, h x, noLsts_map f h r]
theorem rpF_hide {Hc G : Hp} {v : V} {l : Addr} {vs : List V} (hl : G l = some (.lst vs)) (hc : Hc l ≠ none) : ∀ {d : Da}, (∀ p, d ≠ .pd p) → RpF C Hc G v d → Rp C (hide G l) v d
  | .pd p, n, _ => absurd rfl (n p)
  | .exc _, _, h => h.elim
  | .tab c, _, ⟨a, dx, m, e1, e2, e3, h1, h2⟩ => by
    have na : a ≠ l := by rintro rfl; exact hc h2
    have nm : m ≠ l := by rintro rfl; exact hc h1
    obtain ⟨m', ws, e4, e5, e6⟩ := dp_lst e3
    cases e4
    exact ⟨a, dx, m, e1, by rw [hide_ne na]; exact e2, .lst (sql_hide nm e5) (dpAll_hide hl _ _ (noLsts_map pD (fun p => by simp [pD, noLst, noLsts]) c) e6)⟩
  | .ple n r, _, ⟨a, dx, m, e1, e2, e3, h1, h2⟩ => by
    have na : a ≠ l := by rintro rfl; exact hc h2
    have nm : m ≠ l := by rintro rfl; exact hc h1
    obtain ⟨m', ws, e4, e5, e6⟩ := dp_lst e3
    cases e4
    exact ⟨a, dx, m, e1, by rw [hide_ne na]; exact e2, .lst (sql_hide nm e5) (dpAll_hide hl _ _ (noLsts_map rD (fun p => by simp [rD, noLst, noLsts]) r) e6)⟩
/-- an object made of an own list: the list stays one's own -/
theorem xd_makeO {A : Addr} {i : Nat} {xs : List PyData} {das : List Da} {d : Da} {Rl : List Da → Da → Prop} (hd : ds[i]? = some (.ow xs)) (ha : AD C ta (ds.set i (.va (.pd (.list xs)))) das) (hr : Rl das d) (n : ∀ p, d ≠ .pd p) : XD C (tMake A (spI C A Rl) [] E ta) ds d := fun G0 H0 G H σ e Q q => by
  obtain ⟨l, vs, z1, z4, z3, z5, e'⟩ := e.lend hd
  refine ha G0 H0 _ H σ e' _ fun ws G1 H1 s1 r1 x dx hx hdx ne => ?_
  rw [List.append_nil]
  refine ⟨das, d, G1, H1, x, dx, ws, rfl, rfl, hx, hdx, ne, s1.s, r1, hr, fun G2 H2 s2 r2 => ⟨rfl, q _ _ H2 ((s1.trans s2).hide z3) (rpF_hide ((s1.trans s2).g l _ upd_same) ?_ n r2)⟩⟩
  rw [s1.h l _ z4]
  exact fun z => nomatch z
/-- xs.clear() -/
theorem sd_clear {i : Nat} {xs : List PyData} (hd : ds[i]? = some (.ow xs)) (k : R.nx (ds.set i (.ow []))) : SD C W (tDrop (tBM0 C.K "list" rClear (tVar i))) ds R := fun G0 H0 G H σ D e kn kr ko kb kc kx => by
  obtain ⟨l, vs, z1, z2, z3, z4, z5⟩ := e.ow i xs hd
  exact ⟨_, z1, Or.inl ⟨rfl, vs, sq_of z4⟩, l, vs, rfl, rfl, z4, kn _ _ G _ k (Ex.refl _) (e.mut hd z1 .nil)⟩
/-- xs.pop() as a statement -/
theorem sd_pop {i : Nat} {xs : List PyData} (hd : ds[i]? = some (.ow xs)) (hz : xs ≠ []) (k : R.nx (ds.set i (.ow xs.dropLast))) : SD C W (tDrop (tBM0 C.K "list" rPop (tVar i))) ds R := fun G0 H0 G H σ D e kn kr ko kb kc kx => by
  obtain ⟨l, vs, z1, z2, z3, z4, z5⟩ := e.ow i xs hd
  have hl := dpa_len z5
  have hp : 0 < xs.length := List.length_pos_iff.mpr hz
  have hlt : vs.length - 1 < vs.length := by omega
  refine ⟨_, z1, Or.inl ⟨rfl, vs, sq_of z4⟩, l, vs, _, rfl, rfl, z4, List.getElem?_eq_getElem hlt, kn _ _ G _ k (Ex.refl _) (e.mut hd z1 ?_)⟩
  rw [List.dropLast_eq_take, List.dropLast_eq_take, hl]
  exact dpa_take _ z5
/-- xs[i] = e of an own list -/
theorem sd_setAt {i : Nat} {xs : List PyData} {ti : TE} {x : PyData} {k : Int} {j : Nat} (hd : ds[i]? = some (.ow xs)) (h : XD C te ds (.pd x)) (hi : XD C ti ds (dI k)) (hk : ixN xs.length k = some j) (kk : R.nx (ds.set i (.ow (xs.set j x)))) : SD C W (tAsg te (gSub (tVar i) ti rSetL)) ds R := fun G0 H0 G H σ D e kn kr ko kb kc kx => by
  refine h G0 H0 G H σ e _ fun v G1 H1 s1 r1 => ?_
  have e1 := e.step s1
  obtain ⟨l, vs, z1, z2, z3, z4, z5⟩ := e1.ow i xs hd
  refine ⟨_, z1, hi G0 H0 G1 H1 σ e1 _ fun w G2 H2 s2 r2 => ?_⟩
  have z5' := dpAll_mono s2.g _ _ z5
  refine ⟨l, vs, k, j, rfl, dp_int r2, s2.h _ _ z4, by rw [dpa_len z5]; exact hk, kn _ _ G2 _ kk (s1.g.trans s2.g) ((e1.step s2).mut hd z1 ?_)⟩
  have r1' := dp_mono s2.g _ _ r1
  clear hk kk z4 hd
  have st : ∀ (vs : List V) (xs : List PyData) (j : Nat), DpAll C.K G2 vs xs → DpAll C.K G2 (vs.set j v) (xs.set j x) := fun vs => by
    induction vs with
    | nil => intro xs j h; cases h; exact .nil
    | cons a r ih =>
      intro xs j h
      cases h with
      | cons h1 h2 =>
        cases j with
        | zero => exact .cons r1' h2
        | succ j => exact .cons h1 (ih _ j h2)
  exact st vs xs j z5'
/-! ### slices -/
def cutD (es : List PyData) (lo hi : Option Int) : List PyData := (es.drop (HT.sIx es.length 0 lo)).take (HT.sIx es.length es.length hi - HT.sIx es.length 0 lo)
def OD (C : Kx) (to : TO) (ds : List Sl) (o : Option Int) : Prop := ∀ (G0 H0 G H : Hp) (σ : L2.St), En C G0 H0 G H σ ds → ∀ Q : Option Int → Hp → Prop, (∀ G' H', Stp G H G' H' → Q o H') → to σ H Q
theorem od_none : OD C tNoPart ds none := fun G0 H0 G H σ e Q q => q G H (.refl e.ex)
theorem od_some {n : Int} (h : XD C te ds (dI n)) : OD C (tPart te) ds (some n) := fun G0 H0 G H σ e Q q => h G0 H0 G H σ e _ fun v G1 H1 s1 r1 => ⟨n, dp_int r1, q G1 H1 s1⟩
theorem dpa_cut {K : PySem.W.Frag} {G : Hp} {vs : List V} {es : List PyData} (h : DpAll K G vs es) (lo hi : Option Int) : DpAll K G (cutV vs lo hi) (cutD es lo hi) := by
  unfold cutV cutD
  rw [dpa_len h]
  exact dpa_take _ (dpa_drop _ h)
theorem xl_sl {es : List PyData} {tl th : TO} {lo hi : Option Int} (h : XD C te ds (.pd (.list es))) (h1 : OD C tl ds lo) (h2 : OD C th ds hi) : XL C (tSl (rSlL C.K) te tl th) ds (cutD es lo hi) := fun G0 H0 G H σ e Q q =>
  h G0 H0 G H σ e _ fun v G1 H1 s1 r1 => h1 G0 H0 G1 H1 σ (e.step s1) _ fun G2 H2 s2 => h2 G0 H0 G2 H2 σ ((e.step s1).step s2) _ fun G3 H3 s3 => by
    obtain ⟨p, vs, e1, e2, e3⟩ := dp_lst (dp_mono (s2.g.trans s3.g) _ _ r1)
    subst e1
    exact ⟨p, vs, rfl, ex_l s3.s e2, fun l hl => q l _ G3 _ ⟨((s1.trans s2).trans s3).g, ((s1.trans s2).trans s3).h.trans (Ex.new hl), s3.s.trans (Ex.new hl), ((s1.trans s2).trans s3).n⟩ (fresh_back ((s1.trans s2).trans s3).h hl) (fresh_back s3.s hl) upd_same (dpa_cut e3 lo hi)⟩
end
theorem cut_last (es : List PyData) : cutD es none (some (-1)) = es.dropLast := by
  unfold cutD
  have e1 : HT.sIx es.length 0 none = 0 := HT.sIx_none _ _
  have e2 : HT.sIx es.length es.length (some (-1)) = es.length - 1 := by
    unfold HT.sIx
    simp only []
    split <;> omega
  rw [e1, e2, List.drop_zero, Nat.sub_zero, List.dropLast_eq_take]
theorem cut_to (es : List PyData) (k : Nat) : cutD es none (some (k : Int)) = es.take k := by
  unfold cutD
  rw [HT.sIx_none, HT.sIx_nat, List.drop_zero, Nat.sub_zero]
  rcases Nat.le_total k es.length with h | h
  · rw [Nat.min_eq_left h]
  · rw [Nat.min_eq_right h, List.take_length, List.take_of_length_le h]
theorem cut_from (es : List PyData) (k : Nat) : cutD es (some (k : Int)) none = es.drop k := by
  unfold cutD
  rw [HT.sIx_none, HT.sIx_nat]
  rcases Nat.le_total k es.length with h | h
  · rw [Nat.min_eq_left h, List.take_of_length_le (by rw [List.length_drop]; omega)]
  · rw [Nat.min_eq_right h, List.drop_length, List.drop_of_length_le h]
    simp
end Yp
set_option Elab.async false
set_option linter.all false
set_option autoImplicit false
set_option maxRecDepth 100000
set_option maxHeartbeats 2000000
/-! Parts as rationals: core Lean. -/
namespace Yp
open L2

def pq (q : Rat) : Int × Int := (q.num, (q.den : Int))
def vq (p : Int × Int) : Rat := Rat.divInt p.1 p.2
abbrev dQ (q : Rat) : Da := .pd (pD (pq q))
theorem vq_pq (q : Rat) : vq (pq q) = q := Rat.num_divInt_den q
theorem pq_inj {a b : Rat} (h : pq a = pq b) : a = b := by
  rw [← vq_pq a, h, vq_pq]
theorem pq_eq {a b : Rat} : pq a = pq b ↔ a = b := ⟨pq_inj, fun h => by rw [h]⟩
theorem pq_den_pos (q : Rat) : (0 : Int) < (pq q).2 := by
  show (0 : Int) < (q.den : Int)
  have := q.den_pos
  omega

/-! ### sizes -/
/-- top and under below 2 ^ n -/
def Bp (n : Nat) (p : Int × Int) : Prop := p.1.natAbs < 2 ^ n ∧ p.2.natAbs < 2 ^ n
def Bd (n : Nat) (q : Rat) : Prop := Bp n (pq q)
theorem Bp.mono {n m : Nat} {p : Int × Int} (h : Bp n p) (l : n ≤ m) : Bp m p := ⟨Nat.lt_of_lt_of_le h.1 (Nat.pow_le_pow_right (by decide) l), Nat.lt_of_lt_of_le h.2 (Nat.pow_le_pow_right (by decide) l)⟩
theorem Bd.mono {n m : Nat} {q : Rat} (h : Bd n q) (l : n ≤ m) : Bd m q := Bp.mono h l
theorem Bp.of {n : Nat} {p : Int × Int} (h1 : p.1.natAbs < 2 ^ n) (h2 : p.2.natAbs < 2 ^ n) : Bp n p := ⟨h1, h2⟩
theorem Bd.num {n : Nat} {q : Rat} (h : Bd n q) : q.num.natAbs < 2 ^ n := h.1
theorem Bd.den {n : Nat} {q : Rat} (h : Bd n q) : (q.den : Int).natAbs < 2 ^ n := h.2
theorem Bd.pos {n : Nat} {q : Rat} (h : Bd n q) : 0 < n := by
  rcases Nat.eq_zero_or_pos n with e | e
  · subst e
    have h2 := h.den
    have := q.den_pos
    omega
  · exact e
theorem mul_lt2 {i j : Int} {a b : Nat} (ha : i.natAbs < 2 ^ a) (hb : j.natAbs < 2 ^ b) : (i * j).natAbs < 2 ^ (a + b) := wide_lt ha hb
theorem add_lt2 {i j : Int} {a : Nat} (ha : i.natAbs < 2 ^ a) (hb : j.natAbs < 2 ^ a) : (i + j).natAbs < 2 ^ (a + 1) := by
  rw [Nat.pow_succ]
  omega
theorem lt2_mono {i : Int} {a b : Nat} (ha : i.natAbs < 2 ^ a) (l : a ≤ b) : i.natAbs < 2 ^ b := Nat.lt_of_lt_of_le ha (Nat.pow_le_pow_right (by decide) l)
theorem lt2_neg {i : Int} {a : Nat} (ha : i.natAbs < 2 ^ a) : (-i).natAbs < 2 ^ a := by rw [Int.natAbs_neg]; exact ha
theorem gcd_ne {t u : Int} (h : u ≠ 0) : Int.gcd t u ≠ 0 := fun e => h (Int.gcd_eq_zero_iff.mp e).2
theorem gcd_le {t u : Int} (h : u ≠ 0) : Int.gcd t u ≤ u.natAbs := Nat.le_of_dvd (by omega) (by
  have := Int.gcd_dvd_natAbs_right t u
  exact this)
theorem natAbs_div_le (a : Int) (n : Nat) : (a / (n : Int)).natAbs ≤ a.natAbs := by
  have h := Int.natAbs_ediv_le_natAbs a (n : Int)
  exact h
theorem bd_divInt {t u : Int} {n : Nat} (hu : u ≠ 0) (h1 : t.natAbs < 2 ^ n) (h2 : u.natAbs < 2 ^ n) : Bd n (Rat.divInt t u) := by
  refine ⟨?_, ?_⟩
  · show (Rat.divInt t u).num.natAbs < 2 ^ n
    rw [Rat.num_divInt]
    refine Nat.lt_of_le_of_lt (natAbs_div_le _ _) ?_
    rw [Int.natAbs_mul, Int.natAbs_sign_of_ne_zero hu, Nat.one_mul]
    exact h1
  · show ((Rat.divInt t u).den : Int).natAbs < 2 ^ n
    rw [Rat.den_divInt, if_neg hu, Int.natAbs_natCast]
    exact Nat.lt_of_le_of_lt (Nat.div_le_self _ _) h2
theorem add_divInt (x y : Rat) : x + y = Rat.divInt (x.num * y.den + y.num * x.den) ((x.den : Int) * y.den) := by
  rw [Rat.add_def', ← Rat.divInt_ofNat, Int.natCast_mul]
theorem mul_divInt (x y : Rat) : x * y = Rat.divInt (x.num * y.num) ((x.den : Int) * y.den) := by
  rw [Rat.mul_def', ← Rat.divInt_ofNat, Int.natCast_mul]
theorem div_divInt (x y : Rat) : x / y = Rat.divInt (x.num * y.den) ((x.den : Int) * y.num) := by
  rw [Rat.div_def, Rat.inv_def]
  conv => lhs; lhs; rw [← Rat.num_divInt_den x]
  rw [Rat.divInt_mul_divInt]
theorem den_ne (x : Rat) : (x.den : Int) ≠ 0 := by
  have := x.den_pos
  omega
theorem num_ne {x : Rat} (h : x ≠ 0) : x.num ≠ 0 := fun e => h (Rat.num_eq_zero.mp e)
theorem Bd.add {a b : Nat} {x y : Rat} (hx : Bd a x) (hy : Bd b y) : Bd (a + b + 1) (x + y) := by
  rw [add_divInt]
  refine bd_divInt (Int.mul_ne_zero (den_ne x) (den_ne y)) ?_ ?_
  · refine add_lt2 (mul_lt2 hx.num hy.den) ?_
    rw [Nat.add_comm a b]
    exact mul_lt2 hy.num hx.den
  · exact lt2_mono (mul_lt2 hx.den hy.den) (by omega)
theorem Bd.mul {a b : Nat} {x y : Rat} (hx : Bd a x) (hy : Bd b y) : Bd (a + b) (x * y) := by
  rw [mul_divInt]
  exact bd_divInt (Int.mul_ne_zero (den_ne x) (den_ne y)) (mul_lt2 hx.num hy.num) (mul_lt2 hx.den hy.den)
theorem Bd.neg {a : Nat} {x : Rat} (hx : Bd a x) : Bd a (-x) := ⟨by
  show (-x).num.natAbs < 2 ^ a
  rw [Rat.neg_num, Int.natAbs_neg]
  exact hx.1, by
  show ((-x).den : Int).natAbs < 2 ^ a
  rw [Rat.neg_den]
  exact hx.2⟩
theorem Bd.sub {a b : Nat} {x y : Rat} (hx : Bd a x) (hy : Bd b y) : Bd (a + b + 1) (x - y) := by
  rw [Rat.sub_eq_add_neg]
  exact hx.add hy.neg
theorem Bd.div {a b : Nat} {x y : Rat} (hx : Bd a x) (hy : Bd b y) (h : y ≠ 0) : Bd (a + b) (x / y) := by
  rw [div_divInt]
  exact bd_divInt (Int.mul_ne_zero (den_ne x) (num_ne h)) (mul_lt2 hx.num hy.den) (mul_lt2 hx.den hy.num)
theorem Bd.int {n : Nat} {i : Int} (h : i.natAbs < 2 ^ n) (hn : 0 < n) : Bd n (i : Rat) := ⟨h, by
  show (((i : Rat).den : Nat) : Int).natAbs < 2 ^ n
  rw [Rat.den_intCast]
  exact Nat.one_lt_two_pow (by omega)⟩
theorem pq_int (i : Int) : pq (i : Rat) = (i, 1) := by
  unfold pq
  rw [Rat.num_intCast, Rat.den_intCast]
  rfl
theorem vq_one (i : Int) : vq (i, 1) = (i : Rat) := by rw [← pq_int, vq_pq]
theorem bd_zero : Bd 1 0 := ⟨by decide, by decide⟩
theorem bd_one : Bd 1 1 := ⟨by decide, by decide⟩
theorem Bp.vq {n : Nat} {p : Int × Int} (h : Bp n p) (hp : p.2 ≠ 0) : Bd n (vq p) := bd_divInt hp h.1 h.2

/-! ### what part tells -/
theorem part_eq {t u : Int} (hu : u ≠ 0) : ((if u < 0 then 0 - t else t) / (Int.gcd (if u < 0 then 0 - t else t) (if u < 0 then 0 - u else u) : Int), (if u < 0 then 0 - u else u) / (Int.gcd (if u < 0 then 0 - t else t) (if u < 0 then 0 - u else u) : Int)) = pq (Rat.divInt t u) := by
  unfold pq
  rw [Rat.num_divInt, Rat.den_divInt, if_neg hu, Int.gcd_comm u t]
  by_cases h : u < 0
  · rw [if_pos h, if_pos h, Int.zero_sub, Int.zero_sub, Int.neg_gcd, Int.gcd_neg, Int.sign_eq_neg_one_of_neg h, Int.neg_one_mul]
    refine Prod.ext rfl ?_
    show -u / (Int.gcd t u : Int) = ((u.natAbs / Int.gcd t u : Nat) : Int)
    rw [Int.natCast_ediv]
    congr 1
    omega
  · rw [if_neg h, if_neg h, Int.sign_eq_one_of_pos (by omega), Int.one_mul]
    refine Prod.ext rfl ?_
    show u / (Int.gcd t u : Int) = ((u.natAbs / Int.gcd t u : Nat) : Int)
    rw [Int.natCast_ediv]
    congr 1
    omega
theorem part_pos {t u : Int} (hu : 0 < u) : (t / (Int.gcd t u : Int), u / (Int.gcd t u : Int)) = pq (Rat.divInt t u) := by
  have h := part_eq (t := t) (u := u) (by omega)
  rw [if_neg (by omega), if_neg (by omega)] at h
  exact h
/-- one turn of the greatest common divisor -/
theorem gcd_turn {a b : Int} (h : 0 < b) : Int.gcd b (a.fmod b) = Int.gcd a b := by
  rw [Int.fmod_eq_emod_of_nonneg _ (by omega), Int.gcd_comm a b, Int.emod_def]
  exact Int.gcd_sub_mul_left_right _ _ _
theorem fmod_lt {a b : Int} (h : 0 < b) : a.fmod b < b := by
  rw [Int.fmod_eq_emod_of_nonneg _ (by omega)]
  exact Int.emod_lt_of_pos _ h
theorem fmod_ge {a b : Int} (h : 0 < b) : 0 ≤ a.fmod b := by
  rw [Int.fmod_eq_emod_of_nonneg _ (by omega)]
  exact Int.emod_nonneg _ (by omega)
/-! ### what the rules ask -/
theorem cmul {i j : Int} {a b : Nat} (ha : i.natAbs < 2 ^ a) (hb : j.natAbs < 2 ^ b) (h : a + b ≤ 900000) : CMulA i j := .inr (by
  have z1 : i.natAbs < 2 ^ (a + 1) := lt2_mono ha (by omega)
  have z2 : j.natAbs < 2 ^ (b + 1) := lt2_mono hb (by omega)
  exact wide_mul z1 z2 (by omega) (by omega) (by omega))
theorem cmul_l {i j : Int} (h : -(2 ^ 64) < i ∧ i < 2 ^ 64) : CMulA i j := .inl (.inl h)
theorem cmul_r {i j : Int} (h : -(2 ^ 64) < j ∧ j < 2 ^ 64) : CMulA i j := .inl (.inr h)
theorem cdiv_gcd {t u : Int} {n : Nat} (hu : u ≠ 0) (h : u.natAbs < 2 ^ n) (hn : n ≤ 8999) (x : Int) : CDivW x (Int.gcd t u : Int) := by
  have h1 := gcd_ne (t := t) hu
  have h2 := gcd_le (t := t) hu
  exact wide_div (b := n + 1) (by omega) (lt2_mono (a := n) (by rw [Int.natAbs_natCast]; omega) (by omega)) (by omega) (by omega)
end Yp
set_option Elab.async false
set_option linter.all false
set_option autoImplicit false
set_option maxRecDepth 100000
set_option maxHeartbeats 2000000
/-! What each def tells, of data. -/
namespace Yp
open PySem L2
abbrev dP (p : Int × Int) : Da := .pd (pD p)
def rprod (xs : List Rat) : Rat := xs.foldr (· * ·) 1
def cell (ns : List Int) (k : Nat) : Int := ns.getD k 0
def draw (ns : List Int) (k : Int) : Int := ((cell ns (k.fmod 61).toNat + 7919 * k) * (48271 + 2 * k)).fmod 2147483647
theorem draw_ge (ns : List Int) (k : Int) : 0 ≤ draw ns k := fmod_ge (by decide)
theorem draw_lt (ns : List Int) (k : Int) : draw ns k < 2147483647 := fmod_lt (by decide)
abbrev dS (ns : List Int) : Da := .pd (.list (ns.map .int))
def rCommon (das : List Da) (d : Da) : Prop := ∃ a b : Int, das = [dI a, dI b] ∧ d = dI (Int.gcd a b)
def rGcd (das : List Da) (d : Da) : Prop := ∃ a b : Int, das = [dI a, dI b] ∧ 0 ≤ b ∧ d = dI (Int.gcd a b)
def rPart (das : List Da) (d : Da) : Prop := ∃ (t u : Int) (n : Nat), das = [dI t, dI u] ∧ u ≠ 0 ∧ u.natAbs < 2 ^ n ∧ n ≤ 8999 ∧ d = dQ (Rat.divInt t u)
def rPlus (das : List Da) (d : Da) : Prop := ∃ (x y : Rat) (n m : Nat), das = [dQ x, dQ y] ∧ Bd n x ∧ Bd m y ∧ n + m ≤ 8999 ∧ d = dQ (x + y)
def rLess (das : List Da) (d : Da) : Prop := ∃ (x y : Rat) (n m : Nat), das = [dQ x, dQ y] ∧ Bd n x ∧ Bd m y ∧ n + m ≤ 8999 ∧ d = dQ (x - y)
def rTimes (das : List Da) (d : Da) : Prop := ∃ (x y : Rat) (n m : Nat), das = [dQ x, dQ y] ∧ Bd n x ∧ Bd m y ∧ n + m ≤ 8999 ∧ d = dQ (x * y)
def rOver (das : List Da) (d : Da) : Prop := ∃ (x y : Rat) (n m : Nat), das = [dQ x, dQ y] ∧ Bd n x ∧ Bd m y ∧ n + m ≤ 8999 ∧ y ≠ 0 ∧ d = dQ (x / y)
def rSummed (das : List Da) (d : Da) : Prop := ∃ (xs : List Rat) (n : Nat), das = [.pd (.list (xs.map fun x => pD (pq x)))] ∧ (∀ x ∈ xs, Bd n x) ∧ 1 + xs.length * (n + 1) + n ≤ 8999 ∧ d = dQ xs.sum
def Ok (n : Nat) (p : Int × Int) : Prop := 0 < p.2 ∧ Bp n p
def rLSum (das : List Da) (d : Da) : Prop := ∃ (ps : List (Int × Int)) (n : Nat), das = [.pd (.list (ps.map pD))] ∧ (∀ p ∈ ps, Ok n p) ∧ 1 + ps.length * (n + 1) + n ≤ 8999 ∧ d = dQ (ps.map vq).sum
def rLTimes (das : List Da) (d : Da) : Prop := ∃ (ps : List (Int × Int)) (n : Nat), das = [.pd (.list (ps.map pD))] ∧ (∀ p ∈ ps, Ok n p) ∧ 1 + ps.length * n ≤ 8999 ∧ d = dQ (rprod (ps.map vq))
def rSame (das : List Da) (d : Da) : Prop := ∃ p q : Int × Int, das = [dP p, dP q] ∧ d = dB (decide (p = q))
def rWhole (das : List Da) (d : Da) : Prop := ∃ i : Int, das = [dI i] ∧ d = dB true
def rCell (das : List Da) (d : Da) : Prop := ∃ (ns : List Int) (k : Int), das = [dS ns, dI k] ∧ 0 ≤ k ∧ d = dI (cell ns k.toNat)
def rDraw (das : List Da) (d : Da) : Prop := ∃ (ns : List Int) (k : Int), das = [dS ns, dI k] ∧ 0 ≤ k ∧ k ≤ 1000000 ∧ d = dI (draw ns k)
def rLaw (das : List Da) (d : Da) : Prop := ∃ ns : List Int, das = [dS ns] ∧ ns.length ≤ 63 ∧ d = dB true
def spLaw (K : PySem.W.Frag) : Sp := fun vs H Q _ => ∃ (a : Addr) (ns : List Int), vs = [.ref a] ∧ SqL K H a (ns.map V.int) ∧ ns.length ≤ 63 ∧ ∀ H', Q (.bl true) H'
theorem law_imp {C : Kx} (vs : List V) (H : Hp) (Q : VK) (E : XK) (h : spLaw C.K vs H Q E) : spR C rLaw vs H Q E := by
  obtain ⟨a, ns, rfl, hS, hl, q⟩ := h
  refine ⟨[dS ns], dB true, H, Evl.Ex.refl H, .cons (Dp.lst hS (dpa_ints ns)) .nil, ⟨ns, rfl, hl, rfl⟩, fun v G' H' _ r => ?_⟩
  have e := dp_bl r
  subst e
  exact q H'
theorem sum_divInt {t u : Int} {x : Rat} (hu : u ≠ 0) : x + Rat.divInt t u = Rat.divInt (x.num * u + t * x.den) (x.den * u) := by
  conv => lhs; lhs; rw [← Rat.num_divInt_den x]
  rw [Rat.divInt_add_divInt _ _ (den_ne x) hu]
theorem sum_take_succ {xs : List Rat} {i : Nat} {x : Rat} (h : xs[i]? = some x) : (xs.take (i + 1)).sum = (xs.take i).sum + x := by
  rw [List.take_add_one, h]
  show (xs.take i ++ [x]).sum = _
  rw [List.sum_append, List.sum_cons, List.sum_nil, Rat.add_zero]
theorem bd_sum {xs : List Rat} {n : Nat} (h : ∀ x ∈ xs, Bd n x) : Bd (1 + xs.length * (n + 1)) xs.sum := by
  induction xs with
  | nil =>
    show Bd (1 + 0 * (n + 1)) 0
    rw [Nat.zero_mul]
    exact bd_zero
  | cons x r ih =>
    rw [List.sum_cons, List.length_cons]
    have h1 := (h x (by simp)).add (ih fun y hy => h y (List.mem_cons_of_mem _ hy))
    refine h1.mono ?_
    rw [Nat.add_mul]
    omega
def kpair (ns : List Int) (k : Int) : Int × Int := if 0 < (draw ns (50 + k)).fmod 3 then ((draw ns (60 + k)).fmod 41 - 20, 1 + (draw ns (70 + k)).fmod 12) else ((cell ns k.toNat).fmod (2 * 10 ^ 40) - 10 ^ 40, (cell ns (k + 1).toNat).fmod (10 ^ 20) + 1)
theorem fm_ge (a : Int) {b : Int} (h : 0 < b) : 0 ≤ a.fmod b := fmod_ge h
theorem fm_lt (a : Int) {b : Int} (h : 0 < b) : a.fmod b < b := fmod_lt h
theorem kpair_ok (ns : List Int) (k : Int) : Ok 134 (kpair ns k) := by
  unfold kpair
  have p40 : (10 : Int) ^ 40 = 10000000000000000000000000000000000000000 := by decide
  have p20 : (10 : Int) ^ 20 = 100000000000000000000 := by decide
  have p134 : 2 ^ 134 = 21778071482940061661655974875633165533184 := by decide
  split
  · have h1 := fm_ge (draw ns (60 + k)) (b := 41) (by decide)
    have h2 := fm_lt (draw ns (60 + k)) (b := 41) (by decide)
    have h3 := fm_ge (draw ns (70 + k)) (b := 12) (by decide)
    have h4 := fm_lt (draw ns (70 + k)) (b := 12) (by decide)
    refine ⟨?_, ?_, ?_⟩
    · show 0 < 1 + (draw ns (70 + k)).fmod 12
      omega
    · show ((draw ns (60 + k)).fmod 41 - 20).natAbs < 2 ^ 134
      omega
    · show (1 + (draw ns (70 + k)).fmod 12).natAbs < 2 ^ 134
      omega
  · rw [p40, p20]
    have h1 := fm_ge (cell ns k.toNat) (b := 2 * 10000000000000000000000000000000000000000) (by decide)
    have h2 := fm_lt (cell ns k.toNat) (b := 2 * 10000000000000000000000000000000000000000) (by decide)
    have h3 := fm_ge (cell ns (k + 1).toNat) (b := 100000000000000000000) (by decide)
    have h4 := fm_lt (cell ns (k + 1).toNat) (b := 100000000000000000000) (by decide)
    refine ⟨?_, ?_, ?_⟩
    · show 0 < (cell ns (k + 1).toNat).fmod 100000000000000000000 + 1
      omega
    · show ((cell ns k.toNat).fmod (2 * 10000000000000000000000000000000000000000) - 10000000000000000000000000000000000000000).natAbs < 2 ^ 134
      omega
    · show ((cell ns (k + 1).toNat).fmod 100000000000000000000 + 1).natAbs < 2 ^ 134
      omega
def rPair (das : List Da) (d : Da) : Prop := ∃ (ns : List Int) (k : Int), das = [dS ns, dI k] ∧ 0 ≤ k ∧ k ≤ 1000 ∧ d = dP (kpair ns k)
theorem canlay_all {α : Type} (f : α → PyData) (h : ∀ x, PyData.canLay0 (f x) = true) : ∀ xs : List α, PyData.canLayAll0 (xs.map f) = true
  | [] => by simp only [List.map_nil, PyData.canLayAll0]
  | x :: r => by simp only [List.map_cons, PyData.canLayAll0, h x, canlay_all f h r, Bool.and_self]
theorem depth_all {α : Type} (f : α → PyData) (n : Nat) (h : ∀ x, PyData.depth (f x) ≤ n) : ∀ xs : List α, PyData.depthAll (xs.map f) ≤ n
  | [] => by simp only [List.map_nil, PyData.depthAll]; omega
  | x :: r => by
    simp only [List.map_cons, PyData.depthAll]
    have h1 := h x
    have h2 := depth_all f n h r
    omega
theorem canlay_pD (p : Int × Int) : PyData.canLay0 (pD p) = true := by simp only [pD, PyData.canLay0, PyData.canLayAll0, Bool.and_self]
theorem depth_pD (p : Int × Int) : PyData.depth (pD p) ≤ 1 := by simp only [pD, PyData.depth, PyData.depthAll]; omega
theorem shaped_map {α : Type} (f : α → PyData) (n : Nat) (hn : n ≤ 60) (h1 : ∀ x, PyData.canLay0 (f x) = true) (h2 : ∀ x, PyData.depth (f x) ≤ n) (xs : List α) : SeqAt.shaped (.list (xs.map f)) = true := by
  unfold SeqAt.shaped
  have e1 : PyData.canLay0 (.list (xs.map f)) = true := by
    have := canlay_all f h1 xs
    simpa only [PyData.canLay0] using this
  have e2 : PyData.depth (.list (xs.map f)) ≤ 64 := by
    have := depth_all f n h2 xs
    simp only [PyData.depth]
    omega
  rw [e1, decide_eq_true e2]
  rfl
theorem rd_neSelf {C : Kx} {d : PyData} (h : SeqAt.shaped d = true) : RD C (rNeD C.K) (.pd d) (.pd d) (dB false) := rd_is (rd_neD h h) (by rw [SeqAt.eqv_refl d (SeqAt.canLay_of_shaped h)]; rfl)
theorem rd_eqSelf {C : Kx} {d : PyData} (h : SeqAt.shaped d = true) : RD C (rEqD C.K) (.pd d) (.pd d) (dB true) := rd_is (rd_eqD h h) (by rw [SeqAt.eqv_refl d (SeqAt.canLay_of_shaped h)])
theorem take_mem {α : Type} {xs : List α} {i : Nat} {x : α} (h : x ∈ xs.take i) : x ∈ xs := List.mem_of_mem_take h
theorem getE_mem {α : Type} {xs : List α} {i : Nat} {x : α} (h : xs[i]? = some x) : x ∈ xs := List.mem_of_getElem? h
theorem bd_take {xs : List Rat} {n i : Nat} (h : ∀ x ∈ xs, Bd n x) (hi : i ≤ xs.length) : Bd (1 + xs.length * (n + 1)) (xs.take i).sum := by
  have h1 := bd_sum (xs := xs.take i) (n := n) fun x hx => h x (take_mem hx)
  refine h1.mono ?_
  rw [List.length_take, Nat.min_eq_left hi]
  have := Nat.mul_le_mul_right (n + 1) hi
  omega
def NoOb (z : Sl) : Prop := ∀ A x fs, z ≠ Sl.ob A x fs
theorem noOb_un : NoOb .un := fun _ _ _ e => by cases e
theorem noOb_va {d : Da} : NoOb (.va d) := fun _ _ _ e => by cases e
theorem all1 {α : Type} {P : α → Prop} {a : α} (h1 : P a) : ∀ x ∈ [a], P x := fun x hx => by
  rw [List.mem_singleton] at hx
  rw [hx]
  exact h1
theorem allC {α : Type} {P : α → Prop} {a : α} {r : List α} (h1 : P a) (h2 : ∀ x ∈ r, P x) : ∀ x ∈ a :: r, P x := fun x hx => by
  rcases List.mem_cons.mp hx with e | hx
  · rw [e]; exact h1
  · exact h2 x hx
theorem all2 {α : Type} {P : α → Prop} {a b : α} (h1 : P a) (h2 : P b) : ∀ x ∈ [a, b], P x := allC h1 (all1 h2)
theorem all3 {α : Type} {P : α → Prop} {a b c : α} (h1 : P a) (h2 : P b) (h3 : P c) : ∀ x ∈ [a, b, c], P x := allC h1 (all2 h2 h3)
theorem all4 {α : Type} {P : α → Prop} {a b c d : α} (h1 : P a) (h2 : P b) (h3 : P c) (h4 : P d) : ∀ x ∈ [a, b, c, d], P x := allC h1 (all3 h2 h3 h4)
theorem sum1 (a : Rat) : [a].sum = a := by rw [List.sum_cons, List.sum_nil, Rat.add_zero]
theorem sum2 (a b : Rat) : [a, b].sum = a + b := by rw [List.sum_cons, sum1]
theorem sum3 (a b c : Rat) : [a, b, c].sum = a + (b + c) := by rw [List.sum_cons, sum2]
theorem prod1 (a : Rat) : rprod [a] = a := Rat.mul_one a
theorem prod2 (a b : Rat) : rprod [a, b] = a * b := by show a * rprod [b] = _; rw [prod1]
theorem prod3 (a b c : Rat) : rprod [a, b, c] = a * (b * c) := by show a * rprod [b, c] = _; rw [prod2]
theorem prod4 (a b c d : Rat) : rprod [a, b, c, d] = a * (b * (c * d)) := by show a * rprod [b, c, d] = _; rw [prod3]
theorem Ok.pq {n : Nat} {x : Rat} (h : Bd n x) : Ok n (pq x) := ⟨pq_den_pos x, h⟩
theorem Ok.mono {n m : Nat} {p : Int × Int} (h : Ok n p) (l : n ≤ m) : Ok m p := ⟨h.1, h.2.mono l⟩
theorem Ok.vq {n : Nat} {p : Int × Int} (h : Ok n p) : Bd n (vq p) := h.2.vq (by have := h.1; omega)
theorem rSame.refl {p : Int × Int} : rSame [dP p, dP p] (dB true) := ⟨_, _, rfl, by rw [decide_eq_true rfl]⟩
theorem rprod_nil : rprod [] = 1 := rfl
theorem rprod_cons (x : Rat) (r : List Rat) : rprod (x :: r) = x * rprod r := rfl
theorem rprod_app (a b : List Rat) : rprod (a ++ b) = rprod a * rprod b := by
  induction a with
  | nil => rw [List.nil_append, rprod_nil, Rat.one_mul]
  | cons x r ih => rw [List.cons_append, rprod_cons, ih, rprod_cons, Rat.mul_assoc]
end Yp
set_option Elab.async false
set_option linter.all false
set_option autoImplicit false
set_option maxRecDepth 100000
set_option maxHeartbeats 2000000
/-! Tables, rates, pledges: what is drawn and what is told. -/
namespace Yp
open PySem L2
abbrev dT (qs : List Rat) : Da := .tab (qs.map pq)
/-- a drawn list of chances -/
structure ChOk (b : Nat) (ch : List (Int × Int)) : Prop where
  n1 : 1 ≤ ch.length
  n20 : ch.length ≤ 20
  sz : ch.length * b ≤ 60
  ok : ∀ (i : Nat) (p : Int × Int), ch[i]? = some p → 0 ≤ p.1 ∧ p.1 ≤ p.2 ∧ 1 ≤ p.2 ∧ p.2 ≤ 10000 ∧ p.2.natAbs < 2 ^ b
  last : ∀ (i : Nat) (p : Int × Int), ch[i]? = some p → (p.1 = p.2 ↔ i + 1 = ch.length)
structure Tq (b : Nat) (qs : List Rat) : Prop where
  n1 : 1 ≤ qs.length
  n20 : qs.length ≤ 20
  sz : qs.length * b ≤ 60
  bd : ∀ q ∈ qs, Bd b q
  bl : ∀ q ∈ qs, Bd b (1 - q)
  ge : ∀ q ∈ qs, 0 ≤ q
  le : ∀ q ∈ qs, q ≤ 1
  lt : ∀ (i : Nat) (q : Rat), i + 1 < qs.length → qs[i]? = some q → q ≠ 1
  last : ∀ (i : Nat) (q : Rat), i + 1 = qs.length → qs[i]? = some q → q = 1
theorem one_sub_vq {t u : Int} (hu : u ≠ 0) : 1 - vq (t, u) = vq (u - t, u) := by
  unfold vq
  rw [Rat.divInt_eq_div, Rat.divInt_eq_div]
  have h : (u : Rat) ≠ 0 := fun e => hu (Rat.intCast_eq_zero_iff.mp e)
  rw [Rat.intCast_sub]
  grind
theorem ChOk.bp {b : Nat} {ch : List (Int × Int)} (h : ChOk b ch) : ∀ p ∈ ch, Ok b p := fun p hp => by
  obtain ⟨i, hi⟩ := List.getElem?_of_mem hp
  obtain ⟨h1, h2, h3, h4, h5⟩ := h.ok i p hi
  exact ⟨by omega, by omega, h5⟩
theorem ChOk.tq {b : Nat} {ch : List (Int × Int)} (h : ChOk b ch) : Tq b (ch.map vq) := by
  have get : ∀ q ∈ ch.map vq, ∃ i p, ch[i]? = some p ∧ vq p = q := fun q hq => by
    obtain ⟨p, hp, rfl⟩ := List.mem_map.mp hq
    obtain ⟨i, hi⟩ := List.getElem?_of_mem hp
    exact ⟨i, p, hi, rfl⟩
  have eq1 : ∀ (i : Nat) (p : Int × Int), ch[i]? = some p → (vq p = 1 ↔ p.1 = p.2) := fun i p hi => by
    obtain ⟨h1, h2, h3, h4, h5⟩ := h.ok i p hi
    unfold vq
    rw [show (1 : Rat) = Rat.divInt 1 1 from rfl, Rat.divInt_eq_divInt_iff (by omega) (by decide)]
    omega
  refine ⟨by rw [List.length_map]; exact h.n1, by rw [List.length_map]; exact h.n20, by rw [List.length_map]; exact h.sz, fun q hq => ?_, fun q hq => ?_, fun q hq => ?_, fun q hq => ?_, fun i q hi hq => ?_, fun i q hi hq => ?_⟩
  · obtain ⟨i, p, hi, rfl⟩ := get q hq
    exact (h.bp p (getE_mem hi)).vq
  · obtain ⟨i, p, hi, rfl⟩ := get q hq
    obtain ⟨h1, h2, h3, h4, h5⟩ := h.ok i p hi
    rw [one_sub_vq (by omega)]
    exact Bp.vq (p := (p.2 - p.1, p.2)) ⟨by show (p.2 - p.1).natAbs < _; omega, h5⟩ (by show p.2 ≠ 0; omega)
  · obtain ⟨i, p, hi, rfl⟩ := get q hq
    obtain ⟨h1, h2, h3, h4, h5⟩ := h.ok i p hi
    exact Rat.divInt_nonneg h1 (by omega)
  · obtain ⟨i, p, hi, rfl⟩ := get q hq
    obtain ⟨h1, h2, h3, h4, h5⟩ := h.ok i p hi
    have e := one_sub_vq (t := p.1) (u := p.2) (by omega)
    have h6 : 0 ≤ vq (p.2 - p.1, p.2) := Rat.divInt_nonneg (by omega) (by omega)
    rw [← e] at h6
    have h7 : vq p = vq (p.1, p.2) := rfl
    rw [h7]
    grind
  · rw [List.length_map] at hi
    rw [List.getElem?_map] at hq
    cases hp : ch[i]? with
    | none => rw [hp] at hq; cases hq
    | some p =>
      rw [hp] at hq
      cases hq
      rw [Ne, eq1 i p hp, h.last i p hp]
      omega
  · rw [List.length_map] at hi
    rw [List.getElem?_map] at hq
    cases hp : ch[i]? with
    | none => rw [hp] at hq; cases hq
    | some p =>
      rw [hp] at hq
      cases hq
      rw [eq1 i p hp, h.last i p hp]
      exact hi
/-- the chance to live y years more from age a -/
def lv (qs : List Rat) (a y : Nat) : Rat := if qs.length ≤ a + y then 0 else rprod ((List.range y).map fun k => 1 - qs.getD (a + k) 0)
def rTabMk (das : List Da) (d : Da) : Prop := ∃ (b : Nat) (ch : List (Int × Int)), das = [.pd (.list (ch.map pD))] ∧ ChOk b ch ∧ d = dT (ch.map vq)
def rAges (das : List Da) (d : Da) : Prop := ∃ qs : List Rat, das = [dT qs] ∧ d = dI qs.length
def rDies (das : List Da) (d : Da) : Prop := ∃ (qs : List Rat) (a : Int), das = [dT qs, dI a] ∧ 0 ≤ a ∧ a < qs.length ∧ d = dQ (qs.getD a.toNat 0)
def rLives (das : List Da) (d : Da) : Prop := ∃ (b : Nat) (qs : List Rat) (a y : Int), das = [dT qs, dI a, dI y] ∧ Tq b qs ∧ 0 ≤ a ∧ a < qs.length ∧ 0 ≤ y ∧ y ≤ 1000 ∧ d = dQ (lv qs a.toNat y.toNat)
/-! ### sizes of chances -/
theorem bd_rprod {xs : List Rat} {n : Nat} (h : ∀ x ∈ xs, Bd n x) : Bd (1 + xs.length * n) (rprod xs) := by
  induction xs with
  | nil =>
    show Bd (1 + 0 * n) 1
    rw [Nat.zero_mul]
    exact bd_one
  | cons x r ih =>
    rw [rprod_cons, List.length_cons]
    have h1 := (h x (by simp)).mul (ih fun y hy => h y (List.mem_cons_of_mem _ hy))
    refine h1.mono ?_
    rw [Nat.add_mul]
    omega
theorem Tq.mem {b : Nat} {qs : List Rat} {i : Nat} (h : Tq b qs) (hi : i < qs.length) : qs.getD i 0 ∈ qs := by
  rw [List.getD_eq_getElem?_getD, List.getElem?_eq_getElem hi]
  exact List.getElem_mem hi
theorem Tq.bdD {b : Nat} {qs : List Rat} {i : Nat} (h : Tq b qs) (hi : i < qs.length) : Bd b (qs.getD i 0) := h.bd _ (h.mem hi)
theorem Tq.blD {b : Nat} {qs : List Rat} {i : Nat} (h : Tq b qs) (hi : i < qs.length) : Bd b (1 - qs.getD i 0) := h.bl _ (h.mem hi)
theorem bd_part_lv {b : Nat} {qs : List Rat} {a y : Nat} (h : Tq b qs) (hy : a + y ≤ qs.length) : Bd 61 (rprod ((List.range y).map fun k => 1 - qs.getD (a + k) 0)) := by
  have h1 := bd_rprod (xs := (List.range y).map fun k => 1 - qs.getD (a + k) 0) (n := b) fun x hx => by
    obtain ⟨k, hk, rfl⟩ := List.mem_map.mp hx
    have := List.mem_range.mp hk
    exact h.blD (by omega)
  refine h1.mono ?_
  rw [List.length_map, List.length_range]
  have h2 : y * b ≤ qs.length * b := Nat.mul_le_mul_right b (by omega)
  have := h.sz
  omega
theorem bd_lv {b : Nat} {qs : List Rat} (h : Tq b qs) (a y : Nat) : Bd 61 (lv qs a y) := by
  unfold lv
  split
  · exact bd_zero.mono (by omega)
  · exact bd_part_lv h (by omega)
theorem rprod_range_succ (f : Nat → Rat) (n : Nat) : rprod ((List.range (n + 1)).map f) = rprod ((List.range n).map f) * f n := by
  rw [List.range_succ, List.map_append, rprod_app]
  show _ * rprod [f n] = _
  rw [prod1]
/-! ### what the law draws -/
theorem at_const (xs : List Int) {m : Int} (h0 : 0 ≤ m) (h1 : m < xs.length) (d : Int) : atI (xs.map PyData.int) m = some (.int (xs.getD m.toNat d)) := at_nat (j := m.toNat) (by omega) (by
  rw [List.getElem?_map, List.getD_eq_getElem?_getD, List.getElem?_eq_getElem (by omega)]
  rfl)
def mode (ns : List Int) : Int := (draw ns 3).fmod 8
def mMany (ns : List Int) : Int := [6, 6, 6, 5, 5, 5, 3, 20].getD (mode ns).toNat 6
def mUnder (ns : List Int) : Int := [6, 12, 12, 100, 100, 7, 10000, 2].getD (mode ns).toNat 6
def many (ns : List Int) : Int := 1 + (draw ns 1).fmod (mMany ns)
def chU (ns : List Int) (k : Nat) : Int := 1 + (draw ns (10 + (k : Int))).fmod (mUnder ns)
def chD (ns : List Int) (k : Nat) : Int × Int := ((draw ns (31 + (k : Int))).fmod (chU ns k), chU ns k)
def chs (ns : List Int) : List (Int × Int) := ((List.range (many ns).toNat).map (chD ns)).dropLast ++ [((chD ns ((many ns).toNat - 1)).2, (chD ns ((many ns).toNat - 1)).2)]
theorem mode_b (ns : List Int) : 0 ≤ mode ns ∧ mode ns < 8 := ⟨fm_ge _ (by decide), fm_lt _ (by decide)⟩
def mB (ns : List Int) : Nat := [3, 4, 4, 7, 7, 3, 14, 2].getD (mode ns).toNat 3
theorem mode_cases (ns : List Int) : (mUnder ns < 2 ^ mB ns ∧ 1 ≤ mUnder ns ∧ mUnder ns ≤ 10000) ∧ (1 ≤ mMany ns ∧ mMany ns ≤ 20 ∧ mMany ns * mB ns ≤ 42) := by
  have h := mode_b ns
  unfold mUnder mB mMany
  have h8 : mode ns = 0 ∨ mode ns = 1 ∨ mode ns = 2 ∨ mode ns = 3 ∨ mode ns = 4 ∨ mode ns = 5 ∨ mode ns = 6 ∨ mode ns = 7 := by omega
  rcases h8 with e | e | e | e | e | e | e | e <;> rw [e] <;> decide
theorem many_b (ns : List Int) : 1 ≤ many ns ∧ many ns ≤ mMany ns := by
  have h := (mode_cases ns).2.1
  have h1 := fm_ge (draw ns 1) (b := mMany ns) (by omega)
  have h2 := fm_lt (draw ns 1) (b := mMany ns) (by omega)
  unfold many
  omega
theorem chU_b (ns : List Int) (k : Nat) : 1 ≤ chU ns k ∧ chU ns k ≤ mUnder ns := by
  have h := (mode_cases ns).1
  have h1 := fm_ge (draw ns (10 + (k : Int))) (b := mUnder ns) (by omega)
  have h2 := fm_lt (draw ns (10 + (k : Int))) (b := mUnder ns) (by omega)
  unfold chU
  omega
theorem chs_len (ns : List Int) : (chs ns).length = (many ns).toNat := by
  have h := many_b ns
  unfold chs
  rw [List.length_append, List.length_dropLast, List.length_map, List.length_range]
  show (many ns).toNat - 1 + 1 = _
  omega
theorem chs_get (ns : List Int) {i : Nat} {p : Int × Int} (h : (chs ns)[i]? = some p) : i < (many ns).toNat ∧ p.2 = chU ns i ∧ (i + 1 = (many ns).toNat → p.1 = p.2) ∧ (i + 1 ≠ (many ns).toNat → p = chD ns i) := by
  have hm := many_b ns
  have hi : i < (many ns).toNat := by
    have := (List.getElem?_eq_some_iff.mp h).1
    rw [chs_len] at this
    exact this
  refine ⟨hi, ?_⟩
  unfold chs at h
  have hl : (((List.range (many ns).toNat).map (chD ns)).dropLast).length = (many ns).toNat - 1 := by
    rw [List.length_dropLast, List.length_map, List.length_range]
  by_cases hlast : i + 1 = (many ns).toNat
  · rw [List.getElem?_append_right (by omega), hl] at h
    have e : i - ((many ns).toNat - 1) = 0 := by omega
    rw [e] at h
    have e2 : ((chD ns ((many ns).toNat - 1)).2, (chD ns ((many ns).toNat - 1)).2) = p := Option.some.inj h
    have e3 : (many ns).toNat - 1 = i := by omega
    rw [e3] at e2
    rw [← e2]
    exact ⟨rfl, fun _ => rfl, fun n => absurd hlast n⟩
  · rw [List.getElem?_append_left (by omega), List.dropLast_eq_take, List.getElem?_take, if_pos (by rw [List.length_map, List.length_range]; omega), List.getElem?_map, List.getElem?_range hi] at h
    have e2 : chD ns i = p := Option.some.inj h
    rw [← e2]
    exact ⟨rfl, fun e => absurd e hlast, fun _ => rfl⟩
theorem chs_ok (ns : List Int) : ChOk (mB ns) (chs ns) := by
  have hm := many_b ns
  have hc := mode_cases ns
  refine ⟨by rw [chs_len]; omega, by rw [chs_len]; omega, ?_, fun i p h => ?_, fun i p h => ?_⟩
  · rw [chs_len]
    have h1 : (many ns).toNat ≤ (mMany ns).toNat := by omega
    have h2 := Nat.mul_le_mul_right (mB ns) h1
    have h3 : ((mMany ns).toNat : Int) * (mB ns : Int) ≤ 42 := by
      rw [Int.toNat_of_nonneg (by omega)]
      exact hc.2.2.2
    have h4 : (mMany ns).toNat * mB ns ≤ 42 := by exact_mod_cast h3
    omega
  · obtain ⟨h1, h2, h3, h4⟩ := chs_get ns h
    have hu := chU_b ns i
    have hpow : ((2 ^ mB ns : Nat) : Int) = (2 : Int) ^ mB ns := by push_cast; rfl
    have h5 : p.2.natAbs < 2 ^ mB ns := by
      have := hc.1.1
      rw [← hpow] at this
      omega
    by_cases hl : i + 1 = (many ns).toNat
    · have := h3 hl
      exact ⟨by omega, by omega, by omega, by omega, h5⟩
    · have e := h4 hl
      have e1 : p.1 = (draw ns (31 + (i : Int))).fmod (chU ns i) := by rw [e]; rfl
      have g1 := fm_ge (draw ns (31 + (i : Int))) (b := chU ns i) (by omega)
      have g2 := fm_lt (draw ns (31 + (i : Int))) (b := chU ns i) (by omega)
      exact ⟨by omega, by omega, by omega, by omega, h5⟩
  · obtain ⟨h1, h2, h3, h4⟩ := chs_get ns h
    have hu := chU_b ns i
    rw [chs_len]
    by_cases hl : i + 1 = (many ns).toNat
    · exact ⟨fun _ => hl, fun _ => h3 hl⟩
    · have e := h4 hl
      have e1 : p.1 = (draw ns (31 + (i : Int))).fmod (chU ns i) := by rw [e]; rfl
      have g2 := fm_lt (draw ns (31 + (i : Int))) (b := chU ns i) (by omega)
      exact ⟨fun e5 => by omega, fun e5 => absurd e5 hl⟩
def rChances (das : List Da) (d : List PyData) : Prop := ∃ ns : List Int, das = [dS ns] ∧ d = (chs ns).map pD
def rLLives (das : List Da) (d : Da) : Prop := ∃ (b : Nat) (ch : List (Int × Int)) (a y : Int), das = [.pd (.list (ch.map pD)), dI a, dI y] ∧ ChOk b ch ∧ 0 ≤ a ∧ 0 ≤ y ∧ y ≤ 1000 ∧ d = dQ (lv (ch.map vq) a.toNat y.toNat)
end Yp
set_option Elab.async false
set_option linter.all false
set_option autoImplicit false
set_option maxRecDepth 100000
set_option maxHeartbeats 2000000
/-! Rates, pledges, worths: what is drawn and what is told. -/
namespace Yp
open PySem L2
/-! ### rates -/
structure RateOk (n : Nat) (r : Int × Int) : Prop where
  h1 : 1 ≤ r.1
  h2 : r.1 ≤ r.2
  h3 : r.2 ≤ 10000
  h4 : r.2.natAbs < 2 ^ n
theorem RateOk.ok {n : Nat} {r : Int × Int} (h : RateOk n r) : Ok n r := ⟨by have := h.h1; have := h.h2; omega, by have := h.h1; have := h.h2; have := h.h4; omega, h.h4⟩
theorem RateOk.pos {n : Nat} {r : Int × Int} (h : RateOk n r) : 0 < n := by
  rcases Nat.eq_zero_or_pos n with e | e
  · subst e
    have := h.h1; have := h.h2; have := h.h4
    simp at *
    omega
  · exact e
theorem RateOk.ne {n : Nat} {r : Int × Int} (h : RateOk n r) : vq r ≠ 0 := fun e => by
  have h5 : r.2 ≠ 0 := by have := h.h1; have := h.h2; omega
  have e2 : Rat.divInt r.1 r.2 = Rat.divInt 0 1 := e
  rw [Rat.divInt_eq_divInt_iff h5 (by decide)] at e2
  have := h.h1
  omega
theorem bd_pow {v : Rat} {n : Nat} (h : Bd n v) (i : Nat) : Bd (1 + i * n) (v ^ i) := by
  induction i with
  | zero => rw [Rat.pow_zero, Nat.zero_mul]; exact bd_one
  | succ i ih =>
    rw [Rat.pow_succ]
    refine (ih.mul h).mono ?_
    rw [Nat.add_mul]
    omega
theorem rprod_rep (v : Rat) (n : Nat) : rprod (List.replicate n v) = v ^ n := by
  induction n with
  | zero => rw [Rat.pow_zero]; rfl
  | succ n ih =>
    rw [List.replicate_succ, rprod_cons, ih, Rat.pow_succ, Rat.mul_comm]
def rRateOf (das : List Da) (d : Da) : Prop := ∃ (n : Nat) (r : Int × Int), das = [dP r] ∧ RateOk n r ∧ n ≤ 8000 ∧ d = dQ (vq r)
def rLater (das : List Da) (d : Da) : Prop := ∃ (n : Nat) (r : Int × Int) (y : Int), das = [dP r, dI y] ∧ RateOk n r ∧ 0 ≤ y ∧ y ≤ 1000 ∧ 1 + y.toNat * n + n ≤ 8000 ∧ d = dQ (vq r ^ y.toNat)
/-! ### pledges -/
abbrev Row := Int × Int × Int
def rL (r : Row) : PyData := .list [.int r.1, .int r.2.1, .int r.2.2]
def CoinOk (i : Int) : Prop := 0 ≤ i ∧ i ≤ 1000000
def RowOk (r : Row) : Prop := CoinOk r.1 ∧ CoinOk r.2.1 ∧ CoinOk r.2.2
structure PlOk (n : Int) (rows : List Row) : Prop where
  a0 : 0 ≤ n
  a20 : n < 20
  l1 : 1 ≤ rows.length
  l20 : rows.length ≤ 20
  ok : ∀ r ∈ rows, RowOk r
def rowAt (rows : List Row) (k : Nat) : Row := rows.getD k (0, 0, 0)
theorem rowAt_get {rows : List Row} {k : Nat} (h : k < rows.length) : rows[k]? = some (rowAt rows k) := by
  unfold rowAt
  rw [List.getD_eq_getElem?_getD, List.getElem?_eq_getElem h]
  rfl
theorem PlOk.row {n : Int} {rows : List Row} (h : PlOk n rows) {k : Nat} (hk : k < rows.length) : RowOk (rowAt rows k) := h.ok _ (getE_mem (rowAt_get hk))
def rPleMk (das : List Da) (d : Da) : Prop := ∃ (n : Int) (rows : List Row) (f : Row → PyData), das = [dI n, .pd (.list (rows.map f))] ∧ (f = rD ∨ f = rL) ∧ PlOk n rows ∧ d = .ple n rows
def rYears (das : List Da) (d : Da) : Prop := ∃ (n : Int) (rows : List Row), das = [.ple n rows] ∧ d = dI rows.length
def rSeeFits (das : List Da) (d : Da) : Prop := ∃ (qs : List Rat) (n : Int) (rows : List Row), das = [dT qs, .ple n rows] ∧ n + rows.length ≤ qs.length ∧ d = .pd .none
/-- all that goes together; n bits a rate's part -/
structure Good (b n : Nat) (qs : List Rat) (r : Int × Int) (a : Int) (rows : List Row) : Prop where
  tq : Tq b qs
  rt : RateOk n r
  pl : PlOk a rows
  fit : a + rows.length ≤ qs.length
  sz : 2 * rows.length * (151 + (rows.length + 1) * n) + (150 + (rows.length + 1) * n) + 1 ≤ 8999
theorem Tq.b60 {b : Nat} {qs : List Rat} (h : Tq b qs) : b ≤ 60 := by
  have h1 := h.sz; have h2 := h.n1; have h3 : 1 * b ≤ qs.length * b := Nat.mul_le_mul_right b h2
  omega
theorem Good.n8 {b n : Nat} {qs : List Rat} {r : Int × Int} {a : Int} {rows : List Row} (h : Good b n qs r a rows) : (rows.length + 1) * n ≤ 4000 := by
  have h1 := h.pl.l1
  have h2 := h.sz
  have h3 : 2 * 1 * (151 + (rows.length + 1) * n) ≤ 2 * rows.length * (151 + (rows.length + 1) * n) := Nat.mul_le_mul_right _ (by omega)
  omega
def rSee (das : List Da) (d : Da) : Prop := ∃ (b n : Nat) (qs : List Rat) (r : Int × Int) (a : Int) (rows : List Row), das = [dT qs, dP r, .ple a rows] ∧ Good b n qs r a rows ∧ d = .pd .none
/-! ### worths -/
def rsum (n : Nat) (f : Nat → Rat) : Rat := ((List.range n).map f).sum
theorem rsum_zero (f : Nat → Rat) : rsum 0 f = 0 := rfl
theorem rsum_succ (n : Nat) (f : Nat → Rat) : rsum (n + 1) f = rsum n f + f n := by
  unfold rsum
  rw [List.range_succ, List.map_append, List.sum_append]
  show _ + [f n].sum = _
  rw [sum1]
theorem rsum_congr {n : Nat} {f g : Nat → Rat} (h : ∀ k, k < n → f k = g k) : rsum n f = rsum n g := by
  unfold rsum
  exact congrArg List.sum (List.map_congr_left fun k hk => h k (List.mem_range.mp hk))
def two (n : Nat) (f g : Nat → Rat) : List Rat := (List.range n).flatMap fun k => [f k, g k]
theorem two_succ (n : Nat) (f g : Nat → Rat) : two (n + 1) f g = two n f g ++ [f n, g n] := by
  unfold two
  rw [List.range_succ, List.flatMap_append]
  simp
theorem two_sum (n : Nat) (f g : Nat → Rat) : (two n f g).sum = rsum n fun k => f k + g k := by
  induction n with
  | zero => rfl
  | succ n ih => rw [two_succ, List.sum_append, ih, rsum_succ, sum2]
theorem two_len (n : Nat) (f g : Nat → Rat) : (two n f g).length = 2 * n := by
  induction n with
  | zero => rfl
  | succ n ih => rw [two_succ, List.length_append, ih]; show _ + 2 = _; omega
theorem two_mem {n : Nat} {f g : Nat → Rat} {x : Rat} (h : x ∈ two n f g) : ∃ k, k < n ∧ (x = f k ∨ x = g k) := by
  unfold two at h
  obtain ⟨k, h1, h2⟩ := List.mem_flatMap.mp h
  exact ⟨k, List.mem_range.mp h1, by simpa using h2⟩
/-- living at year k of the pledge, dying in it, coins -/
def wLiv (qs : List Rat) (v : Rat) (a : Nat) (c : Int) (k : Nat) : Rat := (c : Rat) * (lv qs a k * v ^ k)
def wDie (qs : List Rat) (v : Rat) (a : Nat) (c : Int) (k : Nat) : Rat := (c : Rat) * (lv qs a k * qs.getD (a + k) 0 * v ^ (k + 1))
/-- what is paid out, due, from year f on, at year f for one who lives then -/
def paidF (qs : List Rat) (v : Rat) (a : Nat) (rows : List Row) (f : Nat) : Rat := rsum (rows.length - f) fun k => wLiv qs v (a + f) (rowAt rows (f + k)).2.1 k + wDie qs v (a + f) (rowAt rows (f + k)).2.2 k
def dueF (qs : List Rat) (v : Rat) (a : Nat) (rows : List Row) (f : Nat) : Rat := rsum (rows.length - f) fun k => wLiv qs v (a + f) (rowAt rows (f + k)).1 k
def rOutgo (das : List Da) (d : Da) : Prop := ∃ (b n : Nat) (qs : List Rat) (r : Int × Int) (a : Int) (rows : List Row), das = [dT qs, dP r, .ple a rows] ∧ Good b n qs r a rows ∧ d = dQ (paidF qs (vq r) a.toNat rows 0)
def rIncome (das : List Da) (d : Da) : Prop := ∃ (b n : Nat) (qs : List Rat) (r : Int × Int) (a : Int) (rows : List Row), das = [dT qs, dP r, .ple a rows] ∧ Good b n qs r a rows ∧ d = dQ (dueF qs (vq r) a.toNat rows 0)
theorem bd_coin {c : Int} (h : CoinOk c) : Bd 20 (c : Rat) := Bd.int (by have := h.1; have := h.2; omega) (by decide)
theorem bd_wLiv {b n : Nat} {qs : List Rat} {r : Int × Int} {a k m : Nat} {c : Int} (tq : Tq b qs) (rt : RateOk n r) (hc : CoinOk c) (hk : k ≤ m) : Bd (150 + (m + 1) * n) (wLiv qs (vq r) a c k) := by
  have h := (bd_coin hc).mul ((bd_lv tq a k).mul (bd_pow rt.ok.vq k))
  refine h.mono ?_
  have : k * n ≤ m * n := Nat.mul_le_mul_right n hk
  rw [Nat.add_mul]
  omega
theorem bd_wDie {b n : Nat} {qs : List Rat} {r : Int × Int} {a k m : Nat} {c : Int} (tq : Tq b qs) (rt : RateOk n r) (hc : CoinOk c) (hk : k < m) (ha : a + k < qs.length) : Bd (150 + (m + 1) * n) (wDie qs (vq r) a c k) := by
  have h := (bd_coin hc).mul (((bd_lv tq a k).mul (tq.bdD ha)).mul (bd_pow rt.ok.vq (k + 1)))
  refine h.mono ?_
  have : (k + 1) * n ≤ m * n := Nat.mul_le_mul_right n hk
  have := tq.b60
  rw [Nat.add_mul m]
  omega
/-! ### what the law draws -/
def lrate (ns : List Int) : Int × Int :=
  let u := if (draw ns 5).fmod 8 = 1 ∧ (draw ns 3).fmod 8 < 3 then 1 + (draw ns 4).fmod 10000 else 1 + (draw ns 4).fmod 20
  (1 + (draw ns 6).fmod u, u)
theorem lrate_ok (ns : List Int) : RateOk 14 (lrate ns) := by
  have h1 := fm_ge (draw ns 4) (b := 10000) (by decide)
  have h2 := fm_lt (draw ns 4) (b := 10000) (by decide)
  have h3 := fm_ge (draw ns 4) (b := 20) (by decide)
  have h4 := fm_lt (draw ns 4) (b := 20) (by decide)
  have key : ∀ u : Int, 1 ≤ u → u ≤ 10000 → RateOk 14 (1 + (draw ns 6).fmod u, u) := fun u hu hl => by
    have h5 := fm_ge (draw ns 6) (b := u) (by omega)
    have h6 := fm_lt (draw ns 6) (b := u) (by omega)
    exact ⟨by show 1 ≤ 1 + _; omega, by show 1 + (draw ns 6).fmod u ≤ u; omega, hl, by show u.natAbs < 2 ^ 14; omega⟩
  unfold lrate
  split
  · exact key _ (by omega) (by omega)
  · exact key _ (by omega) (by omega)
def rLRate (das : List Da) (d : Da) : Prop := ∃ ns : List Int, das = [dS ns] ∧ d = dP (lrate ns)
def lmost (ns : List Int) : Int := [10, 1000, 1000001].getD ((draw ns 7).fmod 3).toNat 10
theorem lmost_b (ns : List Int) : 1 ≤ lmost ns ∧ lmost ns ≤ 1000001 := by
  have h1 := fm_ge (draw ns 7) (b := 3) (by decide)
  have h2 := fm_lt (draw ns 7) (b := 3) (by decide)
  unfold lmost
  have h3 : (draw ns 7).fmod 3 = 0 ∨ (draw ns 7).fmod 3 = 1 ∨ (draw ns 7).fmod 3 = 2 := by omega
  rcases h3 with e | e | e <;> rw [e] <;> decide
def rowD (ns : List Int) (k : Nat) : Row := ((draw ns (100 + 3 * (k : Int) + (0 : Nat))).fmod (lmost ns), (draw ns (100 + 3 * (k : Int) + (1 : Nat))).fmod (lmost ns), (draw ns (100 + 3 * (k : Int) + (2 : Nat))).fmod (lmost ns))
def lrows (ns : List Int) (m : Nat) : List Row := (List.range m).map (rowD ns)
theorem lrows_len (ns : List Int) (m : Nat) : (lrows ns m).length = m := by unfold lrows; rw [List.length_map, List.length_range]
theorem lrows_ok (ns : List Int) (m : Nat) : ∀ r ∈ lrows ns m, RowOk r := fun r hr => by
  unfold lrows at hr
  obtain ⟨k, _, rfl⟩ := List.mem_map.mp hr
  have hb := lmost_b ns
  have g : ∀ x : Int, CoinOk (x.fmod (lmost ns)) := fun x => by
    have h1 := fm_ge x (b := lmost ns) (by omega)
    have h2 := fm_lt x (b := lmost ns) (by omega)
    exact ⟨h1, by omega⟩
  exact ⟨g _, g _, g _⟩
def rLRows (das : List Da) (d : List PyData) : Prop := ∃ (ns : List Int) (m : Int), das = [dS ns, dI m] ∧ 0 ≤ m ∧ m ≤ 100 ∧ d = (lrows ns m.toNat).map rD
def lage (ns : List Int) (ages : Int) : Int := (draw ns 8).fmod ages
def lyears (ns : List Int) (ages : Int) : Int := 1 + (draw ns 9).fmod (if 6 < ages - lage ns ages then 6 else ages - lage ns ages)
theorem lbegin_b (ns : List Int) {ages : Int} (h : 1 ≤ ages) : 0 ≤ lage ns ages ∧ lage ns ages < ages ∧ 1 ≤ lyears ns ages ∧ lyears ns ages ≤ 6 ∧ lage ns ages + lyears ns ages ≤ ages := by
  have h1 : 0 ≤ lage ns ages := fm_ge _ (by omega)
  have h2 : lage ns ages < ages := fm_lt _ (by omega)
  unfold lyears
  split
  · have h3 := fm_ge (draw ns 9) (b := 6) (by decide)
    have h4 := fm_lt (draw ns 9) (b := 6) (by decide)
    omega
  · have h3 := fm_ge (draw ns 9) (b := ages - lage ns ages) (by omega)
    have h4 := fm_lt (draw ns 9) (b := ages - lage ns ages) (by omega)
    omega
def rBegin (das : List Da) (d : Da) : Prop := ∃ (ns : List Int) (ages : Int), das = [dS ns, dI ages] ∧ 1 ≤ ages ∧ ages ≤ 100 ∧ d = dP (lage ns ages, lyears ns ages)
def rLLater (das : List Da) (d : Da) : Prop := ∃ (n : Nat) (r : Int × Int) (y : Int), das = [dP r, dI y] ∧ Ok n r ∧ 0 ≤ y ∧ y ≤ 1000 ∧ 1 + y.toNat * n + n ≤ 8000 ∧ d = dQ (vq r ^ y.toNat)
/-- the law's own reckoning goes together -/
structure LGood (b n : Nat) (ch : List (Int × Int)) (r : Int × Int) (a : Int) (rows : List Row) : Prop where
  hch : ChOk b ch
  rt : RateOk n r
  a0 : 0 ≤ a
  fit : a + rows.length ≤ ch.length
  ok : ∀ x ∈ rows, RowOk x
  sz : 2 * rows.length * (151 + (rows.length + 1) * n) + (150 + (rows.length + 1) * n) + 1 ≤ 8999
  l1 : 1 ≤ rows.length
  l20 : rows.length ≤ 20
  small : (rows.length + 1) * n ≤ 1000
theorem LGood.row {b n : Nat} {ch : List (Int × Int)} {r : Int × Int} {a : Int} {rows : List Row} (h : LGood b n ch r a rows) {k : Nat} (hk : k < rows.length) : RowOk (rowAt rows k) := h.ok _ (getE_mem (rowAt_get hk))
theorem LGood.n8 {b n : Nat} {ch : List (Int × Int)} {r : Int × Int} {a : Int} {rows : List Row} (h : LGood b n ch r a rows) : (rows.length + 1) * n ≤ 4000 := by
  have h1 := h.l1
  have h2 := h.sz
  have h3 : 2 * 1 * (151 + (rows.length + 1) * n) ≤ 2 * rows.length * (151 + (rows.length + 1) * n) := Nat.mul_le_mul_right _ (by omega)
  omega
theorem LGood.good {b n : Nat} {ch : List (Int × Int)} {r : Int × Int} {a : Int} {rows : List Row} (h : LGood b n ch r a rows) : Good b n (ch.map vq) r a rows :=
  ⟨h.hch.tq, h.rt, ⟨h.a0, by have := h.fit; have := h.l1; have := h.hch.n20; omega, h.l1, h.l20, h.ok⟩, by rw [List.length_map]; exact h.fit, h.sz⟩
def rPaid (das : List Da) (d : Da) : Prop := ∃ (b n : Nat) (ch : List (Int × Int)) (r : Int × Int) (a : Int) (rows : List Row) (f : Int), das = [.pd (.list (ch.map pD)), dP r, dI a, .pd (.list (rows.map rD)), dI f] ∧ LGood b n ch r a rows ∧ 0 ≤ f ∧ f ≤ rows.length ∧ d = dQ (paidF (ch.map vq) (vq r) a.toNat rows f.toNat)
def rDue (das : List Da) (d : Da) : Prop := ∃ (b n : Nat) (ch : List (Int × Int)) (r : Int × Int) (a : Int) (rows : List Row) (f : Int), das = [.pd (.list (ch.map pD)), dP r, dI a, .pd (.list (rows.map rD)), dI f] ∧ LGood b n ch r a rows ∧ 0 ≤ f ∧ f ≤ rows.length ∧ d = dQ (dueF (ch.map vq) (vq r) a.toNat rows f.toNat)
def rLLess (das : List Da) (d : Da) : Prop := ∃ (x y : Rat) (n : Nat), das = [dQ x, dQ y] ∧ Bd n x ∧ Bd n y ∧ 3 * n + 3 ≤ 8999 ∧ d = dQ (x - y)
/-- the drawn things go together -/
theorem drawn_good (ns : List Int) : ∃ (ch : List (Int × Int)) (b : Nat), chs ns = ch ∧ LGood b 14 ch (lrate ns) (lage ns ch.length) (lrows ns (lyears ns ch.length).toNat) := by
  refine ⟨chs ns, mB ns, rfl, ?_⟩
  have hc := chs_ok ns
  have h1 := hc.n1
  have hb := lbegin_b ns (ages := ((chs ns).length : Int)) (by omega)
  refine ⟨hc, lrate_ok ns, hb.1, by rw [lrows_len]; omega, lrows_ok ns _, ?_, by rw [lrows_len]; omega, by rw [lrows_len]; omega, by rw [lrows_len]; omega⟩
  rw [lrows_len]
  have h6 : (lyears ns (chs ns).length).toNat ≤ 6 := by omega
  have h7 : ((lyears ns (chs ns).length).toNat + 1) * 14 ≤ 98 := by omega
  have h8 : 2 * (lyears ns (chs ns).length).toNat * (151 + ((lyears ns (chs ns).length).toNat + 1) * 14) ≤ 12 * 249 := Nat.mul_le_mul (by omega) (by omega)
  omega
end Yp
set_option Elab.async false
set_option linter.all false
set_option autoImplicit false
set_option maxRecDepth 100000
set_option maxHeartbeats 2000000
/-! What must be held, what is there: recursions, and that they are the sums. -/
namespace Yp
open PySem L2
theorem bd_paidF {b n : Nat} {ch : List (Int × Int)} {r : Int × Int} {a : Int} {rows : List Row} (h : LGood b n ch r a rows) (f : Nat) (hf : f ≤ rows.length) : Bd (1 + 2 * rows.length * (151 + (rows.length + 1) * n)) (paidF (ch.map vq) (vq r) a.toNat rows f) := by
  have h1 := bd_sum (xs := two (rows.length - f) (fun k => wLiv (ch.map vq) (vq r) (a.toNat + f) (rowAt rows (f + k)).2.1 k) (fun k => wDie (ch.map vq) (vq r) (a.toNat + f) (rowAt rows (f + k)).2.2 k)) (n := 150 + (rows.length + 1) * n) fun x hx => by
    obtain ⟨k, hk, e | e⟩ := two_mem hx
    · rw [e]; exact bd_wLiv h.hch.tq h.rt (h.row (by omega)).2.1 (by omega)
    · rw [e]; exact bd_wDie h.hch.tq h.rt (h.row (by omega)).2.2 (by omega) (by have := h.fit; have := h.a0; rw [List.length_map]; omega)
  rw [two_len, two_sum] at h1
  refine Bd.mono h1 ?_
  have : 2 * (rows.length - f) * (150 + (rows.length + 1) * n + 1) ≤ 2 * rows.length * (151 + (rows.length + 1) * n) := Nat.mul_le_mul (by omega) (by omega)
  omega
theorem bd_dueF {b n : Nat} {ch : List (Int × Int)} {r : Int × Int} {a : Int} {rows : List Row} (h : LGood b n ch r a rows) (f : Nat) (hf : f ≤ rows.length) : Bd (1 + 2 * rows.length * (151 + (rows.length + 1) * n)) (dueF (ch.map vq) (vq r) a.toNat rows f) := by
  have h1 := bd_sum (xs := (List.range (rows.length - f)).map (fun k => wLiv (ch.map vq) (vq r) (a.toNat + f) (rowAt rows (f + k)).1 k)) (n := 150 + (rows.length + 1) * n) fun x hx => by
    obtain ⟨k, hk, rfl⟩ := List.mem_map.mp hx
    have := List.mem_range.mp hk
    exact bd_wLiv h.hch.tq h.rt (h.row (by omega)).1 (by omega)
  rw [List.length_map, List.length_range] at h1
  refine Bd.mono h1 ?_
  have : (rows.length - f) * (150 + (rows.length + 1) * n + 1) ≤ 2 * rows.length * (151 + (rows.length + 1) * n) := Nat.mul_le_mul (by omega) (by omega)
  omega
theorem Ok.coin {n : Nat} {c : Int} (hc : CoinOk c) (hn : 20 ≤ n) : Ok n (c, 1) := ⟨(by decide : (0 : Int) < 1), lt2_mono (bd_coin hc).1 hn, Nat.one_lt_two_pow (by omega)⟩
theorem map_pD_pq (l : List Rat) : (l.map fun x => pD (pq x)) = (l.map pq).map pD := by rw [List.map_map]; rfl
theorem map_vq_pq (l : List Rat) : (l.map pq).map vq = l := by
  induction l with
  | nil => rfl
  | cons x r ih => rw [List.map_cons, List.map_cons, ih, vq_pq]
theorem mul3_c (L x c : Rat) : L * (x * c) = c * (L * x) := by grind
theorem mul4_c (L q x c : Rat) : L * (q * (x * c)) = c * (L * q * x) := by grind
/-- need, by the years to come: j years before the end -/
def needR (qs : List Rat) (v : Rat) (a : Nat) (rows : List Row) : Nat → Rat
  | 0 => 0
  | j + 1 =>
    let k := rows.length - (j + 1)
    (((rowAt rows k).2.1 - (rowAt rows k).1 : Int) : Rat) + v * (((rowAt rows k).2.2 : Rat) * qs.getD (a + k) 0 + needR qs v a rows j * (1 - qs.getD (a + k) 0))
def heldR (qs : List Rat) (v : Rat) (a : Nat) (rows : List Row) : Nat → Rat
  | 0 => 0
  | k + 1 => ((heldR qs v a rows k + (((rowAt rows k).1 - (rowAt rows k).2.1 : Int) : Rat)) / v - ((rowAt rows k).2.2 : Rat) * qs.getD (a + k) 0) / (1 - qs.getD (a + k) 0)
theorem bd_diff {x y : Int} (hx : CoinOk x) (hy : CoinOk y) : Bd 20 ((x - y : Int) : Rat) := Bd.int (by have := hx.1; have := hx.2; have := hy.1; have := hy.2; omega) (by decide)
theorem bd_need {b n : Nat} {qs : List Rat} {r : Int × Int} {a : Int} {rows : List Row} (h : Good b n qs r a rows) : ∀ j, j ≤ rows.length → Bd (1 + j * (2 * b + n + 50)) (needR qs (vq r) a.toNat rows j)
  | 0, _ => by
    show Bd (1 + 0 * _) 0
    rw [Nat.zero_mul]
    exact bd_zero
  | j + 1, hj => by
    have ih := bd_need h j (by omega)
    have hk : rows.length - (j + 1) < rows.length := by omega
    have hq : a.toNat + (rows.length - (j + 1)) < qs.length := by have := h.fit; have := h.pl.a0; omega
    obtain ⟨c0, c1, c2⟩ := h.pl.row hk
    have h1 := (bd_diff c1 c0).add (h.rt.ok.vq.mul (((bd_coin c2).mul (h.tq.bdD hq)).add (ih.mul (h.tq.blD hq))))
    refine h1.mono ?_
    rw [Nat.add_mul]
    omega
theorem bd_held {b n : Nat} {qs : List Rat} {r : Int × Int} {a : Int} {rows : List Row} (h : Good b n qs r a rows) : ∀ k, a.toNat + k < qs.length → k ≤ rows.length → Bd (1 + k * (2 * b + n + 50)) (heldR qs (vq r) a.toNat rows k)
  | 0, _, _ => by
    show Bd (1 + 0 * _) 0
    rw [Nat.zero_mul]
    exact bd_zero
  | k + 1, hl, hk => by
    have ih := bd_held h k (by omega) (by omega)
    obtain ⟨c0, c1, c2⟩ := h.pl.row (k := k) (by omega)
    have hq : a.toNat + k < qs.length := by omega
    have hne : (1 - qs.getD (a.toNat + k) 0) ≠ 0 := fun e => h.tq.lt (a.toNat + k) (qs.getD (a.toNat + k) 0) (by omega) (by rw [List.getD_eq_getElem?_getD, List.getElem?_eq_getElem hq]; rfl) (by grind)
    have h1 := (((ih.add (bd_diff c0 c1)).div h.rt.ok.vq h.rt.ne).sub ((bd_coin c2).mul (h.tq.bdD hq))).div (h.tq.blD hq) hne
    refine h1.mono ?_
    rw [Nat.add_mul]
    omega
theorem Good.nb {b n : Nat} {qs : List Rat} {r : Int × Int} {a : Int} {rows : List Row} (h : Good b n qs r a rows) : rows.length * b ≤ 60 := by
  have h1 := h.tq.sz
  have h2 : rows.length * b ≤ qs.length * b := Nat.mul_le_mul_right b (by have := h.fit; have := h.pl.a0; omega)
  omega
/-- the bits of need and held -/
theorem Good.small {b n : Nat} {qs : List Rat} {r : Int × Int} {a : Int} {rows : List Row} (h : Good b n qs r a rows) {j : Nat} (hj : j ≤ rows.length) : j * (2 * b + n + 50) + n ≤ 5200 := by
  have h1 := h.nb
  have h2 := h.n8
  have h3 := h.pl.l20
  have h4 : j * (2 * b + n + 50) = 2 * (j * b) + j * n + j * 50 := by
    rw [Nat.mul_add, Nat.mul_add, Nat.mul_left_comm]
  have h5 : j * b ≤ rows.length * b := Nat.mul_le_mul_right b hj
  have h6 : (j + 1) * n ≤ (rows.length + 1) * n := Nat.mul_le_mul_right n (by omega)
  rw [Nat.add_mul] at h6
  omega
def rSeeYear (das : List Da) (d : Da) : Prop := ∃ (qs : List Rat) (a : Int) (rows : List Row) (y : Int), das = [dT qs, .ple a rows, dI y] ∧ 0 ≤ y ∧ y ≤ rows.length ∧ a + y < qs.length ∧ d = .pd .none
def rNeed (das : List Da) (d : Da) : Prop := ∃ (b n : Nat) (qs : List Rat) (r : Int × Int) (a : Int) (rows : List Row) (y : Int), das = [dT qs, dP r, .ple a rows, dI y] ∧ Good b n qs r a rows ∧ 0 ≤ y ∧ y ≤ rows.length ∧ a + y < qs.length ∧ d = dQ (needR qs (vq r) a.toNat rows (rows.length - y.toNat))
def rHeld (das : List Da) (d : Da) : Prop := ∃ (b n : Nat) (qs : List Rat) (r : Int × Int) (a : Int) (rows : List Row) (y : Int), das = [dT qs, dP r, .ple a rows, dI y] ∧ Good b n qs r a rows ∧ 0 ≤ y ∧ y ≤ rows.length ∧ a + y < qs.length ∧ d = dQ (heldR qs (vq r) a.toNat rows y.toNat)
/-! ### the chance to live on, a year at a time -/
theorem lv_zero {qs : List Rat} {a : Nat} (h : a < qs.length) : lv qs a 0 = 1 := by
  unfold lv
  rw [if_neg (by omega)]
  rfl
theorem rprod_range_cons (f : Nat → Rat) (n : Nat) : rprod ((List.range (n + 1)).map f) = f 0 * rprod ((List.range n).map fun k => f (k + 1)) := by
  rw [List.range_succ_eq_map, List.map_cons, rprod_cons, List.map_map]
  rfl
theorem lv_step {qs : List Rat} {b a k : Nat} (tq : Tq b qs) (h : a + k < qs.length) : lv qs a (k + 1) = lv qs a k * (1 - qs.getD (a + k) 0) := by
  unfold lv
  rw [if_neg (by omega : ¬ qs.length ≤ a + k)]
  split
  · have e : qs.getD (a + k) 0 = 1 := tq.last (a + k) _ (by omega) (by rw [List.getD_eq_getElem?_getD, List.getElem?_eq_getElem h]; rfl)
    rw [e]
    grind
  · rw [rprod_range_succ]
theorem lv_head {qs : List Rat} {b a k : Nat} (tq : Tq b qs) (h : a < qs.length) : lv qs a (k + 1) = (1 - qs.getD a 0) * lv qs (a + 1) k := by
  unfold lv
  have e : a + (k + 1) = a + 1 + k := by omega
  rw [e]
  split
  · grind
  · rw [rprod_range_cons]
    have e2 : (fun k => 1 - qs.getD (a + (k + 1)) 0) = fun k => 1 - qs.getD (a + 1 + k) 0 := by
      funext k
      rw [show a + (k + 1) = a + 1 + k by omega]
    rw [e2]
    rfl
theorem rsum_add (n : Nat) (f g : Nat → Rat) : rsum n (fun k => f k + g k) = rsum n f + rsum n g := by
  induction n with
  | zero => rw [rsum_zero, rsum_zero, rsum_zero]; grind
  | succ n ih => rw [rsum_succ, rsum_succ, rsum_succ, ih]; grind
theorem rsum_mul (n : Nat) (c : Rat) (f : Nat → Rat) : rsum n (fun k => c * f k) = c * rsum n f := by
  induction n with
  | zero => rw [rsum_zero, rsum_zero]; grind
  | succ n ih => rw [rsum_succ, rsum_succ, ih]; grind
theorem rsum_sub (n : Nat) (f g : Nat → Rat) : rsum n (fun k => f k - g k) = rsum n f - rsum n g := by
  induction n with
  | zero => rw [rsum_zero, rsum_zero, rsum_zero]; grind
  | succ n ih => rw [rsum_succ, rsum_succ, rsum_succ, ih]; grind
theorem rsum_head (n : Nat) (f : Nat → Rat) : rsum (n + 1) f = f 0 + rsum n fun k => f (k + 1) := by
  unfold rsum
  rw [List.range_succ_eq_map, List.map_cons, List.sum_cons, List.map_map]
  rfl
/-- what must be held is the worth of what will be paid less that of what will be due -/
theorem need_eq {qs : List Rat} {b : Nat} {v : Rat} {a : Nat} {rows : List Row} (tq : Tq b qs) (fit : a + rows.length ≤ qs.length) : ∀ (j f : Nat), f + j = rows.length → a + f < qs.length → needR qs v a rows j = paidF qs v a rows f - dueF qs v a rows f
  | 0, f, hf, _ => by
    unfold paidF dueF
    rw [show rows.length - f = 0 by omega, rsum_zero, rsum_zero]
    show (0 : Rat) = 0 - 0
    grind
  | j + 1, f, hf, hl => by
    have hk : rows.length - (j + 1) = f := by omega
    have e1 : rows.length - f = j + 1 := by omega
    have e2 : rows.length - (f + 1) = j := by omega
    have l0 : lv qs (a + f) 0 = 1 := lv_zero hl
    have hstep : paidF qs v a rows f - dueF qs v a rows f = (((rowAt rows f).2.1 - (rowAt rows f).1 : Int) : Rat) + v * (((rowAt rows f).2.2 : Rat) * qs.getD (a + f) 0 + (paidF qs v a rows (f + 1) - dueF qs v a rows (f + 1)) * (1 - qs.getD (a + f) 0)) := by
      unfold paidF dueF
      rw [e1, e2, rsum_head, rsum_head, ← rsum_sub]
      have t1 : ∀ k, wLiv qs v (a + f) (rowAt rows (f + (k + 1))).2.1 (k + 1) + wDie qs v (a + f) (rowAt rows (f + (k + 1))).2.2 (k + 1) = v * (1 - qs.getD (a + f) 0) * (wLiv qs v (a + (f + 1)) (rowAt rows (f + 1 + k)).2.1 k + wDie qs v (a + (f + 1)) (rowAt rows (f + 1 + k)).2.2 k) := fun k => by
        unfold wLiv wDie
        rw [lv_head tq hl, show f + (k + 1) = f + 1 + k by omega, show a + f + 1 = a + (f + 1) by omega, show a + f + (k + 1) = a + (f + 1) + k by omega, Rat.pow_succ v (k + 1), Rat.pow_succ v k]
        grind
      have t2 : ∀ k, wLiv qs v (a + f) (rowAt rows (f + (k + 1))).1 (k + 1) = v * (1 - qs.getD (a + f) 0) * wLiv qs v (a + (f + 1)) (rowAt rows (f + 1 + k)).1 k := fun k => by
        unfold wLiv
        rw [lv_head tq hl, show f + (k + 1) = f + 1 + k by omega, show a + f + 1 = a + (f + 1) by omega, Rat.pow_succ v k]
        grind
      rw [rsum_congr (fun k _ => t1 k), rsum_congr (n := j) (f := fun k => wLiv qs v (a + f) (rowAt rows (f + (k + 1))).1 (k + 1)) (fun k _ => t2 k), rsum_mul, rsum_mul, rsum_sub]
      unfold wLiv wDie
      rw [Nat.add_zero, Nat.add_zero, l0, Rat.pow_zero, Rat.pow_succ, Rat.pow_zero, Rat.intCast_sub]
      grind
    rw [hstep]
    show (((rowAt rows (rows.length - (j + 1))).2.1 - (rowAt rows (rows.length - (j + 1))).1 : Int) : Rat) + v * (((rowAt rows (rows.length - (j + 1))).2.2 : Rat) * qs.getD (a + (rows.length - (j + 1))) 0 + needR qs v a rows j * (1 - qs.getD (a + (rows.length - (j + 1))) 0)) = _
    rw [hk]
    by_cases hl2 : a + (f + 1) < qs.length
    · rw [need_eq tq fit j (f + 1) (by omega) hl2]
    · have e : qs.getD (a + f) 0 = 1 := tq.last (a + f) _ (by omega) (by rw [List.getD_eq_getElem?_getD, List.getElem?_eq_getElem hl]; rfl)
      rw [e]
      grind

theorem div_vq (y : Rat) {t u : Int} : y / vq (t, u) = Rat.divInt (y.num * u) ((y.den : Int) * t) := by
  unfold vq
  rw [Rat.div_def, Rat.inv_divInt]
  conv => lhs; lhs; rw [← Rat.num_divInt_den y]
  rw [Rat.divInt_mul_divInt]
/-- one year further, as the law reckons it -/
def nextR (x v q : Rat) (ro : Row) : Rat := ((x + ((ro.1 - ro.2.1 : Int) : Rat)) / v - (ro.2.2 : Rat) * q) / (1 - q)
def rNext (das : List Da) (d : Da) : Prop := ∃ (x : Rat) (r p : Int × Int) (ro : Row) (n b m : Nat), das = [dQ x, dP r, dP p, .pd (rD ro)] ∧ Bd m x ∧ RateOk n r ∧ 0 ≤ p.1 ∧ p.1 < p.2 ∧ p.2.natAbs < 2 ^ b ∧ RowOk ro ∧ 3 * m + 3 * n + 3 * b + 300 ≤ 8999 ∧ d = dQ (nextR x (vq r) (vq p) ro)
end Yp
set_option Elab.async false
set_option linter.all false
set_option autoImplicit false
set_option maxRecDepth 100000
set_option maxHeartbeats 2000000
/-! Forward and back; the least number of lives; the book of a house. -/
namespace Yp
open PySem L2
theorem getD_ne_one {b : Nat} {qs : List Rat} {i : Nat} (tq : Tq b qs) (h : i + 1 < qs.length) : 1 - qs.getD i 0 ≠ 0 := fun e => tq.lt i (qs.getD i 0) h (by rw [List.getD_eq_getElem?_getD, List.getElem?_eq_getElem (by omega)]; rfl) (by grind)
theorem back_step (h c N d q v l vk : Rat) (hv : v ≠ 0) (hq : 1 - q ≠ 0) : (((h + c) / v - d * q) / (1 - q) - N) * (l * (1 - q)) * (vk * v) = (h - (-c + v * (d * q + N * (1 - q)))) * l * vk := by
  have e1 : (h + c) / v * v = h + c := by grind
  have e2 : ((h + c) / v - d * q) / (1 - q) * (1 - q) = (h + c) / v - d * q := by grind
  generalize ((h + c) / v - d * q) / (1 - q) = x at *
  generalize (h + c) / v = y at *
  grind
theorem forward_back {b : Nat} {qs : List Rat} {v : Rat} {a : Nat} {rows : List Row} (tq : Tq b qs) (hv : v ≠ 0) (fit : a + rows.length ≤ qs.length) (l1 : 1 ≤ rows.length) : ∀ y, y ≤ rows.length → a + y < qs.length →
    (heldR qs v a rows y - needR qs v a rows (rows.length - y)) * lv qs a y * v ^ y = dueF qs v a rows 0 - paidF qs v a rows 0
  | 0, _, hl => by
    have h := need_eq (v := v) tq fit rows.length 0 (by omega) hl
    rw [Nat.sub_zero, h, lv_zero (show a < qs.length by omega), Rat.pow_zero]
    show (0 - _) * 1 * 1 = _
    grind
  | y + 1, hy, hl => by
    have ih := forward_back tq hv fit l1 y (by omega) (by omega)
    rw [← ih, lv_step tq (by omega), Rat.pow_succ]
    have e1 : rows.length - y = (rows.length - (y + 1)) + 1 := by omega
    have e2 : rows.length - (rows.length - (y + 1) + 1) = y := by omega
    rw [e1]
    have hn : needR qs v a rows (rows.length - (y + 1) + 1) = (((rowAt rows y).2.1 - (rowAt rows y).1 : Int) : Rat) + v * (((rowAt rows y).2.2 : Rat) * qs.getD (a + y) 0 + needR qs v a rows (rows.length - (y + 1)) * (1 - qs.getD (a + y) 0)) := by
      show (((rowAt rows (rows.length - (rows.length - (y + 1) + 1))).2.1 - (rowAt rows (rows.length - (rows.length - (y + 1) + 1))).1 : Int) : Rat) + v * (((rowAt rows (rows.length - (rows.length - (y + 1) + 1))).2.2 : Rat) * qs.getD (a + (rows.length - (rows.length - (y + 1) + 1))) 0 + needR qs v a rows (rows.length - (y + 1)) * (1 - qs.getD (a + (rows.length - (rows.length - (y + 1) + 1))) 0)) = _
      rw [e2]
    rw [hn]
    have hh : heldR qs v a rows (y + 1) = ((heldR qs v a rows y + (((rowAt rows y).1 - (rowAt rows y).2.1 : Int) : Rat)) / v - ((rowAt rows y).2.2 : Rat) * qs.getD (a + y) 0) / (1 - qs.getD (a + y) 0) := rfl
    rw [hh, back_step _ _ _ _ _ _ _ _ hv (getD_ne_one tq (by omega))]
    have e3 : (((rowAt rows y).2.1 - (rowAt rows y).1 : Int) : Rat) = -(((rowAt rows y).1 - (rowAt rows y).2.1 : Int) : Rat) := by
      rw [← Rat.intCast_neg, Int.neg_sub]
    rw [e3]
/-! ### the least number of lives -/
def dn (qs : List Rat) (a k : Nat) : Int := (lv qs a k).den
def fewI (qs : List Rat) (a : Nat) : Nat → Int
  | 0 => 1
  | i + 1 => fewI qs a i * dn qs a i / (Int.gcd (fewI qs a i) (dn qs a i) : Int)
theorem dn_pos (qs : List Rat) (a k : Nat) : 0 < dn qs a k := by
  unfold dn
  have := (lv qs a k).den_pos
  omega
theorem gcd_pos_r {t u : Int} (h : 0 < u) : (0 : Int) < (Int.gcd t u : Int) := by
  have := gcd_ne (t := t) (u := u) (by omega)
  omega
theorem lcm_form (x u : Int) : x * u / (Int.gcd x u : Int) = x / (Int.gcd x u : Int) * u := Int.mul_ediv_assoc' u (Int.gcd_dvd_left x u)
theorem lcm_form2 (x u : Int) : x * u / (Int.gcd x u : Int) = x * (u / (Int.gcd x u : Int)) := Int.mul_ediv_assoc x (Int.gcd_dvd_right x u)
theorem fewI_pos (qs : List Rat) (a : Nat) : ∀ i, 0 < fewI qs a i
  | 0 => by show (0 : Int) < 1; decide
  | i + 1 => by
    have ih := fewI_pos qs a i
    have hu := dn_pos qs a i
    have hg := gcd_pos_r (t := fewI qs a i) hu
    show 0 < fewI qs a i * dn qs a i / (Int.gcd (fewI qs a i) (dn qs a i) : Int)
    rw [lcm_form2]
    refine Int.mul_pos ih ?_
    exact Int.ediv_pos_of_pos_of_dvd hu (by omega) (Int.gcd_dvd_right _ _)
theorem fewI_dvd_succ (qs : List Rat) (a i : Nat) : fewI qs a i ∣ fewI qs a (i + 1) := by
  show fewI qs a i ∣ fewI qs a i * dn qs a i / (Int.gcd (fewI qs a i) (dn qs a i) : Int)
  rw [lcm_form2]
  exact Int.dvd_mul_right _ _
theorem dn_dvd_succ (qs : List Rat) (a i : Nat) : dn qs a i ∣ fewI qs a (i + 1) := by
  show dn qs a i ∣ fewI qs a i * dn qs a i / (Int.gcd (fewI qs a i) (dn qs a i) : Int)
  rw [lcm_form]
  exact Int.dvd_mul_left _ _
theorem dn_dvd (qs : List Rat) (a : Nat) : ∀ i k, k < i → dn qs a k ∣ fewI qs a i
  | 0, k, h => by omega
  | i + 1, k, h => by
    by_cases e : k = i
    · rw [e]; exact dn_dvd_succ qs a i
    · exact Int.dvd_trans (dn_dvd qs a i k (by omega)) (fewI_dvd_succ qs a i)
theorem bd_few {b : Nat} {qs : List Rat} (tq : Tq b qs) (a : Nat) : ∀ i, (fewI qs a i).natAbs < 2 ^ (1 + 61 * i)
  | 0 => by show (1 : Int).natAbs < 2 ^ (1 + 61 * 0); decide
  | i + 1 => by
    have ih := bd_few tq a i
    have hu : (dn qs a i).natAbs < 2 ^ 61 := (bd_lv tq a i).2
    refine Nat.lt_of_le_of_lt (natAbs_div_le _ _) ?_
    have h := mul_lt2 ih hu
    rw [show 1 + 61 * (i + 1) = 1 + 61 * i + 61 by omega]
    exact h
def rFewest (das : List Da) (d : Da) : Prop := ∃ (b : Nat) (qs : List Rat) (a : Int) (rows : List Row), das = [dT qs, .ple a rows] ∧ Tq b qs ∧ PlOk a rows ∧ a + rows.length ≤ qs.length ∧ d = dI (fewI qs a.toNat (rows.length + 1))
/-! ### the book -/
/-- how many live at year k: m lives at the beginning -/
def livN (qs : List Rat) (m : Int) (a k : Nat) : Int := ((m : Rat) * lv qs a k).num
theorem livN_eq {qs : List Rat} {m : Int} {a k : Nat} (h : dn qs a k ∣ m) : ((livN qs m a k : Int) : Rat) = (m : Rat) * lv qs a k := by
  obtain ⟨c, rfl⟩ := h
  unfold livN dn
  have e : (((lv qs a k).den : Int) * c : Int) = (((lv qs a k).den : Int) * c) := rfl
  have h1 : ((((lv qs a k).den : Int) * c : Int) : Rat) * lv qs a k = ((c * (lv qs a k).num : Int) : Rat) := by
    rw [Rat.intCast_mul, Rat.intCast_mul]
    have h2 : lv qs a k * (((lv qs a k).den : Int) : Rat) = ((lv qs a k).num : Rat) := by
      have h3 : lv qs a k = (((lv qs a k).num : Int) : Rat) / (((lv qs a k).den : Int) : Rat) := by
        rw [← Rat.divInt_eq_div, Rat.num_divInt_den]
      have h4 : (((lv qs a k).den : Int) : Rat) ≠ 0 := fun e => den_ne (lv qs a k) (Rat.intCast_eq_zero_iff.mp e)
      generalize ((((lv qs a k).num : Int) : Rat)) = n at *
      generalize ((((lv qs a k).den : Int) : Rat)) = d at *
      rw [h3]
      grind
    grind
  rw [h1, Rat.num_intCast]
def bookM (qs : List Rat) (v : Rat) (m : Int) (a : Nat) (rows : List Row) : Nat → Rat
  | 0 => 0
  | k + 1 => (bookM qs v m a rows k + ((livN qs m a k * ((rowAt rows k).1 - (rowAt rows k).2.1) : Int) : Rat)) / v - (((livN qs m a k - livN qs m a (k + 1)) * (rowAt rows k).2.2 : Int) : Rat)
/-- what the book has at the end is so many times what is due less what is paid -/
theorem book_end {b : Nat} {qs : List Rat} {v : Rat} {m : Int} {a : Nat} {rows : List Row} (tq : Tq b qs) (hv : v ≠ 0) (fit : a + rows.length ≤ qs.length) (hm : ∀ k, k ≤ rows.length → dn qs a k ∣ m) : ∀ j, j ≤ rows.length →
    bookM qs v m a rows j * v ^ j = (m : Rat) * ((rsum j fun k => wLiv qs v a (rowAt rows k).1 k) - rsum j fun k => wLiv qs v a (rowAt rows k).2.1 k + wDie qs v a (rowAt rows k).2.2 k)
  | 0, _ => by
    rw [rsum_zero, rsum_zero]
    show 0 * _ = _
    grind
  | j + 1, hj => by
    have ih := book_end tq hv fit hm j (by omega)
    have hL := livN_eq (hm j (by omega))
    have hL1 := livN_eq (hm (j + 1) hj)
    rw [lv_step tq (by omega)] at hL1
    rw [rsum_succ, rsum_succ, Rat.pow_succ]
    show ((bookM qs v m a rows j + ((livN qs m a j * ((rowAt rows j).1 - (rowAt rows j).2.1) : Int) : Rat)) / v - (((livN qs m a j - livN qs m a (j + 1)) * (rowAt rows j).2.2 : Int) : Rat)) * (v ^ j * v) = _
    rw [Rat.intCast_mul, Rat.intCast_mul, Rat.intCast_sub, Rat.intCast_sub, hL, hL1]
    generalize rsum j (fun k => wLiv qs v a (rowAt rows k).1 k) = S1 at *
    generalize rsum j (fun k => wLiv qs v a (rowAt rows k).2.1 k + wDie qs v a (rowAt rows k).2.2 k) = S2 at *
    unfold wLiv wDie
    rw [Rat.pow_succ]
    generalize bookM qs v m a rows j = B at *
    generalize lv qs a j = l at *
    generalize v ^ j = w at *
    generalize qs.getD (a + j) 0 = q at *
    have e : ∀ x : Rat, x / v * v = x := fun x => by grind
    have e2 := e (B + (m : Rat) * l * (((rowAt rows j).1 : Rat) - ((rowAt rows j).2.1 : Rat)))
    generalize (B + (m : Rat) * l * (((rowAt rows j).1 : Rat) - ((rowAt rows j).2.1 : Rat))) / v = y at *
    grind

def bookRow (qs : List Rat) (v : Rat) (m : Int) (a : Nat) (rows : List Row) (k : Nat) : PyData := .tuple [.int (livN qs m a k), .int (livN qs m a k - livN qs m a (k + 1)), pD (pq (bookM qs v m a rows (k + 1)))]
theorem bd_livN {b B : Nat} {qs : List Rat} {m : Int} (tq : Tq b qs) (hm : m.natAbs < 2 ^ B) (hB : 0 < B) (a k : Nat) : (livN qs m a k).natAbs < 2 ^ (B + 61) := ((Bd.int hm hB).mul (bd_lv tq a k)).1
theorem book_alg (N A E s t w : Rat) (hs : s ≠ 0) (ht : t ≠ 0) (hw : w ≠ 0) : (N / w + A) / (s / t) - E = ((N + A * w) * t - E * (w * s)) / (w * s) := by grind
theorem bd_book {b B n : Nat} {qs : List Rat} {r : Int × Int} {m : Int} {a : Nat} {rows : List Row} (tq : Tq b qs) (hm : m.natAbs < 2 ^ B) (hB : 0 < B) (rt : RateOk n r) (ok : ∀ k, k < rows.length → RowOk (rowAt rows k)) : ∀ k, k ≤ rows.length →
    ∃ N : Int, bookM qs (vq r) m a rows k = (N : Rat) / ((r.1 ^ k : Int) : Rat) ∧ N.natAbs < 2 ^ (B + 86 + k * (n + 2)) ∧ (r.1 ^ k).natAbs < 2 ^ (1 + k * n)
  | 0, _ => ⟨0, by show (0 : Rat) = _; grind, Nat.pow_pos (by decide), by rw [Int.pow_zero, Nat.zero_mul]; decide⟩
  | k + 1, hk => by
    obtain ⟨N, e, hN, hD⟩ := bd_book tq hm hB rt ok k (by omega)
    obtain ⟨c0, c1, c2⟩ := ok k (by omega)
    have hL := bd_livN tq hm hB a k
    have hL1 := bd_livN tq hm hB a (k + 1)
    have h1 := rt.h1
    have h2 := rt.h2
    have ht : r.2.natAbs < 2 ^ n := rt.h4
    have hs : r.1.natAbs < 2 ^ n := rt.ok.2.1
    have hs0 : (r.1 : Rat) ≠ 0 := fun e => by have := Rat.intCast_eq_zero_iff.mp e; omega
    have ht0 : (r.2 : Rat) ≠ 0 := fun e => by have := Rat.intCast_eq_zero_iff.mp e; omega
    have hw0 : ((r.1 ^ k : Int) : Rat) ≠ 0 := fun e => by
      have h3 := Rat.intCast_eq_zero_iff.mp e
      have h4 : r.1 ^ k ≠ 0 := Int.pow_ne_zero (by omega)
      exact h4 h3
    have hv : vq r = (r.1 : Rat) / (r.2 : Rat) := Rat.divInt_eq_div _ _
    refine ⟨(N + livN qs m a k * ((rowAt rows k).1 - (rowAt rows k).2.1) * r.1 ^ k) * r.2 - (livN qs m a k - livN qs m a (k + 1)) * (rowAt rows k).2.2 * (r.1 ^ k * r.1), ?_, ?_, ?_⟩
    · show (bookM qs (vq r) m a rows k + ((livN qs m a k * ((rowAt rows k).1 - (rowAt rows k).2.1) : Int) : Rat)) / vq r - (((livN qs m a k - livN qs m a (k + 1)) * (rowAt rows k).2.2 : Int) : Rat) = _
      rw [e, hv, book_alg _ _ _ _ _ _ hs0 ht0 hw0, Int.pow_succ]
      simp only [Rat.intCast_mul, Rat.intCast_sub, Rat.intCast_add]
    · have g1 : (livN qs m a k * ((rowAt rows k).1 - (rowAt rows k).2.1)).natAbs < 2 ^ (B + 61 + 20) := mul_lt2 hL (bd_diff c0 c1).1
      have g2 := mul_lt2 g1 hD
      have g3 : (N + livN qs m a k * ((rowAt rows k).1 - (rowAt rows k).2.1) * r.1 ^ k).natAbs < 2 ^ (B + 86 + k * (n + 2) + 1) := add_lt2 hN (lt2_mono g2 (by rw [Nat.mul_add]; omega))
      have g4 := mul_lt2 g3 ht
      have g5 : (livN qs m a k - livN qs m a (k + 1)).natAbs < 2 ^ (B + 61 + 1) := by rw [Int.sub_eq_add_neg]; exact add_lt2 hL (lt2_neg hL1)
      have g6 : ((livN qs m a k - livN qs m a (k + 1)) * (rowAt rows k).2.2).natAbs < 2 ^ (B + 61 + 1 + 20) := mul_lt2 g5 (bd_coin c2).1
      have g7 := mul_lt2 g6 (mul_lt2 hD hs)
      rw [Int.sub_eq_add_neg]
      have e1 : B + 86 + (k + 1) * (n + 2) = B + 86 + k * (n + 2) + 1 + n + 1 := by rw [Nat.add_mul]; omega
      rw [e1]
      exact add_lt2 g4 (lt2_neg (lt2_mono g7 (by rw [Nat.mul_add]; omega)))
    · rw [Int.pow_succ]
      refine lt2_mono (mul_lt2 hD hs) ?_
      rw [Nat.add_mul]
      omega
theorem bd_bookM {b B n : Nat} {qs : List Rat} {r : Int × Int} {m : Int} {a : Nat} {rows : List Row} (tq : Tq b qs) (hm : m.natAbs < 2 ^ B) (hB : 0 < B) (rt : RateOk n r) (ok : ∀ k, k < rows.length → RowOk (rowAt rows k)) {k : Nat} (hk : k ≤ rows.length) : Bd (B + 86 + rows.length * (n + 2)) (bookM qs (vq r) m a rows k) := by
  obtain ⟨N, e, hN, hD⟩ := bd_book (a := a) tq hm hB rt ok k hk
  have h3 : k * (n + 2) ≤ rows.length * (n + 2) := Nat.mul_le_mul_right _ hk
  have h4 : k * n ≤ k * (n + 2) := Nat.mul_le_mul_left _ (by omega)
  rw [e, ← Rat.divInt_eq_div]
  refine bd_divInt ?_ (lt2_mono hN (by omega)) (lt2_mono hD (by omega))
  exact Int.pow_ne_zero (by have := rt.h1; omega)
def rBook (das : List Da) (d : List PyData) : Prop := ∃ (b n B : Nat) (qs : List Rat) (r : Int × Int) (a : Int) (rows : List Row) (m : Int), das = [dT qs, dP r, .ple a rows, dI m] ∧ Good b n qs r a rows ∧ 1 ≤ m ∧ fewI qs a.toNat (rows.length + 1) ∣ m ∧ m.natAbs < 2 ^ B ∧ 4 * B + 600 + 4 * (rows.length + 1) * (n + 2) ≤ 8999 ∧ d = (List.range rows.length).map (bookRow qs (vq r) m a.toNat rows)
def rYear (das : List Da) (d : Da) : Prop := ∃ (x : Rat) (r : Int × Int) (L D : Int) (ro : Row) (n B m : Nat), das = [dQ x, dP r, dI L, dI D, .pd (rD ro)] ∧ Bd m x ∧ RateOk n r ∧ L.natAbs < 2 ^ B ∧ D.natAbs < 2 ^ B ∧ RowOk ro ∧ 4 * m + 4 * n + 4 * B + 300 ≤ 8999 ∧ d = dQ ((x + ((L * (ro.1 - ro.2.1) : Int) : Rat)) / vq r - ((D * ro.2.2 : Int) : Rat))
theorem fmod_dvd {a b : Int} (hb : 0 < b) (h : b ∣ a) : a.fmod b = 0 := by
  rw [Int.fmod_eq_emod_of_nonneg _ (by omega)]
  exact Int.emod_eq_zero_of_dvd h

theorem xd_slT {C : Kx} {ds : List Sl} {te : TE} {tl th : TO} {es : List PyData} {lo hi : Option Int} (h : XD C te ds (.pd (.tuple es))) (h1 : OD C tl ds lo) (h2 : OD C th ds hi) (hw : ¬ (HT.sIx es.length 0 lo = 0 ∧ HT.sIx es.length es.length hi = es.length)) (hz : es.length ≤ 100000) : XD C (tSl (rSlT C.K) te tl th) ds (.pd (.tuple (cutD es lo hi))) := fun G0 H0 G H σ e Q q =>
  h G0 H0 G H σ e _ fun v G1 H1 s1 r1 => h1 G0 H0 G1 H1 σ (e.step s1) _ fun G2 H2 s2 => h2 G0 H0 G2 H2 σ ((e.step s1).step s2) _ fun G3 H3 s3 => by
    obtain ⟨p, vs, e1, e2, e3⟩ := dp_tup (dp_mono (s2.g.trans s3.g) _ _ r1)
    subst e1
    refine ⟨p, vs, rfl, Evl.ex_t s3.s e2, by rw [dpa_len e3]; exact hw, fun l hl => q _ _ _ (((s1.trans s2).trans s3).trans (.new s3.s hl)) ?_⟩
    exact Dp.tup (Evl.st_of upd_same) (dpAll_mono (Evl.Ex.new (Evl.fresh_back s3.s hl)) _ _ (dpa_cut e3 lo hi))
theorem shaped_bookRow (qs : List Rat) (v : Rat) (m : Int) (a : Nat) (rows : List Row) (xs : List Nat) : SeqAt.shaped (.list (xs.map (bookRow qs v m a rows))) = true :=
  shaped_map _ 2 (by decide) (fun k => by simp only [bookRow, pD, PyData.canLay0, PyData.canLayAll0, Bool.and_self]) (fun k => by simp only [bookRow, pD, PyData.depth, PyData.depthAll]; omega) xs

theorem sIx3 (x y z : PyData) : ¬ (HT.sIx [x, y, z].length 0 none = 0 ∧ HT.sIx [x, y, z].length [x, y, z].length (some 2) = [x, y, z].length) := by
  show ¬ (HT.sIx 3 0 none = 0 ∧ HT.sIx 3 3 (some 2) = 3)
  decide
theorem cut2of3 (x y z : PyData) : (Da.pd (.tuple (cutD [x, y, z] none (some 2)))) = .pd (.tuple [x, y]) := congrArg (fun l => Da.pd (.tuple l)) (cut_to [x, y, z] 2)
theorem shaped_ii (i j : Int) : SeqAt.shaped (.tuple [.int i, .int j]) = true := rfl
end Yp
set_option Elab.async false
set_option linter.all false
set_option autoImplicit false
set_option maxRecDepth 100000
set_option maxHeartbeats 2000000
/-! The ends of a pledge. -/
namespace Yp
open PySem L2
def coinD (rows : List Row) (k : Nat) : Rat := (((rowAt rows k).2.1 - (rowAt rows k).1 : Int) : Rat)
def lossG (rows : List Row) (v : Rat) (j : Nat) : Rat := rsum j fun i => coinD rows i * v ^ i
def lossR (rows : List Row) (v : Rat) (y : Nat) (dead : Bool) : Rat := lossG rows v y + if dead then ((rowAt rows (y - 1)).2.2 : Rat) * v ^ y else 0
def chE (qs : List Rat) (a m k : Nat) : Rat := if k < m then lv qs a k * qs.getD (a + k) 0 else lv qs a k
def lossE (rows : List Row) (v : Rat) (k : Nat) : Rat := if k < rows.length then lossR rows v (k + 1) true else lossR rows v k false
def endRow (qs : List Rat) (v : Rat) (a : Nat) (rows : List Row) (k : Nat) : PyData := .tuple [pD (pq (chE qs a rows.length k)), pD (pq (lossE rows v k))]
theorem bd_coinD {rows : List Row} {k : Nat} (h : RowOk (rowAt rows k)) : Bd 20 (coinD rows k) := bd_diff h.2.1 h.1
theorem bd_lossG {r : Int × Int} {n : Nat} {rows : List Row} (rt : RateOk n r) (ok : ∀ k, k < rows.length → RowOk (rowAt rows k)) (j : Nat) (hj : j ≤ rows.length) : Bd (1 + j * (22 + rows.length * n)) (lossG rows (vq r) j) := by
  have h := bd_sum (xs := (List.range j).map fun i => coinD rows i * vq r ^ i) (n := 21 + rows.length * n) fun x hx => by
    obtain ⟨k, hk, rfl⟩ := List.mem_map.mp hx
    have hk' := List.mem_range.mp hk
    refine ((bd_coinD (ok k (by omega))).mul (bd_pow rt.ok.vq k)).mono ?_
    have : k * n ≤ rows.length * n := Nat.mul_le_mul_right n (by omega)
    omega
  rw [List.length_map, List.length_range, show 21 + rows.length * n + 1 = 22 + rows.length * n by omega] at h
  exact h
theorem bd_lossR {r : Int × Int} {n : Nat} {rows : List Row} (rt : RateOk n r) (ok : ∀ k, k < rows.length → RowOk (rowAt rows k)) (y : Nat) (dead : Bool) (hy : y ≤ rows.length) (h1 : 1 ≤ y) : Bd (1 + (y + 1) * (23 + rows.length * n)) (lossR rows (vq r) y dead) := by
  have h := bd_lossG rt ok y hy
  have hyn : y * n ≤ rows.length * n := Nat.mul_le_mul_right n hy
  have h5 : y * (22 + rows.length * n) ≤ y * (23 + rows.length * n) := Nat.mul_le_mul_left y (by omega)
  have h6 : (y + 1) * (23 + rows.length * n) = y * (23 + rows.length * n) + (23 + rows.length * n) := by rw [Nat.add_mul]; omega
  unfold lossR
  cases dead with
  | true =>
    rw [if_pos rfl]
    refine (h.add ((bd_coin (ok (y - 1) (by omega)).2.2).mul (bd_pow rt.ok.vq y))).mono ?_
    omega
  | false =>
    rw [if_neg Bool.false_ne_true, Rat.add_zero]
    exact h.mono (by omega)
theorem bd_chE {b : Nat} {qs : List Rat} (tq : Tq b qs) {a m k : Nat} (h : a + m ≤ qs.length) : Bd 121 (chE qs a m k) := by
  unfold chE
  split
  · exact ((bd_lv tq _ _).mul (tq.bdD (by omega))).mono (by have := tq.b60; omega)
  · exact (bd_lv tq _ _).mono (by omega)
/-- the chances of all ends come to 1 -/
theorem ch_sum {b : Nat} {qs : List Rat} (tq : Tq b qs) {a m : Nat} (h : a + m ≤ qs.length) (h0 : a < qs.length) : rsum (m + 1) (chE qs a m) = 1 := by
  rw [rsum_succ]
  have e1 : rsum m (chE qs a m) = rsum m fun k => lv qs a k * qs.getD (a + k) 0 := rsum_congr fun k hk => by unfold chE; rw [if_pos hk]
  have e2 : ∀ j, j ≤ m → (rsum j fun k => lv qs a k * qs.getD (a + k) 0) = 1 - lv qs a j := fun j => by
    induction j with
    | zero => intro _; rw [rsum_zero, lv_zero h0]; grind
    | succ j ih =>
      intro hj
      rw [rsum_succ, ih (by omega), lv_step tq (by omega)]
      grind
  rw [e1, e2 m (Nat.le_refl _)]
  unfold chE
  rw [if_neg (by omega)]
  grind
/-- the chances times the losses come to what is paid less what is due -/
theorem ends_sum {b : Nat} {qs : List Rat} {v : Rat} {rows : List Row} (tq : Tq b qs) {a : Nat} (h : a + rows.length ≤ qs.length) (h0 : a < qs.length) :
    (rsum (rows.length + 1) fun k => chE qs a rows.length k * lossE rows v k) = paidF qs v a rows 0 - dueF qs v a rows 0 := by
  rw [rsum_succ]
  have e1 : ∀ j, j ≤ rows.length → (rsum j fun k => chE qs a rows.length k * lossE rows v k) + lv qs a j * lossG rows v j = (rsum j fun k => wLiv qs v a (rowAt rows k).2.1 k + wDie qs v a (rowAt rows k).2.2 k) - rsum j fun k => wLiv qs v a (rowAt rows k).1 k := fun j => by
    induction j with
    | zero =>
      intro _
      unfold lossG
      rw [rsum_zero, rsum_zero, rsum_zero, rsum_zero]
      grind
    | succ j ih =>
      intro hj
      have ih' := ih (by omega)
      rw [rsum_succ, rsum_succ, rsum_succ]
      have hg : lossG rows v (j + 1) = lossG rows v j + coinD rows j * v ^ j := rsum_succ _ _
      have hc : chE qs a rows.length j = lv qs a j * qs.getD (a + j) 0 := by unfold chE; rw [if_pos (by omega)]
      have hl : lossE rows v j = lossG rows v (j + 1) + ((rowAt rows j).2.2 : Rat) * v ^ (j + 1) := by unfold lossE lossR; rw [if_pos (by omega), if_pos rfl, Nat.add_sub_cancel]
      rw [hc, hl, lv_step tq (by omega), hg]
      generalize (rsum j fun k => chE qs a rows.length k * lossE rows v k) = S at *
      generalize (rsum j fun k => wLiv qs v a (rowAt rows k).2.1 k + wDie qs v a (rowAt rows k).2.2 k) = S1 at *
      generalize (rsum j fun k => wLiv qs v a (rowAt rows k).1 k) = S2 at *
      unfold wLiv wDie coinD
      rw [Rat.intCast_sub]
      generalize lossG rows v j = g at *
      grind
  have e2 := e1 rows.length (Nat.le_refl _)
  have e3 : chE qs a rows.length rows.length * lossE rows v rows.length = lv qs a rows.length * lossG rows v rows.length := by
    unfold chE lossE lossR
    rw [if_neg (by omega), if_neg (by omega), if_neg Bool.false_ne_true, Rat.add_zero]
  rw [e3, e2]
  unfold paidF dueF
  simp only [Nat.sub_zero, Nat.add_zero, Nat.zero_add]
def rLossAt (das : List Da) (d : Da) : Prop := ∃ (n : Nat) (r : Int × Int) (a : Int) (rows : List Row) (y : Int) (dead : Bool), das = [dP r, .ple a rows, dI y, dB dead] ∧ RateOk n r ∧ PlOk a rows ∧ 1 ≤ y ∧ y ≤ rows.length ∧ 1 + (rows.length + 1) * (24 + (rows.length + 1) * n) + (23 + (rows.length + 1) * n) + n ≤ 4000 ∧ d = dQ (lossR rows (vq r) y.toNat dead)
def rLLoss (das : List Da) (d : Da) : Prop := ∃ (n : Nat) (r : Int × Int) (rows : List Row) (y : Int) (dead : Bool), das = [dP r, .pd (.list (rows.map rD)), dI y, dB dead] ∧ RateOk n r ∧ (∀ x ∈ rows, RowOk x) ∧ rows.length ≤ 20 ∧ 1 ≤ y ∧ y ≤ rows.length ∧ 1 + (rows.length + 1) * (24 + (rows.length + 1) * n) + (23 + (rows.length + 1) * n) + n ≤ 4000 ∧ d = dQ (lossR rows (vq r) y.toNat dead)
def rEnds (das : List Da) (d : List PyData) : Prop := ∃ (b n : Nat) (qs : List Rat) (r : Int × Int) (a : Int) (rows : List Row), das = [dT qs, dP r, .ple a rows] ∧ Good b n qs r a rows ∧ 1 + (rows.length + 1) * (24 + (rows.length + 1) * n) + (23 + (rows.length + 1) * n) + n ≤ 4000 ∧ d = (List.range (rows.length + 1)).map (endRow qs (vq r) a.toNat rows)
theorem shaped_endRow (qs : List Rat) (v : Rat) (a : Nat) (rows : List Row) (xs : List Nat) : SeqAt.shaped (.list (xs.map (endRow qs v a rows))) = true :=
  shaped_map _ 2 (by decide) (fun k => by simp only [endRow, pD, PyData.canLay0, PyData.canLayAll0, Bool.and_self]) (fun k => by simp only [endRow, pD, PyData.depth, PyData.depthAll]; omega) xs
theorem xl_lend {C : Kx} {ds : List Sl} {te : TE} (i : Nat) {xs ys : List PyData} (hd : ds[i]? = some (.ow xs)) (n : noLsts ys = true) (h : XL C te (ds.set i (.va (.pd (.list xs)))) ys) : XL C te ds ys := fun G0 H0 G H σ e Q q => by
  obtain ⟨l, vs, z1, z4, z3, z5, e'⟩ := e.lend hd
  refine h G0 H0 _ H σ e' Q fun m ws G' H' s h1 h2 h3 r => ?_
  have hl := s.g l _ upd_same
  have ne : m ≠ l := by rintro rfl; rw [z4] at h1; cases h1
  exact q m ws _ H' (s.hide z3) h1 (by rw [hide_ne ne]; exact h2) h3 (dpAll_hide hl _ _ n r)
end Yp
set_option Elab.async false
set_option linter.all false
set_option autoImplicit false
set_option maxRecDepth 100000
set_option maxHeartbeats 2000000
/-! Two lives together; a common under. -/
namespace Yp
open PySem L2
/-! ### a common under -/
def Cd (D : Nat) (x : Rat) : Prop := ∃ t : Int, x * (D : Rat) = (t : Rat)
theorem Cd.add {D : Nat} {x y : Rat} (hx : Cd D x) (hy : Cd D y) : Cd D (x + y) := by
  obtain ⟨t, ht⟩ := hx
  obtain ⟨u, hu⟩ := hy
  exact ⟨t + u, by rw [Rat.add_mul, ht, hu, Rat.intCast_add]⟩
theorem Cd.neg {D : Nat} {x : Rat} (hx : Cd D x) : Cd D (-x) := by
  obtain ⟨t, ht⟩ := hx
  exact ⟨-t, by rw [Rat.neg_mul, ht, Rat.intCast_neg]⟩
theorem Cd.sub {D : Nat} {x y : Rat} (hx : Cd D x) (hy : Cd D y) : Cd D (x - y) := by
  rw [Rat.sub_eq_add_neg]
  exact hx.add hy.neg
theorem Cd.mul {D E : Nat} {x y : Rat} (hx : Cd D x) (hy : Cd E y) : Cd (D * E) (x * y) := by
  obtain ⟨t, ht⟩ := hx
  obtain ⟨u, hu⟩ := hy
  refine ⟨t * u, ?_⟩
  rw [Rat.intCast_mul, ← ht, ← hu, Rat.natCast_mul]
  grind
theorem cd_int (D : Nat) (i : Int) : Cd D (i : Rat) := ⟨i * D, by rw [Rat.intCast_mul, Rat.intCast_natCast]⟩
theorem cd_zero (D : Nat) : Cd D 0 := cd_int D 0
theorem cd_one (D : Nat) : Cd D 1 := cd_int D 1
theorem cd_den (x : Rat) : Cd x.den x := ⟨x.num, by
  have h := Rat.num_divInt_den x
  rw [Rat.divInt_eq_div, Rat.intCast_natCast] at h
  have hne : (x.den : Rat) ≠ 0 := fun e => by
    have e2 : ((x.den : Nat) : Rat) = ((0 : Nat) : Rat) := e
    exact x.den_nz (by exact_mod_cast e2)
  calc x * (x.den : Rat) = (x.num : Rat) / (x.den : Rat) * (x.den : Rat) := by rw [h]
    _ = _ := Rat.div_mul_cancel hne⟩
theorem Cd.up {D : Nat} {x : Rat} (hx : Cd D x) (E : Nat) : Cd (D * E) x := by
  have := hx.mul (cd_one E)
  rwa [Rat.mul_one] at this
theorem cd_rsum {D : Nat} {n : Nat} {f : Nat → Rat} (h : ∀ k, k < n → Cd D (f k)) : Cd D (rsum n f) := by
  induction n with
  | zero => exact cd_zero D
  | succ n ih =>
    rw [rsum_succ]
    exact (ih fun k hk => h k (by omega)).add (h n (by omega))
theorem cd_pow {D : Nat} {v : Rat} (h : Cd D v) {k n : Nat} (hk : k ≤ n) : Cd (D ^ n) (v ^ k) := by
  induction n generalizing k with
  | zero =>
    obtain rfl : k = 0 := by omega
    rw [Rat.pow_zero]
    exact cd_one _
  | succ n ih =>
    rw [Nat.pow_succ]
    rcases Nat.lt_or_ge n k with e | e
    · obtain rfl : k = n + 1 := by omega
      rw [Rat.pow_succ]
      exact (ih (Nat.le_refl n)).mul h
    · exact (ih e).up D
def dens (f : Nat → Rat) : Nat → Nat
  | 0 => 1
  | n + 1 => dens f n * (f n).den
theorem dens_pos (f : Nat → Rat) (n : Nat) : 0 < dens f n := by
  induction n with
  | zero => exact Nat.one_pos
  | succ n ih => exact Nat.mul_pos ih (f n).den_pos
theorem dens_lt {f : Nat → Rat} {n b : Nat} (h : ∀ k, k < n → (f k).den < 2 ^ b) : dens f n ≤ 2 ^ (n * b) := by
  induction n with
  | zero => rw [Nat.zero_mul]; exact Nat.le_refl 1
  | succ n ih =>
    rw [Nat.add_mul, Nat.one_mul, Nat.pow_add]
    exact Nat.mul_le_mul (ih fun k hk => h k (by omega)) (Nat.le_of_lt (h n (by omega)))
theorem cd_rprod {f : Nat → Rat} {k n : Nat} (hk : k ≤ n) : Cd (dens f n) (rprod ((List.range k).map f)) := by
  induction n generalizing k with
  | zero =>
    obtain rfl : k = 0 := by omega
    exact cd_one _
  | succ n ih =>
    show Cd (dens f n * (f n).den) _
    rcases Nat.lt_or_ge n k with e | e
    · obtain rfl : k = n + 1 := by omega
      rw [rprod_range_succ]
      exact (ih (Nat.le_refl n)).mul (cd_den _)
    · exact (ih e).up _
theorem Cd.bd {D n m : Nat} {x : Rat} (h : Cd D x) (hD : 0 < D) (hDn : D < 2 ^ n) (h0 : 0 ≤ x) (hm : x ≤ (m : Rat)) (hmn : m * D < 2 ^ n) : Bd n x := by
  obtain ⟨t, ht⟩ := h
  have hDq : (0 : Rat) < (D : Rat) := by exact_mod_cast hD
  have hne : (D : Rat) ≠ 0 := fun e => by rw [e] at hDq; exact Rat.lt_irrefl hDq
  have hx : x = Rat.divInt t (D : Int) := by
    rw [Rat.divInt_eq_div, ← ht, Rat.intCast_natCast]
    grind
  have t0 : 0 ≤ t := by
    have : (0 : Rat) ≤ (t : Rat) := by rw [← ht]; exact Rat.mul_nonneg h0 (Rat.le_of_lt hDq)
    exact_mod_cast this
  have t1 : t ≤ ((m * D : Nat) : Int) := by
    have : (t : Rat) ≤ ((m * D : Nat) : Rat) := by
      rw [← ht, Rat.natCast_mul]
      exact Rat.mul_le_mul_of_nonneg_right hm (Rat.le_of_lt hDq)
    exact_mod_cast this
  rw [hx]
  refine bd_divInt (by omega) ?_ ?_
  · have : t.natAbs ≤ m * D := by omega
    omega
  · rw [Int.natAbs_natCast]
    exact hDn
/-! ### chances between nought and one -/
theorem rprod_01 {xs : List Rat} (h : ∀ x ∈ xs, 0 ≤ x ∧ x ≤ 1) : 0 ≤ rprod xs ∧ rprod xs ≤ 1 := by
  induction xs with
  | nil => exact ⟨(by decide : (0 : Rat) ≤ 1), Rat.le_refl⟩
  | cons x r ih =>
    rw [rprod_cons]
    obtain ⟨a, b⟩ := h x (by simp)
    obtain ⟨c, d⟩ := ih fun y hy => h y (List.mem_cons_of_mem _ hy)
    refine ⟨Rat.mul_nonneg a c, ?_⟩
    have := Rat.mul_le_mul_of_nonneg_right b c
    grind
theorem lv_01 {b : Nat} {qs : List Rat} (h : Tq b qs) (a k : Nat) : 0 ≤ lv qs a k ∧ lv qs a k ≤ 1 := by
  unfold lv
  split
  · exact ⟨Rat.le_refl, by decide⟩
  · refine rprod_01 fun x hx => ?_
    obtain ⟨j, hj, rfl⟩ := List.mem_map.mp hx
    have := List.mem_range.mp hj
    have e1 := h.ge _ (h.mem (i := a + j) (by omega))
    have e2 := h.le _ (h.mem (i := a + j) (by omega))
    grind
theorem pow_01 {v : Rat} (h : 0 ≤ v ∧ v ≤ 1) (k : Nat) : 0 ≤ v ^ k ∧ v ^ k ≤ 1 := by
  rw [← rprod_rep]
  exact rprod_01 fun x hx => by rw [List.eq_of_mem_replicate hx]; exact h
theorem RateOk.v01 {n : Nat} {r : Int × Int} (h : RateOk n r) : 0 ≤ vq r ∧ vq r ≤ 1 := by
  have h1 := h.h1
  have h2 := h.h2
  have e1 : (0 : Rat) ≤ (r.1 : Rat) := by exact_mod_cast (by omega : 0 ≤ r.1)
  have e2 : (0 : Rat) < (r.2 : Rat) := by exact_mod_cast (by omega : 0 < r.2)
  have e3 : (r.1 : Rat) ≤ (r.2 : Rat) := by exact_mod_cast h2
  unfold vq
  rw [Rat.divInt_eq_div]
  have hne : (r.2 : Rat) ≠ 0 := fun e => by rw [e] at e2; exact Rat.lt_irrefl e2
  have e4 : (r.1 : Rat) / (r.2 : Rat) * (r.2 : Rat) = (r.1 : Rat) := Rat.div_mul_cancel hne
  refine ⟨Rat.le_of_mul_le_mul_right (c := (r.2 : Rat)) ?_ e2, Rat.le_of_mul_le_mul_right (c := (r.2 : Rat)) ?_ e2⟩
  · rw [e4, Rat.zero_mul]
    exact e1
  · rw [e4, Rat.one_mul]
    exact e3
theorem cd_lv {b : Nat} {qs : List Rat} (h : Tq b qs) (a k : Nat) : Cd (dens (fun j => 1 - qs.getD (a + j) 0) (qs.length - a)) (lv qs a k) := by
  unfold lv
  split
  · exact cd_zero _
  · exact cd_rprod (by omega)
theorem dens_tq {b : Nat} {qs : List Rat} (h : Tq b qs) (a : Nat) : dens (fun j => 1 - qs.getD (a + j) 0) (qs.length - a) ≤ 2 ^ 60 := by
  refine Nat.le_trans (dens_lt (b := b) fun k hk => ?_) (Nat.pow_le_pow_right (by decide) ?_)
  · have := (h.blD (i := a + k) (by omega)).den
    rwa [Int.natAbs_natCast] at this
  · exact Nat.le_trans (Nat.mul_le_mul_right b (by omega)) h.sz
/-! ### both, either -/
def bothF (qs : List Rat) (a c k : Nat) : Rat := lv qs a k * lv qs c k
def eiF (qs : List Rat) (a c k : Nat) : Rat := lv qs a k + lv qs c k - lv qs a k * lv qs c k
theorem both_comm (qs : List Rat) (a c k : Nat) : bothF qs a c k = bothF qs c a k := Rat.mul_comm _ _
theorem ei_comm (qs : List Rat) (a c k : Nat) : eiF qs a c k = eiF qs c a k := by
  unfold eiF
  rw [Rat.mul_comm (lv qs a k), Rat.add_comm (lv qs a k)]
theorem bd_bothF {b : Nat} {qs : List Rat} (h : Tq b qs) (a c k : Nat) : Bd 122 (bothF qs a c k) := (bd_lv h a k).mul (bd_lv h c k)
theorem bd_eiF {b : Nat} {qs : List Rat} (h : Tq b qs) (a c k : Nat) : Bd 246 (eiF qs a c k) := ((bd_lv h a k).add (bd_lv h c k)).sub (bd_bothF h a c k)
def coins (f : Nat → Rat) (v : Rat) (y : Nat) : Rat := rsum y fun k => f k * v ^ k
/-- the bits of the sums -/
def Cs (y n : Nat) : Prop := 1 + y * (250 + y * n) + (250 + y * n) + 2 * n ≤ 8400
theorem Cs.t {y n : Nat} (h : Cs y n) {k : Nat} (hk : k ≤ y) : 1 + k * n + n ≤ 8000 := by
  have e : k * n ≤ y * n := Nat.mul_le_mul_right n hk
  unfold Cs at h
  rcases Nat.eq_zero_or_pos y with z | z
  · subst z
    rw [Nat.zero_mul] at *
    omega
  · have e2 : 1 * (250 + y * n) ≤ y * (250 + y * n) := Nat.mul_le_mul_right _ z
    omega
def rBoth (das : List Da) (d : Da) : Prop := ∃ (b : Nat) (qs : List Rat) (a c y : Int), das = [dT qs, dI a, dI c, dI y] ∧ Tq b qs ∧ 0 ≤ a ∧ a < qs.length ∧ 0 ≤ c ∧ c < qs.length ∧ 0 ≤ y ∧ y ≤ 1000 ∧ d = dQ (bothF qs a.toNat c.toNat y.toNat)
def rEither (das : List Da) (d : Da) : Prop := ∃ (b : Nat) (qs : List Rat) (a c y : Int), das = [dT qs, dI a, dI c, dI y] ∧ Tq b qs ∧ 0 ≤ a ∧ a < qs.length ∧ 0 ≤ c ∧ c < qs.length ∧ 0 ≤ y ∧ y ≤ 1000 ∧ d = dQ (eiF qs a.toNat c.toNat y.toNat)
def rPaidOne (das : List Da) (d : Da) : Prop := ∃ (b n : Nat) (qs : List Rat) (r : Int × Int) (a y : Int), das = [dT qs, dP r, dI a, dI y] ∧ Tq b qs ∧ RateOk n r ∧ Cs y.toNat n ∧ 0 ≤ a ∧ a < qs.length ∧ 0 ≤ y ∧ y ≤ 1000 ∧ d = dQ (coins (lv qs a.toNat) (vq r) y.toNat)
def rPaidBoth (das : List Da) (d : Da) : Prop := ∃ (b n : Nat) (qs : List Rat) (r : Int × Int) (a c y : Int), das = [dT qs, dP r, dI a, dI c, dI y] ∧ Tq b qs ∧ RateOk n r ∧ Cs y.toNat n ∧ 0 ≤ a ∧ a < qs.length ∧ 0 ≤ c ∧ c < qs.length ∧ 0 ≤ y ∧ y ≤ 1000 ∧ d = dQ (coins (bothF qs a.toNat c.toNat) (vq r) y.toNat)
def rPaidEither (das : List Da) (d : Da) : Prop := ∃ (b n : Nat) (qs : List Rat) (r : Int × Int) (a c y : Int), das = [dT qs, dP r, dI a, dI c, dI y] ∧ Tq b qs ∧ RateOk n r ∧ Cs y.toNat n ∧ 0 ≤ a ∧ a < qs.length ∧ 0 ≤ c ∧ c < qs.length ∧ 0 ≤ y ∧ y ≤ 1000 ∧ d = dQ (coins (eiF qs a.toNat c.toNat) (vq r) y.toNat)
def rLEither (das : List Da) (d : Da) : Prop := ∃ (b : Nat) (ch : List (Int × Int)) (a c y : Int), das = [.pd (.list (ch.map pD)), dI a, dI c, dI y] ∧ ChOk b ch ∧ 0 ≤ a ∧ 0 ≤ c ∧ 0 ≤ y ∧ y ≤ 1000 ∧ d = dQ (eiF (ch.map vq) a.toNat c.toNat y.toNat)
def lvs (f : Nat → Rat) (m : Nat) : List PyData := (List.range m).map fun k => pD (pq (f k))
theorem at_lvs (f : Nat → Rat) {m k : Nat} (h : k < m) : atI (lvs f m) (k : Int) = some (pD (pq (f k))) := at_nat (j := k) rfl (by unfold lvs; rw [List.getElem?_map, List.getElem?_range h]; rfl)
theorem take_lvs (f : Nat → Rat) (y : Nat) : cutD (lvs f (y + 1)) none (some (y : Int)) = lvs f y := by
  rw [cut_to]
  unfold lvs
  rw [List.range_succ, List.map_append, List.take_append_of_le_length (by rw [List.length_map, List.length_range]; exact Nat.le_refl y), List.take_of_length_le (by rw [List.length_map, List.length_range]; exact Nat.le_refl y)]
theorem lvs_len (f : Nat → Rat) (m : Nat) : (lvs f m).length = m := by unfold lvs; rw [List.length_map, List.length_range]
def rLCoins (das : List Da) (d : Da) : Prop := ∃ (n y : Nat) (r : Int × Int) (f : Nat → Rat), das = [dP r, .pd (.list (lvs f y))] ∧ RateOk n r ∧ Cs y n ∧ y ≤ 1000 ∧ (∀ k, k < y → Bd 246 (f k)) ∧ d = dQ (coins f (vq r) y)
theorem bd_term {n k y : Nat} {r : Int × Int} {x : Rat} (hr : RateOk n r) (h : Bd 246 x) (hk : k ≤ y) : Bd (247 + y * n) (x * vq r ^ k) := by
  refine (h.mul (bd_pow hr.ok.vq k)).mono ?_
  have := Nat.mul_le_mul_right n hk
  omega
theorem cs_terms {n y : Nat} {r : Int × Int} {f : Nat → Rat} (hr : RateOk n r) (hc : Cs y n) (h : ∀ k, k < y → Bd 246 (f k)) : rSummed [.pd (.list (((List.range y).map fun k => f k * vq r ^ k).map fun x => pD (pq x)))] (dQ (coins f (vq r) y)) := by
  refine ⟨_, 247 + y * n, rfl, fun x hx => ?_, ?_, rfl⟩
  · obtain ⟨k, hk, rfl⟩ := List.mem_map.mp hx
    have := List.mem_range.mp hk
    exact bd_term hr (h k this) (by omega)
  · rw [List.length_map, List.length_range]
    have e : y * (247 + y * n + 1) ≤ y * (250 + y * n) := Nat.mul_le_mul_left y (by omega)
    unfold Cs at hc
    omega
/-! ### the sums' own bits -/
theorem rsum_01 {n : Nat} {f : Nat → Rat} (h : ∀ k, k < n → 0 ≤ f k ∧ f k ≤ 1) : 0 ≤ rsum n f ∧ rsum n f ≤ (n : Rat) := by
  induction n with
  | zero => exact ⟨Rat.le_refl, Rat.le_refl⟩
  | succ n ih =>
    rw [rsum_succ]
    obtain ⟨a, b⟩ := ih fun k hk => h k (by omega)
    obtain ⟨c, d⟩ := h n (by omega)
    refine ⟨Rat.add_nonneg a c, ?_⟩
    have e : ((n + 1 : Nat) : Rat) = (n : Rat) + 1 := by rw [Rat.natCast_add]; rfl
    rw [e]
    grind
theorem bd_coins {n y D : Nat} {r : Int × Int} {f : Nat → Rat} (hr : RateOk n r) (hy : y < 32) (hD0 : 0 < D) (hD : D ≤ 2 ^ 120) (h : ∀ k, Cd D (f k)) (h2 : ∀ k, 0 ≤ f k ∧ f k ≤ 1) : Bd (126 + y * n) (coins f (vq r) y) := by
  have hv : Cd (vq r).den (vq r) := cd_den _
  have hvn : (vq r).den < 2 ^ n := by
    have := hr.ok.vq.den
    rwa [Int.natAbs_natCast] at this
  have hp : (vq r).den ^ y ≤ 2 ^ (y * n) := by
    rw [Nat.mul_comm, Nat.pow_mul]
    exact Nat.pow_le_pow_left (Nat.le_of_lt hvn) y
  have hDE : D * (vq r).den ^ y ≤ 2 ^ 120 * 2 ^ (y * n) := Nat.mul_le_mul hD hp
  have e126 : (2 : Nat) ^ (126 + y * n) = 64 * (2 ^ 120 * 2 ^ (y * n)) := by
    rw [Nat.pow_add]
    omega
  have hpos : 0 < (2 : Nat) ^ 120 * 2 ^ (y * n) := Nat.mul_pos (Nat.pow_pos (by decide)) (Nat.pow_pos (by decide))
  have hb := rsum_01 (n := y) (f := fun k => f k * vq r ^ k) fun k hk => by
    obtain ⟨a, b⟩ := h2 k
    obtain ⟨c, d⟩ := pow_01 hr.v01 k
    refine ⟨Rat.mul_nonneg a c, ?_⟩
    have := Rat.mul_le_mul_of_nonneg_right b c
    grind
  refine Cd.bd (m := y) (D := D * (vq r).den ^ y) (cd_rsum fun k hk => (h k).mul (cd_pow hv (by omega))) (Nat.mul_pos hD0 (Nat.pow_pos (vq r).den_pos)) ?_ hb.1 hb.2 ?_
  · omega
  · have := Nat.mul_le_mul (show y ≤ 31 by omega) hDE
    omega
theorem bd_cLv {b n y : Nat} {qs : List Rat} {r : Int × Int} (h : Tq b qs) (hr : RateOk n r) (hy : y < 32) (a : Nat) : Bd (126 + y * n) (coins (lv qs a) (vq r) y) :=
  bd_coins hr hy (dens_pos _ _) (Nat.le_trans (dens_tq h a) (Nat.pow_le_pow_right (by decide) (by decide))) (fun k => cd_lv h a k) (fun k => lv_01 h a k)
theorem dd_tq {b : Nat} {qs : List Rat} (h : Tq b qs) (a c : Nat) : dens (fun j => 1 - qs.getD (a + j) 0) (qs.length - a) * dens (fun j => 1 - qs.getD (c + j) 0) (qs.length - c) ≤ 2 ^ 120 :=
  Nat.le_trans (Nat.mul_le_mul (dens_tq h a) (dens_tq h c)) (Nat.le_of_eq (by rw [← Nat.pow_add]))
theorem bd_cBoth {b n y : Nat} {qs : List Rat} {r : Int × Int} (h : Tq b qs) (hr : RateOk n r) (hy : y < 32) (a c : Nat) : Bd (126 + y * n) (coins (bothF qs a c) (vq r) y) :=
  bd_coins hr hy (Nat.mul_pos (dens_pos _ _) (dens_pos _ _)) (dd_tq h a c) (fun k => (cd_lv h a k).mul (cd_lv h c k)) fun k => by
    obtain ⟨p, q⟩ := lv_01 h a k
    obtain ⟨s, t⟩ := lv_01 h c k
    refine ⟨Rat.mul_nonneg p s, ?_⟩
    have := Rat.mul_le_mul_of_nonneg_right q s
    unfold bothF
    grind
theorem bd_cEi {b n y : Nat} {qs : List Rat} {r : Int × Int} (h : Tq b qs) (hr : RateOk n r) (hy : y < 32) (a c : Nat) : Bd (126 + y * n) (coins (eiF qs a c) (vq r) y) :=
  bd_coins hr hy (Nat.mul_pos (dens_pos _ _) (dens_pos _ _)) (dd_tq h a c) (fun k => by
    refine (Cd.add ((cd_lv h a k).up _) ?_).sub ((cd_lv h a k).mul (cd_lv h c k))
    rw [Nat.mul_comm]
    exact (cd_lv h c k).up _) fun k => by
    obtain ⟨p, q⟩ := lv_01 h a k
    obtain ⟨s, t⟩ := lv_01 h c k
    have e1 := Rat.mul_nonneg p s
    have e2 := Rat.mul_le_mul_of_nonneg_right q s
    have e3 : 0 ≤ (1 - lv qs a k) * (1 - lv qs c k) := Rat.mul_nonneg (by grind) (by grind)
    unfold eiF
    constructor <;> grind
theorem coins_law (qs : List Rat) (v : Rat) (a c y : Nat) : coins (lv qs a) v y + coins (lv qs c) v y = coins (bothF qs a c) v y + coins (eiF qs a c) v y := by
  unfold coins
  induction y with
  | zero => rfl
  | succ y ih =>
    simp only [rsum_succ]
    unfold eiF bothF at *
    grind
/-! ### the drawn rate, with fewer bits where the table is long -/
theorem lrate_ok2 (ns : List Int) : ∃ n : Nat, RateOk n (lrate ns) ∧ (n = 14 ∧ mMany ns ≤ 6 ∨ n = 5) := by
  by_cases h : (draw ns 5).fmod 8 = 1 ∧ (draw ns 3).fmod 8 < 3
  · refine ⟨14, lrate_ok ns, .inl ⟨rfl, ?_⟩⟩
    have h0 := (mode_b ns).1
    have h3 : mode ns < 3 := h.2
    unfold mMany
    rcases (by omega : mode ns = 0 ∨ mode ns = 1 ∨ mode ns = 2) with e | e | e <;> rw [e] <;> decide
  · refine ⟨5, ?_, .inr rfl⟩
    unfold lrate
    rw [if_neg h]
    have h3 := fm_ge (draw ns 4) (b := 20) (by decide)
    have h4 := fm_lt (draw ns 4) (b := 20) (by decide)
    have h5 := fm_ge (draw ns 6) (b := 1 + (draw ns 4).fmod 20) (by omega)
    have h6 := fm_lt (draw ns 6) (b := 1 + (draw ns 4).fmod 20) (by omega)
    exact ⟨by show 1 ≤ 1 + _; omega, by show 1 + (draw ns 6).fmod (1 + (draw ns 4).fmod 20) ≤ 1 + (draw ns 4).fmod 20; omega, by show 1 + (draw ns 4).fmod 20 ≤ 10000; omega, by show (1 + (draw ns 4).fmod 20).natAbs < 2 ^ 5; omega⟩
theorem cs_of {ns : List Int} {n y : Nat} (h : n = 14 ∧ mMany ns ≤ 6 ∨ n = 5) (hy : (y : Int) ≤ mMany ns + 2) (h20 : mMany ns ≤ 20) : Cs y n ∧ y ≤ 22 ∧ y * n ≤ 112 := by
  unfold Cs
  rcases h with ⟨rfl, h⟩ | rfl
  · have hy8 : y ≤ 8 := by omega
    have := Nat.mul_le_mul hy8 (show 250 + y * 14 ≤ 362 by omega)
    omega
  · have hy8 : y ≤ 22 := by omega
    have := Nat.mul_le_mul hy8 (show 250 + y * 5 ≤ 360 by omega)
    omega
end Yp
set_option Elab.async false
set_option linter.all false
set_option autoImplicit false
set_option maxRecDepth 100000
set_option maxHeartbeats 2000000
/-! max of a tuple of whole numbers; the fair due. -/
namespace Yp
open PySem L2 PyProof.Rows Evl
section
variable {prog : Program} {w : World} {A : Around} {E : Value → Shared → Prop} {s : Shared}
theorem max_tupInts {l : Addr} {its : List Value} {ns : List Int} {Q : Value → Shared → Prop} (hh : A.handled = none) (hl : IsTup s.heap l its.toArray) (hi : IntsAre its ns) (hne : 0 < ns.length)
    (h : ∀ h' tk M t', (∀ b o, s.heap.get? b = some o → h'.get? b = some o) → M ∈ ns → (∀ a, a ∈ ns → a ≤ M) → Q (.int M t') { s with heap := h', toks := tk }) : wpAny (model prog w) A (call (.builtin "max") [.ref l]) Q E s := by
  obtain ⟨xs, e⟩ := hi.allInts.items
  have hn : numsOf (intItems xs).toList = ns := by rw [← e]; exact hi.numsOf
  rw [nums_intItems] at hn
  subst hn
  rw [e] at hl
  have hsz : 0 < xs.size := by simpa using hne
  have hlt : l < s.heap.objs.size := by obtain ⟨_, e, _⟩ := hl; exact Heap.lt_size e
  refine call_max_walk (iter_tuple hl ?_)
  refine ⟨_, _, _, _, _, _, _, rfl, Walks.tuple (A := A.in1) hh _ l (Nat.ne_of_lt hlt) (intItems xs), ⟨⟨_, Heap.get?_push_size _ rfl, rfl, rfl⟩, hl.keeps fun b o q => Heap.get?_push_of_some _ q⟩, fun b hb => ?_, by simpa [intItems] using hsz, CmpOf.ints_gt (numAt xs) (fun _ _ => intItems_at), fun v h' tk hv hk => ?_⟩
  · show b < (s.heap.push _).objs.size
    rw [Heap.size_push]
    rcases List.mem_cons.mp hb with rfl | hb
    · exact Nat.lt_succ_self _
    · rcases List.mem_cons.mp hb with rfl | hb
      · exact Nat.lt_succ_of_lt hlt
      · cases hb
  · have hv : (intItems xs)[argBest (fun i j => decide (numAt xs i > numAt xs j)) (xs.size - 1)]? = some v := by simpa [intItems] using hv
    obtain ⟨t, rfl⟩ := intItems_at hv
    obtain ⟨h1, h2⟩ := argBest_gt (numAt xs) (xs.size - 1)
    refine h h' tk _ t (fun b o e => ?_) ?_ fun a ha => ?_
    · refine hk b o (fun hm => ?_) (Heap.get?_push_of_some _ e)
      rcases List.mem_cons.mp hm with e1 | hm
      · exact absurd (e1 ▸ Heap.lt_size e) (Nat.lt_irrefl _)
      · cases hm
    · rw [numAt_eq]; exact PySem.getD_mem (by rw [List.length_map, Array.length_toList]; omega)
    · obtain ⟨j, hj, rfl⟩ := mem_getD ha
      rw [List.length_map, Array.length_toList] at hj
      rw [← numAt_eq]; exact h2 j (by omega)
end
theorem pe_fldK {X : Cx} {K : PySem.W.Frag} {e : Expr} {f : Str} {pos : Pos} {ta : TE} (hK : X.K = K) (he : PE X e ta) (hb : attributeBase e f X.env (eval e X.env) = eval e X.env) : PE X (.Attribute e f pos) (tFld K ta f) := by
  subst hK
  exact pe_fld he hb
def rMaxT (K : PySem.W.Frag) : List V → Hp → VK → Prop := fun vs H Q => ∃ (a : Addr) (ns : List Int), vs = [V.ref a] ∧ SqT K H a (ns.map V.int) ∧ 0 < ns.length ∧ ∀ m, m ∈ ns → (∀ y, y ∈ ns → y ≤ m) → Q (.int m) H
theorem cr_maxT {X : Cx} (hc : X.calm = true) : CallR X (.builtin "max") (rMaxT X.K) := by
  intro pins s σ H vs us Q I r h
  obtain ⟨a, ns, rfl, hs, hne, q⟩ := h
  obtain ⟨its, rv, hl, _⟩ := I.tuple hs
  rw [Vals.ref1 r]
  exact max_tupInts (I.ok.hd hc) hl rv.ints hne fun h' tk m t' hk h1 h2 => ⟨.int _, H, I.kept hk, ⟨_, rfl⟩, q m h1 h2⟩
section
variable {C : Kx}
theorem cd_maxT {ns : List Int} {M : Int} (hM : M ∈ ns) (hb : ∀ y, y ∈ ns → y ≤ M) : CD C (rMaxT C.K) [.pd (.tuple (ns.map PyData.int))] (dI M) := fun G H vs s hv Q q => by
  obtain ⟨x, e, h⟩ := rpa1 hv
  subst e
  obtain ⟨p, ys, e1, e2, e3⟩ := dp_tup h
  subst e1
  rw [dpa_intsV e3] at e2
  refine ⟨p, ns, rfl, ex_t s e2, List.length_pos_of_mem hM, fun m h1 h2 => ?_⟩
  have e : m = M := by have := hb m h1; have := h2 M hM; omega
  rw [e]
  exact q _ G H (.refl s) (Dp.int _)
theorem cd_maxL {ns : List Int} {M : Int} (hM : M ∈ ns) (hb : ∀ y, y ∈ ns → y ≤ M) : CD C (rMax C.K) [.pd (.list (ns.map PyData.int))] (dI M) := fun G H vs s hv Q q => by
  obtain ⟨x, e, h⟩ := rpa1 hv
  subst e
  obtain ⟨p, ys, e1, e2, e3⟩ := dp_lst h
  subst e1
  rw [dpa_intsV e3] at e2
  refine ⟨p, ns, rfl, ex_l s e2, List.length_pos_of_mem hM, fun m h1 h2 => ?_⟩
  have e : m = M := by have := hb m h1; have := h2 M hM; omega
  rw [e]
  exact q _ G H (.refl s) (Dp.int _)
end
/-! ### the fair due -/
def fairF (qs : List Rat) (v : Rat) (a : Nat) (rows : List Row) : Rat := paidF qs v a rows 0 / coins (lv qs a) v rows.length
theorem lv_at0 {qs : List Rat} {a : Nat} (h : a < qs.length) : lv qs a 0 = 1 := by
  unfold lv
  rw [if_neg (by omega)]
  rfl
theorem coins_pos {b n : Nat} {qs : List Rat} {r : Int × Int} {a : Nat} (tq : Tq b qs) (hr : RateOk n r) (ha : a < qs.length) (y : Nat) : 1 ≤ coins (lv qs a) (vq r) (y + 1) := by
  unfold coins
  induction y with
  | zero =>
    rw [rsum_succ, rsum_zero, lv_at0 ha, Rat.pow_zero]
    grind
  | succ y ih =>
    rw [rsum_succ]
    have := Rat.mul_nonneg (lv_01 tq a (y + 1)).1 (pow_01 hr.v01 (y + 1)).1
    grind
theorem dueF_coins (qs : List Rat) (v : Rat) (a : Nat) (rows : List Row) (c : Int) (h : ∀ k, k < rows.length → (rowAt rows k).1 = c) : dueF qs v a rows 0 = (c : Rat) * coins (lv qs a) v rows.length := by
  unfold dueF coins
  rw [Nat.sub_zero]
  have e : ∀ n, n ≤ rows.length → rsum n (fun k => wLiv qs v (a + 0) (rowAt rows (0 + k)).1 k) = (c : Rat) * rsum n (fun k => lv qs a k * v ^ k) := fun n => by
    induction n with
    | zero => intro _; rw [rsum_zero, rsum_zero, Rat.mul_zero]
    | succ n ih =>
      intro hn
      rw [rsum_succ, rsum_succ, ih (by omega), Nat.zero_add, h n (by omega), Nat.add_zero]
      unfold wLiv
      grind
  exact e _ (Nat.le_refl _)
theorem paidF_scale (qs : List Rat) (v : Rat) (a : Nat) (rows rows' : List Row) (D : Int) (hl : rows'.length = rows.length) (h : ∀ k, k < rows.length → (rowAt rows' k).2.1 = (rowAt rows k).2.1 * D ∧ (rowAt rows' k).2.2 = (rowAt rows k).2.2 * D) : paidF qs v a rows' 0 = (D : Rat) * paidF qs v a rows 0 := by
  unfold paidF
  rw [Nat.sub_zero, Nat.sub_zero, hl]
  have e : ∀ n, n ≤ rows.length → rsum n (fun k => wLiv qs v (a + 0) (rowAt rows' (0 + k)).2.1 k + wDie qs v (a + 0) (rowAt rows' (0 + k)).2.2 k) = (D : Rat) * rsum n (fun k => wLiv qs v (a + 0) (rowAt rows (0 + k)).2.1 k + wDie qs v (a + 0) (rowAt rows (0 + k)).2.2 k) := fun n => by
    induction n with
    | zero => intro _; rw [rsum_zero, rsum_zero, Rat.mul_zero]
    | succ n ih =>
      intro hn
      obtain ⟨h1, h2⟩ := h n (by omega)
      rw [rsum_succ, rsum_succ, ih (by omega), Nat.zero_add, h1, h2]
      unfold wLiv wDie
      rw [Rat.intCast_mul, Rat.intCast_mul]
      grind
  exact e _ (Nat.le_refl _)
theorem bd_paidG {b n : Nat} {qs : List Rat} {r : Int × Int} {a : Int} {rows : List Row} (h : Good b n qs r a rows) : Bd (1 + 2 * rows.length * (151 + (rows.length + 1) * n)) (paidF qs (vq r) a.toNat rows 0) := by
  have h1 := bd_sum (xs := two (rows.length - 0) (fun k => wLiv qs (vq r) (a.toNat + 0) (rowAt rows (0 + k)).2.1 k) (fun k => wDie qs (vq r) (a.toNat + 0) (rowAt rows (0 + k)).2.2 k)) (n := 150 + (rows.length + 1) * n) fun x hx => by
    obtain ⟨k, hk, e | e⟩ := two_mem hx
    · rw [e]; exact bd_wLiv h.tq h.rt (h.pl.row (by omega)).2.1 (by omega)
    · rw [e]; exact bd_wDie h.tq h.rt (h.pl.row (by omega)).2.2 (by omega) (by have := h.fit; have := h.pl.a0; omega)
  rw [two_len, two_sum] at h1
  refine Bd.mono h1 ?_
  have : 2 * (rows.length - 0) * (150 + (rows.length + 1) * n + 1) ≤ 2 * rows.length * (151 + (rows.length + 1) * n) := Nat.mul_le_mul (by omega) (by omega)
  omega
def rFair (das : List Da) (d : Da) : Prop := ∃ (b n : Nat) (qs : List Rat) (r : Int × Int) (a : Int) (rows : List Row), das = [dT qs, dP r, .ple a rows] ∧ Good b n qs r a rows ∧ rows.length < 32 ∧ 1 + 2 * rows.length * (151 + (rows.length + 1) * n) + 126 + rows.length * n ≤ 8999 ∧ d = dQ (fairF qs (vq r) a.toNat rows)
theorem max_ex : ∀ {ns : List Int}, ns ≠ [] → ∃ M, M ∈ ns ∧ ∀ y, y ∈ ns → y ≤ M
  | [], h => absurd rfl h
  | [n], _ => ⟨n, by simp, fun y hy => by rw [List.mem_singleton.mp hy]; exact Int.le_refl n⟩
  | n :: m :: ns, _ => by
    obtain ⟨M, h1, h2⟩ := max_ex (ns := m :: ns) (by simp)
    rcases Int.le_total n M with e | e
    · refine ⟨M, List.mem_cons_of_mem _ h1, fun y hy => ?_⟩
      rcases List.mem_cons.mp hy with rfl | hy
      · exact e
      · exact h2 y hy
    · refine ⟨n, by simp, fun y hy => ?_⟩
      rcases List.mem_cons.mp hy with rfl | hy
      · exact Int.le_refl _
      · exact Int.le_trans (h2 y hy) e
def mx3 (x : Row) : Int := max (max x.1 x.2.1) x.2.2
theorem mx3_mem (x : Row) : mx3 x ∈ [x.1, x.2.1, x.2.2] := by
  unfold mx3
  simp only [List.mem_cons, List.not_mem_nil, or_false]
  omega
theorem mx3_le (x : Row) (y : Int) (h : y ∈ [x.1, x.2.1, x.2.2]) : y ≤ mx3 x := by
  unfold mx3
  simp only [List.mem_cons, List.not_mem_nil, or_false] at h
  omega
theorem rsum_nn {n : Nat} {f : Nat → Rat} (h : ∀ k, k < n → 0 ≤ f k) : 0 ≤ rsum n f := by
  induction n with
  | zero => exact Rat.le_refl
  | succ n ih =>
    rw [rsum_succ]
    exact Rat.add_nonneg (ih fun k hk => h k (by omega)) (h n (by omega))
theorem paidF_nn {b n : Nat} {qs : List Rat} {r : Int × Int} {a : Int} {rows : List Row} (h : Good b n qs r a rows) : 0 ≤ paidF qs (vq r) a.toNat rows 0 := by
  unfold paidF
  refine rsum_nn fun k hk => ?_
  have hk' : 0 + k < rows.length := by omega
  obtain ⟨c0, c1, c2⟩ := h.pl.row hk'
  have e1 : (0 : Rat) ≤ ((rowAt rows (0 + k)).2.1 : Rat) := by exact_mod_cast c1.1
  have e2 : (0 : Rat) ≤ ((rowAt rows (0 + k)).2.2 : Rat) := by exact_mod_cast c2.1
  have hfit := h.fit
  have ha := h.pl.a0
  have e3 := h.tq.ge _ (h.tq.mem (i := a.toNat + 0 + k) (by omega))
  unfold wLiv wDie
  exact Rat.add_nonneg (Rat.mul_nonneg e1 (Rat.mul_nonneg (lv_01 h.tq _ _).1 (pow_01 h.rt.v01 _).1)) (Rat.mul_nonneg e2 (Rat.mul_nonneg (Rat.mul_nonneg (lv_01 h.tq _ _).1 e3) (pow_01 h.rt.v01 _).1))
/-- the rows with the fair due, all coins so many times as its under -/
def evR (F : Rat) (x : Row) : Row := ((pq F).1, x.2.1 * (pq F).2, x.2.2 * (pq F).2)
theorem even_nought {b n : Nat} {qs : List Rat} {r : Int × Int} {a : Int} {rows : List Row} (h : Good b n qs r a rows) : paidF qs (vq r) a.toNat (rows.map (evR (fairF qs (vq r) a.toNat rows))) 0 - dueF qs (vq r) a.toNat (rows.map (evR (fairF qs (vq r) a.toNat rows))) 0 = 0 := by
  have hfit := h.fit
  have ha := h.pl.a0
  have hl1 := h.pl.l1
  have z := coins_pos (a := a.toNat) h.tq h.rt (by omega) (rows.length - 1)
  rw [show rows.length - 1 + 1 = rows.length by omega] at z
  have hrow : ∀ k, k < rows.length → rowAt (rows.map (evR (fairF qs (vq r) a.toNat rows))) k = evR (fairF qs (vq r) a.toNat rows) (rowAt rows k) := fun k hk => by
    have e := rowAt_get hk
    show ((rows.map _).getD k (0, 0, 0)) = _
    rw [List.getD_eq_getElem?_getD, List.getElem?_map, e]
    rfl
  rw [paidF_scale qs (vq r) a.toNat rows _ (pq (fairF qs (vq r) a.toNat rows)).2 (by rw [List.length_map]) (fun k hk => by rw [hrow k hk]; exact ⟨rfl, rfl⟩), dueF_coins qs (vq r) a.toNat _ (pq (fairF qs (vq r) a.toNat rows)).1 (fun k hk => by rw [List.length_map] at hk; rw [hrow k hk]; rfl), List.length_map]
  have hF : fairF qs (vq r) a.toNat rows * coins (lv qs a.toNat) (vq r) rows.length = paidF qs (vq r) a.toNat rows 0 := Rat.div_mul_cancel (fun e => by rw [e] at z; exact absurd z (by decide +kernel))
  obtain hd : fairF qs (vq r) a.toNat rows * ((pq (fairF qs (vq r) a.toNat rows)).2 : Rat) = ((pq (fairF qs (vq r) a.toNat rows)).1 : Rat) := by
    obtain ⟨t, ht⟩ := cd_den (fairF qs (vq r) a.toNat rows)
    have h2 := Rat.num_divInt_den (fairF qs (vq r) a.toNat rows)
    rw [Rat.divInt_eq_div] at h2
    have hne : (((fairF qs (vq r) a.toNat rows).den : Int) : Rat) ≠ 0 := fun e => (fairF qs (vq r) a.toNat rows).den_nz (by have := Rat.intCast_eq_zero_iff.mp e; omega)
    show fairF qs (vq r) a.toNat rows * (((fairF qs (vq r) a.toNat rows).den : Int) : Rat) = _
    calc fairF qs (vq r) a.toNat rows * (((fairF qs (vq r) a.toNat rows).den : Int) : Rat) = ((fairF qs (vq r) a.toNat rows).num : Rat) / (((fairF qs (vq r) a.toNat rows).den : Int) : Rat) * (((fairF qs (vq r) a.toNat rows).den : Int) : Rat) := by rw [h2]
      _ = _ := Rat.div_mul_cancel hne
  rw [← hF, ← hd]
  grind
end Yp
set_option Elab.async false
set_option linter.all false
set_option autoImplicit false
set_option maxRecDepth 100000
set_option maxHeartbeats 2000000
/-! Long pledges: bounds by a common under. -/
namespace Yp
open PySem L2
theorem rsum_le {n : Nat} {f : Nat → Rat} {c : Rat} (h : ∀ k, k < n → f k ≤ c) : rsum n f ≤ (n : Rat) * c := by
  induction n with
  | zero => rw [rsum_zero, show ((0 : Nat) : Rat) = 0 from rfl, Rat.zero_mul]; exact Rat.le_refl
  | succ n ih =>
    rw [rsum_succ]
    have e1 := ih fun k hk => h k (by omega)
    have e2 := h n (by omega)
    have e : ((n + 1 : Nat) : Rat) = (n : Rat) + 1 := by rw [Rat.natCast_add]; rfl
    rw [e]
    grind
theorem mul_01 {x y : Rat} (hx : 0 ≤ x ∧ x ≤ 1) (hy : 0 ≤ y ∧ y ≤ 1) : 0 ≤ x * y ∧ x * y ≤ 1 := by
  refine ⟨Rat.mul_nonneg hx.1 hy.1, ?_⟩
  have := Rat.mul_le_mul_of_nonneg_right hx.2 hy.1
  grind
theorem coin_le {c : Int} (h : CoinOk c) {x : Rat} (hx : 0 ≤ x ∧ x ≤ 1) : 0 ≤ (c : Rat) * x ∧ (c : Rat) * x ≤ 1000000 := by
  have e1 : (0 : Rat) ≤ (c : Rat) := by exact_mod_cast h.1
  have e2 : (c : Rat) ≤ ((1000000 : Int) : Rat) := Rat.intCast_le_intCast.mpr h.2
  have e3 : ((1000000 : Int) : Rat) = 1000000 := rfl
  rw [e3] at e2
  refine ⟨Rat.mul_nonneg e1 hx.1, ?_⟩
  have := Rat.mul_le_mul_of_nonneg_right hx.2 e1
  grind
theorem q_01 {b : Nat} {qs : List Rat} (h : Tq b qs) {i : Nat} (hi : i < qs.length) : 0 ≤ qs.getD i 0 ∧ qs.getD i 0 ≤ 1 := ⟨h.ge _ (h.mem hi), h.le _ (h.mem hi)⟩
theorem cd_lvq {b : Nat} {qs : List Rat} (h : Tq b qs) {a k : Nat} (hk : a + k < qs.length) : Cd (dens (fun j => 1 - qs.getD (a + j) 0) (qs.length - a)) (lv qs a k * qs.getD (a + k) 0) := by
  have e : lv qs a k * qs.getD (a + k) 0 = lv qs a k - lv qs a (k + 1) := by
    rw [lv_step h hk]
    grind
  rw [e]
  exact (cd_lv h a k).sub (cd_lv h a (k + 1))
theorem cd_scale {D : Nat} {c : Int} {x : Rat} (h : Cd D x) : Cd D ((c : Rat) * x) := by
  have := (cd_int 1 c).mul h
  rwa [Nat.one_mul] at this
theorem bd_common {b n y N : Nat} {qs : List Rat} {r : Int × Int} {a : Nat} {x : Rat} (h : Tq b qs) (hr : RateOk n r) (hx : Cd (dens (fun j => 1 - qs.getD (a + j) 0) (qs.length - a) * (vq r).den ^ y) x) (hN : N ≤ 2 ^ 26) (h0 : 0 ≤ x) (h1 : x ≤ (N : Rat)) : Bd (87 + y * n) x := by
  have hvn : (vq r).den < 2 ^ n := by
    have := hr.ok.vq.den
    rwa [Int.natAbs_natCast] at this
  have hp : (vq r).den ^ y ≤ 2 ^ (y * n) := by
    rw [Nat.mul_comm, Nat.pow_mul]
    exact Nat.pow_le_pow_left (Nat.le_of_lt hvn) y
  have hDE : dens (fun j => 1 - qs.getD (a + j) 0) (qs.length - a) * (vq r).den ^ y ≤ 2 ^ 60 * 2 ^ (y * n) := Nat.mul_le_mul (dens_tq h a) hp
  have hpos : 0 < (2 : Nat) ^ (y * n) := Nat.pow_pos (by decide)
  have e : (2 : Nat) ^ (87 + y * n) = 2 ^ 27 * (2 ^ 60 * 2 ^ (y * n)) := by
    rw [show 87 + y * n = 27 + (60 + y * n) by omega, Nat.pow_add 2 27, Nat.pow_add 2 60]
  refine hx.bd (Nat.mul_pos (dens_pos _ _) (Nat.pow_pos (vq r).den_pos)) ?_ h0 h1 ?_
  · omega
  · have := Nat.mul_le_mul hN hDE
    omega
theorem bd_paidC {b n : Nat} {qs : List Rat} {r : Int × Int} {a : Int} {rows : List Row} (h : Good b n qs r a rows) (f : Nat) (hf : f ≤ rows.length) : Bd (87 + rows.length * n) (paidF qs (vq r) a.toNat rows f) ∧ 0 ≤ paidF qs (vq r) a.toNat rows f := by
  have hfit := h.fit
  have ha := h.pl.a0
  have h20 := h.pl.l20
  have hv : Cd (vq r).den (vq r) := cd_den _
  have ht : ∀ k, k < rows.length - f → 0 ≤ wLiv qs (vq r) (a.toNat + f) (rowAt rows (f + k)).2.1 k + wDie qs (vq r) (a.toNat + f) (rowAt rows (f + k)).2.2 k ∧ wLiv qs (vq r) (a.toNat + f) (rowAt rows (f + k)).2.1 k + wDie qs (vq r) (a.toNat + f) (rowAt rows (f + k)).2.2 k ≤ 2000000 := fun k hk => by
    obtain ⟨c0, c1, c2⟩ := h.pl.row (k := f + k) (by omega)
    have e1 := coin_le c1 (mul_01 (lv_01 h.tq (a.toNat + f) k) (pow_01 h.rt.v01 k))
    have e2 := coin_le c2 (mul_01 (mul_01 (lv_01 h.tq (a.toNat + f) k) (q_01 h.tq (i := a.toNat + f + k) (by omega))) (pow_01 h.rt.v01 (k + 1)))
    unfold wLiv wDie
    constructor <;> grind
  have h0 : 0 ≤ paidF qs (vq r) a.toNat rows f := rsum_nn fun k hk => (ht k hk).1
  refine ⟨bd_common (a := a.toNat + f) (N := rows.length * 2000000) h.tq h.rt (cd_rsum fun k hk => ?_) (by omega) h0 ?_, h0⟩
  · exact (cd_scale ((cd_lv h.tq _ k).mul (cd_pow hv (by omega)))).add (cd_scale ((cd_lvq h.tq (by omega)).mul (cd_pow hv (by omega))))
  · refine Rat.le_trans (rsum_le (c := 2000000) fun k hk => (ht k hk).2) ?_
    rw [Rat.natCast_mul]
    refine Rat.mul_le_mul_of_nonneg_right ?_ (by decide +kernel)
    exact_mod_cast (by omega : rows.length - f ≤ rows.length)
theorem bd_dueC {b n : Nat} {qs : List Rat} {r : Int × Int} {a : Int} {rows : List Row} (h : Good b n qs r a rows) (f : Nat) (hf : f ≤ rows.length) : Bd (87 + rows.length * n) (dueF qs (vq r) a.toNat rows f) ∧ 0 ≤ dueF qs (vq r) a.toNat rows f := by
  have hfit := h.fit
  have ha := h.pl.a0
  have h20 := h.pl.l20
  have hv : Cd (vq r).den (vq r) := cd_den _
  have ht : ∀ k, k < rows.length - f → 0 ≤ wLiv qs (vq r) (a.toNat + f) (rowAt rows (f + k)).1 k ∧ wLiv qs (vq r) (a.toNat + f) (rowAt rows (f + k)).1 k ≤ 1000000 := fun k hk => by
    obtain ⟨c0, c1, c2⟩ := h.pl.row (k := f + k) (by omega)
    exact coin_le c0 (mul_01 (lv_01 h.tq (a.toNat + f) k) (pow_01 h.rt.v01 k))
  have h0 : 0 ≤ dueF qs (vq r) a.toNat rows f := rsum_nn fun k hk => (ht k hk).1
  refine ⟨bd_common (a := a.toNat + f) (N := rows.length * 1000000) h.tq h.rt (cd_rsum fun k hk => ?_) (by omega) h0 ?_, h0⟩
  · exact cd_scale ((cd_lv h.tq _ k).mul (cd_pow hv (by omega)))
  · refine Rat.le_trans (rsum_le (c := 1000000) fun k hk => (ht k hk).2) ?_
    rw [Rat.natCast_mul]
    refine Rat.mul_le_mul_of_nonneg_right ?_ (by decide +kernel)
    exact_mod_cast (by omega : rows.length - f ≤ rows.length)
end Yp
set_option Elab.async false
set_option linter.all false
set_option autoImplicit false
set_option maxRecDepth 100000
set_option maxHeartbeats 2000000
/-! Exceptions over the data layer: raising defs, a caught exception kept behind its suite. -/
namespace Yp
open PySem PySem.Spec PyProof.Rows L2
/-! ### a caught exception kept -/
section
variable {X : Cx} {pins : List (Addr × Obj)} {σ : L2.St} {H : Hp} {s : Shared}
theorem inv_unsuite {a : Addr} {q : Addr × Obj} {pn' : List (Addr × Obj)} (I : Inv (X.suite a (q :: (X.pn ++ pins))) pn' σ H s) (ok : X.Ok) : Inv X (pins ++ [q]) σ H s :=
  ⟨ok, I.os, I.bare, I.base, I.loc, I.cell, I.free, I.freeC, fun p hp => I.pin p (List.mem_append_left _ (by
    rcases List.mem_append.mp hp with h | h
    · exact List.mem_cons_of_mem _ (List.mem_append_left _ h)
    · rcases List.mem_append.mp h with h | h
      · exact List.mem_cons_of_mem _ (List.mem_append_right _ h)
      · rw [List.mem_singleton.mp h]
        exact List.mem_cons_self)), I.hok, I.len⟩
/-- a pinned new object is tracked from now on -/
theorem inv_track {q : Addr × Obj} {o : HO} (I : Inv X (pins ++ [q]) σ H s) (n0 : X.s_0.heap.get? q.1 = none) (np : ∀ p ∈ X.pn ++ pins, p.1 ≠ q.1) (ok : ObjOk X.prog X.w (upd H q.1 o) s.heap q.1 o) : Inv X pins σ (upd H q.1 o) s := by
  obtain ⟨hget, hn, hL, hF, hc⟩ := I.pin q (List.mem_append_right _ (List.mem_append_right _ List.mem_cons_self))
  have ne : ∀ b u, H b = some u → b ≠ q.1 := fun b u e z => by
    rw [z, hn] at e
    cases e
  refine ⟨I.ok, I.os, I.bare, ⟨I.base.keep, I.base.slot, fun b o e n hx => ?_, I.base.there, fun b xs e => ?_, fun b ob u e => ?_, fun b ps e => ?_⟩, I.loc, I.cell, ?_, fun x c e => ?_, fun p hp => ?_, fun b u e => ?_, I.len⟩
  · rw [upd_ne (fun z => by rw [z, n0] at e; cases e)]
    exact I.base.free b o e n hx
  · have h := I.base.tups b xs e
    rw [upd_ne (ne _ _ h)]
    exact h
  · have h := I.base.frzs b ob u e
    rw [upd_ne (ne _ _ h)]
    exact h
  · obtain ⟨m, h⟩ := I.base.tbls b ps e
    exact ⟨m, by rw [upd_ne (ne _ _ h)]; exact h⟩
  · rw [upd_ne (Ne.symm hL)]
    exact I.free
  · rw [upd_ne]
    · exact I.freeC x c e
    · rintro rfl
      obtain ⟨v, oc, e1, e2⟩ := I.cell x _ e
      rw [hget] at e1
      cases e1
      exact hc v e2
  · have hp' : p ∈ X.pn ++ (pins ++ [q]) := by
      rcases List.mem_append.mp hp with h | h
      · exact List.mem_append_left _ h
      · exact List.mem_append_right _ (List.mem_append_left _ h)
    obtain ⟨h1, h2, h3⟩ := I.pin p hp'
    exact ⟨h1, by rw [upd_ne (np p hp)]; exact h2, h3⟩
  · by_cases hb : b = q.1
    · subst hb
      rw [upd_same] at e
      cases e
      exact ok
    · rw [upd_ne hb] at e
      exact (I.hok b u e).stay (fun c v _ z => z) (fun c z => by rw [upd_ne (ne _ _ z)]; exact z) fun c xs z => by rw [upd_ne (ne _ _ z)]; exact z
end
/-- the wish of 'except c as n: suite', the exception kept as a value behind it -/
def wKeep (K : PySem.W.Frag) (c : Value) (i : Nat) (ts : Addr → Value → Option Addr → TS) (Wout : WX) (D : Ends) : WX := fun cls d σ H =>
  ∃ b, PySem.W.exmOne K cls c = some b ∧ (b = true → ∃ A, cls = .ref A ∧ d = none ∧ ∀ a, H a = none → ts a cls d { nx := fun σ' H' => H' a = none → D.nx (σ'.set i none) (upd H' a (ExT A a)), rt := D.rt, bk := fun σ' H' => D.bk (σ'.set i none) H', ct := fun σ' H' => D.ct (σ'.set i none) H' } (σ.set i (some (.ref a))) H) ∧
    (b = false → Wout cls d σ H)
def tTry (K : PySem.W.Frag) (c : Value) (i : Nat) (ts : Addr → Value → Option Addr → TS) (Wout : WX) (tb : WX → TS) : TS := fun D σ H => tb (wKeep K c i ts Wout D) D σ H
section
variable {X : Cx} {x n : Str} {c : Value} {i : Nat} {body suite : List Stmt} {b₀ : Stmt} {np pos pos' : Pos} {tb : WX → TS} {ts : Addr → Value → Option Addr → TS} {Wout : WX}
theorem ps_try_keep (hs : X.stack = X.env :: X.outer) (hf : X.env.frame = some X.env.locals) (hex : X.ex = []) (hN : X.N.Nodup) (hi : X.N[i]? = some n) (hln : X.env.kindOf n = some .local) (hc : Names X x c) (tk : Takes X Wout)
    (hb : ∀ (W : WX) (pn : List (Addr × Obj)) (xe : Value → Shared → Prop), Takes (X.tr pn xe) W → PassesOwn (model X.prog X.w) X.A X.env xe → PSs (X.tr pn xe) body (tb W))
    (hsu : ∀ (a : Addr) (oe : Obj) (cls : Value) (d : Option Addr) (pn : List (Addr × Obj)), Zc cls d oe → (∃ vs, oe.data = .fields vs) → PSs (X.suite a ((a, oe) :: pn)) (b₀ :: suite) (ts a cls d)) :
    PS X (.Try body [.ExceptHandler (some (.Name x np)) (some n) (b₀ :: suite) pos'] [] [] pos) (tTry X.K c i ts Wout tb) := by
  refine ⟨fun pins s σ H D I h => ?_⟩
  have ok := I.ok
  have hfr : X.A.frames = some (X.env :: X.outer) := by rw [ok.frames, hs]
  have hloc : Loc X.env.scope n := .inl hln
  refine wpAny_Try_except ?_
  refine wpAny_mono ((hb (wKeep X.K c i ts Wout D) (X.pn ++ pins) (fun e s₁ => wpAny (model X.prog X.w) X.A (noteFrame e X.env) (fun _ s₂ => wpAny (model X.prog X.w) X.A (setFlight e none) (fun _ s₃ =>
    wpAny (model X.prog X.w) X.A (handleBy e X.env [.ExceptHandler (some (.Name x np)) (some n) (b₀ :: suite) pos']) (SP X pins D) X.xe s₃) X.xe s₂) X.xe s₁) (fun u s' xx => ?_) PassesOwn.looking).run [] s σ H D (I.toTry _) h) (fun f s1 hsp => ?_) (fun e s1 he => he)
  · obtain ⟨a, B, sI, pins', σ', H', cls, d, rfl, J', nb, up, sky, na, os, ag, b, hb1, hyes, hno⟩ := xx
    have J : Inv X pins σ' H' sI := J'.ofTry ok
    have sky' : Sky B (X.env :: X.outer) a (Zc cls d) X.env.locals s'.heap := by rw [← hs]; exact sky
    show wpAny (model X.prog X.w) X.A (noteFrame (.ref a) X.env) _ _ _
    refine Sky.land Zc.steady hfr hf sky' fun h3 fl3 up3 => ?_
    have J3 : Inv X pins σ' H' { s' with heap := h3 } := J.landed nb fl3.1 (up.trans up3) os ag
    obtain ⟨oe3, vs3, he3, hz3, hd3⟩ := fl3.there
    have notFr : ∀ {h : Heap} {o : Obj} {vs : Array Value}, h.FunFrames B (X.env :: X.outer) → h.get? a = some o → o.data = .fields vs → a ∉ frs (X.env :: X.outer) := fun {h o vs} ff e dd hm => by
      obtain ⟨_, o', e', hnf⟩ := ff.mem hm
      rw [e] at e'; cases e'
      exact hnf _ dd
    have nfr := notFr fl3.2.2.1 he3 hd3
    have nL : a ≠ X.env.locals := fun z => nfr (List.mem_filterMap.mpr ⟨X.env, List.mem_cons_self, by rw [hf, z]⟩)
    have nF : a ∉ X.fs := fun hm => by
      obtain ⟨e, he, q⟩ := List.mem_filterMap.mp hm
      exact nfr (List.mem_filterMap.mpr ⟨e, List.mem_cons_of_mem _ he, q⟩)
    have noI : ∀ o, sI.heap.get? a ≠ some o := fun o e => by
      have z := nb a o e (by rw [hs]; exact nfr)
      have z2 := fl3.2.1
      rw [z] at z2
      cases z2
    have n0 : X.s_0.heap.get? a = none := by
      cases e : X.s_0.heap.get? a with
      | none => rfl
      | some o =>
        obtain ⟨o', z⟩ := J.base.there a o e (by rw [hex]; exact fun z => nomatch z)
        exact absurd z (noI o')
    have npp : ∀ p ∈ X.pn ++ pins, p.1 ≠ a := fun p hp z => by
      obtain ⟨h1, _⟩ := J.pin p hp
      rw [z] at h1
      exact noI _ h1
    have S3 := J3.suite he3 hd3 na nL nF
    refine wpAny_handleBy_cons (codeAny_handlers_test ?_) (by intro q; cases q)
    have LT : PySem.W.Looks (model X.prog X.w) h3 (typeOf (.ref a)) cls := fun A Q E s k q => wpAny_typeOf_ref (k _ _ he3) (by rw [hz3.1]; exact q)
    have LM := PySem.W.exm_one (M := model X.prog X.w) (J3.kIn) LT hb1
    have test : ∀ {Q : Value → Shared → Prop} {E : Value → Shared → Prop}, Q c { s' with heap := h3 } → wpAny (model X.prog X.w) (X.A.mark (some (.ref a))) (eval (.Name x np) X.env) Q E { s' with heap := h3 } := fun {Q E} q => by
      obtain ⟨hg, hdbg, hm | ⟨hm, hv, hnn⟩⟩ := hc
      · exact ld_glob (X := X.suite a ((a, oe3) :: (X.pn ++ pins))) S3 hg hm q hdbg
      · exact ld_blt (X := X.suite a ((a, oe3) :: (X.pn ++ pins))) S3 hg hm hv q hnn hdbg
    refine test (LM.here ?_)
    cases b with
    | true =>
      obtain ⟨A, hA, hd0, hyes⟩ := hyes rfl
      refine codeAny_handlers_suite_as ?_
      refine HandSPX.lands_againZ fl3 fun h4 fl4 up4 => ?_
      have J4 : Inv X pins σ' H' { s' with heap := h4 } := J.landed nb fl4.1 ((up.trans up3).trans up4) os ag
      obtain ⟨oe4, vs4, he4, hz4, hd4⟩ := fl4.there
      have S4 := J4.suite he4 hd4 na nL nF
      refine store_ok (X := X.suite a ((a, oe4) :: (X.pn ++ pins))) (v := .ref a) S4 hN hi hloc rfl (fun s5 S5 => ?_) (.inr hln)
      refine wpAny_mono ((hsu a oe4 cls d (X.pn ++ pins) hz4 ⟨_, hd4⟩).run [] s5 _ H' _ S5 (hyes a na)) (fun f s6 hsp => ?_) (fun _ _ z => False.elim z)
      have end_ : ∀ {σ6 : L2.St} {H6 : Hp} {Q : Shared → Prop}, Inv (X.suite a ((a, oe4) :: (X.pn ++ pins))) [] σ6 H6 s6 → (∀ s7, Inv X pins (σ6.set i none) H6 s7 → Q s7) →
          wpAny (model X.prog X.w) X.A (do bindName X.env n .none; unbindBehindTheSuite X.env n pos') (fun _ s7 => Q s7) X.xe s6 := fun {σ6 H6 Q} S6 hq => gone_ok (S6.unsuite ok) hN hi hln hq
      cases f with
      | next =>
        obtain ⟨σ6, H6, S6, q6⟩ := hsp
        have S7 := inv_unsuite S6 ok
        obtain ⟨_, h6, _⟩ := S7.pin (a, oe4) (List.mem_append_right _ (List.mem_append_right _ List.mem_cons_self))
        refine gone_ok S7 hN hi hln fun s7 J7 => ?_
        obtain ⟨g7, _⟩ := J7.pin (a, oe4) (List.mem_append_right _ (List.mem_append_right _ List.mem_cons_self))
        refine ⟨_, _, inv_track J7 n0 npp (o := ExT A a) ?_, q6 h6⟩
        have J : PySem.W.InstAt s7.heap a oe4 A none := by
          obtain ⟨oc, od, oda, osl⟩ := oe4
          obtain ⟨h1, h2⟩ := hz4
          dsimp only at h1 h2 hd4
          subst h1 h2 hd4
          subst hd0
          cases hA
          exact ⟨g7, rfl, rfl, trivial⟩
        refine ⟨⟨_, J⟩, ⟨_, g7⟩, fun h1 h2 ⟨o, ⟨j1, j2, j3, j4⟩⟩ k => ⟨o, ⟨k o j1, j2, j3, ?_⟩⟩⟩
        revert j4
        cases o.dict with
        | none => exact fun z => z
        | some dx => exact fun z => z.elim
      | brk =>
        obtain ⟨σ6, H6, S6, q6⟩ := hsp
        exact end_ S6 fun s7 J7 => ⟨_, _, J7, q6⟩
      | cont =>
        obtain ⟨σ6, H6, S6, q6⟩ := hsp
        exact end_ S6 fun s7 J7 => ⟨_, _, J7, q6⟩
      | ret u =>
        obtain ⟨v6, σ6, H6, S6, r6, q6⟩ := hsp
        exact end_ S6 fun s7 J7 => ⟨_, _, _, J7, r6, q6⟩
    | false =>
      show wpAny _ X.A (handleBy (.ref a) X.env []) _ _ _
      refine wpAny_handleBy_nil ?_
      obtain ⟨k1, k2, k3, oe, vs, T, oT, ts', he, hz, hd, h1, hr⟩ := id fl3
      unfold PySem.passOn
      refine wpAny_bind (wpAny_field he hd h1 ?_)
      rw [if_neg (show ¬ ((Value.ref T == Value.none) = true) from by simp)]
      have fin : wpAny (model X.prog X.w) X.A (setFlight (.ref a) X.env.frame) (fun _ s4 => wpAny (model X.prog X.w) X.A (throw (.ref a) : Sem Flow) (SP X pins D) X.xe s4) X.xe { s' with heap := h3 } := by
        rw [hf]
        refine HandSPX.setFlight_upZ fl3 fun h4 hh4 up4 => wpAny_throw (tk _ _ ?_)
        exact ⟨a, B, sI, pins, σ', H', cls, d, rfl, J, nb, (up.trans up3).trans up4, .inr (.inr (by rw [hs]; exact hh4)), na, os, ag, hno rfl⟩
      first
        | exact wpAny_bind (wpAny_pure (wpAny_bind fin))
        | exact wpAny_bind fin
  · cases f with
    | next =>
      obtain ⟨σ', H', J', q⟩ := hsp
      exact wpAny_execs_nil ⟨σ', H', J'.ofTry ok, q⟩
    | brk =>
      obtain ⟨σ', H', J', q⟩ := hsp
      exact ⟨σ', H', J'.ofTry ok, q⟩
    | cont =>
      obtain ⟨σ', H', J', q⟩ := hsp
      exact ⟨σ', H', J'.ofTry ok, q⟩
    | ret u =>
      obtain ⟨v, σ', H', J', r, q⟩ := hsp
      exact ⟨v, σ', H', J'.ofTry ok, r, q⟩
end
/-! ### isinstance of a kept exception; count of flat items -/
def rIsX (K : PySem.W.Frag) : List V → Hp → VK → Prop := fun xs H Q => ∃ (a A : Addr) (c : V) (cv : Value) (b : Bool), xs = [.ref a, c] ∧ H a = some (ExT A a) ∧ ExcC K A ∧ ClsV c cv ∧ PySem.W.kitOne K (.ref A) cv = some b ∧ Q (.bl b) H
theorem call_isX {X : Cx} : CallR X (.builtin "isinstance") (rIsX X.K) := by
  intro pins s σ H xs us Q I r h
  obtain ⟨a, A, c, cv, b, rfl, ha, C, hcv, e, q⟩ := h
  obtain ⟨u1, u2, rfl, r1, r2⟩ := vals2 r
  cases (show u1 = Value.ref a from r1)
  have ec := hcv.eq r2
  subst ec
  obtain ⟨⟨oe, J⟩, _⟩ := (show ObjOk X.prog X.w H s.heap a (ExT A a) from I.hok a _ ha)
  exact PySem.W.kia_one (PySem.W.handS_kitx_exc C.hg C.hk C.hs C.hd C.ha C.hn C.ht C.hm) I.kIn J e (fun z => nomatch z) fun tk => ⟨.bl b, H, I.tok tk, rfl, q⟩
def rCntF (K : PySem.W.Frag) : V → List V → Hp → VK → Prop := fun x xs H Q => ∃ (p : Addr) (ys : List V) (y : V), x = .ref p ∧ xs = [y] ∧ SqL K H p ys ∧ flatV y = true ∧ ys.all flatV = true ∧ Q (.int (ys.countP fun z => eqV z y : Nat)) H
theorem eqU_count {y : V} : ∀ {ys : List V} {us : List Value}, Vals ys us → ys.all flatV = true → us.countP (eqU y) = ys.countP fun z => eqV z y
  | _, _, .nil, _ => rfl
  | z :: ys, u :: us, .cons r t, f => by
    rw [List.all_cons, Bool.and_eq_true] at f
    rw [List.countP_cons, List.countP_cons, eqU_count t f.2, eqU_of r f.1]
theorem mt_countF {X : Cx} : MtR X "list.count" (rCntF X.K) := by
  intro pins s σ H x xs v us Q I rx rxs h
  obtain ⟨p, ys, y, rfl, rfl, hs, fy, fys, q⟩ := h
  cases rx
  cases rxs with
  | cons ry rt =>
    rename_i uy ut
    cases rt
    obtain ⟨its, rv, ⟨⟨cls, dd, data, sl⟩, n, ho, hc, hdn, hd⟩, hlen⟩ := I.list hs
    simp only at hc hd
    subst hc hd
    refine call_meets PySem.F.slot_list_count ⟨_, ho, rfl⟩ PySem.F.entry_list_count (PySem.F.args_list_count_2 _ _)
      (SeqAt.list_countAt p its.toArray n dd sl uy (eqU y)) ⟨ho, fun u' hu' => mem_eqAt ry fy rv fys u' (by simpa using hu'), ?_⟩
    have ec : its.toArray.toList.countP (eqU y) = ys.countP fun z => eqV z y := eqU_count rv fys
    refine ⟨.int (ys.countP fun z => eqV z y : Nat), H, I.tok _, ⟨s.toks, ?_⟩, q⟩
    show Value.int ((its.toArray.toList.countP (eqU y) : Nat) : Int) s.toks = Value.int ((ys.countP fun z => eqV z y : Nat) : Int) s.toks
    rw [ec]
/-! ### calls that may raise, by slots -/
def tMethS (C : Addr) (m : Str) (sp : Sp) (E : L2.St → XK) (ta : TE) (t : TA) : TE := fun σ H Q => ta σ H fun x H1 => ∃ a dx fs, x = .ref a ∧ H1 a = some (.ins C dx fs) ∧ fs.lookup m = none ∧
  t σ H1 fun vs H2 => sp (x :: vs) H2 Q (E σ)
def tMakeS (C : Addr) (sp : Sp) (E : L2.St → XK) (t : TA) : TE := fun σ H Q => t σ H fun vs H1 => ∀ x dx, H1 x = none → H1 dx = none → dx ≠ x →
  sp (.ref x :: vs) (upd (upd H1 dx (.own x)) x (.ins C dx [])) (fun v H2 => v = .non ∧ Q (.ref x) H2) (E σ)
section
variable {X : Cx} {CX : CXT} {k : Nat} {f C : Addr} {fd : FuncData} {ps : List Str} {sp : Sp} {E : L2.St → XK} {x m : Str} {p pos apos : Pos} {e o : PySem.Expr} {es : List PySem.Expr} {ta : TE} {t : TA}
theorem pe_methS {pl : Sem Bool} (he : PE X o ta) (c : Cls X.K C) (hm : Meth X.K C m f) (F : FnOk X.prog X.w X.K X.mg X.base CX k f fd ps sp) (hr : Room k X.A) (hb : Binds X.K fd ps []) (hx : ∀ σ, PassesAt CX X σ (E σ)) (ha : PA X (e :: es) t)
    (hst : starEach (e :: es) X.env = (false, eval e X.env) :: starEach es X.env := by rfl) (hpl : (backTo pos (starEach es X.env)).any (·.1) = false := by rfl)
    (ht : eval (.Call (.Attribute o m apos) (e :: es) [] pos) X.env = (do
      let ov ← eval o X.env
      standAt apos.atName
      let (f, first) ← holding [ov] (getMethod ov m pl)
      callWith pos f first (backTo pos (starEach (e :: es) X.env)) (backToKw pos (keywordEach [] X.env))) := by rfl) :
    PE X (.Call (.Attribute o m apos) (e :: es) [] pos) (tMethS C m sp E ta t) := by
  refine ⟨fun pins s σ H Q I h => ?_⟩
  refine PySem.W.methodCall_KW (pl := pl) (thn (he.run pins s σ H _ I h) fun u s1 ⟨x, H1, I1, rx, a, dx, fs, ex, ea, l, q⟩ => ?_) ht
  subst ex
  obtain rfl : u = Value.ref a := rx
  refine getmeth_ok I1 ea c hm l ?_
  refine PySem.W.callWith_K (first := [.ref a]) (h₀ := X.base) I.ok.mod.kin hm.kp (thn (ha.run pos pins s1 σ H1 _ I1 q) fun us s2 ⟨vs, H2, I2, r, q2⟩ => ⟨I2.kIn, ?_⟩) hst hpl
  exact run_fnS (us := .ref a :: us) (vs := .ref a :: vs) F hr hb (hx σ) I2 (.cons rfl r) q2
theorem run_makeS {pins : List (Addr × Obj)} {σ : L2.St} {H : Hp} {s : Shared} {Q : VK} {us : List Value} {vs : List V} (M : Mk X.K C f) (F : FnOk X.prog X.w X.K X.mg X.base CX k f fd ps sp) (hr : Room (k + 1) X.A) (hb : Binds X.K fd ps [])
    (hx : PassesAt CX X σ (E σ)) (I : Inv X pins σ H s) (r : Vals vs us)
    (h : ∀ x dx, H x = none → H dx = none → dx ≠ x → sp (.ref x :: vs) (upd (upd H dx (.own x)) x (.ins C dx [])) (fun v H2 => v = .non ∧ Q (.ref x) H2) (E σ)) :
    wpAny (model X.prog X.w) X.A (call (.ref C) us) (EP X pins σ Q) X.xe s := by
  have hq := h (s.heap.objs.size + 1) s.heap.objs.size (I.hok.fresh (Nat.le_succ _)) (I.hok.fresh (Nat.le_refl _)) (Nat.ne_of_lt (Nat.lt_succ_self _))
  have I2 := Inv.made (C := C) I
  have r2 : Vals (V.ref (s.heap.objs.size + 1) :: vs) (Value.ref (s.heap.objs.size + 1) :: us) := .cons rfl r
  have hl : (Value.ref (s.heap.objs.size + 1) :: us ++ []).length = ps.length := by
    have e := r2.length
    rw [F.len _ _ _ _ hq] at e
    rw [List.append_nil]
    exact e.symm
  have hbb := hb _ (Value.ref (s.heap.objs.size + 1) :: us) I2.kIn hl
  rw [List.append_nil] at hbb
  refine wpAny_call (make_map (f := f) I.kIn M.makes M.init (beq_iff_eq.mp M.fn) (codeAny_mono (F.run _ X.stack _ _ ⟨Value.ref (s.heap.objs.size + 1) :: us, []⟩ (Value.ref (s.heap.objs.size + 1) :: us) _ _ (E σ) (hr.make C us [])
    (I2.env0.make C us []) hbb r2 hq) fun r s' hq' => ?_))
  cases r with
  | error e => exact hx pins _ _ e s' I2 hq'
  | ok fl =>
    cases fl with
    | ret u =>
      obtain ⟨v, H', I3, rv, ev, q3⟩ := I2.after hq'
      subst ev
      exact ⟨rv, ⟨V.ref (s.heap.objs.size + 1), H', I3, rfl, q3⟩⟩
    | next => exact False.elim hq'
    | brk => exact False.elim hq'
    | cont => exact False.elim hq'
theorem pe_makeS (M : Mk X.K C f) (F : FnOk X.prog X.w X.K X.mg X.base CX k f fd ps sp) (hr : Room (k + 1) X.A) (hg : Gl X x) (hm : X.mg x = some (.ref C)) (hb : Binds X.K fd ps []) (hx : ∀ σ, PassesAt CX X σ (E σ))
    (ha : PA X (e :: es) t) (hdb : (x == ("__debug__" : Str)) = false := by decide) (he : starEach (e :: es) X.env = (false, eval e X.env) :: starEach es X.env := by rfl) (hpl : (backTo pos (starEach es X.env)).any (·.1) = false := by rfl) :
    PE X (.Call (.Name x p) (e :: es) [] pos) (tMakeS C sp E t) := by
  refine ⟨fun pins s σ H Q I h => ?_⟩
  refine wpAny_Call_Name_kw (ld_glob I hg hm ?_ hdb)
  refine PySem.W.callWith_K (h₀ := X.base) I.ok.mod.kin M.kp (thn (ha.run pos pins s σ H _ I h) fun us s1 ⟨vs, H1, I1, r, q⟩ => ⟨I1.kIn, ?_⟩) he hpl
  exact run_makeS M F hr hb (hx σ) I1 r q
end
end Yp
set_option Elab.async false
set_option linter.all false
set_option autoImplicit false
set_option maxRecDepth 100000
set_option maxHeartbeats 2000000
/-! Judgements for what raises. -/
namespace Yp
open PySem L2 Evl
/-- the def's wish of exceptions as a wish with slots -/
abbrev wOf (E : XK) : WX := fun c o _ H => E c o H
/-- an expression that raises an exception of the class at A -/
def XX (C : Kx) (W : WX) (te : TE) (ds : List Sl) (A : Addr) : Prop := ∀ (G0 H0 G H : Hp) (σ : L2.St), En C G0 H0 G H σ ds → (∀ G' H', Stp G H G' H' → W (.ref A) none σ H') → ∀ Q, te σ H Q
def AX (C : Kx) (W : WX) (ta : TA) (ds : List Sl) (A : Addr) : Prop := ∀ (G0 H0 G H : Hp) (σ : L2.St), En C G0 H0 G H σ ds → (∀ G' H', Stp G H G' H' → W (.ref A) none σ H') → ∀ Q, ta σ H Q
/-- the promise of a def that raises -/
def spE (C : Kx) (Rx : List Da → Addr → Prop) : Sp := fun vs H Q E => ∃ das A G, Ex G H ∧ RpAll C G vs das ∧ Rx das A ∧ ∀ G' H', Stp G H G' H' → E (.ref A) none H'
def spB (C : Kx) (Rl : List Da → Da → Prop) (Rx : List Da → Addr → Prop) : Sp := fun vs H Q E => spR C Rl vs H Q E ∨ spE C Rx vs H Q E
def spBO (C : Kx) (Rl : List Da → List PyData → Prop) (Rx : List Da → Addr → Prop) : Sp := fun vs H Q E => spO C Rl vs H Q E ∨ spE C Rx vs H Q E
/-- .. of an __init__ that raises -/
def spIE (C : Kx) (A : Addr) (Rx : List Da → Addr → Prop) : Sp := fun vs H Q E => ∃ das B Gc Hc x dx ws, vs = .ref x :: ws ∧ H = upd (upd Hc dx (.own x)) x (.ins A dx []) ∧ Hc x = none ∧ Hc dx = none ∧ dx ≠ x ∧ Ex Gc Hc ∧ RpAll C Gc ws das ∧ Rx das B ∧
  ∀ G' H', Stp Gc Hc G' H' → E (.ref B) none H'
def spIB (C : Kx) (A : Addr) (Rl : List Da → Da → Prop) (Rx : List Da → Addr → Prop) : Sp := fun vs H Q E => spI C A Rl vs H Q E ∨ spIE C A Rx vs H Q E
section
variable {C : Kx} {W : WX} {E : L2.St → XK} {ds : List Sl} {te tb : TE} {ta tr : TA} {das : List Da} {d : Da} {A : Addr} {Rl : List Da → Da → Prop} {Rx : List Da → Addr → Prop}
theorem ax_hd (h : XX C W te ds A) : AX C W (tCons te tr) ds A := fun G0 H0 G H σ e k Q => h G0 H0 G H σ e k _
theorem ax_tl (h : XD C te ds d) (hr : AX C W tr ds A) : AX C W (tCons te tr) ds A := fun G0 H0 G H σ e k Q =>
  h G0 H0 G H σ e _ fun x G1 H1 s1 r1 => hr G0 H0 G1 H1 σ (e.step s1) (fun G' H' s => k G' H' (s1.trans s)) _
theorem xd_callS (h : AD C ta ds das) (hr : Rl das d) : XD C (tCallS (spB C Rl Rx) E ta) ds d := fun G0 H0 G H σ e Q q =>
  h G0 H0 G H σ e _ fun vs G1 H1 s1 r1 => .inl ⟨das, d, G1, s1.s, r1, hr, fun v G2 H2 s2 r2 => q v G2 H2 (s1.trans s2) r2⟩
theorem xl_callS {Rl : List Da → List PyData → Prop} {xs : List PyData} (h : AD C ta ds das) (hr : Rl das xs) : XL C (tCallS (spBO C Rl Rx) E ta) ds xs := fun G0 H0 G H σ e Q q =>
  h G0 H0 G H σ e _ fun vs G1 H1 s1 r1 => .inl ⟨das, xs, G1, s1.s, r1, hr, fun l ws G2 H2 s2 h1 h2 h3 r2 => q l ws G2 H2 (s1.trans s2) (fresh_back s1.h h1) h2 h3 r2⟩
theorem xx_callS (h : AD C ta ds das) (hr : Rx das A) : XX C W (tCallS (spB C Rl Rx) (WE W) ta) ds A := fun G0 H0 G H σ e k Q =>
  h G0 H0 G H σ e _ fun vs G1 H1 s1 r1 => .inr ⟨das, A, G1, s1.s, r1, hr, fun G2 H2 s2 => k G2 H2 (s1.trans s2)⟩
theorem xx_callSO {Rl : List Da → List PyData → Prop} (h : AD C ta ds das) (hr : Rx das A) : XX C W (tCallS (spBO C Rl Rx) (WE W) ta) ds A := fun G0 H0 G H σ e k Q =>
  h G0 H0 G H σ e _ fun vs G1 H1 s1 r1 => .inr ⟨das, A, G1, s1.s, r1, hr, fun G2 H2 s2 => k G2 H2 (s1.trans s2)⟩
theorem xx_arg {sp : Sp} {dvs : List V} {E0 : XK} (h : AX C W ta ds A) : XX C W (tCall sp dvs E0 ta) ds A := fun G0 H0 G H σ e k Q => h G0 H0 G H σ e k _
theorem xd_methS {m : Str} {c : List (Int × Int)} (hm : (m == ("chances" : Str)) = false) (h : XD C te ds (.tab c)) (ha : AD C ta ds das) (hr : Rl (.tab c :: das) d) : XD C (tMethS C.T m (spB C Rl Rx) E te ta) ds d := fun G0 H0 G H σ e Q q =>
  h G0 H0 G H σ e _ fun v G1 H1 s1 r1 => by
    have r1' := r1
    obtain ⟨a, dx, l, e1, e2, e3⟩ := r1'
    exact ⟨a, dx, _, e1, s1.s _ _ e2, by simp only [List.lookup, hm], ha G0 H0 G1 H1 σ (e.step s1) _ fun vs G2 H2 s2 r2 => .inl ⟨.tab c :: das, d, G2, s2.s, .cons (r1.mono s2.g) r2, hr, fun v G3 H3 s3 r3 => q v G3 H3 ((s1.trans s2).trans s3) r3⟩⟩
theorem xx_methS {m : Str} {c : List (Int × Int)} (hm : (m == ("chances" : Str)) = false) (h : XD C te ds (.tab c)) (ha : AD C ta ds das) (hr : Rx (.tab c :: das) A) : XX C W (tMethS C.T m (spB C Rl Rx) (WE W) te ta) ds A := fun G0 H0 G H σ e k Q =>
  h G0 H0 G H σ e _ fun v G1 H1 s1 r1 => by
    have r1' := r1
    obtain ⟨a, dx, l, e1, e2, e3⟩ := r1'
    exact ⟨a, dx, _, e1, s1.s _ _ e2, by simp only [List.lookup, hm], ha G0 H0 G1 H1 σ (e.step s1) _ fun vs G2 H2 s2 r2 => .inr ⟨.tab c :: das, A, G2, s2.s, .cons (r1.mono s2.g) r2, hr, fun G3 H3 s3 => k G3 H3 ((s1.trans s2).trans s3)⟩⟩
theorem xd_makeS {B : Addr} (ha : AD C ta ds das) (hr : Rl das d) : XD C (tMakeS B (spIB C B Rl Rx) E ta) ds d := fun G0 H0 G H σ e Q q =>
  ha G0 H0 G H σ e _ fun vs G1 H1 s1 r1 x dx hx hdx ne => .inl ⟨das, d, G1, H1, x, dx, vs, rfl, rfl, hx, hdx, ne, s1.s, r1, hr, fun G2 H2 s2 r2 => ⟨rfl, q _ G2 H2 (s1.trans s2) r2.rp⟩⟩
theorem xx_makeS {B : Addr} (ha : AD C ta ds das) (hr : Rx das A) : XX C W (tMakeS B (spIB C B Rl Rx) (WE W) ta) ds A := fun G0 H0 G H σ e k Q =>
  ha G0 H0 G H σ e _ fun vs G1 H1 s1 r1 x dx hx hdx ne => .inr ⟨das, A, G1, H1, x, dx, vs, rfl, rfl, hx, hdx, ne, s1.s, r1, hr, fun G2 H2 s2 => k G2 H2 (s1.trans s2)⟩
/-! statements -/
variable {R : DE} {g : TG}
theorem sd_dropX (h : XX C W te ds A) (k : R.ex (.ref A) ds) : SD C W (tDrop te) ds R := fun G0 H0 G H σ D e kn kr ko kb kc kx =>
  h G0 H0 G H σ e (fun G' H' s => kx _ _ ds σ G' H' rfl k s.g (e.step s)) _
theorem sd_asgX (h : XX C W te ds A) (k : R.ex (.ref A) ds) : SD C W (tAsg te g) ds R := fun G0 H0 G H σ D e kn kr ko kb kc kx =>
  h G0 H0 G H σ e (fun G' H' s => kx _ _ ds σ G' H' rfl k s.g (e.step s)) _
theorem sd_retX (h : XX C W te ds A) (k : R.ex (.ref A) ds) : SD C W (tRet te) ds R := fun G0 H0 G H σ D e kn kr ko kb kc kx =>
  h G0 H0 G H σ e (fun G' H' s => kx _ _ ds σ G' H' rfl k s.g (e.step s)) _
/-- raise -/
def tRaise (A : Addr) (W : WX) : TS := fun _ σ H => W (.ref A) none σ H
theorem sd_raise (k : R.ex (.ref A) ds) : SD C W (tRaise A W) ds R := fun G0 H0 G H σ D e kn kr ko kb kc kx => kx _ _ ds σ G H rfl k (Ex.refl _) e
end
section
variable {C : Kx} {ds : List Sl} {R : DE} {W : WX}
theorem En.unset {G0 H0 G H : Hp} {σ : L2.St} {i : Nat} (e : En C G0 H0 G H σ ds) : En C G0 H0 G H (σ.set i none) (ds.set i .un) := by
  have f : ∀ {j : Nat} {s : Sl}, s ≠ .un → (ds.set i .un)[j]? = some s → i ≠ j ∧ ds[j]? = some s := fun {j s} n h => by
    by_cases q : i = j
    · subst q
      by_cases hi : i < ds.length
      · rw [List.getElem?_set_self hi] at h
        cases h
        exact absurd rfl n
      · rw [List.set_eq_of_length_le (by omega), List.getElem?_eq_none (by omega)] at h
        cases h
    · rw [List.getElem?_set_ne q] at h
      exact ⟨q, h⟩
  refine ⟨e.stp, e.s0, by rw [List.length_set, List.length_set]; exact e.len, fun j d h => ?_, fun j xs h => ?_, fun j A x fs h => ?_, fun j k xs ys l h1 h2 h3 h4 => ?_, e.nl.set (Ex.refl _) (fun _ z => by cases z) (fun _ z => by cases z) fun a vs h1 h2 _ => ⟨h1, h2⟩⟩
  · obtain ⟨q, h⟩ := f (fun z => by cases z) h
    rw [List.getElem?_set_ne q]
    exact e.va j d h
  · obtain ⟨q, h⟩ := f (fun z => by cases z) h
    rw [List.getElem?_set_ne q]
    exact e.ow j xs h
  · obtain ⟨q, h⟩ := f (fun z => by cases z) h
    rw [List.getElem?_set_ne q]
    exact e.ob j A x fs h
  · obtain ⟨q1, h1⟩ := f (fun z => by cases z) h1
    obtain ⟨q2, h2⟩ := f (fun z => by cases z) h2
    rw [List.getElem?_set_ne q1] at h3
    rw [List.getElem?_set_ne q2] at h4
    exact e.di j k xs ys l h1 h2 h3 h4
/-- try: .. except c as n (slot i): found (slot j) = n -/
theorem sd_try {tb : WX → TS} {i j : Nat} {c : Value} {Wout : WX} (ne : i ≠ j) (hi : i < ds.length)
    (hb : ∀ W', SD C W' (tb W') ds { R with ex := fun cl ds' => ∃ A, cl = .ref A ∧ ds'.length = ds.length ∧ PySem.W.exmOne C.K (.ref A) c = some true ∧ R.nx ((((ds'.set i (.va (.exc A))).set j (.va (.exc A)))).set i .un) }) :
    SD C W (tTry C.K c i (fun _ _ _ => tAsg (tVar i) (gName j)) Wout tb) ds R := fun G0 H0 G H σ D e kn kr ko kb kc kx =>
  hb _ G0 H0 G H σ D e kn kr ko kb kc (fun cl o ds' σ' G' H' ho hx x' e' => by
    obtain ⟨A, rfl, hl, hm, hn⟩ := hx
    subst ho
    refine ⟨true, hm, fun _ => ⟨A, rfl, rfl, fun a ha => ?_⟩, fun z => by cases z⟩
    have hlt : i < σ'.length := by rw [e'.len, hl]; exact hi
    refine ⟨.ref a, List.getElem?_set_self hlt, fun _ => ?_⟩
    have s1 : Stp G' H' (upd G' a (ExT A a)) (upd H' a (ExT A a)) := .new e'.ex ha
    have r : Rp C (upd G' a (ExT A a)) (.ref a) (.exc A) := ⟨a, rfl, upd_same⟩
    exact kn _ _ _ _ hn (x'.trans s1.g) ((((e'.step s1).set r).set r).unset))
end
section
variable {C : Kx} {ds : List Sl} {te : TE}
/-- isinstance(e, B), e a kept exception -/
theorem xd_isE {A B : Addr} {k : Bool} (Ec : ExcC C.K A) (h : XD C te ds (.exc A)) (hk : PySem.W.kitOne C.K (.ref A) (.ref B) = some k) : XD C (tCB (rIsX C.K) (tCons te (tCons (tC (.ref B)) tNil))) ds (dB k) := fun G0 H0 G H σ e Q q =>
  h G0 H0 G H σ e _ fun v G1 H1 s1 r1 => by
    obtain ⟨a, e1, e2⟩ := r1
    subst e1
    exact ⟨a, A, _, _, k, rfl, s1.s _ _ e2, Ec, .own B, hk, q _ G1 H1 s1 (Dp.bl k)⟩
theorem xd_isET {A : Addr} {n : String} {k : Bool} (Ec : ExcC C.K A) (h : XD C te ds (.exc A)) (hk : PySem.W.kitOne C.K (.ref A) (.type n) = some k) : XD C (tCB (rIsX C.K) (tCons te (tCons (tC (.ty n)) tNil))) ds (dB k) := fun G0 H0 G H σ e Q q =>
  h G0 H0 G H σ e _ fun v G1 H1 s1 r1 => by
    obtain ⟨a, e1, e2⟩ := r1
    subst e1
    exact ⟨a, A, _, _, k, rfl, s1.s _ _ e2, Ec, .ty n, hk, q _ G1 H1 s1 (Dp.bl k)⟩
theorem dpa_bls {K : PySem.W.Frag} {G : Hp} : ∀ {bs : List Bool} {vs : List V}, DpAll K G vs (bs.map PyData.bool) → vs = bs.map V.bl
  | [], _, .nil => rfl
  | b :: r, _, .cons h t => by rw [dp_bl h, dpa_bls t]; rfl
theorem flat_bls : ∀ bs : List Bool, (bs.map V.bl).all flatV = true
  | [] => rfl
  | b :: r => by
    rw [List.map_cons, List.all_cons, flat_bls r]
    rfl
/-- xs.count(k) of truths -/
theorem xd_countB {i : Nat} {bs : List Bool} {k : Bool} {tb : TE} (hd : ds[i]? = some (.va (.pd (.list (bs.map .bool))))) (h : XD C tb ds (dB k)) : XD C (tBM C.K "list" (rCntF C.K) (tVar i) (tCons tb tNil)) ds (dI ((bs.countP fun z => z == k : Nat) : Int)) := fun G0 H0 G H σ e Q q => by
  obtain ⟨v, h1, h2⟩ := e.va i _ hd
  obtain ⟨p, vs, e1, e2, e3⟩ := dp_lst h2
  subst e1
  refine ⟨_, h1, Or.inl ⟨rfl, vs, ex_l e.ex e2⟩, h G0 H0 G H σ e _ fun w G1 H1 s1 r1 => ?_⟩
  have ew := dp_bl r1
  subst ew
  have ev := dpa_bls e3
  subst ev
  refine ⟨p, _, _, rfl, rfl, ex_l (s1.s) (ex_l s1.g e2), rfl, flat_bls bs, ?_⟩
  have ec : (bs.map V.bl).countP (fun z => eqV z (.bl k)) = bs.countP fun z => z == k := by
    rw [List.countP_map]
    rfl
  rw [ec]
  exact q _ G1 H1 s1 (Dp.int _)
/-- xs.index(k) of truths -/
theorem xd_indexB {i : Nat} {bs : List Bool} {k : Bool} {j : Nat} {tb : TE} (hd : ds[i]? = some (.va (.pd (.list (bs.map .bool))))) (h : XD C tb ds (dB k)) (hj : bs[j]? = some k) (hn : ∀ m z, m < j → bs[m]? = some z → (z == k) = false) : XD C (tBM C.K "list" (rIndex C.K) (tVar i) (tCons tb tNil)) ds (dI (j : Int)) := fun G0 H0 G H σ e Q q => by
  obtain ⟨v, h1, h2⟩ := e.va i _ hd
  obtain ⟨p, vs, e1, e2, e3⟩ := dp_lst h2
  subst e1
  refine ⟨_, h1, Or.inl ⟨rfl, vs, ex_l e.ex e2⟩, h G0 H0 G H σ e _ fun w G1 H1 s1 r1 => ?_⟩
  have ew := dp_bl r1
  subst ew
  have ev := dpa_bls e3
  subst ev
  refine ⟨p, _, _, j, .bl k, rfl, rfl, ex_l (s1.s) (ex_l s1.g e2), rfl, flat_bls bs, by rw [List.getElem?_map, hj]; rfl, beq_self_eq_true k, fun m z' hm hz => ?_, q _ G1 H1 s1 (Dp.int _)⟩
  rw [List.getElem?_map] at hz
  cases hb : bs[m]? with
  | none => rw [hb] at hz; cases hz
  | some b =>
    rw [hb] at hz
    cases hz
    exact hn m b hm hb
end
/-! ### defs -/
section
variable {P : PySem.Program} {w : PySem.World} {C : Kx} {mg : Str → Option PySem.Value} {base : PySem.Heap}
theorem fn_up {k : Nat} {f : Addr} {fd : PySem.FuncData} {ps : List Str} {sp : Sp} (F : FnOk P w C.K mg base CX0 k f fd ps sp) : FnOk P w C.K mg base (L2.CX P w) k f fd ps sp :=
  ⟨F.len, fun A outer s H args us vs Q E hr he hb hv hs => PySem.codeAny_mono (F.run A outer s H args us vs Q E hr he hb hv hs) fun r s' h => by
    cases r with
    | ok fl => cases fl <;> exact h
    | error e => exact False.elim h⟩
theorem fn_or {CX : CXT} {k : Nat} {f : Addr} {fd : PySem.FuncData} {ps : List Str} {sp sp' : Sp} (F : FnOk P w C.K mg base CX k f fd ps sp) (F' : FnOk P w C.K mg base CX k f fd ps sp') : FnOk P w C.K mg base CX k f fd ps (fun vs H Q E => sp vs H Q E ∨ sp' vs H Q E) :=
  ⟨fun vs H Q E h => h.elim (F.len vs H Q E) (F'.len vs H Q E), fun A outer s H args us vs Q E hr he hb hv hs => hs.elim (F.run A outer s H args us vs Q E hr he hb hv) (F'.run A outer s H args us vs Q E hr he hb hv)⟩
/-- a def that raises, by what its body tells -/
theorem fn_sx {x qual : Str} {st : PySem.Stmt} {f : Addr} {fd : PySem.FuncData} {N ps : List Str} {k : Nat} {Rx : List Da → Addr → Prop} (F : Fun C.K x qual st f fd) (S : FnScope N ps (defScope st)) (len : ∀ das d, Rx das d → das.length = ps.length)
    (hb : ∀ (cdv : PySem.Value) (A : PySem.Around) (outer : List PySem.Env) (s : PySem.Shared) (H : Hp) (E : XK), Room k (A.deeper (PyProof.Rows.envOfC qual (defScope st) s.heap.objs.size f cdv)) →
      ∃ t, PSs (cxOf (L2.CX P w) P w C.K mg base N qual (defScope st) f cdv A outer s H E) (defBody st) t ∧ ∀ das B, Rx das B → SD C (wOf E) t (vaS das N.length) { nx := fun _ => False, ex := fun c _ => c = .ref B }) : FnOk P w C.K mg base (L2.CX P w) (k + 1) f fd ps (spE C Rx) :=
  F.okX S (fun vs H Q E ⟨das, d, G, _, r, hr, _⟩ => by rw [rpa_len r]; exact len das d hr) fun cdv A outer s H vs Q E hroom ⟨das, B, G, sG, r, hr, q⟩ => by
    obtain ⟨t, h1, h2⟩ := hb cdv A outer s H E hroom
    refine ⟨t, h1, h2 das B hr G H G H _ _ (.start sG r) (fun _ _ _ _ h => h.elim) (fun _ _ _ _ h => h.elim) (fun _ _ _ _ _ h => h.elim) (fun _ _ _ _ h => h.elim) (fun _ _ _ _ h => h.elim) (fun c o ds' σ' G' H' ho e1 _ e2 => ?_)⟩
    have e1 : c = .ref B := e1
    subst e1 ho
    exact q G' H' e2.stp
theorem fn_sxI {x qual : Str} {st : PySem.Stmt} {f A0 : Addr} {fd : PySem.FuncData} {N ps : List Str} {k : Nat} {Rx : List Da → Addr → Prop} (F : Fun C.K x qual st f fd) (S : FnScope N ps (defScope st)) (hN : 0 < N.length) (len : ∀ das d, Rx das d → das.length + 1 = ps.length)
    (hb : ∀ (cdv : PySem.Value) (A : PySem.Around) (outer : List PySem.Env) (s : PySem.Shared) (H : Hp) (E : XK), Room k (A.deeper (PyProof.Rows.envOfC qual (defScope st) s.heap.objs.size f cdv)) →
      ∃ t, PSs (cxOf (L2.CX P w) P w C.K mg base N qual (defScope st) f cdv A outer s H E) (defBody st) t ∧ ∀ das B x, Rx das B → SD C (wOf E) t (.ob A0 x [] :: vaS das (N.length - 1)) { nx := fun _ => False, ex := fun c _ => c = .ref B }) : FnOk P w C.K mg base (L2.CX P w) (k + 1) f fd ps (spIE C A0 Rx) :=
  F.okX S (fun vs H Q E ⟨das, d, Gc, Hc, x, dx, ws, e, _, _, _, _, _, r, hr, _⟩ => by rw [e]; show ws.length + 1 = _; rw [rpa_len r]; exact len das d hr) fun cdv A outer s H vs Q E hroom ⟨das, d, Gc, Hc, x, dx, ws, e1, e2, hx, hd, ne, sG, r, hr, q⟩ => by
    obtain ⟨t, h1, h2⟩ := hb cdv A outer s H E hroom
    subst e1 e2
    refine ⟨t, h1, ?_⟩
    have en := En.startI (N := N) (A := A0) sG r hx hd ne
    have hst : L2.start N (.ref x :: ws) = some (V.ref x) :: (ws.map some ++ List.replicate (N.length - (ws.length + 1)) none) := rfl
    rw [hst]
    refine h2 das d x hr Gc Hc Gc _ _ _ en (fun _ _ _ _ h => h.elim) (fun _ _ _ _ h => h.elim) (fun _ _ _ _ _ h => h.elim) (fun _ _ _ _ h => h.elim) (fun _ _ _ _ h => h.elim) (fun c o ds' σ' G' H' ho e1 _ e2 => ?_)
    have e1 : c = .ref d := e1
    subst e1 ho
    exact q G' H' e2.stp
end
end Yp
set_option Elab.async false
set_option linter.all false
set_option autoImplicit false
set_option maxRecDepth 100000
set_option maxHeartbeats 2000000
/-! What is refused: relations. -/
namespace Yp
open PySem L2 Evl
def rAlone (ex : List Addr) (das : List Da) (d : Da) : Prop := ∃ (j : Nat) (A : Addr), das = [.exc A] ∧ ex[j]? = some A ∧ d = dI j
def RateBad (r : Int × Int) : Prop := ¬ (1 ≤ r.1 ∧ r.1 ≤ r.2 ∧ r.2 ≤ 10000)
def rXRateOf (bad : Addr) (das : List Da) (A : Addr) : Prop := ∃ r : Int × Int, das = [dP r] ∧ RateBad r ∧ A = bad
def rXLater (bad ny : Addr) (das : List Da) (A : Addr) : Prop := ∃ (r : Int × Int) (y : Int), das = [dP r, dI y] ∧ ((RateBad r ∧ A = bad) ∨ ((∃ n, RateOk n r ∧ n ≤ 8000) ∧ y < 0 ∧ A = ny))
def rTold (bad ny : Addr) (das : List Da) (d : Da) : Prop := ∃ (r : Int × Int) (y : Int), das = [dP r, dI y] ∧ (rLater [dP r, dI y] d ∨ ∃ A, rXLater bad ny [dP r, dI y] A ∧ d = .exc A)
theorem not3 {a b c : Prop} [Decidable a] [Decidable b] [Decidable c] (h : ¬ (a ∧ b ∧ c)) : (!(decide a && (decide b && decide c))) = true := by
  by_cases ha : a
  · by_cases hb : b
    · by_cases hc : c
      · exact absurd ⟨ha, hb, hc⟩ h
      · simp [ha, hb, hc]
    · simp [ha, hb]
  · simp [ha]
theorem cdiv_s {i j : Int} (h0 : 0 < j) (h1 : j < 2 ^ 30) : CDivW i j := wide_div (b := 31) h0 (by omega) (by omega) (by omega)
def oddR : List (Int × Int) := [(0, 5), (6, 5), (-1, 5), (1, 0), (0, 0), (10001, 10001), (1, 10001)]
theorem odd_bad : ∀ p ∈ oddR, RateBad p := by
  intro p hp
  unfold oddR at hp
  unfold RateBad
  simp only [List.mem_cons, List.not_mem_nil, or_false] at hp
  rcases hp with rfl | rfl | rfl | rfl | rfl | rfl | rfl <;> decide
theorem at_oddR {m : Int} (h0 : 0 ≤ m) (h1 : m < 7) : ∃ p, p ∈ oddR ∧ atI (oddR.map pD) m = some (pD p) := by
  have hl : m.toNat < oddR.length := by show m.toNat < 7; omega
  exact ⟨oddR[m.toNat], List.getElem_mem hl, at_nat (j := m.toNat) (by omega) (by rw [List.getElem?_map, List.getElem?_eq_getElem hl]; rfl)⟩
theorem not2 {a b : Prop} [Decidable a] [Decidable b] (h : ¬ (a ∧ b)) : (!(decide a && decide b)) = true := by
  by_cases ha : a
  · by_cases hb : b
    · exact absurd ⟨ha, hb⟩ h
    · simp [ha, hb]
  · simp [ha]
def RateFit (r : Int × Int) : Prop := ∃ n, RateOk n r ∧ n ≤ 8000
/-- the age is not there, or it is and the years are below nought -/
def LB (qs : List Rat) (a y : Int) : Prop := ¬ (0 ≤ a ∧ a < qs.length) ∨ (0 ≤ a ∧ a < qs.length ∧ y < 0)
def rXDies (ny : Addr) (das : List Da) (A : Addr) : Prop := ∃ (qs : List Rat) (a : Int), das = [dT qs, dI a] ∧ ¬ (0 ≤ a ∧ a < qs.length) ∧ A = ny
def rXLives (ny : Addr) (das : List Da) (A : Addr) : Prop := ∃ (qs : List Rat) (a y : Int), das = [dT qs, dI a, dI y] ∧ LB qs a y ∧ A = ny
def rXBoth (ny : Addr) (das : List Da) (A : Addr) : Prop := ∃ (qs : List Rat) (a c y : Int), das = [dT qs, dI a, dI c, dI y] ∧ (LB qs a y ∨ ((∃ b, Tq b qs) ∧ 0 ≤ a ∧ a < qs.length ∧ 0 ≤ y ∧ y ≤ 1000 ∧ LB qs c y)) ∧ A = ny
def rXPaid (br ny : Addr) (das : List Da) (A : Addr) : Prop := ∃ (qs : List Rat) (r : Int × Int) (a y : Int), das = [dT qs, dP r, dI a, dI y] ∧ ((RateBad r ∧ A = br) ∨ (RateFit r ∧ (y < 0 ∨ (0 ≤ y ∧ ¬ (0 ≤ a ∧ a < qs.length))) ∧ A = ny))
def rXPaid2 (br ny : Addr) (das : List Da) (A : Addr) : Prop := ∃ (qs : List Rat) (r : Int × Int) (a c y : Int), das = [dT qs, dP r, dI a, dI c, dI y] ∧ ((RateBad r ∧ A = br) ∨ (RateFit r ∧ (y < 0 ∨ (0 ≤ y ∧ (LB qs a 0 ∨ ((∃ b, Tq b qs) ∧ 0 ≤ a ∧ a < qs.length ∧ LB qs c 0)))) ∧ A = ny))
def rXSeeFits (bp : Addr) (das : List Da) (A : Addr) : Prop := ∃ (qs : List Rat) (a : Int) (rows : List Row), das = [dT qs, .ple a rows] ∧ (qs.length : Int) < a + rows.length ∧ A = bp
def rXSee (br bp : Addr) (das : List Da) (A : Addr) : Prop := ∃ (qs : List Rat) (r : Int × Int) (a : Int) (rows : List Row), das = [dT qs, dP r, .ple a rows] ∧ ((RateBad r ∧ A = br) ∨ (RateFit r ∧ (qs.length : Int) < a + rows.length ∧ A = bp))
def rXSeeYear (ny : Addr) (das : List Da) (A : Addr) : Prop := ∃ (qs : List Rat) (a : Int) (rows : List Row) (y : Int), das = [dT qs, .ple a rows, dI y] ∧ (¬ (0 ≤ y ∧ y ≤ rows.length) ∨ (0 ≤ y ∧ y ≤ rows.length ∧ (qs.length : Int) ≤ a + y)) ∧ A = ny
def rXNeed (br bp ny : Addr) (das : List Da) (A : Addr) : Prop := ∃ (qs : List Rat) (r : Int × Int) (a : Int) (rows : List Row) (y : Int), das = [dT qs, dP r, .ple a rows, dI y] ∧ (rXSee br bp [dT qs, dP r, .ple a rows] A ∨ ((∃ b n, Good b n qs r a rows) ∧ rXSeeYear ny [dT qs, .ple a rows, dI y] A))
def rXBook (br bp bc : Addr) (das : List Da) (A : Addr) : Prop := ∃ (qs : List Rat) (r : Int × Int) (a : Int) (rows : List Row) (m : Int), das = [dT qs, dP r, .ple a rows, dI m] ∧ (rXSee br bp [dT qs, dP r, .ple a rows] A ∨ ((∃ b n, Good b n qs r a rows) ∧ (m < 1 ∨ ¬ fewI qs a.toNat (rows.length + 1) ∣ m) ∧ A = bc))
def rRef16 (br ny : Addr) (ex : List Addr) (das : List Da) (d : Da) : Prop := ∃ (call : Int) (qs : List Rat) (r : Int × Int) (a c y : Int), das = [dI call, dT qs, dP r, dI a, dI c, dI y] ∧ ∃ (A : Addr) (j : Nat), ((call = 0 ∧ rXBoth ny [dT qs, dI a, dI c, dI y] A) ∨ (call = 1 ∧ rXBoth ny [dT qs, dI a, dI c, dI y] A) ∨ (call = 2 ∧ rXPaid2 br ny [dT qs, dP r, dI a, dI c, dI y] A) ∨ (call = 3 ∧ rXPaid2 br ny [dT qs, dP r, dI a, dI c, dI y] A) ∨ (call = 4 ∧ rXPaid br ny [dT qs, dP r, dI a, dI y] A) ∨ (call = 5 ∧ rXPaid br ny [dT qs, dP r, dI c, dI y] A)) ∧ ex[j]? = some A ∧ d = dI j
def rRef14 (br bp ny bc : Addr) (ex : List Addr) (das : List Da) (d : Da) : Prop := ∃ (call : Int) (qs : List Rat) (r : Int × Int) (a : Int) (rows : List Row) (m : Int), das = [dI call, dT qs, dP r, .ple a rows, dI m] ∧ ∃ (A : Addr) (j : Nat), ((call = 0 ∧ rXBook br bp bc [dT qs, dP r, .ple a rows, dI m] A) ∨ (call = 1 ∧ rXNeed br bp ny [dT qs, dP r, .ple a rows, dI m] A) ∨ (call = 2 ∧ rXNeed br bp ny [dT qs, dP r, .ple a rows, dI m] A)) ∧ ex[j]? = some A ∧ d = dI j
theorem lb_bad {qs : List Rat} {a y : Int} (h : ¬ (0 ≤ a ∧ a < qs.length)) : LB qs a y := .inl h
theorem fmod_ne_dvd {F m : Int} (h0 : 0 < F) (h : ¬ F ∣ m) : ¬ m.fmod F = 0 := fun e => h (by
  rw [Int.fmod_eq_emod_of_nonneg _ (by omega)] at e
  exact Int.dvd_of_emod_eq_zero e)
def badR : List (Int × Int) := [(0, 1), (2, 1), (1, 10001)]
theorem badR_bad : ∀ p ∈ badR, RateBad p := by
  intro p hp
  unfold badR at hp
  unfold RateBad
  simp only [List.mem_cons, List.not_mem_nil, or_false] at hp
  rcases hp with rfl | rfl | rfl <;> decide
theorem at_pairs (L : List (Int × Int)) {m : Int} (h0 : 0 ≤ m) (h1 : m < L.length) : ∃ p, p ∈ L ∧ atI (L.map pD) m = some (pD p) := by
  have hl : m.toNat < L.length := by omega
  exact ⟨L[m.toNat], List.getElem_mem hl, at_nat (j := m.toNat) (by omega) (by rw [List.getElem?_map, List.getElem?_eq_getElem hl]; rfl)⟩
def ChanceOk (p : Int × Int) : Prop := 0 ≤ p.1 ∧ p.1 ≤ p.2 ∧ p.2 ≤ 10000 ∧ ¬ p.2 < 1
instance (p : Int × Int) : Decidable (ChanceOk p) := by unfold ChanceOk; infer_instance
/-- chances that make no table -/
def TabBad (ps : List (Int × Int)) : Prop := ¬ (1 ≤ ps.length ∧ ps.length ≤ 20) ∨ (∃ p ∈ ps, ¬ ChanceOk p) ∨ (∃ p, ps[ps.length - 1]? = some p ∧ p.1 ≠ p.2) ∨ (∃ p ∈ ps.dropLast, p.1 = p.2)
def rXTab (bt : Addr) (das : List Da) (A : Addr) : Prop := ∃ ps : List (Int × Int), das = [.pd (.list (ps.map pD))] ∧ TabBad ps ∧ A = bt
theorem td_chance {p : Int × Int} : (!(decide (0 ≤ p.1) && (decide (p.1 ≤ p.2) && decide (p.2 ≤ 10000))) || decide (p.2 < 1)) = !decide (ChanceOk p) := by
  unfold ChanceOk
  by_cases h1 : 0 ≤ p.1 <;> by_cases h2 : p.1 ≤ p.2 <;> by_cases h3 : p.2 ≤ 10000 <;> by_cases h4 : p.2 < 1 <;> simp [h1, h2, h3, h4]
theorem atI_lastD {ps : List (Int × Int)} {p : Int × Int} (h1 : 1 ≤ ps.length) (hp : ps[ps.length - 1]? = some p) : atI (ps.map pD) (-1) = some (pD p) := by
  have h2 : ps ≠ [] := fun e => by rw [e] at h1; exact absurd h1 (by decide)
  have h3 := List.dropLast_concat_getLast h2
  have h4 : ps.getLast h2 = p := by
    rw [List.getLast_eq_getElem]
    exact Option.some.inj ((List.getElem?_eq_getElem (by omega)).symm.trans hp)
  rw [h4] at h3
  rw [← h3, List.map_append]
  exact atI_last _ _
theorem eqv_ne_nil {x : PyData} {xs : List PyData} : PyData.eqv (.list (x :: xs)) (.list []) = false := by simp [PyData.eqv, PyData.eqvAll]
/-- xs.insert(k, e) of an own list -/
theorem sd_insert {C : Kx} {E : WX} {ds : List Sl} {R : DE} {te tk : TE} {i : Nat} {xs : List PyData} {x : PyData} {k : Int} (hd : ds[i]? = some (.ow xs)) (hk : XD C tk ds (dI k)) (h : XD C te ds (.pd x)) (hz : xs.length < 100000) (k0 : 0 ≤ k) (k1 : k < 2 ^ 63) (kk : R.nx (ds.set i (.ow (xs.take k.toNat ++ [x] ++ xs.drop k.toNat)))) :
    SD C E (tDrop (tBM C.K "list" (fun x vs H Q => ∃ (l : Addr) (xs : List V) (i : Int) (y : V), x = .ref l ∧ vs = [.int i, y] ∧ H l = some (.lst xs) ∧ xs.length < sizeLine ∧ 0 ≤ i ∧ i < 2 ^ 63 ∧
    Q .non (upd H l (.lst (xs.take i.toNat ++ [y] ++ xs.drop i.toNat)))) (tVar i) (tCons tk (tCons te tNil)))) ds R := fun G0 H0 G H σ D e kn kr ko kb kc kx => by
  obtain ⟨l, vs, z1, z2, z3, z4, z5⟩ := e.ow i xs hd
  refine ⟨_, z1, Or.inl ⟨rfl, vs, sq_of z4⟩, hk G0 H0 G H σ e _ fun w G1 H1 s1 r1 => h G0 H0 G1 H1 σ (e.step s1) _ fun v G2 H2 s2 r2 => ?_⟩
  have z5' := dpAll_mono (s1.trans s2).g _ _ z5
  have ew := dp_int r1
  subst ew
  exact ⟨l, vs, k, v, rfl, rfl, (s1.trans s2).h _ _ z4, by rw [dpa_len z5]; exact sz_lt hz, k0, k1, kn _ _ G2 _ kk (s1.trans s2).g (((e.step s1).step s2).mut hd z1 (dpa_app (dpa_app (dpa_take _ z5') (.cons r2 .nil)) (dpa_drop _ z5')))⟩
end Yp
set_option Elab.async false
set_option linter.all false
set_option autoImplicit false
set_option maxRecDepth 100000
set_option maxHeartbeats 2000000
/-! Spoiled chances. -/
namespace Yp
open PySem L2 Evl
theorem xl_catW {C : Kx} {ds : List Sl} {ta : TE} {i : Nat} {xs ys : List PyData} (ha : XL C ta ds xs) (hd : ds[i]? = some (.ow ys)) (hz : xs.length + ys.length ≤ 100000) : XL C (tOp rCat ta (tVar i)) ds (xs ++ ys) := fun G0 H0 G H σ e Q q =>
  ha G0 H0 G H σ e _ fun l vs G1 H1 s1 h1 h2 h3 r1 => by
    obtain ⟨m, ws, z1, z2, z3, z4, z5⟩ := (e.step s1).ow i ys hd
    exact ⟨_, z1, l, m, vs, ws, rfl, rfl, h3, z4, by rw [dpa_len r1, dpa_len z5]; exact sz_of hz, fun p hp => q p _ G1 _ ⟨s1.g, s1.h.trans (Ex.new hp), s1.s.trans (Ex.new hp), s1.n⟩ (fresh_back s1.h hp) (fresh_back s1.s hp) upd_same (dpa_app r1 z5)⟩
theorem ixN_int {n : Nat} {m : Int} (h0 : 0 ≤ m) (h1 : m < n) : ixN n m = some m.toNat := by
  obtain ⟨j, rfl⟩ := Int.eq_ofNat_of_zero_le h0
  rw [Int.toNat_natCast]
  exact ixN_nat (by omega)
theorem ixN_last {n : Nat} (h : 1 ≤ n) : ixN n (-1) = some (n - 1) := by
  unfold ixN
  rw [if_neg (by decide), if_pos (by omega)]
  congr 1
  omega
theorem at_getP (L : List (Int × Int)) {m : Int} (h0 : 0 ≤ m) (h1 : m < L.length) : atI (L.map pD) m = some (pD (L.getD m.toNat (0, 0))) := at_nat (j := m.toNat) (by omega) (by
  rw [List.getElem?_map, List.getD_eq_getElem?_getD, List.getElem?_eq_getElem (by omega)]
  rfl)
def five : List (Int × Int) := [(0, 0), (-1, -1), (0, -3)]
def spoilAt (ch : List (Int × Int)) (p : Nat) (way cell : Int) : List (Int × Int) :=
  if way = 1 then [] else if way = 2 then List.replicate (21 - (ch.length : Int) + cell.fmod 3).toNat (0, 1) ++ ch else
  if way = 3 then ch.set p ((ch.getD p (0, 0)).2 + 1 + (cell / 20).fmod 9, (ch.getD p (0, 0)).2) else
  if way = 4 then ch.set p (0 - 1 - (cell / 20).fmod 9, (ch.getD p (0, 0)).2) else
  if way = 5 then ch.set p (five.getD ((cell / 20).fmod 3).toNat (0, 0)) else
  if way = 6 then ch.set p ((cell / 20).fmod 2, 10001 + (cell / 40).fmod 9) else
  if way = 7 then ch.set (ch.length - 1) ((ch.getD (ch.length - 1) (0, 0)).2 - 1, (ch.getD (ch.length - 1) (0, 0)).2) else
  if way = 8 then ch.take p ++ [((ch.getD p (0, 0)).2, (ch.getD p (0, 0)).2)] ++ ch.drop p else ch
def spoil (ch : List (Int × Int)) (way cell : Int) : List (Int × Int) := spoilAt ch (cell.fmod (ch.length : Int)).toNat way cell
def rSpoil (das : List Da) (xs : List PyData) : Prop := ∃ (b : Nat) (ch : List (Int × Int)) (way cell : Int), das = [.pd (.list (ch.map pD)), dI way, dI cell] ∧ ChOk b ch ∧ 0 ≤ cell ∧ xs = (spoil ch way cell).map pD
theorem mem_set_self {α : Type} {L : List α} {p : Nat} {x : α} (h : p < L.length) : x ∈ L.set p x := List.mem_of_getElem? (List.getElem?_set_self h)
theorem spoilAt_bad {b : Nat} {ch : List (Int × Int)} {p : Nat} {way cell : Int} (hc : ChOk b ch) (hp : p < ch.length) (h1 : 1 ≤ way) (h8 : way ≤ 8) : TabBad (spoilAt ch p way cell) := by
  have hn1 := hc.n1
  have hq : ch[p]? = some (ch.getD p (0, 0)) := by rw [List.getD_eq_getElem?_getD, List.getElem?_eq_getElem hp]; rfl
  obtain ⟨k1, k2, k3, k4, k5⟩ := hc.ok p _ hq
  rcases (show way = 1 ∨ way = 2 ∨ way = 3 ∨ way = 4 ∨ way = 5 ∨ way = 6 ∨ way = 7 ∨ way = 8 by omega) with rfl | rfl | rfl | rfl | rfl | rfl | rfl | rfl
  · exact .inl (by show ¬ (1 ≤ 0 ∧ 0 ≤ 20); omega)
  · refine .inl ?_
    show ¬ (1 ≤ (List.replicate (21 - (ch.length : Int) + cell.fmod 3).toNat ((0 : Int), (1 : Int)) ++ ch).length ∧ (List.replicate (21 - (ch.length : Int) + cell.fmod 3).toNat ((0 : Int), (1 : Int)) ++ ch).length ≤ 20)
    rw [List.length_append, List.length_replicate]
    have := fm_ge cell (b := 3) (by decide)
    have := hc.n20
    omega
  · refine .inr (.inl ⟨_, mem_set_self hp, fun h => ?_⟩)
    have h2 : (ch.getD p (0, 0)).2 + 1 + (cell / 20).fmod 9 ≤ (ch.getD p (0, 0)).2 := h.2.1
    have := fm_ge (cell / 20) (b := 9) (by decide)
    omega
  · refine .inr (.inl ⟨_, mem_set_self hp, fun h => ?_⟩)
    have h2 : (0 : Int) ≤ 0 - 1 - (cell / 20).fmod 9 := h.1
    have := fm_ge (cell / 20) (b := 9) (by decide)
    omega
  · refine .inr (.inl ⟨_, mem_set_self hp, fun h => ?_⟩)
    have m0 := fm_ge (cell / 20) (b := 3) (by decide)
    have m1 := fm_lt (cell / 20) (b := 3) (by decide)
    have h2 : ¬ (five.getD ((cell / 20).fmod 3).toNat (0, 0)).2 < 1 := h.2.2.2
    rcases (show ((cell / 20).fmod 3).toNat = 0 ∨ ((cell / 20).fmod 3).toNat = 1 ∨ ((cell / 20).fmod 3).toNat = 2 by omega) with e | e | e <;> rw [e] at h2 <;> exact h2 (by decide)
  · refine .inr (.inl ⟨_, mem_set_self hp, fun h => ?_⟩)
    have h2 : 10001 + (cell / 40).fmod 9 ≤ 10000 := h.2.2.1
    have := fm_ge (cell / 40) (b := 9) (by decide)
    omega
  · refine .inr (.inr (.inl ⟨((ch.getD (ch.length - 1) (0, 0)).2 - 1, (ch.getD (ch.length - 1) (0, 0)).2), ?_, ?_⟩))
    · show (ch.set (ch.length - 1) _)[(ch.set (ch.length - 1) _).length - 1]? = some _
      rw [List.length_set]
      exact List.getElem?_set_self (by omega)
    · show (ch.getD (ch.length - 1) (0, 0)).2 - 1 ≠ (ch.getD (ch.length - 1) (0, 0)).2
      omega
  · refine .inr (.inr (.inr ⟨((ch.getD p (0, 0)).2, (ch.getD p (0, 0)).2), ?_, rfl⟩))
    show _ ∈ (ch.take p ++ [((ch.getD p (0, 0)).2, (ch.getD p (0, 0)).2)] ++ ch.drop p).dropLast
    have hd : ch.drop p ≠ [] := fun e => by
      have := congrArg List.length e
      rw [List.length_drop] at this
      simp at this
      omega
    rw [List.dropLast_append_of_ne_nil hd]
    exact List.mem_append_left _ (List.mem_append_right _ List.mem_cons_self)
theorem spoil_bad {b : Nat} {ch : List (Int × Int)} {way cell : Int} (hc : ChOk b ch) (h1 : 1 ≤ way) (h8 : way ≤ 8) : TabBad (spoil ch way cell) := by
  have hn1 := hc.n1
  have m0 := fm_ge cell (b := (ch.length : Int)) (by omega)
  have m1 := fm_lt cell (b := (ch.length : Int)) (by omega)
  exact spoilAt_bad hc (by omega) h1 h8
theorem spoil_none {ch : List (Int × Int)} {way cell : Int} (h : way < 1 ∨ 8 < way) : spoil ch way cell = ch := by
  unfold spoil spoilAt
  rw [if_neg (by omega), if_neg (by omega), if_neg (by omega), if_neg (by omega), if_neg (by omega), if_neg (by omega), if_neg (by omega), if_neg (by omega)]
theorem spoil_len {ch : List (Int × Int)} {way cell : Int} (h : ch.length ≤ 20) : (spoil ch way cell).length ≤ 50 := by
  unfold spoil spoilAt
  have := fm_lt cell (b := 3) (by decide)
  have := fm_ge cell (b := 3) (by decide)
  split
  · show 0 ≤ 50; omega
  split
  · rw [List.length_append, List.length_replicate]; omega
  split
  · rw [List.length_set]; omega
  split
  · rw [List.length_set]; omega
  split
  · rw [List.length_set]; omega
  split
  · rw [List.length_set]; omega
  split
  · rw [List.length_set]; omega
  split
  · simp only [List.length_append, List.length_take, List.length_drop, List.length_singleton]; omega
  · omega
def rMade3 (bt : Addr) (das : List Da) (d : Da) : Prop := ∃ ps : List (Int × Int), das = [.pd (.list (ps.map pD))] ∧ (rTabMk [.pd (.list (ps.map pD))] d ∨ (TabBad ps ∧ d = .exc bt))
def rAsked (ny : Addr) (das : List Da) (d : Da) : Prop := ∃ (qs : List Rat) (a y : Int) (alone : Bool), das = [dT qs, dI a, dI y, dB alone] ∧ ((alone = true ∧ ¬ (0 ≤ a ∧ a < qs.length)) ∨ (alone = false ∧ LB qs a y)) ∧ d = dI 3
theorem map_const_range {α : Type} (n : Nat) (x : α) : (List.range n).map (fun _ => x) = List.replicate n x := by
  rw [List.eq_replicate_iff]
  refine ⟨by rw [List.length_map, List.length_range], fun b hb => ?_⟩
  obtain ⟨_, _, rfl⟩ := List.mem_map.mp hb
  rfl
end Yp
set_option Elab.async false
set_option linter.all false
set_option autoImplicit false
set_option maxRecDepth 100000
set_option maxHeartbeats 2000000
/-! Own lists of own lists. -/
namespace Yp
open PySem L2 Evl
abbrev lds (rs : List (List PyData)) : List PyData := rs.map PyData.list
def showL (G H : Hp) (as : List Addr) : Hp := fun a => if a ∈ as then H a else G a
def hideL (G : Hp) (as : List Addr) : Hp := fun a => if a ∈ as then none else G a
theorem showL_in {G H : Hp} {as : List Addr} {a : Addr} (h : a ∈ as) : showL G H as a = H a := if_pos h
theorem showL_out {G H : Hp} {as : List Addr} {a : Addr} (h : a ∉ as) : showL G H as a = G a := if_neg h
theorem hideL_in {G : Hp} {as : List Addr} {a : Addr} (h : a ∈ as) : hideL G as a = none := if_pos h
theorem hideL_out {G : Hp} {as : List Addr} {a : Addr} (h : a ∉ as) : hideL G as a = G a := if_neg h
theorem ex_showL {G H : Hp} {as : List Addr} (h : ∀ a ∈ as, G a = none) : Ex G (showL G H as) := fun a o e => by
  rw [showL_out (fun m => by rw [h a m] at e; cases e)]
  exact e
theorem Stp.showL {G0 H0 G H : Hp} {as : List Addr} (s : Stp G0 H0 G H) (h : ∀ a ∈ as, H0 a = none ∧ G a = none) : Stp G0 H0 (showL G H as) H :=
  ⟨s.g.trans (ex_showL fun a m => (h a m).2), s.h, fun a o e => by
    by_cases m : a ∈ as
    · rw [showL_in m] at e; exact e
    · rw [showL_out m] at e; exact s.s a o e, fun a h1 h2 => by
    by_cases m : a ∈ as
    · exact (h a m).1
    · rw [showL_out m] at h2; exact s.n a h1 h2⟩
theorem Stp.hideL {G H G' H' : Hp} {as : List Addr} (s : Stp (Yp.showL G H as) H G' H') (hg : ∀ a ∈ as, G a = none) : Stp G H (hideL G' as) H' :=
  ⟨fun a o e => by
    have m : a ∉ as := fun m => by rw [hg a m] at e; cases e
    rw [hideL_out m]
    exact s.g a o (by rw [showL_out m]; exact e), s.h, fun a o e => by
    by_cases m : a ∈ as
    · rw [hideL_in m] at e; cases e
    · rw [hideL_out m] at e; exact s.s a o e, fun a h1 h2 => by
    by_cases m : a ∈ as
    · rw [hideL_in m] at h2; exact absurd rfl h2
    · rw [hideL_out m] at h2; exact s.n a (by rw [showL_out m]; exact h1) h2⟩
section
variable {K : PySem.W.Frag} {G H : Hp} {as : List Addr}
theorem sqt_hideL {a : Addr} {xs : List V} (hl : ∀ b ∈ as, ∃ vs, G b = some (.lst vs)) (h : SqT K G a xs) : SqT K (hideL G as) a xs := by
  rcases h with (h | ⟨o, h⟩) | h
  · exact .inl (.inl (by rw [hideL_out fun m => by obtain ⟨vs, q⟩ := hl a m; rw [q] at h; cases h]; exact h))
  · exact .inl (.inr ⟨o, by rw [hideL_out fun m => by obtain ⟨vs, q⟩ := hl a m; rw [q] at h; cases h]; exact h⟩)
  · exact .inr h
theorem sql_hideL {a : Addr} {xs : List V} (ne : a ∉ as) (h : SqL K G a xs) : SqL K (hideL G as) a xs := by
  rcases h with (h | ⟨o, h⟩) | h
  · exact .inl (.inl (by rw [hideL_out ne]; exact h))
  · exact .inl (.inr ⟨o, by rw [hideL_out ne]; exact h⟩)
  · exact .inr h
mutual
theorem dp_hideL (hl : ∀ b ∈ as, ∃ vs, G b = some (.lst vs)) : ∀ (d : PyData) (v : V), noLst d = true → Dp K G v d → Dp K (hideL G as) v d
  | _, _, _, .non => .non
  | _, _, _, .bl b => .bl b
  | _, _, _, .int i => .int i
  | _, _, _, .str x => .str x
  | .list ds, _, n, .lst h ha => by simp [noLst] at n
  | .tuple ds, _, n, .tup h ha => .tup (sqt_hideL hl h) (dpAll_hideL hl ds _ (by simpa [noLst] using n) ha)
theorem dpAll_hideL (hl : ∀ b ∈ as, ∃ vs, G b = some (.lst vs)) : ∀ (ds : List PyData) (ws : List V), noLsts ds = true → DpAll K G ws ds → DpAll K (hideL G as) ws ds
  | _, _, _, .nil => .nil
  | d :: ds, _, n, .cons h t => by
    have n' : noLst d = true ∧ noLsts ds = true := by simpa [noLsts] using n
    exact .cons (dp_hideL hl d _ n'.1 h) (dpAll_hideL hl ds _ n'.2 t)
end
end
theorem rpF_hideL {C : Kx} {Hc G : Hp} {v : V} {as : List Addr} (hl : ∀ b ∈ as, ∃ vs, G b = some (.lst vs)) (hc : ∀ b ∈ as, Hc b ≠ none) : ∀ {d : Da}, (∀ p, d ≠ .pd p) → RpF C Hc G v d → Rp C (hideL G as) v d
  | .pd p, n, _ => absurd rfl (n p)
  | .exc _, _, h => h.elim
  | .tab c, _, ⟨a, dx, m, e1, e2, e3, h1, h2⟩ => by
    have na : a ∉ as := fun z => hc a z h2
    have nm : m ∉ as := fun z => hc m z h1
    obtain ⟨m', ws, e4, e5, e6⟩ := dp_lst e3
    cases e4
    exact ⟨a, dx, m, e1, by rw [hideL_out na]; exact e2, .lst (sql_hideL nm e5) (dpAll_hideL hl _ _ (noLsts_map pD (fun p => by simp [pD, noLst, noLsts]) c) e6)⟩
  | .ple n r, _, ⟨a, dx, m, e1, e2, e3, h1, h2⟩ => by
    have na : a ∉ as := fun z => hc a z h2
    have nm : m ∉ as := fun z => hc m z h1
    obtain ⟨m', ws, e4, e5, e6⟩ := dp_lst e3
    cases e4
    exact ⟨a, dx, m, e1, by rw [hideL_out na]; exact e2, .lst (sql_hideL nm e5) (dpAll_hideL hl _ _ (noLsts_map rD (fun p => by simp [rD, noLst, noLsts]) r) e6)⟩
/-- the rows are shown as a list of lists -/
theorem dpa_rows {K : PySem.W.Frag} {G H : Hp} {as : List Addr} : ∀ {ls : List Addr} {rs : List (List PyData)}, (∀ a ∈ ls, a ∈ as) → (∀ a ∈ as, G a = none) → Paired (fun a r => ∃ vs, H a = some (.lst vs) ∧ DpAll K G vs r) ls rs → DpAll K (showL G H as) (ls.map V.ref) (lds rs)
  | _, _, _, _, .nil => .nil
  | a :: ls, _, hm, hg, .cons ⟨vs, h1, h2⟩ t => .cons (.lst (sq_of (by rw [showL_in (hm a List.mem_cons_self)]; exact h1)) (dpAll_mono (ex_showL hg) _ _ h2)) (dpa_rows (fun b hb => hm b (List.mem_cons_of_mem _ hb)) hg t)
theorem OwnN.shown {K : PySem.W.Frag} {Hc G H : Hp} {l : Addr} {ls : List Addr} {rs : List (List PyData)} (n : OwnN K Hc G H l ls rs) : Dp K (showL G H (l :: ls)) (.ref l) (.list (lds rs)) :=
  .lst (sq_of (by rw [showL_in List.mem_cons_self]; exact n.o)) (dpa_rows (fun a h => List.mem_cons_of_mem _ h) (fun a h => (n.c a h).2) n.r)
/-- a slot's own nested list is shown -/
theorem En.lendN {C : Kx} {G0 H0 G H : Hp} {σ : L2.St} {ds : List Sl} {i : Nat} {rs : List (List PyData)} (e : En C G0 H0 G H σ ds) (hd : ds[i]? = some (.nl rs)) :
    ∃ l ls, σ[i]? = some (some (.ref l)) ∧ OwnN C.K H0 G H l ls rs ∧ En C G0 H0 (showL G H (l :: ls)) H σ (ds.set i (.va (.pd (.list (lds rs))))) := by
  obtain ⟨l, ls, z1, ow, di, on⟩ := e.nl i rs hd
  refine ⟨l, ls, z1, ow, ?_⟩
  have hi : i < ds.length := (List.getElem?_eq_some_iff.mp hd).1
  have hi0 : ∀ {j : Nat} {s : Sl}, (ds.set i (.va (.pd (.list (lds rs)))))[j]? = some s → (i = j ∧ s = .va (.pd (.list (lds rs)))) ∨ (i ≠ j ∧ ds[j]? = some s) := fun {j s} h => by
    by_cases q : i = j
    · subst q
      rw [List.getElem?_set_self hi] at h
      cases h
      exact .inl ⟨rfl, rfl⟩
    · rw [List.getElem?_set_ne q] at h
      exact .inr ⟨q, h⟩
  have ex : Ex G (showL G H (l :: ls)) := ex_showL fun a h => (ow.c a h).2
  refine ⟨e.stp.showL ow.c, e.s0, by rw [List.length_set]; exact e.len, fun j d h => ?_, fun j zs h => ?_, fun j A x fs h => ?_, fun j k us zs m h1 h2 h3 h4 => ?_, fun j rs' h => ?_⟩
  · rcases hi0 h with ⟨q, z⟩ | ⟨q, h⟩
    · cases z
      subst q
      exact ⟨_, z1, ow.shown⟩
    · obtain ⟨v, h1, h2⟩ := e.va j d h
      exact ⟨v, h1, h2.mono ex⟩
  · rcases hi0 h with ⟨_, z⟩ | ⟨q, h⟩
    · cases z
    · obtain ⟨l2, vs2, y1, y2, y3, y4, y5⟩ := e.ow j zs h
      exact ⟨l2, vs2, y1, y2, by rw [showL_out (di j zs l2 h y1)]; exact y3, y4, dpAll_mono ex _ _ y5⟩
  · rcases hi0 h with ⟨_, z⟩ | ⟨q, h⟩
    · cases z
    · obtain ⟨dx, vs2, y1, y2, y3, y4, y5⟩ := e.ob j A x fs h
      refine ⟨dx, vs2, y1, y2, ?_, y4, y5.mono ex⟩
      rw [showL_out (fun m => by obtain ⟨ws, q⟩ := ow.lst x m; rw [q] at y4; cases y4)]
      exact y3
  · rcases hi0 h1 with ⟨_, z⟩ | ⟨_, h1⟩
    · cases z
    · rcases hi0 h2 with ⟨_, z⟩ | ⟨_, h2⟩
      · cases z
      · exact e.di j k us zs m h1 h2 h3 h4
  · rcases hi0 h with ⟨_, z⟩ | ⟨q, h⟩
    · cases z
    · exact absurd (on j rs' h).symm q
/-- the nested list's cells are changed -/
theorem En.upN {C : Kx} {G0 H0 G H H' : Hp} {σ σ' : L2.St} {ds ds' : List Sl} {i : Nat} {rs rs' : List (List PyData)} {l : Addr} {ls : List Addr} (e : En C G0 H0 G H σ ds) (hd : ds[i]? = some (.nl rs)) (hs : σ[i]? = some (some (.ref l))) (ow : OwnN C.K H0 G H l ls rs) (ow' : OwnN C.K H0 G H' l ls rs')
    (hH : ∀ a, a ∉ l :: ls → H' a = H a) (hds : ds' = ds.set i (.nl rs') ∨ ds' = ds.set i .un) (hσ : σ' = σ) : En C G0 H0 G H' σ' ds' := by
  subst hσ
  obtain ⟨l1, ls1, z1, ow1, di1, on⟩ := e.nl i rs hd
  rw [hs] at z1
  cases z1
  have els : ls1 = ls := by
    have h := ow1.o
    rw [ow.o] at h
    have h2 : ls.map V.ref = ls1.map V.ref := by injection h with h; injection h
    exact (List.map_inj_right (fun a b z => by injection z)).mp h2 |>.symm
  subst els
  have hi : i < ds.length := (List.getElem?_eq_some_iff.mp hd).1
  have hi0 : ∀ {j : Nat} {s : Sl}, ds'[j]? = some s → (i = j ∧ (s = .nl rs' ∨ s = .un)) ∨ (i ≠ j ∧ ds[j]? = some s) := fun {j s} h => by
    by_cases q : i = j
    · subst q
      rcases hds with z | z <;> rw [z, List.getElem?_set_self hi] at h <;> cases h
      · exact .inl ⟨rfl, .inl rfl⟩
      · exact .inl ⟨rfl, .inr rfl⟩
    · rcases hds with z | z <;> rw [z, List.getElem?_set_ne q] at h <;> exact .inr ⟨q, h⟩
  have hl : ds'.length = ds.length := by rcases hds with z | z <;> rw [z, List.length_set]
  refine ⟨⟨e.stp.g, fun a o h => ?_, fun a o h => ?_, e.stp.n⟩, e.s0, by rw [hl]; exact e.len, fun j d h => ?_, fun j zs h => ?_, fun j A x fs h => ?_, fun j k us zs m h1 h2 h3 h4 => ?_, fun j rs2 h => ?_⟩
  · rw [hH a (fun m => by rw [(ow.c a m).1] at h; cases h)]
    exact e.stp.h a o h
  · rw [hH a (fun m => by rw [(ow.c a m).2] at h; cases h)]
    exact e.stp.s a o h
  · rcases hi0 h with ⟨_, z | z⟩ | ⟨q, h⟩
    · cases z
    · cases z
    · exact e.va j d h
  · rcases hi0 h with ⟨_, z | z⟩ | ⟨q, h⟩
    · cases z
    · cases z
    · obtain ⟨l2, vs2, y1, y2, y3, y4, y5⟩ := e.ow j zs h
      exact ⟨l2, vs2, y1, y2, y3, by rw [hH l2 (di1 j zs l2 h y1)]; exact y4, y5⟩
  · rcases hi0 h with ⟨_, z | z⟩ | ⟨q, h⟩
    · cases z
    · cases z
    · obtain ⟨dx, vs2, y1, y2, y3, y4, y5⟩ := e.ob j A x fs h
      exact ⟨dx, vs2, y1, y2, y3, by rw [hH x (fun m => by obtain ⟨ws, q⟩ := ow.lst x m; rw [q] at y4; cases y4)]; exact y4, y5⟩
  · rcases hi0 h1 with ⟨_, z | z⟩ | ⟨_, h1⟩
    · cases z
    · cases z
    · rcases hi0 h2 with ⟨_, z | z⟩ | ⟨_, h2⟩
      · cases z
      · cases z
      · exact e.di j k us zs m h1 h2 h3 h4
  · rcases hi0 h with ⟨q, z | z⟩ | ⟨q, h⟩
    · cases z
      subst q
      refine ⟨l, ls1, hs, ow', fun k xs l' hk hks => ?_, fun k rs3 hk => ?_⟩
      · rcases hi0 hk with ⟨_, z | z⟩ | ⟨_, hk⟩
        · cases z
        · cases z
        · exact di1 k xs l' hk hks
      · rcases hi0 hk with ⟨q, _⟩ | ⟨_, hk⟩
        · exact q.symm
        · exact on k rs3 hk
    · cases z
    · exact absurd (on j rs2 h).symm q
/-- a new nested list -/
structure NewN (K : PySem.W.Frag) (Hc G H : Hp) (l : Addr) (ls : List Addr) (rs : List (List PyData)) : Prop where
  ow : OwnN K Hc G H l ls rs
def XN (C : Kx) (te : TE) (ds : List Sl) (rs : List (List PyData)) : Prop := ∀ (G0 H0 G H : Hp) (σ : L2.St), En C G0 H0 G H σ ds → ∀ Q : VK, (∀ l ls G' H', Stp G H G' H' → OwnN C.K H G' H' l ls rs → Q (.ref l) H') → te σ H Q
theorem OwnN.step {K : PySem.W.Frag} {Hc G H G' H' : Hp} {l : Addr} {ls : List Addr} {rs : List (List PyData)} (n : OwnN K Hc G H l ls rs) (s : Stp G H G' H') (ex : Ex G H) : OwnN K Hc G' H' l ls rs :=
  n.go s.g fun a ha vs hv => ⟨(n.c a ha).1, s.free ex hv (n.c a ha).2, s.h _ _ hv⟩
theorem paired_app {α β : Type} {R : α → β → Prop} {a : α} {b : β} (h : R a b) : ∀ {xs : List α} {ys : List β}, Paired R xs ys → Paired R (xs ++ [a]) (ys ++ [b])
  | _, _, .nil => .cons h .nil
  | _, _, .cons k t => .cons k (paired_app h t)
theorem OwnN.app {K : PySem.W.Frag} {Hc G H : Hp} {l y : Addr} {ls : List Addr} {rs : List (List PyData)} {vs : List V} {r : List PyData} (n : OwnN K Hc G H l ls rs) (hc : Hc y = none) (hg : G y = none) (hy : H y = some (.lst vs)) (hr : DpAll K G vs r) (ny : y ∉ l :: ls) : OwnN K Hc G (upd H l (.lst (ls.map V.ref ++ [.ref y]))) l (ls ++ [y]) (rs ++ [r]) := by
  have nd := n.nd
  rw [List.nodup_cons] at nd
  have nyl : y ≠ l := fun z => ny (by rw [z]; exact List.mem_cons_self)
  refine ⟨fun a ha => ?_, by rw [upd_same, List.map_append]; rfl, ?_, ?_⟩
  · rcases List.mem_cons.mp ha with e | ha
    · rw [e]; exact n.c l List.mem_cons_self
    · rcases List.mem_append.mp ha with ha | ha
      · exact n.c a (List.mem_cons_of_mem _ ha)
      · rw [List.mem_singleton.mp ha]; exact ⟨hc, hg⟩
  · rw [List.nodup_cons, List.nodup_append]
    refine ⟨fun m => ?_, nd.2, by simp, fun a ha b hb => ?_⟩
    · rcases List.mem_append.mp m with m | m
      · exact nd.1 m
      · exact nyl (List.mem_singleton.mp m).symm
    · rw [List.mem_singleton.mp hb]
      exact fun z => ny (by rw [← z]; exact List.mem_cons_of_mem _ ha)
  · refine paired_app ⟨vs, by rw [upd_ne nyl]; exact hy, hr⟩ (paired_mapM n.r fun a ha r ⟨ws, h1, h2⟩ => ⟨ws, ?_, h2⟩)
    rw [upd_ne (fun z => nd.1 (by rw [← z]; exact ha))]
    exact h1
section
variable {C : Kx} {ds : List Sl} {te : TE} {wi : TI}
theorem xn_lc {α : Type} {j : Nat} {vs : List Nat} (xs : List α) (c : α → PyData) (e : α → List PyData) (hv : vs = [j]) (hz : xs.length < 50000) (hi : ID C wi ds (xs.map c))
    (he : ∀ x, x ∈ xs → XL C te (ds.set j (.va (.pd (c x)))) (e x)) : XN C (tLc wi (gName j) tYes te vs) ds (xs.map e) := fun G0 H0 G H σ en Q q => by
  subst hv
  refine hi G0 H0 G H σ en _ fun J G1 H1 s1 jo D hD => ?_
  have e1 := en.step s1
  refine ⟨fun i m H' => m = xs.length - i ∧ i ≤ xs.length ∧ ∃ G' ls, Ex G1 G' ∧ Stp G1 H1 G' H' ∧ OwnN C.K H1 G' H' D ls ((xs.take i).map e),
    ⟨_, rfl, Nat.zero_le _, G1, [], Ex.refl _, ⟨Ex.refl _, Ex.new hD, s1.s.trans (Ex.new hD), fun a h1 h2 => absurd h1 h2⟩, ⟨fun a ha => ?_, upd_same, by simp, .nil⟩⟩, fun i m H2 ⟨em, hi, G2, ls, x2, s2, n2⟩ => ?_⟩
  · rw [List.mem_singleton.mp ha]
    exact ⟨hD, fresh_back s1.s hD⟩
  obtain ⟨jg, js⟩ := jo G2 H2 x2 s2.s i
  by_cases hlt : i < xs.length
  · have hx : xs[i]? = some xs[i] := List.getElem?_eq_getElem hlt
    have hmem : xs[i] ∈ xs := List.getElem_mem hlt
    obtain ⟨go, yl⟩ := jg (c xs[i]) (by rw [List.getElem?_map, hx]; rfl)
    have htk : xs.take (i + 1) = xs.take i ++ [xs[i]] := by rw [List.take_add_one, hx]; rfl
    refine .inr ⟨go, fun H' => ∃ G' ls, Ex G1 G' ∧ Stp G1 H1 G' H' ∧ OwnN C.K H1 G' H' D ls ((xs.take (i + 1)).map e), fun H' ⟨G', ls, a1, a2, a3⟩ => ⟨xs.length - (i + 1), by omega, rfl, by omega, G', ls, a1, a2, a3⟩, fun x H3 hy => ?_⟩
    obtain ⟨G3, s3, r3⟩ := yl x H3 hy
    show wipe ((wipe σ [j]).set j (some x)) [j] = wipe σ [j] ∧ _
    have w1 : (wipe σ [j]).set j (some x) = σ.set j (some x) := by
      show (σ.set j none).set j (some x) = σ.set j (some x)
      rw [List.set_set]
    rw [w1]
    refine ⟨by show (σ.set j (some x)).set j none = σ.set j none; rw [List.set_set], ?_⟩
    have s13 := s2.trans s3
    have e3p : En C G0 H0 G3 H3 (σ.set j (some x)) (ds.set j (.va (.pd (c xs[i])))) := (e1.step s13).set (d := .pd (c xs[i])) r3
    refine td_yes G0 H0 G3 H3 _ e3p _ fun G4 H4 s4 => ?_
    rw [if_pos rfl]
    refine he _ hmem G0 H0 G4 H4 _ (e3p.step s4) _ fun y vs' G5 H5 s5 h1 h2 h3 r5 => ?_
    have s45 := s3.trans s4
    have n4 := n2.step s45 s2.s
    have n5 := n4.step s5 s45.s
    have s14 := s2.trans s45
    have s15 := s14.trans s5
    have c5 := n5.c D List.mem_cons_self
    refine ⟨ls.map V.ref, n5.o, ?_, G5, ls ++ [y], s15.g, s15.mut c5.1 c5.2, ?_⟩
    · have hl : ls.length = ((xs.take i).map e).length := Paired.length n5.r
      rw [List.length_map, hl, List.length_map, List.length_take]
      exact sz_lt (by omega)
    · rw [htk, List.map_append]
      exact n5.app (fresh_back s14.h h1) h2 h3 r5 fun m => by
        obtain ⟨ws, q⟩ := n4.lst y m
        rw [h1] at q
        cases q
  · have hi' : i = xs.length := by omega
    subst hi'
    rw [List.take_length] at n2
    exact .inl ⟨js (by rw [List.length_map]; omega), q D ls G2 H2 (s1.trans s2) (n2.go (Ex.refl _) fun a ha vs hv => ⟨fresh_back s1.h (n2.c a ha).1, (n2.c a ha).2, hv⟩)⟩
end
/-- a slot set to a new own nested list -/
theorem En.setN {C : Kx} {G0 H0 G H G' H' : Hp} {σ : L2.St} {ds : List Sl} {i : Nat} {l : Addr} {ls : List Addr} {rs : List (List PyData)} (e0 : En C G0 H0 G H σ ds) (a : Stp G H G' H') (n : OwnN C.K H G' H' l ls rs) (only : ∀ (j : Nat) (rs' : List (List PyData)), ds[j]? = some (.nl rs') → j = i) :
    En C G0 H0 G' H' (σ.set i (some (.ref l))) (ds.set i (.nl rs)) := by
  have e := e0.step a
  have hi0 : ∀ {j : Nat} {s : Sl}, (ds.set i (.nl rs))[j]? = some s → (i = j ∧ s = .nl rs ∧ i < ds.length) ∨ (i ≠ j ∧ ds[j]? = some s) := fun {j s} h => by
    by_cases q : i = j
    · subst q
      by_cases hi : i < ds.length
      · rw [List.getElem?_set_self hi] at h
        cases h
        exact .inl ⟨rfl, rfl, hi⟩
      · rw [List.set_eq_of_length_le (by omega), List.getElem?_eq_none (by omega)] at h
        cases h
    · rw [List.getElem?_set_ne q] at h
      exact .inr ⟨q, h⟩
  refine ⟨e.stp, e.s0, by rw [List.length_set, List.length_set]; exact e.len, fun j d h => ?_, fun j ys h => ?_, fun j A x fs h => ?_, fun j k ys zs m h1 h2 h3 h4 => ?_, fun j rs' h => ?_⟩
  · rcases hi0 h with ⟨_, z, _⟩ | ⟨q, h⟩
    · cases z
    · rw [List.getElem?_set_ne q]
      exact e.va j d h
  · rcases hi0 h with ⟨_, z, _⟩ | ⟨q, h⟩
    · cases z
    · rw [List.getElem?_set_ne q]
      exact e.ow j ys h
  · rcases hi0 h with ⟨_, z, _⟩ | ⟨q, h⟩
    · cases z
    · rw [List.getElem?_set_ne q]
      exact e.ob j A x fs h
  · rcases hi0 h1 with ⟨_, z, _⟩ | ⟨q1, h1⟩
    · cases z
    · rcases hi0 h2 with ⟨_, z, _⟩ | ⟨q2, h2⟩
      · cases z
      · rw [List.getElem?_set_ne q1] at h3
        rw [List.getElem?_set_ne q2] at h4
        exact e.di j k ys zs m h1 h2 h3 h4
  · rcases hi0 h with ⟨q, z, hi⟩ | ⟨q, h⟩
    · cases z
      subst q
      refine ⟨l, ls, List.getElem?_set_self (by rw [e.len]; exact hi), n.go (Ex.refl _) fun a ha vs hv => ⟨fresh_back e0.stp.h (n.c a ha).1, (n.c a ha).2, hv⟩, fun k xs l' hk hks m => ?_, fun k rs2 hk => ?_⟩
      · rcases hi0 hk with ⟨_, z, _⟩ | ⟨q, hk⟩
        · cases z
        · rw [List.getElem?_set_ne q] at hks
          obtain ⟨l2, vs2, y1, y2, y3, y4, y5⟩ := e0.ow k xs hk
          rw [hks] at y1
          cases y1
          rw [(n.c l' m).1] at y4
          cases y4
      · rcases hi0 hk with ⟨q, _⟩ | ⟨_, hk⟩
        · exact q.symm
        · exact only k rs2 hk
    · exact absurd (only j rs' h).symm q
section
variable {C : Kx} {ds : List Sl} {te tb : TE} {ta : TA} {tt : TT} {E : XK} {W : WX} {R : DE} {tu : TS}
theorem sd_asgN {i : Nat} {rs : List (List PyData)} (h : XN C te ds rs) (only : ∀ (j : Nat) (rs' : List (List PyData)), ds[j]? = some (.nl rs') → j = i) (k : R.nx (ds.set i (.nl rs))) : SD C W (tAsg te (gName i)) ds R := fun G0 H0 G H σ D e kn kr ko kb kc kx =>
  h G0 H0 G H σ e _ fun l ls G1 H1 s1 n => kn _ _ G1 H1 k s1.g (e.setN s1 n only)
theorem xd_lendN (i : Nat) {rs : List (List PyData)} {d : PyData} (hd : ds[i]? = some (.nl rs)) (n : noLst d = true) (h : XD C te (ds.set i (.va (.pd (.list (lds rs))))) (.pd d)) : XD C te ds (.pd d) := fun G0 H0 G H σ e Q q => by
  obtain ⟨l, ls, z1, ow, e'⟩ := e.lendN hd
  exact h G0 H0 _ H σ e' Q fun v G' H' s r => q v _ H' (s.hideL fun a m => (ow.c a m).2) (dp_hideL (fun b m => by
    obtain ⟨vs, hv⟩ := ow.lst b m
    exact ⟨vs, s.g b _ (by rw [showL_in m]; exact hv)⟩) d v n r)
/-- an object made of an own nested list -/
theorem xd_makeN {A : Addr} {i : Nat} {rs : List (List PyData)} {das : List Da} {d : Da} {Rl : List Da → Da → Prop} (hd : ds[i]? = some (.nl rs)) (ha : AD C ta (ds.set i (.va (.pd (.list (lds rs))))) das) (hr : Rl das d) (n : ∀ p, d ≠ .pd p) : XD C (tMake A (spI C A Rl) [] E ta) ds d := fun G0 H0 G H σ e Q q => by
  obtain ⟨l, ls, z1, ow, e'⟩ := e.lendN hd
  refine ha G0 H0 _ H σ e' _ fun ws G1 H1 s1 r1 x dx hx hdx ne => ?_
  rw [List.append_nil]
  refine ⟨das, d, G1, H1, x, dx, ws, rfl, rfl, hx, hdx, ne, s1.s, r1, hr, fun G2 H2 s2 r2 => ⟨rfl, q _ _ H2 ((s1.trans s2).hideL fun a m => (ow.c a m).2) (rpF_hideL (fun b m => ?_) (fun b m => ?_) n r2)⟩⟩
  · obtain ⟨vs, hv⟩ := ow.lst b m
    exact ⟨vs, (s1.trans s2).g b _ (by rw [showL_in m]; exact hv)⟩
  · obtain ⟨vs, hv⟩ := ow.lst b m
    rw [s1.h b _ hv]
    exact fun z => nomatch z
/-- the nested list is shown from now on -/
theorem sd_shownN (i : Nat) {rs : List (List PyData)} (h : ds[i]? = some (.nl rs)) (k : SD C W tu (ds.set i (.va (.pd (.list (lds rs))))) R) : SD C W tu ds R := fun G0 H0 G H σ D e kn kr ko kb kc kx => by
  obtain ⟨l, ls, z1, ow, e'⟩ := e.lendN h
  have s2 : Ex G (showL G H (l :: ls)) := ex_showL fun a m => (ow.c a m).2
  exact k G0 H0 _ H σ D e' (fun ds2 σ2 G2 H2 h2 x2 e2 => kn ds2 σ2 G2 H2 h2 (s2.trans x2) e2) kr ko (fun ds2 σ2 G2 H2 h2 x2 e2 => kb ds2 σ2 G2 H2 h2 (s2.trans x2) e2) (fun ds2 σ2 G2 H2 h2 x2 e2 => kc ds2 σ2 G2 H2 h2 (s2.trans x2) e2) (fun c o ds2 σ2 G2 H2 ho h2 x2 e2 => kx c o ds2 σ2 G2 H2 ho h2 (s2.trans x2) e2)
/-- xs.clear() of an own nested list, no more looked at -/
theorem sd_clearN {i : Nat} {rs : List (List PyData)} (hd : ds[i]? = some (.nl rs)) (k : R.nx (ds.set i .un)) : SD C W (tDrop (tBM0 C.K "list" rClear (tVar i))) ds R := fun G0 H0 G H σ D e kn kr ko kb kc kx => by
  obtain ⟨l, ls, z1, ow, di, on⟩ := e.nl i rs hd
  have nd := ow.nd
  refine ⟨_, z1, Or.inl ⟨rfl, _, sq_of ow.o⟩, l, _, rfl, rfl, ow.o, kn _ _ G _ k (Ex.refl _) ?_⟩
  refine ⟨e.stp.mut (ow.c l List.mem_cons_self).1 (ow.c l List.mem_cons_self).2, e.s0, by rw [List.length_set]; exact e.len, fun j d h => ?_, fun j zs h => ?_, fun j A x fs h => ?_, fun j k us zs m h1 h2 h3 h4 => ?_, fun j rs' h => ?_⟩
  · exact e.va j d (set_ne' h (fun z => by cases z)).2
  · have h' := (set_ne' h (fun z => by cases z)).2
    obtain ⟨l2, vs2, y1, y2, y3, y4, y5⟩ := e.ow j zs h'
    exact ⟨l2, vs2, y1, y2, y3, by rw [upd_ne (fun z => di j zs l2 h' y1 (by rw [z]; exact List.mem_cons_self))]; exact y4, y5⟩
  · have h' := (set_ne' h (fun z => by cases z)).2
    obtain ⟨dx, vs2, y1, y2, y3, y4, y5⟩ := e.ob j A x fs h'
    exact ⟨dx, vs2, y1, y2, y3, by rw [upd_ne (fun z => by rw [z, ow.o] at y4; cases y4)]; exact y4, y5⟩
  · exact e.di j k us zs m (set_ne' h1 (fun z => by cases z)).2 (set_ne' h2 (fun z => by cases z)).2 h3 h4
  · obtain ⟨q, h'⟩ := set_ne' h (fun z => by cases z)
    exact absurd (on j rs' h').symm q
end
end Yp
set_option Elab.async false
set_option linter.all false
set_option autoImplicit false
set_option maxRecDepth 100000
set_option maxHeartbeats 2000000
/-! Own lists of own lists: walks and stores. -/
namespace Yp
open PySem L2 Evl
theorem paired_set {α β : Type} {R S : α → β → Prop} {a : α} {y' : β} : ∀ {xs : List α} {ys : List β} {t : Nat}, Paired R xs ys → xs[t]? = some a → xs.Nodup → (∀ b ∈ xs, b ≠ a → ∀ y, R b y → S b y) → S a y' → Paired S xs (ys.set t y')
  | _, _, _, .nil, h, _, _, _ => by simp at h
  | x :: xs, y :: ys, 0, .cons h t, e, nd, f, s => by
    have e' : x = a := Option.some.inj e
    subst e'
    rw [List.nodup_cons] at nd
    exact .cons s (paired_mapM t fun b hb y r => f b (List.mem_cons_of_mem _ hb) (fun z => nd.1 (by rw [← z]; exact hb)) y r)
  | x :: xs, y :: ys, t + 1, .cons h tl, e, nd, f, s => by
    have e' : xs[t]? = some a := by simpa using e
    rw [List.nodup_cons] at nd
    exact .cons (f x List.mem_cons_self (fun z => nd.1 (by rw [z]; exact List.mem_of_getElem? e')) y h) (paired_set tl e' nd.2 (fun b hb => f b (List.mem_cons_of_mem _ hb)) s)
theorem paired_at {α β : Type} {R : α → β → Prop} : ∀ {xs : List α} {ys : List β} {t : Nat} {y : β}, Paired R xs ys → ys[t]? = some y → ∃ a, xs[t]? = some a ∧ R a y
  | _, _, _, _, .nil, h => by simp at h
  | _, _, 0, _, .cons h t, e => ⟨_, rfl, by have e' := Option.some.inj e; rw [← e']; exact h⟩
  | _, _, t + 1, _, .cons h tl, e => by
    obtain ⟨a, h1, h2⟩ := paired_at (t := t) tl (by simpa using e)
    exact ⟨a, by simpa using h1, h2⟩
theorem OwnN.row {K : PySem.W.Frag} {Hc G H : Hp} {l a : Addr} {ls : List Addr} {rs : List (List PyData)} {t : Nat} {vs : List V} {r : List PyData} (n : OwnN K Hc G H l ls rs) (ha : ls[t]? = some a) (hr : DpAll K G vs r) : OwnN K Hc G (upd H a (.lst vs)) l ls (rs.set t r) := by
  have nd := n.nd
  rw [List.nodup_cons] at nd
  have hm : a ∈ ls := List.mem_of_getElem? ha
  refine ⟨n.c, by rw [upd_ne (fun z => nd.1 (by rw [z]; exact hm))]; exact n.o, n.nd, paired_set n.r ha nd.2 (fun b hb ne y ⟨ws, h1, h2⟩ => ⟨ws, by rw [upd_ne ne]; exact h1, h2⟩) ⟨vs, upd_same, hr⟩⟩
theorem dpa_set {K : PySem.W.Frag} {G : Hp} {v : V} {x : PyData} (r : Dp K G v x) : ∀ {vs : List V} {xs : List PyData} (j : Nat), DpAll K G vs xs → DpAll K G (vs.set j v) (xs.set j x)
  | _, _, _, .nil => .nil
  | _, _, 0, .cons h t => .cons r t
  | _, _, j + 1, .cons h t => .cons h (dpa_set r j t)
theorem En.poke {C : Kx} {G0 H0 G H : Hp} {σ : L2.St} {ds : List Sl} {i : Nat} {y : Option V} (e : En C G0 H0 G H σ ds) : En C G0 H0 G H (σ.set i y) (ds.set i .un) := by
  refine ⟨e.stp, e.s0, by rw [List.length_set, List.length_set]; exact e.len, fun j d h => ?_, fun j xs h => ?_, fun j A x fs h => ?_, fun j k xs ys l h1 h2 h3 h4 => ?_, e.nl.set (Ex.refl _) (fun _ z => by cases z) (fun _ z => by cases z) fun a vs h1 h2 _ => ⟨h1, h2⟩⟩
  · obtain ⟨q, h⟩ := set_ne' h (fun z => by cases z)
    rw [List.getElem?_set_ne q]
    exact e.va j d h
  · obtain ⟨q, h⟩ := set_ne' h (fun z => by cases z)
    rw [List.getElem?_set_ne q]
    exact e.ow j xs h
  · obtain ⟨q, h⟩ := set_ne' h (fun z => by cases z)
    rw [List.getElem?_set_ne q]
    exact e.ob j A x fs h
  · obtain ⟨q1, h1⟩ := set_ne' h1 (fun z => by cases z)
    obtain ⟨q2, h2⟩ := set_ne' h2 (fun z => by cases z)
    rw [List.getElem?_set_ne q1] at h3
    rw [List.getElem?_set_ne q2] at h4
    exact e.di j k xs ys l h1 h2 h3 h4
theorem En.forget {C : Kx} {G0 H0 G H : Hp} {σ : L2.St} {ds : List Sl} {i : Nat} (e : En C G0 H0 G H σ ds) (hi : i < ds.length) : En C G0 H0 G H σ (ds.set i .un) := by
  have h := e.poke (i := i) (y := σ[i]'(by rw [e.len]; exact hi))
  rwa [List.set_getElem_self] at h
section
variable {C : Kx} {ds : List Sl} {W : WX} {R : DE}
/-- for x in (own nested list): x is changed -/
theorem sd_forN {i r : Nat} {rs : List (List PyData)} {tb : TS} (g : List V → List V) (f : List PyData → List PyData) (hd : ds[i]? = some (.nl rs)) (ne : i ≠ r) (hr : r < ds.length)
    (hfg : ∀ (G : Hp) (vs : List V) (xs : List PyData), DpAll C.K G vs xs → DpAll C.K G (g vs) (f xs))
    (hop : ∀ (D : Ends) (σ : L2.St) (G H : Hp) (a : Addr) (vs : List V) (xs : List PyData), σ[r]? = some (some (.ref a)) → H a = some (.lst vs) → DpAll C.K G vs xs → xs ∈ rs → D.nx σ (upd H a (.lst (g vs))) → tb D σ H)
    (k : R.nx ((ds.set r .un).set i (.nl (rs.map f)))) : SD C W (tFor (iList C.K (tVar i)) (gName r) tb) ds R := fun G0 H0 G H σ D e kn kr ko kb kc kx => by
  obtain ⟨l, ls, z1, ow, di, on⟩ := e.nl i rs hd
  have hls : ls.length = rs.length := Paired.length ow.r
  have hi : i < ds.length := (List.getElem?_eq_some_iff.mp hd).1
  refine ⟨_, z1, l, rfl, ⟨_, sq_of ow.o⟩, fun t m σ' H' => m = ls.length - t ∧ t ≤ ls.length ∧ OwnN C.K H0 G H' l ls ((rs.take t).map f ++ rs.drop t) ∧ σ'[i]? = some (some (.ref l)) ∧ En C G0 H0 G H' σ' ((ds.set r .un).set i (.nl ((rs.take t).map f ++ rs.drop t))), ⟨_, rfl, Nat.zero_le _, ow, z1, ?_⟩, fun t m σ1 H1 ⟨em, ht, ow1, zi, e1⟩ => ?_⟩
  · have e2 := e.forget hr
    have h3 : (ds.set r .un).set i (.nl ((rs.take 0).map f ++ rs.drop 0)) = ds.set r .un := by
      show (ds.set r .un).set i (.nl rs) = _
      rw [List.set_comm _ _ ne.symm]
      congr 1
      exact List.ext_getElem? fun j => by
        by_cases q : i = j
        · subst q; rw [List.getElem?_set_self hi, hd]
        · rw [List.getElem?_set_ne q]
    rw [h3]
    exact e2
  · by_cases hlt : t < ls.length
    · have hx : ls[t]? = some ls[t] := List.getElem?_eq_getElem hlt
      have hrt : rs[t]? = some (rs[t]'(by omega)) := List.getElem?_eq_getElem (by omega)
      have hq : (ls.map V.ref)[t]? = some (.ref ls[t]) := by rw [List.getElem?_map, hx]; rfl
      refine .inr ⟨⟨_, _, sq_of ow1.o, hq⟩, fun σ' H' => OwnN C.K H0 G H' l ls ((rs.take (t + 1)).map f ++ rs.drop (t + 1)) ∧ σ'[i]? = some (some (.ref l)) ∧ En C G0 H0 G H' σ' ((ds.set r .un).set i (.nl ((rs.take (t + 1)).map f ++ rs.drop (t + 1)))), fun σ' H' ⟨a1, a2, a3⟩ => ⟨ls.length - (t + 1), by omega, rfl, by omega, a1, a2, a3⟩, fun x H2 hy => ?_⟩
      obtain ⟨y1, y2⟩ := hy
      subst y1
      have y3 := y2 _ (sq_of ow1.o)
      rw [hq] at y3
      cases y3
      have hsz : ((rs.take t).map f ++ rs.drop t)[t]? = some (rs[t]'(by omega)) := by
        rw [List.getElem?_append_right (by rw [List.length_map, List.length_take]; omega), List.length_map, List.length_take, Nat.min_eq_left (by omega), Nat.sub_self, List.getElem?_drop, Nat.add_zero]
        exact hrt
      obtain ⟨a, ha, vs, hv, hdp⟩ := paired_at ow1.r hsz
      rw [hx] at ha
      cases ha
      have hst : ((rs.take t).map f ++ rs.drop t).set t (f (rs[t]'(by omega))) = (rs.take (t + 1)).map f ++ rs.drop (t + 1) := by
        rw [List.set_append_right _ _ (by rw [List.length_map, List.length_take]; omega), List.length_map, List.length_take, Nat.min_eq_left (by omega), Nat.sub_self, List.drop_eq_getElem_cons (by omega), List.set_cons_zero, List.take_add_one, hrt, List.map_append, List.append_assoc]
        rfl
      have e2 : En C G0 H0 G H2 (σ1.set r (some (.ref ls[t]))) ((ds.set r .un).set i (.nl ((rs.take t).map f ++ rs.drop t))) := by
        have h := e1.poke (i := r) (y := some (.ref ls[t]))
        rwa [List.set_comm _ _ ne, List.set_set] at h
      have zi2 : (σ1.set r (some (V.ref ls[t])))[i]? = some (some (.ref l)) := by rw [List.getElem?_set_ne ne.symm]; exact zi
      have hrr : (σ1.set r (some (V.ref ls[t])))[r]? = some (some (.ref ls[t])) := List.getElem?_set_self (by rw [e1.len, List.length_set, List.length_set]; exact hr)
      have ow2 := ow1.row hx (hfg G _ _ hdp)
      rw [hst] at ow2
      refine hop _ _ G H2 ls[t] vs _ hrr hv hdp (List.getElem_mem _) ⟨ow2, zi2, ?_⟩
      refine e2.upN (i := i) (rs := (rs.take t).map f ++ rs.drop t) (rs' := (rs.take (t + 1)).map f ++ rs.drop (t + 1)) (List.getElem?_set_self (by rw [List.length_set]; exact hi)) zi2 ow1 ow2 (fun a ha => ?_) (.inl (by rw [List.set_set])) rfl
      rw [upd_ne (fun z => ha (by rw [z]; exact List.mem_cons_of_mem _ (List.getElem_mem hlt)))]
    · have hte : t = ls.length := by omega
      refine .inl ⟨⟨_, sq_of ow1.o, by rw [List.length_map]; omega⟩, kn _ _ G _ k (Ex.refl _) ?_⟩
      have h4 : (rs.take t).map f ++ rs.drop t = rs.map f := by rw [List.take_of_length_le (by omega), List.drop_eq_nil_of_le (by omega), List.append_nil]
      rw [h4] at e1
      exact e1
/-- x.clear() -/
theorem sd_forClear {i r : Nat} {rs : List (List PyData)} (hd : ds[i]? = some (.nl rs)) (ne : i ≠ r) (hr : r < ds.length) (k : R.nx ((ds.set r .un).set i (.nl (rs.map fun _ => [])))) : SD C W (tFor (iList C.K (tVar i)) (gName r) (tDrop (tBM0 C.K "list" rClear (tVar r)))) ds R :=
  sd_forN (fun _ => []) (fun _ => []) hd ne hr (fun _ _ _ _ => .nil) (fun D σ G H a vs xs h1 h2 _ _ q => ⟨_, h1, Or.inl ⟨rfl, vs, sq_of h2⟩, a, vs, rfl, rfl, h2, q⟩) k
/-- x.append(n) -/
theorem sd_forApp {i r : Nat} {n : Int} {rs : List (List PyData)} (hd : ds[i]? = some (.nl rs)) (ne : i ≠ r) (hr : r < ds.length) (hz : ∀ r ∈ rs, r.length < 100000) (k : R.nx ((ds.set r .un).set i (.nl (rs.map fun r => r ++ [.int n])))) : SD C W (tFor (iList C.K (tVar i)) (gName r) (tDrop (tBM C.K "list" rAppend (tVar r) (tCons (tC (.int n)) tNil)))) ds R :=
  sd_forN (fun vs => vs ++ [.int n]) (fun r => r ++ [.int n]) hd ne hr (fun _ _ _ h => dpa_app h (.cons (.int n) .nil)) (fun D σ G H a vs xs h1 h2 h3 h4 q => ⟨_, h1, Or.inl ⟨rfl, vs, sq_of h2⟩, a, vs, _, rfl, rfl, h2, by rw [dpa_len h3]; exact sz_lt (hz xs h4), q⟩) k
/-- xs[p][k] = e of an own nested list -/
theorem sd_setN {i t j : Nat} {rs : List (List PyData)} {r : List PyData} {te tp ti : TE} {x : PyData} {p k : Int} (hd : ds[i]? = some (.nl rs)) (h : XD C te ds (.pd x)) (hp : XD C tp ds (dI p)) (hix : ixN rs.length p = some t) (hr : rs[t]? = some r) (hk : XD C ti ds (dI k)) (hj : ixN r.length k = some j)
    (kk : R.nx (ds.set i (.nl (rs.set t (r.set j x))))) : SD C W (tAsg te (gSub (tOp (rIx C.K) (tVar i) tp) ti rSetL)) ds R := fun G0 H0 G H σ D e kn kr ko kb kc kx => by
  refine h G0 H0 G H σ e _ fun v G1 H1 s1 r1 => ?_
  have e1 := e.step s1
  obtain ⟨l, ls, z1, _⟩ := e1.nl i rs hd
  refine ⟨_, z1, hp G0 H0 G1 H1 σ e1 _ fun w G2 H2 s2 r2 => ?_⟩
  have e2 := e1.step s2
  obtain ⟨l2, ls2, z2, ow2, _⟩ := e2.nl i rs hd
  rw [z1] at z2
  cases z2
  obtain ⟨a, ha, vs, hv, hdp⟩ := paired_at ow2.r hr
  have hls : ls2.length = rs.length := Paired.length ow2.r
  refine .inl ⟨l, ls2.map V.ref, p, .ref a, rfl, dp_int r2, sq_of ow2.o, ?_, hk G0 H0 G2 H2 σ e2 _ fun w2 G3 H3 s3 r3 => ?_⟩
  · unfold atI
    rw [List.length_map, hls, hix]
    show (ls2.map V.ref)[t]? = _
    rw [List.getElem?_map, ha]
    rfl
  · have e3 := e2.step s3
    have ow3 := ow2.step s3 e2.ex
    have hdp3 := dpAll_mono s3.g _ _ hdp
    have hv3 := s3.h _ _ hv
    have rv := dp_mono (s2.g.trans s3.g) _ _ r1
    refine ⟨a, vs, k, j, rfl, dp_int r3, hv3, by rw [dpa_len hdp3]; exact hj, kn _ _ G3 _ kk ((s1.g.trans s2.g).trans s3.g) ?_⟩
    refine e3.upN hd z1 ow3 (ow3.row ha (dpa_set rv j hdp3)) (fun b hb => ?_) (.inl rfl) rfl
    rw [upd_ne (fun z => hb (by rw [z]; exact List.mem_cons_of_mem _ (List.mem_of_getElem? ha)))]
end
end Yp
set_option Elab.async false
set_option linter.all false
set_option autoImplicit false
set_option maxRecDepth 100000
set_option maxHeartbeats 2000000
/-! A long pledge where nobody dies ahead of the last year. -/
namespace Yp
open PySem L2 Evl
theorem cd_sum {C : Kx} {ns : List Int} : CD C (rSum C.K) [.pd (.list (ns.map PyData.int))] (dI ns.sum) := fun G H vs s hv Q q => by
  obtain ⟨x, e, h⟩ := rpa1 hv
  subst e
  obtain ⟨p, ws, e1, e2, e3⟩ := dp_lst h
  subst e1
  have e4 := dpa_intsV e3
  subst e4
  exact ⟨p, ns, rfl, ex_l s e2, q _ G H (.refl s) (Dp.int _)⟩
def lch (y : Nat) : List (Int × Int) := List.replicate (y - 1) (0, 1) ++ [(1, 1)]
theorem lch_len {y : Nat} (h : 1 ≤ y) : (lch y).length = y := by
  unfold lch
  rw [List.length_append, List.length_replicate]
  show y - 1 + 1 = y
  omega
theorem lch_get {y k : Nat} (h : k < y) : (lch y)[k]? = some (if k + 1 = y then (1, 1) else (0, 1)) := by
  unfold lch
  by_cases e : k + 1 = y
  · rw [if_pos e, List.getElem?_append_right (by rw [List.length_replicate]; omega), List.length_replicate]
    have : k - (y - 1) = 0 := by omega
    rw [this]
    rfl
  · rw [if_neg e, List.getElem?_append_left (by rw [List.length_replicate]; omega), List.getElem?_replicate, if_pos (by omega)]
theorem lch_ok {y : Nat} (h1 : 1 ≤ y) (h2 : y ≤ 20) : ChOk 1 (lch y) := by
  have hl := lch_len h1
  have get : ∀ (i : Nat) (p : Int × Int), (lch y)[i]? = some p → i < y ∧ p = if i + 1 = y then (1, 1) else (0, 1) := fun i p h => by
    have hi : i < y := by
      have := (List.getElem?_eq_some_iff.mp h).1
      omega
    rw [lch_get hi] at h
    exact ⟨hi, (Option.some.inj h).symm⟩
  refine ⟨by omega, by omega, by omega, fun i p h => ?_, fun i p h => ?_⟩
  · obtain ⟨hi, rfl⟩ := get i p h
    split <;> decide
  · obtain ⟨hi, rfl⟩ := get i p h
    rw [hl]
    split
    · rename_i e; exact ⟨fun _ => e, fun _ => rfl⟩
    · rename_i e; exact ⟨fun z => absurd z (by decide), fun z => absurd z e⟩
theorem vq_00 : vq (0, 1) = 0 := rfl
theorem vq_11 : vq (1, 1) = 1 := by decide +kernel
theorem vq_33 : vq (3, 3) = 1 := by decide +kernel
theorem lch_q {y k : Nat} (h : k < y) : ((lch y).map vq).getD k 0 = if k + 1 = y then 1 else 0 := by
  rw [List.getD_eq_getElem?_getD, List.getElem?_map, lch_get h]
  show vq (if k + 1 = y then (1, 1) else (0, 1)) = _
  split
  · exact vq_11
  · exact vq_00
theorem lch_lv {y k : Nat} (h : k < y) : lv ((lch y).map vq) 0 k = 1 := by
  unfold lv
  rw [List.length_map, lch_len (by omega), if_neg (by omega)]
  have e : ∀ m, m ≤ k → rprod ((List.range m).map fun j => 1 - ((lch y).map vq).getD (0 + j) 0) = 1 := fun m => by
    induction m with
    | zero => intro _; rfl
    | succ m ih =>
      intro hm
      rw [rprod_range_succ, ih (by omega), Nat.zero_add, lch_q (by omega), if_neg (by omega)]
      decide +kernel
  exact e k (Nat.le_refl k)
theorem sum_cast (xs : List Int) : (xs.map fun (i : Int) => (i : Rat)).sum = ((xs.sum : Int) : Rat) := by
  induction xs with
  | nil => rfl
  | cons x r ih => rw [List.map_cons, List.sum_cons, List.sum_cons, ih, Rat.intCast_add]
theorem rsum_rows (rows : List Row) (f : Row → Int) : rsum rows.length (fun k => ((f (rowAt rows k) : Int) : Rat)) = (((rows.map f).sum : Int) : Rat) := by
  rw [← sum_cast, List.map_map]
  unfold rsum
  congr 1
  refine List.ext_getElem? fun i => ?_
  rw [List.getElem?_map, List.getElem?_map]
  by_cases h : i < rows.length
  · rw [List.getElem?_range h, rowAt_get h]
    rfl
  · rw [List.getElem?_eq_none (by rw [List.length_range]; omega), List.getElem?_eq_none (by omega)]
    rfl
theorem one_pow (k : Nat) : (1 : Rat) ^ k = 1 := by
  induction k with
  | zero => exact Rat.pow_zero _
  | succ k ih => rw [Rat.pow_succ, ih, Rat.mul_one]
theorem long_due {rows : List Row} : dueF ((lch rows.length).map vq) 1 0 rows 0 = (((rows.map fun r => r.1).sum : Int) : Rat) := by
  rw [← rsum_rows]
  unfold dueF
  rw [Nat.sub_zero]
  refine rsum_congr fun k hk => ?_
  rw [Nat.zero_add, Nat.zero_add]
  unfold wLiv
  rw [lch_lv hk, one_pow, Rat.mul_one, Rat.mul_one]
theorem rsum_last {n : Nat} (hn : 1 ≤ n) (f : Nat → Rat) (h : ∀ k, k + 1 < n → f k = 0) : rsum n f = f (n - 1) := by
  obtain ⟨m, rfl⟩ : ∃ m, n = m + 1 := ⟨n - 1, by omega⟩
  rw [rsum_succ, Nat.add_sub_cancel]
  have e : ∀ j, j ≤ m → rsum j f = 0 := fun j => by
    induction j with
    | zero => intro _; rfl
    | succ j ih => intro hj; rw [rsum_succ, ih (by omega), h j (by omega), Rat.zero_add]
  rw [e m (Nat.le_refl m), Rat.zero_add]
theorem long_paid {rows : List Row} (h1 : 1 ≤ rows.length) : paidF ((lch rows.length).map vq) 1 0 rows 0 = (((rows.map fun r => r.2.1).sum + (rowAt rows (rows.length - 1)).2.2 : Int) : Rat) := by
  rw [Rat.intCast_add, ← rsum_rows]
  unfold paidF
  rw [Nat.sub_zero, rsum_add]
  have e1 : rsum rows.length (fun k => wLiv ((lch rows.length).map vq) 1 (0 + 0) (rowAt rows (0 + k)).2.1 k) = rsum rows.length (fun k => (((rowAt rows k).2.1 : Int) : Rat)) := rsum_congr fun k hk => by
    rw [Nat.zero_add, Nat.zero_add]
    unfold wLiv
    rw [lch_lv hk, one_pow, Rat.mul_one, Rat.mul_one]
  rw [e1]
  congr 1
  have e2 : ∀ k, k < rows.length → wDie ((lch rows.length).map vq) 1 (0 + 0) (rowAt rows (0 + k)).2.2 k = if k + 1 = rows.length then (((rowAt rows k).2.2 : Int) : Rat) else 0 := fun k hk => by
    rw [Nat.zero_add, Nat.zero_add]
    unfold wDie
    rw [Nat.zero_add, lch_lv hk, one_pow, lch_q hk]
    split
    · rw [Rat.mul_one, Rat.mul_one, Rat.mul_one]
    · rw [Rat.mul_one, Rat.one_mul, Rat.mul_zero]
  rw [rsum_last h1 _ fun k hk => by rw [e2 k (by omega), if_neg (by omega)], e2 _ (by omega), if_pos (by omega)]
def lyr (ns : List Int) : Int := 7 + (draw ns 95).fmod 14
def rLong (das : List Da) (d : Da) : Prop := ∃ ns : List Int, das = [dS ns] ∧ d = dB true
theorem long_good {n : Nat} {r : Int × Int} {rows : List Row} (h1 : 1 ≤ rows.length) (h2 : rows.length ≤ 20) (hr : RateOk n r) (hn : n ≤ 2) (hok : ∀ x ∈ rows, RowOk x) : Good 1 n ((lch rows.length).map vq) r 0 rows := by
  refine ⟨(lch_ok h1 h2).tq, hr, ⟨by decide, by decide, h1, h2, hok⟩, by rw [List.length_map, lch_len h1]; omega, ?_⟩
  have h3 : (rows.length + 1) * n ≤ 21 * 2 := Nat.mul_le_mul (by omega) hn
  have h4 : 2 * rows.length * (151 + (rows.length + 1) * n) ≤ 40 * 193 := Nat.mul_le_mul (by omega) (by omega)
  omega
end Yp
namespace Yp
open PySem L2 Evl
def isNl : Sl → Bool
  | .nl _ => true
  | _ => false
theorem only_of {ds : List Sl} {i : Nat} (h : ds.any isNl = false) : ∀ (j : Nat) (rs' : List (List PyData)), ds[j]? = some (.nl rs') → j = i := fun j rs' e => by
  have h2 := List.any_eq_false.mp h _ (List.mem_of_getElem? e)
  exact absurd rfl h2
def rowL (r : Row) : List PyData := [.int r.1, .int r.2.1, .int r.2.2]
theorem lds_rows (rows : List Row) : lds (rows.map rowL) = rows.map rL := by
  unfold lds
  rw [List.map_map]
  rfl
theorem at_lastR {rows : List Row} (h1 : 1 ≤ rows.length) : atI (rows.map rD) (-1) = some (rD (rowAt rows (rows.length - 1))) := by
  unfold atI
  rw [ixN_last (by rw [List.length_map]; exact h1), List.length_map]
  show (rows.map rD)[rows.length - 1]? = _
  rw [List.getElem?_map, rowAt_get (by omega)]
  rfl
end Yp
set_option Elab.async false
set_option linter.all false
set_option autoImplicit false
set_option maxRecDepth 100000
set_option maxHeartbeats 2000000
/-! Long pledges: what is drawn. -/
namespace Yp
open PySem L2 Evl
theorem cd_int1B {C : Kx} {k : Bool} : CD C (fun xs H Q => (∃ i, xs = [V.int i] ∧ Q (.int i) H) ∨ ∃ k, xs = [V.bl k] ∧ Q (.int (if k then 1 else 0)) H) [dB k] (dI (if k then 1 else 0)) := fun G H vs s hv Q q => by
  obtain ⟨x, e, h⟩ := rpa1 hv
  subst e
  have e2 := dp_bl h
  subst e2
  exact .inr ⟨k, rfl, q _ G H (.refl s) (Dp.int _)⟩
def hvD (ns : List Int) (k : Nat) : Int × Int := (if decide ((draw ns (10 + (k : Int))).fmod 5 = 1) then 1 else 0, 2)
def halves (ns : List Int) : List (Int × Int) := (List.range 19).map (hvD ns) ++ [(1, 1)]
theorem halves_len (ns : List Int) : (halves ns).length = 20 := by
  unfold halves
  rw [List.length_append, List.length_map, List.length_range]
  rfl
theorem halves_get (ns : List Int) {i : Nat} {p : Int × Int} (h : (halves ns)[i]? = some p) : i < 20 ∧ (i < 19 → (p.1 = 0 ∨ p.1 = 1) ∧ p.2 = 2) ∧ (i = 19 → p = (1, 1)) := by
  have hi : i < 20 := by
    have := (List.getElem?_eq_some_iff.mp h).1
    rwa [halves_len] at this
  have hl : ((List.range 19).map (hvD ns)).length = 19 := by rw [List.length_map, List.length_range]
  unfold halves at h
  refine ⟨hi, fun h1 => ?_, fun h1 => ?_⟩
  · rw [List.getElem?_append_left (by omega), List.getElem?_map, List.getElem?_range h1] at h
    have e : hvD ns i = p := Option.some.inj h
    rw [← e]
    unfold hvD
    split
    · exact ⟨.inr rfl, rfl⟩
    · exact ⟨.inl rfl, rfl⟩
  · subst h1
    rw [List.getElem?_append_right (by omega), hl] at h
    exact (Option.some.inj h).symm
theorem halves_ok (ns : List Int) : ChOk 2 (halves ns) := by
  have hl := halves_len ns
  refine ⟨by omega, by omega, by omega, fun i p h => ?_, fun i p h => ?_⟩
  · obtain ⟨h1, h2, h3⟩ := halves_get ns h
    by_cases e : i = 19
    · rw [h3 e]; decide
    · obtain ⟨h4, h5⟩ := h2 (by omega)
      rw [h5]
      exact ⟨by omega, by omega, by omega, by omega, by decide⟩
  · obtain ⟨h1, h2, h3⟩ := halves_get ns h
    rw [hl]
    by_cases e : i = 19
    · rw [h3 e]; exact ⟨fun _ => by omega, fun _ => rfl⟩
    · obtain ⟨h4, h5⟩ := h2 (by omega)
      rw [h5]
      exact ⟨fun z => by omega, fun z => by omega⟩
def rates17 : List (Int × Int) := [(1, 1), (1, 2), (2, 3)]
theorem rates17_ok : ∀ p ∈ rates17, RateOk 2 p := by
  intro p hp
  unfold rates17 at hp
  simp only [List.mem_cons, List.not_mem_nil, or_false] at hp
  rcases hp with rfl | rfl | rfl <;> exact ⟨by decide, by decide, by decide, by decide⟩
def crow (ns : List Int) (k : Nat) : Row := ((draw ns (100 + 3 * (k : Int) + (0 : Nat))).fmod 10, (draw ns (100 + 3 * (k : Int) + (1 : Nat))).fmod 10, (draw ns (100 + 3 * (k : Int) + (2 : Nat))).fmod 10)
def crows (ns : List Int) (m : Nat) : List Row := (List.range m).map (crow ns)
theorem crows_len (ns : List Int) (m : Nat) : (crows ns m).length = m := by unfold crows; rw [List.length_map, List.length_range]
theorem crows_ok (ns : List Int) (m : Nat) : ∀ r ∈ crows ns m, RowOk r := fun r hr => by
  unfold crows at hr
  obtain ⟨k, _, rfl⟩ := List.mem_map.mp hr
  have g : ∀ x : Int, CoinOk (x.fmod 10) := fun x => by
    have h1 := fm_ge x (b := 10) (by decide)
    have h2 := fm_lt x (b := 10) (by decide)
    exact ⟨h1, by omega⟩
  exact ⟨g _, g _, g _⟩
def rHalves (das : List Da) (xs : List PyData) : Prop := ∃ ns : List Int, das = [dS ns] ∧ xs = (halves ns).map pD
def rCoins17 (das : List Da) (xs : List PyData) : Prop := ∃ (ns : List Int) (y : Int), das = [dS ns, dI y] ∧ 0 ≤ y ∧ y ≤ 100 ∧ xs = (crows ns y.toNat).map rD
def rThere (das : List Da) (d : Da) : Prop := ∃ (ch : List (Int × Int)) (r : Int × Int) (a : Int) (rows : List Row) (y : Int), das = [.pd (.list (ch.map pD)), dP r, dI a, .pd (.list (rows.map rD)), dI y] ∧ LGood 2 2 ch r a rows ∧ 0 ≤ y ∧ y ≤ rows.length ∧ a + y < ch.length ∧ d = dQ (heldR (ch.map vq) (vq r) a.toNat rows y.toNat)
theorem long_lgood {ch : List (Int × Int)} {r : Int × Int} {a : Int} {rows : List Row} (hc : ChOk 2 ch) (hr : RateOk 2 r) (a0 : 0 ≤ a) (fit : a + rows.length ≤ ch.length) (ok : ∀ x ∈ rows, RowOk x) (l1 : 1 ≤ rows.length) : LGood 2 2 ch r a rows := by
  have h20 := hc.n20
  have hl : rows.length ≤ 20 := by omega
  have h3 : (rows.length + 1) * 2 ≤ 42 := by omega
  have h4 : 2 * rows.length * (151 + (rows.length + 1) * 2) ≤ 40 * 193 := Nat.mul_le_mul (by omega) (by omega)
  exact ⟨hc, hr, a0, fit, ok, by omega, l1, hl, by omega⟩
end Yp
set_option Elab.async false
set_option linter.all false
set_option autoImplicit false
set_option maxRecDepth 100000
set_option maxHeartbeats 2000000
/-! Spoiled pledges. -/
namespace Yp
open PySem L2 Evl
abbrev iz (xs : List Int) : List PyData := xs.map PyData.int
def rowI (xs : List Int) : PyData := .list (iz xs)
def rowZ (r : Row) : List Int := [r.1, r.2.1, r.2.2]
theorem rowI_Z (rows : List Row) : (rows.map rowZ).map rowI = rows.map rL := by
  rw [List.map_map]
  rfl
theorem lds_ints (L : List (List Int)) : lds (L.map iz) = L.map rowI := by
  unfold lds
  rw [List.map_map]
  rfl
theorem rowL_ints (rows : List Row) : rows.map rowL = (rows.map rowZ).map iz := by
  rw [List.map_map]
  rfl
/-- what makes no pledge -/
def PleBad (a : Int) (L : List (List Int)) : Prop := ¬ ((0 ≤ a ∧ a < 20) ∧ (1 ≤ L.length ∧ L.length ≤ 20)) ∨ ∃ xs ∈ L, ∃ c ∈ xs, ¬ CoinOk c
def rXPle (bp : Addr) (das : List Da) (A : Addr) : Prop := ∃ (a : Int) (L : List (List Int)), das = [dI a, .pd (.list (L.map rowI))] ∧ (∀ xs ∈ L, xs.length ≤ 100) ∧ PleBad a L ∧ A = bp
def rMade5 (bp : Addr) (das : List Da) (d : Da) : Prop := ∃ (a : Int) (l : PyData), das = [dI a, .pd l] ∧ (rPleMk [dI a, .pd l] d ∨ (rXPle bp [dI a, .pd l] bp ∧ d = .exc bp))
def spoilB (a : Int) (L : List (List Int)) (p : Nat) (way cell : Int) : Int × List (List Int) :=
  if way = 1 then (a, []) else if way = 2 then (a, L ++ List.replicate (21 - (L.length : Int) + cell.fmod 3).toNat [0, 0, 0]) else
  if way = 3 then (a, L.set p ((L.getD p []).set ((cell / 20).fmod 3).toNat (-1 - (cell / 60).fmod 9))) else
  if way = 4 then (a, L.set p ((L.getD p []).set ((cell / 20).fmod 3).toNat (1000001 + (cell / 60).fmod 9))) else
  if way = 5 then (-1 - (cell / 60).fmod 9, L) else if way = 6 then (20 + (cell / 60).fmod 9, L) else (a, L)
def spoil5 (a : Int) (rows : List Row) (way cell : Int) : Int × List (List Int) := spoilB a (rows.map rowZ) (cell.fmod (rows.length : Int)).toNat way cell
theorem spoilB_none {a : Int} {L : List (List Int)} {p : Nat} {way cell : Int} (h : ¬ (1 ≤ way ∧ way ≤ 6)) : spoilB a L p way cell = (a, L) := by
  unfold spoilB
  rw [if_neg (by omega), if_neg (by omega), if_neg (by omega), if_neg (by omega), if_neg (by omega), if_neg (by omega)]
theorem row_at {rows : List Row} {p : Nat} (hp : p < rows.length) : (rows.map rowZ)[p]? = some (rowZ (rowAt rows p)) ∧ (rows.map rowZ).getD p [] = rowZ (rowAt rows p) := by
  have e : (rows.map rowZ)[p]? = some (rowZ (rowAt rows p)) := by rw [List.getElem?_map, rowAt_get hp]; rfl
  exact ⟨e, by rw [List.getD_eq_getElem?_getD, e]; rfl⟩
theorem spoilB_bad {a : Int} {rows : List Row} {p : Nat} {way cell : Int} (hp : p < rows.length) (h1 : 1 ≤ way) (h6 : way ≤ 6) : PleBad (spoilB a (rows.map rowZ) p way cell).1 (spoilB a (rows.map rowZ) p way cell).2 := by
  obtain ⟨e1, e2⟩ := row_at hp
  have m0 := fm_ge (cell / 20) (b := 3) (by decide)
  have m1 := fm_lt (cell / 20) (b := 3) (by decide)
  have s0 := fm_ge (cell / 60) (b := 9) (by decide)
  have key : ∀ x : Int, ¬ CoinOk x → ∃ xs ∈ (rows.map rowZ).set p (((rows.map rowZ).getD p []).set ((cell / 20).fmod 3).toNat x), ∃ c ∈ xs, ¬ CoinOk c := fun x hx => by
    refine ⟨_, mem_set_self (by rw [List.length_map]; exact hp), x, ?_, hx⟩
    rw [e2]
    exact mem_set_self (by show _ < 3; omega)
  rcases (show way = 1 ∨ way = 2 ∨ way = 3 ∨ way = 4 ∨ way = 5 ∨ way = 6 by omega) with rfl | rfl | rfl | rfl | rfl | rfl
  · exact .inl fun h => by have : (1 : Nat) ≤ 0 := h.2.1; omega
  · refine .inl fun h => ?_
    have h2 : ((rows.map rowZ) ++ List.replicate (21 - ((rows.map rowZ).length : Int) + cell.fmod 3).toNat [0, 0, 0]).length ≤ 20 := h.2.2
    rw [List.length_append, List.length_replicate] at h2
    have := fm_ge cell (b := 3) (by decide)
    omega
  · exact .inr (key _ fun h => by have := h.1; omega)
  · exact .inr (key _ fun h => by have := h.2; omega)
  · exact .inl fun h => by have : (0 : Int) ≤ -1 - (cell / 60).fmod 9 := h.1.1; omega
  · exact .inl fun h => by have : 20 + (cell / 60).fmod 9 < 20 := h.1.2; omega
theorem spoilB_len {a : Int} {rows : List Row} {p : Nat} {way cell : Int} (hp : p < rows.length) : ∀ xs ∈ (spoilB a (rows.map rowZ) p way cell).2, xs.length ≤ 100 := by
  obtain ⟨e1, e2⟩ := row_at hp
  have h0 : ∀ xs ∈ rows.map rowZ, xs.length ≤ 100 := fun xs hx => by
    obtain ⟨r, _, rfl⟩ := List.mem_map.mp hx
    show 3 ≤ 100
    omega
  have hs : ∀ x : Int, ∀ xs ∈ (rows.map rowZ).set p (((rows.map rowZ).getD p []).set ((cell / 20).fmod 3).toNat x), xs.length ≤ 100 := fun x xs hx => by
    rcases List.mem_or_eq_of_mem_set hx with h | h
    · exact h0 xs h
    · rw [h, List.length_set, e2]
      show 3 ≤ 100
      omega
  unfold spoilB
  split
  · intro xs hx; cases hx
  split
  · intro xs hx
    rcases List.mem_append.mp hx with h | h
    · exact h0 xs h
    · rw [List.eq_of_mem_replicate h]; show 3 ≤ 100; omega
  split
  · exact hs _
  split
  · exact hs _
  split
  · exact h0
  split
  · exact h0
  · exact h0
def rSpoil5 (das : List Da) (d : Da) : Prop := ∃ (a : Int) (rows : List Row) (way cell : Int), das = [dI a, .pd (.list (rows.map rD)), dI way, dI cell] ∧ 1 ≤ rows.length ∧ rows.length ≤ 20 ∧ d = .pd (.tuple [.int (spoil5 a rows way cell).1, .list ((spoil5 a rows way cell).2.map rowI)])
def rKept (das : List Da) (d : Da) : Prop := ∃ (ns : List Int) (a : Int) (rows : List Row), das = [dS ns, dI a, .pd (.list (rows.map rD))] ∧ PlOk a rows ∧ d = dB true
def rRef5 (br bp : Addr) (ex : List Addr) (das : List Da) (d : Da) : Prop := ∃ (call : Int) (qs : List Rat) (r : Int × Int) (a : Int) (rows : List Row), das = [dI call, dT qs, dP r, .ple a rows] ∧ ∃ (A : Addr) (j : Nat), 0 ≤ call ∧ call ≤ 7 ∧ rXSee br bp [dT qs, dP r, .ple a rows] A ∧ (call = 7 → (qs.length : Int) < a + rows.length ∧ A = bp) ∧ ex[j]? = some A ∧ d = dI j
section
variable {C : Kx} {ds : List Sl} {te tb : TE} {W : WX} {R : DE}
/-- xs = xs + new, xs an own nested list -/
theorem sd_catN {i : Nat} {rs : List (List PyData)} {ys : List PyData} (hd : ds[i]? = some (.nl rs)) (hb : XL C tb (ds.set i (.va (.pd (.list (lds rs))))) ys) (hz : rs.length + ys.length ≤ 100000) (k : R.nx (ds.set i (.ow (lds rs ++ ys)))) : SD C W (tAsg (tOp rCat (tVar i) tb) (gName i)) ds R := fun G0 H0 G H σ D e kn kr ko kb kc kx => by
  obtain ⟨l, ls, z1, ow, e'⟩ := e.lendN hd
  have ex : Ex G (showL G H (l :: ls)) := ex_showL fun a m => (ow.c a m).2
  refine ⟨_, z1, hb G0 H0 _ H σ e' _ fun m ws G2 H2 s2 h1 h2 h3 r2 => ?_⟩
  have hrow := dpa_rows (as := l :: ls) (fun a h => List.mem_cons_of_mem _ h) (fun a h => (ow.c a h).2) ow.r
  have hls : ls.length = rs.length := Paired.length ow.r
  refine ⟨l, m, ls.map V.ref, ws, rfl, rfl, s2.h _ _ ow.o, h3, by rw [List.length_map, hls, dpa_len r2]; exact sz_of hz, fun p hp => kn _ _ G2 _ k (ex.trans s2.g) ?_⟩
  have h := e'.setO (i := i) (l := p) (vs := ls.map V.ref ++ ws) (xs := lds rs ++ ys) (G' := G2) (H' := upd H2 p (.lst (ls.map V.ref ++ ws))) ⟨s2.g, s2.h.trans (Ex.new hp), s2.s.trans (Ex.new hp), s2.n⟩ (fresh_back s2.h hp) (fresh_back s2.s hp) upd_same (dpa_app (dpAll_mono s2.g _ _ hrow) r2)
  rwa [List.set_set] at h
/-- isinstance(p, Pledge) -/
theorem xd_isP {n : Int} {r : List (Int × Int × Int)} (cl : Cls C.K C.P) (ha : PySem.W.findIn C.K (.ref C.P) "__class__" = some (some (.builtin "object.__class__"))) (hn : PySem.W.specialIn C.K (.builtin "object.__class__") "__get__" = some (some (.builtin "getset_descriptor.__get__"))) (ht : PySem.W.takesIn C.K (.builtin "object.__class__") = some true) (hm : PySem.W.mroIn C.K C.P (.type "object") = some true)
    (h : XD C te ds (.ple n r)) : XD C (tCB (rIsi C.K) (tCons te (tCons (tC (.ref C.P)) tNil))) ds (dB true) := fun G0 H0 G H σ e Q q =>
  h G0 H0 G H σ e _ fun v G1 H1 s1 r1 => by
    obtain ⟨a, dx, l, e1, e2, e3⟩ := r1
    subst e1
    exact ⟨_, _, _, _, true, rfl, .own C.P, .base (.ins (s1.s _ _ e2) cl ha hn ht hm), if_pos (beq_self_eq_true _), q _ G1 H1 s1 (Dp.bl true)⟩
end
theorem xn_is {C : Kx} {ds : List Sl} {te : TE} {rs rs' : List (List PyData)} (h : XN C te ds rs) (e : rs = rs') : XN C te ds rs' := e ▸ h
theorem not22 {a b c d : Prop} [Decidable a] [Decidable b] [Decidable c] [Decidable d] (h : ¬ ((a ∧ b) ∧ (c ∧ d))) : (!(decide a && decide b) || !(decide c && decide d)) = true := by
  by_cases ha : a <;> by_cases hb : b <;> by_cases hc : c <;> by_cases hd : d <;> simp_all
instance (c : Int) : Decidable (CoinOk c) := by unfold CoinOk; infer_instance
theorem coin_b (c : Int) : (!(decide (0 ≤ c) && decide (c ≤ 1000000))) = !decide (CoinOk c) := by
  by_cases h1 : 0 ≤ c
  · by_cases h2 : c ≤ 1000000
    · rw [decide_eq_true h1, decide_eq_true h2, decide_eq_true (show CoinOk c from ⟨h1, h2⟩)]
      rfl
    · rw [decide_eq_true h1, decide_eq_false h2, decide_eq_false (show ¬ CoinOk c from fun h => h2 h.2)]
      rfl
  · rw [decide_eq_false h1, decide_eq_false (show ¬ CoinOk c from fun h => h1 h.1)]
    rfl
theorem shaped_iz (xs : List Int) : SeqAt.shaped (.list (iz xs)) = true := shaped_map PyData.int 0 (by decide) (fun _ => by simp only [PyData.canLay0]) (fun _ => by simp only [PyData.depth]; omega) _
theorem set_iz {L : List (List Int)} {p j : Nat} {q : List Int} {x : Int} : lds ((L.map iz).set p ((iz q).set j (.int x))) = (L.set p (q.set j x)).map rowI := by
  have e : (iz q).set j (.int x) = iz (q.set j x) := by unfold iz; rw [List.map_set]
  rw [e, ← lds_ints, List.map_set]
theorem short_len {s : Int} (h : 2 ≤ s) : (((lch ((s - 2).toNat + 1)).map vq).length : Int) = s - 1 := by
  rw [List.length_map, lch_len (by omega)]
  omega
end Yp
set_option Elab.async false
set_option linter.all false
set_option pp.maxSteps 1500
set_option autoImplicit false
set_option maxRecDepth 100000
set_option maxHeartbeats 4000000
namespace Tx
open PySem PySem.Spec PyProof.Rows L2 Evl Yp

local macro_rules | `(tactic| walk_at "side") => `(tactic| first | assumption | omega | (constructor <;> omega) | exact cdiv_s (by decide) (by decide))
local macro_rules | `(tactic| walk_at "rd") => `(tactic| first
  | exact rd_add | exact rd_sub | exact rd_lt | exact rd_le | exact rd_gt | exact rd_ge
  | exact rd_ix0 | exact rd_ix1 | exact rd_r0 | exact rd_r1 | exact rd_r2
  | exact rd_eqI | exact rd_neI | exact rd_eqP | exact rd_neP
  | (refine' rd_mod ?_; walk_at "side")
  | (refine' rd_pow ?_; walk_at "side")
  | (refine' rd_mul ?_; walk_at "mul")
  | (refine' rd_div ?_; walk_at "side")
  | exact rd_ixT rfl | exact rd_ixL (by assumption) | exact rd_ixT (by assumption))
local macro_rules | `(tactic| walk_at "mul") => `(tactic| first | assumption | (refine' cmul_l ?_; first | assumption | (constructor <;> omega)) | (refine' cmul_r ?_; first | assumption | (constructor <;> omega)))
local macro_rules | `(tactic| walk_at "cd") => `(tactic| first | exact cd_lenL | exact cd_lenT | exact cd_abs | exact cd_min2 | exact cd_tupL | exact cd_tupT | exact cd_sum | exact cd_int1B)
local macro_rules | `(tactic| walk_at "ad") => `(tactic| first | exact ad_nil | (refine' ad_cons ?h1 ?h2; (case h1 => walk_at "xd"); (case h2 => walk_at "ad")))
local macro_rules | `(tactic| walk_at "ap") => `(tactic| first | exact ap_nil | (refine' ap_cons ?h1 ?h2; (case h1 => walk_at "xd"); (case h2 => walk_at "ap")))
local macro_rules | `(tactic| walk_at "xd") => `(tactic| first
  | exact xd_int | exact xd_bl | exact xd_non | exact xd_var rfl
  | (refine' xd_op ?h1 ?h2 ?h3; (case h1 => walk_at "xd"); (case h2 => walk_at "xd"); (case h3 => walk_at "rd"))
  | (refine' xd_un ?h1 ud_neg; (case h1 => walk_at "xd"))
  | (refine' xd_tup (hz := ?h2) ?h1; (case h1 => walk_at "ap"); (case h2 => exact Nat.le_of_ble_eq_true rfl))
  | (refine' xl_xd (xl_lst (hz := ?h2) ?h1); (case h1 => walk_at "ap"); (case h2 => exact Nat.le_of_ble_eq_true rfl))
  | (refine' xd_isII ?h1; (case h1 => walk_at "xd")) | (refine' xd_isIB ?h1; (case h1 => walk_at "xd")) | (refine' xd_isTT ?h1; (case h1 => walk_at "xd")) | (refine' xd_isLL ?h1; (case h1 => walk_at "xd"))
  | (refine' xd_cb ?h1 ?h2; (case h1 => walk_at "ad"); (case h2 => walk_at "cd"))
  | (refine' xd_call ?h1 ?h2; (case h1 => walk_at "ad"); (case h2 => walk_at "rl"))
  | (refine' xd_chances ?h0 ?h00 ?h1; (case h0 => assumption); (case h00 => assumption); (case h1 => walk_at "xd"))
  | (refine' xd_age ?h0 ?h00 ?h1; (case h0 => assumption); (case h00 => assumption); (case h1 => walk_at "xd"))
  | (refine' xd_rows ?h0 ?h00 ?h1; (case h0 => assumption); (case h00 => assumption); (case h1 => walk_at "xd"))
  | (refine' xd_methT ?h0 ?h1 ?h2 ?h3; (case h0 => decide +kernel); (case h1 => walk_at "xd"); (case h2 => walk_at "ad"); (case h3 => walk_at "rl"))
  | (refine' xd_make ?h1 ?h2; (case h1 => walk_at "ad"); (case h2 => walk_at "rl"))
  | (refine' xl_xd (xl_call ?h1 ?h2); (case h1 => walk_at "ad"); (case h2 => walk_at "rl"))
  | (refine' xl_xd (xl_cb ?h1 ?h2); (case h1 => walk_at "ad"); (case h2 => first | exact cl_listL | exact cl_listT))
  | (refine' xd_chain ?h1 ?h2 ?h3 (fun _ => ?h4) (fun _ => ?h5); (case h1 => walk_at "xd"); (case h2 => walk_at "xd"); (case h3 => walk_at "rd"); (case h4 => walk_at "xd"); (case h5 => walk_at "rd"))
  | (refine' xd_chain3 ?h1 ?h2 ?h3 (fun _ => ?h4) (fun _ => ?h5) (fun _ _ => ?h6) (fun _ _ => ?h7); (case h1 => walk_at "xd"); (case h2 => walk_at "xd"); (case h3 => walk_at "rd"); (case h4 => walk_at "xd"); (case h5 => walk_at "rd"); (case h6 => walk_at "xd"); (case h7 => walk_at "rd"))
  | (refine' xd_notV ?h1; (case h1 => walk_at "xd"))
  | (refine' xd_callS ?h1 ?h2; (case h1 => walk_at "ad"); (case h2 => walk_at "rl"))
  | (refine' xd_methS ?h0 ?h1 ?h2 ?h3; (case h0 => decide +kernel); (case h1 => walk_at "xd"); (case h2 => walk_at "ad"); (case h3 => walk_at "rl"))
  | (refine' xd_makeS ?h1 ?h2; (case h1 => walk_at "ad"); (case h2 => walk_at "rl"))
  | (refine' xl_xd (xl_callS ?h1 ?h2); (case h1 => walk_at "ad"); (case h2 => walk_at "rl"))
  | (refine' xd_isE ?h0 ?h1 ?h2; (case h0 => assumption); (case h1 => walk_at "xd"); (case h2 => assumption))
  | (refine' xd_isET ?h0 ?h1 ?h2; (case h0 => assumption); (case h1 => walk_at "xd"); (case h2 => assumption))
  | (refine' xd_countB ?h1 ?h2; (case h1 => rfl); (case h2 => walk_at "xd")))
local macro_rules | `(tactic| walk_at "xx") => `(tactic| first
  | (refine' xx_callS ?h1 ?h2; (case h1 => walk_at "ad"); (case h2 => walk_at "rl"))
  | (refine' xx_callSO ?h1 ?h2; (case h1 => walk_at "ad"); (case h2 => walk_at "rl"))
  | (refine' xx_methS ?h0 ?h1 ?h2 ?h3; (case h0 => decide +kernel); (case h1 => walk_at "xd"); (case h2 => walk_at "ad"); (case h3 => walk_at "rl"))
  | (refine' xx_makeS ?h1 ?h2; (case h1 => walk_at "ad"); (case h2 => walk_at "rl"))
  | (refine' xx_arg ?h1; (case h1 => walk_at "ax")))
local macro_rules | `(tactic| walk_at "ax") => `(tactic| first
  | (refine' ax_hd ?h1; (case h1 => walk_at "xx"))
  | (refine' ax_tl ?h1 ?h2; (case h1 => walk_at "xd"); (case h2 => walk_at "ax")))
local macro_rules | `(tactic| walk_at "rl") => `(tactic| assumption)
local macro_rules | `(tactic| walk_at "xt") => `(tactic| first
  | (refine' td_test ?h1; (case h1 => walk_at "xd"))
  | (refine' td_B ?h1; (case h1 => walk_at "xd"))
  | (refine' td_not ?h1; (case h1 => walk_at "xt"))
  | (refine' td_or ?h1 (fun _ => ?h2); (case h1 => walk_at "xt"); (case h2 => walk_at "xt"))
  | (refine' td_and ?h1 (fun _ => ?h2); (case h1 => walk_at "xt"); (case h2 => walk_at "xt")))
local macro_rules | `(tactic| walk_at "sx") => `(tactic| (refine' sd_seq (sd_asg (by walk_at "xd") ?_); dsimp only [List.set]))
def topS (i : Nat) : Stmt := PySem.Challenge.pw_yearpledge_k05_pledges.main.body.getD i (.Pass ⟨0, 0, 0, 0⟩)
abbrev s_Pledge_init : Stmt := inClass (topS 9) 0
abbrev N_Pledge_init : List Str := ["self", "age", "rows", "row", "coins"]
theorem S_Pledge_init : FnScope N_Pledge_init ["self", "age", "rows"] (defScope s_Pledge_init) := ⟨rfl, rfl, rfl, by decide +kernel, rfl, by decide +kernel, by decide +kernel⟩
abbrev s_Pledge_years : Stmt := inClass (topS 9) 1
abbrev N_Pledge_years : List Str := ["self"]
theorem S_Pledge_years : FnScope N_Pledge_years ["self"] (defScope s_Pledge_years) := ⟨rfl, rfl, rfl, by decide +kernel, rfl, by decide +kernel, by decide +kernel⟩
abbrev s_see_fits : Stmt := topS 10
abbrev N_see_fits : List Str := ["table", "pledge"]
theorem S_see_fits : FnScope N_see_fits ["table", "pledge"] (defScope s_see_fits) := ⟨rfl, rfl, rfl, by decide +kernel, rfl, by decide +kernel, by decide +kernel⟩
abbrev s_common : Stmt := topS 12
abbrev N_common : List Str := ["one", "other", "rest"]
theorem S_common : FnScope N_common ["one", "other"] (defScope s_common) := ⟨rfl, rfl, rfl, by decide +kernel, rfl, by decide +kernel, by decide +kernel⟩
abbrev s_part : Stmt := topS 13
abbrev N_part : List Str := ["top", "under", "by"]
theorem S_part : FnScope N_part ["top", "under"] (defScope s_part) := ⟨rfl, rfl, rfl, by decide +kernel, rfl, by decide +kernel, by decide +kernel⟩
abbrev s_plus : Stmt := topS 14
abbrev N_plus : List Str := ["one", "other"]
theorem S_plus : FnScope N_plus ["one", "other"] (defScope s_plus) := ⟨rfl, rfl, rfl, by decide +kernel, rfl, by decide +kernel, by decide +kernel⟩
abbrev s_less : Stmt := topS 15
abbrev N_less : List Str := ["one", "other"]
theorem S_less : FnScope N_less ["one", "other"] (defScope s_less) := ⟨rfl, rfl, rfl, by decide +kernel, rfl, by decide +kernel, by decide +kernel⟩
abbrev s_times : Stmt := topS 16
abbrev N_times : List Str := ["one", "other"]
theorem S_times : FnScope N_times ["one", "other"] (defScope s_times) := ⟨rfl, rfl, rfl, by decide +kernel, rfl, by decide +kernel, by decide +kernel⟩
abbrev s_over : Stmt := topS 17
abbrev N_over : List Str := ["one", "other"]
theorem S_over : FnScope N_over ["one", "other"] (defScope s_over) := ⟨rfl, rfl, rfl, by decide +kernel, rfl, by decide +kernel, by decide +kernel⟩
abbrev s_summed : Stmt := topS 18
abbrev N_summed : List Str := ["row", "total", "one"]
theorem S_summed : FnScope N_summed ["row"] (defScope s_summed) := ⟨rfl, rfl, rfl, by decide +kernel, rfl, by decide +kernel, by decide +kernel⟩
abbrev s_Table_init : Stmt := inClass (topS 21) 0
abbrev N_Table_init : List Str := ["self", "chances", "chance", "last", "one"]
theorem S_Table_init : FnScope N_Table_init ["self", "chances"] (defScope s_Table_init) := ⟨rfl, rfl, rfl, by decide +kernel, rfl, by decide +kernel, by decide +kernel⟩
abbrev s_Table_ages : Stmt := inClass (topS 21) 1
abbrev N_Table_ages : List Str := ["self"]
theorem S_Table_ages : FnScope N_Table_ages ["self"] (defScope s_Table_ages) := ⟨rfl, rfl, rfl, by decide +kernel, rfl, by decide +kernel, by decide +kernel⟩
abbrev s_Table_dies : Stmt := inClass (topS 21) 2
abbrev N_Table_dies : List Str := ["self", "age"]
theorem S_Table_dies : FnScope N_Table_dies ["self", "age"] (defScope s_Table_dies) := ⟨rfl, rfl, rfl, by decide +kernel, rfl, by decide +kernel, by decide +kernel⟩
abbrev s_Table_lives : Stmt := inClass (topS 21) 3
abbrev N_Table_lives : List Str := ["self", "age", "years", "chance", "k"]
theorem S_Table_lives : FnScope N_Table_lives ["self", "age", "years"] (defScope s_Table_lives) := ⟨rfl, rfl, rfl, by decide +kernel, rfl, by decide +kernel, by decide +kernel⟩
abbrev s_rate_of : Stmt := topS 22
abbrev N_rate_of : List Str := ["rate"]
theorem S_rate_of : FnScope N_rate_of ["rate"] (defScope s_rate_of) := ⟨rfl, rfl, rfl, by decide +kernel, rfl, by decide +kernel, by decide +kernel⟩
abbrev s_later : Stmt := topS 23
abbrev N_later : List Str := ["rate", "years", "worth", "k"]
theorem S_later : FnScope N_later ["rate", "years"] (defScope s_later) := ⟨rfl, rfl, rfl, by decide +kernel, rfl, by decide +kernel, by decide +kernel⟩
abbrev s_see : Stmt := topS 25
abbrev N_see : List Str := ["table", "rate", "pledge"]
theorem S_see : FnScope N_see ["table", "rate", "pledge"] (defScope s_see) := ⟨rfl, rfl, rfl, by decide +kernel, rfl, by decide +kernel, by decide +kernel⟩
abbrev s_outgo : Stmt := topS 26
abbrev N_outgo : List Str := ["table", "rate", "pledge", "worths", "k", "row", "lives", "dying"]
theorem S_outgo : FnScope N_outgo ["table", "rate", "pledge"] (defScope s_outgo) := ⟨rfl, rfl, rfl, by decide +kernel, rfl, by decide +kernel, by decide +kernel⟩
abbrev s_income : Stmt := topS 27
abbrev N_income : List Str := ["table", "rate", "pledge", "worths", "k", "row"]
theorem S_income : FnScope N_income ["table", "rate", "pledge"] (defScope s_income) := ⟨rfl, rfl, rfl, by decide +kernel, rfl, by decide +kernel, by decide +kernel⟩
abbrev s_see_year : Stmt := topS 28
abbrev N_see_year : List Str := ["table", "pledge", "year"]
theorem S_see_year : FnScope N_see_year ["table", "pledge", "year"] (defScope s_see_year) := ⟨rfl, rfl, rfl, by decide +kernel, rfl, by decide +kernel, by decide +kernel⟩
abbrev s_need : Stmt := topS 29
abbrev N_need : List Str := ["table", "rate", "pledge", "year", "worth", "k", "row", "dies", "behind"]
theorem S_need : FnScope N_need ["table", "rate", "pledge", "year"] (defScope s_need) := ⟨rfl, rfl, rfl, by decide +kernel, rfl, by decide +kernel, by decide +kernel⟩
abbrev s_held : Stmt := topS 30
abbrev N_held : List Str := ["table", "rate", "pledge", "year", "there", "k", "row", "dies", "grown"]
theorem S_held : FnScope N_held ["table", "rate", "pledge", "year"] (defScope s_held) := ⟨rfl, rfl, rfl, by decide +kernel, rfl, by decide +kernel, by decide +kernel⟩
abbrev s_fair_due : Stmt := topS 31
abbrev N_fair_due : List Str := ["table", "rate", "pledge", "worths", "k"]
theorem S_fair_due : FnScope N_fair_due ["table", "rate", "pledge"] (defScope s_fair_due) := ⟨rfl, rfl, rfl, by decide +kernel, rfl, by decide +kernel, by decide +kernel⟩
abbrev s_loss_at : Stmt := topS 32
abbrev N_loss_at : List Str := ["rate", "pledge", "years", "dead", "worths", "k", "row"]
theorem S_loss_at : FnScope N_loss_at ["rate", "pledge", "years", "dead"] (defScope s_loss_at) := ⟨rfl, rfl, rfl, by decide +kernel, rfl, by decide +kernel, by decide +kernel⟩
abbrev s_ends : Stmt := topS 33
abbrev N_ends : List Str := ["table", "rate", "pledge", "found", "k", "chance"]
theorem S_ends : FnScope N_ends ["table", "rate", "pledge"] (defScope s_ends) := ⟨rfl, rfl, rfl, by decide +kernel, rfl, by decide +kernel, by decide +kernel⟩
abbrev s_fewest : Stmt := topS 35
abbrev N_fewest : List Str := ["table", "pledge", "many", "k", "under"]
theorem S_fewest : FnScope N_fewest ["table", "pledge"] (defScope s_fewest) := ⟨rfl, rfl, rfl, by decide +kernel, rfl, by decide +kernel, by decide +kernel⟩
abbrev s_book : Stmt := topS 36
abbrev N_book : List Str := ["table", "rate", "pledge", "many", "money", "rows", "k", "row", "living", "left"]
theorem S_book : FnScope N_book ["table", "rate", "pledge", "many"] (defScope s_book) := ⟨rfl, rfl, rfl, by decide +kernel, rfl, by decide +kernel, by decide +kernel⟩
abbrev s_law_cell_at : Stmt := topS 38
abbrev N_law_cell_at : List Str := ["script", "k"]
theorem S_law_cell_at : FnScope N_law_cell_at ["script", "k"] (defScope s_law_cell_at) := ⟨rfl, rfl, rfl, by decide +kernel, rfl, by decide +kernel, by decide +kernel⟩
abbrev s_law_draw : Stmt := topS 39
abbrev N_law_draw : List Str := ["script", "k"]
theorem S_law_draw : FnScope N_law_draw ["script", "k"] (defScope s_law_draw) := ⟨rfl, rfl, rfl, by decide +kernel, rfl, by decide +kernel, by decide +kernel⟩
abbrev s_law_whole : Stmt := topS 40
abbrev N_law_whole : List Str := ["found"]
theorem S_law_whole : FnScope N_law_whole ["found"] (defScope s_law_whole) := ⟨rfl, rfl, rfl, by decide +kernel, rfl, by decide +kernel, by decide +kernel⟩
abbrev s_law_chances : Stmt := topS 45
abbrev N_law_chances : List Str := ["script", "mode", "many", "chances", "k", "under"]
theorem S_law_chances : FnScope N_law_chances ["script"] (defScope s_law_chances) := ⟨rfl, rfl, rfl, by decide +kernel, rfl, by decide +kernel, by decide +kernel⟩
abbrev s_law_rows : Stmt := topS 47
abbrev N_law_rows : List Str := ["script", "years", "rows", "k", "most", "j"]
theorem S_law_rows : FnScope N_law_rows ["script", "years"] (defScope s_law_rows) := ⟨rfl, rfl, rfl, by decide +kernel, rfl, by decide +kernel, by decide +kernel⟩
abbrev s_law_begin : Stmt := topS 48
abbrev N_law_begin : List Str := ["script", "ages", "age"]
theorem S_law_begin : FnScope N_law_begin ["script", "ages"] (defScope s_law_begin) := ⟨rfl, rfl, rfl, by decide +kernel, rfl, by decide +kernel, by decide +kernel⟩
abbrev s_law_alone : Stmt := topS 49
abbrev N_law_alone : List Str := ["e", "found"]
theorem S_law_alone : FnScope N_law_alone ["e"] (defScope s_law_alone) := ⟨rfl, rfl, rfl, by decide +kernel, rfl, by decide +kernel, by decide +kernel⟩
abbrev s_law_spoiled : Stmt := topS 50
abbrev N_law_spoiled : List Str := ["age", "rows", "way", "cell", "spoiled", "place", "row", "k"]
theorem S_law_spoiled : FnScope N_law_spoiled ["age", "rows", "way", "cell"] (defScope s_law_spoiled) := ⟨rfl, rfl, rfl, by decide +kernel, rfl, by decide +kernel, by decide +kernel⟩
abbrev s_law_made : Stmt := topS 51
abbrev N_law_made : List Str := ["age", "rows", "found", "e"]
theorem S_law_made : FnScope N_law_made ["age", "rows"] (defScope s_law_made) := ⟨rfl, rfl, rfl, by decide +kernel, rfl, by decide +kernel, by decide +kernel⟩
abbrev s_law_refused : Stmt := topS 52
abbrev N_law_refused : List Str := ["call", "table", "rate", "pledge", "found", "e"]
theorem S_law_refused : FnScope N_law_refused ["call", "table", "rate", "pledge"] (defScope s_law_refused) := ⟨rfl, rfl, rfl, by decide +kernel, rfl, by decide +kernel, by decide +kernel⟩
abbrev s_law_kept : Stmt := topS 53
abbrev N_law_kept : List Str := ["script", "age", "rows", "handed", "pledge", "row"]
theorem S_law_kept : FnScope N_law_kept ["script", "age", "rows"] (defScope s_law_kept) := ⟨rfl, rfl, rfl, by decide +kernel, rfl, by decide +kernel, by decide +kernel⟩
abbrev s_law : Stmt := topS 54
abbrev N_law : List Str := ["script", "chances", "begin", "rows", "cell", "spoiled", "found", "short", "call", "k"]
theorem S_law : FnScope N_law ["script"] (defScope s_law) := ⟨rfl, rfl, rfl, by decide +kernel, rfl, by decide +kernel, by decide +kernel⟩
structure Tp (K : PySem.W.Frag) (mg : Str → Option Value) where
  c_PledgeError : Addr
  c_BadTable : Addr
  c_BadRate : Addr
  c_BadPledge : Addr
  c_NoYear : Addr
  c_BadCount : Addr
  c_Pledge : Addr
  c_Table : Addr
  g_PledgeError : mg "PledgeError" = some (.ref c_PledgeError)
  x_PledgeError : PySem.W.excIn K c_PledgeError [.type "ValueError", .type "Exception", .type "BaseException", .type "object"] "ValueError.__new__" = true
  k_PledgeError : PySem.W.keepIn K (.ref c_PledgeError) = true
  bb_PledgeError : PySem.W.subIn K (.ref c_PledgeError) (.type "BaseException") = some true
  tt_PledgeError : PySem.W.typeIn K (.ref c_PledgeError) = some (.type "type")
  em_BadTable : PySem.W.exmOne K (.ref c_BadTable) (.ref c_PledgeError) = some true
  em_BadRate : PySem.W.exmOne K (.ref c_BadRate) (.ref c_PledgeError) = some true
  em_BadPledge : PySem.W.exmOne K (.ref c_BadPledge) (.ref c_PledgeError) = some true
  em_NoYear : PySem.W.exmOne K (.ref c_NoYear) (.ref c_PledgeError) = some true
  em_BadCount : PySem.W.exmOne K (.ref c_BadCount) (.ref c_PledgeError) = some true
  g_BadTable : mg "BadTable" = some (.ref c_BadTable)
  x_BadTable : PySem.W.excIn K c_BadTable [.type "ValueError", .type "Exception", .type "BaseException", .type "object"] "ValueError.__new__" = true
  k_BadTable : PySem.W.keepIn K (.ref c_BadTable) = true
  bb_BadTable : PySem.W.subIn K (.ref c_BadTable) (.type "BaseException") = some true
  tt_BadTable : PySem.W.typeIn K (.ref c_BadTable) = some (.type "type")
  ec_BadTable : ExcC K c_BadTable
  ki_BadTable_BadTable : PySem.W.kitOne K (.ref c_BadTable) (.ref c_BadTable) = some true
  ki_BadTable_BadRate : PySem.W.kitOne K (.ref c_BadTable) (.ref c_BadRate) = some false
  ki_BadTable_BadPledge : PySem.W.kitOne K (.ref c_BadTable) (.ref c_BadPledge) = some false
  ki_BadTable_NoYear : PySem.W.kitOne K (.ref c_BadTable) (.ref c_NoYear) = some false
  ki_BadTable_BadCount : PySem.W.kitOne K (.ref c_BadTable) (.ref c_BadCount) = some false
  ki_BadTable_PledgeError : PySem.W.kitOne K (.ref c_BadTable) (.ref c_PledgeError) = some true
  ki_BadTable_ValueError : PySem.W.kitOne K (.ref c_BadTable) (.type "ValueError") = some true
  g_BadRate : mg "BadRate" = some (.ref c_BadRate)
  x_BadRate : PySem.W.excIn K c_BadRate [.type "ValueError", .type "Exception", .type "BaseException", .type "object"] "ValueError.__new__" = true
  k_BadRate : PySem.W.keepIn K (.ref c_BadRate) = true
  bb_BadRate : PySem.W.subIn K (.ref c_BadRate) (.type "BaseException") = some true
  tt_BadRate : PySem.W.typeIn K (.ref c_BadRate) = some (.type "type")
  ec_BadRate : ExcC K c_BadRate
  ki_BadRate_BadTable : PySem.W.kitOne K (.ref c_BadRate) (.ref c_BadTable) = some false
  ki_BadRate_BadRate : PySem.W.kitOne K (.ref c_BadRate) (.ref c_BadRate) = some true
  ki_BadRate_BadPledge : PySem.W.kitOne K (.ref c_BadRate) (.ref c_BadPledge) = some false
  ki_BadRate_NoYear : PySem.W.kitOne K (.ref c_BadRate) (.ref c_NoYear) = some false
  ki_BadRate_BadCount : PySem.W.kitOne K (.ref c_BadRate) (.ref c_BadCount) = some false
  ki_BadRate_PledgeError : PySem.W.kitOne K (.ref c_BadRate) (.ref c_PledgeError) = some true
  ki_BadRate_ValueError : PySem.W.kitOne K (.ref c_BadRate) (.type "ValueError") = some true
  g_BadPledge : mg "BadPledge" = some (.ref c_BadPledge)
  x_BadPledge : PySem.W.excIn K c_BadPledge [.type "ValueError", .type "Exception", .type "BaseException", .type "object"] "ValueError.__new__" = true
  k_BadPledge : PySem.W.keepIn K (.ref c_BadPledge) = true
  bb_BadPledge : PySem.W.subIn K (.ref c_BadPledge) (.type "BaseException") = some true
  tt_BadPledge : PySem.W.typeIn K (.ref c_BadPledge) = some (.type "type")
  ec_BadPledge : ExcC K c_BadPledge
  ki_BadPledge_BadTable : PySem.W.kitOne K (.ref c_BadPledge) (.ref c_BadTable) = some false
  ki_BadPledge_BadRate : PySem.W.kitOne K (.ref c_BadPledge) (.ref c_BadRate) = some false
  ki_BadPledge_BadPledge : PySem.W.kitOne K (.ref c_BadPledge) (.ref c_BadPledge) = some true
  ki_BadPledge_NoYear : PySem.W.kitOne K (.ref c_BadPledge) (.ref c_NoYear) = some false
  ki_BadPledge_BadCount : PySem.W.kitOne K (.ref c_BadPledge) (.ref c_BadCount) = some false
  ki_BadPledge_PledgeError : PySem.W.kitOne K (.ref c_BadPledge) (.ref c_PledgeError) = some true
  ki_BadPledge_ValueError : PySem.W.kitOne K (.ref c_BadPledge) (.type "ValueError") = some true
  g_NoYear : mg "NoYear" = some (.ref c_NoYear)
  x_NoYear : PySem.W.excIn K c_NoYear [.type "ValueError", .type "Exception", .type "BaseException", .type "object"] "ValueError.__new__" = true
  k_NoYear : PySem.W.keepIn K (.ref c_NoYear) = true
  bb_NoYear : PySem.W.subIn K (.ref c_NoYear) (.type "BaseException") = some true
  tt_NoYear : PySem.W.typeIn K (.ref c_NoYear) = some (.type "type")
  ec_NoYear : ExcC K c_NoYear
  ki_NoYear_BadTable : PySem.W.kitOne K (.ref c_NoYear) (.ref c_BadTable) = some false
  ki_NoYear_BadRate : PySem.W.kitOne K (.ref c_NoYear) (.ref c_BadRate) = some false
  ki_NoYear_BadPledge : PySem.W.kitOne K (.ref c_NoYear) (.ref c_BadPledge) = some false
  ki_NoYear_NoYear : PySem.W.kitOne K (.ref c_NoYear) (.ref c_NoYear) = some true
  ki_NoYear_BadCount : PySem.W.kitOne K (.ref c_NoYear) (.ref c_BadCount) = some false
  ki_NoYear_PledgeError : PySem.W.kitOne K (.ref c_NoYear) (.ref c_PledgeError) = some true
  ki_NoYear_ValueError : PySem.W.kitOne K (.ref c_NoYear) (.type "ValueError") = some true
  g_BadCount : mg "BadCount" = some (.ref c_BadCount)
  x_BadCount : PySem.W.excIn K c_BadCount [.type "ValueError", .type "Exception", .type "BaseException", .type "object"] "ValueError.__new__" = true
  k_BadCount : PySem.W.keepIn K (.ref c_BadCount) = true
  bb_BadCount : PySem.W.subIn K (.ref c_BadCount) (.type "BaseException") = some true
  tt_BadCount : PySem.W.typeIn K (.ref c_BadCount) = some (.type "type")
  ec_BadCount : ExcC K c_BadCount
  ki_BadCount_BadTable : PySem.W.kitOne K (.ref c_BadCount) (.ref c_BadTable) = some false
  ki_BadCount_BadRate : PySem.W.kitOne K (.ref c_BadCount) (.ref c_BadRate) = some false
  ki_BadCount_BadPledge : PySem.W.kitOne K (.ref c_BadCount) (.ref c_BadPledge) = some false
  ki_BadCount_NoYear : PySem.W.kitOne K (.ref c_BadCount) (.ref c_NoYear) = some false
  ki_BadCount_BadCount : PySem.W.kitOne K (.ref c_BadCount) (.ref c_BadCount) = some true
  ki_BadCount_PledgeError : PySem.W.kitOne K (.ref c_BadCount) (.ref c_PledgeError) = some true
  ki_BadCount_ValueError : PySem.W.kitOne K (.ref c_BadCount) (.type "ValueError") = some true
  g_Pledge : mg "Pledge" = some (.ref c_Pledge)
  cl_Pledge : Cls K c_Pledge
  xa_Pledge : PySem.W.findIn K (.ref c_Pledge) "__class__" = some (some (.builtin "object.__class__"))
  xo_Pledge : PySem.W.mroIn K c_Pledge (.type "object") = some true
  ev_n : PySem.W.specialIn K (.builtin "object.__class__") "__get__" = some (some (.builtin "getset_descriptor.__get__"))
  ev_t : PySem.W.takesIn K (.builtin "object.__class__") = some true
  n_age : NoAttr K c_Pledge "age"
  n_rows : NoAttr K c_Pledge "rows"
  g_Table : mg "Table" = some (.ref c_Table)
  cl_Table : Cls K c_Table
  n_chances : NoAttr K c_Table "chances"
  f_Pledge_init : Addr
  d_Pledge_init : FuncData
  F_Pledge_init : Fun K "__init__" "Pledge.__init__" s_Pledge_init f_Pledge_init d_Pledge_init
  b_Pledge_init : Binds K d_Pledge_init ["self", "age", "rows"] []
  mk_Pledge : Mk K c_Pledge f_Pledge_init
  f_Pledge_years : Addr
  d_Pledge_years : FuncData
  F_Pledge_years : Fun K "years" "Pledge.years" s_Pledge_years f_Pledge_years d_Pledge_years
  b_Pledge_years : Binds K d_Pledge_years ["self"] []
  m_Pledge_years : Meth K c_Pledge "years" f_Pledge_years
  f_see_fits : Addr
  d_see_fits : FuncData
  F_see_fits : Fun K "see_fits" "see_fits" s_see_fits f_see_fits d_see_fits
  b_see_fits : Binds K d_see_fits ["table", "pledge"] []
  g_see_fits : mg "see_fits" = some (.ref f_see_fits)
  f_common : Addr
  d_common : FuncData
  F_common : Fun K "common" "common" s_common f_common d_common
  b_common : Binds K d_common ["one", "other"] []
  g_common : mg "common" = some (.ref f_common)
  f_part : Addr
  d_part : FuncData
  F_part : Fun K "part" "part" s_part f_part d_part
  b_part : Binds K d_part ["top", "under"] []
  g_part : mg "part" = some (.ref f_part)
  f_plus : Addr
  d_plus : FuncData
  F_plus : Fun K "plus" "plus" s_plus f_plus d_plus
  b_plus : Binds K d_plus ["one", "other"] []
  g_plus : mg "plus" = some (.ref f_plus)
  f_less : Addr
  d_less : FuncData
  F_less : Fun K "less" "less" s_less f_less d_less
  b_less : Binds K d_less ["one", "other"] []
  g_less : mg "less" = some (.ref f_less)
  f_times : Addr
  d_times : FuncData
  F_times : Fun K "times" "times" s_times f_times d_times
  b_times : Binds K d_times ["one", "other"] []
  g_times : mg "times" = some (.ref f_times)
  f_over : Addr
  d_over : FuncData
  F_over : Fun K "over" "over" s_over f_over d_over
  b_over : Binds K d_over ["one", "other"] []
  g_over : mg "over" = some (.ref f_over)
  f_summed : Addr
  d_summed : FuncData
  F_summed : Fun K "summed" "summed" s_summed f_summed d_summed
  b_summed : Binds K d_summed ["row"] []
  g_summed : mg "summed" = some (.ref f_summed)
  f_Table_init : Addr
  d_Table_init : FuncData
  F_Table_init : Fun K "__init__" "Table.__init__" s_Table_init f_Table_init d_Table_init
  b_Table_init : Binds K d_Table_init ["self", "chances"] []
  mk_Table : Mk K c_Table f_Table_init
  f_Table_ages : Addr
  d_Table_ages : FuncData
  F_Table_ages : Fun K "ages" "Table.ages" s_Table_ages f_Table_ages d_Table_ages
  b_Table_ages : Binds K d_Table_ages ["self"] []
  m_Table_ages : Meth K c_Table "ages" f_Table_ages
  f_Table_dies : Addr
  d_Table_dies : FuncData
  F_Table_dies : Fun K "dies" "Table.dies" s_Table_dies f_Table_dies d_Table_dies
  b_Table_dies : Binds K d_Table_dies ["self", "age"] []
  m_Table_dies : Meth K c_Table "dies" f_Table_dies
  f_Table_lives : Addr
  d_Table_lives : FuncData
  F_Table_lives : Fun K "lives" "Table.lives" s_Table_lives f_Table_lives d_Table_lives
  b_Table_lives : Binds K d_Table_lives ["self", "age", "years"] []
  m_Table_lives : Meth K c_Table "lives" f_Table_lives
  f_rate_of : Addr
  d_rate_of : FuncData
  F_rate_of : Fun K "rate_of" "rate_of" s_rate_of f_rate_of d_rate_of
  b_rate_of : Binds K d_rate_of ["rate"] []
  g_rate_of : mg "rate_of" = some (.ref f_rate_of)
  f_later : Addr
  d_later : FuncData
  F_later : Fun K "later" "later" s_later f_later d_later
  b_later : Binds K d_later ["rate", "years"] []
  g_later : mg "later" = some (.ref f_later)
  f_see : Addr
  d_see : FuncData
  F_see : Fun K "see" "see" s_see f_see d_see
  b_see : Binds K d_see ["table", "rate", "pledge"] []
  g_see : mg "see" = some (.ref f_see)
  f_outgo : Addr
  d_outgo : FuncData
  F_outgo : Fun K "outgo" "outgo" s_outgo f_outgo d_outgo
  b_outgo : Binds K d_outgo ["table", "rate", "pledge"] []
  g_outgo : mg "outgo" = some (.ref f_outgo)
  f_income : Addr
  d_income : FuncData
  F_income : Fun K "income" "income" s_income f_income d_income
  b_income : Binds K d_income ["table", "rate", "pledge"] []
  g_income : mg "income" = some (.ref f_income)
  f_see_year : Addr
  d_see_year : FuncData
  F_see_year : Fun K "see_year" "see_year" s_see_year f_see_year d_see_year
  b_see_year : Binds K d_see_year ["table", "pledge", "year"] []
  g_see_year : mg "see_year" = some (.ref f_see_year)
  f_need : Addr
  d_need : FuncData
  F_need : Fun K "need" "need" s_need f_need d_need
  b_need : Binds K d_need ["table", "rate", "pledge", "year"] []
  g_need : mg "need" = some (.ref f_need)
  f_held : Addr
  d_held : FuncData
  F_held : Fun K "held" "held" s_held f_held d_held
  b_held : Binds K d_held ["table", "rate", "pledge", "year"] []
  g_held : mg "held" = some (.ref f_held)
  f_fair_due : Addr
  d_fair_due : FuncData
  F_fair_due : Fun K "fair_due" "fair_due" s_fair_due f_fair_due d_fair_due
  b_fair_due : Binds K d_fair_due ["table", "rate", "pledge"] []
  g_fair_due : mg "fair_due" = some (.ref f_fair_due)
  f_loss_at : Addr
  d_loss_at : FuncData
  F_loss_at : Fun K "loss_at" "loss_at" s_loss_at f_loss_at d_loss_at
  b_loss_at : Binds K d_loss_at ["rate", "pledge", "years", "dead"] []
  g_loss_at : mg "loss_at" = some (.ref f_loss_at)
  f_ends : Addr
  d_ends : FuncData
  F_ends : Fun K "ends" "ends" s_ends f_ends d_ends
  b_ends : Binds K d_ends ["table", "rate", "pledge"] []
  g_ends : mg "ends" = some (.ref f_ends)
  f_fewest : Addr
  d_fewest : FuncData
  F_fewest : Fun K "fewest" "fewest" s_fewest f_fewest d_fewest
  b_fewest : Binds K d_fewest ["table", "pledge"] []
  g_fewest : mg "fewest" = some (.ref f_fewest)
  f_book : Addr
  d_book : FuncData
  F_book : Fun K "book" "book" s_book f_book d_book
  b_book : Binds K d_book ["table", "rate", "pledge", "many"] []
  g_book : mg "book" = some (.ref f_book)
  f_law_cell_at : Addr
  d_law_cell_at : FuncData
  F_law_cell_at : Fun K "_law_cell_at" "_law_cell_at" s_law_cell_at f_law_cell_at d_law_cell_at
  b_law_cell_at : Binds K d_law_cell_at ["script", "k"] []
  g_law_cell_at : mg "_law_cell_at" = some (.ref f_law_cell_at)
  f_law_draw : Addr
  d_law_draw : FuncData
  F_law_draw : Fun K "_law_draw" "_law_draw" s_law_draw f_law_draw d_law_draw
  b_law_draw : Binds K d_law_draw ["script", "k"] []
  g_law_draw : mg "_law_draw" = some (.ref f_law_draw)
  f_law_whole : Addr
  d_law_whole : FuncData
  F_law_whole : Fun K "_law_whole" "_law_whole" s_law_whole f_law_whole d_law_whole
  b_law_whole : Binds K d_law_whole ["found"] []
  g_law_whole : mg "_law_whole" = some (.ref f_law_whole)
  f_law_chances : Addr
  d_law_chances : FuncData
  F_law_chances : Fun K "_law_chances" "_law_chances" s_law_chances f_law_chances d_law_chances
  b_law_chances : Binds K d_law_chances ["script"] []
  g_law_chances : mg "_law_chances" = some (.ref f_law_chances)
  f_law_rows : Addr
  d_law_rows : FuncData
  F_law_rows : Fun K "_law_rows" "_law_rows" s_law_rows f_law_rows d_law_rows
  b_law_rows : Binds K d_law_rows ["script", "years"] []
  g_law_rows : mg "_law_rows" = some (.ref f_law_rows)
  f_law_begin : Addr
  d_law_begin : FuncData
  F_law_begin : Fun K "_law_begin" "_law_begin" s_law_begin f_law_begin d_law_begin
  b_law_begin : Binds K d_law_begin ["script", "ages"] []
  g_law_begin : mg "_law_begin" = some (.ref f_law_begin)
  f_law_alone : Addr
  d_law_alone : FuncData
  F_law_alone : Fun K "_law_alone" "_law_alone" s_law_alone f_law_alone d_law_alone
  b_law_alone : Binds K d_law_alone ["e"] []
  g_law_alone : mg "_law_alone" = some (.ref f_law_alone)
  f_law_spoiled : Addr
  d_law_spoiled : FuncData
  F_law_spoiled : Fun K "_law_spoiled" "_law_spoiled" s_law_spoiled f_law_spoiled d_law_spoiled
  b_law_spoiled : Binds K d_law_spoiled ["age", "rows", "way", "cell"] []
  g_law_spoiled : mg "_law_spoiled" = some (.ref f_law_spoiled)
  f_law_made : Addr
  d_law_made : FuncData
  F_law_made : Fun K "_law_made" "_law_made" s_law_made f_law_made d_law_made
  b_law_made : Binds K d_law_made ["age", "rows"] []
  g_law_made : mg "_law_made" = some (.ref f_law_made)
  f_law_refused : Addr
  d_law_refused : FuncData
  F_law_refused : Fun K "_law_refused" "_law_refused" s_law_refused f_law_refused d_law_refused
  b_law_refused : Binds K d_law_refused ["call", "table", "rate", "pledge"] []
  g_law_refused : mg "_law_refused" = some (.ref f_law_refused)
  f_law_kept : Addr
  d_law_kept : FuncData
  F_law_kept : Fun K "_law_kept" "_law_kept" s_law_kept f_law_kept d_law_kept
  b_law_kept : Binds K d_law_kept ["script", "age", "rows"] []
  g_law_kept : mg "_law_kept" = some (.ref f_law_kept)
  f_law : Addr
  d_law : FuncData
  F_law : Fun K "law" "law" s_law f_law d_law
  b_law : Binds K d_law ["script"] []
  g_law : mg "law" = some (.ref f_law)
  t_COINS : Tok
  g_COINS : mg "COINS" = some (.int 1000000 t_COINS)
  t_MOST : Tok
  g_MOST : mg "MOST" = some (.int 10000 t_MOST)
  z_ValueError : mg "ValueError" = none
  z_abs : mg "abs" = none
  z_bool : mg "bool" = none
  z_enumerate : mg "enumerate" = none
  z_int : mg "int" = none
  z_isinstance : mg "isinstance" = none
  z_len : mg "len" = none
  z_list : mg "list" = none
  z_min : mg "min" = none
  z_range : mg "range" = none
  z_tuple : mg "tuple" = none
abbrev Tp.C {K : PySem.W.Frag} {mg : Str → Option Value} (T : Tp K mg) : Kx := ⟨K, T.c_Table, T.c_Pledge⟩
abbrev Tp.ex {K : PySem.W.Frag} {mg : Str → Option Value} (T : Tp K mg) : List Addr := [T.c_BadTable, T.c_BadRate, T.c_BadPledge, T.c_NoYear, T.c_BadCount]
theorem Tp.em {K : PySem.W.Frag} {mg : Str → Option Value} (T : Tp K mg) {j : Nat} {A : Addr} (h : T.ex[j]? = some A) : PySem.W.exmOne T.C.K (.ref A) (.ref T.c_PledgeError) = some true := by
  match j, h with
  | 0, h => cases h; exact T.em_BadTable
  | 1, h => cases h; exact T.em_BadRate
  | 2, h => cases h; exact T.em_BadPledge
  | 3, h => cases h; exact T.em_NoYear
  | 4, h => cases h; exact T.em_BadCount
  | j + 5, h => cases h
theorem ok_Pledge_init {P : Program} {w : World} {K : PySem.W.Frag} {mg : Str → Option Value} {base : Heap} (T : Tp K mg) : FnOk P w K mg base CX0 1 T.f_Pledge_init T.d_Pledge_init ["self", "age", "rows"] (spI T.C T.c_Pledge rPleMk) := by
  have cl_T : Cls T.C.K T.C.T := T.cl_Table
  have n_ch : NoAttr T.C.K T.C.T "chances" := T.n_chances
  have cl_P : Cls T.C.K T.C.P := T.cl_Pledge
  have n_age : NoAttr T.C.K T.C.P "age" := T.n_age
  have n_rows : NoAttr T.C.K T.C.P "rows" := T.n_rows
  refine fn_si (C := T.C) (A0 := T.c_Pledge) T.F_Pledge_init S_Pledge_init (by decide) (by intro _ _ h; first | (obtain ⟨_, rfl, _⟩ := h; rfl) | (obtain ⟨_, _, rfl, _⟩ := h; rfl) | (obtain ⟨_, _, _, rfl, _⟩ := h; rfl) | (obtain ⟨_, _, _, _, rfl, _⟩ := h; rfl) | (obtain ⟨_, _, _, _, _, rfl, _⟩ := h; rfl) | (obtain ⟨_, _, _, _, _, _, rfl, _⟩ := h; rfl) | (obtain ⟨_, _, _, _, _, _, _, rfl, _⟩ := h; rfl) | (obtain ⟨_, _, _, _, _, _, _, _, rfl, _⟩ := h; rfl) | (obtain ⟨_, _, _, _, _, _, _, _, _, rfl, _⟩ := h; rfl)) fun cdv A outer s H E hr => ⟨_, (pss_cons (ps_if (PW.pt (pw_or (pt_not (pt_chain op_le op_lt pe_int (pv 1) pe_int)) (pw_or1 (pt_not (pt_chain op_le op_le pe_int (pe_callB (r := rLenS T.C.K) call_len_seq (by rfl) T.z_len (by decide +kernel) (pa_cons (pv 2) pa_nil)) pe_int))))) (pss_one ps_never) pss_nil)
      (pss_cons (ps_for PassesOwn.never rfl (pi_list (pv 2)) (pg_name (i := 3) S_Pledge_init.nd rfl (Or.inl rfl)) (pss_one (ps_if (pt_cmpR (r := rNeD T.C.K) (op_neD hr.units) (pe_lc (own := [("coins", 4)]) (g := gName 4) rfl S_Pledge_init.nd (pi_or (pi_list (pv 3)) (pi_tup (pv 3))) (blkOk_by (own := [("coins", 4)]) (N := N_Pledge_init) (sc := defScope s_Pledge_init) (by decide +kernel)) (fun _ _ _ _ _ => pg_name (i := 4) S_Pledge_init.nd rfl (Or.inl rfl)) (fun _ _ _ _ _ => (pts_one (pt_not (pt_chain op_le op_le pe_int (pv 4) (pe_glob (v := .int 1000000) rfl T.g_COINS ⟨_, rfl⟩))))) (fun _ _ _ _ _ => (pv 4))) (pe_lst pa_nil) (nomark _)) (pss_one ps_never) pss_nil)))
      (pss_cons (ps_fld (pv 0) (pv 1) rfl)
      (pss_one (ps_fld (pv 0) (pe_lc (own := [("row", 3)]) (g := gName 3) (tt := tYes) rfl S_Pledge_init.nd (pi_list (pv 2)) (blkOk_by (own := [("row", 3)]) (N := N_Pledge_init) (sc := defScope s_Pledge_init) (by decide +kernel)) (fun _ _ _ _ _ => pg_name (i := 3) S_Pledge_init.nd rfl (Or.inl rfl)) (fun _ _ _ _ _ => pts_nil) (fun _ _ _ _ _ => (pe_callTy (r := rTupS T.C.K) call_tuple_of (by rfl) T.z_tuple (by decide +kernel) (pa_cons (pv 3) pa_nil)))) rfl))))), ?_⟩
  rintro _ _ x ⟨n, rows, f, rfl, hf, hp, rfl⟩
  change SD _ _ _ [.ob T.c_Pledge x [], .va (dI n), .va (.pd (.list (rows.map f))), .un, .un] _
  obtain ⟨g1, g2, g3, g4, g5⟩ := id hp
  refine sd_seq (sd_if (b := false) (td_is (by walk_at "xt") ?_) (fun hb => absurd hb (by decide)) (fun _ => sd_next ?_))
  · rw [List.length_map, decide_eq_true g1, decide_eq_true g2, decide_eq_true (show (1 : Int) ≤ (rows.length : Int) by omega), decide_eq_true (show (rows.length : Int) ≤ 20 by omega)]
    rfl
  have hids : ∀ (r : Yp.Row) (ds : List Sl), ds[3]? = some (.va (.pd (f r))) → ID T.C (iOr (iList T.C.K (tVar 3)) (iTup T.C.K (tVar 3))) ds ([r.1, r.2.1, r.2.2].map PyData.int) := fun r ds hd => by
    rcases hf with rfl | rfl
    · exact id_orR (id_tup (xd_var hd))
    · exact id_orL (id_list (xd_var hd))
  refine sd_seq (sd_for rows f (id_list (xd_var rfl)) (fun i ds1 => ∃ z, NoOb z ∧ ds1 = [.ob T.c_Pledge x [], .va (dI n), .va (.pd (.list (rows.map f))), z, .un]) ⟨_, noOb_un, rfl⟩ ?_ ?_)
  · rintro i r ds1 hi ⟨z, _, rfl⟩
    refine ⟨_, gd_name, ?_⟩
    dsimp only [List.set]
    obtain ⟨k1, k2, k3⟩ := hp.ok r (getE_mem hi)
    refine sd_if (b := false) (td_test (xd_op (a := .pd (.list [])) (xl_xd ?_) (xl_xd (xl_lst ap_nil (by decide))) (rd_is (rd_neSelf (d := .list []) rfl) rfl))) (fun hb => absurd hb (by decide)) (fun _ => sd_next ⟨_, noOb_va, rfl⟩)
    have e : ([] : List PyData) = (([r.1, r.2.1, r.2.2].filter (fun c => !(decide (0 ≤ c) && decide (c ≤ 1000000))))).map PyData.int := by
      have z : ∀ c : Int, CoinOk c → (!(decide (0 ≤ c) && decide (c ≤ 1000000))) = false := fun c hc => by rw [decide_eq_true hc.1, decide_eq_true hc.2]; rfl
      rw [List.filter_cons, z _ k1, List.filter_cons, z _ k2, List.filter_cons, z _ k3]
      rfl
    rw [e]
    exact xl_lcI [r.1, r.2.1, r.2.2] PyData.int PyData.int _ rfl (by show 3 < 50000; decide) (hids r _ rfl) (fun c hc => by walk_at "xt") (fun c hc _ => xd_var rfl)
  rintro _ ⟨z, hz, rfl⟩
  have only1 : ∀ fs, OnlyOb [.ob T.c_Pledge x fs, .va (dI n), .va (.pd (.list (rows.map f))), z, .un] 0 := fun fs j A' x' fs' h => by
    match j, h with
    | 0, _ => rfl
    | 1, h => cases h
    | 2, h => cases h
    | 3, h => exact absurd (Option.some.inj h) (hz _ _ _)
    | 4, h => cases h
    | n + 5, h => cases h
  refine sd_seq (sd_fldI rfl T.cl_Pledge T.n_age (by decide) (by walk_at "xd") (fun q hq => absurd hq (by simp)) (only1 _) ?_)
  dsimp only [List.set]
  refine sd_fldL rfl T.cl_Pledge T.n_rows (by show 1 < 1000; decide) (xl_lc rows f rD rfl (by omega) (id_list (xd_var rfl)) ?_) (fun q hq => ?_) (only1 _) ?_
  · intro r hr
    rcases hf with rfl | rfl
    · exact xd_cb (ad_cons (xd_var rfl) ad_nil) cd_tupT
    · exact xd_cb (ad_cons (xd_var rfl) ad_nil) cd_tupL
  · have e : q = (("age" : Str), PyData.int n) := by simpa using hq
    rw [e]
    show ("age" : Str) ≠ "rows"
    decide +kernel
  · exact ⟨_, rfl, .inr ⟨_, _, rfl, rfl, rfl⟩⟩
theorem okx_Pledge_init {P : Program} {w : World} {K : PySem.W.Frag} {mg : Str → Option Value} {base : Heap} (T : Tp K mg) : FnOk P w K mg base (L2.CX P w) 1 T.f_Pledge_init T.d_Pledge_init ["self", "age", "rows"] (spIE T.C T.c_Pledge (rXPle T.c_BadPledge)) := by
  have cl_T : Cls T.C.K T.C.T := T.cl_Table
  have n_ch : NoAttr T.C.K T.C.T "chances" := T.n_chances
  have cl_P : Cls T.C.K T.C.P := T.cl_Pledge
  have n_age : NoAttr T.C.K T.C.P "age" := T.n_age
  have n_rows : NoAttr T.C.K T.C.P "rows" := T.n_rows
  refine fn_sxI (C := T.C) (A0 := T.c_Pledge) T.F_Pledge_init S_Pledge_init (by decide) (by intro _ _ h; first | (obtain ⟨_, rfl, _⟩ := h; rfl) | (obtain ⟨_, _, rfl, _⟩ := h; rfl) | (obtain ⟨_, _, _, rfl, _⟩ := h; rfl) | (obtain ⟨_, _, _, _, rfl, _⟩ := h; rfl) | (obtain ⟨_, _, _, _, _, rfl, _⟩ := h; rfl) | (obtain ⟨_, _, _, _, _, _, rfl, _⟩ := h; rfl) | (obtain ⟨_, _, _, _, _, _, _, rfl, _⟩ := h; rfl) | (obtain ⟨_, _, _, _, _, _, _, _, rfl, _⟩ := h; rfl) | (obtain ⟨_, _, _, _, _, _, _, _, _, rfl, _⟩ := h; rfl)) fun cdv A outer s H E hr => ⟨_, (pss_cons (ps_if (PW.pt (pw_or (pt_not (pt_chain op_le op_lt pe_int (pv 1) pe_int)) (pw_or1 (pt_not (pt_chain op_le op_le pe_int (pe_callB (r := rLenS T.C.K) call_len_seq (by rfl) T.z_len (by decide +kernel) (pa_cons (pv 2) pa_nil)) pe_int))))) (pss_one (ps_raise rfl (takes_of rfl rfl rfl rfl) (pmk_own PySem.F.excBase_ValueError T.x_BadPledge T.g_BadPledge T.k_BadPledge (raises_own T.bb_BadPledge T.tt_BadPledge) (by rfl)))) pss_nil)
      (pss_cons (ps_for (passes_of rfl) rfl (pi_list (pv 2)) (pg_name (i := 3) S_Pledge_init.nd rfl (Or.inl rfl)) (pss_one (ps_if (pt_cmpR (r := rNeD T.C.K) (op_neD hr.units) (pe_lc (own := [("coins", 4)]) (g := gName 4) rfl S_Pledge_init.nd (pi_or (pi_list (pv 3)) (pi_tup (pv 3))) (blkOk_by (own := [("coins", 4)]) (N := N_Pledge_init) (sc := defScope s_Pledge_init) (by decide +kernel)) (fun _ _ _ _ _ => pg_name (i := 4) S_Pledge_init.nd rfl (Or.inl rfl)) (fun _ _ _ _ _ => (pts_one (pt_not (pt_chain op_le op_le pe_int (pv 4) (pe_glob (v := .int 1000000) rfl T.g_COINS ⟨_, rfl⟩))))) (fun _ _ _ _ _ => (pv 4))) (pe_lst pa_nil) (nomark _)) (pss_one (ps_raise rfl (takes_of rfl rfl rfl rfl) (pmk_own PySem.F.excBase_ValueError T.x_BadPledge T.g_BadPledge T.k_BadPledge (raises_own T.bb_BadPledge T.tt_BadPledge) (by rfl)))) pss_nil)))
      (PSs.nox (pss_cons (ps_fld (pv 0) (pv 1) rfl)
      (pss_one (ps_fld (pv 0) (pe_lc (own := [("row", 3)]) (g := gName 3) (tt := tYes) rfl S_Pledge_init.nd (pi_list (pv 2)) (blkOk_by (own := [("row", 3)]) (N := N_Pledge_init) (sc := defScope s_Pledge_init) (by decide +kernel)) (fun _ _ _ _ _ => pg_name (i := 3) S_Pledge_init.nd rfl (Or.inl rfl)) (fun _ _ _ _ _ => pts_nil) (fun _ _ _ _ _ => (pe_callTy (r := rTupS T.C.K) call_tuple_of (by rfl) T.z_tuple (by decide +kernel) (pa_cons (pv 3) pa_nil)))) rfl)))))), ?_⟩
  rintro _ _ x ⟨a, L, rfl, hlen, hbad, rfl⟩
  change SD _ _ _ [.ob T.c_Pledge x [], .va (dI a), .va (.pd (.list (L.map rowI))), .un, .un] _
  by_cases hl : ¬ ((0 ≤ a ∧ a < 20) ∧ (1 ≤ L.length ∧ L.length ≤ 20))
  · refine sd_seq (sd_if (b := true) (td_is (by walk_at "xt") ?_) (fun _ => sd_raise (A := T.c_BadPledge) rfl) (fun hb => absurd hb (by decide)))
    rw [List.length_map]
    exact not22 (by omega)
  obtain ⟨⟨h1, h2⟩, h3, h4⟩ := Decidable.not_not.mp hl
  refine sd_seq (sd_if (b := false) (td_is (by walk_at "xt") ?_) (fun hb => absurd hb (by decide)) (fun _ => sd_next ?_))
  · rw [List.length_map, decide_eq_true h1, decide_eq_true h2, decide_eq_true (show (1 : Int) ≤ (L.length : Int) by omega), decide_eq_true (show (L.length : Int) ≤ 20 by omega)]
    rfl
  refine sd_seq (sd_for L rowI (id_list (xd_var rfl)) (fun i ds1 => (∀ (j : Nat) (xs : List Int), j < i → L[j]? = some xs → ∀ c ∈ xs, CoinOk c) ∧ ∃ z, ds1 = [.ob T.c_Pledge x [], .va (dI a), .va (.pd (.list (L.map rowI))), z, .un]) ⟨fun j p hj _ => absurd hj (by omega), _, rfl⟩ ?_ ?_)
  · rintro i xs ds1 hi ⟨hok, z, rfl⟩
    refine ⟨_, gd_name, ?_⟩
    dsimp only [List.set]
    have hxl := hlen xs (getE_mem hi)
    have hids : ID T.C (iOr (iList T.C.K (tVar 3)) (iTup T.C.K (tVar 3))) [.ob T.c_Pledge x [], .va (dI a), .va (.pd (.list (L.map rowI))), .va (.pd (rowI xs)), .un] (xs.map PyData.int) := id_orL (id_list (xd_var rfl))
    by_cases hp : ∀ c ∈ xs, CoinOk c
    · refine sd_if (b := false) (td_test (xd_op (a := .pd (.list [])) (xl_xd ?_) (xl_xd (xl_lst ap_nil (by decide))) (rd_is (rd_neSelf (d := .list []) rfl) rfl))) (fun hb => absurd hb (by decide)) (fun _ => sd_next ⟨fun j q hj hq => ?_, _, rfl⟩)
      · have e : ([] : List PyData) = (xs.filter (fun c => !(decide (0 ≤ c) && decide (c ≤ 1000000)))).map PyData.int := by
          rw [List.filter_eq_nil_iff.mpr fun c hc => by rw [coin_b, decide_eq_true (hp c hc)]; decide]
          rfl
        rw [e]
        exact xl_lcI xs PyData.int PyData.int _ rfl (by omega) hids (fun c hc => by walk_at "xt") (fun c hc _ => xd_var rfl)
      · by_cases hji : j < i
        · exact hok j q hji hq
        · have e : j = i := by omega
          subst e
          rw [hi] at hq
          cases hq
          exact hp
    · obtain ⟨y, ys, hys⟩ : ∃ y ys, xs.filter (fun c => !(decide (0 ≤ c) && decide (c ≤ 1000000))) = y :: ys := by
        cases e : xs.filter (fun c => !(decide (0 ≤ c) && decide (c ≤ 1000000))) with
        | nil =>
          refine absurd (fun c hc => ?_) hp
          have h := List.filter_eq_nil_iff.mp e c hc
          rw [coin_b] at h
          simpa using h
        | cons y ys => exact ⟨y, ys, rfl⟩
      refine sd_if (b := true) (td_test (xd_op (a := .pd (.list ((xs.filter (fun c => !(decide (0 ≤ c) && decide (c ≤ 1000000)))).map PyData.int))) (xl_xd (xl_lcI xs PyData.int PyData.int _ rfl (by omega) hids (fun c hc => by walk_at "xt") (fun c hc _ => xd_var rfl))) (xl_xd (xl_lst ap_nil (by decide))) (rd_is (rd_neD (shaped_iz _) rfl) ?_))) (fun _ => sd_raise (A := T.c_BadPledge) rfl) (fun hb => absurd hb (by decide))
      rw [hys, List.map_cons, eqv_ne_nil]
      rfl
  · rintro ds1 ⟨hok, z, rfl⟩
    refine absurd hbad fun hb => ?_
    rcases hb with h | ⟨xs, hx, c, hc, h⟩
    · exact h ⟨⟨h1, h2⟩, h3, h4⟩
    · obtain ⟨j, hj⟩ := List.getElem?_of_mem hx
      exact h (hok j xs (List.getElem?_eq_some_iff.mp hj).1 hj c hc)
theorem okb_Pledge_init {P : Program} {w : World} {K : PySem.W.Frag} {mg : Str → Option Value} {base : Heap} (T : Tp K mg) : FnOk P w K mg base (L2.CX P w) 1 T.f_Pledge_init T.d_Pledge_init ["self", "age", "rows"] (spIB T.C T.c_Pledge rPleMk (rXPle T.c_BadPledge)) := fn_or (C := T.C) (fn_up (C := T.C) (ok_Pledge_init T)) (okx_Pledge_init T)
theorem ok_Pledge_years {P : Program} {w : World} {K : PySem.W.Frag} {mg : Str → Option Value} {base : Heap} (T : Tp K mg) : FnOk P w K mg base CX0 1 T.f_Pledge_years T.d_Pledge_years ["self"] (spR T.C rYears) := by
  have cl_T : Cls T.C.K T.C.T := T.cl_Table
  have n_ch : NoAttr T.C.K T.C.T "chances" := T.n_chances
  have cl_P : Cls T.C.K T.C.P := T.cl_Pledge
  have n_age : NoAttr T.C.K T.C.P "age" := T.n_age
  have n_rows : NoAttr T.C.K T.C.P "rows" := T.n_rows
  refine fn_sd (C := T.C) T.F_Pledge_years S_Pledge_years (by intro _ _ h; first | (obtain ⟨_, rfl, _⟩ := h; rfl) | (obtain ⟨_, _, rfl, _⟩ := h; rfl) | (obtain ⟨_, _, _, rfl, _⟩ := h; rfl) | (obtain ⟨_, _, _, _, rfl, _⟩ := h; rfl) | (obtain ⟨_, _, _, _, _, rfl, _⟩ := h; rfl) | (obtain ⟨_, _, _, _, _, _, rfl, _⟩ := h; rfl) | (obtain ⟨_, _, _, _, _, _, _, rfl, _⟩ := h; rfl) | (obtain ⟨_, _, _, _, _, _, _, _, rfl, _⟩ := h; rfl) | (obtain ⟨_, _, _, _, _, _, _, _, _, rfl, _⟩ := h; rfl)) fun cdv A outer s H E hr => ⟨_, (pss_one (ps_ret (pe_callB (r := rLenS T.C.K) call_len_seq (by rfl) T.z_len (by decide +kernel) (pa_cons (pe_fld (pv 0) rfl) pa_nil)))), ?_⟩
  rintro _ _ ⟨n, rows, rfl, rfl⟩
  change SD _ _ _ [.va (.ple n rows)] _
  refine sd_ret (by walk_at "xd") ?_
  show dI _ = dI _
  rw [List.length_map]
theorem ok_common {P : Program} {w : World} {K : PySem.W.Frag} {mg : Str → Option Value} {base : Heap} (T : Tp K mg) : FnOk P w K mg base CX0 1 T.f_common T.d_common ["one", "other"] (spR T.C rCommon) := by
  have cl_T : Cls T.C.K T.C.T := T.cl_Table
  have n_ch : NoAttr T.C.K T.C.T "chances" := T.n_chances
  have cl_P : Cls T.C.K T.C.P := T.cl_Pledge
  have n_age : NoAttr T.C.K T.C.P "age" := T.n_age
  have n_rows : NoAttr T.C.K T.C.P "rows" := T.n_rows
  refine fn_sd (C := T.C) T.F_common S_common (by intro _ _ h; first | (obtain ⟨_, rfl, _⟩ := h; rfl) | (obtain ⟨_, _, rfl, _⟩ := h; rfl) | (obtain ⟨_, _, _, rfl, _⟩ := h; rfl) | (obtain ⟨_, _, _, _, rfl, _⟩ := h; rfl) | (obtain ⟨_, _, _, _, _, rfl, _⟩ := h; rfl) | (obtain ⟨_, _, _, _, _, _, rfl, _⟩ := h; rfl) | (obtain ⟨_, _, _, _, _, _, _, rfl, _⟩ := h; rfl) | (obtain ⟨_, _, _, _, _, _, _, _, rfl, _⟩ := h; rfl) | (obtain ⟨_, _, _, _, _, _, _, _, _, rfl, _⟩ := h; rfl)) fun cdv A outer s H E hr => ⟨_, (pss_cons (ps_set (i := 0) S_common.nd rfl (Or.inl rfl) (pe_callB call_abs (by rfl) T.z_abs (by decide +kernel) (pa_cons (pv 0) pa_nil)))
      (pss_cons (ps_set (i := 1) S_common.nd rfl (Or.inl rfl) (pe_callB call_abs (by rfl) T.z_abs (by decide +kernel) (pa_cons (pv 1) pa_nil)))
      (pss_cons (ps_while PassesOwn.never (pt_cmpR op_gt (pv 1) pe_int (nomark _)) (pss_cons (ps_set (i := 2) S_common.nd rfl (Or.inl rfl) (pe_op op_modN (pv 0) (pv 1)))
      (pss_cons (ps_set (i := 0) S_common.nd rfl (Or.inl rfl) (pv 1))
      (pss_one (ps_set (i := 1) S_common.nd rfl (Or.inl rfl) (pv 2))))))
      (pss_one (ps_ret (pv 0)))))), ?_⟩
  rintro _ _ ⟨a, b, rfl, rfl⟩
  change SD _ _ _ [.va (dI a), .va (dI b), .un] _
  walk_at "sx"
  walk_at "sx"
  refine sd_seq (sd_while (fun m ds1 => ∃ (p q : Int) (z : Sl), ds1 = [.va (dI p), .va (dI q), z] ∧ 0 ≤ p ∧ 0 ≤ q ∧ m = q.toNat ∧ Int.gcd p q = Int.gcd a b) (b.natAbs : Int).toNat ⟨_, _, _, rfl, by omega, by omega, rfl, ?_⟩ ?_)
  · rw [Int.gcd, Int.gcd, Int.natAbs_natCast, Int.natAbs_natCast]
  · rintro m ds1 ⟨p, q, z, rfl, hp, hq, rfl, hg⟩
    refine ⟨_, by walk_at "xt", fun hb => ?_, fun hb => ?_⟩
    · have hq0 : 0 < q := of_decide_eq_true hb
      have hne : q ≠ 0 := by omega
      walk_at "sx"
      walk_at "sx"
      refine sd_asg (by walk_at "xd") ?_
      dsimp only [List.set]
      exact ⟨_, by have := fmod_lt (a := p) hq0; have := fmod_ge (a := p) hq0; omega, _, _, _, rfl, by omega, fmod_ge hq0, rfl, by rw [gcd_turn hq0]; exact hg⟩
    · have hq0 : q = 0 := by have := of_decide_eq_false hb; omega
      subst hq0
      refine sd_ret (by walk_at "xd") ?_
      show dI p = dI _
      rw [← hg, Int.gcd_zero_right, Int.natAbs_of_nonneg hp]
theorem ok_Table_ages {P : Program} {w : World} {K : PySem.W.Frag} {mg : Str → Option Value} {base : Heap} (T : Tp K mg) : FnOk P w K mg base CX0 1 T.f_Table_ages T.d_Table_ages ["self"] (spR T.C rAges) := by
  have cl_T : Cls T.C.K T.C.T := T.cl_Table
  have n_ch : NoAttr T.C.K T.C.T "chances" := T.n_chances
  have cl_P : Cls T.C.K T.C.P := T.cl_Pledge
  have n_age : NoAttr T.C.K T.C.P "age" := T.n_age
  have n_rows : NoAttr T.C.K T.C.P "rows" := T.n_rows
  refine fn_sd (C := T.C) T.F_Table_ages S_Table_ages (by intro _ _ h; first | (obtain ⟨_, rfl, _⟩ := h; rfl) | (obtain ⟨_, _, rfl, _⟩ := h; rfl) | (obtain ⟨_, _, _, rfl, _⟩ := h; rfl) | (obtain ⟨_, _, _, _, rfl, _⟩ := h; rfl) | (obtain ⟨_, _, _, _, _, rfl, _⟩ := h; rfl) | (obtain ⟨_, _, _, _, _, _, rfl, _⟩ := h; rfl) | (obtain ⟨_, _, _, _, _, _, _, rfl, _⟩ := h; rfl) | (obtain ⟨_, _, _, _, _, _, _, _, rfl, _⟩ := h; rfl) | (obtain ⟨_, _, _, _, _, _, _, _, _, rfl, _⟩ := h; rfl)) fun cdv A outer s H E hr => ⟨_, (pss_one (ps_ret (pe_callB (r := rLenS T.C.K) call_len_seq (by rfl) T.z_len (by decide +kernel) (pa_cons (pe_fld (pv 0) rfl) pa_nil)))), ?_⟩
  rintro _ _ ⟨qs, rfl, rfl⟩
  change SD _ _ _ [.va (dT qs)] _
  refine sd_ret (by walk_at "xd") ?_
  show dI _ = dI _
  rw [List.length_map, List.length_map]
theorem ok_Table_dies {P : Program} {w : World} {K : PySem.W.Frag} {mg : Str → Option Value} {base : Heap} (T : Tp K mg) : FnOk P w K mg base CX0 1 T.f_Table_dies T.d_Table_dies ["self", "age"] (spR T.C rDies) := by
  have cl_T : Cls T.C.K T.C.T := T.cl_Table
  have n_ch : NoAttr T.C.K T.C.T "chances" := T.n_chances
  have cl_P : Cls T.C.K T.C.P := T.cl_Pledge
  have n_age : NoAttr T.C.K T.C.P "age" := T.n_age
  have n_rows : NoAttr T.C.K T.C.P "rows" := T.n_rows
  refine fn_sd (C := T.C) T.F_Table_dies S_Table_dies (by intro _ _ h; first | (obtain ⟨_, rfl, _⟩ := h; rfl) | (obtain ⟨_, _, rfl, _⟩ := h; rfl) | (obtain ⟨_, _, _, rfl, _⟩ := h; rfl) | (obtain ⟨_, _, _, _, rfl, _⟩ := h; rfl) | (obtain ⟨_, _, _, _, _, rfl, _⟩ := h; rfl) | (obtain ⟨_, _, _, _, _, _, rfl, _⟩ := h; rfl) | (obtain ⟨_, _, _, _, _, _, _, rfl, _⟩ := h; rfl) | (obtain ⟨_, _, _, _, _, _, _, _, rfl, _⟩ := h; rfl) | (obtain ⟨_, _, _, _, _, _, _, _, _, rfl, _⟩ := h; rfl)) fun cdv A outer s H E hr => ⟨_, (pss_cons (ps_if (pt_not (pt_chain op_le op_lt pe_int (pv 1) (pe_callB (r := rLenS T.C.K) call_len_seq (by rfl) T.z_len (by decide +kernel) (pa_cons (pe_fld (pv 0) rfl) pa_nil)))) (pss_one ps_never) pss_nil)
      (pss_one (ps_ret (pe_ix (r := rIx T.C.K) ix_seq (pe_fld (pv 0) rfl) (pv 1) (fun _ _ => rfl))))), ?_⟩
  rintro _ _ ⟨qs, a, rfl, h0, h1, rfl⟩
  change SD _ _ _ [.va (dT qs), .va (dI a)] _
  refine sd_seq (sd_if (b := false) (td_is (by walk_at "xt") ?_) (fun hb => absurd hb (by decide)) (fun _ => sd_next ?_))
  · rw [List.length_map, List.length_map, decide_eq_true h0, decide_eq_true h1]
    rfl
  have hat : atI ((qs.map pq).map pD) a = some (pD (pq (qs.getD a.toNat 0))) := at_nat (j := a.toNat) (by omega) (by
    rw [List.getElem?_map, List.getElem?_map, List.getD_eq_getElem?_getD, List.getElem?_eq_getElem (by omega)]
    rfl)
  exact sd_ret (by walk_at "xd") rfl
theorem okx_Table_dies {P : Program} {w : World} {K : PySem.W.Frag} {mg : Str → Option Value} {base : Heap} (T : Tp K mg) : FnOk P w K mg base (L2.CX P w) 1 T.f_Table_dies T.d_Table_dies ["self", "age"] (spE T.C (rXDies T.c_NoYear)) := by
  have cl_T : Cls T.C.K T.C.T := T.cl_Table
  have n_ch : NoAttr T.C.K T.C.T "chances" := T.n_chances
  have cl_P : Cls T.C.K T.C.P := T.cl_Pledge
  have n_age : NoAttr T.C.K T.C.P "age" := T.n_age
  have n_rows : NoAttr T.C.K T.C.P "rows" := T.n_rows
  refine fn_sx (C := T.C) T.F_Table_dies S_Table_dies (by intro _ _ h; first | (obtain ⟨_, rfl, _⟩ := h; rfl) | (obtain ⟨_, _, rfl, _⟩ := h; rfl) | (obtain ⟨_, _, _, rfl, _⟩ := h; rfl) | (obtain ⟨_, _, _, _, rfl, _⟩ := h; rfl) | (obtain ⟨_, _, _, _, _, rfl, _⟩ := h; rfl) | (obtain ⟨_, _, _, _, _, _, rfl, _⟩ := h; rfl) | (obtain ⟨_, _, _, _, _, _, _, rfl, _⟩ := h; rfl) | (obtain ⟨_, _, _, _, _, _, _, _, rfl, _⟩ := h; rfl) | (obtain ⟨_, _, _, _, _, _, _, _, _, rfl, _⟩ := h; rfl)) fun cdv A outer s H E hr => ⟨_, (pss_cons (ps_if (pt_not (pt_chain op_le op_lt pe_int (pv 1) (pe_callB (r := rLenS T.C.K) call_len_seq (by rfl) T.z_len (by decide +kernel) (pa_cons (pe_fld (pv 0) rfl) pa_nil)))) (pss_one (ps_raise rfl (takes_of rfl rfl rfl rfl) (pmk_own PySem.F.excBase_ValueError T.x_NoYear T.g_NoYear T.k_NoYear (raises_own T.bb_NoYear T.tt_NoYear) (by rfl)))) pss_nil)
      (PSs.nox (pss_one (ps_ret (pe_ix (r := rIx T.C.K) ix_seq (pe_fld (pv 0) rfl) (pv 1) (fun _ _ => rfl)))))), ?_⟩
  rintro _ _ ⟨qs, a, rfl, h, rfl⟩
  change SD _ _ _ [.va (dT qs), .va (dI a)] _
  refine sd_seq (sd_if (b := true) (td_is (by walk_at "xt") ?_) (fun _ => sd_raise (A := T.c_NoYear) rfl) (fun hb => absurd hb (by decide)))
  rw [List.length_map, List.length_map]
  exact not2 h
theorem okb_Table_dies {P : Program} {w : World} {K : PySem.W.Frag} {mg : Str → Option Value} {base : Heap} (T : Tp K mg) : FnOk P w K mg base (L2.CX P w) 1 T.f_Table_dies T.d_Table_dies ["self", "age"] (spB T.C rDies (rXDies T.c_NoYear)) := fn_or (C := T.C) (fn_up (C := T.C) (ok_Table_dies T)) (okx_Table_dies T)
theorem ok_law_cell_at {P : Program} {w : World} {K : PySem.W.Frag} {mg : Str → Option Value} {base : Heap} (T : Tp K mg) : FnOk P w K mg base CX0 1 T.f_law_cell_at T.d_law_cell_at ["script", "k"] (spR T.C rCell) := by
  have cl_T : Cls T.C.K T.C.T := T.cl_Table
  have n_ch : NoAttr T.C.K T.C.T "chances" := T.n_chances
  have cl_P : Cls T.C.K T.C.P := T.cl_Pledge
  have n_age : NoAttr T.C.K T.C.P "age" := T.n_age
  have n_rows : NoAttr T.C.K T.C.P "rows" := T.n_rows
  refine fn_sd (C := T.C) T.F_law_cell_at S_law_cell_at (by intro _ _ h; first | (obtain ⟨_, rfl, _⟩ := h; rfl) | (obtain ⟨_, _, rfl, _⟩ := h; rfl) | (obtain ⟨_, _, _, rfl, _⟩ := h; rfl) | (obtain ⟨_, _, _, _, rfl, _⟩ := h; rfl) | (obtain ⟨_, _, _, _, _, rfl, _⟩ := h; rfl) | (obtain ⟨_, _, _, _, _, _, rfl, _⟩ := h; rfl) | (obtain ⟨_, _, _, _, _, _, _, rfl, _⟩ := h; rfl) | (obtain ⟨_, _, _, _, _, _, _, _, rfl, _⟩ := h; rfl) | (obtain ⟨_, _, _, _, _, _, _, _, _, rfl, _⟩ := h; rfl)) fun cdv A outer s H E hr => ⟨_, (pss_cons (ps_if (pt_cmpR op_lt (pv 1) (pe_callB (r := rLenS T.C.K) call_len_seq (by rfl) T.z_len (by decide +kernel) (pa_cons (pv 0) pa_nil)) (nomark _)) (pss_one (ps_ret (pe_ix (r := rIx T.C.K) ix_seq (pv 0) (pv 1) (fun _ _ => rfl)))) pss_nil)
      (pss_one (ps_ret pe_int))), ?_⟩
  rintro _ _ ⟨ns, k, rfl, hk, rfl⟩
  change SD _ _ _ [.va (dS ns), .va (dI k)] _
  refine sd_seq (sd_if (by walk_at "xt") (fun hb => ?_) (fun hb => ?_))
  · have h := of_decide_eq_true hb
    rw [List.length_map] at h
    have hi : (ns.map PyData.int)[k.toNat]? = some (.int (cell ns k.toNat)) := by
      rw [List.getElem?_map, List.getElem?_eq_getElem (by omega)]
      unfold cell
      rw [List.getD_eq_getElem?_getD, List.getElem?_eq_getElem (by omega)]
      rfl
    have ha : atI (ns.map PyData.int) k = some (.int (cell ns k.toNat)) := at_nat (by omega) hi
    exact sd_ret (by walk_at "xd") rfl
  · have h := of_decide_eq_false hb
    rw [List.length_map] at h
    refine sd_next ?_
    refine sd_ret (by walk_at "xd") ?_
    unfold cell
    rw [List.getD_eq_getElem?_getD, List.getElem?_eq_none (by omega)]
    rfl
theorem ok_law_whole {P : Program} {w : World} {K : PySem.W.Frag} {mg : Str → Option Value} {base : Heap} (T : Tp K mg) : FnOk P w K mg base CX0 1 T.f_law_whole T.d_law_whole ["found"] (spR T.C rWhole) := by
  have cl_T : Cls T.C.K T.C.T := T.cl_Table
  have n_ch : NoAttr T.C.K T.C.T "chances" := T.n_chances
  have cl_P : Cls T.C.K T.C.P := T.cl_Pledge
  have n_age : NoAttr T.C.K T.C.P "age" := T.n_age
  have n_rows : NoAttr T.C.K T.C.P "rows" := T.n_rows
  refine fn_sd (C := T.C) T.F_law_whole S_law_whole (by intro _ _ h; first | (obtain ⟨_, rfl, _⟩ := h; rfl) | (obtain ⟨_, _, rfl, _⟩ := h; rfl) | (obtain ⟨_, _, _, rfl, _⟩ := h; rfl) | (obtain ⟨_, _, _, _, rfl, _⟩ := h; rfl) | (obtain ⟨_, _, _, _, _, rfl, _⟩ := h; rfl) | (obtain ⟨_, _, _, _, _, _, rfl, _⟩ := h; rfl) | (obtain ⟨_, _, _, _, _, _, _, rfl, _⟩ := h; rfl) | (obtain ⟨_, _, _, _, _, _, _, _, rfl, _⟩ := h; rfl) | (obtain ⟨_, _, _, _, _, _, _, _, _, rfl, _⟩ := h; rfl)) fun cdv A outer s H E hr => ⟨_, (pss_one (ps_ret (pe_and (pe_callB (r := rIsi T.C.K) call_isi (by rfl) T.z_isinstance (by decide +kernel) (pa_cons (pv 0) (pa_cons (pe_bltn (v := .ty "int") (by rfl) T.z_int (by decide +kernel) rfl) pa_nil))) (pe_one (pe_not (pe_callB (r := rIsi T.C.K) call_isi (by rfl) T.z_isinstance (by decide +kernel) (pa_cons (pv 0) (pa_cons (pe_bltn (v := .ty "bool") (by rfl) T.z_bool (by decide +kernel) rfl) pa_nil)))))))), ?_⟩
  rintro _ _ ⟨i, rfl, rfl⟩
  change SD _ _ _ [.va (dI i)] _
  exact sd_ret (xd_andV (xd_isiI (xd_var rfl) (k := true) (by decide +kernel)) fun _ => xd_notV (xd_isiI (xd_var rfl) (k := false) (by decide +kernel))) rfl
theorem ok_law_alone {P : Program} {w : World} {K : PySem.W.Frag} {mg : Str → Option Value} {base : Heap} (T : Tp K mg) : FnOk P w K mg base CX0 1 T.f_law_alone T.d_law_alone ["e"] (spR T.C (rAlone T.ex)) := by
  have cl_T : Cls T.C.K T.C.T := T.cl_Table
  have n_ch : NoAttr T.C.K T.C.T "chances" := T.n_chances
  have cl_P : Cls T.C.K T.C.P := T.cl_Pledge
  have n_age : NoAttr T.C.K T.C.P "age" := T.n_age
  have n_rows : NoAttr T.C.K T.C.P "rows" := T.n_rows
  refine fn_sd (C := T.C) T.F_law_alone S_law_alone (by intro _ _ h; first | (obtain ⟨_, rfl, _⟩ := h; rfl) | (obtain ⟨_, _, rfl, _⟩ := h; rfl) | (obtain ⟨_, _, _, rfl, _⟩ := h; rfl) | (obtain ⟨_, _, _, _, rfl, _⟩ := h; rfl) | (obtain ⟨_, _, _, _, _, rfl, _⟩ := h; rfl) | (obtain ⟨_, _, _, _, _, _, rfl, _⟩ := h; rfl) | (obtain ⟨_, _, _, _, _, _, _, rfl, _⟩ := h; rfl) | (obtain ⟨_, _, _, _, _, _, _, _, rfl, _⟩ := h; rfl) | (obtain ⟨_, _, _, _, _, _, _, _, _, rfl, _⟩ := h; rfl)) fun cdv A outer s H E hr => ⟨_, (pss_cons (ps_set (i := 1) S_law_alone.nd rfl (Or.inl rfl) (pe_lst (pa_cons (pe_callB (r := rIsX T.C.K) call_isX (by rfl) T.z_isinstance (by decide +kernel) (pa_cons (pv 0) (pa_cons (pe_glob (v := .ref T.c_BadTable) rfl T.g_BadTable rfl) pa_nil))) (pa_cons (pe_callB (r := rIsX T.C.K) call_isX (by rfl) T.z_isinstance (by decide +kernel) (pa_cons (pv 0) (pa_cons (pe_glob (v := .ref T.c_BadRate) rfl T.g_BadRate rfl) pa_nil))) (pa_cons (pe_callB (r := rIsX T.C.K) call_isX (by rfl) T.z_isinstance (by decide +kernel) (pa_cons (pv 0) (pa_cons (pe_glob (v := .ref T.c_BadPledge) rfl T.g_BadPledge rfl) pa_nil))) (pa_cons (pe_callB (r := rIsX T.C.K) call_isX (by rfl) T.z_isinstance (by decide +kernel) (pa_cons (pv 0) (pa_cons (pe_glob (v := .ref T.c_NoYear) rfl T.g_NoYear rfl) pa_nil))) pa_nil))))))
      (pss_cons (ps_set (i := 1) S_law_alone.nd rfl (Or.inl rfl) (pe_op op_cat (pv 1) (pe_lst (pa_cons (pe_callB (r := rIsX T.C.K) call_isX (by rfl) T.z_isinstance (by decide +kernel) (pa_cons (pv 0) (pa_cons (pe_glob (v := .ref T.c_BadCount) rfl T.g_BadCount rfl) pa_nil))) pa_nil))))
      (pss_cons (ps_if (PW.pt (pw_or (pt_not (pt_val (pe_callB (r := rIsX T.C.K) call_isX (by rfl) T.z_isinstance (by decide +kernel) (pa_cons (pv 0) (pa_cons (pe_glob (v := .ref T.c_PledgeError) rfl T.g_PledgeError rfl) pa_nil))))) (pw_or (pt_not (pt_val (pe_callB (r := rIsX T.C.K) call_isX (by rfl) T.z_isinstance (by decide +kernel) (pa_cons (pv 0) (pa_cons (pe_bltn (v := .ty "ValueError") (by rfl) T.z_ValueError (by decide +kernel) rfl) pa_nil))))) (pw_or1 (pt_cmpR (r := rNeD T.C.K) (op_neD hr.units) (pe_bm PySem.F.plainAttrs_list PySem.F.slot_list_count PySem.F.type_list_count mt_countF (pv 1) (pa_cons pe_bl pa_nil)) pe_int (nomark _)))))) (pss_one (ps_ret (pe_un un_neg pe_int))) pss_nil)
      (pss_one (ps_ret (pe_bm PySem.F.plainAttrs_list PySem.F.slot_list_index PySem.F.type_list_index mt_index (pv 1) (pa_cons pe_bl pa_nil))))))), ?_⟩
  rintro _ _ ⟨j, A, rfl, hA, rfl⟩
  change SD _ _ _ [.va (.exc A), .un] _
  obtain ⟨Ec, b0, b1, b2, b3, b4, k0, k1, k2, k3, k4, kp, kv, hc, hj, hn⟩ : ExcC T.C.K A ∧ ∃ b0 b1 b2 b3 b4 : Bool, PySem.W.kitOne T.C.K (.ref A) (.ref T.c_BadTable) = some b0 ∧ PySem.W.kitOne T.C.K (.ref A) (.ref T.c_BadRate) = some b1 ∧ PySem.W.kitOne T.C.K (.ref A) (.ref T.c_BadPledge) = some b2 ∧ PySem.W.kitOne T.C.K (.ref A) (.ref T.c_NoYear) = some b3 ∧ PySem.W.kitOne T.C.K (.ref A) (.ref T.c_BadCount) = some b4 ∧ PySem.W.kitOne T.C.K (.ref A) (.ref T.c_PledgeError) = some true ∧ PySem.W.kitOne T.C.K (.ref A) (.type "ValueError") = some true ∧ [b0, b1, b2, b3, b4].countP (fun z => z == true) = 1 ∧ [b0, b1, b2, b3, b4][j]? = some true ∧ ∀ (m : Nat) (z : Bool), m < j → [b0, b1, b2, b3, b4][m]? = some z → (z == true) = false := by
    have no : ∀ {bs : List Bool} {j : Nat}, (bs.take j).all (fun z => !z) = true → ∀ (m : Nat) (z : Bool), m < j → bs[m]? = some z → (z == true) = false := fun {bs j} h m z hm hz => by
      have h1 : (bs.take j)[m]? = some z := by rw [List.getElem?_take, if_pos hm]; exact hz
      have h2 := List.all_eq_true.mp h z (List.mem_of_getElem? h1)
      cases z
      · rfl
      · cases h2
    match j, hA with
    | 0, h => cases h; exact ⟨T.ec_BadTable, _, _, _, _, _, T.ki_BadTable_BadTable, T.ki_BadTable_BadRate, T.ki_BadTable_BadPledge, T.ki_BadTable_NoYear, T.ki_BadTable_BadCount, T.ki_BadTable_PledgeError, T.ki_BadTable_ValueError, rfl, rfl, no rfl⟩
    | 1, h => cases h; exact ⟨T.ec_BadRate, _, _, _, _, _, T.ki_BadRate_BadTable, T.ki_BadRate_BadRate, T.ki_BadRate_BadPledge, T.ki_BadRate_NoYear, T.ki_BadRate_BadCount, T.ki_BadRate_PledgeError, T.ki_BadRate_ValueError, rfl, rfl, no rfl⟩
    | 2, h => cases h; exact ⟨T.ec_BadPledge, _, _, _, _, _, T.ki_BadPledge_BadTable, T.ki_BadPledge_BadRate, T.ki_BadPledge_BadPledge, T.ki_BadPledge_NoYear, T.ki_BadPledge_BadCount, T.ki_BadPledge_PledgeError, T.ki_BadPledge_ValueError, rfl, rfl, no rfl⟩
    | 3, h => cases h; exact ⟨T.ec_NoYear, _, _, _, _, _, T.ki_NoYear_BadTable, T.ki_NoYear_BadRate, T.ki_NoYear_BadPledge, T.ki_NoYear_NoYear, T.ki_NoYear_BadCount, T.ki_NoYear_PledgeError, T.ki_NoYear_ValueError, rfl, rfl, no rfl⟩
    | 4, h => cases h; exact ⟨T.ec_BadCount, _, _, _, _, _, T.ki_BadCount_BadTable, T.ki_BadCount_BadRate, T.ki_BadCount_BadPledge, T.ki_BadCount_NoYear, T.ki_BadCount_BadCount, T.ki_BadCount_PledgeError, T.ki_BadCount_ValueError, rfl, rfl, no rfl⟩
    | j + 5, h => cases h
  refine sd_seq (sd_asgO (xl_lst (ap_cons (xd_isE Ec (xd_var rfl) k0) (ap_cons (xd_isE Ec (xd_var rfl) k1) (ap_cons (xd_isE Ec (xd_var rfl) k2) (ap_cons (xd_isE Ec (xd_var rfl) k3) ap_nil)))) (Nat.le_of_ble_eq_true rfl)) ?_)
  dsimp only [List.set]
  refine sd_seq (sd_asg (xl_xd (xl_catV rfl (xl_lst (ap_cons (xd_isE Ec (xd_var rfl) k4) ap_nil) (Nat.le_of_ble_eq_true rfl)) (Nat.le_of_ble_eq_true rfl))) ?_)
  dsimp only [List.set]
  change SD _ _ _ [.va (.exc A), .va (.pd (.list ([b0, b1, b2, b3, b4].map PyData.bool)))] _
  refine sd_seq (sd_if (b := false) (td_is (td_or (by walk_at "xt") fun _ => td_or (by walk_at "xt") fun _ => by walk_at "xt") ?_) (fun hb => absurd hb (by decide)) (fun _ => sd_next ?_))
  · rw [hc]
    rfl
  exact sd_ret (xd_indexB rfl xd_bl hj hn) rfl
theorem ok_law_spoiled {P : Program} {w : World} {K : PySem.W.Frag} {mg : Str → Option Value} {base : Heap} (T : Tp K mg) : FnOk P w K mg base CX0 1 T.f_law_spoiled T.d_law_spoiled ["age", "rows", "way", "cell"] (spR T.C rSpoil5) := by
  have cl_T : Cls T.C.K T.C.T := T.cl_Table
  have n_ch : NoAttr T.C.K T.C.T "chances" := T.n_chances
  have cl_P : Cls T.C.K T.C.P := T.cl_Pledge
  have n_age : NoAttr T.C.K T.C.P "age" := T.n_age
  have n_rows : NoAttr T.C.K T.C.P "rows" := T.n_rows
  refine fn_sd (C := T.C) T.F_law_spoiled S_law_spoiled (by intro _ _ h; first | (obtain ⟨_, rfl, _⟩ := h; rfl) | (obtain ⟨_, _, rfl, _⟩ := h; rfl) | (obtain ⟨_, _, _, rfl, _⟩ := h; rfl) | (obtain ⟨_, _, _, _, rfl, _⟩ := h; rfl) | (obtain ⟨_, _, _, _, _, rfl, _⟩ := h; rfl) | (obtain ⟨_, _, _, _, _, _, rfl, _⟩ := h; rfl) | (obtain ⟨_, _, _, _, _, _, _, rfl, _⟩ := h; rfl) | (obtain ⟨_, _, _, _, _, _, _, _, rfl, _⟩ := h; rfl) | (obtain ⟨_, _, _, _, _, _, _, _, _, rfl, _⟩ := h; rfl)) fun cdv A outer s H E hr => ⟨_, (pss_cons (ps_setLc (i := 4) (own := [("row", 6)]) (g := gName 6) (tt := tYes) rfl S_law_spoiled.nd rfl rfl (sw_true rfl rfl rfl (by decide +kernel)) (pi_list (pv 1)) (blkOk_by (own := [("row", 6)]) (N := N_law_spoiled) (sc := defScope s_law_spoiled) (by decide +kernel)) (fun _ _ _ _ _ => pg_name (i := 6) S_law_spoiled.nd rfl (Or.inl rfl)) (fun _ _ _ _ _ => pts_nil) (fun _ _ _ _ _ => (pe_callTy (r := rListS T.C.K) call_list_of (by rfl) T.z_list (by decide +kernel) (pa_cons (pv 6) pa_nil))))
      (pss_cons (ps_set (i := 5) S_law_spoiled.nd rfl (Or.inl rfl) (pe_op op_modN (pv 3) (pe_callB (r := rLenS T.C.K) call_len_seq (by rfl) T.z_len (by decide +kernel) (pa_cons (pv 1) pa_nil))))
      (pss_cons (ps_if (pt_cmpR (r := rEqD T.C.K) (op_eqD hr.units) (pv 2) pe_int (nomark _)) (pss_one (ps_set (i := 4) S_law_spoiled.nd rfl (Or.inl rfl) (pe_lst pa_nil))) pss_nil)
      (pss_cons (ps_if (pt_cmpR (r := rEqD T.C.K) (op_eqD hr.units) (pv 2) pe_int (nomark _)) (pss_one (ps_set (i := 4) S_law_spoiled.nd rfl (Or.inl rfl) (pe_op op_cat (pv 4) (pe_lc (own := [("k", 7)]) (g := gName 7) (tt := tYes) rfl S_law_spoiled.nd (pi_range1 rfl T.z_range (pa_cons (pe_op op_add (pe_op op_sub pe_int (pe_callB (r := rLenS T.C.K) call_len_seq (by rfl) T.z_len (by decide +kernel) (pa_cons (pv 1) pa_nil))) (pe_op op_modN (pv 3) pe_int)) pa_nil)) (blkOk_by (own := [("k", 7)]) (N := N_law_spoiled) (sc := defScope s_law_spoiled) (by decide +kernel)) (fun _ _ _ _ _ => pg_name (i := 7) S_law_spoiled.nd rfl (Or.inl rfl)) (fun _ _ _ _ _ => pts_nil) (fun _ _ _ _ _ => (pe_lst (pa_cons pe_int (pa_cons pe_int (pa_cons pe_int pa_nil))))))))) pss_nil)
      (pss_cons (ps_if (pt_cmpR (r := rEqD T.C.K) (op_eqD hr.units) (pv 2) pe_int (nomark _)) (pss_one (ps_asg (pe_op op_sub (pe_un un_neg pe_int) (pe_op op_modN (pe_op op_fdivW (pv 3) pe_int) pe_int)) (pg_sub (pe_ix (r := rIx T.C.K) ix_seq (pv 4) (pv 5) (fun _ _ => rfl)) (pe_op op_modN (pe_op op_fdivW (pv 3) pe_int) pe_int) set_list))) pss_nil)
      (pss_cons (ps_if (pt_cmpR (r := rEqD T.C.K) (op_eqD hr.units) (pv 2) pe_int (nomark _)) (pss_one (ps_asg (pe_op op_add pe_int (pe_op op_modN (pe_op op_fdivW (pv 3) pe_int) pe_int)) (pg_sub (pe_ix (r := rIx T.C.K) ix_seq (pv 4) (pv 5) (fun _ _ => rfl)) (pe_op op_modN (pe_op op_fdivW (pv 3) pe_int) pe_int) set_list))) pss_nil)
      (pss_cons (ps_if (pt_cmpR (r := rEqD T.C.K) (op_eqD hr.units) (pv 2) pe_int (nomark _)) (pss_one (ps_set (i := 0) S_law_spoiled.nd rfl (Or.inl rfl) (pe_op op_sub (pe_un un_neg pe_int) (pe_op op_modN (pe_op op_fdivW (pv 3) pe_int) pe_int)))) pss_nil)
      (pss_cons (ps_if (pt_cmpR (r := rEqD T.C.K) (op_eqD hr.units) (pv 2) pe_int (nomark _)) (pss_one (ps_set (i := 0) S_law_spoiled.nd rfl (Or.inl rfl) (pe_op op_add pe_int (pe_op op_modN (pe_op op_fdivW (pv 3) pe_int) pe_int)))) pss_nil)
      (pss_one (ps_ret (pe_tup (pa_cons (pv 0) (pa_cons (pv 4) pa_nil))))))))))))), ?_⟩
  rintro _ _ ⟨a, rows, way, cell, rfl, hl1, hl20, rfl⟩
  change SD _ _ _ [.va (dI a), .va (.pd (.list (rows.map rD))), .va (dI way), .va (dI cell), .un, .un, .un, .un] _
  have hlm : ((rows.map rD).length : Int) = (rows.length : Int) := by rw [List.length_map]
  have hlz : (rows.map rowZ).length = rows.length := by rw [List.length_map]
  have hne : ((rows.map rD).length : Int) ≠ 0 := by omega
  have m0 := fm_ge cell (b := (rows.length : Int)) (by omega)
  have m1 := fm_lt cell (b := (rows.length : Int)) (by omega)
  refine sd_seq (sd_asgN (i := 4) (rs := (rows.map rowZ).map iz) (xn_is (xn_lc rows rD rowL rfl (by omega) (id_list (xd_var rfl)) (fun r hr => xl_cb (ad_cons (xd_var rfl) ad_nil) cl_listT)) (rowL_ints rows)) (only_of (by rfl)) ?_)
  dsimp only [List.set]
  refine sd_seq (sd_asg (d := dI (cell.fmod (rows.length : Int))) (xd_is (by walk_at "xd") (by rw [hlm])) ?_)
  dsimp only [List.set]
  unfold spoil5
  generalize cell.fmod (rows.length : Int) = m at *
  have hp : m.toNat < rows.length := by omega
  obtain ⟨e1, e2⟩ := row_at hp
  have hix : ixN ((rows.map rowZ).map iz).length m = some m.toNat := ixN_int m0 (by rw [List.length_map, hlz]; exact m1)
  have hr : ((rows.map rowZ).map iz)[m.toNat]? = some (iz (rowZ (rowAt rows m.toNat))) := by rw [List.getElem?_map, e1]; rfl
  have k0 := fm_ge (cell / 20) (b := 3) (by decide)
  have k1 := fm_lt (cell / 20) (b := 3) (by decide)
  have hj : ixN (iz (rowZ (rowAt rows m.toNat))).length ((cell / 20).fmod 3) = some ((cell / 20).fmod 3).toNat := ixN_int k0 k1
  have c0 := fm_ge cell (b := 3) (by decide)
  have c1 := fm_lt cell (b := 3) (by decide)
  rcases (show way = 1 ∨ way = 2 ∨ way = 3 ∨ way = 4 ∨ way = 5 ∨ way = 6 ∨ ¬ (1 ≤ way ∧ way ≤ 6) by omega) with rfl | rfl | rfl | rfl | rfl | rfl | hw
  · rw [show spoilB a (rows.map rowZ) m.toNat 1 cell = (a, []) from rfl]
    refine sd_seq (sd_if (b := true) (td_is (by walk_at "xt") (by rfl)) (fun _ => sd_asgO (xl_lst ap_nil (by decide)) ?_) (fun hb => absurd hb (by decide)))
    dsimp only [List.set]
    refine sd_seq (sd_if (b := false) (td_is (by walk_at "xt") (by rfl)) (fun hb => absurd hb (by decide)) (fun _ => sd_next ?_))
    refine sd_seq (sd_if (b := false) (td_is (by walk_at "xt") (by rfl)) (fun hb => absurd hb (by decide)) (fun _ => sd_next ?_))
    refine sd_seq (sd_if (b := false) (td_is (by walk_at "xt") (by rfl)) (fun hb => absurd hb (by decide)) (fun _ => sd_next ?_))
    refine sd_seq (sd_if (b := false) (td_is (by walk_at "xt") (by rfl)) (fun hb => absurd hb (by decide)) (fun _ => sd_next ?_))
    refine sd_seq (sd_if (b := false) (td_is (by walk_at "xt") (by rfl)) (fun hb => absurd hb (by decide)) (fun _ => sd_next ?_))
    refine sd_shown 4 rfl ?_
    dsimp only [List.set]
    exact sd_ret (by walk_at "xd") rfl
  · rw [show spoilB a (rows.map rowZ) m.toNat 2 cell = (a, rows.map rowZ ++ List.replicate (21 - ((rows.map rowZ).length : Int) + cell.fmod 3).toNat [0, 0, 0]) from rfl]
    refine sd_seq (sd_if (b := false) (td_is (by walk_at "xt") (by rfl)) (fun hb => absurd hb (by decide)) (fun _ => sd_next ?_))
    refine sd_seq (sd_if (b := true) (td_is (by walk_at "xt") (by rfl)) (fun _ => sd_catN (i := 4) (ys := (List.range (21 - ((rows.map rowZ).length : Int) + cell.fmod 3).toNat).map fun _ => PyData.list [.int 0, .int 0, .int 0]) rfl (xl_lc (List.range (21 - ((rows.map rowZ).length : Int) + cell.fmod 3).toNat) (fun (k : Nat) => PyData.int (k : Int)) (fun _ => PyData.list [.int 0, .int 0, .int 0]) rfl (by rw [List.length_range]; omega) (id_rng1' (m := 21 - ((rows.map rD).length : Int) + cell.fmod 3) (by walk_at "ad") (by rw [hlm, hlz]) (by omega)) (fun k hk => by walk_at "xd")) (by simp only [List.length_map, List.length_range]; omega) ?_) (fun hb => absurd hb (by decide)))
    dsimp only [List.set]
    refine sd_seq (sd_if (b := false) (td_is (by walk_at "xt") (by rfl)) (fun hb => absurd hb (by decide)) (fun _ => sd_next ?_))
    refine sd_seq (sd_if (b := false) (td_is (by walk_at "xt") (by rfl)) (fun hb => absurd hb (by decide)) (fun _ => sd_next ?_))
    refine sd_seq (sd_if (b := false) (td_is (by walk_at "xt") (by rfl)) (fun hb => absurd hb (by decide)) (fun _ => sd_next ?_))
    refine sd_seq (sd_if (b := false) (td_is (by walk_at "xt") (by rfl)) (fun hb => absurd hb (by decide)) (fun _ => sd_next ?_))
    refine sd_shown 4 rfl ?_
    dsimp only [List.set]
    rw [lds_ints, map_const_range]
    refine sd_ret (by walk_at "xd") ?_
    show Da.pd (.tuple [.int a, .list ((rows.map rowZ).map rowI ++ List.replicate _ (PyData.list [.int 0, .int 0, .int 0]))]) = Da.pd (.tuple [.int a, .list ((rows.map rowZ ++ List.replicate _ [0, 0, 0]).map rowI)])
    rw [List.map_append, List.map_replicate]
    rfl
  · rw [show spoilB a (rows.map rowZ) m.toNat 3 cell = (a, (rows.map rowZ).set m.toNat (((rows.map rowZ).getD m.toNat []).set ((cell / 20).fmod 3).toNat (-1 - (cell / 60).fmod 9))) from rfl]
    refine sd_seq (sd_if (b := false) (td_is (by walk_at "xt") (by rfl)) (fun hb => absurd hb (by decide)) (fun _ => sd_next ?_))
    refine sd_seq (sd_if (b := false) (td_is (by walk_at "xt") (by rfl)) (fun hb => absurd hb (by decide)) (fun _ => sd_next ?_))
    refine sd_seq (sd_if (b := true) (td_is (by walk_at "xt") (by rfl)) (fun _ => sd_setN (i := 4) (t := m.toNat) (x := .int (-1 - (cell / 60).fmod 9)) rfl (by walk_at "xd") (by walk_at "xd") hix hr (by walk_at "xd") hj ?_) (fun hb => absurd hb (by decide)))
    dsimp only [List.set]
    refine sd_seq (sd_if (b := false) (td_is (by walk_at "xt") (by rfl)) (fun hb => absurd hb (by decide)) (fun _ => sd_next ?_))
    refine sd_seq (sd_if (b := false) (td_is (by walk_at "xt") (by rfl)) (fun hb => absurd hb (by decide)) (fun _ => sd_next ?_))
    refine sd_seq (sd_if (b := false) (td_is (by walk_at "xt") (by rfl)) (fun hb => absurd hb (by decide)) (fun _ => sd_next ?_))
    refine sd_shownN 4 rfl ?_
    dsimp only [List.set]
    rw [set_iz]
    refine sd_ret (by walk_at "xd") ?_
    rw [e2]
  · rw [show spoilB a (rows.map rowZ) m.toNat 4 cell = (a, (rows.map rowZ).set m.toNat (((rows.map rowZ).getD m.toNat []).set ((cell / 20).fmod 3).toNat (1000001 + (cell / 60).fmod 9))) from rfl]
    refine sd_seq (sd_if (b := false) (td_is (by walk_at "xt") (by rfl)) (fun hb => absurd hb (by decide)) (fun _ => sd_next ?_))
    refine sd_seq (sd_if (b := false) (td_is (by walk_at "xt") (by rfl)) (fun hb => absurd hb (by decide)) (fun _ => sd_next ?_))
    refine sd_seq (sd_if (b := false) (td_is (by walk_at "xt") (by rfl)) (fun hb => absurd hb (by decide)) (fun _ => sd_next ?_))
    refine sd_seq (sd_if (b := true) (td_is (by walk_at "xt") (by rfl)) (fun _ => sd_setN (i := 4) (t := m.toNat) (x := .int (1000001 + (cell / 60).fmod 9)) rfl (by walk_at "xd") (by walk_at "xd") hix hr (by walk_at "xd") hj ?_) (fun hb => absurd hb (by decide)))
    dsimp only [List.set]
    refine sd_seq (sd_if (b := false) (td_is (by walk_at "xt") (by rfl)) (fun hb => absurd hb (by decide)) (fun _ => sd_next ?_))
    refine sd_seq (sd_if (b := false) (td_is (by walk_at "xt") (by rfl)) (fun hb => absurd hb (by decide)) (fun _ => sd_next ?_))
    refine sd_shownN 4 rfl ?_
    dsimp only [List.set]
    rw [set_iz]
    refine sd_ret (by walk_at "xd") ?_
    rw [e2]
  · rw [show spoilB a (rows.map rowZ) m.toNat 5 cell = (-1 - (cell / 60).fmod 9, rows.map rowZ) from rfl]
    refine sd_seq (sd_if (b := false) (td_is (by walk_at "xt") (by rfl)) (fun hb => absurd hb (by decide)) (fun _ => sd_next ?_))
    refine sd_seq (sd_if (b := false) (td_is (by walk_at "xt") (by rfl)) (fun hb => absurd hb (by decide)) (fun _ => sd_next ?_))
    refine sd_seq (sd_if (b := false) (td_is (by walk_at "xt") (by rfl)) (fun hb => absurd hb (by decide)) (fun _ => sd_next ?_))
    refine sd_seq (sd_if (b := false) (td_is (by walk_at "xt") (by rfl)) (fun hb => absurd hb (by decide)) (fun _ => sd_next ?_))
    refine sd_seq (sd_if (b := true) (td_is (by walk_at "xt") (by rfl)) (fun _ => sd_asg (d := dI (-1 - (cell / 60).fmod 9)) (by walk_at "xd") ?_) (fun hb => absurd hb (by decide)))
    dsimp only [List.set]
    refine sd_seq (sd_if (b := false) (td_is (by walk_at "xt") (by rfl)) (fun hb => absurd hb (by decide)) (fun _ => sd_next ?_))
    refine sd_shownN 4 rfl ?_
    dsimp only [List.set]
    rw [lds_ints]
    exact sd_ret (by walk_at "xd") rfl
  · rw [show spoilB a (rows.map rowZ) m.toNat 6 cell = (20 + (cell / 60).fmod 9, rows.map rowZ) from rfl]
    refine sd_seq (sd_if (b := false) (td_is (by walk_at "xt") (by rfl)) (fun hb => absurd hb (by decide)) (fun _ => sd_next ?_))
    refine sd_seq (sd_if (b := false) (td_is (by walk_at "xt") (by rfl)) (fun hb => absurd hb (by decide)) (fun _ => sd_next ?_))
    refine sd_seq (sd_if (b := false) (td_is (by walk_at "xt") (by rfl)) (fun hb => absurd hb (by decide)) (fun _ => sd_next ?_))
    refine sd_seq (sd_if (b := false) (td_is (by walk_at "xt") (by rfl)) (fun hb => absurd hb (by decide)) (fun _ => sd_next ?_))
    refine sd_seq (sd_if (b := false) (td_is (by walk_at "xt") (by rfl)) (fun hb => absurd hb (by decide)) (fun _ => sd_next ?_))
    refine sd_seq (sd_if (b := true) (td_is (by walk_at "xt") (by rfl)) (fun _ => sd_asg (d := dI (20 + (cell / 60).fmod 9)) (by walk_at "xd") ?_) (fun hb => absurd hb (by decide)))
    dsimp only [List.set]
    refine sd_shownN 4 rfl ?_
    dsimp only [List.set]
    rw [lds_ints]
    exact sd_ret (by walk_at "xd") rfl
  · rw [spoilB_none hw]
    refine sd_seq (sd_if (b := false) (td_is (by walk_at "xt") (decide_eq_false (by omega))) (fun hb => absurd hb (by decide)) (fun _ => sd_next ?_))
    refine sd_seq (sd_if (b := false) (td_is (by walk_at "xt") (decide_eq_false (by omega))) (fun hb => absurd hb (by decide)) (fun _ => sd_next ?_))
    refine sd_seq (sd_if (b := false) (td_is (by walk_at "xt") (decide_eq_false (by omega))) (fun hb => absurd hb (by decide)) (fun _ => sd_next ?_))
    refine sd_seq (sd_if (b := false) (td_is (by walk_at "xt") (decide_eq_false (by omega))) (fun hb => absurd hb (by decide)) (fun _ => sd_next ?_))
    refine sd_seq (sd_if (b := false) (td_is (by walk_at "xt") (decide_eq_false (by omega))) (fun hb => absurd hb (by decide)) (fun _ => sd_next ?_))
    refine sd_seq (sd_if (b := false) (td_is (by walk_at "xt") (decide_eq_false (by omega))) (fun hb => absurd hb (by decide)) (fun _ => sd_next ?_))
    refine sd_shownN 4 rfl ?_
    dsimp only [List.set]
    rw [lds_ints]
    exact sd_ret (by walk_at "xd") rfl
theorem ok_see_fits {P : Program} {w : World} {K : PySem.W.Frag} {mg : Str → Option Value} {base : Heap} (T : Tp K mg) : FnOk P w K mg base CX0 2 T.f_see_fits T.d_see_fits ["table", "pledge"] (spR T.C rSeeFits) := by
  have G_Table_ages := ok_Table_ages (P := P) (w := w) (base := base) T
  have cl_T : Cls T.C.K T.C.T := T.cl_Table
  have n_ch : NoAttr T.C.K T.C.T "chances" := T.n_chances
  have cl_P : Cls T.C.K T.C.P := T.cl_Pledge
  have n_age : NoAttr T.C.K T.C.P "age" := T.n_age
  have n_rows : NoAttr T.C.K T.C.P "rows" := T.n_rows
  refine fn_sd (C := T.C) T.F_see_fits S_see_fits (by intro _ _ h; first | (obtain ⟨_, rfl, _⟩ := h; rfl) | (obtain ⟨_, _, rfl, _⟩ := h; rfl) | (obtain ⟨_, _, _, rfl, _⟩ := h; rfl) | (obtain ⟨_, _, _, _, rfl, _⟩ := h; rfl) | (obtain ⟨_, _, _, _, _, rfl, _⟩ := h; rfl) | (obtain ⟨_, _, _, _, _, _, rfl, _⟩ := h; rfl) | (obtain ⟨_, _, _, _, _, _, _, rfl, _⟩ := h; rfl) | (obtain ⟨_, _, _, _, _, _, _, _, rfl, _⟩ := h; rfl) | (obtain ⟨_, _, _, _, _, _, _, _, _, rfl, _⟩ := h; rfl)) fun cdv A outer s H E hr => ⟨_, (pss_one (ps_if (pt_cmpR op_gt (pe_op op_add (pe_fld (pv 1) rfl) (pe_callB (r := rLenS T.C.K) call_len_seq (by rfl) T.z_len (by decide +kernel) (pa_cons (pe_fld (pv 1) rfl) pa_nil))) (pe_meth0 (pv 0) T.cl_Table T.m_Table_ages G_Table_ages (hr.mono (by decide)) T.b_Table_ages .nil pass0 ) (nomark _)) (pss_one ps_never) pss_nil)), ?_⟩
  rintro _ _ ⟨qs, n, rows, rfl, h, rfl⟩
  change SD _ _ _ [.va (dT qs), .va (.ple n rows)] _
  have r1 : rAges [dT qs] (dI qs.length) := ⟨qs, rfl, rfl⟩
  refine sd_if (b := false) (td_is (td_test (xd_op (xd_op (by walk_at "xd") (by walk_at "xd") rd_add) (xd_methT (by decide +kernel) (xd_var rfl) ad_nil r1) rd_gt)) ?_) (fun hb => absurd hb (by decide)) (fun _ => sd_next rfl)
  rw [List.length_map]
  exact decide_eq_false (by omega)
theorem okx_see_fits {P : Program} {w : World} {K : PySem.W.Frag} {mg : Str → Option Value} {base : Heap} (T : Tp K mg) : FnOk P w K mg base (L2.CX P w) 2 T.f_see_fits T.d_see_fits ["table", "pledge"] (spE T.C (rXSeeFits T.c_BadPledge)) := by
  have G_Table_ages := ok_Table_ages (P := P) (w := w) (base := base) T
  have cl_T : Cls T.C.K T.C.T := T.cl_Table
  have n_ch : NoAttr T.C.K T.C.T "chances" := T.n_chances
  have cl_P : Cls T.C.K T.C.P := T.cl_Pledge
  have n_age : NoAttr T.C.K T.C.P "age" := T.n_age
  have n_rows : NoAttr T.C.K T.C.P "rows" := T.n_rows
  refine fn_sx (C := T.C) T.F_see_fits S_see_fits (by intro _ _ h; first | (obtain ⟨_, rfl, _⟩ := h; rfl) | (obtain ⟨_, _, rfl, _⟩ := h; rfl) | (obtain ⟨_, _, _, rfl, _⟩ := h; rfl) | (obtain ⟨_, _, _, _, rfl, _⟩ := h; rfl) | (obtain ⟨_, _, _, _, _, rfl, _⟩ := h; rfl) | (obtain ⟨_, _, _, _, _, _, rfl, _⟩ := h; rfl) | (obtain ⟨_, _, _, _, _, _, _, rfl, _⟩ := h; rfl) | (obtain ⟨_, _, _, _, _, _, _, _, rfl, _⟩ := h; rfl) | (obtain ⟨_, _, _, _, _, _, _, _, _, rfl, _⟩ := h; rfl)) fun cdv A outer s H E hr => ⟨_, (pss_one (ps_if (pt_cmpR op_gt (pe_op op_add (pe_fld (pv 1) rfl) (pe_callB (r := rLenS T.C.K) call_len_seq (by rfl) T.z_len (by decide +kernel) (pa_cons (pe_fld (pv 1) rfl) pa_nil))) (pe_meth0 (pv 0) T.cl_Table T.m_Table_ages G_Table_ages (hr.mono (by decide)) T.b_Table_ages .nil pass0 ) (nomark _)) (pss_one (ps_raise rfl (takes_of rfl rfl rfl rfl) (pmk_own PySem.F.excBase_ValueError T.x_BadPledge T.g_BadPledge T.k_BadPledge (raises_own T.bb_BadPledge T.tt_BadPledge) (by rfl)))) pss_nil)), ?_⟩
  rintro _ _ ⟨qs, a, rows, rfl, h, rfl⟩
  change SD _ _ _ [.va (dT qs), .va (.ple a rows)] _
  have r1 : rAges [dT qs] (dI qs.length) := ⟨qs, rfl, rfl⟩
  refine sd_if (b := true) (td_is (td_test (xd_op (xd_op (by walk_at "xd") (by walk_at "xd") rd_add) (xd_methT (by decide +kernel) (xd_var rfl) ad_nil r1) rd_gt)) ?_) (fun _ => sd_raise (A := T.c_BadPledge) rfl) (fun hb => absurd hb (by decide))
  rw [List.length_map]
  exact decide_eq_true (by omega)
theorem okb_see_fits {P : Program} {w : World} {K : PySem.W.Frag} {mg : Str → Option Value} {base : Heap} (T : Tp K mg) : FnOk P w K mg base (L2.CX P w) 2 T.f_see_fits T.d_see_fits ["table", "pledge"] (spB T.C rSeeFits (rXSeeFits T.c_BadPledge)) := fn_or (C := T.C) (fn_up (C := T.C) (ok_see_fits T)) (okx_see_fits T)
theorem ok_part {P : Program} {w : World} {K : PySem.W.Frag} {mg : Str → Option Value} {base : Heap} (T : Tp K mg) : FnOk P w K mg base CX0 2 T.f_part T.d_part ["top", "under"] (spR T.C rPart) := by
  have G_common := ok_common (P := P) (w := w) (base := base) T
  have cl_T : Cls T.C.K T.C.T := T.cl_Table
  have n_ch : NoAttr T.C.K T.C.T "chances" := T.n_chances
  have cl_P : Cls T.C.K T.C.P := T.cl_Pledge
  have n_age : NoAttr T.C.K T.C.P "age" := T.n_age
  have n_rows : NoAttr T.C.K T.C.P "rows" := T.n_rows
  refine fn_sd (C := T.C) T.F_part S_part (by intro _ _ h; first | (obtain ⟨_, rfl, _⟩ := h; rfl) | (obtain ⟨_, _, rfl, _⟩ := h; rfl) | (obtain ⟨_, _, _, rfl, _⟩ := h; rfl) | (obtain ⟨_, _, _, _, rfl, _⟩ := h; rfl) | (obtain ⟨_, _, _, _, _, rfl, _⟩ := h; rfl) | (obtain ⟨_, _, _, _, _, _, rfl, _⟩ := h; rfl) | (obtain ⟨_, _, _, _, _, _, _, rfl, _⟩ := h; rfl) | (obtain ⟨_, _, _, _, _, _, _, _, rfl, _⟩ := h; rfl) | (obtain ⟨_, _, _, _, _, _, _, _, _, rfl, _⟩ := h; rfl)) fun cdv A outer s H E hr => ⟨_, (pss_cons (ps_if (pt_cmpR op_lt (pv 1) pe_int (nomark _)) (pss_cons (ps_set (i := 0) S_part.nd rfl (Or.inl rfl) (pe_op op_sub pe_int (pv 0)))
      (pss_one (ps_set (i := 1) S_part.nd rfl (Or.inl rfl) (pe_op op_sub pe_int (pv 1))))) pss_nil)
      (pss_cons (ps_set (i := 2) S_part.nd rfl (Or.inl rfl) (pe_call G_common (hr.mono (by decide)) (by rfl) T.g_common T.F_common.kp T.b_common .nil pass0 (pa_cons (pv 0) (pa_cons (pv 1) pa_nil))))
      (pss_one (ps_ret (pe_tup (pa_cons (pe_op op_fdivW (pv 0) (pv 2)) (pa_cons (pe_op op_fdivW (pv 1) (pv 2)) pa_nil))))))), ?_⟩
  rintro _ _ ⟨t, u, n, rfl, hu, hn, h9, rfl⟩
  change SD _ _ _ [.va (dI t), .va (dI u), .un] _
  refine sd_mid (fun d => ∃ t' u' : Int, d = [.va (dI t'), .va (dI u'), .un] ∧ u' ≠ 0 ∧ u'.natAbs < 2 ^ n ∧ (t' / (Int.gcd t' u' : Int), u' / (Int.gcd t' u' : Int)) = pq (Rat.divInt t u)) (sd_if (by walk_at "xt") (fun hb => ?_) (fun hb => ?_)) ?_
  · have h := of_decide_eq_true hb
    walk_at "sx"
    refine sd_asg (by walk_at "xd") ?_
    dsimp only [List.set]
    refine ⟨_, _, rfl, by omega, by rw [Int.zero_sub, Int.natAbs_neg]; exact hn, ?_⟩
    have e := part_eq (t := t) hu
    rw [if_pos h, if_pos h] at e
    exact e
  · have h : ¬ u < 0 := of_decide_eq_false hb
    refine sd_next ⟨_, _, rfl, hu, hn, ?_⟩
    have e := part_eq (t := t) hu
    rw [if_neg h, if_neg h] at e
    exact e
  · rintro _ ⟨t', u', rfl, h0, h1, he⟩
    have hr : rCommon [dI t', dI u'] (dI (Int.gcd t' u')) := ⟨_, _, rfl, rfl⟩
    have d1 := cdiv_gcd (t := t') h0 h1 h9 t'
    have d2 := cdiv_gcd (t := t') h0 h1 h9 u'
    walk_at "sx"
    refine sd_ret (by walk_at "xd") ?_
    show Da.pd (pD (_, _)) = dQ _
    rw [he]
theorem ok_see_year {P : Program} {w : World} {K : PySem.W.Frag} {mg : Str → Option Value} {base : Heap} (T : Tp K mg) : FnOk P w K mg base CX0 2 T.f_see_year T.d_see_year ["table", "pledge", "year"] (spR T.C rSeeYear) := by
  have G_Table_ages := ok_Table_ages (P := P) (w := w) (base := base) T
  have cl_T : Cls T.C.K T.C.T := T.cl_Table
  have n_ch : NoAttr T.C.K T.C.T "chances" := T.n_chances
  have cl_P : Cls T.C.K T.C.P := T.cl_Pledge
  have n_age : NoAttr T.C.K T.C.P "age" := T.n_age
  have n_rows : NoAttr T.C.K T.C.P "rows" := T.n_rows
  refine fn_sd (C := T.C) T.F_see_year S_see_year (by intro _ _ h; first | (obtain ⟨_, rfl, _⟩ := h; rfl) | (obtain ⟨_, _, rfl, _⟩ := h; rfl) | (obtain ⟨_, _, _, rfl, _⟩ := h; rfl) | (obtain ⟨_, _, _, _, rfl, _⟩ := h; rfl) | (obtain ⟨_, _, _, _, _, rfl, _⟩ := h; rfl) | (obtain ⟨_, _, _, _, _, _, rfl, _⟩ := h; rfl) | (obtain ⟨_, _, _, _, _, _, _, rfl, _⟩ := h; rfl) | (obtain ⟨_, _, _, _, _, _, _, _, rfl, _⟩ := h; rfl) | (obtain ⟨_, _, _, _, _, _, _, _, _, rfl, _⟩ := h; rfl)) fun cdv A outer s H E hr => ⟨_, (pss_cons (ps_if (pt_not (pt_chain op_le op_le pe_int (pv 2) (pe_callB (r := rLenS T.C.K) call_len_seq (by rfl) T.z_len (by decide +kernel) (pa_cons (pe_fld (pv 1) rfl) pa_nil)))) (pss_one ps_never) pss_nil)
      (pss_one (ps_if (pt_cmpR op_ge (pe_op op_add (pe_fld (pv 1) rfl) (pv 2)) (pe_meth0 (pv 0) T.cl_Table T.m_Table_ages G_Table_ages (hr.mono (by decide)) T.b_Table_ages .nil pass0 ) (nomark _)) (pss_one ps_never) pss_nil))), ?_⟩
  rintro _ _ ⟨qs, a, rows, y, rfl, h0, h1, h2, rfl⟩
  change SD _ _ _ [.va (dT qs), .va (.ple a rows), .va (dI y)] _
  have r1 : rAges [dT qs] (dI qs.length) := ⟨qs, rfl, rfl⟩
  refine sd_seq (sd_if (b := false) (td_is (by walk_at "xt") ?_) (fun hb => absurd hb (by decide)) (fun _ => sd_next ?_))
  · rw [List.length_map, decide_eq_true h0, decide_eq_true h1]
    rfl
  exact sd_if (b := false) (td_is (td_test (xd_op (xd_op (by walk_at "xd") (by walk_at "xd") rd_add) (xd_methT (by decide +kernel) (xd_var rfl) ad_nil r1) rd_ge)) (decide_eq_false (by omega))) (fun hb => absurd hb (by decide)) (fun _ => sd_next rfl)
theorem okx_see_year {P : Program} {w : World} {K : PySem.W.Frag} {mg : Str → Option Value} {base : Heap} (T : Tp K mg) : FnOk P w K mg base (L2.CX P w) 2 T.f_see_year T.d_see_year ["table", "pledge", "year"] (spE T.C (rXSeeYear T.c_NoYear)) := by
  have G_Table_ages := ok_Table_ages (P := P) (w := w) (base := base) T
  have cl_T : Cls T.C.K T.C.T := T.cl_Table
  have n_ch : NoAttr T.C.K T.C.T "chances" := T.n_chances
  have cl_P : Cls T.C.K T.C.P := T.cl_Pledge
  have n_age : NoAttr T.C.K T.C.P "age" := T.n_age
  have n_rows : NoAttr T.C.K T.C.P "rows" := T.n_rows
  refine fn_sx (C := T.C) T.F_see_year S_see_year (by intro _ _ h; first | (obtain ⟨_, rfl, _⟩ := h; rfl) | (obtain ⟨_, _, rfl, _⟩ := h; rfl) | (obtain ⟨_, _, _, rfl, _⟩ := h; rfl) | (obtain ⟨_, _, _, _, rfl, _⟩ := h; rfl) | (obtain ⟨_, _, _, _, _, rfl, _⟩ := h; rfl) | (obtain ⟨_, _, _, _, _, _, rfl, _⟩ := h; rfl) | (obtain ⟨_, _, _, _, _, _, _, rfl, _⟩ := h; rfl) | (obtain ⟨_, _, _, _, _, _, _, _, rfl, _⟩ := h; rfl) | (obtain ⟨_, _, _, _, _, _, _, _, _, rfl, _⟩ := h; rfl)) fun cdv A outer s H E hr => ⟨_, (pss_cons (ps_if (pt_not (pt_chain op_le op_le pe_int (pv 2) (pe_callB (r := rLenS T.C.K) call_len_seq (by rfl) T.z_len (by decide +kernel) (pa_cons (pe_fld (pv 1) rfl) pa_nil)))) (pss_one (ps_raise rfl (takes_of rfl rfl rfl rfl) (pmk_own PySem.F.excBase_ValueError T.x_NoYear T.g_NoYear T.k_NoYear (raises_own T.bb_NoYear T.tt_NoYear) (by rfl)))) pss_nil)
      (pss_one (ps_if (pt_cmpR op_ge (pe_op op_add (pe_fld (pv 1) rfl) (pv 2)) (pe_meth0 (pv 0) T.cl_Table T.m_Table_ages G_Table_ages (hr.mono (by decide)) T.b_Table_ages .nil pass0 ) (nomark _)) (pss_one (ps_raise rfl (takes_of rfl rfl rfl rfl) (pmk_own PySem.F.excBase_ValueError T.x_NoYear T.g_NoYear T.k_NoYear (raises_own T.bb_NoYear T.tt_NoYear) (by rfl)))) pss_nil))), ?_⟩
  rintro _ _ ⟨qs, a, rows, y, rfl, h, rfl⟩
  change SD _ _ _ [.va (dT qs), .va (.ple a rows), .va (dI y)] _
  have r1 : rAges [dT qs] (dI qs.length) := ⟨qs, rfl, rfl⟩
  rcases h with h | ⟨h0, h1, h⟩
  · refine sd_seq (sd_if (b := true) (td_is (by walk_at "xt") ?_) (fun _ => sd_raise (A := T.c_NoYear) rfl) (fun hb => absurd hb (by decide)))
    rw [List.length_map]
    exact not2 h
  · refine sd_seq (sd_if (b := false) (td_is (by walk_at "xt") ?_) (fun hb => absurd hb (by decide)) (fun _ => sd_next ?_))
    · rw [List.length_map, decide_eq_true h0, decide_eq_true h1]
      rfl
    exact sd_if (b := true) (td_is (td_test (xd_op (xd_op (by walk_at "xd") (by walk_at "xd") rd_add) (xd_methT (by decide +kernel) (xd_var rfl) ad_nil r1) rd_ge)) (decide_eq_true (by omega))) (fun _ => sd_raise (A := T.c_NoYear) rfl) (fun hb => absurd hb (by decide))
theorem okb_see_year {P : Program} {w : World} {K : PySem.W.Frag} {mg : Str → Option Value} {base : Heap} (T : Tp K mg) : FnOk P w K mg base (L2.CX P w) 2 T.f_see_year T.d_see_year ["table", "pledge", "year"] (spB T.C rSeeYear (rXSeeYear T.c_NoYear)) := fn_or (C := T.C) (fn_up (C := T.C) (ok_see_year T)) (okx_see_year T)
theorem ok_law_draw {P : Program} {w : World} {K : PySem.W.Frag} {mg : Str → Option Value} {base : Heap} (T : Tp K mg) : FnOk P w K mg base CX0 2 T.f_law_draw T.d_law_draw ["script", "k"] (spR T.C rDraw) := by
  have G_law_cell_at := ok_law_cell_at (P := P) (w := w) (base := base) T
  have cl_T : Cls T.C.K T.C.T := T.cl_Table
  have n_ch : NoAttr T.C.K T.C.T "chances" := T.n_chances
  have cl_P : Cls T.C.K T.C.P := T.cl_Pledge
  have n_age : NoAttr T.C.K T.C.P "age" := T.n_age
  have n_rows : NoAttr T.C.K T.C.P "rows" := T.n_rows
  refine fn_sd (C := T.C) T.F_law_draw S_law_draw (by intro _ _ h; first | (obtain ⟨_, rfl, _⟩ := h; rfl) | (obtain ⟨_, _, rfl, _⟩ := h; rfl) | (obtain ⟨_, _, _, rfl, _⟩ := h; rfl) | (obtain ⟨_, _, _, _, rfl, _⟩ := h; rfl) | (obtain ⟨_, _, _, _, _, rfl, _⟩ := h; rfl) | (obtain ⟨_, _, _, _, _, _, rfl, _⟩ := h; rfl) | (obtain ⟨_, _, _, _, _, _, _, rfl, _⟩ := h; rfl) | (obtain ⟨_, _, _, _, _, _, _, _, rfl, _⟩ := h; rfl) | (obtain ⟨_, _, _, _, _, _, _, _, _, rfl, _⟩ := h; rfl)) fun cdv A outer s H E hr => ⟨_, (pss_one (ps_ret (pe_op op_modN (pe_op op_mulA (pe_op op_add (pe_call G_law_cell_at (hr.mono (by decide)) (by rfl) T.g_law_cell_at T.F_law_cell_at.kp T.b_law_cell_at .nil pass0 (pa_cons (pv 0) (pa_cons (pe_op op_modN (pv 1) pe_int) pa_nil))) (pe_op op_mulA pe_int (pv 1))) (pe_op op_add pe_int (pe_op op_mulA pe_int (pv 1)))) pe_int))), ?_⟩
  rintro _ _ ⟨ns, k, rfl, h0, h1, rfl⟩
  change SD _ _ _ [.va (dS ns), .va (dI k)] _
  have hr : rCell [dS ns, dI (k.fmod 61)] (dI (cell ns (k.fmod 61).toNat)) := ⟨_, _, rfl, fmod_ge (by decide), rfl⟩
  exact sd_ret (by walk_at "xd") rfl
theorem ok_plus {P : Program} {w : World} {K : PySem.W.Frag} {mg : Str → Option Value} {base : Heap} (T : Tp K mg) : FnOk P w K mg base CX0 3 T.f_plus T.d_plus ["one", "other"] (spR T.C rPlus) := by
  have G_part := ok_part (P := P) (w := w) (base := base) T
  have cl_T : Cls T.C.K T.C.T := T.cl_Table
  have n_ch : NoAttr T.C.K T.C.T "chances" := T.n_chances
  have cl_P : Cls T.C.K T.C.P := T.cl_Pledge
  have n_age : NoAttr T.C.K T.C.P "age" := T.n_age
  have n_rows : NoAttr T.C.K T.C.P "rows" := T.n_rows
  refine fn_sd (C := T.C) T.F_plus S_plus (by intro _ _ h; first | (obtain ⟨_, rfl, _⟩ := h; rfl) | (obtain ⟨_, _, rfl, _⟩ := h; rfl) | (obtain ⟨_, _, _, rfl, _⟩ := h; rfl) | (obtain ⟨_, _, _, _, rfl, _⟩ := h; rfl) | (obtain ⟨_, _, _, _, _, rfl, _⟩ := h; rfl) | (obtain ⟨_, _, _, _, _, _, rfl, _⟩ := h; rfl) | (obtain ⟨_, _, _, _, _, _, _, rfl, _⟩ := h; rfl) | (obtain ⟨_, _, _, _, _, _, _, _, rfl, _⟩ := h; rfl) | (obtain ⟨_, _, _, _, _, _, _, _, _, rfl, _⟩ := h; rfl)) fun cdv A outer s H E hr => ⟨_, (pss_one (ps_ret (pe_call G_part (hr.mono (by decide)) (by rfl) T.g_part T.F_part.kp T.b_part .nil pass0 (pa_cons (pe_op op_add (pe_op op_mulA (pe_ix (r := rIx T.C.K) ix_seq (pv 0) pe_int (fun _ _ => rfl)) (pe_ix (r := rIx T.C.K) ix_seq (pv 1) pe_int (fun _ _ => rfl))) (pe_op op_mulA (pe_ix (r := rIx T.C.K) ix_seq (pv 1) pe_int (fun _ _ => rfl)) (pe_ix (r := rIx T.C.K) ix_seq (pv 0) pe_int (fun _ _ => rfl)))) (pa_cons (pe_op op_mulA (pe_ix (r := rIx T.C.K) ix_seq (pv 0) pe_int (fun _ _ => rfl)) (pe_ix (r := rIx T.C.K) ix_seq (pv 1) pe_int (fun _ _ => rfl))) pa_nil))))), ?_⟩
  rintro _ _ ⟨x, y, n, m, rfl, hx, hy, h9, rfl⟩
  change SD _ _ _ [.va (dQ x), .va (dQ y)] _
  have m1 : CMulA (pq x).1 (pq y).2 := cmul hx.num hy.den (by omega)
  have m2 : CMulA (pq y).1 (pq x).2 := cmul hy.num hx.den (by omega)
  have m3 : CMulA (pq x).2 (pq y).2 := cmul hx.den hy.den (by omega)
  have hr : rPart [dI ((pq x).1 * (pq y).2 + (pq y).1 * (pq x).2), dI ((pq x).2 * (pq y).2)] (dQ (x + y)) := ⟨_, _, n + m, rfl, Int.mul_ne_zero (den_ne x) (den_ne y), mul_lt2 hx.den hy.den, by omega, by rw [add_divInt]; rfl⟩
  exact sd_ret (by walk_at "xd") rfl
theorem ok_times {P : Program} {w : World} {K : PySem.W.Frag} {mg : Str → Option Value} {base : Heap} (T : Tp K mg) : FnOk P w K mg base CX0 3 T.f_times T.d_times ["one", "other"] (spR T.C rTimes) := by
  have G_part := ok_part (P := P) (w := w) (base := base) T
  have cl_T : Cls T.C.K T.C.T := T.cl_Table
  have n_ch : NoAttr T.C.K T.C.T "chances" := T.n_chances
  have cl_P : Cls T.C.K T.C.P := T.cl_Pledge
  have n_age : NoAttr T.C.K T.C.P "age" := T.n_age
  have n_rows : NoAttr T.C.K T.C.P "rows" := T.n_rows
  refine fn_sd (C := T.C) T.F_times S_times (by intro _ _ h; first | (obtain ⟨_, rfl, _⟩ := h; rfl) | (obtain ⟨_, _, rfl, _⟩ := h; rfl) | (obtain ⟨_, _, _, rfl, _⟩ := h; rfl) | (obtain ⟨_, _, _, _, rfl, _⟩ := h; rfl) | (obtain ⟨_, _, _, _, _, rfl, _⟩ := h; rfl) | (obtain ⟨_, _, _, _, _, _, rfl, _⟩ := h; rfl) | (obtain ⟨_, _, _, _, _, _, _, rfl, _⟩ := h; rfl) | (obtain ⟨_, _, _, _, _, _, _, _, rfl, _⟩ := h; rfl) | (obtain ⟨_, _, _, _, _, _, _, _, _, rfl, _⟩ := h; rfl)) fun cdv A outer s H E hr => ⟨_, (pss_one (ps_ret (pe_call G_part (hr.mono (by decide)) (by rfl) T.g_part T.F_part.kp T.b_part .nil pass0 (pa_cons (pe_op op_mulA (pe_ix (r := rIx T.C.K) ix_seq (pv 0) pe_int (fun _ _ => rfl)) (pe_ix (r := rIx T.C.K) ix_seq (pv 1) pe_int (fun _ _ => rfl))) (pa_cons (pe_op op_mulA (pe_ix (r := rIx T.C.K) ix_seq (pv 0) pe_int (fun _ _ => rfl)) (pe_ix (r := rIx T.C.K) ix_seq (pv 1) pe_int (fun _ _ => rfl))) pa_nil))))), ?_⟩
  rintro _ _ ⟨x, y, n, m, rfl, hx, hy, h9, rfl⟩
  change SD _ _ _ [.va (dQ x), .va (dQ y)] _
  have m1 : CMulA (pq x).1 (pq y).1 := cmul hx.num hy.num (by omega)
  have m3 : CMulA (pq x).2 (pq y).2 := cmul hx.den hy.den (by omega)
  have hr : rPart [dI ((pq x).1 * (pq y).1), dI ((pq x).2 * (pq y).2)] (dQ (x * y)) := ⟨_, _, n + m, rfl, Int.mul_ne_zero (den_ne x) (den_ne y), mul_lt2 hx.den hy.den, by omega, by rw [mul_divInt]; rfl⟩
  exact sd_ret (by walk_at "xd") rfl
theorem ok_over {P : Program} {w : World} {K : PySem.W.Frag} {mg : Str → Option Value} {base : Heap} (T : Tp K mg) : FnOk P w K mg base CX0 3 T.f_over T.d_over ["one", "other"] (spR T.C rOver) := by
  have G_part := ok_part (P := P) (w := w) (base := base) T
  have cl_T : Cls T.C.K T.C.T := T.cl_Table
  have n_ch : NoAttr T.C.K T.C.T "chances" := T.n_chances
  have cl_P : Cls T.C.K T.C.P := T.cl_Pledge
  have n_age : NoAttr T.C.K T.C.P "age" := T.n_age
  have n_rows : NoAttr T.C.K T.C.P "rows" := T.n_rows
  refine fn_sd (C := T.C) T.F_over S_over (by intro _ _ h; first | (obtain ⟨_, rfl, _⟩ := h; rfl) | (obtain ⟨_, _, rfl, _⟩ := h; rfl) | (obtain ⟨_, _, _, rfl, _⟩ := h; rfl) | (obtain ⟨_, _, _, _, rfl, _⟩ := h; rfl) | (obtain ⟨_, _, _, _, _, rfl, _⟩ := h; rfl) | (obtain ⟨_, _, _, _, _, _, rfl, _⟩ := h; rfl) | (obtain ⟨_, _, _, _, _, _, _, rfl, _⟩ := h; rfl) | (obtain ⟨_, _, _, _, _, _, _, _, rfl, _⟩ := h; rfl) | (obtain ⟨_, _, _, _, _, _, _, _, _, rfl, _⟩ := h; rfl)) fun cdv A outer s H E hr => ⟨_, (pss_one (ps_ret (pe_call G_part (hr.mono (by decide)) (by rfl) T.g_part T.F_part.kp T.b_part .nil pass0 (pa_cons (pe_op op_mulA (pe_ix (r := rIx T.C.K) ix_seq (pv 0) pe_int (fun _ _ => rfl)) (pe_ix (r := rIx T.C.K) ix_seq (pv 1) pe_int (fun _ _ => rfl))) (pa_cons (pe_op op_mulA (pe_ix (r := rIx T.C.K) ix_seq (pv 0) pe_int (fun _ _ => rfl)) (pe_ix (r := rIx T.C.K) ix_seq (pv 1) pe_int (fun _ _ => rfl))) pa_nil))))), ?_⟩
  rintro _ _ ⟨x, y, n, m, rfl, hx, hy, h9, h0, rfl⟩
  change SD _ _ _ [.va (dQ x), .va (dQ y)] _
  have m1 : CMulA (pq x).1 (pq y).2 := cmul hx.num hy.den (by omega)
  have m3 : CMulA (pq x).2 (pq y).1 := cmul hx.den hy.num (by omega)
  have hr : rPart [dI ((pq x).1 * (pq y).2), dI ((pq x).2 * (pq y).1)] (dQ (x / y)) := ⟨_, _, n + m, rfl, Int.mul_ne_zero (den_ne x) (num_ne h0), mul_lt2 hx.den hy.num, by omega, by rw [div_divInt]; rfl⟩
  exact sd_ret (by walk_at "xd") rfl
theorem ok_Table_init {P : Program} {w : World} {K : PySem.W.Frag} {mg : Str → Option Value} {base : Heap} (T : Tp K mg) : FnOk P w K mg base CX0 3 T.f_Table_init T.d_Table_init ["self", "chances"] (spI T.C T.c_Table rTabMk) := by
  have G_part := ok_part (P := P) (w := w) (base := base) T
  have cl_T : Cls T.C.K T.C.T := T.cl_Table
  have n_ch : NoAttr T.C.K T.C.T "chances" := T.n_chances
  have cl_P : Cls T.C.K T.C.P := T.cl_Pledge
  have n_age : NoAttr T.C.K T.C.P "age" := T.n_age
  have n_rows : NoAttr T.C.K T.C.P "rows" := T.n_rows
  refine fn_si (C := T.C) (A0 := T.c_Table) T.F_Table_init S_Table_init (by decide) (by intro _ _ h; first | (obtain ⟨_, rfl, _⟩ := h; rfl) | (obtain ⟨_, _, rfl, _⟩ := h; rfl) | (obtain ⟨_, _, _, rfl, _⟩ := h; rfl) | (obtain ⟨_, _, _, _, rfl, _⟩ := h; rfl) | (obtain ⟨_, _, _, _, _, rfl, _⟩ := h; rfl) | (obtain ⟨_, _, _, _, _, _, rfl, _⟩ := h; rfl) | (obtain ⟨_, _, _, _, _, _, _, rfl, _⟩ := h; rfl) | (obtain ⟨_, _, _, _, _, _, _, _, rfl, _⟩ := h; rfl) | (obtain ⟨_, _, _, _, _, _, _, _, _, rfl, _⟩ := h; rfl)) fun cdv A outer s H E hr => ⟨_, (pss_cons (ps_if (pt_not (pt_chain op_le op_le pe_int (pe_callB (r := rLenS T.C.K) call_len_seq (by rfl) T.z_len (by decide +kernel) (pa_cons (pv 1) pa_nil)) pe_int)) (pss_one ps_never) pss_nil)
      (pss_cons (ps_for PassesOwn.never rfl (pi_list (pv 1)) (pg_name (i := 2) S_Table_init.nd rfl (Or.inl rfl)) (pss_one (ps_if (PW.pt (pw_or (pt_not (pt_chain3 op_le op_le op_le pe_int (pe_ix (r := rIx T.C.K) ix_seq (pv 2) pe_int (fun _ _ => rfl)) (pe_ix (r := rIx T.C.K) ix_seq (pv 2) pe_int (fun _ _ => rfl)) (pe_glob (v := .int 10000) rfl T.g_MOST ⟨_, rfl⟩))) (pw_or1 (pt_cmpR op_lt (pe_ix (r := rIx T.C.K) ix_seq (pv 2) pe_int (fun _ _ => rfl)) pe_int (nomark _))))) (pss_one ps_never) pss_nil)))
      (pss_cons (ps_set (i := 3) S_Table_init.nd rfl (Or.inl rfl) (pe_ix (r := rIx T.C.K) ix_seq (pv 1) (pe_un un_neg pe_int) (fun _ _ => rfl)))
      (pss_cons (ps_if (PW.pt (pw_or (pt_cmpR (r := rNeD T.C.K) (op_neD hr.units) (pe_ix (r := rIx T.C.K) ix_seq (pv 3) pe_int (fun _ _ => rfl)) (pe_ix (r := rIx T.C.K) ix_seq (pv 3) pe_int (fun _ _ => rfl)) (nomark _)) (pw_or1 (pt_cmpR (r := rNeD T.C.K) (op_neD hr.units) (pe_lc (own := [("one", 4)]) (g := gName 4) rfl S_Table_init.nd (pi_list (pe_slice sl_list (pv 1) po_none (po_some (pe_un un_neg pe_int)))) (blkOk_by (own := [("one", 4)]) (N := N_Table_init) (sc := defScope s_Table_init) (by decide +kernel)) (fun _ _ _ _ _ => pg_name (i := 4) S_Table_init.nd rfl (Or.inl rfl)) (fun _ _ _ _ _ => (pts_one (pt_cmpR (r := rEqD T.C.K) (op_eqD hr.units) (pe_ix (r := rIx T.C.K) ix_seq (pv 4) pe_int (fun _ _ => rfl)) (pe_ix (r := rIx T.C.K) ix_seq (pv 4) pe_int (fun _ _ => rfl)) (nomark _)))) (fun _ _ _ _ _ => (pv 4))) (pe_lst pa_nil) (nomark _))))) (pss_one ps_never) pss_nil)
      (pss_one (ps_fld (pv 0) (pe_lc (own := [("one", 4)]) (g := gName 4) (tt := tYes) rfl S_Table_init.nd (pi_list (pv 1)) (blkOk_by (own := [("one", 4)]) (N := N_Table_init) (sc := defScope s_Table_init) (by decide +kernel)) (fun _ _ _ _ _ => pg_name (i := 4) S_Table_init.nd rfl (Or.inl rfl)) (fun _ _ _ _ _ => pts_nil) (fun _ _ _ _ _ => (pe_call G_part (hr.mono (by decide)) (by rfl) T.g_part T.F_part.kp T.b_part .nil pass0 (pa_cons (pe_ix (r := rIx T.C.K) ix_seq (pv 4) pe_int (fun _ _ => rfl)) (pa_cons (pe_ix (r := rIx T.C.K) ix_seq (pv 4) pe_int (fun _ _ => rfl)) pa_nil))))) rfl)))))), ?_⟩
  rintro _ _ x ⟨b, ch, rfl, hc, rfl⟩
  change SD _ _ _ [.ob T.c_Table x [], .va (.pd (.list (ch.map pD))), .un, .un, .un] _
  have hn1 := hc.n1
  have hn2 := hc.n20
  refine sd_seq (sd_if (b := false) (td_is (by walk_at "xt") ?_) (fun hb => absurd hb (by decide)) (fun _ => sd_next ?_))
  · rw [List.length_map, decide_eq_true (show (1 : Int) ≤ (ch.length : Int) by omega), decide_eq_true (show (ch.length : Int) ≤ 20 by omega)]
    rfl
  refine sd_seq (sd_for ch pD (id_list (xd_var rfl)) (fun i ds1 => ∃ z, NoOb z ∧ ds1 = [.ob T.c_Table x [], .va (.pd (.list (ch.map pD))), z, .un, .un]) ⟨_, noOb_un, rfl⟩ ?_ ?_)
  · rintro i p ds1 hi ⟨z, _, rfl⟩
    refine ⟨_, gd_name, ?_⟩
    dsimp only [List.set]
    obtain ⟨h1, h2, h3, h4, h5⟩ := hc.ok i p hi
    refine sd_if (b := false) (td_is (by walk_at "xt") ?_) (fun hb => absurd hb (by decide)) (fun _ => sd_next ⟨_, noOb_va, rfl⟩)
    rw [decide_eq_true h1, decide_eq_true h2, decide_eq_true h4, decide_eq_false (show ¬ p.2 < 1 by omega)]
    rfl
  rintro _ ⟨z, hz, rfl⟩
  have hlast : ∃ p, ch[ch.length - 1]? = some p := ⟨_, List.getElem?_eq_getElem (by omega)⟩
  obtain ⟨p, hp⟩ := hlast
  have hch : ch = ch.dropLast ++ [p] := by
    have h2 : ch ≠ [] := fun e => by rw [e] at hn1; exact absurd hn1 (by decide)
    have h3 := List.dropLast_concat_getLast h2
    have h4 : ch.getLast h2 = p := by
      rw [List.getLast_eq_getElem]
      exact Option.some.inj ((List.getElem?_eq_getElem (by omega)).symm.trans hp)
    rw [h4] at h3
    exact h3.symm
  have hat : atI (ch.map pD) (-1) = some (pD p) := by
    rw [hch, List.map_append]
    exact atI_last _ _
  refine sd_seq (sd_asg (xd_op (xd_var rfl) (xd_un xd_int ud_neg) (rd_ixL hat)) ?_)
  dsimp only [List.set]
  have hpe : p.1 = p.2 := (hc.last _ p hp).mpr (by omega)
  have hnone : ch.dropLast.filter (fun p => decide (p.1 = p.2)) = [] := by
    rw [List.filter_eq_nil_iff]
    intro q hq
    obtain ⟨i, hi⟩ := List.getElem?_of_mem hq
    have hi' : i < ch.dropLast.length := (List.getElem?_eq_some_iff.mp hi).1
    rw [List.length_dropLast] at hi'
    rw [List.dropLast_eq_take, List.getElem?_take, if_pos (by omega)] at hi
    have h := hc.last i q hi
    simp only [decide_eq_true_eq]
    omega
  refine sd_seq (sd_if (b := false) (td_is (td_or (k' := false) (td_test (xd_op (xd_op (xd_var rfl) xd_int rd_ix0) (xd_op (xd_var rfl) xd_int rd_ix1) rd_neI)) (fun _ => ?_)) ?_) (fun hb => absurd hb (by decide)) (fun _ => sd_next ?_))
  · refine td_test (xd_op (a := .pd (.list [])) (xl_xd ?_) (xl_xd (xl_lst ap_nil (by decide))) (rd_is (rd_neSelf (d := .list []) rfl) rfl))
    have e : ([] : List PyData) = (ch.dropLast.filter (fun p => decide (p.1 = p.2))).map pD := by rw [hnone]; rfl
    rw [e]
    refine xl_lcI ch.dropLast pD pD _ rfl (by rw [List.length_dropLast]; omega) (id_list (xl_xd ?_)) (fun q hq => td_test (xd_op (xd_op (xd_var rfl) xd_int rd_ix0) (xd_op (xd_var rfl) xd_int rd_ix1) rd_eqI)) (fun q hq _ => xd_var rfl)
    have e2 : ch.dropLast.map pD = cutD (ch.map pD) none (some (-1)) := by rw [cut_last, List.map_dropLast]
    rw [e2]
    exact xl_sl (xd_var rfl) od_none (od_some (xd_un xd_int ud_neg))
  · rw [decide_eq_true hpe]
    rfl
  refine sd_fldL rfl T.cl_Table T.n_chances (by decide) (xl_lc ch pD (fun q => pD (pq (vq q))) rfl (by omega) (id_list (xd_var rfl)) ?_) (fun q hq => absurd hq (by simp)) ?_ ?_
  · intro q hq
    have hok := hc.bp q hq
    have r1 : rPart [dI q.1, dI q.2] (dQ (vq q)) := ⟨_, _, b, rfl, by have := hok.1; omega, hok.2.2, by have h1 := hc.sz; have h2 : 1 * b ≤ ch.length * b := Nat.mul_le_mul_right b hn1; omega, rfl⟩
    walk_at "xd"
  · intro j A' x' fs' h
    match j, h with
    | 0, _ => rfl
    | 1, h => cases h
    | 2, h => exact absurd (Option.some.inj h) (hz _ _ _)
    | 3, h => cases h
    | 4, h => cases h
    | n + 5, h => cases h
  · exact ⟨_, rfl, .inl ⟨_, rfl, rfl, by rw [List.map_map, List.map_map]; rfl⟩⟩
theorem okx_Table_init {P : Program} {w : World} {K : PySem.W.Frag} {mg : Str → Option Value} {base : Heap} (T : Tp K mg) : FnOk P w K mg base (L2.CX P w) 3 T.f_Table_init T.d_Table_init ["self", "chances"] (spIE T.C T.c_Table (rXTab T.c_BadTable)) := by
  have G_part := ok_part (P := P) (w := w) (base := base) T
  have cl_T : Cls T.C.K T.C.T := T.cl_Table
  have n_ch : NoAttr T.C.K T.C.T "chances" := T.n_chances
  have cl_P : Cls T.C.K T.C.P := T.cl_Pledge
  have n_age : NoAttr T.C.K T.C.P "age" := T.n_age
  have n_rows : NoAttr T.C.K T.C.P "rows" := T.n_rows
  refine fn_sxI (C := T.C) (A0 := T.c_Table) T.F_Table_init S_Table_init (by decide) (by intro _ _ h; first | (obtain ⟨_, rfl, _⟩ := h; rfl) | (obtain ⟨_, _, rfl, _⟩ := h; rfl) | (obtain ⟨_, _, _, rfl, _⟩ := h; rfl) | (obtain ⟨_, _, _, _, rfl, _⟩ := h; rfl) | (obtain ⟨_, _, _, _, _, rfl, _⟩ := h; rfl) | (obtain ⟨_, _, _, _, _, _, rfl, _⟩ := h; rfl) | (obtain ⟨_, _, _, _, _, _, _, rfl, _⟩ := h; rfl) | (obtain ⟨_, _, _, _, _, _, _, _, rfl, _⟩ := h; rfl) | (obtain ⟨_, _, _, _, _, _, _, _, _, rfl, _⟩ := h; rfl)) fun cdv A outer s H E hr => ⟨_, (pss_cons (ps_if (pt_not (pt_chain op_le op_le pe_int (pe_callB (r := rLenS T.C.K) call_len_seq (by rfl) T.z_len (by decide +kernel) (pa_cons (pv 1) pa_nil)) pe_int)) (pss_one (ps_raise rfl (takes_of rfl rfl rfl rfl) (pmk_own PySem.F.excBase_ValueError T.x_BadTable T.g_BadTable T.k_BadTable (raises_own T.bb_BadTable T.tt_BadTable) (by rfl)))) pss_nil)
      (pss_cons (ps_for (passes_of rfl) rfl (pi_list (pv 1)) (pg_name (i := 2) S_Table_init.nd rfl (Or.inl rfl)) (pss_one (ps_if (PW.pt (pw_or (pt_not (pt_chain3 op_le op_le op_le pe_int (pe_ix (r := rIx T.C.K) ix_seq (pv 2) pe_int (fun _ _ => rfl)) (pe_ix (r := rIx T.C.K) ix_seq (pv 2) pe_int (fun _ _ => rfl)) (pe_glob (v := .int 10000) rfl T.g_MOST ⟨_, rfl⟩))) (pw_or1 (pt_cmpR op_lt (pe_ix (r := rIx T.C.K) ix_seq (pv 2) pe_int (fun _ _ => rfl)) pe_int (nomark _))))) (pss_one (ps_raise rfl (takes_of rfl rfl rfl rfl) (pmk_own PySem.F.excBase_ValueError T.x_BadTable T.g_BadTable T.k_BadTable (raises_own T.bb_BadTable T.tt_BadTable) (by rfl)))) pss_nil)))
      (pss_cons (ps_set (i := 3) S_Table_init.nd rfl (Or.inl rfl) (pe_ix (r := rIx T.C.K) ix_seq (pv 1) (pe_un un_neg pe_int) (fun _ _ => rfl)))
      (pss_cons (ps_if (PW.pt (pw_or (pt_cmpR (r := rNeD T.C.K) (op_neD hr.units) (pe_ix (r := rIx T.C.K) ix_seq (pv 3) pe_int (fun _ _ => rfl)) (pe_ix (r := rIx T.C.K) ix_seq (pv 3) pe_int (fun _ _ => rfl)) (nomark _)) (pw_or1 (pt_cmpR (r := rNeD T.C.K) (op_neD hr.units) (pe_lc (own := [("one", 4)]) (g := gName 4) rfl S_Table_init.nd (pi_list (pe_slice sl_list (pv 1) po_none (po_some (pe_un un_neg pe_int)))) (blkOk_by (own := [("one", 4)]) (N := N_Table_init) (sc := defScope s_Table_init) (by decide +kernel)) (fun _ _ _ _ _ => pg_name (i := 4) S_Table_init.nd rfl (Or.inl rfl)) (fun _ _ _ _ _ => (pts_one (pt_cmpR (r := rEqD T.C.K) (op_eqD hr.units) (pe_ix (r := rIx T.C.K) ix_seq (pv 4) pe_int (fun _ _ => rfl)) (pe_ix (r := rIx T.C.K) ix_seq (pv 4) pe_int (fun _ _ => rfl)) (nomark _)))) (fun _ _ _ _ _ => (pv 4))) (pe_lst pa_nil) (nomark _))))) (pss_one (ps_raise rfl (takes_of rfl rfl rfl rfl) (pmk_own PySem.F.excBase_ValueError T.x_BadTable T.g_BadTable T.k_BadTable (raises_own T.bb_BadTable T.tt_BadTable) (by rfl)))) pss_nil)
      (PSs.nox (pss_one (ps_fld (pv 0) (pe_lc (own := [("one", 4)]) (g := gName 4) (tt := tYes) rfl S_Table_init.nd (pi_list (pv 1)) (blkOk_by (own := [("one", 4)]) (N := N_Table_init) (sc := defScope s_Table_init) (by decide +kernel)) (fun _ _ _ _ _ => pg_name (i := 4) S_Table_init.nd rfl (Or.inl rfl)) (fun _ _ _ _ _ => pts_nil) (fun _ _ _ _ _ => (pe_call G_part (hr.mono (by decide)) (by rfl) T.g_part T.F_part.kp T.b_part .nil pass0 (pa_cons (pe_ix (r := rIx T.C.K) ix_seq (pv 4) pe_int (fun _ _ => rfl)) (pa_cons (pe_ix (r := rIx T.C.K) ix_seq (pv 4) pe_int (fun _ _ => rfl)) pa_nil))))) rfl))))))), ?_⟩
  rintro _ _ x ⟨ps, rfl, hbad, rfl⟩
  change SD _ _ _ [.ob T.c_Table x [], .va (.pd (.list (ps.map pD))), .un, .un, .un] _
  by_cases hl : ¬ (1 ≤ ps.length ∧ ps.length ≤ 20)
  · refine sd_seq (sd_if (b := true) (td_is (by walk_at "xt") ?_) (fun _ => sd_raise (A := T.c_BadTable) rfl) (fun hb => absurd hb (by decide)))
    rw [List.length_map]
    exact not2 (by omega)
  obtain ⟨hl1, hl2⟩ := Decidable.not_not.mp hl
  refine sd_seq (sd_if (b := false) (td_is (by walk_at "xt") ?_) (fun hb => absurd hb (by decide)) (fun _ => sd_next ?_))
  · rw [List.length_map, decide_eq_true (show (1 : Int) ≤ (ps.length : Int) by omega), decide_eq_true (show (ps.length : Int) ≤ 20 by omega)]
    rfl
  refine sd_seq (sd_for ps pD (id_list (xd_var rfl)) (fun i ds1 => (∀ (j : Nat) (p : Int × Int), j < i → ps[j]? = some p → ChanceOk p) ∧ ∃ z, ds1 = [.ob T.c_Table x [], .va (.pd (.list (ps.map pD))), z, .un, .un]) ⟨fun j p hj _ => absurd hj (by omega), _, rfl⟩ ?_ ?_)
  · rintro i p ds1 hi ⟨hok, z, rfl⟩
    refine ⟨_, gd_name, ?_⟩
    dsimp only [List.set]
    by_cases hp : ChanceOk p
    · refine sd_if (b := false) (td_is (by walk_at "xt") (td_chance.trans (by rw [decide_eq_true hp]; rfl))) (fun hb => absurd hb (by decide)) (fun _ => sd_next ⟨fun j q hj hq => ?_, _, rfl⟩)
      by_cases hji : j < i
      · exact hok j q hji hq
      · have e : j = i := by omega
        subst e
        rw [hi] at hq
        cases hq
        exact hp
    · exact sd_if (b := true) (td_is (by walk_at "xt") (td_chance.trans (by rw [decide_eq_false hp]; rfl))) (fun _ => sd_raise (A := T.c_BadTable) rfl) (fun hb => absurd hb (by decide))
  rintro _ ⟨hok, z, rfl⟩
  obtain ⟨p, hp⟩ : ∃ p, ps[ps.length - 1]? = some p := ⟨_, List.getElem?_eq_getElem (by omega)⟩
  have hat := atI_lastD hl1 hp
  have hcases : p.1 ≠ p.2 ∨ (p.1 = p.2 ∧ ∃ q ∈ ps.dropLast, q.1 = q.2) := by
    rcases hbad with h | ⟨q, hq, h⟩ | ⟨q, hq, h⟩ | h
    · exact absurd ⟨hl1, hl2⟩ h
    · obtain ⟨j, hj⟩ := List.getElem?_of_mem hq
      exact absurd (hok j q (List.getElem?_eq_some_iff.mp hj).1 hj) h
    · rw [hp] at hq
      cases hq
      exact .inl h
    · by_cases e : p.1 = p.2
      · exact .inr ⟨e, h⟩
      · exact .inl e
  refine sd_seq (sd_asg (xd_op (xd_var rfl) (xd_un xd_int ud_neg) (rd_ixL hat)) ?_)
  dsimp only [List.set]
  rcases hcases with h | ⟨h, q, hq, hqe⟩
  · refine sd_seq (sd_if (b := true) (td_is (td_or (k := true) (k' := true) (td_is (td_test (xd_op (xd_op (xd_var rfl) xd_int rd_ix0) (xd_op (xd_var rfl) xd_int rd_ix1) rd_neI)) (by rw [decide_eq_false h]; rfl)) (fun hb => absurd hb (by decide))) (by rfl)) (fun _ => sd_raise (A := T.c_BadTable) rfl) (fun hb => absurd hb (by decide)))
  · obtain ⟨y, ys, hys⟩ : ∃ y ys, ps.dropLast.filter (fun p => decide (p.1 = p.2)) = y :: ys := by
      cases e : ps.dropLast.filter (fun p => decide (p.1 = p.2)) with
      | nil => exact absurd (decide_eq_true hqe) (List.filter_eq_nil_iff.mp e q hq)
      | cons y ys => exact ⟨y, ys, rfl⟩
    refine sd_seq (sd_if (b := true) (td_is (td_or (k := false) (k' := true) (td_is (td_test (xd_op (xd_op (xd_var rfl) xd_int rd_ix0) (xd_op (xd_var rfl) xd_int rd_ix1) rd_neI)) (by rw [decide_eq_true h]; rfl)) (fun _ => ?_)) (by rfl)) (fun _ => sd_raise (A := T.c_BadTable) rfl) (fun hb => absurd hb (by decide)))
    refine td_test (xd_op (a := .pd (.list ((ps.dropLast.filter (fun p => decide (p.1 = p.2))).map pD))) (xl_xd ?_) (xl_xd (xl_lst ap_nil (by decide))) (rd_is (rd_neD (shaped_map pD 1 (by decide) canlay_pD depth_pD _) rfl) ?_))
    · refine xl_lcI ps.dropLast pD pD _ rfl (by rw [List.length_dropLast]; omega) (id_list (xl_xd ?_)) (fun q hq => td_test (xd_op (xd_op (xd_var rfl) xd_int rd_ix0) (xd_op (xd_var rfl) xd_int rd_ix1) rd_eqI)) (fun q hq _ => xd_var rfl)
      have e2 : ps.dropLast.map pD = cutD (ps.map pD) none (some (-1)) := by rw [cut_last, List.map_dropLast]
      rw [e2]
      exact xl_sl (xd_var rfl) od_none (od_some (xd_un xd_int ud_neg))
    · rw [hys, List.map_cons, eqv_ne_nil]
      rfl
theorem okb_Table_init {P : Program} {w : World} {K : PySem.W.Frag} {mg : Str → Option Value} {base : Heap} (T : Tp K mg) : FnOk P w K mg base (L2.CX P w) 3 T.f_Table_init T.d_Table_init ["self", "chances"] (spIB T.C T.c_Table rTabMk (rXTab T.c_BadTable)) := fn_or (C := T.C) (fn_up (C := T.C) (ok_Table_init T)) (okx_Table_init T)
theorem ok_rate_of {P : Program} {w : World} {K : PySem.W.Frag} {mg : Str → Option Value} {base : Heap} (T : Tp K mg) : FnOk P w K mg base CX0 3 T.f_rate_of T.d_rate_of ["rate"] (spR T.C rRateOf) := by
  have G_part := ok_part (P := P) (w := w) (base := base) T
  have cl_T : Cls T.C.K T.C.T := T.cl_Table
  have n_ch : NoAttr T.C.K T.C.T "chances" := T.n_chances
  have cl_P : Cls T.C.K T.C.P := T.cl_Pledge
  have n_age : NoAttr T.C.K T.C.P "age" := T.n_age
  have n_rows : NoAttr T.C.K T.C.P "rows" := T.n_rows
  refine fn_sd (C := T.C) T.F_rate_of S_rate_of (by intro _ _ h; first | (obtain ⟨_, rfl, _⟩ := h; rfl) | (obtain ⟨_, _, rfl, _⟩ := h; rfl) | (obtain ⟨_, _, _, rfl, _⟩ := h; rfl) | (obtain ⟨_, _, _, _, rfl, _⟩ := h; rfl) | (obtain ⟨_, _, _, _, _, rfl, _⟩ := h; rfl) | (obtain ⟨_, _, _, _, _, _, rfl, _⟩ := h; rfl) | (obtain ⟨_, _, _, _, _, _, _, rfl, _⟩ := h; rfl) | (obtain ⟨_, _, _, _, _, _, _, _, rfl, _⟩ := h; rfl) | (obtain ⟨_, _, _, _, _, _, _, _, _, rfl, _⟩ := h; rfl)) fun cdv A outer s H E hr => ⟨_, (pss_cons (ps_if (pt_not (pt_chain3 op_le op_le op_le pe_int (pe_ix (r := rIx T.C.K) ix_seq (pv 0) pe_int (fun _ _ => rfl)) (pe_ix (r := rIx T.C.K) ix_seq (pv 0) pe_int (fun _ _ => rfl)) (pe_glob (v := .int 10000) rfl T.g_MOST ⟨_, rfl⟩))) (pss_one ps_never) pss_nil)
      (pss_one (ps_ret (pe_call G_part (hr.mono (by decide)) (by rfl) T.g_part T.F_part.kp T.b_part .nil pass0 (pa_cons (pe_ix (r := rIx T.C.K) ix_seq (pv 0) pe_int (fun _ _ => rfl)) (pa_cons (pe_ix (r := rIx T.C.K) ix_seq (pv 0) pe_int (fun _ _ => rfl)) pa_nil)))))), ?_⟩
  rintro _ _ ⟨n, r, rfl, hr1, h8, rfl⟩
  change SD _ _ _ [.va (dP r)] _
  obtain ⟨g1, g2, g3, g4⟩ := id hr1
  refine sd_seq (sd_if (b := false) (td_is (by walk_at "xt") ?_) (fun hb => absurd hb (by decide)) (fun _ => sd_next ?_))
  · rw [decide_eq_true g1, decide_eq_true g2, decide_eq_true g3]
    rfl
  have r1 : rPart [dI r.1, dI r.2] (dQ (vq r)) := ⟨_, _, n, rfl, by omega, g4, by omega, rfl⟩
  exact sd_ret (by walk_at "xd") rfl
theorem okx_rate_of {P : Program} {w : World} {K : PySem.W.Frag} {mg : Str → Option Value} {base : Heap} (T : Tp K mg) : FnOk P w K mg base (L2.CX P w) 3 T.f_rate_of T.d_rate_of ["rate"] (spE T.C (rXRateOf T.c_BadRate)) := by
  have G_part := ok_part (P := P) (w := w) (base := base) T
  have cl_T : Cls T.C.K T.C.T := T.cl_Table
  have n_ch : NoAttr T.C.K T.C.T "chances" := T.n_chances
  have cl_P : Cls T.C.K T.C.P := T.cl_Pledge
  have n_age : NoAttr T.C.K T.C.P "age" := T.n_age
  have n_rows : NoAttr T.C.K T.C.P "rows" := T.n_rows
  refine fn_sx (C := T.C) T.F_rate_of S_rate_of (by intro _ _ h; first | (obtain ⟨_, rfl, _⟩ := h; rfl) | (obtain ⟨_, _, rfl, _⟩ := h; rfl) | (obtain ⟨_, _, _, rfl, _⟩ := h; rfl) | (obtain ⟨_, _, _, _, rfl, _⟩ := h; rfl) | (obtain ⟨_, _, _, _, _, rfl, _⟩ := h; rfl) | (obtain ⟨_, _, _, _, _, _, rfl, _⟩ := h; rfl) | (obtain ⟨_, _, _, _, _, _, _, rfl, _⟩ := h; rfl) | (obtain ⟨_, _, _, _, _, _, _, _, rfl, _⟩ := h; rfl) | (obtain ⟨_, _, _, _, _, _, _, _, _, rfl, _⟩ := h; rfl)) fun cdv A outer s H E hr => ⟨_, (pss_cons (ps_if (pt_not (pt_chain3 op_le op_le op_le pe_int (pe_ix (r := rIx T.C.K) ix_seq (pv 0) pe_int (fun _ _ => rfl)) (pe_ix (r := rIx T.C.K) ix_seq (pv 0) pe_int (fun _ _ => rfl)) (pe_glob (v := .int 10000) rfl T.g_MOST ⟨_, rfl⟩))) (pss_one (ps_raise rfl (takes_of rfl rfl rfl rfl) (pmk_own PySem.F.excBase_ValueError T.x_BadRate T.g_BadRate T.k_BadRate (raises_own T.bb_BadRate T.tt_BadRate) (by rfl)))) pss_nil)
      (PSs.nox (pss_one (ps_ret (pe_call G_part (hr.mono (by decide)) (by rfl) T.g_part T.F_part.kp T.b_part .nil pass0 (pa_cons (pe_ix (r := rIx T.C.K) ix_seq (pv 0) pe_int (fun _ _ => rfl)) (pa_cons (pe_ix (r := rIx T.C.K) ix_seq (pv 0) pe_int (fun _ _ => rfl)) pa_nil))))))), ?_⟩
  rintro _ _ ⟨r, rfl, hb, rfl⟩
  change SD _ _ _ [.va (dP r)] _
  exact sd_seq (sd_if (b := true) (td_is (by walk_at "xt") (not3 hb)) (fun _ => sd_raise (A := T.c_BadRate) rfl) (fun hb => absurd hb (by decide)))
theorem okb_rate_of {P : Program} {w : World} {K : PySem.W.Frag} {mg : Str → Option Value} {base : Heap} (T : Tp K mg) : FnOk P w K mg base (L2.CX P w) 3 T.f_rate_of T.d_rate_of ["rate"] (spB T.C rRateOf (rXRateOf T.c_BadRate)) := fn_or (C := T.C) (fn_up (C := T.C) (ok_rate_of T)) (okx_rate_of T)
theorem ok_law_chances {P : Program} {w : World} {K : PySem.W.Frag} {mg : Str → Option Value} {base : Heap} (T : Tp K mg) : FnOk P w K mg base CX0 3 T.f_law_chances T.d_law_chances ["script"] (spO T.C rChances) := by
  have G_law_draw := ok_law_draw (P := P) (w := w) (base := base) T
  have cl_T : Cls T.C.K T.C.T := T.cl_Table
  have n_ch : NoAttr T.C.K T.C.T "chances" := T.n_chances
  have cl_P : Cls T.C.K T.C.P := T.cl_Pledge
  have n_age : NoAttr T.C.K T.C.P "age" := T.n_age
  have n_rows : NoAttr T.C.K T.C.P "rows" := T.n_rows
  refine fn_so (C := T.C) T.F_law_chances S_law_chances (by intro _ _ h; first | (obtain ⟨_, rfl, _⟩ := h; rfl) | (obtain ⟨_, _, rfl, _⟩ := h; rfl) | (obtain ⟨_, _, _, rfl, _⟩ := h; rfl) | (obtain ⟨_, _, _, _, rfl, _⟩ := h; rfl) | (obtain ⟨_, _, _, _, _, rfl, _⟩ := h; rfl) | (obtain ⟨_, _, _, _, _, _, rfl, _⟩ := h; rfl) | (obtain ⟨_, _, _, _, _, _, _, rfl, _⟩ := h; rfl) | (obtain ⟨_, _, _, _, _, _, _, _, rfl, _⟩ := h; rfl) | (obtain ⟨_, _, _, _, _, _, _, _, _, rfl, _⟩ := h; rfl)) fun cdv A outer s H E hr => ⟨_, (pss_cons (ps_set (i := 1) S_law_chances.nd rfl (Or.inl rfl) (pe_op op_modN (pe_call G_law_draw (hr.mono (by decide)) (by rfl) T.g_law_draw T.F_law_draw.kp T.b_law_draw .nil pass0 (pa_cons (pv 0) (pa_cons pe_int pa_nil))) pe_int))
      (pss_cons (ps_set (i := 2) S_law_chances.nd rfl (Or.inl rfl) (pe_op op_add pe_int (pe_op op_modN (pe_call G_law_draw (hr.mono (by decide)) (by rfl) T.g_law_draw T.F_law_draw.kp T.b_law_draw .nil pass0 (pa_cons (pv 0) (pa_cons pe_int pa_nil))) (pe_ix (r := rIx T.C.K) ix_seq (pe_lst (pa_cons pe_int (pa_cons pe_int (pa_cons pe_int (pa_cons pe_int (pa_cons pe_int (pa_cons pe_int (pa_cons pe_int (pa_cons pe_int pa_nil))))))))) (pv 1) (fun _ _ => rfl)))))
      (pss_cons (ps_set (i := 3) S_law_chances.nd rfl (Or.inl rfl) (pe_lst pa_nil))
      (pss_cons (ps_for PassesOwn.never rfl (pi_range1 rfl T.z_range (pa_cons (pv 2) pa_nil)) (pg_name (i := 4) S_law_chances.nd rfl (Or.inl rfl)) (pss_cons (ps_set (i := 5) S_law_chances.nd rfl (Or.inl rfl) (pe_op op_add pe_int (pe_op op_modN (pe_call G_law_draw (hr.mono (by decide)) (by rfl) T.g_law_draw T.F_law_draw.kp T.b_law_draw .nil pass0 (pa_cons (pv 0) (pa_cons (pe_op op_add pe_int (pv 4)) pa_nil))) (pe_ix (r := rIx T.C.K) ix_seq (pe_lst (pa_cons pe_int (pa_cons pe_int (pa_cons pe_int (pa_cons pe_int (pa_cons pe_int (pa_cons pe_int (pa_cons pe_int (pa_cons pe_int pa_nil))))))))) (pv 1) (fun _ _ => rfl)))))
      (pss_one (ps_expr (pe_bm PySem.F.plainAttrs_list PySem.F.slot_list_append PySem.F.type_list_append mt_append (pv 3) (pa_cons (pe_tup (pa_cons (pe_op op_modN (pe_call G_law_draw (hr.mono (by decide)) (by rfl) T.g_law_draw T.F_law_draw.kp T.b_law_draw .nil pass0 (pa_cons (pv 0) (pa_cons (pe_op op_add pe_int (pv 4)) pa_nil))) (pv 5)) (pa_cons (pv 5) pa_nil))) pa_nil))))))
      (pss_one (ps_ret (pe_op op_cat (pe_slice sl_list (pv 3) po_none (po_some (pe_un un_neg pe_int))) (pe_lst (pa_cons (pe_tup (pa_cons (pe_ix (r := rIx T.C.K) ix_seq (pe_ix (r := rIx T.C.K) ix_seq (pv 3) (pe_un un_neg pe_int) (fun _ _ => rfl)) pe_int (fun _ _ => rfl)) (pa_cons (pe_ix (r := rIx T.C.K) ix_seq (pe_ix (r := rIx T.C.K) ix_seq (pv 3) (pe_un un_neg pe_int) (fun _ _ => rfl)) pe_int (fun _ _ => rfl)) pa_nil))) pa_nil))))))))), ?_⟩
  rintro _ _ ⟨ns, rfl, rfl⟩
  change SD _ _ _ [.va (dS ns), .un, .un, .un, .un, .un] _
  have w3 : rDraw [dS ns, dI 3] (dI (draw ns 3)) := ⟨_, _, rfl, by omega, by omega, rfl⟩
  have w1 : rDraw [dS ns, dI 1] (dI (draw ns 1)) := ⟨_, _, rfl, by omega, by omega, rfl⟩
  have hm := mode_b ns
  have hc := mode_cases ns
  have hmb := many_b ns
  walk_at "sx"
  have hat1 : atI [PyData.int 6, .int 6, .int 6, .int 5, .int 5, .int 5, .int 3, .int 20] ((draw ns 3).fmod 8) = some (.int (mMany ns)) := at_const [6, 6, 6, 5, 5, 5, 3, 20] hm.1 hm.2 6
  have hat2 : atI [PyData.int 6, .int 12, .int 12, .int 100, .int 100, .int 7, .int 10000, .int 2] ((draw ns 3).fmod 8) = some (.int (mUnder ns)) := at_const [6, 12, 12, 100, 100, 7, 10000, 2] hm.1 hm.2 6
  have hne1 : mMany ns ≠ 0 := by omega
  have hne2 : mUnder ns ≠ 0 := by omega
  refine sd_seq (sd_asg (d := dI (many ns)) (by walk_at "xd") ?_)
  dsimp only [List.set]
  refine sd_seq (sd_asgO (xl_lst ap_nil (by decide)) ?_)
  dsimp only [List.set]
  refine sd_seq (sd_for (List.range (many ns).toNat) (fun (k : Nat) => PyData.int (k : Int)) (id_rng1 (n := many ns) (by walk_at "ad") (by omega)) (fun i ds1 => ∃ z y, ds1 = [.va (dS ns), .va (dI ((draw ns 3).fmod 8)), .va (dI (many ns)), .ow (((List.range i).map (chD ns)).map pD), z, y]) ⟨_, _, rfl⟩ ?_ ?_)
  · rintro i k ds1 hi ⟨z, y, rfl⟩
    have hi1 : i < (many ns).toNat := by
      have := (List.getElem?_eq_some_iff.mp hi).1
      rw [List.length_range] at this
      exact this
    have hk : k = i := by
      rw [List.getElem?_range hi1] at hi
      exact (Option.some.inj hi).symm
    subst hk
    refine ⟨_, gd_name, ?_⟩
    dsimp only [List.set]
    have v1 : rDraw [dS ns, dI (10 + (k : Int))] (dI (draw ns (10 + (k : Int)))) := ⟨_, _, rfl, by omega, by omega, rfl⟩
    have v2 : rDraw [dS ns, dI (31 + (k : Int))] (dI (draw ns (31 + (k : Int)))) := ⟨_, _, rfl, by omega, by omega, rfl⟩
    refine sd_seq (sd_asg (d := dI (chU ns k)) (by walk_at "xd") ?_)
    dsimp only [List.set]
    have hu := chU_b ns k
    have hne3 : chU ns k ≠ 0 := by omega
    refine sd_app rfl (x := pD (chD ns k)) (by walk_at "xd") ?_ ?_
    · rw [List.length_map, List.length_map, List.length_range]
      omega
    · dsimp only [List.set]
      rw [List.range_succ, List.map_append, List.map_append]
      exact ⟨_, _, rfl⟩
  rintro _ ⟨z, y, rfl⟩
  rw [List.length_range]
  refine sd_shown 3 rfl ?_
  dsimp only [List.set]
  have hlast : atI (((List.range (many ns).toNat).map (chD ns)).map pD) (-1) = some (pD (chD ns ((many ns).toNat - 1))) := by
    have e : (many ns).toNat = ((many ns).toNat - 1) + 1 := by omega
    rw [e, List.range_succ, List.map_append, List.map_append]
    exact atI_last _ _
  have e2 : (chs ns).map pD = cutD (((List.range (many ns).toNat).map (chD ns)).map pD) none (some (-1)) ++ [PyData.tuple [.int (chD ns ((many ns).toNat - 1)).2, .int (chD ns ((many ns).toNat - 1)).2]] := by
    unfold chs
    rw [cut_last, List.map_append, List.map_dropLast]
    rfl
  refine sd_retL (xs := (chs ns).map pD) ?_ rfl
  rw [e2]
  refine xl_cat (xl_sl (xd_var rfl) od_none (od_some (xd_un xd_int ud_neg))) (xl_lst (ap_cons (by walk_at "xd") ap_nil) (Nat.le_of_ble_eq_true rfl)) ?_
  rw [cut_last, List.length_dropLast, List.length_map, List.length_map, List.length_range]
  show (many ns).toNat - 1 + 1 ≤ 100000
  omega
theorem ok_law_rows {P : Program} {w : World} {K : PySem.W.Frag} {mg : Str → Option Value} {base : Heap} (T : Tp K mg) : FnOk P w K mg base CX0 3 T.f_law_rows T.d_law_rows ["script", "years"] (spO T.C rLRows) := by
  have G_law_draw := ok_law_draw (P := P) (w := w) (base := base) T
  have cl_T : Cls T.C.K T.C.T := T.cl_Table
  have n_ch : NoAttr T.C.K T.C.T "chances" := T.n_chances
  have cl_P : Cls T.C.K T.C.P := T.cl_Pledge
  have n_age : NoAttr T.C.K T.C.P "age" := T.n_age
  have n_rows : NoAttr T.C.K T.C.P "rows" := T.n_rows
  refine fn_so (C := T.C) T.F_law_rows S_law_rows (by intro _ _ h; first | (obtain ⟨_, rfl, _⟩ := h; rfl) | (obtain ⟨_, _, rfl, _⟩ := h; rfl) | (obtain ⟨_, _, _, rfl, _⟩ := h; rfl) | (obtain ⟨_, _, _, _, rfl, _⟩ := h; rfl) | (obtain ⟨_, _, _, _, _, rfl, _⟩ := h; rfl) | (obtain ⟨_, _, _, _, _, _, rfl, _⟩ := h; rfl) | (obtain ⟨_, _, _, _, _, _, _, rfl, _⟩ := h; rfl) | (obtain ⟨_, _, _, _, _, _, _, _, rfl, _⟩ := h; rfl) | (obtain ⟨_, _, _, _, _, _, _, _, _, rfl, _⟩ := h; rfl)) fun cdv A outer s H E hr => ⟨_, (pss_cons (ps_set (i := 2) S_law_rows.nd rfl (Or.inl rfl) (pe_lst pa_nil))
      (pss_cons (ps_for PassesOwn.never rfl (pi_range1 rfl T.z_range (pa_cons (pv 1) pa_nil)) (pg_name (i := 3) S_law_rows.nd rfl (Or.inr rfl)) (pss_cons (ps_set (i := 4) S_law_rows.nd rfl (Or.inr rfl) (pe_ix (r := rIx T.C.K) ix_seq (pe_lst (pa_cons pe_int (pa_cons pe_int (pa_cons pe_int pa_nil)))) (pe_op op_modN (pe_call G_law_draw (hr.mono (by decide)) (by rfl) T.g_law_draw T.F_law_draw.kp T.b_law_draw .nil pass0 (pa_cons (pv 0) (pa_cons pe_int pa_nil))) pe_int) (fun _ _ => rfl)))
      (pss_one (ps_expr (pe_bm PySem.F.plainAttrs_list PySem.F.slot_list_append PySem.F.type_list_append mt_append (pv 2) (pa_cons (pe_callTy (r := rTupS T.C.K) call_tuple_of (by rfl) T.z_tuple (by decide +kernel) (pa_cons (pe_lc (own := [("j", 5)]) (g := gName 5) (tt := tYes) rfl S_law_rows.nd (pi_range1 rfl T.z_range (pa_cons pe_int pa_nil)) (blkOk_by (own := [("j", 5)]) (N := N_law_rows) (sc := defScope s_law_rows) (by decide +kernel)) (fun _ _ _ _ _ => pg_name (i := 5) S_law_rows.nd rfl (Or.inl rfl)) (fun _ _ _ _ _ => pts_nil) (fun _ _ _ _ _ => (pe_op op_modN (pe_call G_law_draw (hr.mono (by decide)) (by rfl) T.g_law_draw T.F_law_draw.kp T.b_law_draw .nil pass0 (pa_cons (pv 0) (pa_cons (pe_op op_add (pe_op op_add pe_int (pe_op op_mulA pe_int (pv 3))) (pv 5)) pa_nil))) (pv 4)))) pa_nil)) pa_nil))))))
      (pss_one (ps_ret (pv 2))))), ?_⟩
  rintro _ _ ⟨ns, m, rfl, h0, h1, rfl⟩
  change SD _ _ _ [.va (dS ns), .va (dI m), .un, .un, .un, .un] _
  have w7 : rDraw [dS ns, dI 7] (dI (draw ns 7)) := ⟨_, _, rfl, by omega, by omega, rfl⟩
  have g1 := fm_ge (draw ns 7) (b := 3) (by decide)
  have g2 := fm_lt (draw ns 7) (b := 3) (by decide)
  have hmb := lmost_b ns
  have hne : lmost ns ≠ 0 := by omega
  have hat1 : atI [PyData.int 10, .int 1000, .int 1000001] ((draw ns 7).fmod 3) = some (.int (lmost ns)) := at_const [10, 1000, 1000001] g1 g2 10
  refine sd_seq (sd_asgO (xl_lst ap_nil (by decide)) ?_)
  dsimp only [List.set]
  refine sd_seq (sd_for (List.range m.toNat) (fun (k : Nat) => PyData.int (k : Int)) (id_rng1 (n := m) (by walk_at "ad") (by omega)) (fun i ds1 => ∃ z y w, ds1 = [.va (dS ns), .va (dI m), .ow ((lrows ns i).map rD), z, y, w]) ⟨_, _, _, rfl⟩ ?_ ?_)
  · rintro i k ds1 hi ⟨z, y, w, rfl⟩
    have hi1 : i < m.toNat := by
      have := (List.getElem?_eq_some_iff.mp hi).1
      rw [List.length_range] at this
      exact this
    have hk : k = i := by
      rw [List.getElem?_range hi1] at hi
      exact (Option.some.inj hi).symm
    subst hk
    refine ⟨_, gd_name, ?_⟩
    dsimp only [List.set]
    walk_at "sx"
    have hj : ∀ j : Nat, j < 3 → rDraw [dS ns, dI (100 + 3 * (k : Int) + (j : Int))] (dI (draw ns (100 + 3 * (k : Int) + (j : Int)))) := fun j hj => ⟨_, _, rfl, by omega, by omega, rfl⟩
    refine sd_app rfl (x := rD (rowD ns k)) (xd_cb (ad_cons (xl_xd (xs := (List.range 3).map fun (j : Nat) => PyData.int ((draw ns (100 + 3 * (k : Int) + (j : Int))).fmod (lmost ns))) (xl_lc (List.range 3) (fun (j : Nat) => PyData.int (j : Int)) _ rfl (by decide) (id_rng1 (n := 3) (by walk_at "ad") (by decide)) ?_)) ad_nil) cd_tupL) ?_ ?_
    · intro j hj1
      have h3 := List.mem_range.mp hj1
      have r1 := hj j h3
      walk_at "xd"
    · rw [List.length_map, lrows_len]
      omega
    · dsimp only [List.set]
      have e : (lrows ns (k + 1)).map rD = (lrows ns k).map rD ++ [rD (rowD ns k)] := by
        unfold lrows
        rw [List.range_succ, List.map_append, List.map_append]
        rfl
      rw [e]
      exact ⟨_, _, _, rfl⟩
  rintro _ ⟨z, y, w, rfl⟩
  rw [List.length_range]
  exact sd_retO rfl rfl
theorem ok_law_begin {P : Program} {w : World} {K : PySem.W.Frag} {mg : Str → Option Value} {base : Heap} (T : Tp K mg) : FnOk P w K mg base CX0 3 T.f_law_begin T.d_law_begin ["script", "ages"] (spR T.C rBegin) := by
  have G_law_draw := ok_law_draw (P := P) (w := w) (base := base) T
  have cl_T : Cls T.C.K T.C.T := T.cl_Table
  have n_ch : NoAttr T.C.K T.C.T "chances" := T.n_chances
  have cl_P : Cls T.C.K T.C.P := T.cl_Pledge
  have n_age : NoAttr T.C.K T.C.P "age" := T.n_age
  have n_rows : NoAttr T.C.K T.C.P "rows" := T.n_rows
  refine fn_sd (C := T.C) T.F_law_begin S_law_begin (by intro _ _ h; first | (obtain ⟨_, rfl, _⟩ := h; rfl) | (obtain ⟨_, _, rfl, _⟩ := h; rfl) | (obtain ⟨_, _, _, rfl, _⟩ := h; rfl) | (obtain ⟨_, _, _, _, rfl, _⟩ := h; rfl) | (obtain ⟨_, _, _, _, _, rfl, _⟩ := h; rfl) | (obtain ⟨_, _, _, _, _, _, rfl, _⟩ := h; rfl) | (obtain ⟨_, _, _, _, _, _, _, rfl, _⟩ := h; rfl) | (obtain ⟨_, _, _, _, _, _, _, _, rfl, _⟩ := h; rfl) | (obtain ⟨_, _, _, _, _, _, _, _, _, rfl, _⟩ := h; rfl)) fun cdv A outer s H E hr => ⟨_, (pss_cons (ps_set (i := 2) S_law_begin.nd rfl (Or.inl rfl) (pe_op op_modN (pe_call G_law_draw (hr.mono (by decide)) (by rfl) T.g_law_draw T.F_law_draw.kp T.b_law_draw .nil pass0 (pa_cons (pv 0) (pa_cons pe_int pa_nil))) (pv 1)))
      (pss_one (ps_ret (pe_tup (pa_cons (pv 2) (pa_cons (pe_op op_add pe_int (pe_op op_modN (pe_call G_law_draw (hr.mono (by decide)) (by rfl) T.g_law_draw T.F_law_draw.kp T.b_law_draw .nil pass0 (pa_cons (pv 0) (pa_cons pe_int pa_nil))) (pe_callB (call_min2 rfl) (by rfl) T.z_min (by decide +kernel) (pa_cons (pe_op op_sub (pv 1) (pv 2)) (pa_cons pe_int pa_nil))))) pa_nil)))))), ?_⟩
  rintro _ _ ⟨ns, ages, rfl, h1, h2, rfl⟩
  change SD _ _ _ [.va (dS ns), .va (dI ages), .un] _
  have w8 : rDraw [dS ns, dI 8] (dI (draw ns 8)) := ⟨_, _, rfl, by omega, by omega, rfl⟩
  have w9 : rDraw [dS ns, dI 9] (dI (draw ns 9)) := ⟨_, _, rfl, by omega, by omega, rfl⟩
  have hb := lbegin_b ns h1
  have hne : ages ≠ 0 := by omega
  refine sd_seq (sd_asg (d := dI (lage ns ages)) (by walk_at "xd") ?_)
  dsimp only [List.set]
  have hne2 : (if 6 < ages - lage ns ages then 6 else ages - lage ns ages) ≠ 0 := by split <;> omega
  exact sd_ret (d := .pd (.tuple [.int (lage ns ages), .int (lyears ns ages)])) (by walk_at "xd") rfl
theorem ok_law_made {P : Program} {w : World} {K : PySem.W.Frag} {mg : Str → Option Value} {base : Heap} (T : Tp K mg) : FnOk P w K mg base CX0 3 T.f_law_made T.d_law_made ["age", "rows"] (spR T.C (rMade5 T.c_BadPledge)) := by
  have G_Pledge_init := ok_Pledge_init (P := P) (w := w) (base := base) T
  have B_Pledge_init := okb_Pledge_init (P := P) (w := w) (base := base) T
  have cl_T : Cls T.C.K T.C.T := T.cl_Table
  have n_ch : NoAttr T.C.K T.C.T "chances" := T.n_chances
  have cl_P : Cls T.C.K T.C.P := T.cl_Pledge
  have n_age : NoAttr T.C.K T.C.P "age" := T.n_age
  have n_rows : NoAttr T.C.K T.C.P "rows" := T.n_rows
  refine fn_sd (C := T.C) T.F_law_made S_law_made (by intro _ _ h; first | (obtain ⟨_, rfl, _⟩ := h; rfl) | (obtain ⟨_, _, rfl, _⟩ := h; rfl) | (obtain ⟨_, _, _, rfl, _⟩ := h; rfl) | (obtain ⟨_, _, _, _, rfl, _⟩ := h; rfl) | (obtain ⟨_, _, _, _, _, rfl, _⟩ := h; rfl) | (obtain ⟨_, _, _, _, _, _, rfl, _⟩ := h; rfl) | (obtain ⟨_, _, _, _, _, _, _, rfl, _⟩ := h; rfl) | (obtain ⟨_, _, _, _, _, _, _, _, rfl, _⟩ := h; rfl) | (obtain ⟨_, _, _, _, _, _, _, _, _, rfl, _⟩ := h; rfl)) fun cdv A outer s H E hr => ⟨_, (pss_cons (ps_set (i := 2) S_law_made.nd rfl (Or.inl rfl) pe_non)
      (pss_cons (ps_try_keep (i := 3) rfl rfl rfl S_law_made.nd rfl rfl ⟨rfl, by decide, .inl T.g_PledgeError⟩ takes0 (fun W pn xe tk po => (pss_one (ps_set (i := 2) S_law_made.nd rfl (Or.inl rfl) (pe_makeS T.mk_Pledge B_Pledge_init (hr.mono (by decide)) (by rfl) T.g_Pledge T.b_Pledge_init (fun σ => passAt tk σ) (pa_cons (pv 0) (pa_cons (pv 1) pa_nil)))))) (fun a oe cls d pn hz hf => pss_one (ps_set (i := 2) S_law_made.nd rfl (Or.inl rfl) (pv 3))))
      (pss_one (ps_ret (pv 2))))), ?_⟩
  rintro _ d ⟨a, l, rfl, h⟩
  change SD _ _ _ [.va (dI a), .va (.pd l), .un, .un] _
  walk_at "sx"
  refine sd_seq (sd_try (by decide) (Nat.le_of_ble_eq_true rfl) fun W => ?_)
  rcases h with h | ⟨h, rfl⟩
  · refine sd_asg (by walk_at "xd") ?_
    dsimp only [List.set]
    exact sd_ret (by walk_at "xd") rfl
  · refine sd_asgX (by walk_at "xx") ⟨T.c_BadPledge, rfl, rfl, T.em_BadPledge, ?_⟩
    dsimp only [List.set]
    exact sd_ret (by walk_at "xd") rfl
theorem ok_law_kept {P : Program} {w : World} {K : PySem.W.Frag} {mg : Str → Option Value} {base : Heap} (T : Tp K mg) : FnOk P w K mg base CX0 3 T.f_law_kept T.d_law_kept ["script", "age", "rows"] (spR T.C rKept) := by
  have G_Pledge_init := ok_Pledge_init (P := P) (w := w) (base := base) T
  have G_Pledge_years := ok_Pledge_years (P := P) (w := w) (base := base) T
  have G_law_whole := ok_law_whole (P := P) (w := w) (base := base) T
  have cl_T : Cls T.C.K T.C.T := T.cl_Table
  have n_ch : NoAttr T.C.K T.C.T "chances" := T.n_chances
  have cl_P : Cls T.C.K T.C.P := T.cl_Pledge
  have n_age : NoAttr T.C.K T.C.P "age" := T.n_age
  have n_rows : NoAttr T.C.K T.C.P "rows" := T.n_rows
  refine fn_sd (C := T.C) T.F_law_kept S_law_kept (by intro _ _ h; first | (obtain ⟨_, rfl, _⟩ := h; rfl) | (obtain ⟨_, _, rfl, _⟩ := h; rfl) | (obtain ⟨_, _, _, rfl, _⟩ := h; rfl) | (obtain ⟨_, _, _, _, rfl, _⟩ := h; rfl) | (obtain ⟨_, _, _, _, _, rfl, _⟩ := h; rfl) | (obtain ⟨_, _, _, _, _, _, rfl, _⟩ := h; rfl) | (obtain ⟨_, _, _, _, _, _, _, rfl, _⟩ := h; rfl) | (obtain ⟨_, _, _, _, _, _, _, _, rfl, _⟩ := h; rfl) | (obtain ⟨_, _, _, _, _, _, _, _, _, rfl, _⟩ := h; rfl)) fun cdv A outer s H E hr => ⟨_, (pss_cons (ps_setLc (i := 3) (own := [("row", 5)]) (g := gName 5) (tt := tYes) rfl S_law_kept.nd rfl rfl (sw_true rfl rfl rfl (by decide +kernel)) (pi_list (pv 2)) (blkOk_by (own := [("row", 5)]) (N := N_law_kept) (sc := defScope s_law_kept) (by decide +kernel)) (fun _ _ _ _ _ => pg_name (i := 5) S_law_kept.nd rfl (Or.inl rfl)) (fun _ _ _ _ _ => pts_nil) (fun _ _ _ _ _ => (pe_callTy (r := rListS T.C.K) call_list_of (by rfl) T.z_list (by decide +kernel) (pa_cons (pv 5) pa_nil))))
      (pss_cons (ps_set (i := 4) S_law_kept.nd rfl (Or.inl rfl) (pe_make T.mk_Pledge G_Pledge_init (hr.mono (by decide)) (by rfl) T.g_Pledge T.b_Pledge_init .nil pass0 (pa_cons (pv 1) (pa_cons (pv 3) pa_nil))))
      (pss_cons (ps_for PassesOwn.never rfl (pi_list (pv 3)) (pg_name (i := 5) S_law_kept.nd rfl (Or.inl rfl)) (pss_one (ps_expr (pe_bm PySem.F.plainAttrs_list PySem.F.slot_list_append PySem.F.type_list_append mt_append (pv 5) (pa_cons pe_int pa_nil)))))
      (pss_cons (ps_expr (pe_bm0 PySem.F.plainAttrs_list PySem.F.slot_list_clear PySem.F.type_list_clear mt_clear (pv 3)))
      (pss_cons (ps_if (PW.pt (pw_or (pt_not (pt_val (pe_callB (r := rIsi T.C.K) call_isi (by rfl) T.z_isinstance (by decide +kernel) (pa_cons (pe_fld (pv 4) rfl) (pa_cons (pe_bltn (v := .ty "list") (by rfl) T.z_list (by decide +kernel) rfl) pa_nil))))) (pw_or (pt_cmpR (r := rNeD T.C.K) (op_neD hr.units) (pe_fld (pv 4) rfl) (pv 2) (nomark _)) (pw_or1 (pt_cmpR (r := rNeD T.C.K) (op_neD hr.units) (pe_fld (pv 4) rfl) (pv 1) (nomark _)))))) (pss_one (ps_ret pe_bl)) pss_nil)
      (pss_one (ps_ret (pe_and (pe_call G_law_whole (hr.mono (by decide)) (by rfl) T.g_law_whole T.F_law_whole.kp T.b_law_whole .nil pass0 (pa_cons (pe_meth0 (pv 4) T.cl_Pledge T.m_Pledge_years G_Pledge_years (hr.mono (by decide)) T.b_Pledge_years .nil pass0 ) pa_nil)) (pe_one (pe_cmpR (r := rEqD T.C.K) (op_eqD hr.units) (pe_meth0 (pv 4) T.cl_Pledge T.m_Pledge_years G_Pledge_years (hr.mono (by decide)) T.b_Pledge_years .nil pass0 ) (pe_callB (r := rLenS T.C.K) call_len_seq (by rfl) T.z_len (by decide +kernel) (pa_cons (pv 2) pa_nil)) (nomark _))))))))))), ?_⟩
  rintro _ _ ⟨ns, a, rows, rfl, hp, rfl⟩
  change SD _ _ _ [.va (dS ns), .va (dI a), .va (.pd (.list (rows.map rD))), .un, .un, .un] _
  have hl20 := hp.l20
  have r6 : rPleMk [dI a, .pd (.list (rows.map rL))] (.ple a rows) := ⟨a, rows, rL, rfl, .inr rfl, hp, rfl⟩
  refine sd_seq (sd_asgN (i := 3) (rs := rows.map rowL) (xn_lc rows rD rowL rfl (by omega) (id_list (xd_var rfl)) (fun r hr => xl_cb (ad_cons (xd_var rfl) ad_nil) cl_listT)) (only_of (by rfl)) ?_)
  dsimp only [List.set]
  refine sd_seq (sd_asg (d := .ple a rows) (xd_makeN (i := 3) rfl (ad_is (by walk_at "ad") (by rw [lds_rows])) r6 (fun p z => by cases z)) ?_)
  dsimp only [List.set]
  refine sd_seq (sd_forApp (i := 3) (r := 5) (n := 7) rfl (by decide) (by show 5 < 6; decide) (fun r hr => ?_) ?_)
  · obtain ⟨w, _, rfl⟩ := List.mem_map.mp hr
    show 3 < 100000
    decide
  dsimp only [List.set]
  refine sd_seq (sd_clearN (i := 3) rfl ?_)
  dsimp only [List.set]
  have hsh : SeqAt.shaped (.list (rows.map rD)) = true := shaped_map rD 1 (by decide) (fun p => by simp only [rD, PyData.canLay0, PyData.canLayAll0, Bool.and_self]) (fun p => by simp only [rD, PyData.depth, PyData.depthAll]; omega) _
  have r7 : rYears [.ple a rows] (dI rows.length) := ⟨_, _, rfl, rfl⟩
  have r8 : rWhole [dI rows.length] (dB true) := ⟨_, rfl, rfl⟩
  refine sd_seq (sd_if (b := false) (td_is (td_or (k := false) (k' := false) (td_is (by walk_at "xt") (by rfl)) fun _ => td_or (k := false) (k' := false) (td_test (xd_op (by walk_at "xd") (by walk_at "xd") (rd_neSelf hsh))) fun _ => td_is (by walk_at "xt") (by rw [decide_eq_true rfl]; rfl)) (by rfl)) (fun hb => absurd hb (by decide)) (fun _ => sd_next ?_))
  refine sd_ret (xd_is (xd_andV (k := true) (k' := true) (xd_call (ad_cons (xd_methP (by decide +kernel) (by decide +kernel) (xd_var rfl) ad_nil r7) ad_nil) r8) fun _ => xd_is (xd_op (xd_methP (by decide +kernel) (by decide +kernel) (xd_var rfl) ad_nil r7) (by walk_at "xd") rd_eqI) (by rw [List.length_map, decide_eq_true rfl])) (by rfl)) rfl
theorem ok_less {P : Program} {w : World} {K : PySem.W.Frag} {mg : Str → Option Value} {base : Heap} (T : Tp K mg) : FnOk P w K mg base CX0 4 T.f_less T.d_less ["one", "other"] (spR T.C rLess) := by
  have G_plus := ok_plus (P := P) (w := w) (base := base) T
  have cl_T : Cls T.C.K T.C.T := T.cl_Table
  have n_ch : NoAttr T.C.K T.C.T "chances" := T.n_chances
  have cl_P : Cls T.C.K T.C.P := T.cl_Pledge
  have n_age : NoAttr T.C.K T.C.P "age" := T.n_age
  have n_rows : NoAttr T.C.K T.C.P "rows" := T.n_rows
  refine fn_sd (C := T.C) T.F_less S_less (by intro _ _ h; first | (obtain ⟨_, rfl, _⟩ := h; rfl) | (obtain ⟨_, _, rfl, _⟩ := h; rfl) | (obtain ⟨_, _, _, rfl, _⟩ := h; rfl) | (obtain ⟨_, _, _, _, rfl, _⟩ := h; rfl) | (obtain ⟨_, _, _, _, _, rfl, _⟩ := h; rfl) | (obtain ⟨_, _, _, _, _, _, rfl, _⟩ := h; rfl) | (obtain ⟨_, _, _, _, _, _, _, rfl, _⟩ := h; rfl) | (obtain ⟨_, _, _, _, _, _, _, _, rfl, _⟩ := h; rfl) | (obtain ⟨_, _, _, _, _, _, _, _, _, rfl, _⟩ := h; rfl)) fun cdv A outer s H E hr => ⟨_, (pss_one (ps_ret (pe_call G_plus (hr.mono (by decide)) (by rfl) T.g_plus T.F_plus.kp T.b_plus .nil pass0 (pa_cons (pv 0) (pa_cons (pe_tup (pa_cons (pe_op op_sub pe_int (pe_ix (r := rIx T.C.K) ix_seq (pv 1) pe_int (fun _ _ => rfl))) (pa_cons (pe_ix (r := rIx T.C.K) ix_seq (pv 1) pe_int (fun _ _ => rfl)) pa_nil))) pa_nil))))), ?_⟩
  rintro _ _ ⟨x, y, n, m, rfl, hx, hy, h9, rfl⟩
  change SD _ _ _ [.va (dQ x), .va (dQ y)] _
  have hr : rPlus [dQ x, .pd (.tuple [.int (0 - (pq y).1), .int (pq y).2])] (dQ (x - y)) := ⟨x, -y, n, m, by rw [Int.zero_sub]; rfl, hx, hy.neg, h9, by rw [Rat.sub_eq_add_neg]⟩
  exact sd_ret (by walk_at "xd") rfl
theorem ok_summed {P : Program} {w : World} {K : PySem.W.Frag} {mg : Str → Option Value} {base : Heap} (T : Tp K mg) : FnOk P w K mg base CX0 4 T.f_summed T.d_summed ["row"] (spR T.C rSummed) := by
  have G_plus := ok_plus (P := P) (w := w) (base := base) T
  have cl_T : Cls T.C.K T.C.T := T.cl_Table
  have n_ch : NoAttr T.C.K T.C.T "chances" := T.n_chances
  have cl_P : Cls T.C.K T.C.P := T.cl_Pledge
  have n_age : NoAttr T.C.K T.C.P "age" := T.n_age
  have n_rows : NoAttr T.C.K T.C.P "rows" := T.n_rows
  refine fn_sd (C := T.C) T.F_summed S_summed (by intro _ _ h; first | (obtain ⟨_, rfl, _⟩ := h; rfl) | (obtain ⟨_, _, rfl, _⟩ := h; rfl) | (obtain ⟨_, _, _, rfl, _⟩ := h; rfl) | (obtain ⟨_, _, _, _, rfl, _⟩ := h; rfl) | (obtain ⟨_, _, _, _, _, rfl, _⟩ := h; rfl) | (obtain ⟨_, _, _, _, _, _, rfl, _⟩ := h; rfl) | (obtain ⟨_, _, _, _, _, _, _, rfl, _⟩ := h; rfl) | (obtain ⟨_, _, _, _, _, _, _, _, rfl, _⟩ := h; rfl) | (obtain ⟨_, _, _, _, _, _, _, _, _, rfl, _⟩ := h; rfl)) fun cdv A outer s H E hr => ⟨_, (pss_cons (ps_set (i := 1) S_summed.nd rfl (Or.inl rfl) (pe_tup (pa_cons pe_int (pa_cons pe_int pa_nil))))
      (pss_cons (ps_for PassesOwn.never rfl (pi_list (pv 0)) (pg_name (i := 2) S_summed.nd rfl (Or.inl rfl)) (pss_one (ps_set (i := 1) S_summed.nd rfl (Or.inl rfl) (pe_call G_plus (hr.mono (by decide)) (by rfl) T.g_plus T.F_plus.kp T.b_plus .nil pass0 (pa_cons (pv 1) (pa_cons (pv 2) pa_nil))))))
      (pss_one (ps_ret (pv 1))))), ?_⟩
  rintro _ _ ⟨xs, n, rfl, hx, h9, rfl⟩
  change SD _ _ _ [.va (.pd (.list (xs.map fun x => pD (pq x)))), .un, .un] _
  walk_at "sx"
  refine sd_seq (sd_for xs (fun x => pD (pq x)) (id_list (xd_var rfl)) (fun i ds1 => ∃ z, ds1 = [.va (.pd (.list (xs.map fun x => pD (pq x)))), .va (dQ (xs.take i).sum), z]) ⟨_, rfl⟩ ?_ ?_)
  · rintro i x ds1 hi ⟨z, rfl⟩
    refine ⟨_, gd_name, ?_⟩
    dsimp only [List.set]
    have hlt : i < xs.length := (List.getElem?_eq_some_iff.mp hi).1
    have hr : rPlus [dQ (xs.take i).sum, dQ x] (dQ (xs.take (i + 1)).sum) := ⟨_, _, _, n, rfl, bd_take hx (by omega), hx x (getE_mem hi), by omega, by rw [sum_take_succ hi]⟩
    refine sd_asg (by walk_at "xd") ?_
    exact ⟨_, rfl⟩
  · rintro ds1 ⟨z, rfl⟩
    refine sd_ret (by walk_at "xd") ?_
    show dQ _ = dQ _
    rw [List.take_length]
theorem ok_later {P : Program} {w : World} {K : PySem.W.Frag} {mg : Str → Option Value} {base : Heap} (T : Tp K mg) : FnOk P w K mg base CX0 4 T.f_later T.d_later ["rate", "years"] (spR T.C rLater) := by
  have G_rate_of := ok_rate_of (P := P) (w := w) (base := base) T
  have G_times := ok_times (P := P) (w := w) (base := base) T
  have cl_T : Cls T.C.K T.C.T := T.cl_Table
  have n_ch : NoAttr T.C.K T.C.T "chances" := T.n_chances
  have cl_P : Cls T.C.K T.C.P := T.cl_Pledge
  have n_age : NoAttr T.C.K T.C.P "age" := T.n_age
  have n_rows : NoAttr T.C.K T.C.P "rows" := T.n_rows
  refine fn_sd (C := T.C) T.F_later S_later (by intro _ _ h; first | (obtain ⟨_, rfl, _⟩ := h; rfl) | (obtain ⟨_, _, rfl, _⟩ := h; rfl) | (obtain ⟨_, _, _, rfl, _⟩ := h; rfl) | (obtain ⟨_, _, _, _, rfl, _⟩ := h; rfl) | (obtain ⟨_, _, _, _, _, rfl, _⟩ := h; rfl) | (obtain ⟨_, _, _, _, _, _, rfl, _⟩ := h; rfl) | (obtain ⟨_, _, _, _, _, _, _, rfl, _⟩ := h; rfl) | (obtain ⟨_, _, _, _, _, _, _, _, rfl, _⟩ := h; rfl) | (obtain ⟨_, _, _, _, _, _, _, _, _, rfl, _⟩ := h; rfl)) fun cdv A outer s H E hr => ⟨_, (pss_cons (ps_set (i := 0) S_later.nd rfl (Or.inl rfl) (pe_call G_rate_of (hr.mono (by decide)) (by rfl) T.g_rate_of T.F_rate_of.kp T.b_rate_of .nil pass0 (pa_cons (pv 0) pa_nil)))
      (pss_cons (ps_if (pt_cmpR op_lt (pv 1) pe_int (nomark _)) (pss_one ps_never) pss_nil)
      (pss_cons (ps_set (i := 2) S_later.nd rfl (Or.inl rfl) (pe_tup (pa_cons pe_int (pa_cons pe_int pa_nil))))
      (pss_cons (ps_for PassesOwn.never rfl (pi_range1 rfl T.z_range (pa_cons (pv 1) pa_nil)) (pg_name (i := 3) S_later.nd rfl (Or.inl rfl)) (pss_one (ps_set (i := 2) S_later.nd rfl (Or.inl rfl) (pe_call G_times (hr.mono (by decide)) (by rfl) T.g_times T.F_times.kp T.b_times .nil pass0 (pa_cons (pv 2) (pa_cons (pv 0) pa_nil))))))
      (pss_one (ps_ret (pv 2))))))), ?_⟩
  rintro _ _ ⟨n, r, y, rfl, hr1, h0, h1, h8, rfl⟩
  change SD _ _ _ [.va (dP r), .va (dI y), .un, .un] _
  have r1 : rRateOf [dP r] (dQ (vq r)) := ⟨n, r, rfl, hr1, by omega, rfl⟩
  walk_at "sx"
  refine sd_seq (sd_if (b := false) (td_is (by walk_at "xt") (decide_eq_false (by omega))) (fun hb => absurd hb (by decide)) (fun _ => sd_next ?_))
  walk_at "sx"
  refine sd_seq (sd_for (List.range y.toNat) (fun (k : Nat) => PyData.int (k : Int)) (id_rng1 (n := y) (by walk_at "ad") (by omega)) (fun i ds1 => ∃ z, ds1 = [.va (dQ (vq r)), .va (dI y), .va (dQ (vq r ^ i)), z]) ⟨_, by rw [Rat.pow_zero]; rfl⟩ ?_ ?_)
  · rintro i k ds1 hi ⟨z, rfl⟩
    have hi1 : i < y.toNat := by
      have := (List.getElem?_eq_some_iff.mp hi).1
      rw [List.length_range] at this
      exact this
    refine ⟨_, gd_name, ?_⟩
    dsimp only [List.set]
    have hm : i * n ≤ y.toNat * n := Nat.mul_le_mul_right n (by omega)
    have r2 : rTimes [dQ (vq r ^ i), dQ (vq r)] (dQ (vq r ^ (i + 1))) := ⟨_, _, _, n, rfl, bd_pow hr1.ok.vq i, hr1.ok.vq, by omega, by rw [Rat.pow_succ]⟩
    refine sd_asg (by walk_at "xd") ?_
    exact ⟨_, rfl⟩
  · rintro ds1 ⟨z, rfl⟩
    rw [List.length_range]
    exact sd_ret (by walk_at "xd") rfl
theorem okx_later {P : Program} {w : World} {K : PySem.W.Frag} {mg : Str → Option Value} {base : Heap} (T : Tp K mg) : FnOk P w K mg base (L2.CX P w) 4 T.f_later T.d_later ["rate", "years"] (spE T.C (rXLater T.c_BadRate T.c_NoYear)) := by
  have B_rate_of := okb_rate_of (P := P) (w := w) (base := base) T
  have G_rate_of := ok_rate_of (P := P) (w := w) (base := base) T
  have G_times := ok_times (P := P) (w := w) (base := base) T
  have cl_T : Cls T.C.K T.C.T := T.cl_Table
  have n_ch : NoAttr T.C.K T.C.T "chances" := T.n_chances
  have cl_P : Cls T.C.K T.C.P := T.cl_Pledge
  have n_age : NoAttr T.C.K T.C.P "age" := T.n_age
  have n_rows : NoAttr T.C.K T.C.P "rows" := T.n_rows
  refine fn_sx (C := T.C) T.F_later S_later (by intro _ _ h; first | (obtain ⟨_, rfl, _⟩ := h; rfl) | (obtain ⟨_, _, rfl, _⟩ := h; rfl) | (obtain ⟨_, _, _, rfl, _⟩ := h; rfl) | (obtain ⟨_, _, _, _, rfl, _⟩ := h; rfl) | (obtain ⟨_, _, _, _, _, rfl, _⟩ := h; rfl) | (obtain ⟨_, _, _, _, _, _, rfl, _⟩ := h; rfl) | (obtain ⟨_, _, _, _, _, _, _, rfl, _⟩ := h; rfl) | (obtain ⟨_, _, _, _, _, _, _, _, rfl, _⟩ := h; rfl) | (obtain ⟨_, _, _, _, _, _, _, _, _, rfl, _⟩ := h; rfl)) fun cdv A outer s H E hr => ⟨_, (pss_cons (ps_set (i := 0) S_later.nd rfl (Or.inl rfl) (pe_callS B_rate_of (hr.mono (by decide)) (by rfl) T.g_rate_of T.F_rate_of.kp T.b_rate_of (fun σ => passAt (takes_of rfl rfl rfl rfl) σ) (pa_cons (pv 0) pa_nil)))
      (pss_cons (ps_if (pt_cmpR op_lt (pv 1) pe_int (nomark _)) (pss_one (ps_raise rfl (takes_of rfl rfl rfl rfl) (pmk_own PySem.F.excBase_ValueError T.x_NoYear T.g_NoYear T.k_NoYear (raises_own T.bb_NoYear T.tt_NoYear) (by rfl)))) pss_nil)
      (PSs.nox (pss_cons (ps_set (i := 2) S_later.nd rfl (Or.inl rfl) (pe_tup (pa_cons pe_int (pa_cons pe_int pa_nil))))
      (pss_cons (ps_for PassesOwn.never rfl (pi_range1 rfl T.z_range (pa_cons (pv 1) pa_nil)) (pg_name (i := 3) S_later.nd rfl (Or.inl rfl)) (pss_one (ps_set (i := 2) S_later.nd rfl (Or.inl rfl) (pe_call G_times (hr.mono (by decide)) (by rfl) T.g_times T.F_times.kp T.b_times .nil pass0 (pa_cons (pv 2) (pa_cons (pv 0) pa_nil))))))
      (pss_one (ps_ret (pv 2)))))))), ?_⟩
  rintro _ _ ⟨r, y, rfl, h⟩
  change SD _ _ _ [.va (dP r), .va (dI y), .un, .un] _
  rcases h with ⟨hb, rfl⟩ | ⟨⟨n, hr1, h8⟩, hy, rfl⟩
  · have r1 : (rXRateOf T.c_BadRate) [dP r] T.c_BadRate := ⟨r, rfl, hb, rfl⟩
    exact sd_seq (sd_asgX (by walk_at "xx") rfl)
  · have r1 : rRateOf [dP r] (dQ (vq r)) := ⟨n, r, rfl, hr1, h8, rfl⟩
    walk_at "sx"
    exact sd_seq (sd_if (b := true) (td_is (by walk_at "xt") (decide_eq_true hy)) (fun _ => sd_raise (A := T.c_NoYear) rfl) (fun hb => absurd hb (by decide)))
theorem okb_later {P : Program} {w : World} {K : PySem.W.Frag} {mg : Str → Option Value} {base : Heap} (T : Tp K mg) : FnOk P w K mg base (L2.CX P w) 4 T.f_later T.d_later ["rate", "years"] (spB T.C rLater (rXLater T.c_BadRate T.c_NoYear)) := fn_or (C := T.C) (fn_up (C := T.C) (ok_later T)) (okx_later T)
theorem ok_see {P : Program} {w : World} {K : PySem.W.Frag} {mg : Str → Option Value} {base : Heap} (T : Tp K mg) : FnOk P w K mg base CX0 4 T.f_see T.d_see ["table", "rate", "pledge"] (spR T.C rSee) := by
  have G_rate_of := ok_rate_of (P := P) (w := w) (base := base) T
  have G_see_fits := ok_see_fits (P := P) (w := w) (base := base) T
  have cl_T : Cls T.C.K T.C.T := T.cl_Table
  have n_ch : NoAttr T.C.K T.C.T "chances" := T.n_chances
  have cl_P : Cls T.C.K T.C.P := T.cl_Pledge
  have n_age : NoAttr T.C.K T.C.P "age" := T.n_age
  have n_rows : NoAttr T.C.K T.C.P "rows" := T.n_rows
  refine fn_sd (C := T.C) T.F_see S_see (by intro _ _ h; first | (obtain ⟨_, rfl, _⟩ := h; rfl) | (obtain ⟨_, _, rfl, _⟩ := h; rfl) | (obtain ⟨_, _, _, rfl, _⟩ := h; rfl) | (obtain ⟨_, _, _, _, rfl, _⟩ := h; rfl) | (obtain ⟨_, _, _, _, _, rfl, _⟩ := h; rfl) | (obtain ⟨_, _, _, _, _, _, rfl, _⟩ := h; rfl) | (obtain ⟨_, _, _, _, _, _, _, rfl, _⟩ := h; rfl) | (obtain ⟨_, _, _, _, _, _, _, _, rfl, _⟩ := h; rfl) | (obtain ⟨_, _, _, _, _, _, _, _, _, rfl, _⟩ := h; rfl)) fun cdv A outer s H E hr => ⟨_, (pss_cons (ps_expr (pe_call G_rate_of (hr.mono (by decide)) (by rfl) T.g_rate_of T.F_rate_of.kp T.b_rate_of .nil pass0 (pa_cons (pv 1) pa_nil)))
      (pss_one (ps_expr (pe_call G_see_fits (hr.mono (by decide)) (by rfl) T.g_see_fits T.F_see_fits.kp T.b_see_fits .nil pass0 (pa_cons (pv 0) (pa_cons (pv 2) pa_nil)))))), ?_⟩
  rintro _ _ ⟨b, n, qs, r, a, rows, rfl, hg, rfl⟩
  change SD _ _ _ [.va (dT qs), .va (dP r), .va (.ple a rows)] _
  have hn := hg.n8
  have hn2 : n ≤ 4000 := by have h2 : 1 * n ≤ (rows.length + 1) * n := Nat.mul_le_mul_right n (by omega); omega
  have r1 : rRateOf [dP r] (dQ (vq r)) := ⟨n, r, rfl, hg.rt, by omega, rfl⟩
  have r2 : rSeeFits [dT qs, .ple a rows] (.pd .none) := ⟨_, _, _, rfl, hg.fit, rfl⟩
  refine sd_seq (sd_drop (by walk_at "xd") ?_)
  exact sd_drop (by walk_at "xd") rfl
theorem okx_see {P : Program} {w : World} {K : PySem.W.Frag} {mg : Str → Option Value} {base : Heap} (T : Tp K mg) : FnOk P w K mg base (L2.CX P w) 4 T.f_see T.d_see ["table", "rate", "pledge"] (spE T.C (rXSee T.c_BadRate T.c_BadPledge)) := by
  have B_rate_of := okb_rate_of (P := P) (w := w) (base := base) T
  have G_rate_of := ok_rate_of (P := P) (w := w) (base := base) T
  have B_see_fits := okb_see_fits (P := P) (w := w) (base := base) T
  have G_see_fits := ok_see_fits (P := P) (w := w) (base := base) T
  have cl_T : Cls T.C.K T.C.T := T.cl_Table
  have n_ch : NoAttr T.C.K T.C.T "chances" := T.n_chances
  have cl_P : Cls T.C.K T.C.P := T.cl_Pledge
  have n_age : NoAttr T.C.K T.C.P "age" := T.n_age
  have n_rows : NoAttr T.C.K T.C.P "rows" := T.n_rows
  refine fn_sx (C := T.C) T.F_see S_see (by intro _ _ h; first | (obtain ⟨_, rfl, _⟩ := h; rfl) | (obtain ⟨_, _, rfl, _⟩ := h; rfl) | (obtain ⟨_, _, _, rfl, _⟩ := h; rfl) | (obtain ⟨_, _, _, _, rfl, _⟩ := h; rfl) | (obtain ⟨_, _, _, _, _, rfl, _⟩ := h; rfl) | (obtain ⟨_, _, _, _, _, _, rfl, _⟩ := h; rfl) | (obtain ⟨_, _, _, _, _, _, _, rfl, _⟩ := h; rfl) | (obtain ⟨_, _, _, _, _, _, _, _, rfl, _⟩ := h; rfl) | (obtain ⟨_, _, _, _, _, _, _, _, _, rfl, _⟩ := h; rfl)) fun cdv A outer s H E hr => ⟨_, (pss_cons (ps_expr (pe_callS B_rate_of (hr.mono (by decide)) (by rfl) T.g_rate_of T.F_rate_of.kp T.b_rate_of (fun σ => passAt (takes_of rfl rfl rfl rfl) σ) (pa_cons (pv 1) pa_nil)))
      (pss_one (ps_expr (pe_callS B_see_fits (hr.mono (by decide)) (by rfl) T.g_see_fits T.F_see_fits.kp T.b_see_fits (fun σ => passAt (takes_of rfl rfl rfl rfl) σ) (pa_cons (pv 0) (pa_cons (pv 2) pa_nil)))))), ?_⟩
  rintro _ _ ⟨qs, r, a, rows, rfl, h⟩
  change SD _ _ _ [.va (dT qs), .va (dP r), .va (.ple a rows)] _
  rcases h with ⟨h, rfl⟩ | ⟨⟨n, hr1, h8⟩, h, rfl⟩
  · have r1 : (rXRateOf T.c_BadRate) [dP r] T.c_BadRate := ⟨r, rfl, h, rfl⟩
    exact sd_seq (sd_dropX (by walk_at "xx") rfl)
  have r1 : rRateOf [dP r] (dQ (vq r)) := ⟨n, r, rfl, hr1, h8, rfl⟩
  refine sd_seq (sd_drop (by walk_at "xd") ?_)
  have r2 : (rXSeeFits T.c_BadPledge) [dT qs, .ple a rows] T.c_BadPledge := ⟨qs, a, rows, rfl, h, rfl⟩
  exact sd_dropX (by walk_at "xx") rfl
theorem okb_see {P : Program} {w : World} {K : PySem.W.Frag} {mg : Str → Option Value} {base : Heap} (T : Tp K mg) : FnOk P w K mg base (L2.CX P w) 4 T.f_see T.d_see ["table", "rate", "pledge"] (spB T.C rSee (rXSee T.c_BadRate T.c_BadPledge)) := fn_or (C := T.C) (fn_up (C := T.C) (ok_see T)) (okx_see T)
theorem ok_Table_lives {P : Program} {w : World} {K : PySem.W.Frag} {mg : Str → Option Value} {base : Heap} (T : Tp K mg) : FnOk P w K mg base CX0 5 T.f_Table_lives T.d_Table_lives ["self", "age", "years"] (spR T.C rLives) := by
  have G_Table_dies := ok_Table_dies (P := P) (w := w) (base := base) T
  have G_less := ok_less (P := P) (w := w) (base := base) T
  have G_times := ok_times (P := P) (w := w) (base := base) T
  have cl_T : Cls T.C.K T.C.T := T.cl_Table
  have n_ch : NoAttr T.C.K T.C.T "chances" := T.n_chances
  have cl_P : Cls T.C.K T.C.P := T.cl_Pledge
  have n_age : NoAttr T.C.K T.C.P "age" := T.n_age
  have n_rows : NoAttr T.C.K T.C.P "rows" := T.n_rows
  refine fn_sd (C := T.C) T.F_Table_lives S_Table_lives (by intro _ _ h; first | (obtain ⟨_, rfl, _⟩ := h; rfl) | (obtain ⟨_, _, rfl, _⟩ := h; rfl) | (obtain ⟨_, _, _, rfl, _⟩ := h; rfl) | (obtain ⟨_, _, _, _, rfl, _⟩ := h; rfl) | (obtain ⟨_, _, _, _, _, rfl, _⟩ := h; rfl) | (obtain ⟨_, _, _, _, _, _, rfl, _⟩ := h; rfl) | (obtain ⟨_, _, _, _, _, _, _, rfl, _⟩ := h; rfl) | (obtain ⟨_, _, _, _, _, _, _, _, rfl, _⟩ := h; rfl) | (obtain ⟨_, _, _, _, _, _, _, _, _, rfl, _⟩ := h; rfl)) fun cdv A outer s H E hr => ⟨_, (pss_cons (ps_expr (pe_meth (pv 0) T.cl_Table T.m_Table_dies G_Table_dies (hr.mono (by decide)) T.b_Table_dies .nil pass0 (pa_cons (pv 1) pa_nil)))
      (pss_cons (ps_if (pt_cmpR op_lt (pv 2) pe_int (nomark _)) (pss_one ps_never) pss_nil)
      (pss_cons (ps_if (pt_cmpR op_ge (pe_op op_add (pv 1) (pv 2)) (pe_callB (r := rLenS T.C.K) call_len_seq (by rfl) T.z_len (by decide +kernel) (pa_cons (pe_fld (pv 0) rfl) pa_nil)) (nomark _)) (pss_one (ps_ret (pe_tup (pa_cons pe_int (pa_cons pe_int pa_nil))))) pss_nil)
      (pss_cons (ps_set (i := 3) S_Table_lives.nd rfl (Or.inl rfl) (pe_tup (pa_cons pe_int (pa_cons pe_int pa_nil))))
      (pss_cons (ps_for PassesOwn.never rfl (pi_range1 rfl T.z_range (pa_cons (pv 2) pa_nil)) (pg_name (i := 4) S_Table_lives.nd rfl (Or.inl rfl)) (pss_one (ps_set (i := 3) S_Table_lives.nd rfl (Or.inl rfl) (pe_call G_times (hr.mono (by decide)) (by rfl) T.g_times T.F_times.kp T.b_times .nil pass0 (pa_cons (pv 3) (pa_cons (pe_call G_less (hr.mono (by decide)) (by rfl) T.g_less T.F_less.kp T.b_less .nil pass0 (pa_cons (pe_tup (pa_cons pe_int (pa_cons pe_int pa_nil))) (pa_cons (pe_ix (r := rIx T.C.K) ix_seq (pe_fld (pv 0) rfl) (pe_op op_add (pv 1) (pv 4)) (fun _ _ => rfl)) pa_nil))) pa_nil))))))
      (pss_one (ps_ret (pv 3)))))))), ?_⟩
  rintro _ _ ⟨b, qs, a, y, rfl, hq, h0, h1, h2, h3, rfl⟩
  change SD _ _ _ [.va (dT qs), .va (dI a), .va (dI y), .un, .un] _
  have r1 : rDies [dT qs, dI a] (dQ (qs.getD a.toNat 0)) := ⟨_, _, rfl, h0, h1, rfl⟩
  refine sd_seq (sd_drop (by walk_at "xd") ?_)
  refine sd_seq (sd_if (b := false) (td_is (by walk_at "xt") (decide_eq_false (by omega))) (fun hb => absurd hb (by decide)) (fun _ => sd_next ?_))
  refine sd_seq (sd_if (by walk_at "xt") (fun hb => ?_) (fun hb => ?_))
  · have h := of_decide_eq_true hb
    rw [List.length_map, List.length_map] at h
    refine sd_ret (by walk_at "xd") ?_
    unfold lv
    rw [if_pos (by omega)]
    rfl
  · have h := of_decide_eq_false hb
    rw [List.length_map, List.length_map] at h
    refine sd_next ?_
    walk_at "sx"
    refine sd_seq (sd_for (List.range y.toNat) (fun (k : Nat) => PyData.int (k : Int)) (id_rng1 (n := y) (by walk_at "ad") (by omega)) (fun i ds1 => ∃ z, ds1 = [.va (dT qs), .va (dI a), .va (dI y), .va (dQ (rprod ((List.range i).map fun k => 1 - qs.getD (a.toNat + k) 0))), z]) ⟨_, rfl⟩ ?_ ?_)
    · rintro i k ds1 hi ⟨z, rfl⟩
      have hi1 : i < y.toNat := by
        have := (List.getElem?_eq_some_iff.mp hi).1
        rw [List.length_range] at this
        exact this
      have hk : k = i := by
        rw [List.getElem?_range hi1] at hi
        exact (Option.some.inj hi).symm
      subst hk
      refine ⟨_, gd_name, ?_⟩
      dsimp only [List.set]
      have hlt : a.toNat + k < qs.length := by omega
      have hat : atI ((qs.map pq).map pD) (a + (k : Int)) = some (pD (pq (qs.getD (a.toNat + k) 0))) := at_nat (j := a.toNat + k) (by omega) (by
        rw [List.getElem?_map, List.getElem?_map, List.getD_eq_getElem?_getD, List.getElem?_eq_getElem hlt]
        rfl)
      have hb1 := hq.bdD hlt
      have hb2 := hq.blD hlt
      have hb3 : b ≤ 60 := by have h1 := hq.sz; have h2 := hq.n1; have h3 : 1 * b ≤ qs.length * b := Nat.mul_le_mul_right b h2; omega
      have r2 : rLess [.pd (.tuple [.int 1, .int 1]), dQ (qs.getD (a.toNat + k) 0)] (dQ (1 - qs.getD (a.toNat + k) 0)) := ⟨1, _, 1, b, rfl, bd_one, hb1, by omega, rfl⟩
      have r3 : rTimes [dQ (rprod ((List.range k).map fun k => 1 - qs.getD (a.toNat + k) 0)), dQ (1 - qs.getD (a.toNat + k) 0)] (dQ (rprod ((List.range (k + 1)).map fun k => 1 - qs.getD (a.toNat + k) 0))) := ⟨_, _, 61, b, rfl, bd_part_lv hq (by omega), hb2, by omega, by rw [rprod_range_succ]⟩
      refine sd_asg (by walk_at "xd") ?_
      exact ⟨_, rfl⟩
    · rintro ds1 ⟨z, rfl⟩
      rw [List.length_range]
      refine sd_ret (by walk_at "xd") ?_
      unfold lv
      rw [if_neg (by omega)]
theorem okx_Table_lives {P : Program} {w : World} {K : PySem.W.Frag} {mg : Str → Option Value} {base : Heap} (T : Tp K mg) : FnOk P w K mg base (L2.CX P w) 5 T.f_Table_lives T.d_Table_lives ["self", "age", "years"] (spE T.C (rXLives T.c_NoYear)) := by
  have B_Table_dies := okb_Table_dies (P := P) (w := w) (base := base) T
  have G_Table_dies := ok_Table_dies (P := P) (w := w) (base := base) T
  have G_less := ok_less (P := P) (w := w) (base := base) T
  have G_times := ok_times (P := P) (w := w) (base := base) T
  have cl_T : Cls T.C.K T.C.T := T.cl_Table
  have n_ch : NoAttr T.C.K T.C.T "chances" := T.n_chances
  have cl_P : Cls T.C.K T.C.P := T.cl_Pledge
  have n_age : NoAttr T.C.K T.C.P "age" := T.n_age
  have n_rows : NoAttr T.C.K T.C.P "rows" := T.n_rows
  refine fn_sx (C := T.C) T.F_Table_lives S_Table_lives (by intro _ _ h; first | (obtain ⟨_, rfl, _⟩ := h; rfl) | (obtain ⟨_, _, rfl, _⟩ := h; rfl) | (obtain ⟨_, _, _, rfl, _⟩ := h; rfl) | (obtain ⟨_, _, _, _, rfl, _⟩ := h; rfl) | (obtain ⟨_, _, _, _, _, rfl, _⟩ := h; rfl) | (obtain ⟨_, _, _, _, _, _, rfl, _⟩ := h; rfl) | (obtain ⟨_, _, _, _, _, _, _, rfl, _⟩ := h; rfl) | (obtain ⟨_, _, _, _, _, _, _, _, rfl, _⟩ := h; rfl) | (obtain ⟨_, _, _, _, _, _, _, _, _, rfl, _⟩ := h; rfl)) fun cdv A outer s H E hr => ⟨_, (pss_cons (ps_expr (pe_methS (pv 0) T.cl_Table T.m_Table_dies B_Table_dies (hr.mono (by decide)) T.b_Table_dies (fun σ => passAt (takes_of rfl rfl rfl rfl) σ) (pa_cons (pv 1) pa_nil)))
      (pss_cons (ps_if (pt_cmpR op_lt (pv 2) pe_int (nomark _)) (pss_one (ps_raise rfl (takes_of rfl rfl rfl rfl) (pmk_own PySem.F.excBase_ValueError T.x_NoYear T.g_NoYear T.k_NoYear (raises_own T.bb_NoYear T.tt_NoYear) (by rfl)))) pss_nil)
      (PSs.nox (pss_cons (ps_if (pt_cmpR op_ge (pe_op op_add (pv 1) (pv 2)) (pe_callB (r := rLenS T.C.K) call_len_seq (by rfl) T.z_len (by decide +kernel) (pa_cons (pe_fld (pv 0) rfl) pa_nil)) (nomark _)) (pss_one (ps_ret (pe_tup (pa_cons pe_int (pa_cons pe_int pa_nil))))) pss_nil)
      (pss_cons (ps_set (i := 3) S_Table_lives.nd rfl (Or.inl rfl) (pe_tup (pa_cons pe_int (pa_cons pe_int pa_nil))))
      (pss_cons (ps_for PassesOwn.never rfl (pi_range1 rfl T.z_range (pa_cons (pv 2) pa_nil)) (pg_name (i := 4) S_Table_lives.nd rfl (Or.inl rfl)) (pss_one (ps_set (i := 3) S_Table_lives.nd rfl (Or.inl rfl) (pe_call G_times (hr.mono (by decide)) (by rfl) T.g_times T.F_times.kp T.b_times .nil pass0 (pa_cons (pv 3) (pa_cons (pe_call G_less (hr.mono (by decide)) (by rfl) T.g_less T.F_less.kp T.b_less .nil pass0 (pa_cons (pe_tup (pa_cons pe_int (pa_cons pe_int pa_nil))) (pa_cons (pe_ix (r := rIx T.C.K) ix_seq (pe_fld (pv 0) rfl) (pe_op op_add (pv 1) (pv 4)) (fun _ _ => rfl)) pa_nil))) pa_nil))))))
      (pss_one (ps_ret (pv 3))))))))), ?_⟩
  rintro _ _ ⟨qs, a, y, rfl, h, rfl⟩
  change SD _ _ _ [.va (dT qs), .va (dI a), .va (dI y), .un, .un] _
  rcases h with h | ⟨h0, h1, hy⟩
  · have r1 : (rXDies T.c_NoYear) [dT qs, dI a] T.c_NoYear := ⟨qs, a, rfl, h, rfl⟩
    exact sd_seq (sd_dropX (by walk_at "xx") rfl)
  · have r1 : rDies [dT qs, dI a] (dQ (qs.getD a.toNat 0)) := ⟨_, _, rfl, h0, h1, rfl⟩
    refine sd_seq (sd_drop (by walk_at "xd") ?_)
    exact sd_seq (sd_if (b := true) (td_is (by walk_at "xt") (decide_eq_true hy)) (fun _ => sd_raise (A := T.c_NoYear) rfl) (fun hb => absurd hb (by decide)))
theorem okb_Table_lives {P : Program} {w : World} {K : PySem.W.Frag} {mg : Str → Option Value} {base : Heap} (T : Tp K mg) : FnOk P w K mg base (L2.CX P w) 5 T.f_Table_lives T.d_Table_lives ["self", "age", "years"] (spB T.C rLives (rXLives T.c_NoYear)) := fn_or (C := T.C) (fn_up (C := T.C) (ok_Table_lives T)) (okx_Table_lives T)
theorem ok_need {P : Program} {w : World} {K : PySem.W.Frag} {mg : Str → Option Value} {base : Heap} (T : Tp K mg) : FnOk P w K mg base CX0 5 T.f_need T.d_need ["table", "rate", "pledge", "year"] (spR T.C rNeed) := by
  have G_Table_dies := ok_Table_dies (P := P) (w := w) (base := base) T
  have G_less := ok_less (P := P) (w := w) (base := base) T
  have G_plus := ok_plus (P := P) (w := w) (base := base) T
  have G_rate_of := ok_rate_of (P := P) (w := w) (base := base) T
  have G_see := ok_see (P := P) (w := w) (base := base) T
  have G_see_year := ok_see_year (P := P) (w := w) (base := base) T
  have G_times := ok_times (P := P) (w := w) (base := base) T
  have cl_T : Cls T.C.K T.C.T := T.cl_Table
  have n_ch : NoAttr T.C.K T.C.T "chances" := T.n_chances
  have cl_P : Cls T.C.K T.C.P := T.cl_Pledge
  have n_age : NoAttr T.C.K T.C.P "age" := T.n_age
  have n_rows : NoAttr T.C.K T.C.P "rows" := T.n_rows
  refine fn_sd (C := T.C) T.F_need S_need (by intro _ _ h; first | (obtain ⟨_, rfl, _⟩ := h; rfl) | (obtain ⟨_, _, rfl, _⟩ := h; rfl) | (obtain ⟨_, _, _, rfl, _⟩ := h; rfl) | (obtain ⟨_, _, _, _, rfl, _⟩ := h; rfl) | (obtain ⟨_, _, _, _, _, rfl, _⟩ := h; rfl) | (obtain ⟨_, _, _, _, _, _, rfl, _⟩ := h; rfl) | (obtain ⟨_, _, _, _, _, _, _, rfl, _⟩ := h; rfl) | (obtain ⟨_, _, _, _, _, _, _, _, rfl, _⟩ := h; rfl) | (obtain ⟨_, _, _, _, _, _, _, _, _, rfl, _⟩ := h; rfl)) fun cdv A outer s H E hr => ⟨_, (pss_cons (ps_expr (pe_call G_see (hr.mono (by decide)) (by rfl) T.g_see T.F_see.kp T.b_see .nil pass0 (pa_cons (pv 0) (pa_cons (pv 1) (pa_cons (pv 2) pa_nil)))))
      (pss_cons (ps_expr (pe_call G_see_year (hr.mono (by decide)) (by rfl) T.g_see_year T.F_see_year.kp T.b_see_year .nil pass0 (pa_cons (pv 0) (pa_cons (pv 2) (pa_cons (pv 3) pa_nil)))))
      (pss_cons (ps_set (i := 1) S_need.nd rfl (Or.inl rfl) (pe_call G_rate_of (hr.mono (by decide)) (by rfl) T.g_rate_of T.F_rate_of.kp T.b_rate_of .nil pass0 (pa_cons (pv 1) pa_nil)))
      (pss_cons (ps_set (i := 4) S_need.nd rfl (Or.inl rfl) (pe_tup (pa_cons pe_int (pa_cons pe_int pa_nil))))
      (pss_cons (ps_for PassesOwn.never rfl (pi_range3 rfl T.z_range (pa_cons (pe_op op_sub (pe_callB (r := rLenS T.C.K) call_len_seq (by rfl) T.z_len (by decide +kernel) (pa_cons (pe_fld (pv 2) rfl) pa_nil)) pe_int) (pa_cons (pe_op op_sub (pv 3) pe_int) (pa_cons (pe_un un_neg pe_int) pa_nil)))) (pg_name (i := 5) S_need.nd rfl (Or.inl rfl)) (pss_cons (ps_set (i := 6) S_need.nd rfl (Or.inl rfl) (pe_ix (r := rIx T.C.K) ix_seq (pe_fld (pv 2) rfl) (pv 5) (fun _ _ => rfl)))
      (pss_cons (ps_set (i := 7) S_need.nd rfl (Or.inl rfl) (pe_meth (pv 0) T.cl_Table T.m_Table_dies G_Table_dies (hr.mono (by decide)) T.b_Table_dies .nil pass0 (pa_cons (pe_op op_add (pe_fld (pv 2) rfl) (pv 5)) pa_nil)))
      (pss_cons (ps_set (i := 8) S_need.nd rfl (Or.inl rfl) (pe_call G_plus (hr.mono (by decide)) (by rfl) T.g_plus T.F_plus.kp T.b_plus .nil pass0 (pa_cons (pe_call G_times (hr.mono (by decide)) (by rfl) T.g_times T.F_times.kp T.b_times .nil pass0 (pa_cons (pe_tup (pa_cons (pe_ix (r := rIx T.C.K) ix_seq (pv 6) pe_int (fun _ _ => rfl)) (pa_cons pe_int pa_nil))) (pa_cons (pv 7) pa_nil))) (pa_cons (pe_call G_times (hr.mono (by decide)) (by rfl) T.g_times T.F_times.kp T.b_times .nil pass0 (pa_cons (pv 4) (pa_cons (pe_call G_less (hr.mono (by decide)) (by rfl) T.g_less T.F_less.kp T.b_less .nil pass0 (pa_cons (pe_tup (pa_cons pe_int (pa_cons pe_int pa_nil))) (pa_cons (pv 7) pa_nil))) pa_nil))) pa_nil))))
      (pss_one (ps_set (i := 4) S_need.nd rfl (Or.inl rfl) (pe_call G_plus (hr.mono (by decide)) (by rfl) T.g_plus T.F_plus.kp T.b_plus .nil pass0 (pa_cons (pe_tup (pa_cons (pe_op op_sub (pe_ix (r := rIx T.C.K) ix_seq (pv 6) pe_int (fun _ _ => rfl)) (pe_ix (r := rIx T.C.K) ix_seq (pv 6) pe_int (fun _ _ => rfl))) (pa_cons pe_int pa_nil))) (pa_cons (pe_call G_times (hr.mono (by decide)) (by rfl) T.g_times T.F_times.kp T.b_times .nil pass0 (pa_cons (pv 1) (pa_cons (pv 8) pa_nil))) pa_nil)))))))))
      (pss_one (ps_ret (pv 4)))))))), ?_⟩
  rintro _ _ ⟨b, n, qs, r, a, rows, y, rfl, hg, h0, h1, h2, rfl⟩
  change SD _ _ _ [.va (dT qs), .va (dP r), .va (.ple a rows), .va (dI y), .un, .un, .un, .un, .un] _
  have ha := hg.pl.a0
  have hfit := hg.fit
  have hl1 := hg.pl.l1
  have h20 := hg.pl.l20
  have hn := hg.n8
  have hb60 := hg.tq.b60
  have hn1 : n ≤ (rows.length + 1) * n := Nat.le_mul_of_pos_left n (by omega)
  have r0 : rSee [dT qs, dP r, .ple a rows] (.pd .none) := ⟨b, n, _, _, _, _, rfl, hg, rfl⟩
  have r1 : rSeeYear [dT qs, .ple a rows, dI y] (.pd .none) := ⟨_, _, _, _, rfl, h0, h1, h2, rfl⟩
  have r2 : rRateOf [dP r] (dQ (vq r)) := ⟨n, r, rfl, hg.rt, by omega, rfl⟩
  refine sd_seq (sd_drop (by walk_at "xd") ?_)
  refine sd_seq (sd_drop (by walk_at "xd") ?_)
  walk_at "sx"
  walk_at "sx"
  refine sd_seq (sd_for (List.range ((rows.length : Int) - 1 - (y - 1)).toNat) (fun (i : Nat) => PyData.int ((rows.length : Int) - 1 - (i : Int))) (id_down (lo := (rows.length : Int) - 1) (n := y - 1) ?_ (by omega)) (fun i ds1 => ∃ z1 z2 z3 z4, ds1 = [.va (dT qs), .va (dQ (vq r)), .va (.ple a rows), .va (dI y), .va (dQ (needR qs (vq r) a.toNat rows i)), z1, z2, z3, z4]) ⟨_, _, _, _, rfl⟩ ?_ ?_)
  · refine ad_is (by walk_at "ad") ?_
    rw [List.length_map]
  · rintro i k ds1 hi ⟨z1, z2, z3, z4, rfl⟩
    have hi1 : i < ((rows.length : Int) - 1 - (y - 1)).toNat := by
      have := (List.getElem?_eq_some_iff.mp hi).1
      rw [List.length_range] at this
      exact this
    have hk : k = i := by
      rw [List.getElem?_range hi1] at hi
      exact (Option.some.inj hi).symm
    subst hk
    refine ⟨_, gd_name, ?_⟩
    dsimp only [List.set]
    have hlr : rows.length - (k + 1) < rows.length := by omega
    obtain ⟨c0, c1, c2⟩ := hg.pl.row hlr
    have hat2 : atI (rows.map rD) ((rows.length : Int) - 1 - (k : Int)) = some (rD (rowAt rows (rows.length - (k + 1)))) := at_nat (j := rows.length - (k + 1)) (by omega) (by rw [List.getElem?_map, rowAt_get hlr]; rfl)
    have hlq : a.toNat + (rows.length - (k + 1)) < qs.length := by omega
    have s1 : rDies [dT qs, dI (a + ((rows.length : Int) - 1 - (k : Int)))] (dQ (qs.getD (a.toNat + (rows.length - (k + 1))) 0)) := ⟨_, _, rfl, by omega, by omega, by rw [show (a + ((rows.length : Int) - 1 - (k : Int))).toNat = a.toNat + (rows.length - (k + 1)) by omega]⟩
    have bN := bd_need hg k (by omega)
    have sm := hg.small (j := k) (by omega)
    have bq := hg.tq.bdD hlq
    have bl := hg.tq.blD hlq
    generalize hN : needR qs (vq r) a.toNat rows k = N at bN
    generalize hq : qs.getD (a.toNat + (rows.length - (k + 1))) 0 = q at bq bl s1
    have hres : needR qs (vq r) a.toNat rows (k + 1) = (((rowAt rows (rows.length - (k + 1))).2.1 - (rowAt rows (rows.length - (k + 1))).1 : Int) : Rat) + vq r * (((rowAt rows (rows.length - (k + 1))).2.2 : Rat) * q + N * (1 - q)) := by
      rw [← hq, ← hN]
      rfl
    generalize rowAt rows (rows.length - (k + 1)) = ro at *
    have t1 : rTimes [.pd (.tuple [.int ro.2.2, .int 1]), dQ q] (dQ ((ro.2.2 : Rat) * q)) := ⟨(ro.2.2 : Rat), q, 20, b, rfl, bd_coin c2, bq, by omega, rfl⟩
    have t2 : rLess [.pd (.tuple [.int 1, .int 1]), dQ q] (dQ (1 - q)) := ⟨1, q, 1, b, rfl, bd_one, bq, by omega, rfl⟩
    have t3 : rTimes [dQ N, dQ (1 - q)] (dQ (N * (1 - q))) := ⟨_, _, _, b, rfl, bN, bl, by omega, rfl⟩
    have b1 := (bd_coin c2).mul bq
    have b2 := bN.mul bl
    have t4 : rPlus [dQ ((ro.2.2 : Rat) * q), dQ (N * (1 - q))] (dQ ((ro.2.2 : Rat) * q + N * (1 - q))) := ⟨_, _, _, _, rfl, b1, b2, by omega, rfl⟩
    have t5 : rTimes [dQ (vq r), dQ ((ro.2.2 : Rat) * q + N * (1 - q))] (dQ (vq r * ((ro.2.2 : Rat) * q + N * (1 - q)))) := ⟨_, _, n, _, rfl, hg.rt.ok.vq, b1.add b2, by omega, rfl⟩
    have t6 : rPlus [.pd (.tuple [.int (ro.2.1 - ro.1), .int 1]), dQ (vq r * ((ro.2.2 : Rat) * q + N * (1 - q)))] (dQ (needR qs (vq r) a.toNat rows (k + 1))) := ⟨((ro.2.1 - ro.1 : Int) : Rat), _, 20, _, rfl, bd_diff c1 c0, hg.rt.ok.vq.mul (b1.add b2), by omega, by rw [hres]⟩
    walk_at "sx"
    walk_at "sx"
    walk_at "sx"
    refine sd_asg (by walk_at "xd") ?_
    exact ⟨_, _, _, _, rfl⟩
  · rintro ds1 ⟨z1, z2, z3, z4, rfl⟩
    rw [List.length_range, show ((rows.length : Int) - 1 - (y - 1)).toNat = rows.length - y.toNat by omega]
    exact sd_ret (by walk_at "xd") rfl
theorem okx_need {P : Program} {w : World} {K : PySem.W.Frag} {mg : Str → Option Value} {base : Heap} (T : Tp K mg) : FnOk P w K mg base (L2.CX P w) 5 T.f_need T.d_need ["table", "rate", "pledge", "year"] (spE T.C (rXNeed T.c_BadRate T.c_BadPledge T.c_NoYear)) := by
  have G_Table_dies := ok_Table_dies (P := P) (w := w) (base := base) T
  have G_less := ok_less (P := P) (w := w) (base := base) T
  have G_plus := ok_plus (P := P) (w := w) (base := base) T
  have G_rate_of := ok_rate_of (P := P) (w := w) (base := base) T
  have B_see := okb_see (P := P) (w := w) (base := base) T
  have G_see := ok_see (P := P) (w := w) (base := base) T
  have B_see_year := okb_see_year (P := P) (w := w) (base := base) T
  have G_see_year := ok_see_year (P := P) (w := w) (base := base) T
  have G_times := ok_times (P := P) (w := w) (base := base) T
  have cl_T : Cls T.C.K T.C.T := T.cl_Table
  have n_ch : NoAttr T.C.K T.C.T "chances" := T.n_chances
  have cl_P : Cls T.C.K T.C.P := T.cl_Pledge
  have n_age : NoAttr T.C.K T.C.P "age" := T.n_age
  have n_rows : NoAttr T.C.K T.C.P "rows" := T.n_rows
  refine fn_sx (C := T.C) T.F_need S_need (by intro _ _ h; first | (obtain ⟨_, rfl, _⟩ := h; rfl) | (obtain ⟨_, _, rfl, _⟩ := h; rfl) | (obtain ⟨_, _, _, rfl, _⟩ := h; rfl) | (obtain ⟨_, _, _, _, rfl, _⟩ := h; rfl) | (obtain ⟨_, _, _, _, _, rfl, _⟩ := h; rfl) | (obtain ⟨_, _, _, _, _, _, rfl, _⟩ := h; rfl) | (obtain ⟨_, _, _, _, _, _, _, rfl, _⟩ := h; rfl) | (obtain ⟨_, _, _, _, _, _, _, _, rfl, _⟩ := h; rfl) | (obtain ⟨_, _, _, _, _, _, _, _, _, rfl, _⟩ := h; rfl)) fun cdv A outer s H E hr => ⟨_, (pss_cons (ps_expr (pe_callS B_see (hr.mono (by decide)) (by rfl) T.g_see T.F_see.kp T.b_see (fun σ => passAt (takes_of rfl rfl rfl rfl) σ) (pa_cons (pv 0) (pa_cons (pv 1) (pa_cons (pv 2) pa_nil)))))
      (pss_cons (ps_expr (pe_callS B_see_year (hr.mono (by decide)) (by rfl) T.g_see_year T.F_see_year.kp T.b_see_year (fun σ => passAt (takes_of rfl rfl rfl rfl) σ) (pa_cons (pv 0) (pa_cons (pv 2) (pa_cons (pv 3) pa_nil)))))
      (PSs.nox (pss_cons (ps_set (i := 1) S_need.nd rfl (Or.inl rfl) (pe_call G_rate_of (hr.mono (by decide)) (by rfl) T.g_rate_of T.F_rate_of.kp T.b_rate_of .nil pass0 (pa_cons (pv 1) pa_nil)))
      (pss_cons (ps_set (i := 4) S_need.nd rfl (Or.inl rfl) (pe_tup (pa_cons pe_int (pa_cons pe_int pa_nil))))
      (pss_cons (ps_for PassesOwn.never rfl (pi_range3 rfl T.z_range (pa_cons (pe_op op_sub (pe_callB (r := rLenS T.C.K) call_len_seq (by rfl) T.z_len (by decide +kernel) (pa_cons (pe_fld (pv 2) rfl) pa_nil)) pe_int) (pa_cons (pe_op op_sub (pv 3) pe_int) (pa_cons (pe_un un_neg pe_int) pa_nil)))) (pg_name (i := 5) S_need.nd rfl (Or.inl rfl)) (pss_cons (ps_set (i := 6) S_need.nd rfl (Or.inl rfl) (pe_ix (r := rIx T.C.K) ix_seq (pe_fld (pv 2) rfl) (pv 5) (fun _ _ => rfl)))
      (pss_cons (ps_set (i := 7) S_need.nd rfl (Or.inl rfl) (pe_meth (pv 0) T.cl_Table T.m_Table_dies G_Table_dies (hr.mono (by decide)) T.b_Table_dies .nil pass0 (pa_cons (pe_op op_add (pe_fld (pv 2) rfl) (pv 5)) pa_nil)))
      (pss_cons (ps_set (i := 8) S_need.nd rfl (Or.inl rfl) (pe_call G_plus (hr.mono (by decide)) (by rfl) T.g_plus T.F_plus.kp T.b_plus .nil pass0 (pa_cons (pe_call G_times (hr.mono (by decide)) (by rfl) T.g_times T.F_times.kp T.b_times .nil pass0 (pa_cons (pe_tup (pa_cons (pe_ix (r := rIx T.C.K) ix_seq (pv 6) pe_int (fun _ _ => rfl)) (pa_cons pe_int pa_nil))) (pa_cons (pv 7) pa_nil))) (pa_cons (pe_call G_times (hr.mono (by decide)) (by rfl) T.g_times T.F_times.kp T.b_times .nil pass0 (pa_cons (pv 4) (pa_cons (pe_call G_less (hr.mono (by decide)) (by rfl) T.g_less T.F_less.kp T.b_less .nil pass0 (pa_cons (pe_tup (pa_cons pe_int (pa_cons pe_int pa_nil))) (pa_cons (pv 7) pa_nil))) pa_nil))) pa_nil))))
      (pss_one (ps_set (i := 4) S_need.nd rfl (Or.inl rfl) (pe_call G_plus (hr.mono (by decide)) (by rfl) T.g_plus T.F_plus.kp T.b_plus .nil pass0 (pa_cons (pe_tup (pa_cons (pe_op op_sub (pe_ix (r := rIx T.C.K) ix_seq (pv 6) pe_int (fun _ _ => rfl)) (pe_ix (r := rIx T.C.K) ix_seq (pv 6) pe_int (fun _ _ => rfl))) (pa_cons pe_int pa_nil))) (pa_cons (pe_call G_times (hr.mono (by decide)) (by rfl) T.g_times T.F_times.kp T.b_times .nil pass0 (pa_cons (pv 1) (pa_cons (pv 8) pa_nil))) pa_nil)))))))))
      (pss_one (ps_ret (pv 4))))))))), ?_⟩
  rintro _ A ⟨qs, r, a, rows, y, rfl, h⟩
  change SD _ _ _ ([.va (dT qs), .va (dP r), .va (.ple a rows), .va (dI y)] ++ _) _
  rcases h with h | ⟨⟨b, n, hg⟩, h⟩
  · exact sd_seq (sd_dropX (by walk_at "xx") rfl)
  · have r0 : rSee [dT qs, dP r, .ple a rows] (.pd .none) := ⟨b, n, _, _, _, _, rfl, hg, rfl⟩
    refine sd_seq (sd_drop (by walk_at "xd") ?_)
    exact sd_seq (sd_dropX (by walk_at "xx") rfl)
theorem okb_need {P : Program} {w : World} {K : PySem.W.Frag} {mg : Str → Option Value} {base : Heap} (T : Tp K mg) : FnOk P w K mg base (L2.CX P w) 5 T.f_need T.d_need ["table", "rate", "pledge", "year"] (spB T.C rNeed (rXNeed T.c_BadRate T.c_BadPledge T.c_NoYear)) := fn_or (C := T.C) (fn_up (C := T.C) (ok_need T)) (okx_need T)
theorem ok_held {P : Program} {w : World} {K : PySem.W.Frag} {mg : Str → Option Value} {base : Heap} (T : Tp K mg) : FnOk P w K mg base CX0 5 T.f_held T.d_held ["table", "rate", "pledge", "year"] (spR T.C rHeld) := by
  have G_Table_dies := ok_Table_dies (P := P) (w := w) (base := base) T
  have G_less := ok_less (P := P) (w := w) (base := base) T
  have G_over := ok_over (P := P) (w := w) (base := base) T
  have G_plus := ok_plus (P := P) (w := w) (base := base) T
  have G_rate_of := ok_rate_of (P := P) (w := w) (base := base) T
  have G_see := ok_see (P := P) (w := w) (base := base) T
  have G_see_year := ok_see_year (P := P) (w := w) (base := base) T
  have G_times := ok_times (P := P) (w := w) (base := base) T
  have cl_T : Cls T.C.K T.C.T := T.cl_Table
  have n_ch : NoAttr T.C.K T.C.T "chances" := T.n_chances
  have cl_P : Cls T.C.K T.C.P := T.cl_Pledge
  have n_age : NoAttr T.C.K T.C.P "age" := T.n_age
  have n_rows : NoAttr T.C.K T.C.P "rows" := T.n_rows
  refine fn_sd (C := T.C) T.F_held S_held (by intro _ _ h; first | (obtain ⟨_, rfl, _⟩ := h; rfl) | (obtain ⟨_, _, rfl, _⟩ := h; rfl) | (obtain ⟨_, _, _, rfl, _⟩ := h; rfl) | (obtain ⟨_, _, _, _, rfl, _⟩ := h; rfl) | (obtain ⟨_, _, _, _, _, rfl, _⟩ := h; rfl) | (obtain ⟨_, _, _, _, _, _, rfl, _⟩ := h; rfl) | (obtain ⟨_, _, _, _, _, _, _, rfl, _⟩ := h; rfl) | (obtain ⟨_, _, _, _, _, _, _, _, rfl, _⟩ := h; rfl) | (obtain ⟨_, _, _, _, _, _, _, _, _, rfl, _⟩ := h; rfl)) fun cdv A outer s H E hr => ⟨_, (pss_cons (ps_expr (pe_call G_see (hr.mono (by decide)) (by rfl) T.g_see T.F_see.kp T.b_see .nil pass0 (pa_cons (pv 0) (pa_cons (pv 1) (pa_cons (pv 2) pa_nil)))))
      (pss_cons (ps_expr (pe_call G_see_year (hr.mono (by decide)) (by rfl) T.g_see_year T.F_see_year.kp T.b_see_year .nil pass0 (pa_cons (pv 0) (pa_cons (pv 2) (pa_cons (pv 3) pa_nil)))))
      (pss_cons (ps_set (i := 1) S_held.nd rfl (Or.inl rfl) (pe_call G_rate_of (hr.mono (by decide)) (by rfl) T.g_rate_of T.F_rate_of.kp T.b_rate_of .nil pass0 (pa_cons (pv 1) pa_nil)))
      (pss_cons (ps_set (i := 4) S_held.nd rfl (Or.inl rfl) (pe_tup (pa_cons pe_int (pa_cons pe_int pa_nil))))
      (pss_cons (ps_for PassesOwn.never rfl (pi_range1 rfl T.z_range (pa_cons (pv 3) pa_nil)) (pg_name (i := 5) S_held.nd rfl (Or.inl rfl)) (pss_cons (ps_set (i := 6) S_held.nd rfl (Or.inl rfl) (pe_ix (r := rIx T.C.K) ix_seq (pe_fld (pv 2) rfl) (pv 5) (fun _ _ => rfl)))
      (pss_cons (ps_set (i := 7) S_held.nd rfl (Or.inl rfl) (pe_meth (pv 0) T.cl_Table T.m_Table_dies G_Table_dies (hr.mono (by decide)) T.b_Table_dies .nil pass0 (pa_cons (pe_op op_add (pe_fld (pv 2) rfl) (pv 5)) pa_nil)))
      (pss_cons (ps_set (i := 8) S_held.nd rfl (Or.inl rfl) (pe_call G_over (hr.mono (by decide)) (by rfl) T.g_over T.F_over.kp T.b_over .nil pass0 (pa_cons (pe_call G_plus (hr.mono (by decide)) (by rfl) T.g_plus T.F_plus.kp T.b_plus .nil pass0 (pa_cons (pv 4) (pa_cons (pe_tup (pa_cons (pe_op op_sub (pe_ix (r := rIx T.C.K) ix_seq (pv 6) pe_int (fun _ _ => rfl)) (pe_ix (r := rIx T.C.K) ix_seq (pv 6) pe_int (fun _ _ => rfl))) (pa_cons pe_int pa_nil))) pa_nil))) (pa_cons (pv 1) pa_nil))))
      (pss_one (ps_set (i := 4) S_held.nd rfl (Or.inl rfl) (pe_call G_over (hr.mono (by decide)) (by rfl) T.g_over T.F_over.kp T.b_over .nil pass0 (pa_cons (pe_call G_less (hr.mono (by decide)) (by rfl) T.g_less T.F_less.kp T.b_less .nil pass0 (pa_cons (pv 8) (pa_cons (pe_call G_times (hr.mono (by decide)) (by rfl) T.g_times T.F_times.kp T.b_times .nil pass0 (pa_cons (pe_tup (pa_cons (pe_ix (r := rIx T.C.K) ix_seq (pv 6) pe_int (fun _ _ => rfl)) (pa_cons pe_int pa_nil))) (pa_cons (pv 7) pa_nil))) pa_nil))) (pa_cons (pe_call G_less (hr.mono (by decide)) (by rfl) T.g_less T.F_less.kp T.b_less .nil pass0 (pa_cons (pe_tup (pa_cons pe_int (pa_cons pe_int pa_nil))) (pa_cons (pv 7) pa_nil))) pa_nil)))))))))
      (pss_one (ps_ret (pv 4)))))))), ?_⟩
  rintro _ _ ⟨b, n, qs, r, a, rows, y, rfl, hg, h0, h1, h2, rfl⟩
  change SD _ _ _ [.va (dT qs), .va (dP r), .va (.ple a rows), .va (dI y), .un, .un, .un, .un, .un] _
  have ha := hg.pl.a0
  have hfit := hg.fit
  have hl1 := hg.pl.l1
  have h20 := hg.pl.l20
  have hn := hg.n8
  have hb60 := hg.tq.b60
  have hn1 : n ≤ (rows.length + 1) * n := Nat.le_mul_of_pos_left n (by omega)
  have r0 : rSee [dT qs, dP r, .ple a rows] (.pd .none) := ⟨b, n, _, _, _, _, rfl, hg, rfl⟩
  have r1 : rSeeYear [dT qs, .ple a rows, dI y] (.pd .none) := ⟨_, _, _, _, rfl, h0, h1, h2, rfl⟩
  have r2 : rRateOf [dP r] (dQ (vq r)) := ⟨n, r, rfl, hg.rt, by omega, rfl⟩
  refine sd_seq (sd_drop (by walk_at "xd") ?_)
  refine sd_seq (sd_drop (by walk_at "xd") ?_)
  walk_at "sx"
  walk_at "sx"
  refine sd_seq (sd_for (List.range y.toNat) (fun (i : Nat) => PyData.int (i : Int)) (id_rng1 (n := y) (by walk_at "ad") (by omega)) (fun i ds1 => ∃ z1 z2 z3 z4, ds1 = [.va (dT qs), .va (dQ (vq r)), .va (.ple a rows), .va (dI y), .va (dQ (heldR qs (vq r) a.toNat rows i)), z1, z2, z3, z4]) ⟨_, _, _, _, rfl⟩ ?_ ?_)
  · rintro i k ds1 hi ⟨z1, z2, z3, z4, rfl⟩
    have hi1 : i < y.toNat := by
      have := (List.getElem?_eq_some_iff.mp hi).1
      rw [List.length_range] at this
      exact this
    have hk : k = i := by
      rw [List.getElem?_range hi1] at hi
      exact (Option.some.inj hi).symm
    subst hk
    refine ⟨_, gd_name, ?_⟩
    dsimp only [List.set]
    have hlr : k < rows.length := by omega
    obtain ⟨c0, c1, c2⟩ := hg.pl.row hlr
    have hat2 : atI (rows.map rD) (k : Int) = some (rD (rowAt rows k)) := at_nat (j := k) rfl (by rw [List.getElem?_map, rowAt_get hlr]; rfl)
    have hlq : a.toNat + k < qs.length := by omega
    have s1 : rDies [dT qs, dI (a + (k : Int))] (dQ (qs.getD (a.toNat + k) 0)) := ⟨_, _, rfl, by omega, by omega, by rw [show (a + (k : Int)).toNat = a.toNat + k by omega]⟩
    have bN := bd_held hg k (by omega) (by omega)
    have sm := hg.small (j := k) (by omega)
    have bq := hg.tq.bdD hlq
    have bl := hg.tq.blD hlq
    have hne : (1 - qs.getD (a.toNat + k) 0) ≠ 0 := fun e => hg.tq.lt (a.toNat + k) (qs.getD (a.toNat + k) 0) (by omega) (by rw [List.getD_eq_getElem?_getD, List.getElem?_eq_getElem hlq]; rfl) (by grind)
    generalize hN : heldR qs (vq r) a.toNat rows k = N at bN
    generalize hq : qs.getD (a.toNat + k) 0 = q at bq bl s1 hne
    have hres : heldR qs (vq r) a.toNat rows (k + 1) = ((N + (((rowAt rows k).1 - (rowAt rows k).2.1 : Int) : Rat)) / vq r - ((rowAt rows k).2.2 : Rat) * q) / (1 - q) := by
      rw [← hq, ← hN]
      rfl
    generalize rowAt rows k = ro at *
    have b1 := bN.add (bd_diff c0 c1)
    have t1 : rPlus [dQ N, .pd (.tuple [.int (ro.1 - ro.2.1), .int 1])] (dQ (N + ((ro.1 - ro.2.1 : Int) : Rat))) := ⟨N, ((ro.1 - ro.2.1 : Int) : Rat), _, 20, rfl, bN, bd_diff c0 c1, by omega, rfl⟩
    have b2 := b1.div hg.rt.ok.vq hg.rt.ne
    have t2 : rOver [dQ (N + ((ro.1 - ro.2.1 : Int) : Rat)), dQ (vq r)] (dQ ((N + ((ro.1 - ro.2.1 : Int) : Rat)) / vq r)) := ⟨_, _, _, n, rfl, b1, hg.rt.ok.vq, by omega, hg.rt.ne, rfl⟩
    have t3 : rTimes [.pd (.tuple [.int ro.2.2, .int 1]), dQ q] (dQ ((ro.2.2 : Rat) * q)) := ⟨(ro.2.2 : Rat), q, 20, b, rfl, bd_coin c2, bq, by omega, rfl⟩
    have b3 := (bd_coin c2).mul bq
    have t4 : rLess [dQ ((N + ((ro.1 - ro.2.1 : Int) : Rat)) / vq r), dQ ((ro.2.2 : Rat) * q)] (dQ ((N + ((ro.1 - ro.2.1 : Int) : Rat)) / vq r - (ro.2.2 : Rat) * q)) := ⟨_, _, _, _, rfl, b2, b3, by omega, rfl⟩
    have t5 : rLess [.pd (.tuple [.int 1, .int 1]), dQ q] (dQ (1 - q)) := ⟨1, q, 1, b, rfl, bd_one, bq, by omega, rfl⟩
    have t6 : rOver [dQ ((N + ((ro.1 - ro.2.1 : Int) : Rat)) / vq r - (ro.2.2 : Rat) * q), dQ (1 - q)] (dQ (heldR qs (vq r) a.toNat rows (k + 1))) := ⟨_, _, _, b, rfl, b2.sub b3, bl, by omega, hne, by rw [hres]⟩
    walk_at "sx"
    walk_at "sx"
    walk_at "sx"
    refine sd_asg (by walk_at "xd") ?_
    exact ⟨_, _, _, _, rfl⟩
  · rintro ds1 ⟨z1, z2, z3, z4, rfl⟩
    rw [List.length_range]
    exact sd_ret (by walk_at "xd") rfl
theorem okx_held {P : Program} {w : World} {K : PySem.W.Frag} {mg : Str → Option Value} {base : Heap} (T : Tp K mg) : FnOk P w K mg base (L2.CX P w) 5 T.f_held T.d_held ["table", "rate", "pledge", "year"] (spE T.C (rXNeed T.c_BadRate T.c_BadPledge T.c_NoYear)) := by
  have G_Table_dies := ok_Table_dies (P := P) (w := w) (base := base) T
  have G_less := ok_less (P := P) (w := w) (base := base) T
  have G_over := ok_over (P := P) (w := w) (base := base) T
  have G_plus := ok_plus (P := P) (w := w) (base := base) T
  have G_rate_of := ok_rate_of (P := P) (w := w) (base := base) T
  have B_see := okb_see (P := P) (w := w) (base := base) T
  have G_see := ok_see (P := P) (w := w) (base := base) T
  have B_see_year := okb_see_year (P := P) (w := w) (base := base) T
  have G_see_year := ok_see_year (P := P) (w := w) (base := base) T
  have G_times := ok_times (P := P) (w := w) (base := base) T
  have cl_T : Cls T.C.K T.C.T := T.cl_Table
  have n_ch : NoAttr T.C.K T.C.T "chances" := T.n_chances
  have cl_P : Cls T.C.K T.C.P := T.cl_Pledge
  have n_age : NoAttr T.C.K T.C.P "age" := T.n_age
  have n_rows : NoAttr T.C.K T.C.P "rows" := T.n_rows
  refine fn_sx (C := T.C) T.F_held S_held (by intro _ _ h; first | (obtain ⟨_, rfl, _⟩ := h; rfl) | (obtain ⟨_, _, rfl, _⟩ := h; rfl) | (obtain ⟨_, _, _, rfl, _⟩ := h; rfl) | (obtain ⟨_, _, _, _, rfl, _⟩ := h; rfl) | (obtain ⟨_, _, _, _, _, rfl, _⟩ := h; rfl) | (obtain ⟨_, _, _, _, _, _, rfl, _⟩ := h; rfl) | (obtain ⟨_, _, _, _, _, _, _, rfl, _⟩ := h; rfl) | (obtain ⟨_, _, _, _, _, _, _, _, rfl, _⟩ := h; rfl) | (obtain ⟨_, _, _, _, _, _, _, _, _, rfl, _⟩ := h; rfl)) fun cdv A outer s H E hr => ⟨_, (pss_cons (ps_expr (pe_callS B_see (hr.mono (by decide)) (by rfl) T.g_see T.F_see.kp T.b_see (fun σ => passAt (takes_of rfl rfl rfl rfl) σ) (pa_cons (pv 0) (pa_cons (pv 1) (pa_cons (pv 2) pa_nil)))))
      (pss_cons (ps_expr (pe_callS B_see_year (hr.mono (by decide)) (by rfl) T.g_see_year T.F_see_year.kp T.b_see_year (fun σ => passAt (takes_of rfl rfl rfl rfl) σ) (pa_cons (pv 0) (pa_cons (pv 2) (pa_cons (pv 3) pa_nil)))))
      (PSs.nox (pss_cons (ps_set (i := 1) S_held.nd rfl (Or.inl rfl) (pe_call G_rate_of (hr.mono (by decide)) (by rfl) T.g_rate_of T.F_rate_of.kp T.b_rate_of .nil pass0 (pa_cons (pv 1) pa_nil)))
      (pss_cons (ps_set (i := 4) S_held.nd rfl (Or.inl rfl) (pe_tup (pa_cons pe_int (pa_cons pe_int pa_nil))))
      (pss_cons (ps_for PassesOwn.never rfl (pi_range1 rfl T.z_range (pa_cons (pv 3) pa_nil)) (pg_name (i := 5) S_held.nd rfl (Or.inl rfl)) (pss_cons (ps_set (i := 6) S_held.nd rfl (Or.inl rfl) (pe_ix (r := rIx T.C.K) ix_seq (pe_fld (pv 2) rfl) (pv 5) (fun _ _ => rfl)))
      (pss_cons (ps_set (i := 7) S_held.nd rfl (Or.inl rfl) (pe_meth (pv 0) T.cl_Table T.m_Table_dies G_Table_dies (hr.mono (by decide)) T.b_Table_dies .nil pass0 (pa_cons (pe_op op_add (pe_fld (pv 2) rfl) (pv 5)) pa_nil)))
      (pss_cons (ps_set (i := 8) S_held.nd rfl (Or.inl rfl) (pe_call G_over (hr.mono (by decide)) (by rfl) T.g_over T.F_over.kp T.b_over .nil pass0 (pa_cons (pe_call G_plus (hr.mono (by decide)) (by rfl) T.g_plus T.F_plus.kp T.b_plus .nil pass0 (pa_cons (pv 4) (pa_cons (pe_tup (pa_cons (pe_op op_sub (pe_ix (r := rIx T.C.K) ix_seq (pv 6) pe_int (fun _ _ => rfl)) (pe_ix (r := rIx T.C.K) ix_seq (pv 6) pe_int (fun _ _ => rfl))) (pa_cons pe_int pa_nil))) pa_nil))) (pa_cons (pv 1) pa_nil))))
      (pss_one (ps_set (i := 4) S_held.nd rfl (Or.inl rfl) (pe_call G_over (hr.mono (by decide)) (by rfl) T.g_over T.F_over.kp T.b_over .nil pass0 (pa_cons (pe_call G_less (hr.mono (by decide)) (by rfl) T.g_less T.F_less.kp T.b_less .nil pass0 (pa_cons (pv 8) (pa_cons (pe_call G_times (hr.mono (by decide)) (by rfl) T.g_times T.F_times.kp T.b_times .nil pass0 (pa_cons (pe_tup (pa_cons (pe_ix (r := rIx T.C.K) ix_seq (pv 6) pe_int (fun _ _ => rfl)) (pa_cons pe_int pa_nil))) (pa_cons (pv 7) pa_nil))) pa_nil))) (pa_cons (pe_call G_less (hr.mono (by decide)) (by rfl) T.g_less T.F_less.kp T.b_less .nil pass0 (pa_cons (pe_tup (pa_cons pe_int (pa_cons pe_int pa_nil))) (pa_cons (pv 7) pa_nil))) pa_nil)))))))))
      (pss_one (ps_ret (pv 4))))))))), ?_⟩
  rintro _ A ⟨qs, r, a, rows, y, rfl, h⟩
  change SD _ _ _ ([.va (dT qs), .va (dP r), .va (.ple a rows), .va (dI y)] ++ _) _
  rcases h with h | ⟨⟨b, n, hg⟩, h⟩
  · exact sd_seq (sd_dropX (by walk_at "xx") rfl)
  · have r0 : rSee [dT qs, dP r, .ple a rows] (.pd .none) := ⟨b, n, _, _, _, _, rfl, hg, rfl⟩
    refine sd_seq (sd_drop (by walk_at "xd") ?_)
    exact sd_seq (sd_dropX (by walk_at "xx") rfl)
theorem okb_held {P : Program} {w : World} {K : PySem.W.Frag} {mg : Str → Option Value} {base : Heap} (T : Tp K mg) : FnOk P w K mg base (L2.CX P w) 5 T.f_held T.d_held ["table", "rate", "pledge", "year"] (spB T.C rHeld (rXNeed T.c_BadRate T.c_BadPledge T.c_NoYear)) := fn_or (C := T.C) (fn_up (C := T.C) (ok_held T)) (okx_held T)
theorem ok_loss_at {P : Program} {w : World} {K : PySem.W.Frag} {mg : Str → Option Value} {base : Heap} (T : Tp K mg) : FnOk P w K mg base CX0 5 T.f_loss_at T.d_loss_at ["rate", "pledge", "years", "dead"] (spR T.C rLossAt) := by
  have G_later := ok_later (P := P) (w := w) (base := base) T
  have G_summed := ok_summed (P := P) (w := w) (base := base) T
  have G_times := ok_times (P := P) (w := w) (base := base) T
  have cl_T : Cls T.C.K T.C.T := T.cl_Table
  have n_ch : NoAttr T.C.K T.C.T "chances" := T.n_chances
  have cl_P : Cls T.C.K T.C.P := T.cl_Pledge
  have n_age : NoAttr T.C.K T.C.P "age" := T.n_age
  have n_rows : NoAttr T.C.K T.C.P "rows" := T.n_rows
  refine fn_sd (C := T.C) T.F_loss_at S_loss_at (by intro _ _ h; first | (obtain ⟨_, rfl, _⟩ := h; rfl) | (obtain ⟨_, _, rfl, _⟩ := h; rfl) | (obtain ⟨_, _, _, rfl, _⟩ := h; rfl) | (obtain ⟨_, _, _, _, rfl, _⟩ := h; rfl) | (obtain ⟨_, _, _, _, _, rfl, _⟩ := h; rfl) | (obtain ⟨_, _, _, _, _, _, rfl, _⟩ := h; rfl) | (obtain ⟨_, _, _, _, _, _, _, rfl, _⟩ := h; rfl) | (obtain ⟨_, _, _, _, _, _, _, _, rfl, _⟩ := h; rfl) | (obtain ⟨_, _, _, _, _, _, _, _, _, rfl, _⟩ := h; rfl)) fun cdv A outer s H E hr => ⟨_, (pss_cons (ps_set (i := 4) S_loss_at.nd rfl (Or.inl rfl) (pe_lst pa_nil))
      (pss_cons (ps_for PassesOwn.never rfl (pi_range1 rfl T.z_range (pa_cons (pv 2) pa_nil)) (pg_name (i := 5) S_loss_at.nd rfl (Or.inl rfl)) (pss_cons (ps_set (i := 6) S_loss_at.nd rfl (Or.inl rfl) (pe_ix (r := rIx T.C.K) ix_seq (pe_fld (pv 1) rfl) (pv 5) (fun _ _ => rfl)))
      (pss_one (ps_expr (pe_bm PySem.F.plainAttrs_list PySem.F.slot_list_append PySem.F.type_list_append mt_append (pv 4) (pa_cons (pe_call G_times (hr.mono (by decide)) (by rfl) T.g_times T.F_times.kp T.b_times .nil pass0 (pa_cons (pe_tup (pa_cons (pe_op op_sub (pe_ix (r := rIx T.C.K) ix_seq (pv 6) pe_int (fun _ _ => rfl)) (pe_ix (r := rIx T.C.K) ix_seq (pv 6) pe_int (fun _ _ => rfl))) (pa_cons pe_int pa_nil))) (pa_cons (pe_call G_later (hr.mono (by decide)) (by rfl) T.g_later T.F_later.kp T.b_later .nil pass0 (pa_cons (pv 0) (pa_cons (pv 5) pa_nil))) pa_nil))) pa_nil))))))
      (pss_cons (ps_if (pt_val (pv 3)) (pss_one (ps_expr (pe_bm PySem.F.plainAttrs_list PySem.F.slot_list_append PySem.F.type_list_append mt_append (pv 4) (pa_cons (pe_call G_times (hr.mono (by decide)) (by rfl) T.g_times T.F_times.kp T.b_times .nil pass0 (pa_cons (pe_tup (pa_cons (pe_ix (r := rIx T.C.K) ix_seq (pe_ix (r := rIx T.C.K) ix_seq (pe_fld (pv 1) rfl) (pe_op op_sub (pv 2) pe_int) (fun _ _ => rfl)) pe_int (fun _ _ => rfl)) (pa_cons pe_int pa_nil))) (pa_cons (pe_call G_later (hr.mono (by decide)) (by rfl) T.g_later T.F_later.kp T.b_later .nil pass0 (pa_cons (pv 0) (pa_cons (pv 2) pa_nil))) pa_nil))) pa_nil)))) pss_nil)
      (pss_one (ps_ret (pe_call G_summed (hr.mono (by decide)) (by rfl) T.g_summed T.F_summed.kp T.b_summed .nil pass0 (pa_cons (pv 4) pa_nil))))))), ?_⟩
  rintro _ _ ⟨n, r, a, rows, y, dead, rfl, hrt, hp, h1, h2, h9, rfl⟩
  change SD _ _ _ [.va (dP r), .va (.ple a rows), .va (dI y), .va (dB dead), .un, .un, .un] _
  have h20 := hp.l20
  have hnn : rows.length * n ≤ (rows.length + 1) * n := Nat.mul_le_mul_right n (by omega)
  refine sd_seq (sd_asgO (xl_lst ap_nil (by decide)) ?_)
  dsimp only [List.set]
  refine sd_seq (sd_for (List.range y.toNat) (fun (k : Nat) => PyData.int (k : Int)) (id_rng1 (n := y) (by walk_at "ad") (by omega)) (fun i ds1 => ∃ z1 z2, ds1 = [.va (dP r), .va (.ple a rows), .va (dI y), .va (dB dead), .ow (((List.range i).map fun k => coinD rows k * vq r ^ k).map fun x => pD (pq x)), z1, z2]) ⟨_, _, rfl⟩ ?_ ?_)
  · rintro i k ds1 hi ⟨z1, z2, rfl⟩
    have hi1 : i < y.toNat := by
      have := (List.getElem?_eq_some_iff.mp hi).1
      rw [List.length_range] at this
      exact this
    have hk : k = i := by
      rw [List.getElem?_range hi1] at hi
      exact (Option.some.inj hi).symm
    subst hk
    refine ⟨_, gd_name, ?_⟩
    dsimp only [List.set]
    have hlr : k < rows.length := by omega
    obtain ⟨c0, c1, c2⟩ := hp.row hlr
    have hat2 : atI (rows.map rD) (k : Int) = some (rD (rowAt rows k)) := at_nat (j := k) rfl (by rw [List.getElem?_map, rowAt_get hlr]; rfl)
    have hm1 : k * n ≤ rows.length * n := Nat.mul_le_mul_right n (by omega)
    have s1 : rLater [dP r, dI (k : Int)] (dQ (vq r ^ k)) := ⟨n, _, _, rfl, hrt, by omega, by omega, by rw [Int.toNat_natCast]; omega, by rw [Int.toNat_natCast]⟩
    have s2 : rTimes [.pd (.tuple [.int ((rowAt rows k).2.1 - (rowAt rows k).1), .int 1]), dQ (vq r ^ k)] (dQ (coinD rows k * vq r ^ k)) := ⟨coinD rows k, _, 20, _, rfl, bd_coinD (hp.row hlr), bd_pow hrt.ok.vq k, by omega, rfl⟩
    walk_at "sx"
    refine sd_app rfl (by walk_at "xd") ?_ ?_
    · rw [List.length_map, List.length_map, List.length_range]
      omega
    dsimp only [List.set]
    rw [List.range_succ, List.map_append, List.map_append]
    exact ⟨_, _, rfl⟩
  rintro _ ⟨z1, z2, rfl⟩
  rw [List.length_range]
  have hfin : ∀ xs : List Rat, (∀ x ∈ xs, Bd (23 + (rows.length + 1) * n) x) → 1 + xs.length * (23 + (rows.length + 1) * n + 1) + (23 + (rows.length + 1) * n) ≤ 8999 → xs.sum = lossR rows (vq r) y.toNat dead → rSummed [.pd (.list (xs.map fun x => pD (pq x)))] (dQ (lossR rows (vq r) y.toNat dead)) := fun xs h3 h4 h5 => ⟨xs, _, rfl, h3, h4, by rw [h5]⟩
  have hb1 : ∀ x ∈ (List.range y.toNat).map fun k => coinD rows k * vq r ^ k, Bd (23 + (rows.length + 1) * n) x := fun x hx => by
    obtain ⟨k, hk, rfl⟩ := List.mem_map.mp hx
    have hk' := List.mem_range.mp hk
    have hm1 : k * n ≤ (rows.length + 1) * n := Nat.mul_le_mul_right n (by omega)
    exact ((bd_coinD (hp.row (by omega))).mul (bd_pow hrt.ok.vq k)).mono (by omega)
  have hsz : ∀ l : Nat, l ≤ rows.length + 1 → 1 + l * (23 + (rows.length + 1) * n + 1) + (23 + (rows.length + 1) * n) ≤ 8999 := fun l hl => by
    have e1 : l * (23 + (rows.length + 1) * n + 1) ≤ (rows.length + 1) * (24 + (rows.length + 1) * n) := Nat.mul_le_mul hl (by omega)
    omega
  refine sd_mid (fun d => ∃ xs : List Rat, d = [.va (dP r), .va (.ple a rows), .va (dI y), .va (dB dead), .ow (xs.map fun x => pD (pq x)), z1, z2] ∧ (∀ x ∈ xs, Bd (23 + (rows.length + 1) * n) x) ∧ xs.length ≤ rows.length + 1 ∧ xs.sum = lossR rows (vq r) y.toNat dead) (sd_if (td_B (xd_var rfl)) (fun hb => ?_) (fun hb => ?_)) ?_
  · subst hb
    have hlr : y.toNat - 1 < rows.length := by omega
    obtain ⟨c0, c1, c2⟩ := hp.row hlr
    have hat2 : atI (rows.map rD) (y - 1) = some (rD (rowAt rows (y.toNat - 1))) := at_nat (j := y.toNat - 1) (by omega) (by rw [List.getElem?_map, rowAt_get hlr]; rfl)
    have hm1 : y.toNat * n ≤ rows.length * n := Nat.mul_le_mul_right n (by omega)
    have s1 : rLater [dP r, dI y] (dQ (vq r ^ y.toNat)) := ⟨n, _, _, rfl, hrt, by omega, by omega, by omega, rfl⟩
    have s2 : rTimes [.pd (.tuple [.int (rowAt rows (y.toNat - 1)).2.2, .int 1]), dQ (vq r ^ y.toNat)] (dQ (((rowAt rows (y.toNat - 1)).2.2 : Rat) * vq r ^ y.toNat)) := ⟨((rowAt rows (y.toNat - 1)).2.2 : Rat), _, 20, _, rfl, bd_coin c2, bd_pow hrt.ok.vq y.toNat, by omega, rfl⟩
    refine sd_app rfl (by walk_at "xd") ?_ ?_
    · rw [List.length_map, List.length_map, List.length_range]
      omega
    dsimp only [List.set]
    refine ⟨((List.range y.toNat).map fun k => coinD rows k * vq r ^ k) ++ [((rowAt rows (y.toNat - 1)).2.2 : Rat) * vq r ^ y.toNat], by rw [List.map_append]; rfl, fun x hx => ?_, ?_, ?_⟩
    · rcases List.mem_append.mp hx with hx | hx
      · exact hb1 x hx
      · rw [List.mem_singleton] at hx
        rw [hx]
        have hm2 : y.toNat * n ≤ (rows.length + 1) * n := Nat.mul_le_mul_right n (by omega)
        exact ((bd_coin c2).mul (bd_pow hrt.ok.vq y.toNat)).mono (by omega)
    · rw [List.length_append, List.length_map, List.length_range]
      show y.toNat + 1 ≤ _
      omega
    · rw [List.sum_append, sum1]
      unfold lossR lossG rsum
      rw [if_pos rfl]
  · subst hb
    refine sd_next ⟨_, rfl, hb1, ?_, ?_⟩
    · rw [List.length_map, List.length_range]
      omega
    · unfold lossR lossG rsum
      rw [if_neg Bool.false_ne_true, Rat.add_zero]
  · rintro _ ⟨xs, rfl, h3, h4, h5⟩
    refine sd_shown 4 rfl ?_
    dsimp only [List.set]
    have hs := hfin xs h3 (hsz _ h4) h5
    exact sd_ret (by walk_at "xd") rfl
theorem ok_outgo {P : Program} {w : World} {K : PySem.W.Frag} {mg : Str → Option Value} {base : Heap} (T : Tp K mg) : FnOk P w K mg base CX0 6 T.f_outgo T.d_outgo ["table", "rate", "pledge"] (spR T.C rOutgo) := by
  have G_Table_dies := ok_Table_dies (P := P) (w := w) (base := base) T
  have G_Table_lives := ok_Table_lives (P := P) (w := w) (base := base) T
  have G_later := ok_later (P := P) (w := w) (base := base) T
  have G_see := ok_see (P := P) (w := w) (base := base) T
  have G_summed := ok_summed (P := P) (w := w) (base := base) T
  have G_times := ok_times (P := P) (w := w) (base := base) T
  have cl_T : Cls T.C.K T.C.T := T.cl_Table
  have n_ch : NoAttr T.C.K T.C.T "chances" := T.n_chances
  have cl_P : Cls T.C.K T.C.P := T.cl_Pledge
  have n_age : NoAttr T.C.K T.C.P "age" := T.n_age
  have n_rows : NoAttr T.C.K T.C.P "rows" := T.n_rows
  refine fn_sd (C := T.C) T.F_outgo S_outgo (by intro _ _ h; first | (obtain ⟨_, rfl, _⟩ := h; rfl) | (obtain ⟨_, _, rfl, _⟩ := h; rfl) | (obtain ⟨_, _, _, rfl, _⟩ := h; rfl) | (obtain ⟨_, _, _, _, rfl, _⟩ := h; rfl) | (obtain ⟨_, _, _, _, _, rfl, _⟩ := h; rfl) | (obtain ⟨_, _, _, _, _, _, rfl, _⟩ := h; rfl) | (obtain ⟨_, _, _, _, _, _, _, rfl, _⟩ := h; rfl) | (obtain ⟨_, _, _, _, _, _, _, _, rfl, _⟩ := h; rfl) | (obtain ⟨_, _, _, _, _, _, _, _, _, rfl, _⟩ := h; rfl)) fun cdv A outer s H E hr => ⟨_, (pss_cons (ps_expr (pe_call G_see (hr.mono (by decide)) (by rfl) T.g_see T.F_see.kp T.b_see .nil pass0 (pa_cons (pv 0) (pa_cons (pv 1) (pa_cons (pv 2) pa_nil)))))
      (pss_cons (ps_set (i := 3) S_outgo.nd rfl (Or.inl rfl) (pe_lst pa_nil))
      (pss_cons (ps_for PassesOwn.never rfl (pi_enum (by rfl) T.z_enumerate (pa_cons (pe_fld (pv 2) rfl) pa_nil)) (pg_tup rfl (pgs_cons (pg_name (i := 4) S_outgo.nd rfl (Or.inl rfl)) (pgs_cons (pg_name (i := 5) S_outgo.nd rfl (Or.inl rfl)) pgs_nil))) (pss_cons (ps_set (i := 6) S_outgo.nd rfl (Or.inl rfl) (pe_meth (pv 0) T.cl_Table T.m_Table_lives G_Table_lives (hr.mono (by decide)) T.b_Table_lives .nil pass0 (pa_cons (pe_fld (pv 2) rfl) (pa_cons (pv 4) pa_nil))))
      (pss_cons (ps_set (i := 7) S_outgo.nd rfl (Or.inl rfl) (pe_call G_times (hr.mono (by decide)) (by rfl) T.g_times T.F_times.kp T.b_times .nil pass0 (pa_cons (pv 6) (pa_cons (pe_meth (pv 0) T.cl_Table T.m_Table_dies G_Table_dies (hr.mono (by decide)) T.b_Table_dies .nil pass0 (pa_cons (pe_op op_add (pe_fld (pv 2) rfl) (pv 4)) pa_nil)) pa_nil))))
      (pss_cons (ps_expr (pe_bm PySem.F.plainAttrs_list PySem.F.slot_list_append PySem.F.type_list_append mt_append (pv 3) (pa_cons (pe_call G_times (hr.mono (by decide)) (by rfl) T.g_times T.F_times.kp T.b_times .nil pass0 (pa_cons (pe_tup (pa_cons (pe_ix (r := rIx T.C.K) ix_seq (pv 5) pe_int (fun _ _ => rfl)) (pa_cons pe_int pa_nil))) (pa_cons (pe_call G_times (hr.mono (by decide)) (by rfl) T.g_times T.F_times.kp T.b_times .nil pass0 (pa_cons (pv 6) (pa_cons (pe_call G_later (hr.mono (by decide)) (by rfl) T.g_later T.F_later.kp T.b_later .nil pass0 (pa_cons (pv 1) (pa_cons (pv 4) pa_nil))) pa_nil))) pa_nil))) pa_nil)))
      (pss_one (ps_expr (pe_bm PySem.F.plainAttrs_list PySem.F.slot_list_append PySem.F.type_list_append mt_append (pv 3) (pa_cons (pe_call G_times (hr.mono (by decide)) (by rfl) T.g_times T.F_times.kp T.b_times .nil pass0 (pa_cons (pe_tup (pa_cons (pe_ix (r := rIx T.C.K) ix_seq (pv 5) pe_int (fun _ _ => rfl)) (pa_cons pe_int pa_nil))) (pa_cons (pe_call G_times (hr.mono (by decide)) (by rfl) T.g_times T.F_times.kp T.b_times .nil pass0 (pa_cons (pv 7) (pa_cons (pe_call G_later (hr.mono (by decide)) (by rfl) T.g_later T.F_later.kp T.b_later .nil pass0 (pa_cons (pv 1) (pa_cons (pe_op op_add (pv 4) pe_int) pa_nil))) pa_nil))) pa_nil))) pa_nil))))))))
      (pss_one (ps_ret (pe_call G_summed (hr.mono (by decide)) (by rfl) T.g_summed T.F_summed.kp T.b_summed .nil pass0 (pa_cons (pv 3) pa_nil))))))), ?_⟩
  rintro _ _ ⟨b, n, qs, r, a, rows, rfl, hg, rfl⟩
  change SD _ _ _ [.va (dT qs), .va (dP r), .va (.ple a rows), .un, .un, .un, .un, .un] _
  have r0 : rSee [dT qs, dP r, .ple a rows] (.pd .none) := ⟨b, n, _, _, _, _, rfl, hg, rfl⟩
  have ha := hg.pl.a0
  have hfit := hg.fit
  have h20 := hg.pl.l20
  have hn := hg.n8
  refine sd_seq (sd_drop (by walk_at "xd") ?_)
  refine sd_seq (sd_asgO (xl_lst ap_nil (by decide)) ?_)
  dsimp only [List.set]
  refine sd_seq (sd_for (List.range (rows.map rD).length) (fun (i : Nat) => PyData.tuple [.int (i : Int), (rows.map rD).getD i .none]) (id_enum (by walk_at "ad")) (fun i ds1 => ∃ z1 z2 z3 z4, ds1 = [.va (dT qs), .va (dP r), .va (.ple a rows), .ow ((two i (fun k => wLiv qs (vq r) a.toNat (rowAt rows k).2.1 k) (fun k => wDie qs (vq r) a.toNat (rowAt rows k).2.2 k)).map fun x => pD (pq x)), z1, z2, z3, z4]) ⟨_, _, _, _, rfl⟩ ?_ ?_)
  · rintro i k ds1 hi ⟨z1, z2, z3, z4, rfl⟩
    have hi1 : i < rows.length := by
      have := (List.getElem?_eq_some_iff.mp hi).1
      rw [List.length_range, List.length_map] at this
      exact this
    have hk : k = i := by
      rw [List.getElem?_range (by rw [List.length_map]; exact hi1)] at hi
      exact (Option.some.inj hi).symm
    subst hk
    have hrow : (rows.map rD).getD k .none = rD (rowAt rows k) := by
      rw [List.getD_eq_getElem?_getD, List.getElem?_map, rowAt_get hi1]
      rfl
    rw [hrow]
    refine ⟨_, gd_tup2, ?_⟩
    dsimp only [List.set]
    obtain ⟨c0, c1, c2⟩ := hg.pl.row hi1
    have hlt : a.toNat + k < qs.length := by omega
    have hm1 : k * n ≤ (rows.length + 1) * n := Nat.mul_le_mul_right n (by omega)
    have hm2 : (k + 1) * n ≤ (rows.length + 1) * n := Nat.mul_le_mul_right n (by omega)
    have hm3 : n ≤ (rows.length + 1) * n := Nat.le_mul_of_pos_left n (by omega)
    have hm4 : k * n + n = (k + 1) * n := by rw [Nat.add_mul]; omega
    have hm5 : (k + 1) * n + n ≤ (rows.length + 1) * n := by
      have e : (k + 1) * n + n = (k + 2) * n := by rw [Nat.add_mul, Nat.add_mul]; omega
      rw [e]
      exact Nat.mul_le_mul_right n (by omega)
    have s1 : rLives [dT qs, dI a, dI (k : Int)] (dQ (lv qs a.toNat k)) := ⟨b, _, _, _, rfl, hg.tq, ha, by omega, by omega, by omega, by rw [Int.toNat_natCast]⟩
    have s2 : rDies [dT qs, dI (a + (k : Int))] (dQ (qs.getD (a.toNat + k) 0)) := ⟨_, _, rfl, by omega, by omega, by rw [show (a + (k : Int)).toNat = a.toNat + k by omega]⟩
    have s3 : rTimes [dQ (lv qs a.toNat k), dQ (qs.getD (a.toNat + k) 0)] (dQ (lv qs a.toNat k * qs.getD (a.toNat + k) 0)) := ⟨_, _, 61, b, rfl, bd_lv hg.tq _ _, hg.tq.bdD hlt, by have := hg.tq.b60; omega, rfl⟩
    have s4 : rLater [dP r, dI (k : Int)] (dQ (vq r ^ k)) := ⟨n, _, _, rfl, hg.rt, by omega, by omega, by rw [Int.toNat_natCast]; omega, by rw [Int.toNat_natCast]⟩
    have s5 : rTimes [dQ (lv qs a.toNat k), dQ (vq r ^ k)] (dQ (lv qs a.toNat k * vq r ^ k)) := ⟨_, _, 61, _, rfl, bd_lv hg.tq _ _, bd_pow hg.rt.ok.vq k, by omega, rfl⟩
    have s6 : rTimes [.pd (.tuple [.int (rowAt rows k).2.1, .int 1]), dQ (lv qs a.toNat k * vq r ^ k)] (dQ (wLiv qs (vq r) a.toNat (rowAt rows k).2.1 k)) := ⟨((rowAt rows k).2.1 : Rat), _, 20, _, rfl, bd_coin c1, (bd_lv hg.tq _ _).mul (bd_pow hg.rt.ok.vq k), by omega, rfl⟩
    have s7 : rLater [dP r, dI ((k : Int) + 1)] (dQ (vq r ^ (k + 1))) := ⟨n, _, _, rfl, hg.rt, by omega, by omega, by rw [show ((k : Int) + 1).toNat = k + 1 by omega]; omega, by rw [show ((k : Int) + 1).toNat = k + 1 by omega]⟩
    have s8 : rTimes [dQ (lv qs a.toNat k * qs.getD (a.toNat + k) 0), dQ (vq r ^ (k + 1))] (dQ (lv qs a.toNat k * qs.getD (a.toNat + k) 0 * vq r ^ (k + 1))) := ⟨_, _, 61 + b, _, rfl, (bd_lv hg.tq _ _).mul (hg.tq.bdD hlt), bd_pow hg.rt.ok.vq (k + 1), by have := hg.tq.b60; omega, rfl⟩
    have s9 : rTimes [.pd (.tuple [.int (rowAt rows k).2.2, .int 1]), dQ (lv qs a.toNat k * qs.getD (a.toNat + k) 0 * vq r ^ (k + 1))] (dQ (wDie qs (vq r) a.toNat (rowAt rows k).2.2 k)) := ⟨((rowAt rows k).2.2 : Rat), _, 20, _, rfl, bd_coin c2, ((bd_lv hg.tq _ _).mul (hg.tq.bdD hlt)).mul (bd_pow hg.rt.ok.vq (k + 1)), by have := hg.tq.b60; omega, rfl⟩
    walk_at "sx"
    walk_at "sx"
    refine sd_seq (sd_app rfl (by walk_at "xd") ?_ ?_)
    · rw [List.length_map, two_len]
      omega
    dsimp only [List.set]
    refine sd_app rfl (by walk_at "xd") ?_ ?_
    · rw [List.length_append, List.length_map, two_len]
      show 2 * k + 1 < 100000
      omega
    dsimp only [List.set]
    rw [two_succ, List.map_append, List.append_assoc]
    exact ⟨_, _, _, _, rfl⟩
  rintro _ ⟨z1, z2, z3, z4, rfl⟩
  rw [List.length_range, List.length_map]
  refine sd_shown 3 rfl ?_
  dsimp only [List.set]
  have hsum : rSummed [.pd (.list ((two rows.length (fun k => wLiv qs (vq r) a.toNat (rowAt rows k).2.1 k) (fun k => wDie qs (vq r) a.toNat (rowAt rows k).2.2 k)).map fun x => pD (pq x)))] (dQ (paidF qs (vq r) a.toNat rows 0)) := by
    refine ⟨_, 150 + (rows.length + 1) * n, rfl, fun x hx => ?_, ?_, ?_⟩
    · obtain ⟨k, hk, e | e⟩ := two_mem hx
      · rw [e]; exact bd_wLiv hg.tq hg.rt (hg.pl.row hk).2.1 (by omega)
      · rw [e]; exact bd_wDie hg.tq hg.rt (hg.pl.row hk).2.2 hk (by omega)
    · rw [two_len, show 150 + (rows.length + 1) * n + 1 = 151 + (rows.length + 1) * n by omega]
      have := hg.sz
      omega
    · rw [two_sum]
      unfold paidF
      rw [Nat.sub_zero]
      simp only [Nat.add_zero, Nat.zero_add]
  exact sd_ret (by walk_at "xd") rfl
theorem okx_outgo {P : Program} {w : World} {K : PySem.W.Frag} {mg : Str → Option Value} {base : Heap} (T : Tp K mg) : FnOk P w K mg base (L2.CX P w) 6 T.f_outgo T.d_outgo ["table", "rate", "pledge"] (spE T.C (rXSee T.c_BadRate T.c_BadPledge)) := by
  have G_Table_dies := ok_Table_dies (P := P) (w := w) (base := base) T
  have G_Table_lives := ok_Table_lives (P := P) (w := w) (base := base) T
  have G_later := ok_later (P := P) (w := w) (base := base) T
  have B_see := okb_see (P := P) (w := w) (base := base) T
  have G_see := ok_see (P := P) (w := w) (base := base) T
  have G_summed := ok_summed (P := P) (w := w) (base := base) T
  have G_times := ok_times (P := P) (w := w) (base := base) T
  have cl_T : Cls T.C.K T.C.T := T.cl_Table
  have n_ch : NoAttr T.C.K T.C.T "chances" := T.n_chances
  have cl_P : Cls T.C.K T.C.P := T.cl_Pledge
  have n_age : NoAttr T.C.K T.C.P "age" := T.n_age
  have n_rows : NoAttr T.C.K T.C.P "rows" := T.n_rows
  refine fn_sx (C := T.C) T.F_outgo S_outgo (by intro _ _ h; first | (obtain ⟨_, rfl, _⟩ := h; rfl) | (obtain ⟨_, _, rfl, _⟩ := h; rfl) | (obtain ⟨_, _, _, rfl, _⟩ := h; rfl) | (obtain ⟨_, _, _, _, rfl, _⟩ := h; rfl) | (obtain ⟨_, _, _, _, _, rfl, _⟩ := h; rfl) | (obtain ⟨_, _, _, _, _, _, rfl, _⟩ := h; rfl) | (obtain ⟨_, _, _, _, _, _, _, rfl, _⟩ := h; rfl) | (obtain ⟨_, _, _, _, _, _, _, _, rfl, _⟩ := h; rfl) | (obtain ⟨_, _, _, _, _, _, _, _, _, rfl, _⟩ := h; rfl)) fun cdv A outer s H E hr => ⟨_, (pss_cons (ps_expr (pe_callS B_see (hr.mono (by decide)) (by rfl) T.g_see T.F_see.kp T.b_see (fun σ => passAt (takes_of rfl rfl rfl rfl) σ) (pa_cons (pv 0) (pa_cons (pv 1) (pa_cons (pv 2) pa_nil)))))
      (PSs.nox (pss_cons (ps_set (i := 3) S_outgo.nd rfl (Or.inl rfl) (pe_lst pa_nil))
      (pss_cons (ps_for PassesOwn.never rfl (pi_enum (by rfl) T.z_enumerate (pa_cons (pe_fld (pv 2) rfl) pa_nil)) (pg_tup rfl (pgs_cons (pg_name (i := 4) S_outgo.nd rfl (Or.inl rfl)) (pgs_cons (pg_name (i := 5) S_outgo.nd rfl (Or.inl rfl)) pgs_nil))) (pss_cons (ps_set (i := 6) S_outgo.nd rfl (Or.inl rfl) (pe_meth (pv 0) T.cl_Table T.m_Table_lives G_Table_lives (hr.mono (by decide)) T.b_Table_lives .nil pass0 (pa_cons (pe_fld (pv 2) rfl) (pa_cons (pv 4) pa_nil))))
      (pss_cons (ps_set (i := 7) S_outgo.nd rfl (Or.inl rfl) (pe_call G_times (hr.mono (by decide)) (by rfl) T.g_times T.F_times.kp T.b_times .nil pass0 (pa_cons (pv 6) (pa_cons (pe_meth (pv 0) T.cl_Table T.m_Table_dies G_Table_dies (hr.mono (by decide)) T.b_Table_dies .nil pass0 (pa_cons (pe_op op_add (pe_fld (pv 2) rfl) (pv 4)) pa_nil)) pa_nil))))
      (pss_cons (ps_expr (pe_bm PySem.F.plainAttrs_list PySem.F.slot_list_append PySem.F.type_list_append mt_append (pv 3) (pa_cons (pe_call G_times (hr.mono (by decide)) (by rfl) T.g_times T.F_times.kp T.b_times .nil pass0 (pa_cons (pe_tup (pa_cons (pe_ix (r := rIx T.C.K) ix_seq (pv 5) pe_int (fun _ _ => rfl)) (pa_cons pe_int pa_nil))) (pa_cons (pe_call G_times (hr.mono (by decide)) (by rfl) T.g_times T.F_times.kp T.b_times .nil pass0 (pa_cons (pv 6) (pa_cons (pe_call G_later (hr.mono (by decide)) (by rfl) T.g_later T.F_later.kp T.b_later .nil pass0 (pa_cons (pv 1) (pa_cons (pv 4) pa_nil))) pa_nil))) pa_nil))) pa_nil)))
      (pss_one (ps_expr (pe_bm PySem.F.plainAttrs_list PySem.F.slot_list_append PySem.F.type_list_append mt_append (pv 3) (pa_cons (pe_call G_times (hr.mono (by decide)) (by rfl) T.g_times T.F_times.kp T.b_times .nil pass0 (pa_cons (pe_tup (pa_cons (pe_ix (r := rIx T.C.K) ix_seq (pv 5) pe_int (fun _ _ => rfl)) (pa_cons pe_int pa_nil))) (pa_cons (pe_call G_times (hr.mono (by decide)) (by rfl) T.g_times T.F_times.kp T.b_times .nil pass0 (pa_cons (pv 7) (pa_cons (pe_call G_later (hr.mono (by decide)) (by rfl) T.g_later T.F_later.kp T.b_later .nil pass0 (pa_cons (pv 1) (pa_cons (pe_op op_add (pv 4) pe_int) pa_nil))) pa_nil))) pa_nil))) pa_nil))))))))
      (pss_one (ps_ret (pe_call G_summed (hr.mono (by decide)) (by rfl) T.g_summed T.F_summed.kp T.b_summed .nil pass0 (pa_cons (pv 3) pa_nil)))))))), ?_⟩
  rintro _ A ⟨qs, r, a, rows, rfl, h⟩
  change SD _ _ _ ([.va (dT qs), .va (dP r), .va (.ple a rows)] ++ _) _
  have r1 : (rXSee T.c_BadRate T.c_BadPledge) [dT qs, dP r, .ple a rows] A := ⟨qs, r, a, rows, rfl, h⟩
  exact sd_seq (sd_dropX (by walk_at "xx") rfl)
theorem okb_outgo {P : Program} {w : World} {K : PySem.W.Frag} {mg : Str → Option Value} {base : Heap} (T : Tp K mg) : FnOk P w K mg base (L2.CX P w) 6 T.f_outgo T.d_outgo ["table", "rate", "pledge"] (spB T.C rOutgo (rXSee T.c_BadRate T.c_BadPledge)) := fn_or (C := T.C) (fn_up (C := T.C) (ok_outgo T)) (okx_outgo T)
theorem ok_income {P : Program} {w : World} {K : PySem.W.Frag} {mg : Str → Option Value} {base : Heap} (T : Tp K mg) : FnOk P w K mg base CX0 6 T.f_income T.d_income ["table", "rate", "pledge"] (spR T.C rIncome) := by
  have G_Table_lives := ok_Table_lives (P := P) (w := w) (base := base) T
  have G_later := ok_later (P := P) (w := w) (base := base) T
  have G_see := ok_see (P := P) (w := w) (base := base) T
  have G_summed := ok_summed (P := P) (w := w) (base := base) T
  have G_times := ok_times (P := P) (w := w) (base := base) T
  have cl_T : Cls T.C.K T.C.T := T.cl_Table
  have n_ch : NoAttr T.C.K T.C.T "chances" := T.n_chances
  have cl_P : Cls T.C.K T.C.P := T.cl_Pledge
  have n_age : NoAttr T.C.K T.C.P "age" := T.n_age
  have n_rows : NoAttr T.C.K T.C.P "rows" := T.n_rows
  refine fn_sd (C := T.C) T.F_income S_income (by intro _ _ h; first | (obtain ⟨_, rfl, _⟩ := h; rfl) | (obtain ⟨_, _, rfl, _⟩ := h; rfl) | (obtain ⟨_, _, _, rfl, _⟩ := h; rfl) | (obtain ⟨_, _, _, _, rfl, _⟩ := h; rfl) | (obtain ⟨_, _, _, _, _, rfl, _⟩ := h; rfl) | (obtain ⟨_, _, _, _, _, _, rfl, _⟩ := h; rfl) | (obtain ⟨_, _, _, _, _, _, _, rfl, _⟩ := h; rfl) | (obtain ⟨_, _, _, _, _, _, _, _, rfl, _⟩ := h; rfl) | (obtain ⟨_, _, _, _, _, _, _, _, _, rfl, _⟩ := h; rfl)) fun cdv A outer s H E hr => ⟨_, (pss_cons (ps_expr (pe_call G_see (hr.mono (by decide)) (by rfl) T.g_see T.F_see.kp T.b_see .nil pass0 (pa_cons (pv 0) (pa_cons (pv 1) (pa_cons (pv 2) pa_nil)))))
      (pss_cons (ps_set (i := 3) S_income.nd rfl (Or.inl rfl) (pe_lst pa_nil))
      (pss_cons (ps_for PassesOwn.never rfl (pi_enum (by rfl) T.z_enumerate (pa_cons (pe_fld (pv 2) rfl) pa_nil)) (pg_tup rfl (pgs_cons (pg_name (i := 4) S_income.nd rfl (Or.inl rfl)) (pgs_cons (pg_name (i := 5) S_income.nd rfl (Or.inl rfl)) pgs_nil))) (pss_one (ps_expr (pe_bm PySem.F.plainAttrs_list PySem.F.slot_list_append PySem.F.type_list_append mt_append (pv 3) (pa_cons (pe_call G_times (hr.mono (by decide)) (by rfl) T.g_times T.F_times.kp T.b_times .nil pass0 (pa_cons (pe_tup (pa_cons (pe_ix (r := rIx T.C.K) ix_seq (pv 5) pe_int (fun _ _ => rfl)) (pa_cons pe_int pa_nil))) (pa_cons (pe_call G_times (hr.mono (by decide)) (by rfl) T.g_times T.F_times.kp T.b_times .nil pass0 (pa_cons (pe_meth (pv 0) T.cl_Table T.m_Table_lives G_Table_lives (hr.mono (by decide)) T.b_Table_lives .nil pass0 (pa_cons (pe_fld (pv 2) rfl) (pa_cons (pv 4) pa_nil))) (pa_cons (pe_call G_later (hr.mono (by decide)) (by rfl) T.g_later T.F_later.kp T.b_later .nil pass0 (pa_cons (pv 1) (pa_cons (pv 4) pa_nil))) pa_nil))) pa_nil))) pa_nil)))))
      (pss_one (ps_ret (pe_call G_summed (hr.mono (by decide)) (by rfl) T.g_summed T.F_summed.kp T.b_summed .nil pass0 (pa_cons (pv 3) pa_nil))))))), ?_⟩
  rintro _ _ ⟨b, n, qs, r, a, rows, rfl, hg, rfl⟩
  change SD _ _ _ [.va (dT qs), .va (dP r), .va (.ple a rows), .un, .un, .un] _
  have r0 : rSee [dT qs, dP r, .ple a rows] (.pd .none) := ⟨b, n, _, _, _, _, rfl, hg, rfl⟩
  have ha := hg.pl.a0
  have hfit := hg.fit
  have h20 := hg.pl.l20
  have hn := hg.n8
  refine sd_seq (sd_drop (by walk_at "xd") ?_)
  refine sd_seq (sd_asgO (xl_lst ap_nil (by decide)) ?_)
  dsimp only [List.set]
  refine sd_seq (sd_for (List.range (rows.map rD).length) (fun (i : Nat) => PyData.tuple [.int (i : Int), (rows.map rD).getD i .none]) (id_enum (by walk_at "ad")) (fun i ds1 => ∃ z1 z2, ds1 = [.va (dT qs), .va (dP r), .va (.ple a rows), .ow (((List.range i).map (fun k => wLiv qs (vq r) a.toNat (rowAt rows k).1 k)).map fun x => pD (pq x)), z1, z2]) ⟨_, _, rfl⟩ ?_ ?_)
  · rintro i k ds1 hi ⟨z1, z2, rfl⟩
    have hi1 : i < rows.length := by
      have := (List.getElem?_eq_some_iff.mp hi).1
      rw [List.length_range, List.length_map] at this
      exact this
    have hk : k = i := by
      rw [List.getElem?_range (by rw [List.length_map]; exact hi1)] at hi
      exact (Option.some.inj hi).symm
    subst hk
    have hrow : (rows.map rD).getD k .none = rD (rowAt rows k) := by
      rw [List.getD_eq_getElem?_getD, List.getElem?_map, rowAt_get hi1]
      rfl
    rw [hrow]
    refine ⟨_, gd_tup2, ?_⟩
    dsimp only [List.set]
    obtain ⟨c0, c1, c2⟩ := hg.pl.row hi1
    have hm1 : k * n ≤ (rows.length + 1) * n := Nat.mul_le_mul_right n (by omega)
    have hm3 : n ≤ (rows.length + 1) * n := Nat.le_mul_of_pos_left n (by omega)
    have hm4 : k * n + n ≤ (rows.length + 1) * n := by
      have e : k * n + n = (k + 1) * n := by rw [Nat.add_mul]; omega
      rw [e]
      exact Nat.mul_le_mul_right n (by omega)
    have s1 : rLives [dT qs, dI a, dI (k : Int)] (dQ (lv qs a.toNat k)) := ⟨b, _, _, _, rfl, hg.tq, ha, by omega, by omega, by omega, by rw [Int.toNat_natCast]⟩
    have s4 : rLater [dP r, dI (k : Int)] (dQ (vq r ^ k)) := ⟨n, _, _, rfl, hg.rt, by omega, by omega, by rw [Int.toNat_natCast]; omega, by rw [Int.toNat_natCast]⟩
    have s5 : rTimes [dQ (lv qs a.toNat k), dQ (vq r ^ k)] (dQ (lv qs a.toNat k * vq r ^ k)) := ⟨_, _, 61, _, rfl, bd_lv hg.tq _ _, bd_pow hg.rt.ok.vq k, by omega, rfl⟩
    have s6 : rTimes [.pd (.tuple [.int (rowAt rows k).1, .int 1]), dQ (lv qs a.toNat k * vq r ^ k)] (dQ (wLiv qs (vq r) a.toNat (rowAt rows k).1 k)) := ⟨((rowAt rows k).1 : Rat), _, 20, _, rfl, bd_coin c0, (bd_lv hg.tq _ _).mul (bd_pow hg.rt.ok.vq k), by omega, rfl⟩
    refine sd_app rfl (by walk_at "xd") ?_ ?_
    · rw [List.length_map, List.length_map, List.length_range]
      omega
    dsimp only [List.set]
    rw [List.range_succ, List.map_append, List.map_append]
    exact ⟨_, _, rfl⟩
  rintro _ ⟨z1, z2, rfl⟩
  rw [List.length_range, List.length_map]
  refine sd_shown 3 rfl ?_
  dsimp only [List.set]
  have hsum : rSummed [.pd (.list (((List.range rows.length).map (fun k => wLiv qs (vq r) a.toNat (rowAt rows k).1 k)).map fun x => pD (pq x)))] (dQ (dueF qs (vq r) a.toNat rows 0)) := by
    refine ⟨_, 150 + (rows.length + 1) * n, rfl, fun x hx => ?_, ?_, ?_⟩
    · obtain ⟨k, hk, rfl⟩ := List.mem_map.mp hx
      exact bd_wLiv hg.tq hg.rt (hg.pl.row (List.mem_range.mp hk)).1 (by have := List.mem_range.mp hk; omega)
    · rw [List.length_map, List.length_range]
      have := hg.sz
      have h5 : rows.length * (150 + (rows.length + 1) * n + 1) ≤ 2 * rows.length * (151 + (rows.length + 1) * n) := Nat.mul_le_mul (by omega) (by omega)
      omega
    · unfold dueF rsum
      rw [Nat.sub_zero]
      simp only [Nat.add_zero, Nat.zero_add]
  exact sd_ret (by walk_at "xd") rfl
theorem okx_income {P : Program} {w : World} {K : PySem.W.Frag} {mg : Str → Option Value} {base : Heap} (T : Tp K mg) : FnOk P w K mg base (L2.CX P w) 6 T.f_income T.d_income ["table", "rate", "pledge"] (spE T.C (rXSee T.c_BadRate T.c_BadPledge)) := by
  have G_Table_lives := ok_Table_lives (P := P) (w := w) (base := base) T
  have G_later := ok_later (P := P) (w := w) (base := base) T
  have B_see := okb_see (P := P) (w := w) (base := base) T
  have G_see := ok_see (P := P) (w := w) (base := base) T
  have G_summed := ok_summed (P := P) (w := w) (base := base) T
  have G_times := ok_times (P := P) (w := w) (base := base) T
  have cl_T : Cls T.C.K T.C.T := T.cl_Table
  have n_ch : NoAttr T.C.K T.C.T "chances" := T.n_chances
  have cl_P : Cls T.C.K T.C.P := T.cl_Pledge
  have n_age : NoAttr T.C.K T.C.P "age" := T.n_age
  have n_rows : NoAttr T.C.K T.C.P "rows" := T.n_rows
  refine fn_sx (C := T.C) T.F_income S_income (by intro _ _ h; first | (obtain ⟨_, rfl, _⟩ := h; rfl) | (obtain ⟨_, _, rfl, _⟩ := h; rfl) | (obtain ⟨_, _, _, rfl, _⟩ := h; rfl) | (obtain ⟨_, _, _, _, rfl, _⟩ := h; rfl) | (obtain ⟨_, _, _, _, _, rfl, _⟩ := h; rfl) | (obtain ⟨_, _, _, _, _, _, rfl, _⟩ := h; rfl) | (obtain ⟨_, _, _, _, _, _, _, rfl, _⟩ := h; rfl) | (obtain ⟨_, _, _, _, _, _, _, _, rfl, _⟩ := h; rfl) | (obtain ⟨_, _, _, _, _, _, _, _, _, rfl, _⟩ := h; rfl)) fun cdv A outer s H E hr => ⟨_, (pss_cons (ps_expr (pe_callS B_see (hr.mono (by decide)) (by rfl) T.g_see T.F_see.kp T.b_see (fun σ => passAt (takes_of rfl rfl rfl rfl) σ) (pa_cons (pv 0) (pa_cons (pv 1) (pa_cons (pv 2) pa_nil)))))
      (PSs.nox (pss_cons (ps_set (i := 3) S_income.nd rfl (Or.inl rfl) (pe_lst pa_nil))
      (pss_cons (ps_for PassesOwn.never rfl (pi_enum (by rfl) T.z_enumerate (pa_cons (pe_fld (pv 2) rfl) pa_nil)) (pg_tup rfl (pgs_cons (pg_name (i := 4) S_income.nd rfl (Or.inl rfl)) (pgs_cons (pg_name (i := 5) S_income.nd rfl (Or.inl rfl)) pgs_nil))) (pss_one (ps_expr (pe_bm PySem.F.plainAttrs_list PySem.F.slot_list_append PySem.F.type_list_append mt_append (pv 3) (pa_cons (pe_call G_times (hr.mono (by decide)) (by rfl) T.g_times T.F_times.kp T.b_times .nil pass0 (pa_cons (pe_tup (pa_cons (pe_ix (r := rIx T.C.K) ix_seq (pv 5) pe_int (fun _ _ => rfl)) (pa_cons pe_int pa_nil))) (pa_cons (pe_call G_times (hr.mono (by decide)) (by rfl) T.g_times T.F_times.kp T.b_times .nil pass0 (pa_cons (pe_meth (pv 0) T.cl_Table T.m_Table_lives G_Table_lives (hr.mono (by decide)) T.b_Table_lives .nil pass0 (pa_cons (pe_fld (pv 2) rfl) (pa_cons (pv 4) pa_nil))) (pa_cons (pe_call G_later (hr.mono (by decide)) (by rfl) T.g_later T.F_later.kp T.b_later .nil pass0 (pa_cons (pv 1) (pa_cons (pv 4) pa_nil))) pa_nil))) pa_nil))) pa_nil)))))
      (pss_one (ps_ret (pe_call G_summed (hr.mono (by decide)) (by rfl) T.g_summed T.F_summed.kp T.b_summed .nil pass0 (pa_cons (pv 3) pa_nil)))))))), ?_⟩
  rintro _ A ⟨qs, r, a, rows, rfl, h⟩
  change SD _ _ _ ([.va (dT qs), .va (dP r), .va (.ple a rows)] ++ _) _
  have r1 : (rXSee T.c_BadRate T.c_BadPledge) [dT qs, dP r, .ple a rows] A := ⟨qs, r, a, rows, rfl, h⟩
  exact sd_seq (sd_dropX (by walk_at "xx") rfl)
theorem okb_income {P : Program} {w : World} {K : PySem.W.Frag} {mg : Str → Option Value} {base : Heap} (T : Tp K mg) : FnOk P w K mg base (L2.CX P w) 6 T.f_income T.d_income ["table", "rate", "pledge"] (spB T.C rIncome (rXSee T.c_BadRate T.c_BadPledge)) := fn_or (C := T.C) (fn_up (C := T.C) (ok_income T)) (okx_income T)
theorem ok_ends {P : Program} {w : World} {K : PySem.W.Frag} {mg : Str → Option Value} {base : Heap} (T : Tp K mg) : FnOk P w K mg base CX0 6 T.f_ends T.d_ends ["table", "rate", "pledge"] (spO T.C rEnds) := by
  have G_Table_dies := ok_Table_dies (P := P) (w := w) (base := base) T
  have G_Table_lives := ok_Table_lives (P := P) (w := w) (base := base) T
  have G_loss_at := ok_loss_at (P := P) (w := w) (base := base) T
  have G_see := ok_see (P := P) (w := w) (base := base) T
  have G_times := ok_times (P := P) (w := w) (base := base) T
  have cl_T : Cls T.C.K T.C.T := T.cl_Table
  have n_ch : NoAttr T.C.K T.C.T "chances" := T.n_chances
  have cl_P : Cls T.C.K T.C.P := T.cl_Pledge
  have n_age : NoAttr T.C.K T.C.P "age" := T.n_age
  have n_rows : NoAttr T.C.K T.C.P "rows" := T.n_rows
  refine fn_so (C := T.C) T.F_ends S_ends (by intro _ _ h; first | (obtain ⟨_, rfl, _⟩ := h; rfl) | (obtain ⟨_, _, rfl, _⟩ := h; rfl) | (obtain ⟨_, _, _, rfl, _⟩ := h; rfl) | (obtain ⟨_, _, _, _, rfl, _⟩ := h; rfl) | (obtain ⟨_, _, _, _, _, rfl, _⟩ := h; rfl) | (obtain ⟨_, _, _, _, _, _, rfl, _⟩ := h; rfl) | (obtain ⟨_, _, _, _, _, _, _, rfl, _⟩ := h; rfl) | (obtain ⟨_, _, _, _, _, _, _, _, rfl, _⟩ := h; rfl) | (obtain ⟨_, _, _, _, _, _, _, _, _, rfl, _⟩ := h; rfl)) fun cdv A outer s H E hr => ⟨_, (pss_cons (ps_expr (pe_call G_see (hr.mono (by decide)) (by rfl) T.g_see T.F_see.kp T.b_see .nil pass0 (pa_cons (pv 0) (pa_cons (pv 1) (pa_cons (pv 2) pa_nil)))))
      (pss_cons (ps_set (i := 3) S_ends.nd rfl (Or.inl rfl) (pe_lst pa_nil))
      (pss_cons (ps_for PassesOwn.never rfl (pi_range1 rfl T.z_range (pa_cons (pe_callB (r := rLenS T.C.K) call_len_seq (by rfl) T.z_len (by decide +kernel) (pa_cons (pe_fld (pv 2) rfl) pa_nil)) pa_nil)) (pg_name (i := 4) S_ends.nd rfl (Or.inl rfl)) (pss_cons (ps_set (i := 5) S_ends.nd rfl (Or.inl rfl) (pe_call G_times (hr.mono (by decide)) (by rfl) T.g_times T.F_times.kp T.b_times .nil pass0 (pa_cons (pe_meth (pv 0) T.cl_Table T.m_Table_lives G_Table_lives (hr.mono (by decide)) T.b_Table_lives .nil pass0 (pa_cons (pe_fld (pv 2) rfl) (pa_cons (pv 4) pa_nil))) (pa_cons (pe_meth (pv 0) T.cl_Table T.m_Table_dies G_Table_dies (hr.mono (by decide)) T.b_Table_dies .nil pass0 (pa_cons (pe_op op_add (pe_fld (pv 2) rfl) (pv 4)) pa_nil)) pa_nil))))
      (pss_one (ps_expr (pe_bm PySem.F.plainAttrs_list PySem.F.slot_list_append PySem.F.type_list_append mt_append (pv 3) (pa_cons (pe_tup (pa_cons (pv 5) (pa_cons (pe_call G_loss_at (hr.mono (by decide)) (by rfl) T.g_loss_at T.F_loss_at.kp T.b_loss_at .nil pass0 (pa_cons (pv 1) (pa_cons (pv 2) (pa_cons (pe_op op_add (pv 4) pe_int) (pa_cons pe_bl pa_nil))))) pa_nil))) pa_nil))))))
      (pss_cons (ps_expr (pe_bm PySem.F.plainAttrs_list PySem.F.slot_list_append PySem.F.type_list_append mt_append (pv 3) (pa_cons (pe_tup (pa_cons (pe_meth (pv 0) T.cl_Table T.m_Table_lives G_Table_lives (hr.mono (by decide)) T.b_Table_lives .nil pass0 (pa_cons (pe_fld (pv 2) rfl) (pa_cons (pe_callB (r := rLenS T.C.K) call_len_seq (by rfl) T.z_len (by decide +kernel) (pa_cons (pe_fld (pv 2) rfl) pa_nil)) pa_nil))) (pa_cons (pe_call G_loss_at (hr.mono (by decide)) (by rfl) T.g_loss_at T.F_loss_at.kp T.b_loss_at .nil pass0 (pa_cons (pv 1) (pa_cons (pv 2) (pa_cons (pe_callB (r := rLenS T.C.K) call_len_seq (by rfl) T.z_len (by decide +kernel) (pa_cons (pe_fld (pv 2) rfl) pa_nil)) (pa_cons pe_bl pa_nil))))) pa_nil))) pa_nil)))
      (pss_one (ps_ret (pv 3))))))), ?_⟩
  rintro _ _ ⟨b, n, qs, r, a, rows, rfl, hg, h9, rfl⟩
  change SD _ _ _ [.va (dT qs), .va (dP r), .va (.ple a rows), .un, .un, .un] _
  have ha := hg.pl.a0
  have hfit := hg.fit
  have h20 := hg.pl.l20
  have hl1 := hg.pl.l1
  have r0 : rSee [dT qs, dP r, .ple a rows] (.pd .none) := ⟨b, n, _, _, _, _, rfl, hg, rfl⟩
  refine sd_seq (sd_drop (by walk_at "xd") ?_)
  refine sd_seq (sd_asgO (xl_lst ap_nil (by decide)) ?_)
  dsimp only [List.set]
  refine sd_seq (sd_for (List.range rows.length) (fun (k : Nat) => PyData.int (k : Int)) (id_rng1' (m := (rows.length : Int)) ?_ (by omega) (by omega)) (fun i ds1 => ∃ z1 z2, ds1 = [.va (dT qs), .va (dP r), .va (.ple a rows), .ow ((List.range i).map (endRow qs (vq r) a.toNat rows)), z1, z2]) ⟨_, _, rfl⟩ ?_ ?_)
  · refine ad_is (by walk_at "ad") ?_
    rw [List.length_map]
  · rintro i k ds1 hi ⟨z1, z2, rfl⟩
    have hi1 : i < rows.length := by
      have := (List.getElem?_eq_some_iff.mp hi).1
      rw [List.length_range] at this
      exact this
    have hk : k = i := by
      rw [List.getElem?_range hi1] at hi
      exact (Option.some.inj hi).symm
    subst hk
    refine ⟨_, gd_name, ?_⟩
    dsimp only [List.set]
    have hlt : a.toNat + k < qs.length := by omega
    have s1 : rLives [dT qs, dI a, dI (k : Int)] (dQ (lv qs a.toNat k)) := ⟨b, _, _, _, rfl, hg.tq, ha, by omega, by omega, by omega, by rw [Int.toNat_natCast]⟩
    have s2 : rDies [dT qs, dI (a + (k : Int))] (dQ (qs.getD (a.toNat + k) 0)) := ⟨_, _, rfl, by omega, by omega, by rw [show (a + (k : Int)).toNat = a.toNat + k by omega]⟩
    have s3 : rTimes [dQ (lv qs a.toNat k), dQ (qs.getD (a.toNat + k) 0)] (dQ (chE qs a.toNat rows.length k)) := ⟨_, _, 61, b, rfl, bd_lv hg.tq _ _, hg.tq.bdD hlt, by have := hg.tq.b60; omega, by unfold chE; rw [if_pos hi1]⟩
    have s4 : rLossAt [dP r, .ple a rows, dI ((k : Int) + 1), dB true] (dQ (lossE rows (vq r) k)) := ⟨n, r, a, rows, _, true, rfl, hg.rt, hg.pl, by omega, by omega, h9, by unfold lossE; rw [if_pos hi1, show ((k : Int) + 1).toNat = k + 1 by omega]⟩
    walk_at "sx"
    refine sd_app rfl (x := endRow qs (vq r) a.toNat rows k) (by unfold endRow; walk_at "xd") ?_ ?_
    · rw [List.length_map, List.length_range]
      omega
    dsimp only [List.set]
    rw [List.range_succ, List.map_append]
    exact ⟨_, _, rfl⟩
  rintro _ ⟨z1, z2, rfl⟩
  rw [List.length_range]
  have s1 : rLives [dT qs, dI a, dI ((rows.map rD).length : Int)] (dQ (chE qs a.toNat rows.length rows.length)) := ⟨b, _, _, _, rfl, hg.tq, ha, by omega, by omega, by rw [List.length_map]; omega, by unfold chE; rw [if_neg (by omega), List.length_map, Int.toNat_natCast]⟩
  have s4 : rLossAt [dP r, .ple a rows, dI ((rows.map rD).length : Int), dB false] (dQ (lossE rows (vq r) rows.length)) := ⟨n, r, a, rows, _, false, rfl, hg.rt, hg.pl, by rw [List.length_map]; omega, by rw [List.length_map]; omega, h9, by unfold lossE; rw [if_neg (by omega), List.length_map, Int.toNat_natCast]⟩
  refine sd_seq (sd_app rfl (x := endRow qs (vq r) a.toNat rows rows.length) (by unfold endRow; walk_at "xd") ?_ ?_)
  · rw [List.length_map, List.length_range]
    omega
  dsimp only [List.set]
  refine sd_retO (xs := (List.range (rows.length + 1)).map (endRow qs (vq r) a.toNat rows)) ?_ rfl
  rw [List.range_succ, List.map_append]
  rfl
theorem okx_ends {P : Program} {w : World} {K : PySem.W.Frag} {mg : Str → Option Value} {base : Heap} (T : Tp K mg) : FnOk P w K mg base (L2.CX P w) 6 T.f_ends T.d_ends ["table", "rate", "pledge"] (spE T.C (rXSee T.c_BadRate T.c_BadPledge)) := by
  have G_Table_dies := ok_Table_dies (P := P) (w := w) (base := base) T
  have G_Table_lives := ok_Table_lives (P := P) (w := w) (base := base) T
  have G_loss_at := ok_loss_at (P := P) (w := w) (base := base) T
  have B_see := okb_see (P := P) (w := w) (base := base) T
  have G_see := ok_see (P := P) (w := w) (base := base) T
  have G_times := ok_times (P := P) (w := w) (base := base) T
  have cl_T : Cls T.C.K T.C.T := T.cl_Table
  have n_ch : NoAttr T.C.K T.C.T "chances" := T.n_chances
  have cl_P : Cls T.C.K T.C.P := T.cl_Pledge
  have n_age : NoAttr T.C.K T.C.P "age" := T.n_age
  have n_rows : NoAttr T.C.K T.C.P "rows" := T.n_rows
  refine fn_sx (C := T.C) T.F_ends S_ends (by intro _ _ h; first | (obtain ⟨_, rfl, _⟩ := h; rfl) | (obtain ⟨_, _, rfl, _⟩ := h; rfl) | (obtain ⟨_, _, _, rfl, _⟩ := h; rfl) | (obtain ⟨_, _, _, _, rfl, _⟩ := h; rfl) | (obtain ⟨_, _, _, _, _, rfl, _⟩ := h; rfl) | (obtain ⟨_, _, _, _, _, _, rfl, _⟩ := h; rfl) | (obtain ⟨_, _, _, _, _, _, _, rfl, _⟩ := h; rfl) | (obtain ⟨_, _, _, _, _, _, _, _, rfl, _⟩ := h; rfl) | (obtain ⟨_, _, _, _, _, _, _, _, _, rfl, _⟩ := h; rfl)) fun cdv A outer s H E hr => ⟨_, (pss_cons (ps_expr (pe_callS B_see (hr.mono (by decide)) (by rfl) T.g_see T.F_see.kp T.b_see (fun σ => passAt (takes_of rfl rfl rfl rfl) σ) (pa_cons (pv 0) (pa_cons (pv 1) (pa_cons (pv 2) pa_nil)))))
      (PSs.nox (pss_cons (ps_set (i := 3) S_ends.nd rfl (Or.inl rfl) (pe_lst pa_nil))
      (pss_cons (ps_for PassesOwn.never rfl (pi_range1 rfl T.z_range (pa_cons (pe_callB (r := rLenS T.C.K) call_len_seq (by rfl) T.z_len (by decide +kernel) (pa_cons (pe_fld (pv 2) rfl) pa_nil)) pa_nil)) (pg_name (i := 4) S_ends.nd rfl (Or.inl rfl)) (pss_cons (ps_set (i := 5) S_ends.nd rfl (Or.inl rfl) (pe_call G_times (hr.mono (by decide)) (by rfl) T.g_times T.F_times.kp T.b_times .nil pass0 (pa_cons (pe_meth (pv 0) T.cl_Table T.m_Table_lives G_Table_lives (hr.mono (by decide)) T.b_Table_lives .nil pass0 (pa_cons (pe_fld (pv 2) rfl) (pa_cons (pv 4) pa_nil))) (pa_cons (pe_meth (pv 0) T.cl_Table T.m_Table_dies G_Table_dies (hr.mono (by decide)) T.b_Table_dies .nil pass0 (pa_cons (pe_op op_add (pe_fld (pv 2) rfl) (pv 4)) pa_nil)) pa_nil))))
      (pss_one (ps_expr (pe_bm PySem.F.plainAttrs_list PySem.F.slot_list_append PySem.F.type_list_append mt_append (pv 3) (pa_cons (pe_tup (pa_cons (pv 5) (pa_cons (pe_call G_loss_at (hr.mono (by decide)) (by rfl) T.g_loss_at T.F_loss_at.kp T.b_loss_at .nil pass0 (pa_cons (pv 1) (pa_cons (pv 2) (pa_cons (pe_op op_add (pv 4) pe_int) (pa_cons pe_bl pa_nil))))) pa_nil))) pa_nil))))))
      (pss_cons (ps_expr (pe_bm PySem.F.plainAttrs_list PySem.F.slot_list_append PySem.F.type_list_append mt_append (pv 3) (pa_cons (pe_tup (pa_cons (pe_meth (pv 0) T.cl_Table T.m_Table_lives G_Table_lives (hr.mono (by decide)) T.b_Table_lives .nil pass0 (pa_cons (pe_fld (pv 2) rfl) (pa_cons (pe_callB (r := rLenS T.C.K) call_len_seq (by rfl) T.z_len (by decide +kernel) (pa_cons (pe_fld (pv 2) rfl) pa_nil)) pa_nil))) (pa_cons (pe_call G_loss_at (hr.mono (by decide)) (by rfl) T.g_loss_at T.F_loss_at.kp T.b_loss_at .nil pass0 (pa_cons (pv 1) (pa_cons (pv 2) (pa_cons (pe_callB (r := rLenS T.C.K) call_len_seq (by rfl) T.z_len (by decide +kernel) (pa_cons (pe_fld (pv 2) rfl) pa_nil)) (pa_cons pe_bl pa_nil))))) pa_nil))) pa_nil)))
      (pss_one (ps_ret (pv 3)))))))), ?_⟩
  rintro _ A ⟨qs, r, a, rows, rfl, h⟩
  change SD _ _ _ ([.va (dT qs), .va (dP r), .va (.ple a rows)] ++ _) _
  have r1 : (rXSee T.c_BadRate T.c_BadPledge) [dT qs, dP r, .ple a rows] A := ⟨qs, r, a, rows, rfl, h⟩
  exact sd_seq (sd_dropX (by walk_at "xx") rfl)
theorem okb_ends {P : Program} {w : World} {K : PySem.W.Frag} {mg : Str → Option Value} {base : Heap} (T : Tp K mg) : FnOk P w K mg base (L2.CX P w) 6 T.f_ends T.d_ends ["table", "rate", "pledge"] (spBO T.C rEnds (rXSee T.c_BadRate T.c_BadPledge)) := fn_or (C := T.C) (fn_up (C := T.C) (ok_ends T)) (okx_ends T)
theorem ok_fewest {P : Program} {w : World} {K : PySem.W.Frag} {mg : Str → Option Value} {base : Heap} (T : Tp K mg) : FnOk P w K mg base CX0 6 T.f_fewest T.d_fewest ["table", "pledge"] (spR T.C rFewest) := by
  have G_Table_lives := ok_Table_lives (P := P) (w := w) (base := base) T
  have G_common := ok_common (P := P) (w := w) (base := base) T
  have G_see_fits := ok_see_fits (P := P) (w := w) (base := base) T
  have cl_T : Cls T.C.K T.C.T := T.cl_Table
  have n_ch : NoAttr T.C.K T.C.T "chances" := T.n_chances
  have cl_P : Cls T.C.K T.C.P := T.cl_Pledge
  have n_age : NoAttr T.C.K T.C.P "age" := T.n_age
  have n_rows : NoAttr T.C.K T.C.P "rows" := T.n_rows
  refine fn_sd (C := T.C) T.F_fewest S_fewest (by intro _ _ h; first | (obtain ⟨_, rfl, _⟩ := h; rfl) | (obtain ⟨_, _, rfl, _⟩ := h; rfl) | (obtain ⟨_, _, _, rfl, _⟩ := h; rfl) | (obtain ⟨_, _, _, _, rfl, _⟩ := h; rfl) | (obtain ⟨_, _, _, _, _, rfl, _⟩ := h; rfl) | (obtain ⟨_, _, _, _, _, _, rfl, _⟩ := h; rfl) | (obtain ⟨_, _, _, _, _, _, _, rfl, _⟩ := h; rfl) | (obtain ⟨_, _, _, _, _, _, _, _, rfl, _⟩ := h; rfl) | (obtain ⟨_, _, _, _, _, _, _, _, _, rfl, _⟩ := h; rfl)) fun cdv A outer s H E hr => ⟨_, (pss_cons (ps_expr (pe_call G_see_fits (hr.mono (by decide)) (by rfl) T.g_see_fits T.F_see_fits.kp T.b_see_fits .nil pass0 (pa_cons (pv 0) (pa_cons (pv 1) pa_nil))))
      (pss_cons (ps_set (i := 2) S_fewest.nd rfl (Or.inl rfl) pe_int)
      (pss_cons (ps_for PassesOwn.never rfl (pi_range1 rfl T.z_range (pa_cons (pe_op op_add (pe_callB (r := rLenS T.C.K) call_len_seq (by rfl) T.z_len (by decide +kernel) (pa_cons (pe_fld (pv 1) rfl) pa_nil)) pe_int) pa_nil)) (pg_name (i := 3) S_fewest.nd rfl (Or.inl rfl)) (pss_cons (ps_set (i := 4) S_fewest.nd rfl (Or.inl rfl) (pe_ix (r := rIx T.C.K) ix_seq (pe_meth (pv 0) T.cl_Table T.m_Table_lives G_Table_lives (hr.mono (by decide)) T.b_Table_lives .nil pass0 (pa_cons (pe_fld (pv 1) rfl) (pa_cons (pv 3) pa_nil))) pe_int (fun _ _ => rfl)))
      (pss_one (ps_set (i := 2) S_fewest.nd rfl (Or.inl rfl) (pe_op op_fdivW (pe_op op_mulA (pv 2) (pv 4)) (pe_call G_common (hr.mono (by decide)) (by rfl) T.g_common T.F_common.kp T.b_common .nil pass0 (pa_cons (pv 2) (pa_cons (pv 4) pa_nil))))))))
      (pss_one (ps_ret (pv 2)))))), ?_⟩
  rintro _ _ ⟨b, qs, a, rows, rfl, tq, hp, hfit, rfl⟩
  change SD _ _ _ [.va (dT qs), .va (.ple a rows), .un, .un, .un] _
  have ha := hp.a0
  have h20 := hp.l20
  have hl1 := hp.l1
  have r1 : rSeeFits [dT qs, .ple a rows] (.pd .none) := ⟨_, _, _, rfl, hfit, rfl⟩
  refine sd_seq (sd_drop (by walk_at "xd") ?_)
  walk_at "sx"
  refine sd_seq (sd_for (List.range (rows.length + 1)) (fun (k : Nat) => PyData.int (k : Int)) (id_rng1' (m := (rows.length : Int) + 1) ?_ (by omega) (by omega)) (fun i ds1 => ∃ z1 z2, ds1 = [.va (dT qs), .va (.ple a rows), .va (dI (fewI qs a.toNat i)), z1, z2]) ⟨_, _, rfl⟩ ?_ ?_)
  · refine ad_is (by walk_at "ad") ?_
    rw [List.length_map]
  · rintro i k ds1 hi ⟨z1, z2, rfl⟩
    have hi1 : i < rows.length + 1 := by
      have := (List.getElem?_eq_some_iff.mp hi).1
      rw [List.length_range] at this
      exact this
    have hk : k = i := by
      rw [List.getElem?_range hi1] at hi
      exact (Option.some.inj hi).symm
    subst hk
    refine ⟨_, gd_name, ?_⟩
    dsimp only [List.set]
    have s1 : rLives [dT qs, dI a, dI (k : Int)] (dQ (lv qs a.toNat k)) := ⟨b, _, _, _, rfl, tq, ha, by omega, by omega, by omega, by rw [Int.toNat_natCast]⟩
    have hu := dn_pos qs a.toNat k
    have hub : (dn qs a.toNat k).natAbs < 2 ^ 61 := (bd_lv tq a.toNat k).2
    have hF := bd_few tq a.toNat k
    have s2 : rCommon [dI (fewI qs a.toNat k), dI (dn qs a.toNat k)] (dI (Int.gcd (fewI qs a.toNat k) (dn qs a.toNat k))) := ⟨_, _, rfl, rfl⟩
    have m1 : CMulA (fewI qs a.toNat k) (dn qs a.toNat k) := cmul hF hub (by omega)
    have d1 := cdiv_gcd (t := fewI qs a.toNat k) (u := dn qs a.toNat k) (by omega) hub (by omega) (fewI qs a.toNat k * dn qs a.toNat k)
    refine sd_seq (sd_asg (d := dI (dn qs a.toNat k)) (by walk_at "xd") ?_)
    dsimp only [List.set]
    refine sd_asg (by walk_at "xd") ?_
    exact ⟨_, _, rfl⟩
  · rintro ds1 ⟨z1, z2, rfl⟩
    rw [List.length_range]
    exact sd_ret (by walk_at "xd") rfl
theorem okx_fewest {P : Program} {w : World} {K : PySem.W.Frag} {mg : Str → Option Value} {base : Heap} (T : Tp K mg) : FnOk P w K mg base (L2.CX P w) 6 T.f_fewest T.d_fewest ["table", "pledge"] (spE T.C (rXSeeFits T.c_BadPledge)) := by
  have G_Table_lives := ok_Table_lives (P := P) (w := w) (base := base) T
  have G_common := ok_common (P := P) (w := w) (base := base) T
  have B_see_fits := okb_see_fits (P := P) (w := w) (base := base) T
  have G_see_fits := ok_see_fits (P := P) (w := w) (base := base) T
  have cl_T : Cls T.C.K T.C.T := T.cl_Table
  have n_ch : NoAttr T.C.K T.C.T "chances" := T.n_chances
  have cl_P : Cls T.C.K T.C.P := T.cl_Pledge
  have n_age : NoAttr T.C.K T.C.P "age" := T.n_age
  have n_rows : NoAttr T.C.K T.C.P "rows" := T.n_rows
  refine fn_sx (C := T.C) T.F_fewest S_fewest (by intro _ _ h; first | (obtain ⟨_, rfl, _⟩ := h; rfl) | (obtain ⟨_, _, rfl, _⟩ := h; rfl) | (obtain ⟨_, _, _, rfl, _⟩ := h; rfl) | (obtain ⟨_, _, _, _, rfl, _⟩ := h; rfl) | (obtain ⟨_, _, _, _, _, rfl, _⟩ := h; rfl) | (obtain ⟨_, _, _, _, _, _, rfl, _⟩ := h; rfl) | (obtain ⟨_, _, _, _, _, _, _, rfl, _⟩ := h; rfl) | (obtain ⟨_, _, _, _, _, _, _, _, rfl, _⟩ := h; rfl) | (obtain ⟨_, _, _, _, _, _, _, _, _, rfl, _⟩ := h; rfl)) fun cdv A outer s H E hr => ⟨_, (pss_cons (ps_expr (pe_callS B_see_fits (hr.mono (by decide)) (by rfl) T.g_see_fits T.F_see_fits.kp T.b_see_fits (fun σ => passAt (takes_of rfl rfl rfl rfl) σ) (pa_cons (pv 0) (pa_cons (pv 1) pa_nil))))
      (PSs.nox (pss_cons (ps_set (i := 2) S_fewest.nd rfl (Or.inl rfl) pe_int)
      (pss_cons (ps_for PassesOwn.never rfl (pi_range1 rfl T.z_range (pa_cons (pe_op op_add (pe_callB (r := rLenS T.C.K) call_len_seq (by rfl) T.z_len (by decide +kernel) (pa_cons (pe_fld (pv 1) rfl) pa_nil)) pe_int) pa_nil)) (pg_name (i := 3) S_fewest.nd rfl (Or.inl rfl)) (pss_cons (ps_set (i := 4) S_fewest.nd rfl (Or.inl rfl) (pe_ix (r := rIx T.C.K) ix_seq (pe_meth (pv 0) T.cl_Table T.m_Table_lives G_Table_lives (hr.mono (by decide)) T.b_Table_lives .nil pass0 (pa_cons (pe_fld (pv 1) rfl) (pa_cons (pv 3) pa_nil))) pe_int (fun _ _ => rfl)))
      (pss_one (ps_set (i := 2) S_fewest.nd rfl (Or.inl rfl) (pe_op op_fdivW (pe_op op_mulA (pv 2) (pv 4)) (pe_call G_common (hr.mono (by decide)) (by rfl) T.g_common T.F_common.kp T.b_common .nil pass0 (pa_cons (pv 2) (pa_cons (pv 4) pa_nil))))))))
      (pss_one (ps_ret (pv 2))))))), ?_⟩
  rintro _ A ⟨qs, a, rows, rfl, h⟩
  change SD _ _ _ ([.va (dT qs), .va (.ple a rows)] ++ _) _
  have r1 : (rXSeeFits T.c_BadPledge) [dT qs, .ple a rows] A := ⟨qs, a, rows, rfl, h⟩
  exact sd_seq (sd_dropX (by walk_at "xx") rfl)
theorem okb_fewest {P : Program} {w : World} {K : PySem.W.Frag} {mg : Str → Option Value} {base : Heap} (T : Tp K mg) : FnOk P w K mg base (L2.CX P w) 6 T.f_fewest T.d_fewest ["table", "pledge"] (spB T.C rFewest (rXSeeFits T.c_BadPledge)) := fn_or (C := T.C) (fn_up (C := T.C) (ok_fewest T)) (okx_fewest T)
theorem ok_fair_due {P : Program} {w : World} {K : PySem.W.Frag} {mg : Str → Option Value} {base : Heap} (T : Tp K mg) : FnOk P w K mg base CX0 7 T.f_fair_due T.d_fair_due ["table", "rate", "pledge"] (spR T.C rFair) := by
  have G_Table_lives := ok_Table_lives (P := P) (w := w) (base := base) T
  have G_later := ok_later (P := P) (w := w) (base := base) T
  have G_outgo := ok_outgo (P := P) (w := w) (base := base) T
  have G_over := ok_over (P := P) (w := w) (base := base) T
  have G_see := ok_see (P := P) (w := w) (base := base) T
  have G_summed := ok_summed (P := P) (w := w) (base := base) T
  have G_times := ok_times (P := P) (w := w) (base := base) T
  have cl_T : Cls T.C.K T.C.T := T.cl_Table
  have n_ch : NoAttr T.C.K T.C.T "chances" := T.n_chances
  have cl_P : Cls T.C.K T.C.P := T.cl_Pledge
  have n_age : NoAttr T.C.K T.C.P "age" := T.n_age
  have n_rows : NoAttr T.C.K T.C.P "rows" := T.n_rows
  refine fn_sd (C := T.C) T.F_fair_due S_fair_due (by intro _ _ h; first | (obtain ⟨_, rfl, _⟩ := h; rfl) | (obtain ⟨_, _, rfl, _⟩ := h; rfl) | (obtain ⟨_, _, _, rfl, _⟩ := h; rfl) | (obtain ⟨_, _, _, _, rfl, _⟩ := h; rfl) | (obtain ⟨_, _, _, _, _, rfl, _⟩ := h; rfl) | (obtain ⟨_, _, _, _, _, _, rfl, _⟩ := h; rfl) | (obtain ⟨_, _, _, _, _, _, _, rfl, _⟩ := h; rfl) | (obtain ⟨_, _, _, _, _, _, _, _, rfl, _⟩ := h; rfl) | (obtain ⟨_, _, _, _, _, _, _, _, _, rfl, _⟩ := h; rfl)) fun cdv A outer s H E hr => ⟨_, (pss_cons (ps_expr (pe_call G_see (hr.mono (by decide)) (by rfl) T.g_see T.F_see.kp T.b_see .nil pass0 (pa_cons (pv 0) (pa_cons (pv 1) (pa_cons (pv 2) pa_nil)))))
      (pss_cons (ps_setLc (i := 3) (own := [("k", 4)]) (g := gName 4) (tt := tYes) rfl S_fair_due.nd rfl rfl (sw_true rfl rfl rfl (by decide +kernel)) (pi_range1 rfl T.z_range (pa_cons (pe_callB (r := rLenS T.C.K) call_len_seq (by rfl) T.z_len (by decide +kernel) (pa_cons (pe_fld (pv 2) rfl) pa_nil)) pa_nil)) (blkOk_by (own := [("k", 4)]) (N := N_fair_due) (sc := defScope s_fair_due) (by decide +kernel)) (fun _ _ _ _ _ => pg_name (i := 4) S_fair_due.nd rfl (Or.inl rfl)) (fun _ _ _ _ _ => pts_nil) (fun _ _ _ _ _ => (pe_call G_times (hr.mono (by decide)) (by rfl) T.g_times T.F_times.kp T.b_times .nil pass0 (pa_cons (pe_meth (pv 0) T.cl_Table T.m_Table_lives G_Table_lives (hr.mono (by decide)) T.b_Table_lives .nil pass0 (pa_cons (pe_fldK (K := T.C.K) rfl (pv 2) rfl) (pa_cons (pv 4) pa_nil))) (pa_cons (pe_call G_later (hr.mono (by decide)) (by rfl) T.g_later T.F_later.kp T.b_later .nil pass0 (pa_cons (pv 1) (pa_cons (pv 4) pa_nil))) pa_nil)))))
      (pss_one (ps_ret (pe_call G_over (hr.mono (by decide)) (by rfl) T.g_over T.F_over.kp T.b_over .nil pass0 (pa_cons (pe_call G_outgo (hr.mono (by decide)) (by rfl) T.g_outgo T.F_outgo.kp T.b_outgo .nil pass0 (pa_cons (pv 0) (pa_cons (pv 1) (pa_cons (pv 2) pa_nil)))) (pa_cons (pe_call G_summed (hr.mono (by decide)) (by rfl) T.g_summed T.F_summed.kp T.b_summed .nil pass0 (pa_cons (pv 3) pa_nil)) pa_nil))))))), ?_⟩
  rintro _ _ ⟨b, n, qs, r, a, rows, rfl, hg, h32, hbt, rfl⟩
  change SD _ _ _ [.va (dT qs), .va (dP r), .va (.ple a rows), .un, .un] _
  have r0 : rSee [dT qs, dP r, .ple a rows] (.pd .none) := ⟨b, n, _, _, _, _, rfl, hg, rfl⟩
  have ha := hg.pl.a0
  have hfit := hg.fit
  have h20 := hg.pl.l20
  have hl1 := hg.pl.l1
  have hn := hg.n8
  have hsz := hg.sz
  refine sd_seq (sd_drop (by walk_at "xd") ?_)
  have hlr : ((rows.map rD).length : Int) = (rows.length : Int) := by rw [List.length_map]
  refine sd_seq (sd_asg (d := .pd (.list ((List.range rows.length).map fun k => pD (pq (lv qs a.toNat k * vq r ^ k))))) (xl_xd (xl_lc (List.range rows.length) (fun (k : Nat) => PyData.int (k : Int)) (fun k => pD (pq (lv qs a.toNat k * vq r ^ k))) rfl (by rw [List.length_range]; omega) (id_rng1' (n := rows.length) (m := (rows.length : Int)) (ad_is (by walk_at "ad") (by rw [hlr])) (by omega) (by omega)) fun k hk => (by
    have hk' := List.mem_range.mp hk
    have hm1 : k * n ≤ (rows.length + 1) * n := Nat.mul_le_mul_right n (by omega)
    have hm4 : k * n + n ≤ (rows.length + 1) * n := by
      have e : k * n + n = (k + 1) * n := by rw [Nat.add_mul]; omega
      rw [e]
      exact Nat.mul_le_mul_right n (by omega)
    have s1 : rLives [dT qs, dI a, dI (k : Int)] (dQ (lv qs a.toNat k)) := ⟨b, _, _, _, rfl, hg.tq, ha, by omega, by omega, by omega, by rw [Int.toNat_natCast]⟩
    have s2 : rLater [dP r, dI (k : Int)] (dQ (vq r ^ k)) := ⟨n, _, _, rfl, hg.rt, by omega, by omega, by rw [Int.toNat_natCast]; omega, by rw [Int.toNat_natCast]⟩
    have s3 : rTimes [dQ (lv qs a.toNat k), dQ (vq r ^ k)] (dQ (lv qs a.toNat k * vq r ^ k)) := ⟨_, _, 61, _, rfl, bd_lv hg.tq _ _, bd_pow hg.rt.ok.vq k, by omega, rfl⟩
    walk_at "xd"))) ?_)
  dsimp only [List.set]
  have hne : coins (lv qs a.toNat) (vq r) rows.length ≠ 0 := fun e => by
    have z := coins_pos (a := a.toNat) hg.tq hg.rt (by omega) (rows.length - 1)
    rw [show rows.length - 1 + 1 = rows.length by omega, e] at z
    exact absurd z (by decide +kernel)
  have hs : rSummed [.pd (.list ((List.range rows.length).map fun k => pD (pq (lv qs a.toNat k * vq r ^ k))))] (dQ (coins (lv qs a.toNat) (vq r) rows.length)) := by
    refine ⟨(List.range rows.length).map fun k => lv qs a.toNat k * vq r ^ k, 62 + (rows.length + 1) * n, by rw [List.map_map]; rfl, fun x hx => ?_, ?_, rfl⟩
    · obtain ⟨k, hk, rfl⟩ := List.mem_map.mp hx
      have := List.mem_range.mp hk
      have hm1 : k * n ≤ (rows.length + 1) * n := Nat.mul_le_mul_right n (by omega)
      exact ((bd_lv hg.tq _ _).mul (bd_pow hg.rt.ok.vq k)).mono (by omega)
    · rw [List.length_map, List.length_range]
      have e : rows.length * (62 + (rows.length + 1) * n + 1) ≤ 2 * rows.length * (151 + (rows.length + 1) * n) := Nat.mul_le_mul (by omega) (by omega)
      omega
  have ho : rOutgo [dT qs, dP r, .ple a rows] (dQ (paidF qs (vq r) a.toNat rows 0)) := ⟨b, n, _, _, _, _, rfl, hg, rfl⟩
  have hb1 := bd_paidG hg
  have hb2 : Bd (126 + rows.length * n) (coins (lv qs a.toNat) (vq r) rows.length) := bd_cLv hg.tq hg.rt h32 _
  have hv : rOver [dQ (paidF qs (vq r) a.toNat rows 0), dQ (coins (lv qs a.toNat) (vq r) rows.length)] (dQ (fairF qs (vq r) a.toNat rows)) := ⟨_, _, _, _, rfl, hb1, hb2, by omega, hne, rfl⟩
  exact sd_ret (by walk_at "xd") rfl
theorem okx_fair_due {P : Program} {w : World} {K : PySem.W.Frag} {mg : Str → Option Value} {base : Heap} (T : Tp K mg) : FnOk P w K mg base (L2.CX P w) 7 T.f_fair_due T.d_fair_due ["table", "rate", "pledge"] (spE T.C (rXSee T.c_BadRate T.c_BadPledge)) := by
  have G_Table_lives := ok_Table_lives (P := P) (w := w) (base := base) T
  have G_later := ok_later (P := P) (w := w) (base := base) T
  have G_outgo := ok_outgo (P := P) (w := w) (base := base) T
  have G_over := ok_over (P := P) (w := w) (base := base) T
  have B_see := okb_see (P := P) (w := w) (base := base) T
  have G_see := ok_see (P := P) (w := w) (base := base) T
  have G_summed := ok_summed (P := P) (w := w) (base := base) T
  have G_times := ok_times (P := P) (w := w) (base := base) T
  have cl_T : Cls T.C.K T.C.T := T.cl_Table
  have n_ch : NoAttr T.C.K T.C.T "chances" := T.n_chances
  have cl_P : Cls T.C.K T.C.P := T.cl_Pledge
  have n_age : NoAttr T.C.K T.C.P "age" := T.n_age
  have n_rows : NoAttr T.C.K T.C.P "rows" := T.n_rows
  refine fn_sx (C := T.C) T.F_fair_due S_fair_due (by intro _ _ h; first | (obtain ⟨_, rfl, _⟩ := h; rfl) | (obtain ⟨_, _, rfl, _⟩ := h; rfl) | (obtain ⟨_, _, _, rfl, _⟩ := h; rfl) | (obtain ⟨_, _, _, _, rfl, _⟩ := h; rfl) | (obtain ⟨_, _, _, _, _, rfl, _⟩ := h; rfl) | (obtain ⟨_, _, _, _, _, _, rfl, _⟩ := h; rfl) | (obtain ⟨_, _, _, _, _, _, _, rfl, _⟩ := h; rfl) | (obtain ⟨_, _, _, _, _, _, _, _, rfl, _⟩ := h; rfl) | (obtain ⟨_, _, _, _, _, _, _, _, _, rfl, _⟩ := h; rfl)) fun cdv A outer s H E hr => ⟨_, (pss_cons (ps_expr (pe_callS B_see (hr.mono (by decide)) (by rfl) T.g_see T.F_see.kp T.b_see (fun σ => passAt (takes_of rfl rfl rfl rfl) σ) (pa_cons (pv 0) (pa_cons (pv 1) (pa_cons (pv 2) pa_nil)))))
      (PSs.nox (pss_cons (ps_setLc (i := 3) (own := [("k", 4)]) (g := gName 4) (tt := tYes) rfl S_fair_due.nd rfl rfl (sw_true rfl rfl rfl (by decide +kernel)) (pi_range1 rfl T.z_range (pa_cons (pe_callB (r := rLenS T.C.K) call_len_seq (by rfl) T.z_len (by decide +kernel) (pa_cons (pe_fld (pv 2) rfl) pa_nil)) pa_nil)) (blkOk_by (own := [("k", 4)]) (N := N_fair_due) (sc := defScope s_fair_due) (by decide +kernel)) (fun _ _ _ _ _ => pg_name (i := 4) S_fair_due.nd rfl (Or.inl rfl)) (fun _ _ _ _ _ => pts_nil) (fun _ _ _ _ _ => (pe_call G_times (hr.mono (by decide)) (by rfl) T.g_times T.F_times.kp T.b_times .nil pass0 (pa_cons (pe_meth (pv 0) T.cl_Table T.m_Table_lives G_Table_lives (hr.mono (by decide)) T.b_Table_lives .nil pass0 (pa_cons (pe_fldK (K := T.C.K) rfl (pv 2) rfl) (pa_cons (pv 4) pa_nil))) (pa_cons (pe_call G_later (hr.mono (by decide)) (by rfl) T.g_later T.F_later.kp T.b_later .nil pass0 (pa_cons (pv 1) (pa_cons (pv 4) pa_nil))) pa_nil)))))
      (pss_one (ps_ret (pe_call G_over (hr.mono (by decide)) (by rfl) T.g_over T.F_over.kp T.b_over .nil pass0 (pa_cons (pe_call G_outgo (hr.mono (by decide)) (by rfl) T.g_outgo T.F_outgo.kp T.b_outgo .nil pass0 (pa_cons (pv 0) (pa_cons (pv 1) (pa_cons (pv 2) pa_nil)))) (pa_cons (pe_call G_summed (hr.mono (by decide)) (by rfl) T.g_summed T.F_summed.kp T.b_summed .nil pass0 (pa_cons (pv 3) pa_nil)) pa_nil)))))))), ?_⟩
  rintro _ A ⟨qs, r, a, rows, rfl, h⟩
  change SD _ _ _ ([.va (dT qs), .va (dP r), .va (.ple a rows)] ++ _) _
  have r1 : (rXSee T.c_BadRate T.c_BadPledge) [dT qs, dP r, .ple a rows] A := ⟨qs, r, a, rows, rfl, h⟩
  exact sd_seq (sd_dropX (by walk_at "xx") rfl)
theorem okb_fair_due {P : Program} {w : World} {K : PySem.W.Frag} {mg : Str → Option Value} {base : Heap} (T : Tp K mg) : FnOk P w K mg base (L2.CX P w) 7 T.f_fair_due T.d_fair_due ["table", "rate", "pledge"] (spB T.C rFair (rXSee T.c_BadRate T.c_BadPledge)) := fn_or (C := T.C) (fn_up (C := T.C) (ok_fair_due T)) (okx_fair_due T)
theorem ok_book {P : Program} {w : World} {K : PySem.W.Frag} {mg : Str → Option Value} {base : Heap} (T : Tp K mg) : FnOk P w K mg base CX0 7 T.f_book T.d_book ["table", "rate", "pledge", "many"] (spO T.C rBook) := by
  have G_Table_lives := ok_Table_lives (P := P) (w := w) (base := base) T
  have G_fewest := ok_fewest (P := P) (w := w) (base := base) T
  have G_less := ok_less (P := P) (w := w) (base := base) T
  have G_over := ok_over (P := P) (w := w) (base := base) T
  have G_plus := ok_plus (P := P) (w := w) (base := base) T
  have G_rate_of := ok_rate_of (P := P) (w := w) (base := base) T
  have G_see := ok_see (P := P) (w := w) (base := base) T
  have G_times := ok_times (P := P) (w := w) (base := base) T
  have cl_T : Cls T.C.K T.C.T := T.cl_Table
  have n_ch : NoAttr T.C.K T.C.T "chances" := T.n_chances
  have cl_P : Cls T.C.K T.C.P := T.cl_Pledge
  have n_age : NoAttr T.C.K T.C.P "age" := T.n_age
  have n_rows : NoAttr T.C.K T.C.P "rows" := T.n_rows
  refine fn_so (C := T.C) T.F_book S_book (by intro _ _ h; first | (obtain ⟨_, rfl, _⟩ := h; rfl) | (obtain ⟨_, _, rfl, _⟩ := h; rfl) | (obtain ⟨_, _, _, rfl, _⟩ := h; rfl) | (obtain ⟨_, _, _, _, rfl, _⟩ := h; rfl) | (obtain ⟨_, _, _, _, _, rfl, _⟩ := h; rfl) | (obtain ⟨_, _, _, _, _, _, rfl, _⟩ := h; rfl) | (obtain ⟨_, _, _, _, _, _, _, rfl, _⟩ := h; rfl) | (obtain ⟨_, _, _, _, _, _, _, _, rfl, _⟩ := h; rfl) | (obtain ⟨_, _, _, _, _, _, _, _, _, rfl, _⟩ := h; rfl)) fun cdv A outer s H E hr => ⟨_, (pss_cons (ps_expr (pe_call G_see (hr.mono (by decide)) (by rfl) T.g_see T.F_see.kp T.b_see .nil pass0 (pa_cons (pv 0) (pa_cons (pv 1) (pa_cons (pv 2) pa_nil)))))
      (pss_cons (ps_if (PW.pt (pw_or (pt_cmpR op_lt (pv 3) pe_int (nomark _)) (pw_or1 (pt_cmpR (r := rNeD T.C.K) (op_neD hr.units) (pe_op op_modN (pv 3) (pe_call G_fewest (hr.mono (by decide)) (by rfl) T.g_fewest T.F_fewest.kp T.b_fewest .nil pass0 (pa_cons (pv 0) (pa_cons (pv 2) pa_nil)))) pe_int (nomark _))))) (pss_one ps_never) pss_nil)
      (pss_cons (ps_set (i := 1) S_book.nd rfl (Or.inl rfl) (pe_call G_rate_of (hr.mono (by decide)) (by rfl) T.g_rate_of T.F_rate_of.kp T.b_rate_of .nil pass0 (pa_cons (pv 1) pa_nil)))
      (pss_cons (ps_set (i := 4) S_book.nd rfl (Or.inl rfl) (pe_tup (pa_cons pe_int (pa_cons pe_int pa_nil))))
      (pss_cons (ps_set (i := 5) S_book.nd rfl (Or.inl rfl) (pe_lst pa_nil))
      (pss_cons (ps_for PassesOwn.never rfl (pi_enum (by rfl) T.z_enumerate (pa_cons (pe_fld (pv 2) rfl) pa_nil)) (pg_tup rfl (pgs_cons (pg_name (i := 6) S_book.nd rfl (Or.inl rfl)) (pgs_cons (pg_name (i := 7) S_book.nd rfl (Or.inl rfl)) pgs_nil))) (pss_cons (ps_set (i := 8) S_book.nd rfl (Or.inl rfl) (pe_ix (r := rIx T.C.K) ix_seq (pe_call G_times (hr.mono (by decide)) (by rfl) T.g_times T.F_times.kp T.b_times .nil pass0 (pa_cons (pe_tup (pa_cons (pv 3) (pa_cons pe_int pa_nil))) (pa_cons (pe_meth (pv 0) T.cl_Table T.m_Table_lives G_Table_lives (hr.mono (by decide)) T.b_Table_lives .nil pass0 (pa_cons (pe_fld (pv 2) rfl) (pa_cons (pv 6) pa_nil))) pa_nil))) pe_int (fun _ _ => rfl)))
      (pss_cons (ps_set (i := 9) S_book.nd rfl (Or.inl rfl) (pe_ix (r := rIx T.C.K) ix_seq (pe_call G_times (hr.mono (by decide)) (by rfl) T.g_times T.F_times.kp T.b_times .nil pass0 (pa_cons (pe_tup (pa_cons (pv 3) (pa_cons pe_int pa_nil))) (pa_cons (pe_meth (pv 0) T.cl_Table T.m_Table_lives G_Table_lives (hr.mono (by decide)) T.b_Table_lives .nil pass0 (pa_cons (pe_fld (pv 2) rfl) (pa_cons (pe_op op_add (pv 6) pe_int) pa_nil))) pa_nil))) pe_int (fun _ _ => rfl)))
      (pss_cons (ps_set (i := 4) S_book.nd rfl (Or.inl rfl) (pe_call G_over (hr.mono (by decide)) (by rfl) T.g_over T.F_over.kp T.b_over .nil pass0 (pa_cons (pe_call G_plus (hr.mono (by decide)) (by rfl) T.g_plus T.F_plus.kp T.b_plus .nil pass0 (pa_cons (pv 4) (pa_cons (pe_tup (pa_cons (pe_op op_mulA (pv 8) (pe_op op_sub (pe_ix (r := rIx T.C.K) ix_seq (pv 7) pe_int (fun _ _ => rfl)) (pe_ix (r := rIx T.C.K) ix_seq (pv 7) pe_int (fun _ _ => rfl)))) (pa_cons pe_int pa_nil))) pa_nil))) (pa_cons (pv 1) pa_nil))))
      (pss_cons (ps_set (i := 4) S_book.nd rfl (Or.inl rfl) (pe_call G_less (hr.mono (by decide)) (by rfl) T.g_less T.F_less.kp T.b_less .nil pass0 (pa_cons (pv 4) (pa_cons (pe_tup (pa_cons (pe_op op_mulA (pe_op op_sub (pv 8) (pv 9)) (pe_ix (r := rIx T.C.K) ix_seq (pv 7) pe_int (fun _ _ => rfl))) (pa_cons pe_int pa_nil))) pa_nil))))
      (pss_one (ps_expr (pe_bm PySem.F.plainAttrs_list PySem.F.slot_list_append PySem.F.type_list_append mt_append (pv 5) (pa_cons (pe_tup (pa_cons (pv 8) (pa_cons (pe_op op_sub (pv 8) (pv 9)) (pa_cons (pv 4) pa_nil)))) pa_nil)))))))))
      (pss_one (ps_ret (pv 5))))))))), ?_⟩
  rintro _ _ ⟨b, n, B, qs, r, a, rows, m, rfl, hg, hm1, hmd, hmB, h9, rfl⟩
  change SD _ _ _ [.va (dT qs), .va (dP r), .va (.ple a rows), .va (dI m), .un, .un, .un, .un, .un, .un] _
  have ha := hg.pl.a0
  have hfit := hg.fit
  have hl1 := hg.pl.l1
  have h20 := hg.pl.l20
  have hn := hg.n8
  have hB0 : 0 < B := by
    rcases Nat.eq_zero_or_pos B with e | e
    · rw [e] at hmB; omega
    · exact e
  have hn1 : n ≤ (rows.length + 1) * n := Nat.le_mul_of_pos_left n (by omega)
  have hn2 : rows.length * (n + 2) ≤ (rows.length + 1) * (n + 2) := Nat.mul_le_mul_right _ (by omega)
  have hn3 : 4 * (rows.length + 1) * (n + 2) = 4 * ((rows.length + 1) * (n + 2)) := Nat.mul_assoc _ _ _
  have hn4 : n + 2 ≤ (rows.length + 1) * (n + 2) := Nat.le_mul_of_pos_left _ (by omega)
  have r0 : rSee [dT qs, dP r, .ple a rows] (.pd .none) := ⟨b, n, _, _, _, _, rfl, hg, rfl⟩
  have r1 : rFewest [dT qs, .ple a rows] (dI (fewI qs a.toNat (rows.length + 1))) := ⟨b, _, _, _, rfl, hg.tq, hg.pl, hfit, rfl⟩
  have r2 : rRateOf [dP r] (dQ (vq r)) := ⟨n, r, rfl, hg.rt, by omega, rfl⟩
  have hfp := fewI_pos qs a.toNat (rows.length + 1)
  have hne : fewI qs a.toNat (rows.length + 1) ≠ 0 := by omega
  refine sd_seq (sd_drop (by walk_at "xd") ?_)
  refine sd_seq (sd_if (b := false) (td_is (by walk_at "xt") ?_) (fun hb => absurd hb (by decide)) (fun _ => sd_next ?_))
  · rw [fmod_dvd hfp hmd, decide_eq_false (show ¬ m < 1 by omega)]
    rfl
  walk_at "sx"
  walk_at "sx"
  refine sd_seq (sd_asgO (xl_lst ap_nil (by decide)) ?_)
  dsimp only [List.set]
  refine sd_seq (sd_for (List.range (rows.map rD).length) (fun (i : Nat) => PyData.tuple [.int (i : Int), (rows.map rD).getD i .none]) (id_enum (by walk_at "ad")) (fun i ds1 => ∃ z1 z2 z3 z4, ds1 = [.va (dT qs), .va (dQ (vq r)), .va (.ple a rows), .va (dI m), .va (dQ (bookM qs (vq r) m a.toNat rows i)), .ow ((List.range i).map (bookRow qs (vq r) m a.toNat rows)), z1, z2, z3, z4]) ⟨_, _, _, _, rfl⟩ ?_ ?_)
  · rintro i k ds1 hi ⟨z1, z2, z3, z4, rfl⟩
    have hi1 : i < rows.length := by
      have := (List.getElem?_eq_some_iff.mp hi).1
      rw [List.length_range, List.length_map] at this
      exact this
    have hk : k = i := by
      rw [List.getElem?_range (by rw [List.length_map]; exact hi1)] at hi
      exact (Option.some.inj hi).symm
    subst hk
    have hrow : (rows.map rD).getD k .none = rD (rowAt rows k) := by
      rw [List.getD_eq_getElem?_getD, List.getElem?_map, rowAt_get hi1]
      rfl
    rw [hrow]
    refine ⟨_, gd_tup2, ?_⟩
    dsimp only [List.set]
    obtain ⟨c0, c1, c2⟩ := hg.pl.row hi1
    have s1 : rLives [dT qs, dI a, dI (k : Int)] (dQ (lv qs a.toNat k)) := ⟨b, _, _, _, rfl, hg.tq, ha, by omega, by omega, by omega, by rw [Int.toNat_natCast]⟩
    have s2 : rLives [dT qs, dI a, dI ((k : Int) + 1)] (dQ (lv qs a.toNat (k + 1))) := ⟨b, _, _, _, rfl, hg.tq, ha, by omega, by omega, by omega, by rw [show ((k : Int) + 1).toNat = k + 1 by omega]⟩
    have s3 : rTimes [.pd (.tuple [.int m, .int 1]), dQ (lv qs a.toNat k)] (dQ ((m : Rat) * lv qs a.toNat k)) := ⟨(m : Rat), _, B, 61, rfl, Bd.int hmB hB0, bd_lv hg.tq _ _, by omega, rfl⟩
    have s4 : rTimes [.pd (.tuple [.int m, .int 1]), dQ (lv qs a.toNat (k + 1))] (dQ ((m : Rat) * lv qs a.toNat (k + 1))) := ⟨(m : Rat), _, B, 61, rfl, Bd.int hmB hB0, bd_lv hg.tq _ _, by omega, rfl⟩
    have hL := bd_livN hg.tq hmB hB0 a.toNat k
    have hL1 := bd_livN hg.tq hmB hB0 a.toNat (k + 1)
    have hbk := bd_bookM (a := a.toNat) hg.tq hmB hB0 hg.rt (fun k hk => hg.pl.row hk) (show k ≤ rows.length by omega)
    have hres : bookM qs (vq r) m a.toNat rows (k + 1) = (bookM qs (vq r) m a.toNat rows k + ((livN qs m a.toNat k * ((rowAt rows k).1 - (rowAt rows k).2.1) : Int) : Rat)) / vq r - (((livN qs m a.toNat k - livN qs m a.toNat (k + 1)) * (rowAt rows k).2.2 : Int) : Rat) := rfl
    refine sd_seq (sd_asg (d := dI (livN qs m a.toNat k)) (by walk_at "xd") ?_)
    dsimp only [List.set]
    refine sd_seq (sd_asg (d := dI (livN qs m a.toNat (k + 1))) (by walk_at "xd") ?_)
    dsimp only [List.set]
    have hbrow : bookRow qs (vq r) m a.toNat rows k = .tuple [.int (livN qs m a.toNat k), .int (livN qs m a.toNat k - livN qs m a.toNat (k + 1)), pD (pq (bookM qs (vq r) m a.toNat rows (k + 1)))] := rfl
    generalize hM : bookM qs (vq r) m a.toNat rows k = M at *
    generalize livN qs m a.toNat k = L at *
    generalize livN qs m a.toNat (k + 1) = L1 at *
    generalize rowAt rows k = ro at *
    have g1 : (L * (ro.1 - ro.2.1)).natAbs < 2 ^ (B + 61 + 20) := mul_lt2 hL (bd_diff c0 c1).1
    have g2 : (L - L1).natAbs < 2 ^ (B + 61 + 1) := by rw [Int.sub_eq_add_neg]; exact add_lt2 hL (lt2_neg hL1)
    have g3 : ((L - L1) * ro.2.2).natAbs < 2 ^ (B + 61 + 1 + 20) := mul_lt2 g2 (bd_coin c2).1
    have m1 : CMulA L (ro.1 - ro.2.1) := cmul hL (bd_diff c0 c1).1 (by omega)
    have m2 : CMulA (L - L1) ro.2.2 := cmul g2 (bd_coin c2).1 (by omega)
    have bA : Bd (B + 61 + 20) ((L * (ro.1 - ro.2.1) : Int) : Rat) := Bd.int g1 (by omega)
    have bE : Bd (B + 61 + 1 + 20) (((L - L1) * ro.2.2 : Int) : Rat) := Bd.int g3 (by omega)
    have t1 : rPlus [dQ M, .pd (.tuple [.int (L * (ro.1 - ro.2.1)), .int 1])] (dQ (M + ((L * (ro.1 - ro.2.1) : Int) : Rat))) := ⟨M, ((L * (ro.1 - ro.2.1) : Int) : Rat), _, _, rfl, hbk, bA, by omega, rfl⟩
    have b1 := hbk.add bA
    have t2 : rOver [dQ (M + ((L * (ro.1 - ro.2.1) : Int) : Rat)), dQ (vq r)] (dQ ((M + ((L * (ro.1 - ro.2.1) : Int) : Rat)) / vq r)) := ⟨_, _, _, n, rfl, b1, hg.rt.ok.vq, by omega, hg.rt.ne, rfl⟩
    have b2 := b1.div hg.rt.ok.vq hg.rt.ne
    have t3 : rLess [dQ ((M + ((L * (ro.1 - ro.2.1) : Int) : Rat)) / vq r), .pd (.tuple [.int ((L - L1) * ro.2.2), .int 1])] (dQ (bookM qs (vq r) m a.toNat rows (k + 1))) := ⟨(M + ((L * (ro.1 - ro.2.1) : Int) : Rat)) / vq r, (((L - L1) * ro.2.2 : Int) : Rat), _, _, rfl, b2, bE, by omega, by rw [hres]⟩
    walk_at "sx"
    walk_at "sx"
    refine sd_app rfl (x := bookRow qs (vq r) m a.toNat rows k) (by rw [hbrow]; walk_at "xd") ?_ ?_
    · rw [List.length_map, List.length_range]
      omega
    dsimp only [List.set]
    rw [List.range_succ, List.map_append]
    exact ⟨_, _, _, _, rfl⟩
  rintro _ ⟨z1, z2, z3, z4, rfl⟩
  rw [List.length_range, List.length_map]
  exact sd_retO rfl rfl
theorem okx_book {P : Program} {w : World} {K : PySem.W.Frag} {mg : Str → Option Value} {base : Heap} (T : Tp K mg) : FnOk P w K mg base (L2.CX P w) 7 T.f_book T.d_book ["table", "rate", "pledge", "many"] (spE T.C (rXBook T.c_BadRate T.c_BadPledge T.c_BadCount)) := by
  have G_Table_lives := ok_Table_lives (P := P) (w := w) (base := base) T
  have G_fewest := ok_fewest (P := P) (w := w) (base := base) T
  have G_less := ok_less (P := P) (w := w) (base := base) T
  have G_over := ok_over (P := P) (w := w) (base := base) T
  have G_plus := ok_plus (P := P) (w := w) (base := base) T
  have G_rate_of := ok_rate_of (P := P) (w := w) (base := base) T
  have B_see := okb_see (P := P) (w := w) (base := base) T
  have G_see := ok_see (P := P) (w := w) (base := base) T
  have G_times := ok_times (P := P) (w := w) (base := base) T
  have cl_T : Cls T.C.K T.C.T := T.cl_Table
  have n_ch : NoAttr T.C.K T.C.T "chances" := T.n_chances
  have cl_P : Cls T.C.K T.C.P := T.cl_Pledge
  have n_age : NoAttr T.C.K T.C.P "age" := T.n_age
  have n_rows : NoAttr T.C.K T.C.P "rows" := T.n_rows
  refine fn_sx (C := T.C) T.F_book S_book (by intro _ _ h; first | (obtain ⟨_, rfl, _⟩ := h; rfl) | (obtain ⟨_, _, rfl, _⟩ := h; rfl) | (obtain ⟨_, _, _, rfl, _⟩ := h; rfl) | (obtain ⟨_, _, _, _, rfl, _⟩ := h; rfl) | (obtain ⟨_, _, _, _, _, rfl, _⟩ := h; rfl) | (obtain ⟨_, _, _, _, _, _, rfl, _⟩ := h; rfl) | (obtain ⟨_, _, _, _, _, _, _, rfl, _⟩ := h; rfl) | (obtain ⟨_, _, _, _, _, _, _, _, rfl, _⟩ := h; rfl) | (obtain ⟨_, _, _, _, _, _, _, _, _, rfl, _⟩ := h; rfl)) fun cdv A outer s H E hr => ⟨_, (pss_cons (ps_expr (pe_callS B_see (hr.mono (by decide)) (by rfl) T.g_see T.F_see.kp T.b_see (fun σ => passAt (takes_of rfl rfl rfl rfl) σ) (pa_cons (pv 0) (pa_cons (pv 1) (pa_cons (pv 2) pa_nil)))))
      (pss_cons (ps_if (PW.pt (pw_or (pt_cmpR op_lt (pv 3) pe_int (nomark _)) (pw_or1 (pt_cmpR (r := rNeD T.C.K) (op_neD hr.units) (pe_op op_modN (pv 3) (pe_call G_fewest (hr.mono (by decide)) (by rfl) T.g_fewest T.F_fewest.kp T.b_fewest .nil pass0 (pa_cons (pv 0) (pa_cons (pv 2) pa_nil)))) pe_int (nomark _))))) (pss_one (ps_raise rfl (takes_of rfl rfl rfl rfl) (pmk_own PySem.F.excBase_ValueError T.x_BadCount T.g_BadCount T.k_BadCount (raises_own T.bb_BadCount T.tt_BadCount) (by rfl)))) pss_nil)
      (PSs.nox (pss_cons (ps_set (i := 1) S_book.nd rfl (Or.inl rfl) (pe_call G_rate_of (hr.mono (by decide)) (by rfl) T.g_rate_of T.F_rate_of.kp T.b_rate_of .nil pass0 (pa_cons (pv 1) pa_nil)))
      (pss_cons (ps_set (i := 4) S_book.nd rfl (Or.inl rfl) (pe_tup (pa_cons pe_int (pa_cons pe_int pa_nil))))
      (pss_cons (ps_set (i := 5) S_book.nd rfl (Or.inl rfl) (pe_lst pa_nil))
      (pss_cons (ps_for PassesOwn.never rfl (pi_enum (by rfl) T.z_enumerate (pa_cons (pe_fld (pv 2) rfl) pa_nil)) (pg_tup rfl (pgs_cons (pg_name (i := 6) S_book.nd rfl (Or.inl rfl)) (pgs_cons (pg_name (i := 7) S_book.nd rfl (Or.inl rfl)) pgs_nil))) (pss_cons (ps_set (i := 8) S_book.nd rfl (Or.inl rfl) (pe_ix (r := rIx T.C.K) ix_seq (pe_call G_times (hr.mono (by decide)) (by rfl) T.g_times T.F_times.kp T.b_times .nil pass0 (pa_cons (pe_tup (pa_cons (pv 3) (pa_cons pe_int pa_nil))) (pa_cons (pe_meth (pv 0) T.cl_Table T.m_Table_lives G_Table_lives (hr.mono (by decide)) T.b_Table_lives .nil pass0 (pa_cons (pe_fld (pv 2) rfl) (pa_cons (pv 6) pa_nil))) pa_nil))) pe_int (fun _ _ => rfl)))
      (pss_cons (ps_set (i := 9) S_book.nd rfl (Or.inl rfl) (pe_ix (r := rIx T.C.K) ix_seq (pe_call G_times (hr.mono (by decide)) (by rfl) T.g_times T.F_times.kp T.b_times .nil pass0 (pa_cons (pe_tup (pa_cons (pv 3) (pa_cons pe_int pa_nil))) (pa_cons (pe_meth (pv 0) T.cl_Table T.m_Table_lives G_Table_lives (hr.mono (by decide)) T.b_Table_lives .nil pass0 (pa_cons (pe_fld (pv 2) rfl) (pa_cons (pe_op op_add (pv 6) pe_int) pa_nil))) pa_nil))) pe_int (fun _ _ => rfl)))
      (pss_cons (ps_set (i := 4) S_book.nd rfl (Or.inl rfl) (pe_call G_over (hr.mono (by decide)) (by rfl) T.g_over T.F_over.kp T.b_over .nil pass0 (pa_cons (pe_call G_plus (hr.mono (by decide)) (by rfl) T.g_plus T.F_plus.kp T.b_plus .nil pass0 (pa_cons (pv 4) (pa_cons (pe_tup (pa_cons (pe_op op_mulA (pv 8) (pe_op op_sub (pe_ix (r := rIx T.C.K) ix_seq (pv 7) pe_int (fun _ _ => rfl)) (pe_ix (r := rIx T.C.K) ix_seq (pv 7) pe_int (fun _ _ => rfl)))) (pa_cons pe_int pa_nil))) pa_nil))) (pa_cons (pv 1) pa_nil))))
      (pss_cons (ps_set (i := 4) S_book.nd rfl (Or.inl rfl) (pe_call G_less (hr.mono (by decide)) (by rfl) T.g_less T.F_less.kp T.b_less .nil pass0 (pa_cons (pv 4) (pa_cons (pe_tup (pa_cons (pe_op op_mulA (pe_op op_sub (pv 8) (pv 9)) (pe_ix (r := rIx T.C.K) ix_seq (pv 7) pe_int (fun _ _ => rfl))) (pa_cons pe_int pa_nil))) pa_nil))))
      (pss_one (ps_expr (pe_bm PySem.F.plainAttrs_list PySem.F.slot_list_append PySem.F.type_list_append mt_append (pv 5) (pa_cons (pe_tup (pa_cons (pv 8) (pa_cons (pe_op op_sub (pv 8) (pv 9)) (pa_cons (pv 4) pa_nil)))) pa_nil)))))))))
      (pss_one (ps_ret (pv 5)))))))))), ?_⟩
  rintro _ A ⟨qs, r, a, rows, m, rfl, h⟩
  change SD _ _ _ ([.va (dT qs), .va (dP r), .va (.ple a rows), .va (dI m)] ++ _) _
  rcases h with h | ⟨⟨b, n, hg⟩, h, rfl⟩
  · exact sd_seq (sd_dropX (by walk_at "xx") rfl)
  · have r0 : rSee [dT qs, dP r, .ple a rows] (.pd .none) := ⟨b, n, _, _, _, _, rfl, hg, rfl⟩
    have r1 : rFewest [dT qs, .ple a rows] (dI (fewI qs a.toNat (rows.length + 1))) := ⟨b, _, _, _, rfl, hg.tq, hg.pl, hg.fit, rfl⟩
    have hfp := fewI_pos qs a.toNat (rows.length + 1)
    have hne : fewI qs a.toNat (rows.length + 1) ≠ 0 := by omega
    refine sd_seq (sd_drop (by walk_at "xd") ?_)
    refine sd_seq (sd_if (b := true) (td_is (by walk_at "xt") ?_) (fun _ => sd_raise (A := T.c_BadCount) rfl) (fun hb => absurd hb (by decide)))
    rcases h with h | h
    · rw [decide_eq_true h, Bool.true_or]
    · rw [decide_eq_false (fmod_ne_dvd hfp h), Bool.not_false, Bool.or_true]
theorem okb_book {P : Program} {w : World} {K : PySem.W.Frag} {mg : Str → Option Value} {base : Heap} (T : Tp K mg) : FnOk P w K mg base (L2.CX P w) 7 T.f_book T.d_book ["table", "rate", "pledge", "many"] (spBO T.C rBook (rXBook T.c_BadRate T.c_BadPledge T.c_BadCount)) := fn_or (C := T.C) (fn_up (C := T.C) (ok_book T)) (okx_book T)
theorem ok_law_refused {P : Program} {w : World} {K : PySem.W.Frag} {mg : Str → Option Value} {base : Heap} (T : Tp K mg) : FnOk P w K mg base CX0 8 T.f_law_refused T.d_law_refused ["call", "table", "rate", "pledge"] (spR T.C (rRef5 T.c_BadRate T.c_BadPledge T.ex)) := by
  have G_law_alone := ok_law_alone (P := P) (w := w) (base := base) T
  have G_book := ok_book (P := P) (w := w) (base := base) T
  have B_book := okb_book (P := P) (w := w) (base := base) T
  have G_ends := ok_ends (P := P) (w := w) (base := base) T
  have B_ends := okb_ends (P := P) (w := w) (base := base) T
  have G_fair_due := ok_fair_due (P := P) (w := w) (base := base) T
  have B_fair_due := okb_fair_due (P := P) (w := w) (base := base) T
  have G_fewest := ok_fewest (P := P) (w := w) (base := base) T
  have B_fewest := okb_fewest (P := P) (w := w) (base := base) T
  have G_held := ok_held (P := P) (w := w) (base := base) T
  have B_held := okb_held (P := P) (w := w) (base := base) T
  have G_income := ok_income (P := P) (w := w) (base := base) T
  have B_income := okb_income (P := P) (w := w) (base := base) T
  have G_need := ok_need (P := P) (w := w) (base := base) T
  have B_need := okb_need (P := P) (w := w) (base := base) T
  have G_outgo := ok_outgo (P := P) (w := w) (base := base) T
  have B_outgo := okb_outgo (P := P) (w := w) (base := base) T
  have cl_T : Cls T.C.K T.C.T := T.cl_Table
  have n_ch : NoAttr T.C.K T.C.T "chances" := T.n_chances
  have cl_P : Cls T.C.K T.C.P := T.cl_Pledge
  have n_age : NoAttr T.C.K T.C.P "age" := T.n_age
  have n_rows : NoAttr T.C.K T.C.P "rows" := T.n_rows
  refine fn_sd (C := T.C) T.F_law_refused S_law_refused (by intro _ _ h; first | (obtain ⟨_, rfl, _⟩ := h; rfl) | (obtain ⟨_, _, rfl, _⟩ := h; rfl) | (obtain ⟨_, _, _, rfl, _⟩ := h; rfl) | (obtain ⟨_, _, _, _, rfl, _⟩ := h; rfl) | (obtain ⟨_, _, _, _, _, rfl, _⟩ := h; rfl) | (obtain ⟨_, _, _, _, _, _, rfl, _⟩ := h; rfl) | (obtain ⟨_, _, _, _, _, _, _, rfl, _⟩ := h; rfl) | (obtain ⟨_, _, _, _, _, _, _, _, rfl, _⟩ := h; rfl) | (obtain ⟨_, _, _, _, _, _, _, _, _, rfl, _⟩ := h; rfl)) fun cdv A outer s H E hr => ⟨_, (pss_cons (ps_set (i := 4) S_law_refused.nd rfl (Or.inl rfl) pe_non)
      (pss_cons (ps_try_keep (i := 5) rfl rfl rfl S_law_refused.nd rfl rfl ⟨rfl, by decide, .inl T.g_PledgeError⟩ takes0 (fun W pn xe tk po => (pss_cons (ps_if (pt_cmpR (r := rEqD T.C.K) (op_eqD hr.units) (pv 0) pe_int (nomark _)) (pss_one (ps_expr (pe_callS B_outgo (hr.mono (by decide)) (by rfl) T.g_outgo T.F_outgo.kp T.b_outgo (fun σ => passAt tk σ) (pa_cons (pv 1) (pa_cons (pv 2) (pa_cons (pv 3) pa_nil)))))) pss_nil)
      (pss_cons (ps_if (pt_cmpR (r := rEqD T.C.K) (op_eqD hr.units) (pv 0) pe_int (nomark _)) (pss_one (ps_expr (pe_callS B_income (hr.mono (by decide)) (by rfl) T.g_income T.F_income.kp T.b_income (fun σ => passAt tk σ) (pa_cons (pv 1) (pa_cons (pv 2) (pa_cons (pv 3) pa_nil)))))) pss_nil)
      (pss_cons (ps_if (pt_cmpR (r := rEqD T.C.K) (op_eqD hr.units) (pv 0) pe_int (nomark _)) (pss_one (ps_expr (pe_callS B_need (hr.mono (by decide)) (by rfl) T.g_need T.F_need.kp T.b_need (fun σ => passAt tk σ) (pa_cons (pv 1) (pa_cons (pv 2) (pa_cons (pv 3) (pa_cons pe_int pa_nil))))))) pss_nil)
      (pss_cons (ps_if (pt_cmpR (r := rEqD T.C.K) (op_eqD hr.units) (pv 0) pe_int (nomark _)) (pss_one (ps_expr (pe_callS B_held (hr.mono (by decide)) (by rfl) T.g_held T.F_held.kp T.b_held (fun σ => passAt tk σ) (pa_cons (pv 1) (pa_cons (pv 2) (pa_cons (pv 3) (pa_cons (pe_un un_neg pe_int) pa_nil))))))) pss_nil)
      (pss_cons (ps_if (pt_cmpR (r := rEqD T.C.K) (op_eqD hr.units) (pv 0) pe_int (nomark _)) (pss_one (ps_expr (pe_callS B_ends (hr.mono (by decide)) (by rfl) T.g_ends T.F_ends.kp T.b_ends (fun σ => passAt tk σ) (pa_cons (pv 1) (pa_cons (pv 2) (pa_cons (pv 3) pa_nil)))))) pss_nil)
      (pss_cons (ps_if (pt_cmpR (r := rEqD T.C.K) (op_eqD hr.units) (pv 0) pe_int (nomark _)) (pss_one (ps_expr (pe_callS B_fair_due (hr.mono (by decide)) (by rfl) T.g_fair_due T.F_fair_due.kp T.b_fair_due (fun σ => passAt tk σ) (pa_cons (pv 1) (pa_cons (pv 2) (pa_cons (pv 3) pa_nil)))))) pss_nil)
      (pss_cons (ps_if (pt_cmpR (r := rEqD T.C.K) (op_eqD hr.units) (pv 0) pe_int (nomark _)) (pss_one (ps_expr (pe_callS B_book (hr.mono (by decide)) (by rfl) T.g_book T.F_book.kp T.b_book (fun σ => passAt tk σ) (pa_cons (pv 1) (pa_cons (pv 2) (pa_cons (pv 3) (pa_cons pe_int pa_nil))))))) pss_nil)
      (pss_one (ps_if (pt_cmpR (r := rEqD T.C.K) (op_eqD hr.units) (pv 0) pe_int (nomark _)) (pss_one (ps_expr (pe_callS B_fewest (hr.mono (by decide)) (by rfl) T.g_fewest T.F_fewest.kp T.b_fewest (fun σ => passAt tk σ) (pa_cons (pv 1) (pa_cons (pv 3) pa_nil))))) pss_nil)))))))))) (fun a oe cls d pn hz hf => pss_one (ps_set (i := 4) S_law_refused.nd rfl (Or.inl rfl) (pv 5))))
      (pss_one (ps_ret (pe_call G_law_alone (hr.mono (by decide)) (by rfl) T.g_law_alone T.F_law_alone.kp T.b_law_alone .nil pass0 (pa_cons (pv 4) pa_nil)))))), ?_⟩
  rintro _ _ ⟨call, qs, r, a, rows, rfl, A, j, h0, h7, hx, h77, hA, rfl⟩
  change SD _ _ _ [.va (dI call), .va (dT qs), .va (dP r), .va (.ple a rows), .un, .un] _
  have w : (rAlone T.ex) [.exc A] (dI j) := ⟨j, A, rfl, hA, rfl⟩
  have em := T.em hA
  have hn0 : (rXNeed T.c_BadRate T.c_BadPledge T.c_NoYear) [dT qs, dP r, .ple a rows, dI 0] A := ⟨_, _, _, _, _, rfl, .inl hx⟩
  have hn1 : (rXNeed T.c_BadRate T.c_BadPledge T.c_NoYear) [dT qs, dP r, .ple a rows, dI (-1)] A := ⟨_, _, _, _, _, rfl, .inl hx⟩
  have hb0 : (rXBook T.c_BadRate T.c_BadPledge T.c_BadCount) [dT qs, dP r, .ple a rows, dI 0] A := ⟨_, _, _, _, _, rfl, .inl hx⟩
  have hf : call = 7 → (rXSeeFits T.c_BadPledge) [dT qs, .ple a rows] A := fun e => ⟨qs, a, rows, rfl, (h77 e).1, (h77 e).2⟩
  walk_at "sx"
  refine sd_seq (sd_try (by decide) (Nat.le_of_ble_eq_true rfl) fun W => ?_)
  rcases (show call = 0 ∨ call = 1 ∨ call = 2 ∨ call = 3 ∨ call = 4 ∨ call = 5 ∨ call = 6 ∨ call = 7 by omega) with rfl | rfl | rfl | rfl | rfl | rfl | rfl | rfl
  · refine sd_seq (sd_if (b := true) (td_is (by walk_at "xt") (by rfl)) (fun _ => sd_dropX (by walk_at "xx") ⟨A, rfl, rfl, em, ?_⟩) (fun hb => absurd hb (by decide)))
    dsimp only [List.set]
    exact sd_ret (by walk_at "xd") rfl
  · refine sd_seq (sd_if (b := false) (td_is (by walk_at "xt") (by rfl)) (fun hb => absurd hb (by decide)) (fun _ => sd_next ?_))
    refine sd_seq (sd_if (b := true) (td_is (by walk_at "xt") (by rfl)) (fun _ => sd_dropX (by walk_at "xx") ⟨A, rfl, rfl, em, ?_⟩) (fun hb => absurd hb (by decide)))
    dsimp only [List.set]
    exact sd_ret (by walk_at "xd") rfl
  · refine sd_seq (sd_if (b := false) (td_is (by walk_at "xt") (by rfl)) (fun hb => absurd hb (by decide)) (fun _ => sd_next ?_))
    refine sd_seq (sd_if (b := false) (td_is (by walk_at "xt") (by rfl)) (fun hb => absurd hb (by decide)) (fun _ => sd_next ?_))
    refine sd_seq (sd_if (b := true) (td_is (by walk_at "xt") (by rfl)) (fun _ => sd_dropX (by walk_at "xx") ⟨A, rfl, rfl, em, ?_⟩) (fun hb => absurd hb (by decide)))
    dsimp only [List.set]
    exact sd_ret (by walk_at "xd") rfl
  · refine sd_seq (sd_if (b := false) (td_is (by walk_at "xt") (by rfl)) (fun hb => absurd hb (by decide)) (fun _ => sd_next ?_))
    refine sd_seq (sd_if (b := false) (td_is (by walk_at "xt") (by rfl)) (fun hb => absurd hb (by decide)) (fun _ => sd_next ?_))
    refine sd_seq (sd_if (b := false) (td_is (by walk_at "xt") (by rfl)) (fun hb => absurd hb (by decide)) (fun _ => sd_next ?_))
    refine sd_seq (sd_if (b := true) (td_is (by walk_at "xt") (by rfl)) (fun _ => sd_dropX (by walk_at "xx") ⟨A, rfl, rfl, em, ?_⟩) (fun hb => absurd hb (by decide)))
    dsimp only [List.set]
    exact sd_ret (by walk_at "xd") rfl
  · refine sd_seq (sd_if (b := false) (td_is (by walk_at "xt") (by rfl)) (fun hb => absurd hb (by decide)) (fun _ => sd_next ?_))
    refine sd_seq (sd_if (b := false) (td_is (by walk_at "xt") (by rfl)) (fun hb => absurd hb (by decide)) (fun _ => sd_next ?_))
    refine sd_seq (sd_if (b := false) (td_is (by walk_at "xt") (by rfl)) (fun hb => absurd hb (by decide)) (fun _ => sd_next ?_))
    refine sd_seq (sd_if (b := false) (td_is (by walk_at "xt") (by rfl)) (fun hb => absurd hb (by decide)) (fun _ => sd_next ?_))
    refine sd_seq (sd_if (b := true) (td_is (by walk_at "xt") (by rfl)) (fun _ => sd_dropX (by walk_at "xx") ⟨A, rfl, rfl, em, ?_⟩) (fun hb => absurd hb (by decide)))
    dsimp only [List.set]
    exact sd_ret (by walk_at "xd") rfl
  · refine sd_seq (sd_if (b := false) (td_is (by walk_at "xt") (by rfl)) (fun hb => absurd hb (by decide)) (fun _ => sd_next ?_))
    refine sd_seq (sd_if (b := false) (td_is (by walk_at "xt") (by rfl)) (fun hb => absurd hb (by decide)) (fun _ => sd_next ?_))
    refine sd_seq (sd_if (b := false) (td_is (by walk_at "xt") (by rfl)) (fun hb => absurd hb (by decide)) (fun _ => sd_next ?_))
    refine sd_seq (sd_if (b := false) (td_is (by walk_at "xt") (by rfl)) (fun hb => absurd hb (by decide)) (fun _ => sd_next ?_))
    refine sd_seq (sd_if (b := false) (td_is (by walk_at "xt") (by rfl)) (fun hb => absurd hb (by decide)) (fun _ => sd_next ?_))
    refine sd_seq (sd_if (b := true) (td_is (by walk_at "xt") (by rfl)) (fun _ => sd_dropX (by walk_at "xx") ⟨A, rfl, rfl, em, ?_⟩) (fun hb => absurd hb (by decide)))
    dsimp only [List.set]
    exact sd_ret (by walk_at "xd") rfl
  · refine sd_seq (sd_if (b := false) (td_is (by walk_at "xt") (by rfl)) (fun hb => absurd hb (by decide)) (fun _ => sd_next ?_))
    refine sd_seq (sd_if (b := false) (td_is (by walk_at "xt") (by rfl)) (fun hb => absurd hb (by decide)) (fun _ => sd_next ?_))
    refine sd_seq (sd_if (b := false) (td_is (by walk_at "xt") (by rfl)) (fun hb => absurd hb (by decide)) (fun _ => sd_next ?_))
    refine sd_seq (sd_if (b := false) (td_is (by walk_at "xt") (by rfl)) (fun hb => absurd hb (by decide)) (fun _ => sd_next ?_))
    refine sd_seq (sd_if (b := false) (td_is (by walk_at "xt") (by rfl)) (fun hb => absurd hb (by decide)) (fun _ => sd_next ?_))
    refine sd_seq (sd_if (b := false) (td_is (by walk_at "xt") (by rfl)) (fun hb => absurd hb (by decide)) (fun _ => sd_next ?_))
    refine sd_seq (sd_if (b := true) (td_is (by walk_at "xt") (by rfl)) (fun _ => sd_dropX (by walk_at "xx") ⟨A, rfl, rfl, em, ?_⟩) (fun hb => absurd hb (by decide)))
    dsimp only [List.set]
    exact sd_ret (by walk_at "xd") rfl
  · have hf := hf rfl
    refine sd_seq (sd_if (b := false) (td_is (by walk_at "xt") (by rfl)) (fun hb => absurd hb (by decide)) (fun _ => sd_next ?_))
    refine sd_seq (sd_if (b := false) (td_is (by walk_at "xt") (by rfl)) (fun hb => absurd hb (by decide)) (fun _ => sd_next ?_))
    refine sd_seq (sd_if (b := false) (td_is (by walk_at "xt") (by rfl)) (fun hb => absurd hb (by decide)) (fun _ => sd_next ?_))
    refine sd_seq (sd_if (b := false) (td_is (by walk_at "xt") (by rfl)) (fun hb => absurd hb (by decide)) (fun _ => sd_next ?_))
    refine sd_seq (sd_if (b := false) (td_is (by walk_at "xt") (by rfl)) (fun hb => absurd hb (by decide)) (fun _ => sd_next ?_))
    refine sd_seq (sd_if (b := false) (td_is (by walk_at "xt") (by rfl)) (fun hb => absurd hb (by decide)) (fun _ => sd_next ?_))
    refine sd_seq (sd_if (b := false) (td_is (by walk_at "xt") (by rfl)) (fun hb => absurd hb (by decide)) (fun _ => sd_next ?_))
    refine sd_if (b := true) (td_is (by walk_at "xt") (by rfl)) (fun _ => sd_dropX (by walk_at "xx") ⟨A, rfl, rfl, em, ?_⟩) (fun hb => absurd hb (by decide))
    dsimp only [List.set]
    exact sd_ret (by walk_at "xd") rfl
theorem ok_law {P : Program} {w : World} {K : PySem.W.Frag} {mg : Str → Option Value} {base : Heap} (T : Tp K mg) : FnOk P w K mg base CX0 9 T.f_law T.d_law ["script"] (spR T.C rLaw) := by
  have G_Table_init := ok_Table_init (P := P) (w := w) (base := base) T
  have G_law_alone := ok_law_alone (P := P) (w := w) (base := base) T
  have G_law_begin := ok_law_begin (P := P) (w := w) (base := base) T
  have G_law_chances := ok_law_chances (P := P) (w := w) (base := base) T
  have G_law_draw := ok_law_draw (P := P) (w := w) (base := base) T
  have G_law_kept := ok_law_kept (P := P) (w := w) (base := base) T
  have G_law_made := ok_law_made (P := P) (w := w) (base := base) T
  have G_law_refused := ok_law_refused (P := P) (w := w) (base := base) T
  have G_law_rows := ok_law_rows (P := P) (w := w) (base := base) T
  have G_law_spoiled := ok_law_spoiled (P := P) (w := w) (base := base) T
  have cl_T : Cls T.C.K T.C.T := T.cl_Table
  have n_ch : NoAttr T.C.K T.C.T "chances" := T.n_chances
  have cl_P : Cls T.C.K T.C.P := T.cl_Pledge
  have n_age : NoAttr T.C.K T.C.P "age" := T.n_age
  have n_rows : NoAttr T.C.K T.C.P "rows" := T.n_rows
  refine fn_sd (C := T.C) T.F_law S_law (by intro _ _ h; first | (obtain ⟨_, rfl, _⟩ := h; rfl) | (obtain ⟨_, _, rfl, _⟩ := h; rfl) | (obtain ⟨_, _, _, rfl, _⟩ := h; rfl) | (obtain ⟨_, _, _, _, rfl, _⟩ := h; rfl) | (obtain ⟨_, _, _, _, _, rfl, _⟩ := h; rfl) | (obtain ⟨_, _, _, _, _, _, rfl, _⟩ := h; rfl) | (obtain ⟨_, _, _, _, _, _, _, rfl, _⟩ := h; rfl) | (obtain ⟨_, _, _, _, _, _, _, _, rfl, _⟩ := h; rfl) | (obtain ⟨_, _, _, _, _, _, _, _, _, rfl, _⟩ := h; rfl)) fun cdv A outer s H E hr => ⟨_, (pss_cons (ps_set (i := 1) S_law.nd rfl (Or.inl rfl) (pe_call G_law_chances (hr.mono (by decide)) (by rfl) T.g_law_chances T.F_law_chances.kp T.b_law_chances .nil pass0 (pa_cons (pv 0) pa_nil)))
      (pss_cons (ps_set (i := 2) S_law.nd rfl (Or.inl rfl) (pe_call G_law_begin (hr.mono (by decide)) (by rfl) T.g_law_begin T.F_law_begin.kp T.b_law_begin .nil pass0 (pa_cons (pv 0) (pa_cons (pe_callB (r := rLenS T.C.K) call_len_seq (by rfl) T.z_len (by decide +kernel) (pa_cons (pv 1) pa_nil)) pa_nil))))
      (pss_cons (ps_set (i := 3) S_law.nd rfl (Or.inl rfl) (pe_call G_law_rows (hr.mono (by decide)) (by rfl) T.g_law_rows T.F_law_rows.kp T.b_law_rows .nil pass0 (pa_cons (pv 0) (pa_cons (pe_ix (r := rIx T.C.K) ix_seq (pv 2) pe_int (fun _ _ => rfl)) pa_nil))))
      (pss_cons (ps_set (i := 4) S_law.nd rfl (Or.inl rfl) (pe_call G_law_draw (hr.mono (by decide)) (by rfl) T.g_law_draw T.F_law_draw.kp T.b_law_draw .nil pass0 (pa_cons (pv 0) (pa_cons pe_int pa_nil))))
      (pss_cons (ps_set (i := 5) S_law.nd rfl (Or.inl rfl) (pe_call G_law_spoiled (hr.mono (by decide)) (by rfl) T.g_law_spoiled T.F_law_spoiled.kp T.b_law_spoiled .nil pass0 (pa_cons (pe_ix (r := rIx T.C.K) ix_seq (pv 2) pe_int (fun _ _ => rfl)) (pa_cons (pv 3) (pa_cons (pe_op op_modN (pv 4) pe_int) (pa_cons (pe_op op_fdivW (pv 4) pe_int) pa_nil))))))
      (pss_cons (ps_set (i := 6) S_law.nd rfl (Or.inl rfl) (pe_call G_law_made (hr.mono (by decide)) (by rfl) T.g_law_made T.F_law_made.kp T.b_law_made .nil pass0 (pa_cons (pe_ix (r := rIx T.C.K) ix_seq (pv 5) pe_int (fun _ _ => rfl)) (pa_cons (pe_ix (r := rIx T.C.K) ix_seq (pv 5) pe_int (fun _ _ => rfl)) pa_nil))))
      (pss_cons (ps_if (pt_chain op_le op_le pe_int (pe_op op_modN (pv 4) pe_int) pe_int) (pss_one (ps_ret (pe_cmpR (r := rEqD T.C.K) (op_eqD hr.units) (pe_call G_law_alone (hr.mono (by decide)) (by rfl) T.g_law_alone T.F_law_alone.kp T.b_law_alone .nil pass0 (pa_cons (pv 6) pa_nil)) pe_int (nomark _)))) pss_nil)
      (pss_cons (ps_if (PW.pt (pw_or (pt_not (pt_val (pe_callB (r := rIsi T.C.K) call_isi (by rfl) T.z_isinstance (by decide +kernel) (pa_cons (pv 6) (pa_cons (pe_glob (v := .ref T.c_Pledge) rfl T.g_Pledge rfl) pa_nil))))) (pw_or1 (pt_not (pt_val (pe_call G_law_kept (hr.mono (by decide)) (by rfl) T.g_law_kept T.F_law_kept.kp T.b_law_kept .nil pass0 (pa_cons (pv 0) (pa_cons (pe_ix (r := rIx T.C.K) ix_seq (pv 2) pe_int (fun _ _ => rfl)) (pa_cons (pv 3) pa_nil))))))))) (pss_one (ps_ret pe_bl)) pss_nil)
      (pss_cons (ps_set (i := 7) S_law.nd rfl (Or.inl rfl) (pe_make T.mk_Table G_Table_init (hr.mono (by decide)) (by rfl) T.g_Table T.b_Table_init .nil pass0 (pa_cons (pe_op op_cat (pe_lc (own := [("k", 9)]) (g := gName 9) (tt := tYes) rfl S_law.nd (pi_range1 rfl T.z_range (pa_cons (pe_op op_sub (pe_op op_add (pe_ix (r := rIx T.C.K) ix_seq (pv 2) pe_int (fun _ _ => rfl)) (pe_ix (r := rIx T.C.K) ix_seq (pv 2) pe_int (fun _ _ => rfl))) pe_int) pa_nil)) (blkOk_by (own := [("k", 9)]) (N := N_law) (sc := defScope s_law) (by decide +kernel)) (fun _ _ _ _ _ => pg_name (i := 9) S_law.nd rfl (Or.inl rfl)) (fun _ _ _ _ _ => pts_nil) (fun _ _ _ _ _ => (pe_tup (pa_cons pe_int (pa_cons pe_int pa_nil))))) (pe_lst (pa_cons (pe_tup (pa_cons pe_int (pa_cons pe_int pa_nil))) pa_nil))) pa_nil)))
      (pss_cons (ps_if (pt_cmpR op_lt (pe_op op_add (pe_ix (r := rIx T.C.K) ix_seq (pv 2) pe_int (fun _ _ => rfl)) (pe_ix (r := rIx T.C.K) ix_seq (pv 2) pe_int (fun _ _ => rfl))) pe_int (nomark _)) (pss_one (ps_ret pe_bl)) pss_nil)
      (pss_cons (ps_for PassesOwn.never rfl (pi_range1 rfl T.z_range (pa_cons pe_int pa_nil)) (pg_name (i := 8) S_law.nd rfl (Or.inl rfl)) (pss_cons (ps_if (pt_cmpR (r := rNeD T.C.K) (op_neD hr.units) (pe_call G_law_refused (hr.mono (by decide)) (by rfl) T.g_law_refused T.F_law_refused.kp T.b_law_refused .nil pass0 (pa_cons (pv 8) (pa_cons (pv 7) (pa_cons (pe_tup (pa_cons pe_int (pa_cons pe_int pa_nil))) (pa_cons (pv 6) pa_nil))))) pe_int (nomark _)) (pss_one (ps_ret pe_bl)) pss_nil)
      (pss_one (ps_if (PW.pt (pw_and (pt_cmpR op_lt (pv 8) pe_int (nomark _)) (pw_and1 (pt_cmpR (r := rNeD T.C.K) (op_neD hr.units) (pe_call G_law_refused (hr.mono (by decide)) (by rfl) T.g_law_refused T.F_law_refused.kp T.b_law_refused .nil pass0 (pa_cons (pv 8) (pa_cons (pv 7) (pa_cons (pe_tup (pa_cons pe_int (pa_cons pe_int pa_nil))) (pa_cons (pv 6) pa_nil))))) pe_int (nomark _))))) (pss_one (ps_ret pe_bl)) pss_nil))))
      (pss_one (ps_ret pe_bl))))))))))))), ?_⟩
  rintro _ _ ⟨ns, rfl, hlen, rfl⟩
  change SD _ _ _ [.va (dS ns), .un, .un, .un, .un, .un, .un, .un, .un, .un] _
  obtain ⟨ch, b, hch, hg⟩ := drawn_good ns
  have hc1 := hg.hch.n1
  have hc20 := hg.hch.n20
  have hbb := lbegin_b ns (ages := (ch.length : Int)) (by omega)
  have r1 : rChances [dS ns] (ch.map pD) := ⟨ns, rfl, by rw [hch]⟩
  have r3 : rBegin [dS ns, dI ch.length] (dP (lage ns ch.length, lyears ns ch.length)) := ⟨ns, _, rfl, by omega, by omega, rfl⟩
  have r4 : rLRows [dS ns, dI (lyears ns ch.length)] ((lrows ns (lyears ns ch.length).toNat).map rD) := ⟨ns, _, rfl, by omega, by omega, rfl⟩
  have hrl := lrows_len ns (lyears ns ch.length).toNat
  have hpl := hg.good.pl
  walk_at "sx"
  refine sd_seq (sd_asg (d := dP (lage ns ch.length, lyears ns ch.length)) (xd_call (das := [dS ns, dI ch.length]) (ad_is (by walk_at "ad") (by rw [List.length_map])) r3) ?_)
  dsimp only [List.set]
  refine sd_seq (sd_asg (xl_xd (xl_call (das := [dS ns, dI (lyears ns ch.length)]) (by walk_at "ad") r4)) ?_)
  dsimp only [List.set]
  have w1 : rDraw [dS ns, dI 90] (dI (draw ns 90)) := ⟨_, _, rfl, by omega, by omega, rfl⟩
  have hcz := draw_ge ns 90
  walk_at "sx"
  clear r1 r3 r4 hg hch w1
  generalize lrows ns (lyears ns ch.length).toNat = rows at *
  generalize lage ns ch.length = a at *
  generalize lyears ns ch.length = y at *
  generalize draw ns 90 = c at *
  have hly : (rows.length : Int) = y := by omega
  have m0 := fm_ge (c / 9) (b := (rows.length : Int)) (by omega)
  have m1 := fm_lt (c / 9) (b := (rows.length : Int)) (by omega)
  have hpm : ((c / 9).fmod (rows.length : Int)).toNat < rows.length := by omega
  have r5 : rSpoil5 [dI a, .pd (.list (rows.map rD)), dI (c.fmod 9), dI (c / 9)] (.pd (.tuple [.int (spoil5 a rows (c.fmod 9) (c / 9)).1, .list ((spoil5 a rows (c.fmod 9) (c / 9)).2.map rowI)])) := ⟨_, _, _, _, rfl, by omega, by omega, rfl⟩
  have hbad : 1 ≤ c.fmod 9 ∧ c.fmod 9 ≤ 6 → PleBad (spoil5 a rows (c.fmod 9) (c / 9)).1 (spoil5 a rows (c.fmod 9) (c / 9)).2 := fun h => spoilB_bad hpm h.1 h.2
  have hlen5 : ∀ xs ∈ (spoil5 a rows (c.fmod 9) (c / 9)).2, xs.length ≤ 100 := spoilB_len hpm
  have hgd : ¬ (1 ≤ c.fmod 9 ∧ c.fmod 9 ≤ 6) → spoil5 a rows (c.fmod 9) (c / 9) = (a, rows.map rowZ) := fun h => spoilB_none h
  walk_at "sx"
  generalize spoil5 a rows (c.fmod 9) (c / 9) = sp at *
  by_cases hw : 1 ≤ c.fmod 9 ∧ c.fmod 9 ≤ 6
  · have q1 : (rXPle T.c_BadPledge) [dI sp.1, .pd (.list (sp.2.map rowI))] T.c_BadPledge := ⟨_, _, rfl, hlen5, hbad hw, rfl⟩
    have q2 : (rMade5 T.c_BadPledge) [dI sp.1, .pd (.list (sp.2.map rowI))] (.exc T.c_BadPledge) := ⟨_, _, rfl, .inr ⟨q1, rfl⟩⟩
    have q3 : (rAlone T.ex) [.exc T.c_BadPledge] (dI ((2 : Nat) : Int)) := ⟨2, T.c_BadPledge, rfl, rfl, rfl⟩
    refine sd_seq (sd_asg (d := .exc T.c_BadPledge) (xd_call (ad_cons (xd_op (xd_var rfl) xd_int (rd_ixT rfl)) (ad_cons (xd_op (xd_var rfl) xd_int (rd_ixT rfl)) ad_nil)) q2) ?_)
    dsimp only [List.set]
    refine sd_seq (sd_if (b := true) (td_is (by walk_at "xt") (by rw [decide_eq_true hw.1, decide_eq_true hw.2]; rfl)) (fun _ => sd_ret (xd_is (by walk_at "xd") (by rfl)) rfl) (fun hb => absurd hb (by decide)))
  have hsp := hgd hw
  subst hsp
  have q1 : rPleMk [dI a, .pd (.list ((rows.map rowZ).map rowI))] (.ple a rows) := ⟨a, rows, rL, by rw [rowI_Z], .inr rfl, hpl, rfl⟩
  have q2 : (rMade5 T.c_BadPledge) [dI a, .pd (.list ((rows.map rowZ).map rowI))] (.ple a rows) := ⟨_, _, rfl, .inl q1⟩
  refine sd_seq (sd_asg (d := .ple a rows) (xd_call (ad_cons (xd_op (xd_var rfl) xd_int (rd_ixT rfl)) (ad_cons (xd_op (xd_var rfl) xd_int (rd_ixT rfl)) ad_nil)) q2) ?_)
  dsimp only [List.set]
  refine sd_seq (sd_if (b := false) (td_is (by walk_at "xt") (by rw [← Bool.decide_and]; exact decide_eq_false hw)) (fun hb => absurd hb (by decide)) (fun _ => sd_next ?_))
  have q3 : rKept [dS ns, dI a, .pd (.list (rows.map rD))] (dB true) := ⟨ns, a, rows, rfl, hpl, rfl⟩
  refine sd_seq (sd_if (b := false) (td_is (td_or (k := false) (k' := false) (td_is (td_not (td_test (xd_isP T.cl_Pledge T.xa_Pledge T.ev_n T.ev_t T.xo_Pledge (xd_var rfl)))) (by rfl)) fun _ => td_is (by walk_at "xt") (by rfl)) (by rfl)) (fun hb => absurd hb (by decide)) (fun _ => sd_next ?_))
  have r6 : rTabMk [.pd (.list ((lch ((a + y - 2).toNat + 1)).map pD))] (dT ((lch ((a + y - 2).toNat + 1)).map vq)) := ⟨1, _, rfl, lch_ok (by omega) (by omega), rfl⟩
  refine sd_seq (sd_asg (d := dT ((lch ((a + y - 2).toNat + 1)).map vq)) (xd_make (das := [.pd (.list ((lch ((a + y - 2).toNat + 1)).map pD))]) (ad_is (ad_cons (xl_xd (xl_cat (xl_lc (List.range (a + y - 2).toNat) (fun (k : Nat) => PyData.int (k : Int)) (fun _ => pD (0, 1)) rfl (by rw [List.length_range]; omega) (id_rng1' (m := a + y - 2) (by walk_at "ad") (by omega) (by omega)) (fun k hk => by walk_at "xd")) (xl_lst (ap_cons (by walk_at "xd") ap_nil) (Nat.le_of_ble_eq_true rfl)) (by rw [List.length_map, List.length_range]; show (a + y - 2).toNat + 1 ≤ 100000; omega))) ad_nil) ?_) r6) ?_)
  · unfold lch
    rw [map_const_range, List.map_append, List.map_replicate, Nat.add_sub_cancel]
    rfl
  dsimp only [List.set]
  refine sd_seq (sd_if (by walk_at "xt") (fun hb => sd_ret (by walk_at "xd") rfl) (fun hb => sd_next ?_))
  have hs2 : 2 ≤ a + y := by
    have := of_decide_eq_false hb
    have h : ¬ (a + y < 2) := this
    omega
  have hsl := short_len hs2
  generalize (lch ((a + y - 2).toNat + 1)).map vq = qs at *
  have hlt : (qs.length : Int) < a + rows.length := by omega
  have hfit : RateFit (1, 2) := ⟨2, ⟨by decide, by decide, by decide, by decide⟩, by decide⟩
  have hrb : RateBad (2, 1) := by unfold RateBad; decide
  have x1 : rXSee T.c_BadRate T.c_BadPledge [dT qs, dP (1, 2), .ple a rows] T.c_BadPledge := ⟨_, _, _, _, rfl, .inr ⟨hfit, hlt, rfl⟩⟩
  have x2 : rXSee T.c_BadRate T.c_BadPledge [dT qs, dP (2, 1), .ple a rows] T.c_BadRate := ⟨_, _, _, _, rfl, .inl ⟨hrb, rfl⟩⟩
  refine sd_seq (sd_for (List.range 8) (fun (k : Nat) => PyData.int (k : Int)) (id_rng1 (n := 8) (by walk_at "ad") (by omega)) (fun i ds1 => ∃ z, ds1 = [.va (dS ns), .va (.pd (.list (ch.map pD))), .va (dP (a, y)), .va (.pd (.list (rows.map rD))), .va (dI c), .va (.pd (.tuple [.int a, .list ((rows.map rowZ).map rowI)])), .va (.ple a rows), .va (dT qs), z, .un]) ⟨_, rfl⟩ ?_ ?_)
  · rintro i k ds1 hi ⟨z, rfl⟩
    have hk : k < 8 := List.mem_range.mp (getE_mem hi)
    refine ⟨_, gd_name, ?_⟩
    dsimp only [List.set]
    have u1 : (rRef5 T.c_BadRate T.c_BadPledge T.ex) [dI (k : Int), dT qs, dP (1, 2), .ple a rows] (dI ((2 : Nat) : Int)) := ⟨_, _, _, _, _, rfl, T.c_BadPledge, 2, by omega, by omega, x1, fun _ => ⟨hlt, rfl⟩, rfl, rfl⟩
    refine sd_seq (sd_if (b := false) (td_is (by walk_at "xt") (by rfl)) (fun hb => absurd hb (by decide)) (fun _ => sd_next ?_))
    by_cases h7 : k < 7
    · have u2 : (rRef5 T.c_BadRate T.c_BadPledge T.ex) [dI (k : Int), dT qs, dP (2, 1), .ple a rows] (dI ((1 : Nat) : Int)) := ⟨_, _, _, _, _, rfl, T.c_BadRate, 1, by omega, by omega, x2, fun e => absurd e (by omega), rfl, rfl⟩
      refine sd_if (b := false) (td_is (td_and (k' := false) (by walk_at "xt") fun _ => td_is (by walk_at "xt") (by rfl)) (by rw [Bool.and_false])) (fun hb => absurd hb (by decide)) (fun _ => sd_next ⟨_, rfl⟩)
    · exact sd_if (b := false) (td_is (td_and (k' := false) (by walk_at "xt") fun hb => absurd (of_decide_eq_true hb) (by omega)) (by rw [Bool.and_false])) (fun hb => absurd hb (by decide)) (fun _ => sd_next ⟨_, rfl⟩)
  · rintro ds1 ⟨z, rfl⟩
    exact sd_ret (by walk_at "xd") rfl
theorem ok_all {P : Program} {w : World} {K : PySem.W.Frag} {mg : Str → Option Value} {base : Heap} (T : Tp K mg) : FnOk P w K mg base CX0 9 T.f_law T.d_law ["script"] (Yp.spLaw K) := (ok_law T).imp (law_imp (C := T.C))
theorem all_mk {l : PySem.W.OpenLaw} {w : World} {K : PySem.W.Frag} {h : Heap} {mg : Str → Option Value} {fa c_PledgeError c_BadTable c_BadRate c_BadPledge c_NoYear c_BadCount c_Pledge c_Table f_Pledge_init f_Pledge_years f_see_fits f_common f_part f_plus f_less f_times f_over f_summed f_Table_init f_Table_ages f_Table_dies f_Table_lives f_rate_of f_later f_see f_outgo f_income f_see_year f_need f_held f_fair_due f_loss_at f_ends f_fewest f_book f_law_cell_at f_law_draw f_law_whole f_law_chances f_law_rows f_law_begin f_law_alone f_law_spoiled f_law_made f_law_refused f_law_kept f_law : Addr} (X : K.In h) (G : h.Ns mainGlobals mg) (hfa : mg "law" = some (.ref fa))
    {od_Pledge_init an_Pledge_init od_Pledge_years an_Pledge_years od_see_fits an_see_fits od_common an_common od_part an_part od_plus an_plus od_less an_less od_times an_times od_over an_over od_summed an_summed od_Table_init an_Table_init od_Table_ages an_Table_ages od_Table_dies an_Table_dies od_Table_lives an_Table_lives od_rate_of an_rate_of od_later an_later od_see an_see od_outgo an_outgo od_income an_income od_see_year an_see_year od_need an_need od_held an_held od_fair_due an_fair_due od_loss_at an_loss_at od_ends an_ends od_fewest an_fewest od_book an_book od_law_cell_at an_law_cell_at od_law_draw an_law_draw od_law_whole an_law_whole od_law_chances an_law_chances od_law_rows an_law_rows od_law_begin an_law_begin od_law_alone an_law_alone od_law_spoiled an_law_spoiled od_law_made an_law_made od_law_refused an_law_refused od_law_kept an_law_kept od_law an_law : Option Addr} {sl_Pledge_init sl_Pledge_years sl_see_fits sl_common sl_part sl_plus sl_less sl_times sl_over sl_summed sl_Table_init sl_Table_ages sl_Table_dies sl_Table_lives sl_rate_of sl_later sl_see sl_outgo sl_income sl_see_year sl_need sl_held sl_fair_due sl_loss_at sl_ends sl_fewest sl_book sl_law_cell_at sl_law_draw sl_law_whole sl_law_chances sl_law_rows sl_law_begin sl_law_alone sl_law_spoiled sl_law_made sl_law_refused sl_law_kept sl_law : Array (Option Value)} {oc_Pledge_init kV_Pledge_init dc_Pledge_init pm_Pledge_init cd_Pledge_init ct_Pledge_init oc_Pledge_years kV_Pledge_years dc_Pledge_years pm_Pledge_years cd_Pledge_years ct_Pledge_years oc_see_fits kV_see_fits dc_see_fits pm_see_fits cd_see_fits ct_see_fits oc_common kV_common dc_common pm_common cd_common ct_common oc_part kV_part dc_part pm_part cd_part ct_part oc_plus kV_plus dc_plus pm_plus cd_plus ct_plus oc_less kV_less dc_less pm_less cd_less ct_less oc_times kV_times dc_times pm_times cd_times ct_times oc_over kV_over dc_over pm_over cd_over ct_over oc_summed kV_summed dc_summed pm_summed cd_summed ct_summed oc_Table_init kV_Table_init dc_Table_init pm_Table_init cd_Table_init ct_Table_init oc_Table_ages kV_Table_ages dc_Table_ages pm_Table_ages cd_Table_ages ct_Table_ages oc_Table_dies kV_Table_dies dc_Table_dies pm_Table_dies cd_Table_dies ct_Table_dies oc_Table_lives kV_Table_lives dc_Table_lives pm_Table_lives cd_Table_lives ct_Table_lives oc_rate_of kV_rate_of dc_rate_of pm_rate_of cd_rate_of ct_rate_of oc_later kV_later dc_later pm_later cd_later ct_later oc_see kV_see dc_see pm_see cd_see ct_see oc_outgo kV_outgo dc_outgo pm_outgo cd_outgo ct_outgo oc_income kV_income dc_income pm_income cd_income ct_income oc_see_year kV_see_year dc_see_year pm_see_year cd_see_year ct_see_year oc_need kV_need dc_need pm_need cd_need ct_need oc_held kV_held dc_held pm_held cd_held ct_held oc_fair_due kV_fair_due dc_fair_due pm_fair_due cd_fair_due ct_fair_due oc_loss_at kV_loss_at dc_loss_at pm_loss_at cd_loss_at ct_loss_at oc_ends kV_ends dc_ends pm_ends cd_ends ct_ends oc_fewest kV_fewest dc_fewest pm_fewest cd_fewest ct_fewest oc_book kV_book dc_book pm_book cd_book ct_book oc_law_cell_at kV_law_cell_at dc_law_cell_at pm_law_cell_at cd_law_cell_at ct_law_cell_at oc_law_draw kV_law_draw dc_law_draw pm_law_draw cd_law_draw ct_law_draw oc_law_whole kV_law_whole dc_law_whole pm_law_whole cd_law_whole ct_law_whole oc_law_chances kV_law_chances dc_law_chances pm_law_chances cd_law_chances ct_law_chances oc_law_rows kV_law_rows dc_law_rows pm_law_rows cd_law_rows ct_law_rows oc_law_begin kV_law_begin dc_law_begin pm_law_begin cd_law_begin ct_law_begin oc_law_alone kV_law_alone dc_law_alone pm_law_alone cd_law_alone ct_law_alone oc_law_spoiled kV_law_spoiled dc_law_spoiled pm_law_spoiled cd_law_spoiled ct_law_spoiled oc_law_made kV_law_made dc_law_made pm_law_made cd_law_made ct_law_made oc_law_refused kV_law_refused dc_law_refused pm_law_refused cd_law_refused ct_law_refused oc_law_kept kV_law_kept dc_law_kept pm_law_kept cd_law_kept ct_law_kept oc_law kV_law dc_law pm_law cd_law ct_law : Value}
    {t_COINS t_MOST : Tok}
    (a_PledgeError : PySem.W.nsIn K mainGlobals "PledgeError" = some (some (.ref c_PledgeError)))
    (x_PledgeError : PySem.W.excIn K c_PledgeError [.type "ValueError", .type "Exception", .type "BaseException", .type "object"] "ValueError.__new__" = true)
    (k_PledgeError : PySem.W.keepIn K (.ref c_PledgeError) = true)
    (bb_PledgeError : PySem.W.subIn K (.ref c_PledgeError) (.type "BaseException") = some true)
    (tt_PledgeError : PySem.W.typeIn K (.ref c_PledgeError) = some (.type "type"))
    (hd_PledgeError : PySem.W.hasDictIn K c_PledgeError = true) (ev_n : PySem.W.specialIn K (.builtin "object.__class__") "__get__" = some (some (.builtin "getset_descriptor.__get__"))) (ev_t : PySem.W.takesIn K (.builtin "object.__class__") = some true)
    (a_BadTable : PySem.W.nsIn K mainGlobals "BadTable" = some (some (.ref c_BadTable)))
    (x_BadTable : PySem.W.excIn K c_BadTable [.type "ValueError", .type "Exception", .type "BaseException", .type "object"] "ValueError.__new__" = true)
    (k_BadTable : PySem.W.keepIn K (.ref c_BadTable) = true)
    (bb_BadTable : PySem.W.subIn K (.ref c_BadTable) (.type "BaseException") = some true)
    (tt_BadTable : PySem.W.typeIn K (.ref c_BadTable) = some (.type "type"))
    (eg_BadTable : (PySem.W.findIn K (.ref c_BadTable) "__getattribute__" = some (some (.builtin "BaseException.__getattribute__"))))
    (ek_BadTable : (PySem.W.findIn K (.ref c_BadTable) "__getattr__" = some none))
    (ed_BadTable : (PySem.W.hasDictIn K c_BadTable = true))
    (ea_BadTable : (PySem.W.findIn K (.ref c_BadTable) "__class__" = some (some (.builtin "object.__class__"))))
    (eo_BadTable : (PySem.W.mroIn K c_BadTable (.type "object") = some true))
    (sp_BadTable : (PySem.W.subIn K (.ref c_BadTable) (.ref c_PledgeError) = some true))
    (a_BadRate : PySem.W.nsIn K mainGlobals "BadRate" = some (some (.ref c_BadRate)))
    (x_BadRate : PySem.W.excIn K c_BadRate [.type "ValueError", .type "Exception", .type "BaseException", .type "object"] "ValueError.__new__" = true)
    (k_BadRate : PySem.W.keepIn K (.ref c_BadRate) = true)
    (bb_BadRate : PySem.W.subIn K (.ref c_BadRate) (.type "BaseException") = some true)
    (tt_BadRate : PySem.W.typeIn K (.ref c_BadRate) = some (.type "type"))
    (eg_BadRate : (PySem.W.findIn K (.ref c_BadRate) "__getattribute__" = some (some (.builtin "BaseException.__getattribute__"))))
    (ek_BadRate : (PySem.W.findIn K (.ref c_BadRate) "__getattr__" = some none))
    (ed_BadRate : (PySem.W.hasDictIn K c_BadRate = true))
    (ea_BadRate : (PySem.W.findIn K (.ref c_BadRate) "__class__" = some (some (.builtin "object.__class__"))))
    (eo_BadRate : (PySem.W.mroIn K c_BadRate (.type "object") = some true))
    (sp_BadRate : (PySem.W.subIn K (.ref c_BadRate) (.ref c_PledgeError) = some true))
    (a_BadPledge : PySem.W.nsIn K mainGlobals "BadPledge" = some (some (.ref c_BadPledge)))
    (x_BadPledge : PySem.W.excIn K c_BadPledge [.type "ValueError", .type "Exception", .type "BaseException", .type "object"] "ValueError.__new__" = true)
    (k_BadPledge : PySem.W.keepIn K (.ref c_BadPledge) = true)
    (bb_BadPledge : PySem.W.subIn K (.ref c_BadPledge) (.type "BaseException") = some true)
    (tt_BadPledge : PySem.W.typeIn K (.ref c_BadPledge) = some (.type "type"))
    (eg_BadPledge : (PySem.W.findIn K (.ref c_BadPledge) "__getattribute__" = some (some (.builtin "BaseException.__getattribute__"))))
    (ek_BadPledge : (PySem.W.findIn K (.ref c_BadPledge) "__getattr__" = some none))
    (ed_BadPledge : (PySem.W.hasDictIn K c_BadPledge = true))
    (ea_BadPledge : (PySem.W.findIn K (.ref c_BadPledge) "__class__" = some (some (.builtin "object.__class__"))))
    (eo_BadPledge : (PySem.W.mroIn K c_BadPledge (.type "object") = some true))
    (sp_BadPledge : (PySem.W.subIn K (.ref c_BadPledge) (.ref c_PledgeError) = some true))
    (a_NoYear : PySem.W.nsIn K mainGlobals "NoYear" = some (some (.ref c_NoYear)))
    (x_NoYear : PySem.W.excIn K c_NoYear [.type "ValueError", .type "Exception", .type "BaseException", .type "object"] "ValueError.__new__" = true)
    (k_NoYear : PySem.W.keepIn K (.ref c_NoYear) = true)
    (bb_NoYear : PySem.W.subIn K (.ref c_NoYear) (.type "BaseException") = some true)
    (tt_NoYear : PySem.W.typeIn K (.ref c_NoYear) = some (.type "type"))
    (eg_NoYear : (PySem.W.findIn K (.ref c_NoYear) "__getattribute__" = some (some (.builtin "BaseException.__getattribute__"))))
    (ek_NoYear : (PySem.W.findIn K (.ref c_NoYear) "__getattr__" = some none))
    (ed_NoYear : (PySem.W.hasDictIn K c_NoYear = true))
    (ea_NoYear : (PySem.W.findIn K (.ref c_NoYear) "__class__" = some (some (.builtin "object.__class__"))))
    (eo_NoYear : (PySem.W.mroIn K c_NoYear (.type "object") = some true))
    (sp_NoYear : (PySem.W.subIn K (.ref c_NoYear) (.ref c_PledgeError) = some true))
    (a_BadCount : PySem.W.nsIn K mainGlobals "BadCount" = some (some (.ref c_BadCount)))
    (x_BadCount : PySem.W.excIn K c_BadCount [.type "ValueError", .type "Exception", .type "BaseException", .type "object"] "ValueError.__new__" = true)
    (k_BadCount : PySem.W.keepIn K (.ref c_BadCount) = true)
    (bb_BadCount : PySem.W.subIn K (.ref c_BadCount) (.type "BaseException") = some true)
    (tt_BadCount : PySem.W.typeIn K (.ref c_BadCount) = some (.type "type"))
    (eg_BadCount : (PySem.W.findIn K (.ref c_BadCount) "__getattribute__" = some (some (.builtin "BaseException.__getattribute__"))))
    (ek_BadCount : (PySem.W.findIn K (.ref c_BadCount) "__getattr__" = some none))
    (ed_BadCount : (PySem.W.hasDictIn K c_BadCount = true))
    (ea_BadCount : (PySem.W.findIn K (.ref c_BadCount) "__class__" = some (some (.builtin "object.__class__"))))
    (eo_BadCount : (PySem.W.mroIn K c_BadCount (.type "object") = some true))
    (sp_BadCount : (PySem.W.subIn K (.ref c_BadCount) (.ref c_PledgeError) = some true))
    (a_Pledge : PySem.W.nsIn K mainGlobals "Pledge" = some (some (.ref c_Pledge)))
    (pg_Pledge : PySem.W.plainGet K c_Pledge Str.empty = true) (hd_Pledge : PySem.W.hasDictIn K c_Pledge = true) (po_Pledge : PySem.W.plainOver K c_Pledge = true) (sa_Pledge : PySem.W.findIn K (.ref c_Pledge) "__setattr__" = some (some (.builtin "object.__setattr__"))) (mk_Pledge : PySem.W.makesIn K c_Pledge = true) (kc_Pledge : PySem.W.keepIn K (.ref c_Pledge) = true)
    (xa_Pledge : PySem.W.findIn K (.ref c_Pledge) "__class__" = some (some (.builtin "object.__class__")))
    (xo_Pledge : PySem.W.mroIn K c_Pledge (.type "object") = some true)
    (n_age : PySem.W.findIn K (.ref c_Pledge) "age" = some none)
    (n_rows : PySem.W.findIn K (.ref c_Pledge) "rows" = some none)
    (a_Table : PySem.W.nsIn K mainGlobals "Table" = some (some (.ref c_Table)))
    (pg_Table : PySem.W.plainGet K c_Table Str.empty = true) (hd_Table : PySem.W.hasDictIn K c_Table = true) (po_Table : PySem.W.plainOver K c_Table = true) (sa_Table : PySem.W.findIn K (.ref c_Table) "__setattr__" = some (some (.builtin "object.__setattr__"))) (mk_Table : PySem.W.makesIn K c_Table = true) (kc_Table : PySem.W.keepIn K (.ref c_Table) = true)
    (n_chances : PySem.W.findIn K (.ref c_Table) "chances" = some none)
    (a_Pledge_init : PySem.W.findIn K (.ref c_Pledge) "__init__" = some (some (.ref f_Pledge_init))) (i_Pledge_init : PySem.W.isFn K (.ref f_Pledge_init) = true)
    (l_Pledge_init : K.lookup f_Pledge_init = some ⟨oc_Pledge_init, od_Pledge_init, .func (PySem.W.fnOf "__init__" "Pledge.__init__" (defArgs s_Pledge_init) (defBody s_Pledge_init) (defScope s_Pledge_init) .none kV_Pledge_init dc_Pledge_init pm_Pledge_init an_Pledge_init cd_Pledge_init ct_Pledge_init), sl_Pledge_init⟩) (co_Pledge_init : PySem.W.codeIn K cd_Pledge_init "Pledge.__init__" = true) (k_Pledge_init : PySem.W.keepIn K (.ref f_Pledge_init) = true)
    (a_Pledge_years : PySem.W.findIn K (.ref c_Pledge) "years" = some (some (.ref f_Pledge_years))) (i_Pledge_years : PySem.W.isFn K (.ref f_Pledge_years) = true)
    (l_Pledge_years : K.lookup f_Pledge_years = some ⟨oc_Pledge_years, od_Pledge_years, .func (PySem.W.fnOf "years" "Pledge.years" (defArgs s_Pledge_years) (defBody s_Pledge_years) (defScope s_Pledge_years) .none kV_Pledge_years dc_Pledge_years pm_Pledge_years an_Pledge_years cd_Pledge_years ct_Pledge_years), sl_Pledge_years⟩) (co_Pledge_years : PySem.W.codeIn K cd_Pledge_years "Pledge.years" = true) (k_Pledge_years : PySem.W.keepIn K (.ref f_Pledge_years) = true)
    (a_see_fits : PySem.W.nsIn K mainGlobals "see_fits" = some (some (.ref f_see_fits)))
    (l_see_fits : K.lookup f_see_fits = some ⟨oc_see_fits, od_see_fits, .func (PySem.W.fnOf "see_fits" "see_fits" (defArgs s_see_fits) (defBody s_see_fits) (defScope s_see_fits) .none kV_see_fits dc_see_fits pm_see_fits an_see_fits cd_see_fits ct_see_fits), sl_see_fits⟩) (co_see_fits : PySem.W.codeIn K cd_see_fits "see_fits" = true) (k_see_fits : PySem.W.keepIn K (.ref f_see_fits) = true)
    (a_common : PySem.W.nsIn K mainGlobals "common" = some (some (.ref f_common)))
    (l_common : K.lookup f_common = some ⟨oc_common, od_common, .func (PySem.W.fnOf "common" "common" (defArgs s_common) (defBody s_common) (defScope s_common) .none kV_common dc_common pm_common an_common cd_common ct_common), sl_common⟩) (co_common : PySem.W.codeIn K cd_common "common" = true) (k_common : PySem.W.keepIn K (.ref f_common) = true)
    (a_part : PySem.W.nsIn K mainGlobals "part" = some (some (.ref f_part)))
    (l_part : K.lookup f_part = some ⟨oc_part, od_part, .func (PySem.W.fnOf "part" "part" (defArgs s_part) (defBody s_part) (defScope s_part) .none kV_part dc_part pm_part an_part cd_part ct_part), sl_part⟩) (co_part : PySem.W.codeIn K cd_part "part" = true) (k_part : PySem.W.keepIn K (.ref f_part) = true)
    (a_plus : PySem.W.nsIn K mainGlobals "plus" = some (some (.ref f_plus)))
    (l_plus : K.lookup f_plus = some ⟨oc_plus, od_plus, .func (PySem.W.fnOf "plus" "plus" (defArgs s_plus) (defBody s_plus) (defScope s_plus) .none kV_plus dc_plus pm_plus an_plus cd_plus ct_plus), sl_plus⟩) (co_plus : PySem.W.codeIn K cd_plus "plus" = true) (k_plus : PySem.W.keepIn K (.ref f_plus) = true)
    (a_less : PySem.W.nsIn K mainGlobals "less" = some (some (.ref f_less)))
    (l_less : K.lookup f_less = some ⟨oc_less, od_less, .func (PySem.W.fnOf "less" "less" (defArgs s_less) (defBody s_less) (defScope s_less) .none kV_less dc_less pm_less an_less cd_less ct_less), sl_less⟩) (co_less : PySem.W.codeIn K cd_less "less" = true) (k_less : PySem.W.keepIn K (.ref f_less) = true)
    (a_times : PySem.W.nsIn K mainGlobals "times" = some (some (.ref f_times)))
    (l_times : K.lookup f_times = some ⟨oc_times, od_times, .func (PySem.W.fnOf "times" "times" (defArgs s_times) (defBody s_times) (defScope s_times) .none kV_times dc_times pm_times an_times cd_times ct_times), sl_times⟩) (co_times : PySem.W.codeIn K cd_times "times" = true) (k_times : PySem.W.keepIn K (.ref f_times) = true)
    (a_over : PySem.W.nsIn K mainGlobals "over" = some (some (.ref f_over)))
    (l_over : K.lookup f_over = some ⟨oc_over, od_over, .func (PySem.W.fnOf "over" "over" (defArgs s_over) (defBody s_over) (defScope s_over) .none kV_over dc_over pm_over an_over cd_over ct_over), sl_over⟩) (co_over : PySem.W.codeIn K cd_over "over" = true) (k_over : PySem.W.keepIn K (.ref f_over) = true)
    (a_summed : PySem.W.nsIn K mainGlobals "summed" = some (some (.ref f_summed)))
    (l_summed : K.lookup f_summed = some ⟨oc_summed, od_summed, .func (PySem.W.fnOf "summed" "summed" (defArgs s_summed) (defBody s_summed) (defScope s_summed) .none kV_summed dc_summed pm_summed an_summed cd_summed ct_summed), sl_summed⟩) (co_summed : PySem.W.codeIn K cd_summed "summed" = true) (k_summed : PySem.W.keepIn K (.ref f_summed) = true)
    (a_Table_init : PySem.W.findIn K (.ref c_Table) "__init__" = some (some (.ref f_Table_init))) (i_Table_init : PySem.W.isFn K (.ref f_Table_init) = true)
    (l_Table_init : K.lookup f_Table_init = some ⟨oc_Table_init, od_Table_init, .func (PySem.W.fnOf "__init__" "Table.__init__" (defArgs s_Table_init) (defBody s_Table_init) (defScope s_Table_init) .none kV_Table_init dc_Table_init pm_Table_init an_Table_init cd_Table_init ct_Table_init), sl_Table_init⟩) (co_Table_init : PySem.W.codeIn K cd_Table_init "Table.__init__" = true) (k_Table_init : PySem.W.keepIn K (.ref f_Table_init) = true)
    (a_Table_ages : PySem.W.findIn K (.ref c_Table) "ages" = some (some (.ref f_Table_ages))) (i_Table_ages : PySem.W.isFn K (.ref f_Table_ages) = true)
    (l_Table_ages : K.lookup f_Table_ages = some ⟨oc_Table_ages, od_Table_ages, .func (PySem.W.fnOf "ages" "Table.ages" (defArgs s_Table_ages) (defBody s_Table_ages) (defScope s_Table_ages) .none kV_Table_ages dc_Table_ages pm_Table_ages an_Table_ages cd_Table_ages ct_Table_ages), sl_Table_ages⟩) (co_Table_ages : PySem.W.codeIn K cd_Table_ages "Table.ages" = true) (k_Table_ages : PySem.W.keepIn K (.ref f_Table_ages) = true)
    (a_Table_dies : PySem.W.findIn K (.ref c_Table) "dies" = some (some (.ref f_Table_dies))) (i_Table_dies : PySem.W.isFn K (.ref f_Table_dies) = true)
    (l_Table_dies : K.lookup f_Table_dies = some ⟨oc_Table_dies, od_Table_dies, .func (PySem.W.fnOf "dies" "Table.dies" (defArgs s_Table_dies) (defBody s_Table_dies) (defScope s_Table_dies) .none kV_Table_dies dc_Table_dies pm_Table_dies an_Table_dies cd_Table_dies ct_Table_dies), sl_Table_dies⟩) (co_Table_dies : PySem.W.codeIn K cd_Table_dies "Table.dies" = true) (k_Table_dies : PySem.W.keepIn K (.ref f_Table_dies) = true)
    (a_Table_lives : PySem.W.findIn K (.ref c_Table) "lives" = some (some (.ref f_Table_lives))) (i_Table_lives : PySem.W.isFn K (.ref f_Table_lives) = true)
    (l_Table_lives : K.lookup f_Table_lives = some ⟨oc_Table_lives, od_Table_lives, .func (PySem.W.fnOf "lives" "Table.lives" (defArgs s_Table_lives) (defBody s_Table_lives) (defScope s_Table_lives) .none kV_Table_lives dc_Table_lives pm_Table_lives an_Table_lives cd_Table_lives ct_Table_lives), sl_Table_lives⟩) (co_Table_lives : PySem.W.codeIn K cd_Table_lives "Table.lives" = true) (k_Table_lives : PySem.W.keepIn K (.ref f_Table_lives) = true)
    (a_rate_of : PySem.W.nsIn K mainGlobals "rate_of" = some (some (.ref f_rate_of)))
    (l_rate_of : K.lookup f_rate_of = some ⟨oc_rate_of, od_rate_of, .func (PySem.W.fnOf "rate_of" "rate_of" (defArgs s_rate_of) (defBody s_rate_of) (defScope s_rate_of) .none kV_rate_of dc_rate_of pm_rate_of an_rate_of cd_rate_of ct_rate_of), sl_rate_of⟩) (co_rate_of : PySem.W.codeIn K cd_rate_of "rate_of" = true) (k_rate_of : PySem.W.keepIn K (.ref f_rate_of) = true)
    (a_later : PySem.W.nsIn K mainGlobals "later" = some (some (.ref f_later)))
    (l_later : K.lookup f_later = some ⟨oc_later, od_later, .func (PySem.W.fnOf "later" "later" (defArgs s_later) (defBody s_later) (defScope s_later) .none kV_later dc_later pm_later an_later cd_later ct_later), sl_later⟩) (co_later : PySem.W.codeIn K cd_later "later" = true) (k_later : PySem.W.keepIn K (.ref f_later) = true)
    (a_see : PySem.W.nsIn K mainGlobals "see" = some (some (.ref f_see)))
    (l_see : K.lookup f_see = some ⟨oc_see, od_see, .func (PySem.W.fnOf "see" "see" (defArgs s_see) (defBody s_see) (defScope s_see) .none kV_see dc_see pm_see an_see cd_see ct_see), sl_see⟩) (co_see : PySem.W.codeIn K cd_see "see" = true) (k_see : PySem.W.keepIn K (.ref f_see) = true)
    (a_outgo : PySem.W.nsIn K mainGlobals "outgo" = some (some (.ref f_outgo)))
    (l_outgo : K.lookup f_outgo = some ⟨oc_outgo, od_outgo, .func (PySem.W.fnOf "outgo" "outgo" (defArgs s_outgo) (defBody s_outgo) (defScope s_outgo) .none kV_outgo dc_outgo pm_outgo an_outgo cd_outgo ct_outgo), sl_outgo⟩) (co_outgo : PySem.W.codeIn K cd_outgo "outgo" = true) (k_outgo : PySem.W.keepIn K (.ref f_outgo) = true)
    (a_income : PySem.W.nsIn K mainGlobals "income" = some (some (.ref f_income)))
    (l_income : K.lookup f_income = some ⟨oc_income, od_income, .func (PySem.W.fnOf "income" "income" (defArgs s_income) (defBody s_income) (defScope s_income) .none kV_income dc_income pm_income an_income cd_income ct_income), sl_income⟩) (co_income : PySem.W.codeIn K cd_income "income" = true) (k_income : PySem.W.keepIn K (.ref f_income) = true)
    (a_see_year : PySem.W.nsIn K mainGlobals "see_year" = some (some (.ref f_see_year)))
    (l_see_year : K.lookup f_see_year = some ⟨oc_see_year, od_see_year, .func (PySem.W.fnOf "see_year" "see_year" (defArgs s_see_year) (defBody s_see_year) (defScope s_see_year) .none kV_see_year dc_see_year pm_see_year an_see_year cd_see_year ct_see_year), sl_see_year⟩) (co_see_year : PySem.W.codeIn K cd_see_year "see_year" = true) (k_see_year : PySem.W.keepIn K (.ref f_see_year) = true)
    (a_need : PySem.W.nsIn K mainGlobals "need" = some (some (.ref f_need)))
    (l_need : K.lookup f_need = some ⟨oc_need, od_need, .func (PySem.W.fnOf "need" "need" (defArgs s_need) (defBody s_need) (defScope s_need) .none kV_need dc_need pm_need an_need cd_need ct_need), sl_need⟩) (co_need : PySem.W.codeIn K cd_need "need" = true) (k_need : PySem.W.keepIn K (.ref f_need) = true)
    (a_held : PySem.W.nsIn K mainGlobals "held" = some (some (.ref f_held)))
    (l_held : K.lookup f_held = some ⟨oc_held, od_held, .func (PySem.W.fnOf "held" "held" (defArgs s_held) (defBody s_held) (defScope s_held) .none kV_held dc_held pm_held an_held cd_held ct_held), sl_held⟩) (co_held : PySem.W.codeIn K cd_held "held" = true) (k_held : PySem.W.keepIn K (.ref f_held) = true)
    (a_fair_due : PySem.W.nsIn K mainGlobals "fair_due" = some (some (.ref f_fair_due)))
    (l_fair_due : K.lookup f_fair_due = some ⟨oc_fair_due, od_fair_due, .func (PySem.W.fnOf "fair_due" "fair_due" (defArgs s_fair_due) (defBody s_fair_due) (defScope s_fair_due) .none kV_fair_due dc_fair_due pm_fair_due an_fair_due cd_fair_due ct_fair_due), sl_fair_due⟩) (co_fair_due : PySem.W.codeIn K cd_fair_due "fair_due" = true) (k_fair_due : PySem.W.keepIn K (.ref f_fair_due) = true)
    (a_loss_at : PySem.W.nsIn K mainGlobals "loss_at" = some (some (.ref f_loss_at)))
    (l_loss_at : K.lookup f_loss_at = some ⟨oc_loss_at, od_loss_at, .func (PySem.W.fnOf "loss_at" "loss_at" (defArgs s_loss_at) (defBody s_loss_at) (defScope s_loss_at) .none kV_loss_at dc_loss_at pm_loss_at an_loss_at cd_loss_at ct_loss_at), sl_loss_at⟩) (co_loss_at : PySem.W.codeIn K cd_loss_at "loss_at" = true) (k_loss_at : PySem.W.keepIn K (.ref f_loss_at) = true)
    (a_ends : PySem.W.nsIn K mainGlobals "ends" = some (some (.ref f_ends)))
    (l_ends : K.lookup f_ends = some ⟨oc_ends, od_ends, .func (PySem.W.fnOf "ends" "ends" (defArgs s_ends) (defBody s_ends) (defScope s_ends) .none kV_ends dc_ends pm_ends an_ends cd_ends ct_ends), sl_ends⟩) (co_ends : PySem.W.codeIn K cd_ends "ends" = true) (k_ends : PySem.W.keepIn K (.ref f_ends) = true)
    (a_fewest : PySem.W.nsIn K mainGlobals "fewest" = some (some (.ref f_fewest)))
    (l_fewest : K.lookup f_fewest = some ⟨oc_fewest, od_fewest, .func (PySem.W.fnOf "fewest" "fewest" (defArgs s_fewest) (defBody s_fewest) (defScope s_fewest) .none kV_fewest dc_fewest pm_fewest an_fewest cd_fewest ct_fewest), sl_fewest⟩) (co_fewest : PySem.W.codeIn K cd_fewest "fewest" = true) (k_fewest : PySem.W.keepIn K (.ref f_fewest) = true)
    (a_book : PySem.W.nsIn K mainGlobals "book" = some (some (.ref f_book)))
    (l_book : K.lookup f_book = some ⟨oc_book, od_book, .func (PySem.W.fnOf "book" "book" (defArgs s_book) (defBody s_book) (defScope s_book) .none kV_book dc_book pm_book an_book cd_book ct_book), sl_book⟩) (co_book : PySem.W.codeIn K cd_book "book" = true) (k_book : PySem.W.keepIn K (.ref f_book) = true)
    (a_law_cell_at : PySem.W.nsIn K mainGlobals "_law_cell_at" = some (some (.ref f_law_cell_at)))
    (l_law_cell_at : K.lookup f_law_cell_at = some ⟨oc_law_cell_at, od_law_cell_at, .func (PySem.W.fnOf "_law_cell_at" "_law_cell_at" (defArgs s_law_cell_at) (defBody s_law_cell_at) (defScope s_law_cell_at) .none kV_law_cell_at dc_law_cell_at pm_law_cell_at an_law_cell_at cd_law_cell_at ct_law_cell_at), sl_law_cell_at⟩) (co_law_cell_at : PySem.W.codeIn K cd_law_cell_at "_law_cell_at" = true) (k_law_cell_at : PySem.W.keepIn K (.ref f_law_cell_at) = true)
    (a_law_draw : PySem.W.nsIn K mainGlobals "_law_draw" = some (some (.ref f_law_draw)))
    (l_law_draw : K.lookup f_law_draw = some ⟨oc_law_draw, od_law_draw, .func (PySem.W.fnOf "_law_draw" "_law_draw" (defArgs s_law_draw) (defBody s_law_draw) (defScope s_law_draw) .none kV_law_draw dc_law_draw pm_law_draw an_law_draw cd_law_draw ct_law_draw), sl_law_draw⟩) (co_law_draw : PySem.W.codeIn K cd_law_draw "_law_draw" = true) (k_law_draw : PySem.W.keepIn K (.ref f_law_draw) = true)
    (a_law_whole : PySem.W.nsIn K mainGlobals "_law_whole" = some (some (.ref f_law_whole)))
    (l_law_whole : K.lookup f_law_whole = some ⟨oc_law_whole, od_law_whole, .func (PySem.W.fnOf "_law_whole" "_law_whole" (defArgs s_law_whole) (defBody s_law_whole) (defScope s_law_whole) .none kV_law_whole dc_law_whole pm_law_whole an_law_whole cd_law_whole ct_law_whole), sl_law_whole⟩) (co_law_whole : PySem.W.codeIn K cd_law_whole "_law_whole" = true) (k_law_whole : PySem.W.keepIn K (.ref f_law_whole) = true)
    (a_law_chances : PySem.W.nsIn K mainGlobals "_law_chances" = some (some (.ref f_law_chances)))
    (l_law_chances : K.lookup f_law_chances = some ⟨oc_law_chances, od_law_chances, .func (PySem.W.fnOf "_law_chances" "_law_chances" (defArgs s_law_chances) (defBody s_law_chances) (defScope s_law_chances) .none kV_law_chances dc_law_chances pm_law_chances an_law_chances cd_law_chances ct_law_chances), sl_law_chances⟩) (co_law_chances : PySem.W.codeIn K cd_law_chances "_law_chances" = true) (k_law_chances : PySem.W.keepIn K (.ref f_law_chances) = true)
    (a_law_rows : PySem.W.nsIn K mainGlobals "_law_rows" = some (some (.ref f_law_rows)))
    (l_law_rows : K.lookup f_law_rows = some ⟨oc_law_rows, od_law_rows, .func (PySem.W.fnOf "_law_rows" "_law_rows" (defArgs s_law_rows) (defBody s_law_rows) (defScope s_law_rows) .none kV_law_rows dc_law_rows pm_law_rows an_law_rows cd_law_rows ct_law_rows), sl_law_rows⟩) (co_law_rows : PySem.W.codeIn K cd_law_rows "_law_rows" = true) (k_law_rows : PySem.W.keepIn K (.ref f_law_rows) = true)
    (a_law_begin : PySem.W.nsIn K mainGlobals "_law_begin" = some (some (.ref f_law_begin)))
    (l_law_begin : K.lookup f_law_begin = some ⟨oc_law_begin, od_law_begin, .func (PySem.W.fnOf "_law_begin" "_law_begin" (defArgs s_law_begin) (defBody s_law_begin) (defScope s_law_begin) .none kV_law_begin dc_law_begin pm_law_begin an_law_begin cd_law_begin ct_law_begin), sl_law_begin⟩) (co_law_begin : PySem.W.codeIn K cd_law_begin "_law_begin" = true) (k_law_begin : PySem.W.keepIn K (.ref f_law_begin) = true)
    (a_law_alone : PySem.W.nsIn K mainGlobals "_law_alone" = some (some (.ref f_law_alone)))
    (l_law_alone : K.lookup f_law_alone = some ⟨oc_law_alone, od_law_alone, .func (PySem.W.fnOf "_law_alone" "_law_alone" (defArgs s_law_alone) (defBody s_law_alone) (defScope s_law_alone) .none kV_law_alone dc_law_alone pm_law_alone an_law_alone cd_law_alone ct_law_alone), sl_law_alone⟩) (co_law_alone : PySem.W.codeIn K cd_law_alone "_law_alone" = true) (k_law_alone : PySem.W.keepIn K (.ref f_law_alone) = true)
    (a_law_spoiled : PySem.W.nsIn K mainGlobals "_law_spoiled" = some (some (.ref f_law_spoiled)))
    (l_law_spoiled : K.lookup f_law_spoiled = some ⟨oc_law_spoiled, od_law_spoiled, .func (PySem.W.fnOf "_law_spoiled" "_law_spoiled" (defArgs s_law_spoiled) (defBody s_law_spoiled) (defScope s_law_spoiled) .none kV_law_spoiled dc_law_spoiled pm_law_spoiled an_law_spoiled cd_law_spoiled ct_law_spoiled), sl_law_spoiled⟩) (co_law_spoiled : PySem.W.codeIn K cd_law_spoiled "_law_spoiled" = true) (k_law_spoiled : PySem.W.keepIn K (.ref f_law_spoiled) = true)
    (a_law_made : PySem.W.nsIn K mainGlobals "_law_made" = some (some (.ref f_law_made)))
    (l_law_made : K.lookup f_law_made = some ⟨oc_law_made, od_law_made, .func (PySem.W.fnOf "_law_made" "_law_made" (defArgs s_law_made) (defBody s_law_made) (defScope s_law_made) .none kV_law_made dc_law_made pm_law_made an_law_made cd_law_made ct_law_made), sl_law_made⟩) (co_law_made : PySem.W.codeIn K cd_law_made "_law_made" = true) (k_law_made : PySem.W.keepIn K (.ref f_law_made) = true)
    (a_law_refused : PySem.W.nsIn K mainGlobals "_law_refused" = some (some (.ref f_law_refused)))
    (l_law_refused : K.lookup f_law_refused = some ⟨oc_law_refused, od_law_refused, .func (PySem.W.fnOf "_law_refused" "_law_refused" (defArgs s_law_refused) (defBody s_law_refused) (defScope s_law_refused) .none kV_law_refused dc_law_refused pm_law_refused an_law_refused cd_law_refused ct_law_refused), sl_law_refused⟩) (co_law_refused : PySem.W.codeIn K cd_law_refused "_law_refused" = true) (k_law_refused : PySem.W.keepIn K (.ref f_law_refused) = true)
    (a_law_kept : PySem.W.nsIn K mainGlobals "_law_kept" = some (some (.ref f_law_kept)))
    (l_law_kept : K.lookup f_law_kept = some ⟨oc_law_kept, od_law_kept, .func (PySem.W.fnOf "_law_kept" "_law_kept" (defArgs s_law_kept) (defBody s_law_kept) (defScope s_law_kept) .none kV_law_kept dc_law_kept pm_law_kept an_law_kept cd_law_kept ct_law_kept), sl_law_kept⟩) (co_law_kept : PySem.W.codeIn K cd_law_kept "_law_kept" = true) (k_law_kept : PySem.W.keepIn K (.ref f_law_kept) = true)
    (a_law : PySem.W.nsIn K mainGlobals "law" = some (some (.ref f_law)))
    (l_law : K.lookup f_law = some ⟨oc_law, od_law, .func (PySem.W.fnOf "law" "law" (defArgs s_law) (defBody s_law) (defScope s_law) .none kV_law dc_law pm_law an_law cd_law ct_law), sl_law⟩) (co_law : PySem.W.codeIn K cd_law "law" = true) (k_law : PySem.W.keepIn K (.ref f_law) = true)
    (a_COINS : PySem.W.nsIn K mainGlobals "COINS" = some (some (.int 1000000 t_COINS)))
    (a_MOST : PySem.W.nsIn K mainGlobals "MOST" = some (some (.int 10000 t_MOST)))
    (z_ValueError : PySem.W.nsIn K mainGlobals "ValueError" = some none)
    (z_abs : PySem.W.nsIn K mainGlobals "abs" = some none)
    (z_bool : PySem.W.nsIn K mainGlobals "bool" = some none)
    (z_enumerate : PySem.W.nsIn K mainGlobals "enumerate" = some none)
    (z_int : PySem.W.nsIn K mainGlobals "int" = some none)
    (z_isinstance : PySem.W.nsIn K mainGlobals "isinstance" = some none)
    (z_len : PySem.W.nsIn K mainGlobals "len" = some none)
    (z_list : PySem.W.nsIn K mainGlobals "list" = some none)
    (z_min : PySem.W.nsIn K mainGlobals "min" = some none)
    (z_range : PySem.W.nsIn K mainGlobals "range" = some none)
    (z_tuple : PySem.W.nsIn K mainGlobals "tuple" = some none)
    (ki_BadTable_BadTable : PySem.W.kitOne K (.ref c_BadTable) (.ref c_BadTable) = some true)
    (ki_BadTable_BadRate : PySem.W.kitOne K (.ref c_BadTable) (.ref c_BadRate) = some false)
    (ki_BadTable_BadPledge : PySem.W.kitOne K (.ref c_BadTable) (.ref c_BadPledge) = some false)
    (ki_BadTable_NoYear : PySem.W.kitOne K (.ref c_BadTable) (.ref c_NoYear) = some false)
    (ki_BadTable_BadCount : PySem.W.kitOne K (.ref c_BadTable) (.ref c_BadCount) = some false)
    (ki_BadTable_PledgeError : PySem.W.kitOne K (.ref c_BadTable) (.ref c_PledgeError) = some true)
    (ki_BadTable_ValueError : PySem.W.kitOne K (.ref c_BadTable) (.type "ValueError") = some true)
    (ki_BadRate_BadTable : PySem.W.kitOne K (.ref c_BadRate) (.ref c_BadTable) = some false)
    (ki_BadRate_BadRate : PySem.W.kitOne K (.ref c_BadRate) (.ref c_BadRate) = some true)
    (ki_BadRate_BadPledge : PySem.W.kitOne K (.ref c_BadRate) (.ref c_BadPledge) = some false)
    (ki_BadRate_NoYear : PySem.W.kitOne K (.ref c_BadRate) (.ref c_NoYear) = some false)
    (ki_BadRate_BadCount : PySem.W.kitOne K (.ref c_BadRate) (.ref c_BadCount) = some false)
    (ki_BadRate_PledgeError : PySem.W.kitOne K (.ref c_BadRate) (.ref c_PledgeError) = some true)
    (ki_BadRate_ValueError : PySem.W.kitOne K (.ref c_BadRate) (.type "ValueError") = some true)
    (ki_BadPledge_BadTable : PySem.W.kitOne K (.ref c_BadPledge) (.ref c_BadTable) = some false)
    (ki_BadPledge_BadRate : PySem.W.kitOne K (.ref c_BadPledge) (.ref c_BadRate) = some false)
    (ki_BadPledge_BadPledge : PySem.W.kitOne K (.ref c_BadPledge) (.ref c_BadPledge) = some true)
    (ki_BadPledge_NoYear : PySem.W.kitOne K (.ref c_BadPledge) (.ref c_NoYear) = some false)
    (ki_BadPledge_BadCount : PySem.W.kitOne K (.ref c_BadPledge) (.ref c_BadCount) = some false)
    (ki_BadPledge_PledgeError : PySem.W.kitOne K (.ref c_BadPledge) (.ref c_PledgeError) = some true)
    (ki_BadPledge_ValueError : PySem.W.kitOne K (.ref c_BadPledge) (.type "ValueError") = some true)
    (ki_NoYear_BadTable : PySem.W.kitOne K (.ref c_NoYear) (.ref c_BadTable) = some false)
    (ki_NoYear_BadRate : PySem.W.kitOne K (.ref c_NoYear) (.ref c_BadRate) = some false)
    (ki_NoYear_BadPledge : PySem.W.kitOne K (.ref c_NoYear) (.ref c_BadPledge) = some false)
    (ki_NoYear_NoYear : PySem.W.kitOne K (.ref c_NoYear) (.ref c_NoYear) = some true)
    (ki_NoYear_BadCount : PySem.W.kitOne K (.ref c_NoYear) (.ref c_BadCount) = some false)
    (ki_NoYear_PledgeError : PySem.W.kitOne K (.ref c_NoYear) (.ref c_PledgeError) = some true)
    (ki_NoYear_ValueError : PySem.W.kitOne K (.ref c_NoYear) (.type "ValueError") = some true)
    (ki_BadCount_BadTable : PySem.W.kitOne K (.ref c_BadCount) (.ref c_BadTable) = some false)
    (ki_BadCount_BadRate : PySem.W.kitOne K (.ref c_BadCount) (.ref c_BadRate) = some false)
    (ki_BadCount_BadPledge : PySem.W.kitOne K (.ref c_BadCount) (.ref c_BadPledge) = some false)
    (ki_BadCount_NoYear : PySem.W.kitOne K (.ref c_BadCount) (.ref c_NoYear) = some false)
    (ki_BadCount_BadCount : PySem.W.kitOne K (.ref c_BadCount) (.ref c_BadCount) = some true)
    (ki_BadCount_PledgeError : PySem.W.kitOne K (.ref c_BadCount) (.ref c_PledgeError) = some true)
    (ki_BadCount_ValueError : PySem.W.kitOne K (.ref c_BadCount) (.type "ValueError") = some true)
    : ∃ fd : FuncData, (∀ (s : Shared) (v : Value), BindsTo s fd ⟨[v], []⟩ [("script", v)]) ∧ ∀ base : Heap, K.In base → base.Ns mainGlobals mg → FnOk l.prog w K mg base CX0 9 fa fd ["script"] (Yp.spLaw K) := by
  have e := hfa.symm.trans (PySem.W.mg_of X G a_law)
  cases e
  refine ⟨_, fun s v => .of_eq rfl, fun base _ _ => ok_all (T := ({
    c_PledgeError := c_PledgeError,
    g_PledgeError := PySem.W.mg_of X G a_PledgeError,
    x_PledgeError := x_PledgeError,
    k_PledgeError := k_PledgeError,
    bb_PledgeError := bb_PledgeError,
    tt_PledgeError := tt_PledgeError,
    c_BadTable := c_BadTable,
    g_BadTable := PySem.W.mg_of X G a_BadTable,
    x_BadTable := x_BadTable,
    k_BadTable := k_BadTable,
    bb_BadTable := bb_BadTable,
    tt_BadTable := tt_BadTable,
    c_BadRate := c_BadRate,
    g_BadRate := PySem.W.mg_of X G a_BadRate,
    x_BadRate := x_BadRate,
    k_BadRate := k_BadRate,
    bb_BadRate := bb_BadRate,
    tt_BadRate := tt_BadRate,
    c_BadPledge := c_BadPledge,
    g_BadPledge := PySem.W.mg_of X G a_BadPledge,
    x_BadPledge := x_BadPledge,
    k_BadPledge := k_BadPledge,
    bb_BadPledge := bb_BadPledge,
    tt_BadPledge := tt_BadPledge,
    c_NoYear := c_NoYear,
    g_NoYear := PySem.W.mg_of X G a_NoYear,
    x_NoYear := x_NoYear,
    k_NoYear := k_NoYear,
    bb_NoYear := bb_NoYear,
    tt_NoYear := tt_NoYear,
    c_BadCount := c_BadCount,
    g_BadCount := PySem.W.mg_of X G a_BadCount,
    x_BadCount := x_BadCount,
    k_BadCount := k_BadCount,
    bb_BadCount := bb_BadCount,
    tt_BadCount := tt_BadCount,
    c_Pledge := c_Pledge,
    g_Pledge := PySem.W.mg_of X G a_Pledge,
    cl_Pledge := ⟨pg_Pledge, hd_Pledge, po_Pledge, sa_Pledge⟩,
    xa_Pledge := xa_Pledge,
    xo_Pledge := xo_Pledge,
    n_age := n_age,
    n_rows := n_rows,
    c_Table := c_Table,
    g_Table := PySem.W.mg_of X G a_Table,
    cl_Table := ⟨pg_Table, hd_Table, po_Table, sa_Table⟩,
    n_chances := n_chances,
    f_Pledge_init := f_Pledge_init,
    d_Pledge_init := _,
    F_Pledge_init := fun_mk (st := s_Pledge_init) l_Pledge_init co_Pledge_init k_Pledge_init,
    b_Pledge_init := ((fun_mk (st := s_Pledge_init) l_Pledge_init co_Pledge_init k_Pledge_init).binds (ps := ["self", "age", "rows"]) fun _ _ _ _ _ _ us hl => match us, hl with | [_, _, _], _ => rfl),
    mk_Pledge := ⟨mk_Pledge, a_Pledge_init, i_Pledge_init, kc_Pledge⟩,
    f_Pledge_years := f_Pledge_years,
    d_Pledge_years := _,
    F_Pledge_years := fun_mk (st := s_Pledge_years) l_Pledge_years co_Pledge_years k_Pledge_years,
    b_Pledge_years := ((fun_mk (st := s_Pledge_years) l_Pledge_years co_Pledge_years k_Pledge_years).binds (ps := ["self"]) fun _ _ _ _ _ _ us hl => match us, hl with | [_], _ => rfl),
    m_Pledge_years := ⟨a_Pledge_years, i_Pledge_years, k_Pledge_years⟩,
    f_see_fits := f_see_fits,
    d_see_fits := _,
    F_see_fits := fun_mk (st := s_see_fits) l_see_fits co_see_fits k_see_fits,
    b_see_fits := ((fun_mk (st := s_see_fits) l_see_fits co_see_fits k_see_fits).binds (ps := ["table", "pledge"]) fun _ _ _ _ _ _ us hl => match us, hl with | [_, _], _ => rfl),
    g_see_fits := PySem.W.mg_of X G a_see_fits,
    f_common := f_common,
    d_common := _,
    F_common := fun_mk (st := s_common) l_common co_common k_common,
    b_common := ((fun_mk (st := s_common) l_common co_common k_common).binds (ps := ["one", "other"]) fun _ _ _ _ _ _ us hl => match us, hl with | [_, _], _ => rfl),
    g_common := PySem.W.mg_of X G a_common,
    f_part := f_part,
    d_part := _,
    F_part := fun_mk (st := s_part) l_part co_part k_part,
    b_part := ((fun_mk (st := s_part) l_part co_part k_part).binds (ps := ["top", "under"]) fun _ _ _ _ _ _ us hl => match us, hl with | [_, _], _ => rfl),
    g_part := PySem.W.mg_of X G a_part,
    f_plus := f_plus,
    d_plus := _,
    F_plus := fun_mk (st := s_plus) l_plus co_plus k_plus,
    b_plus := ((fun_mk (st := s_plus) l_plus co_plus k_plus).binds (ps := ["one", "other"]) fun _ _ _ _ _ _ us hl => match us, hl with | [_, _], _ => rfl),
    g_plus := PySem.W.mg_of X G a_plus,
    f_less := f_less,
    d_less := _,
    F_less := fun_mk (st := s_less) l_less co_less k_less,
    b_less := ((fun_mk (st := s_less) l_less co_less k_less).binds (ps := ["one", "other"]) fun _ _ _ _ _ _ us hl => match us, hl with | [_, _], _ => rfl),
    g_less := PySem.W.mg_of X G a_less,
    f_times := f_times,
    d_times := _,
    F_times := fun_mk (st := s_times) l_times co_times k_times,
    b_times := ((fun_mk (st := s_times) l_times co_times k_times).binds (ps := ["one", "other"]) fun _ _ _ _ _ _ us hl => match us, hl with | [_, _], _ => rfl),
    g_times := PySem.W.mg_of X G a_times,
    f_over := f_over,
    d_over := _,
    F_over := fun_mk (st := s_over) l_over co_over k_over,
    b_over := ((fun_mk (st := s_over) l_over co_over k_over).binds (ps := ["one", "other"]) fun _ _ _ _ _ _ us hl => match us, hl with | [_, _], _ => rfl),
    g_over := PySem.W.mg_of X G a_over,
    f_summed := f_summed,
    d_summed := _,
    F_summed := fun_mk (st := s_summed) l_summed co_summed k_summed,
    b_summed := ((fun_mk (st := s_summed) l_summed co_summed k_summed).binds (ps := ["row"]) fun _ _ _ _ _ _ us hl => match us, hl with | [_], _ => rfl),
    g_summed := PySem.W.mg_of X G a_summed,
    f_Table_init := f_Table_init,
    d_Table_init := _,
    F_Table_init := fun_mk (st := s_Table_init) l_Table_init co_Table_init k_Table_init,
    b_Table_init := ((fun_mk (st := s_Table_init) l_Table_init co_Table_init k_Table_init).binds (ps := ["self", "chances"]) fun _ _ _ _ _ _ us hl => match us, hl with | [_, _], _ => rfl),
    mk_Table := ⟨mk_Table, a_Table_init, i_Table_init, kc_Table⟩,
    f_Table_ages := f_Table_ages,
    d_Table_ages := _,
    F_Table_ages := fun_mk (st := s_Table_ages) l_Table_ages co_Table_ages k_Table_ages,
    b_Table_ages := ((fun_mk (st := s_Table_ages) l_Table_ages co_Table_ages k_Table_ages).binds (ps := ["self"]) fun _ _ _ _ _ _ us hl => match us, hl with | [_], _ => rfl),
    m_Table_ages := ⟨a_Table_ages, i_Table_ages, k_Table_ages⟩,
    f_Table_dies := f_Table_dies,
    d_Table_dies := _,
    F_Table_dies := fun_mk (st := s_Table_dies) l_Table_dies co_Table_dies k_Table_dies,
    b_Table_dies := ((fun_mk (st := s_Table_dies) l_Table_dies co_Table_dies k_Table_dies).binds (ps := ["self", "age"]) fun _ _ _ _ _ _ us hl => match us, hl with | [_, _], _ => rfl),
    m_Table_dies := ⟨a_Table_dies, i_Table_dies, k_Table_dies⟩,
    f_Table_lives := f_Table_lives,
    d_Table_lives := _,
    F_Table_lives := fun_mk (st := s_Table_lives) l_Table_lives co_Table_lives k_Table_lives,
    b_Table_lives := ((fun_mk (st := s_Table_lives) l_Table_lives co_Table_lives k_Table_lives).binds (ps := ["self", "age", "years"]) fun _ _ _ _ _ _ us hl => match us, hl with | [_, _, _], _ => rfl),
    m_Table_lives := ⟨a_Table_lives, i_Table_lives, k_Table_lives⟩,
    f_rate_of := f_rate_of,
    d_rate_of := _,
    F_rate_of := fun_mk (st := s_rate_of) l_rate_of co_rate_of k_rate_of,
    b_rate_of := ((fun_mk (st := s_rate_of) l_rate_of co_rate_of k_rate_of).binds (ps := ["rate"]) fun _ _ _ _ _ _ us hl => match us, hl with | [_], _ => rfl),
    g_rate_of := PySem.W.mg_of X G a_rate_of,
    f_later := f_later,
    d_later := _,
    F_later := fun_mk (st := s_later) l_later co_later k_later,
    b_later := ((fun_mk (st := s_later) l_later co_later k_later).binds (ps := ["rate", "years"]) fun _ _ _ _ _ _ us hl => match us, hl with | [_, _], _ => rfl),
    g_later := PySem.W.mg_of X G a_later,
    f_see := f_see,
    d_see := _,
    F_see := fun_mk (st := s_see) l_see co_see k_see,
    b_see := ((fun_mk (st := s_see) l_see co_see k_see).binds (ps := ["table", "rate", "pledge"]) fun _ _ _ _ _ _ us hl => match us, hl with | [_, _, _], _ => rfl),
    g_see := PySem.W.mg_of X G a_see,
    f_outgo := f_outgo,
    d_outgo := _,
    F_outgo := fun_mk (st := s_outgo) l_outgo co_outgo k_outgo,
    b_outgo := ((fun_mk (st := s_outgo) l_outgo co_outgo k_outgo).binds (ps := ["table", "rate", "pledge"]) fun _ _ _ _ _ _ us hl => match us, hl with | [_, _, _], _ => rfl),
    g_outgo := PySem.W.mg_of X G a_outgo,
    f_income := f_income,
    d_income := _,
    F_income := fun_mk (st := s_income) l_income co_income k_income,
    b_income := ((fun_mk (st := s_income) l_income co_income k_income).binds (ps := ["table", "rate", "pledge"]) fun _ _ _ _ _ _ us hl => match us, hl with | [_, _, _], _ => rfl),
    g_income := PySem.W.mg_of X G a_income,
    f_see_year := f_see_year,
    d_see_year := _,
    F_see_year := fun_mk (st := s_see_year) l_see_year co_see_year k_see_year,
    b_see_year := ((fun_mk (st := s_see_year) l_see_year co_see_year k_see_year).binds (ps := ["table", "pledge", "year"]) fun _ _ _ _ _ _ us hl => match us, hl with | [_, _, _], _ => rfl),
    g_see_year := PySem.W.mg_of X G a_see_year,
    f_need := f_need,
    d_need := _,
    F_need := fun_mk (st := s_need) l_need co_need k_need,
    b_need := ((fun_mk (st := s_need) l_need co_need k_need).binds (ps := ["table", "rate", "pledge", "year"]) fun _ _ _ _ _ _ us hl => match us, hl with | [_, _, _, _], _ => rfl),
    g_need := PySem.W.mg_of X G a_need,
    f_held := f_held,
    d_held := _,
    F_held := fun_mk (st := s_held) l_held co_held k_held,
    b_held := ((fun_mk (st := s_held) l_held co_held k_held).binds (ps := ["table", "rate", "pledge", "year"]) fun _ _ _ _ _ _ us hl => match us, hl with | [_, _, _, _], _ => rfl),
    g_held := PySem.W.mg_of X G a_held,
    f_fair_due := f_fair_due,
    d_fair_due := _,
    F_fair_due := fun_mk (st := s_fair_due) l_fair_due co_fair_due k_fair_due,
    b_fair_due := ((fun_mk (st := s_fair_due) l_fair_due co_fair_due k_fair_due).binds (ps := ["table", "rate", "pledge"]) fun _ _ _ _ _ _ us hl => match us, hl with | [_, _, _], _ => rfl),
    g_fair_due := PySem.W.mg_of X G a_fair_due,
    f_loss_at := f_loss_at,
    d_loss_at := _,
    F_loss_at := fun_mk (st := s_loss_at) l_loss_at co_loss_at k_loss_at,
    b_loss_at := ((fun_mk (st := s_loss_at) l_loss_at co_loss_at k_loss_at).binds (ps := ["rate", "pledge", "years", "dead"]) fun _ _ _ _ _ _ us hl => match us, hl with | [_, _, _, _], _ => rfl),
    g_loss_at := PySem.W.mg_of X G a_loss_at,
    f_ends := f_ends,
    d_ends := _,
    F_ends := fun_mk (st := s_ends) l_ends co_ends k_ends,
    b_ends := ((fun_mk (st := s_ends) l_ends co_ends k_ends).binds (ps := ["table", "rate", "pledge"]) fun _ _ _ _ _ _ us hl => match us, hl with | [_, _, _], _ => rfl),
    g_ends := PySem.W.mg_of X G a_ends,
    f_fewest := f_fewest,
    d_fewest := _,
    F_fewest := fun_mk (st := s_fewest) l_fewest co_fewest k_fewest,
    b_fewest := ((fun_mk (st := s_fewest) l_fewest co_fewest k_fewest).binds (ps := ["table", "pledge"]) fun _ _ _ _ _ _ us hl => match us, hl with | [_, _], _ => rfl),
    g_fewest := PySem.W.mg_of X G a_fewest,
    f_book := f_book,
    d_book := _,
    F_book := fun_mk (st := s_book) l_book co_book k_book,
    b_book := ((fun_mk (st := s_book) l_book co_book k_book).binds (ps := ["table", "rate", "pledge", "many"]) fun _ _ _ _ _ _ us hl => match us, hl with | [_, _, _, _], _ => rfl),
    g_book := PySem.W.mg_of X G a_book,
    f_law_cell_at := f_law_cell_at,
    d_law_cell_at := _,
    F_law_cell_at := fun_mk (st := s_law_cell_at) l_law_cell_at co_law_cell_at k_law_cell_at,
    b_law_cell_at := ((fun_mk (st := s_law_cell_at) l_law_cell_at co_law_cell_at k_law_cell_at).binds (ps := ["script", "k"]) fun _ _ _ _ _ _ us hl => match us, hl with | [_, _], _ => rfl),
    g_law_cell_at := PySem.W.mg_of X G a_law_cell_at,
    f_law_draw := f_law_draw,
    d_law_draw := _,
    F_law_draw := fun_mk (st := s_law_draw) l_law_draw co_law_draw k_law_draw,
    b_law_draw := ((fun_mk (st := s_law_draw) l_law_draw co_law_draw k_law_draw).binds (ps := ["script", "k"]) fun _ _ _ _ _ _ us hl => match us, hl with | [_, _], _ => rfl),
    g_law_draw := PySem.W.mg_of X G a_law_draw,
    f_law_whole := f_law_whole,
    d_law_whole := _,
    F_law_whole := fun_mk (st := s_law_whole) l_law_whole co_law_whole k_law_whole,
    b_law_whole := ((fun_mk (st := s_law_whole) l_law_whole co_law_whole k_law_whole).binds (ps := ["found"]) fun _ _ _ _ _ _ us hl => match us, hl with | [_], _ => rfl),
    g_law_whole := PySem.W.mg_of X G a_law_whole,
    f_law_chances := f_law_chances,
    d_law_chances := _,
    F_law_chances := fun_mk (st := s_law_chances) l_law_chances co_law_chances k_law_chances,
    b_law_chances := ((fun_mk (st := s_law_chances) l_law_chances co_law_chances k_law_chances).binds (ps := ["script"]) fun _ _ _ _ _ _ us hl => match us, hl with | [_], _ => rfl),
    g_law_chances := PySem.W.mg_of X G a_law_chances,
    f_law_rows := f_law_rows,
    d_law_rows := _,
    F_law_rows := fun_mk (st := s_law_rows) l_law_rows co_law_rows k_law_rows,
    b_law_rows := ((fun_mk (st := s_law_rows) l_law_rows co_law_rows k_law_rows).binds (ps := ["script", "years"]) fun _ _ _ _ _ _ us hl => match us, hl with | [_, _], _ => rfl),
    g_law_rows := PySem.W.mg_of X G a_law_rows,
    f_law_begin := f_law_begin,
    d_law_begin := _,
    F_law_begin := fun_mk (st := s_law_begin) l_law_begin co_law_begin k_law_begin,
    b_law_begin := ((fun_mk (st := s_law_begin) l_law_begin co_law_begin k_law_begin).binds (ps := ["script", "ages"]) fun _ _ _ _ _ _ us hl => match us, hl with | [_, _], _ => rfl),
    g_law_begin := PySem.W.mg_of X G a_law_begin,
    f_law_alone := f_law_alone,
    d_law_alone := _,
    F_law_alone := fun_mk (st := s_law_alone) l_law_alone co_law_alone k_law_alone,
    b_law_alone := ((fun_mk (st := s_law_alone) l_law_alone co_law_alone k_law_alone).binds (ps := ["e"]) fun _ _ _ _ _ _ us hl => match us, hl with | [_], _ => rfl),
    g_law_alone := PySem.W.mg_of X G a_law_alone,
    f_law_spoiled := f_law_spoiled,
    d_law_spoiled := _,
    F_law_spoiled := fun_mk (st := s_law_spoiled) l_law_spoiled co_law_spoiled k_law_spoiled,
    b_law_spoiled := ((fun_mk (st := s_law_spoiled) l_law_spoiled co_law_spoiled k_law_spoiled).binds (ps := ["age", "rows", "way", "cell"]) fun _ _ _ _ _ _ us hl => match us, hl with | [_, _, _, _], _ => rfl),
    g_law_spoiled := PySem.W.mg_of X G a_law_spoiled,
    f_law_made := f_law_made,
    d_law_made := _,
    F_law_made := fun_mk (st := s_law_made) l_law_made co_law_made k_law_made,
    b_law_made := ((fun_mk (st := s_law_made) l_law_made co_law_made k_law_made).binds (ps := ["age", "rows"]) fun _ _ _ _ _ _ us hl => match us, hl with | [_, _], _ => rfl),
    g_law_made := PySem.W.mg_of X G a_law_made,
    f_law_refused := f_law_refused,
    d_law_refused := _,
    F_law_refused := fun_mk (st := s_law_refused) l_law_refused co_law_refused k_law_refused,
    b_law_refused := ((fun_mk (st := s_law_refused) l_law_refused co_law_refused k_law_refused).binds (ps := ["call", "table", "rate", "pledge"]) fun _ _ _ _ _ _ us hl => match us, hl with | [_, _, _, _], _ => rfl),
    g_law_refused := PySem.W.mg_of X G a_law_refused,
    f_law_kept := f_law_kept,
    d_law_kept := _,
    F_law_kept := fun_mk (st := s_law_kept) l_law_kept co_law_kept k_law_kept,
    b_law_kept := ((fun_mk (st := s_law_kept) l_law_kept co_law_kept k_law_kept).binds (ps := ["script", "age", "rows"]) fun _ _ _ _ _ _ us hl => match us, hl with | [_, _, _], _ => rfl),
    g_law_kept := PySem.W.mg_of X G a_law_kept,
    f_law := fa,
    d_law := _,
    F_law := fun_mk (st := s_law) l_law co_law k_law,
    b_law := ((fun_mk (st := s_law) l_law co_law k_law).binds (ps := ["script"]) fun _ _ _ _ _ _ us hl => match us, hl with | [_], _ => rfl),
    g_law := PySem.W.mg_of X G a_law,
    t_COINS := t_COINS,
    g_COINS := PySem.W.mg_of X G a_COINS,
    t_MOST := t_MOST,
    g_MOST := PySem.W.mg_of X G a_MOST,
    z_ValueError := PySem.W.mg_none_of X G z_ValueError,
    z_abs := PySem.W.mg_none_of X G z_abs,
    z_bool := PySem.W.mg_none_of X G z_bool,
    z_enumerate := PySem.W.mg_none_of X G z_enumerate,
    z_int := PySem.W.mg_none_of X G z_int,
    z_isinstance := PySem.W.mg_none_of X G z_isinstance,
    z_len := PySem.W.mg_none_of X G z_len,
    z_list := PySem.W.mg_none_of X G z_list,
    z_min := PySem.W.mg_none_of X G z_min,
    z_range := PySem.W.mg_none_of X G z_range,
    z_tuple := PySem.W.mg_none_of X G z_tuple,
    em_BadTable := PySem.W.exm_ref bb_PledgeError hd_PledgeError tt_PledgeError sp_BadTable,
    em_BadRate := PySem.W.exm_ref bb_PledgeError hd_PledgeError tt_PledgeError sp_BadRate,
    em_BadPledge := PySem.W.exm_ref bb_PledgeError hd_PledgeError tt_PledgeError sp_BadPledge,
    em_NoYear := PySem.W.exm_ref bb_PledgeError hd_PledgeError tt_PledgeError sp_NoYear,
    em_BadCount := PySem.W.exm_ref bb_PledgeError hd_PledgeError tt_PledgeError sp_BadCount,
    ec_BadTable := ⟨eg_BadTable, ek_BadTable, bb_BadTable, ed_BadTable, ea_BadTable, ev_n, ev_t, eo_BadTable⟩,
    ki_BadTable_BadTable := ki_BadTable_BadTable,
    ki_BadTable_BadRate := ki_BadTable_BadRate,
    ki_BadTable_BadPledge := ki_BadTable_BadPledge,
    ki_BadTable_NoYear := ki_BadTable_NoYear,
    ki_BadTable_BadCount := ki_BadTable_BadCount,
    ki_BadTable_PledgeError := ki_BadTable_PledgeError,
    ki_BadTable_ValueError := ki_BadTable_ValueError,
    ec_BadRate := ⟨eg_BadRate, ek_BadRate, bb_BadRate, ed_BadRate, ea_BadRate, ev_n, ev_t, eo_BadRate⟩,
    ki_BadRate_BadTable := ki_BadRate_BadTable,
    ki_BadRate_BadRate := ki_BadRate_BadRate,
    ki_BadRate_BadPledge := ki_BadRate_BadPledge,
    ki_BadRate_NoYear := ki_BadRate_NoYear,
    ki_BadRate_BadCount := ki_BadRate_BadCount,
    ki_BadRate_PledgeError := ki_BadRate_PledgeError,
    ki_BadRate_ValueError := ki_BadRate_ValueError,
    ec_BadPledge := ⟨eg_BadPledge, ek_BadPledge, bb_BadPledge, ed_BadPledge, ea_BadPledge, ev_n, ev_t, eo_BadPledge⟩,
    ki_BadPledge_BadTable := ki_BadPledge_BadTable,
    ki_BadPledge_BadRate := ki_BadPledge_BadRate,
    ki_BadPledge_BadPledge := ki_BadPledge_BadPledge,
    ki_BadPledge_NoYear := ki_BadPledge_NoYear,
    ki_BadPledge_BadCount := ki_BadPledge_BadCount,
    ki_BadPledge_PledgeError := ki_BadPledge_PledgeError,
    ki_BadPledge_ValueError := ki_BadPledge_ValueError,
    ec_NoYear := ⟨eg_NoYear, ek_NoYear, bb_NoYear, ed_NoYear, ea_NoYear, ev_n, ev_t, eo_NoYear⟩,
    ki_NoYear_BadTable := ki_NoYear_BadTable,
    ki_NoYear_BadRate := ki_NoYear_BadRate,
    ki_NoYear_BadPledge := ki_NoYear_BadPledge,
    ki_NoYear_NoYear := ki_NoYear_NoYear,
    ki_NoYear_BadCount := ki_NoYear_BadCount,
    ki_NoYear_PledgeError := ki_NoYear_PledgeError,
    ki_NoYear_ValueError := ki_NoYear_ValueError,
    ec_BadCount := ⟨eg_BadCount, ek_BadCount, bb_BadCount, ed_BadCount, ea_BadCount, ev_n, ev_t, eo_BadCount⟩,
    ki_BadCount_BadTable := ki_BadCount_BadTable,
    ki_BadCount_BadRate := ki_BadCount_BadRate,
    ki_BadCount_BadPledge := ki_BadCount_BadPledge,
    ki_BadCount_NoYear := ki_BadCount_NoYear,
    ki_BadCount_BadCount := ki_BadCount_BadCount,
    ki_BadCount_PledgeError := ki_BadCount_PledgeError,
    ki_BadCount_ValueError := ki_BadCount_ValueError,
    ev_n := ev_n,
    ev_t := ev_t } : Tp K mg))⟩
end Tx
open PySem PySem.W PyProof.Rows
set_option maxRecDepth 100000 in
set_option maxHeartbeats 0 in
theorem PySem.Challenge.cw_yearpledge_k05_pledges_holds : PySem.Challenge.rw_yearpledge_k05_pledges.Holds := by
  w_on; o_law; k_head; (case hw => w_witness2)
  k_fill
  refine L2.walk_of (l := PySem.Challenge.rw_yearpledge_k05_pledges) (n := 63) (k := 9) (x := "script") (CX := fun _ => L2.CX0) (sp := fun w => Yp.spLaw _) rfl (by decide) rfl ⟨rfl, by decide, by decide⟩ (fun w h Y => PySem.W.kIn_of Y) ?F (fun _ _ a ns hl _ hS => ⟨a, ns, rfl, hS, hl, fun _ => rfl⟩) (fun _ _ _ _ _ h => h)
  case F =>
    intro w mg fa h KX G hmg
    refine' Tx.all_mk KX G hmg ?a_PledgeError ?x_PledgeError ?k_PledgeError ?bb_PledgeError ?tt_PledgeError ?hd_PledgeError ?ev_n ?ev_t ?a_BadTable ?x_BadTable ?k_BadTable ?bb_BadTable ?tt_BadTable ?eg_BadTable ?ek_BadTable ?ed_BadTable ?ea_BadTable ?eo_BadTable ?sp_BadTable ?a_BadRate ?x_BadRate ?k_BadRate ?bb_BadRate ?tt_BadRate ?eg_BadRate ?ek_BadRate ?ed_BadRate ?ea_BadRate ?eo_BadRate ?sp_BadRate ?a_BadPledge ?x_BadPledge ?k_BadPledge ?bb_BadPledge ?tt_BadPledge ?eg_BadPledge ?ek_BadPledge ?ed_BadPledge ?ea_BadPledge ?eo_BadPledge ?sp_BadPledge ?a_NoYear ?x_NoYear ?k_NoYear ?bb_NoYear ?tt_NoYear ?eg_NoYear ?ek_NoYear ?ed_NoYear ?ea_NoYear ?eo_NoYear ?sp_NoYear ?a_BadCount ?x_BadCount ?k_BadCount ?bb_BadCount ?tt_BadCount ?eg_BadCount ?ek_BadCount ?ed_BadCount ?ea_BadCount ?eo_BadCount ?sp_BadCount ?a_Pledge ?pg_Pledge ?hd_Pledge ?po_Pledge ?sa_Pledge ?mk_Pledge ?kc_Pledge ?xa_Pledge ?xo_Pledge ?n_age ?n_rows ?a_Table ?pg_Table ?hd_Table ?po_Table ?sa_Table ?mk_Table ?kc_Table ?n_chances ?a_Pledge_init ?i_Pledge_init ?l_Pledge_init ?co_Pledge_init ?k_Pledge_init ?a_Pledge_years ?i_Pledge_years ?l_Pledge_years ?co_Pledge_years ?k_Pledge_years ?a_see_fits ?l_see_fits ?co_see_fits ?k_see_fits ?a_common ?l_common ?co_common ?k_common ?a_part ?l_part ?co_part ?k_part ?a_plus ?l_plus ?co_plus ?k_plus ?a_less ?l_less ?co_less ?k_less ?a_times ?l_times ?co_times ?k_times ?a_over ?l_over ?co_over ?k_over ?a_summed ?l_summed ?co_summed ?k_summed ?a_Table_init ?i_Table_init ?l_Table_init ?co_Table_init ?k_Table_init ?a_Table_ages ?i_Table_ages ?l_Table_ages ?co_Table_ages ?k_Table_ages ?a_Table_dies ?i_Table_dies ?l_Table_dies ?co_Table_dies ?k_Table_dies ?a_Table_lives ?i_Table_lives ?l_Table_lives ?co_Table_lives ?k_Table_lives ?a_rate_of ?l_rate_of ?co_rate_of ?k_rate_of ?a_later ?l_later ?co_later ?k_later ?a_see ?l_see ?co_see ?k_see ?a_outgo ?l_outgo ?co_outgo ?k_outgo ?a_income ?l_income ?co_income ?k_income ?a_see_year ?l_see_year ?co_see_year ?k_see_year ?a_need ?l_need ?co_need ?k_need ?a_held ?l_held ?co_held ?k_held ?a_fair_due ?l_fair_due ?co_fair_due ?k_fair_due ?a_loss_at ?l_loss_at ?co_loss_at ?k_loss_at ?a_ends ?l_ends ?co_ends ?k_ends ?a_fewest ?l_fewest ?co_fewest ?k_fewest ?a_book ?l_book ?co_book ?k_book ?a_law_cell_at ?l_law_cell_at ?co_law_cell_at ?k_law_cell_at ?a_law_draw ?l_law_draw ?co_law_draw ?k_law_draw ?a_law_whole ?l_law_whole ?co_law_whole ?k_law_whole ?a_law_chances ?l_law_chances ?co_law_chances ?k_law_chances ?a_law_rows ?l_law_rows ?co_law_rows ?k_law_rows ?a_law_begin ?l_law_begin ?co_law_begin ?k_law_begin ?a_law_alone ?l_law_alone ?co_law_alone ?k_law_alone ?a_law_spoiled ?l_law_spoiled ?co_law_spoiled ?k_law_spoiled ?a_law_made ?l_law_made ?co_law_made ?k_law_made ?a_law_refused ?l_law_refused ?co_law_refused ?k_law_refused ?a_law_kept ?l_law_kept ?co_law_kept ?k_law_kept ?a_law ?l_law ?co_law ?k_law ?a_COINS ?a_MOST ?z_ValueError ?z_abs ?z_bool ?z_enumerate ?z_int ?z_isinstance ?z_len ?z_list ?z_min ?z_range ?z_tuple ?ki_BadTable_BadTable ?ki_BadTable_BadRate ?ki_BadTable_BadPledge ?ki_BadTable_NoYear ?ki_BadTable_BadCount ?ki_BadTable_PledgeError ?ki_BadTable_ValueError ?ki_BadRate_BadTable ?ki_BadRate_BadRate ?ki_BadRate_BadPledge ?ki_BadRate_NoYear ?ki_BadRate_BadCount ?ki_BadRate_PledgeError ?ki_BadRate_ValueError ?ki_BadPledge_BadTable ?ki_BadPledge_BadRate ?ki_BadPledge_BadPledge ?ki_BadPledge_NoYear ?ki_BadPledge_BadCount ?ki_BadPledge_PledgeError ?ki_BadPledge_ValueError ?ki_NoYear_BadTable ?ki_NoYear_BadRate ?ki_NoYear_BadPledge ?ki_NoYear_NoYear ?ki_NoYear_BadCount ?ki_NoYear_PledgeError ?ki_NoYear_ValueError ?ki_BadCount_BadTable ?ki_BadCount_BadRate ?ki_BadCount_BadPledge ?ki_BadCount_NoYear ?ki_BadCount_BadCount ?ki_BadCount_PledgeError ?ki_BadCount_ValueError
    (case a_PledgeError => k_is)
    (case x_PledgeError => k_exc)
    (case k_PledgeError => k_is)
    (case bb_PledgeError => k_is)
    (case tt_PledgeError => k_is)
    (case hd_PledgeError => k_is)
    (case ev_n => k_is)
    (case ev_t => k_is)
    (case a_BadTable => k_is)
    (case x_BadTable => k_exc)
    (case k_BadTable => k_is)
    (case bb_BadTable => k_is)
    (case tt_BadTable => k_is)
    (case eg_BadTable => k_is)
    (case ek_BadTable => k_is)
    (case ed_BadTable => k_is)
    (case ea_BadTable => k_is)
    (case eo_BadTable => k_is)
    (case sp_BadTable => k_is)
    (case a_BadRate => k_is)
    (case x_BadRate => k_exc)
    (case k_BadRate => k_is)
    (case bb_BadRate => k_is)
    (case tt_BadRate => k_is)
    (case eg_BadRate => k_is)
    (case ek_BadRate => k_is)
    (case ed_BadRate => k_is)
    (case ea_BadRate => k_is)
    (case eo_BadRate => k_is)
    (case sp_BadRate => k_is)
    (case a_BadPledge => k_is)
    (case x_BadPledge => k_exc)
    (case k_BadPledge => k_is)
    (case bb_BadPledge => k_is)
    (case tt_BadPledge => k_is)
    (case eg_BadPledge => k_is)
    (case ek_BadPledge => k_is)
    (case ed_BadPledge => k_is)
    (case ea_BadPledge => k_is)
    (case eo_BadPledge => k_is)
    (case sp_BadPledge => k_is)
    (case a_NoYear => k_is)
    (case x_NoYear => k_exc)
    (case k_NoYear => k_is)
    (case bb_NoYear => k_is)
    (case tt_NoYear => k_is)
    (case eg_NoYear => k_is)
    (case ek_NoYear => k_is)
    (case ed_NoYear => k_is)
    (case ea_NoYear => k_is)
    (case eo_NoYear => k_is)
    (case sp_NoYear => k_is)
    (case a_BadCount => k_is)
    (case x_BadCount => k_exc)
    (case k_BadCount => k_is)
    (case bb_BadCount => k_is)
    (case tt_BadCount => k_is)
    (case eg_BadCount => k_is)
    (case ek_BadCount => k_is)
    (case ed_BadCount => k_is)
    (case ea_BadCount => k_is)
    (case eo_BadCount => k_is)
    (case sp_BadCount => k_is)
    (case a_Pledge => k_is)
    (case pg_Pledge => k_is)
    (case hd_Pledge => k_is)
    (case po_Pledge => k_is)
    (case sa_Pledge => k_is)
    (case mk_Pledge => k_is)
    (case kc_Pledge => k_is)
    (case xa_Pledge => k_is)
    (case xo_Pledge => k_is)
    (case n_age => k_is)
    (case n_rows => k_is)
    (case a_Table => k_is)
    (case pg_Table => k_is)
    (case hd_Table => k_is)
    (case po_Table => k_is)
    (case sa_Table => k_is)
    (case mk_Table => k_is)
    (case kc_Table => k_is)
    (case n_chances => k_is)
    (case a_Pledge_init => k_is)
    (case i_Pledge_init => k_is)
    (case l_Pledge_init => k_is)
    (case co_Pledge_init => k_is)
    (case k_Pledge_init => k_is)
    (case a_Pledge_years => k_is)
    (case i_Pledge_years => k_is)
    (case l_Pledge_years => k_is)
    (case co_Pledge_years => k_is)
    (case k_Pledge_years => k_is)
    (case a_see_fits => k_is)
    (case l_see_fits => k_is)
    (case co_see_fits => k_is)
    (case k_see_fits => k_is)
    (case a_common => k_is)
    (case l_common => k_is)
    (case co_common => k_is)
    (case k_common => k_is)
    (case a_part => k_is)
    (case l_part => k_is)
    (case co_part => k_is)
    (case k_part => k_is)
    (case a_plus => k_is)
    (case l_plus => k_is)
    (case co_plus => k_is)
    (case k_plus => k_is)
    (case a_less => k_is)
    (case l_less => k_is)
    (case co_less => k_is)
    (case k_less => k_is)
    (case a_times => k_is)
    (case l_times => k_is)
    (case co_times => k_is)
    (case k_times => k_is)
    (case a_over => k_is)
    (case l_over => k_is)
    (case co_over => k_is)
    (case k_over => k_is)
    (case a_summed => k_is)
    (case l_summed => k_is)
    (case co_summed => k_is)
    (case k_summed => k_is)
    (case a_Table_init => k_is)
    (case i_Table_init => k_is)
    (case l_Table_init => k_is)
    (case co_Table_init => k_is)
    (case k_Table_init => k_is)
    (case a_Table_ages => k_is)
    (case i_Table_ages => k_is)
    (case l_Table_ages => k_is)
    (case co_Table_ages => k_is)
    (case k_Table_ages => k_is)
    (case a_Table_dies => k_is)
    (case i_Table_dies => k_is)
    (case l_Table_dies => k_is)
    (case co_Table_dies => k_is)
    (case k_Table_dies => k_is)
    (case a_Table_lives => k_is)
    (case i_Table_lives => k_is)
    (case l_Table_lives => k_is)
    (case co_Table_lives => k_is)
    (case k_Table_lives => k_is)
    (case a_rate_of => k_is)
    (case l_rate_of => k_is)
    (case co_rate_of => k_is)
    (case k_rate_of => k_is)
    (case a_later => k_is)
    (case l_later => k_is)
    (case co_later => k_is)
    (case k_later => k_is)
    (case a_see => k_is)
    (case l_see => k_is)
    (case co_see => k_is)
    (case k_see => k_is)
    (case a_outgo => k_is)
    (case l_outgo => k_is)
    (case co_outgo => k_is)
    (case k_outgo => k_is)
    (case a_income => k_is)
    (case l_income => k_is)
    (case co_income => k_is)
    (case k_income => k_is)
    (case a_see_year => k_is)
    (case l_see_year => k_is)
    (case co_see_year => k_is)
    (case k_see_year => k_is)
    (case a_need => k_is)
    (case l_need => k_is)
    (case co_need => k_is)
    (case k_need => k_is)
    (case a_held => k_is)
    (case l_held => k_is)
    (case co_held => k_is)
    (case k_held => k_is)
    (case a_fair_due => k_is)
    (case l_fair_due => k_is)
    (case co_fair_due => k_is)
    (case k_fair_due => k_is)
    (case a_loss_at => k_is)
    (case l_loss_at => k_is)
    (case co_loss_at => k_is)
    (case k_loss_at => k_is)
    (case a_ends => k_is)
    (case l_ends => k_is)
    (case co_ends => k_is)
    (case k_ends => k_is)
    (case a_fewest => k_is)
    (case l_fewest => k_is)
    (case co_fewest => k_is)
    (case k_fewest => k_is)
    (case a_book => k_is)
    (case l_book => k_is)
    (case co_book => k_is)
    (case k_book => k_is)
    (case a_law_cell_at => k_is)
    (case l_law_cell_at => k_is)
    (case co_law_cell_at => k_is)
    (case k_law_cell_at => k_is)
    (case a_law_draw => k_is)
    (case l_law_draw => k_is)
    (case co_law_draw => k_is)
    (case k_law_draw => k_is)
    (case a_law_whole => k_is)
    (case l_law_whole => k_is)
    (case co_law_whole => k_is)
    (case k_law_whole => k_is)
    (case a_law_chances => k_is)
    (case l_law_chances => k_is)
    (case co_law_chances => k_is)
    (case k_law_chances => k_is)
    (case a_law_rows => k_is)
    (case l_law_rows => k_is)
    (case co_law_rows => k_is)
    (case k_law_rows => k_is)
    (case a_law_begin => k_is)
    (case l_law_begin => k_is)
    (case co_law_begin => k_is)
    (case k_law_begin => k_is)
    (case a_law_alone => k_is)
    (case l_law_alone => k_is)
    (case co_law_alone => k_is)
    (case k_law_alone => k_is)
    (case a_law_spoiled => k_is)
    (case l_law_spoiled => k_is)
    (case co_law_spoiled => k_is)
    (case k_law_spoiled => k_is)
    (case a_law_made => k_is)
    (case l_law_made => k_is)
    (case co_law_made => k_is)
    (case k_law_made => k_is)
    (case a_law_refused => k_is)
    (case l_law_refused => k_is)
    (case co_law_refused => k_is)
    (case k_law_refused => k_is)
    (case a_law_kept => k_is)
    (case l_law_kept => k_is)
    (case co_law_kept => k_is)
    (case k_law_kept => k_is)
    (case a_law => k_is)
    (case l_law => k_is)
    (case co_law => k_is)
    (case k_law => k_is)
    (case a_COINS => k_is)
    (case a_MOST => k_is)
    (case z_ValueError => k_is)
    (case z_abs => k_is)
    (case z_bool => k_is)
    (case z_enumerate => k_is)
    (case z_int => k_is)
    (case z_isinstance => k_is)
    (case z_len => k_is)
    (case z_list => k_is)
    (case z_min => k_is)
    (case z_range => k_is)
    (case z_tuple => k_is)
    (case ki_BadTable_BadTable => kit_is)
    (case ki_BadTable_BadRate => kit_is)
    (case ki_BadTable_BadPledge => kit_is)
    (case ki_BadTable_NoYear => kit_is)
    (case ki_BadTable_BadCount => kit_is)
    (case ki_BadTable_PledgeError => kit_is)
    (case ki_BadTable_ValueError => kit_is)
    (case ki_BadRate_BadTable => kit_is)
    (case ki_BadRate_BadRate => kit_is)
    (case ki_BadRate_BadPledge => kit_is)
    (case ki_BadRate_NoYear => kit_is)
    (case ki_BadRate_BadCount => kit_is)
    (case ki_BadRate_PledgeError => kit_is)
    (case ki_BadRate_ValueError => kit_is)
    (case ki_BadPledge_BadTable => kit_is)
    (case ki_BadPledge_BadRate => kit_is)
    (case ki_BadPledge_BadPledge => kit_is)
    (case ki_BadPledge_NoYear => kit_is)
    (case ki_BadPledge_BadCount => kit_is)
    (case ki_BadPledge_PledgeError => kit_is)
    (case ki_BadPledge_ValueError => kit_is)
    (case ki_NoYear_BadTable => kit_is)
    (case ki_NoYear_BadRate => kit_is)
    (case ki_NoYear_BadPledge => kit_is)
    (case ki_NoYear_NoYear => kit_is)
    (case ki_NoYear_BadCount => kit_is)
    (case ki_NoYear_PledgeError => kit_is)
    (case ki_NoYear_ValueError => kit_is)
    (case ki_BadCount_BadTable => kit_is)
    (case ki_BadCount_BadRate => kit_is)
    (case ki_BadCount_BadPledge => kit_is)
    (case ki_BadCount_NoYear => kit_is)
    (case ki_BadCount_BadCount => kit_is)
    (case ki_BadCount_PledgeError => kit_is)
    (case ki_BadCount_ValueError => kit_is)
