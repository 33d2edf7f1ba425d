import PyProof.Rows.All
import Wide.All
import OpenK.AllK
import Wide.FinOn
import HandS.ForMost
import HandS.TupAny
import HandS.IsInst
import KE.KExcSuper
import HandS.Nested
import HandS.Exc
import HandS.ExcInit
import HandS.ExcIs
import HandS.ExcField
import HandS.FStr
import HandS.WordsExc
import KE.KExcIs
import KE.KIsAll
import PySem.Challenge.RW_wedgekin_k85_least_mean_whole
set_option Elab.async false
set_option linter.all false
set_option maxRecDepth 100000
set_option maxHeartbeats 4000000
namespace Wk
open PySem L2
/-! ### data -/
inductive Dt where
  | non | bl (b : Bool) | int (i : Int) | str (x : Str)
  | lst (xs : List Dt) | tup (xs : List Dt)
  | scr (ns : List Int)
  | dT (kvs : List (List Key × Dt))
  /-- a caught exception: its place, class, dict, fields -/
  | exc (a c dd : Addr) (fs : List (Str × Dt))
abbrev Fr := PySem.W.Frag
def Ext (F H : Hp) : Prop := ∀ a o, F a = some o → H a = some o
theorem Ext.refl (H : Hp) : Ext H H := fun _ _ h => h
theorem Ext.trans {F G H : Hp} (a : Ext F G) (b : Ext G H) : Ext F H := fun x o h => b x o (a x o h)
theorem Ext.new {F : Hp} {p : Addr} {o : HO} (h : F p = none) : Ext F (upd F p o) := fun a u e => by
  rw [upd_ne (ne_of_none e h)]; exact e
theorem Ext.upd2 {F H : Hp} {p : Addr} {o : HO} (e : Ext F H) : Ext (upd F p o) (upd H p o) := fun a u ha => by
  by_cases h : a = p
  · subst h; rw [upd_same] at ha ⊢; exact ha
  · rw [upd_ne h] at ha ⊢; exact e a u ha
theorem Ext.mut {F H : Hp} {p : Addr} {o : HO} (e : Ext F H) (h : F p = none) : Ext F (upd H p o) := fun a u ha => by
  rw [upd_ne (ne_of_none ha h)]; exact e a u ha
theorem Ext.free {F H : Hp} {p : Addr} (e : Ext F H) (h : H p = none) : F p = none := by
  cases h1 : F p with
  | none => rfl
  | some o => rw [e p o h1] at h; cases h
theorem Ext.rd {F H : Hp} {a : Addr} {u : HO} (e : Ext F H) (h : Rd F a u) : Rd H a u := by
  rcases h with h | ⟨o, h⟩
  · exact Or.inl (e a _ h)
  · exact Or.inr ⟨o, e a _ h⟩
theorem Ext.l {K : Fr} {F H : Hp} {a : Addr} {xs : List V} (e : Ext F H) (h : SqL K F a xs) : SqL K H a xs := by
  rcases h with h | h
  · exact Or.inl (e.rd h)
  · exact Or.inr h
theorem Ext.t {K : Fr} {F H : Hp} {a : Addr} {xs : List V} (e : Ext F H) (h : SqT K F a xs) : SqT K H a xs := by
  rcases h with h | h
  · exact Or.inl (e.rd h)
  · exact Or.inr h
mutual
inductive Rep (K : Fr) (F : Hp) : V → Dt → Prop
  | non : Rep K F .non .non
  | bl (b : Bool) : Rep K F (.bl b) (.bl b)
  | int (i : Int) : Rep K F (.int i) (.int i)
  | str (x : Str) : Rep K F (.str x) (.str x)
  | lst {a : Addr} {vs : List V} {ds : List Dt} : F a = some (.lst vs) → RepAll K F vs ds → Rep K F (.ref a) (.lst ds)
  | tup {a : Addr} {vs : List V} {ds : List Dt} : F a = some (.tup vs) → RepAll K F vs ds → Rep K F (.ref a) (.tup ds)
  | scr {a : Addr} {ns : List Int} : SqL K F a (ns.map V.int) → Rep K F (.ref a) (.scr ns)
  | dT {a : Addr} {vs : List (List Key × V)} {ds : List (List Key × Dt)} : F a = some (.dT vs) → RepKV K F vs ds → Rep K F (.ref a) (.dT ds)
  | exc {a c dd : Addr} {vs : List (Str × V)} {fs : List (Str × Dt)} : F dd = some (.xd vs) → RepXs K F vs fs → Rep K F (.ref a) (.exc a c dd fs)
inductive RepAll (K : Fr) (F : Hp) : List V → List Dt → Prop
  | nil : RepAll K F [] []
  | cons {v : V} {vs : List V} {d : Dt} {ds : List Dt} : Rep K F v d → RepAll K F vs ds → RepAll K F (v :: vs) (d :: ds)
inductive RepKV (K : Fr) (F : Hp) : List (List Key × V) → List (List Key × Dt) → Prop
  | nil : RepKV K F [] []
  | cons {k : List Key} {v : V} {vs : List (List Key × V)} {d : Dt} {ds : List (List Key × Dt)} : Rep K F v d → RepKV K F vs ds → RepKV K F ((k, v) :: vs) ((k, d) :: ds)
inductive RepXs (K : Fr) (F : Hp) : List (Str × V) → List (Str × Dt) → Prop
  | nil : RepXs K F [] []
  | cons {k : Str} {v : V} {vs : List (Str × V)} {d : Dt} {ds : List (Str × Dt)} : Rep K F v d → RepXs K F vs ds → RepXs K F ((k, v) :: vs) ((k, d) :: ds)
end
section
variable {K : Fr} {F H : Hp}
mutual
theorem Rep.mono (e : Ext F H) : ∀ {v : V} {d : Dt}, Rep K F v d → Rep K H v d
  | _, _, .non => .non
  | _, _, .bl b => .bl b
  | _, _, .int i => .int i
  | _, _, .str x => .str x
  | _, _, .lst h r => .lst (e _ _ h) (RepAll.mono e r)
  | _, _, .tup h r => .tup (e _ _ h) (RepAll.mono e r)
  | _, _, .scr h => .scr (e.l h)
  | _, _, .dT h r => .dT (e _ _ h) (RepKV.mono e r)
  | _, _, .exc h r => .exc (e _ _ h) (RepXs.mono e r)
theorem RepAll.mono (e : Ext F H) : ∀ {v : List V} {d : List Dt}, RepAll K F v d → RepAll K H v d
  | _, _, .nil => .nil
  | _, _, .cons r s => .cons (Rep.mono e r) (RepAll.mono e s)
theorem RepKV.mono (e : Ext F H) : ∀ {v : List (List Key × V)} {d : List (List Key × Dt)}, RepKV K F v d → RepKV K H v d
  | _, _, .nil => .nil
  | _, _, .cons r s => .cons (Rep.mono e r) (RepKV.mono e s)
theorem RepXs.mono (e : Ext F H) : ∀ {v : List (Str × V)} {d : List (Str × Dt)}, RepXs K F v d → RepXs K H v d
  | _, _, .nil => .nil
  | _, _, .cons r s => .cons (Rep.mono e r) (RepXs.mono e s)
end
theorem RepAll.length : ∀ {v : List V} {d : List Dt}, RepAll K F v d → v.length = d.length
  | _, _, .nil => rfl
  | _, _, .cons _ s => congrArg (· + 1) (RepAll.length s)
theorem RepAll.get : ∀ {v : List V} {d : List Dt}, RepAll K F v d → ∀ {i : Nat} {x : Dt}, d[i]? = some x → ∃ u, v[i]? = some u ∧ Rep K F u x
  | _, _, .nil, _, _, h => by simp at h
  | _, _, .cons r s, 0, _, h => by simp at h; subst h; exact ⟨_, rfl, r⟩
  | _, _, .cons r s, i + 1, _, h => by
    obtain ⟨u, h1, h2⟩ := RepAll.get s (i := i) (by simpa using h)
    exact ⟨u, by simpa using h1, h2⟩
theorem RepAll.app : ∀ {v v' : List V} {d d' : List Dt}, RepAll K F v d → RepAll K F v' d' → RepAll K F (v ++ v') (d ++ d')
  | _, _, _, _, .nil, s => s
  | _, _, _, _, .cons r t, s => .cons r (RepAll.app t s)
theorem RepAll.take : ∀ {v : List V} {d : List Dt} (n : Nat), RepAll K F v d → RepAll K F (v.take n) (d.take n)
  | _, _, 0, _ => .nil
  | _, _, _ + 1, .nil => .nil
  | _, _, n + 1, .cons r s => .cons r (RepAll.take n s)
theorem RepAll.drop : ∀ {v : List V} {d : List Dt} (n : Nat), RepAll K F v d → RepAll K F (v.drop n) (d.drop n)
  | _, _, 0, r => r
  | _, _, _ + 1, .nil => .nil
  | _, _, n + 1, .cons _ s => RepAll.drop n s
theorem RepAll.set {u : V} {x : Dt} (r : Rep K F u x) : ∀ {v : List V} {d : List Dt} (i : Nat), RepAll K F v d → RepAll K F (v.set i u) (d.set i x)
  | _, _, _, .nil => .nil
  | _, _, 0, .cons _ s => .cons r s
  | _, _, i + 1, .cons q s => .cons q (RepAll.set r i s)
theorem RepAll.ints : ∀ {v : List V} {ns : List Int}, RepAll K F v (ns.map Dt.int) → v = ns.map V.int
  | _, [], .nil => rfl
  | _, n :: ns, .cons (.int _) s => congrArg (V.int n :: ·) (RepAll.ints s)
theorem RepAll.ofInts : ∀ (ns : List Int), RepAll K F (ns.map V.int) (ns.map Dt.int)
  | [] => .nil
  | n :: ns => .cons (.int n) (RepAll.ofInts ns)
end
/-! ### what a slot holds -/
/-- a thing of one's own, that may be changed -/
inductive Ow where
  | lst (xs : List Dt) | dT (kvs : List (List Key × Dt))
def Ow.dt : Ow → Dt
  | .lst xs => .lst xs
  | .dT kvs => .dT kvs
inductive En where
  | dat (d : Dt) | own (io : Bool) (o : Ow)
abbrev Rho := List (Option En)
def OwOk (K : Fr) (F H : Hp) (a : Addr) : Ow → Prop
  | .lst xs => ∃ vs, H a = some (.lst vs) ∧ RepAll K F vs xs
  | .dT kvs => ∃ vs, H a = some (.dT vs) ∧ RepKV K F vs kvs
theorem OwOk.mono {K : Fr} {F F' H H' : Hp} {a : Addr} {o : Ow} (e : Ext F F') (h : OwOk K F H a o) (ha : H' a = H a) : OwOk K F' H' a o := by
  cases o with
  | lst xs => obtain ⟨vs, h1, h2⟩ := h; exact ⟨vs, ha.trans h1, h2.mono e⟩
  | dT kvs => obtain ⟨vs, h1, h2⟩ := h; exact ⟨vs, ha.trans h1, h2.mono e⟩
theorem OwOk.there {K : Fr} {F H : Hp} {a : Addr} {o : Ow} (h : OwOk K F H a o) : ∃ u, H a = some u := by
  cases o with
  | lst xs => obtain ⟨vs, h1, h2⟩ := h; exact ⟨_, h1⟩
  | dT kvs => obtain ⟨vs, h1, h2⟩ := h; exact ⟨_, h1⟩
theorem OwOk.rep {K : Fr} {F H : Hp} {a : Addr} {o : Ow} (h : OwOk K F H a o) (u : HO) (hu : H a = some u) (ha : F a = none) : Rep K (upd F a u) (.ref a) o.dt := by
  cases o with
  | lst xs =>
    obtain ⟨vs, h1, h2⟩ := h
    rw [h1] at hu; cases hu
    exact .lst upd_same (h2.mono (Ext.new ha))
  | dT kvs =>
    obtain ⟨vs, h1, h2⟩ := h
    rw [h1] at hu; cases hu
    exact .dT upd_same (h2.mono (Ext.new ha))
/-- fixed through a def's body: the heap at its start, what is frozen there, the slots of things that it may change for its caller -/
structure PC where
  H0 : Hp
  F0 : Hp
  io : List (Nat × Addr)
  /-- what is being made, and no slot's -/
  keep : List (Addr × HO)
def EnOk (K : Fr) (C : PC) (F H : Hp) (i : Nat) (v : V) : En → Prop
  | .dat d => Rep K F v d
  | .own io o => ∃ a, v = .ref a ∧ F a = none ∧ OwOk K F H a o ∧ (if io = true then (i, a) ∈ C.io else C.H0 a = none)
structure Hd (K : Fr) (C : PC) (F : Hp) (ρ : Rho) (σ : L2.St) (H : Hp) : Prop where
  len : σ.length = ρ.length
  sub : Ext F H
  f0 : Ext C.F0 F
  new : ∀ a o, F a = some o → C.F0 a = some o ∨ C.H0 a = none
  old : ∀ a o, C.H0 a = some o → ∃ o', H a = some o' ∧ ((∀ i, (i, a) ∉ C.io) → o' = o)
  slot : ∀ (i : Nat) (e : En), ρ[i]? = some (some e) → ∃ v, σ[i]? = some (some v) ∧ EnOk K C F H i v e
  sep : ∀ (i j : Nat) (a : Addr) (b1 : Bool) (o1 : Ow) (b2 : Bool) (o2 : Ow), ρ[i]? = some (some (En.own b1 o1)) → ρ[j]? = some (some (En.own b2 o2)) → σ[i]? = some (some (V.ref a)) → σ[j]? = some (some (V.ref a)) → i = j
  kept : ∀ (a : Addr) (o : HO), (a, o) ∈ C.keep → H a = some o ∧ F a = none ∧ C.H0 a = none ∧ ∀ (i : Nat) (b : Bool) (o1 : Ow), ρ[i]? = some (some (En.own b o1)) → σ[i]? ≠ some (some (V.ref a))
section
variable {K : Fr} {C : PC} {F F' : Hp} {ρ : Rho} {σ : L2.St} {H H' : Hp}
theorem Hd.free0 (h : Hd K C F ρ σ H) {p : Addr} (hp : H p = none) : C.H0 p = none := by
  cases q : C.H0 p with
  | none => rfl
  | some o =>
    obtain ⟨o', h1, _⟩ := h.old p o q
    rw [hp] at h1; cases h1
/-- an owned slot's address -/
theorem Hd.ownAt (h : Hd K C F ρ σ H) {i : Nat} {io : Bool} {o : Ow} (hi : ρ[i]? = some (some (En.own io o))) :
    ∃ a, σ[i]? = some (some (V.ref a)) ∧ F a = none ∧ OwOk K F H a o ∧ (if io = true then (i, a) ∈ C.io else C.H0 a = none) := by
  obtain ⟨v, h1, a, rfl, h2⟩ := h.slot i _ hi
  exact ⟨a, h1, h2⟩
theorem Hd.datAt (h : Hd K C F ρ σ H) {i : Nat} {d : Dt} (hi : ρ[i]? = some (some (En.dat d))) : ∃ v, σ[i]? = some (some v) ∧ Rep K F v d := h.slot i _ hi
/-- the heap grows: all that was stands, the frozen part grows by new things alone -/
theorem Hd.grow (h : Hd K C F ρ σ H) (e : Ext F F') (s : Ext F' H') (nw : ∀ a o, F' a = some o → F a = some o ∨ H a = none) (k : Ext H H') : Hd K C F' ρ σ H' where
  len := h.len
  sub := s
  f0 := h.f0.trans e
  new := fun a o q => by
    rcases nw a o q with q | q
    · exact h.new a o q
    · exact .inr (h.free0 q)
  old := fun a o q => by
    obtain ⟨o', h1, h2⟩ := h.old a o q
    exact ⟨o', k a o' h1, h2⟩
  slot := fun i en q => by
    obtain ⟨v, h1, h2⟩ := h.slot i en q
    refine ⟨v, h1, ?_⟩
    cases en with
    | dat d => exact Rep.mono e h2
    | own io o =>
      obtain ⟨a, h3, h4, h5, h6⟩ := h2
      obtain ⟨u, hu⟩ := h5.there
      refine ⟨a, h3, ?_, h5.mono e ((k a u hu).trans hu.symm), h6⟩
      cases q' : F' a with
      | none => rfl
      | some w =>
        rcases nw a w q' with z | z
        · rw [h4] at z; cases z
        · rw [hu] at z; cases z
  sep := h.sep
  kept := fun a o q => by
    obtain ⟨k1, k2, k3, k4⟩ := h.kept a o q
    refine ⟨k a o k1, ?_, k3, k4⟩
    cases q' : F' a with
    | none => rfl
    | some w =>
      rcases nw a w q' with z | z
      · rw [k2] at z; cases z
      · rw [k1] at z; cases z
/-- a new object, frozen from the start -/
theorem Hd.alloc (h : Hd K C F ρ σ H) {p : Addr} (hp : H p = none) (o : HO) : Hd K C (upd F p o) ρ σ (upd H p o) := by
  have fp := h.sub.free hp
  refine h.grow (Ext.new fp) (h.sub.upd2) (fun a u q => ?_) (Ext.new hp)
  by_cases e : a = p
  · subst e; exact .inr hp
  · rw [upd_ne e] at q; exact .inl q
/-- a new object that is not frozen -/
theorem Hd.lay (h : Hd K C F ρ σ H) {p : Addr} (hp : H p = none) (o : HO) : Hd K C F ρ σ (upd H p o) :=
  h.grow (Ext.refl F) (h.sub.trans (Ext.new hp)) (fun _ _ q => .inl q) (Ext.new hp)
/-- a slot is frozen -/
theorem Hd.freeze (h : Hd K C F ρ σ H) {i : Nat} {o : Ow} (hi : ρ[i]? = some (some (En.own false o))) :
    ∃ v F1, σ[i]? = some (some v) ∧ Ext F F1 ∧ Rep K F1 v o.dt ∧ Hd K C F1 (ρ.set i (some (En.dat o.dt))) σ H := by
  obtain ⟨a, h1, h2, h3, h4⟩ := h.ownAt hi
  have h4 : C.H0 a = none := h4
  obtain ⟨u, hu⟩ := h3.there
  have hR := h3.rep u hu h2
  refine ⟨_, upd F a u, h1, Ext.new h2, hR, ?_⟩
  have hil : i < ρ.length := (List.getElem?_eq_some_iff.mp hi).1
  refine ⟨by rw [List.length_set]; exact h.len, fun b w q => ?_, h.f0.trans (Ext.new h2), fun b w q => ?_, h.old, fun j en q => ?_, fun j k b b1 o1 b2 o2 q1 q2 q3 q4 => ?_, fun b w q => ?_⟩
  · by_cases e : b = a
    · subst e; rw [upd_same] at q; cases q; exact hu
    · rw [upd_ne e] at q; exact h.sub b w q
  · by_cases e : b = a
    · subst e; exact .inr h4
    · rw [upd_ne e] at q; exact h.new b w q
  · by_cases e : i = j
    · subst e
      rw [List.getElem?_set_self hil] at q
      cases q
      exact ⟨_, h1, hR⟩
    · rw [List.getElem?_set_ne e] at q
      obtain ⟨v, g1, g2⟩ := h.slot j en q
      refine ⟨v, g1, ?_⟩
      cases en with
      | dat d => exact Rep.mono (Ext.new h2) g2
      | own io o' =>
        obtain ⟨b, g3, g4, g5, g6⟩ := g2
        subst g3
        have ne : b ≠ a := fun z => by
          subst z
          exact e (h.sep i j b _ _ _ _ hi q h1 g1)
        refine ⟨b, rfl, by rw [upd_ne ne]; exact g4, g5.mono (Ext.new h2) rfl, g6⟩
  · have nj : i ≠ j := fun z => by
      subst z
      rw [List.getElem?_set_self hil] at q1; cases q1
    have nk : i ≠ k := fun z => by
      subst z
      rw [List.getElem?_set_self hil] at q2; cases q2
    rw [List.getElem?_set_ne nj] at q1
    rw [List.getElem?_set_ne nk] at q2
    exact h.sep j k b _ _ _ _ q1 q2 q3 q4
  · obtain ⟨k1, k2, k3, k4⟩ := h.kept b w q
    have ne : b ≠ a := fun e => k4 i _ _ hi (e ▸ h1)
    refine ⟨k1, by rw [upd_ne ne]; exact k2, k3, fun j b1 o1 q1 => ?_⟩
    by_cases e : i = j
    · subst e
      rw [List.getElem?_set_self hil] at q1; cases q1
    · rw [List.getElem?_set_ne e] at q1
      exact k4 j _ _ q1
/-- is slot i free to be stored to: not one that the caller lent -/
def noio (ρ : Rho) (i : Nat) : Bool := match ρ[i]? with
  | some (some (En.own true _)) => false
  | some _ => true
  | none => false
theorem noio_lt {i : Nat} (h : noio ρ i = true) : i < ρ.length := by
  unfold noio at h
  cases q : ρ[i]? with
  | none => rw [q] at h; cases h
  | some x => exact (List.getElem?_eq_some_iff.mp q).1
/-- a slot takes data -/
theorem Hd.setDat (h : Hd K C F ρ σ H) {i : Nat} (hi : i < ρ.length) {v : V} {d : Dt} (r : Rep K F v d) : Hd K C F (ρ.set i (some (En.dat d))) (σ.set i (some v)) H := by
  have hs : i < σ.length := by rw [h.len]; exact hi
  refine ⟨by rw [List.length_set, List.length_set]; exact h.len, h.sub, h.f0, h.new, h.old, fun j en q => ?_, fun j k b b1 o1 b2 o2 q1 q2 q3 q4 => ?_, fun b w q => ?_⟩
  · by_cases e : i = j
    · subst e
      rw [List.getElem?_set_self hi] at q
      cases q
      exact ⟨v, List.getElem?_set_self hs, r⟩
    · rw [List.getElem?_set_ne e] at q ⊢
      exact h.slot j en q
  · have nj : i ≠ j := fun z => by
      subst z
      rw [List.getElem?_set_self hi] at q1; cases q1
    have nk : i ≠ k := fun z => by
      subst z
      rw [List.getElem?_set_self hi] at q2; cases q2
    rw [List.getElem?_set_ne nj] at q1 q3
    rw [List.getElem?_set_ne nk] at q2 q4
    exact h.sep j k b _ _ _ _ q1 q2 q3 q4
  · obtain ⟨k1, k2, k3, k4⟩ := h.kept b w q
    refine ⟨k1, k2, k3, fun j b1 o1 q1 => ?_⟩
    by_cases e : i = j
    · subst e
      rw [List.getElem?_set_self hi] at q1; cases q1
    · rw [List.getElem?_set_ne e] at q1 ⊢
      exact k4 j _ _ q1
/-- an object that no slot owns -/
def Fresh (K : Fr) (C : PC) (F : Hp) (ρ : Rho) (σ : L2.St) (H : Hp) (a : Addr) (o : Ow) : Prop :=
  F a = none ∧ C.H0 a = none ∧ OwOk K F H a o ∧ (∀ (i : Nat) (b1 : Bool) (o1 : Ow), ρ[i]? = some (some (En.own b1 o1)) → σ[i]? ≠ some (some (V.ref a))) ∧ ∀ w, (a, w) ∉ C.keep
theorem Fresh.of_new (h : Hd K C F ρ σ H) {p : Addr} (hp : H p = none) {u : HO} {o : Ow} (ho : OwOk K F (upd H p u) p o) : Fresh K C F ρ σ (upd H p u) p o := by
  refine ⟨h.sub.free hp, h.free0 hp, ho, fun i b1 o1 q e => ?_, fun w q => ?_⟩
  · obtain ⟨a, h1, h2, h3, h4⟩ := h.ownAt q
    rw [e] at h1; cases h1
    obtain ⟨w, hw⟩ := h3.there
    rw [hp] at hw; cases hw
  · have := (h.kept p w q).1
    rw [hp] at this; cases this
/-- a slot takes a thing of its own -/
theorem Hd.setOwn (h : Hd K C F ρ σ H) {i : Nat} (hi : i < ρ.length) {a : Addr} {o : Ow} (f : Fresh K C F ρ σ H a o) : Hd K C F (ρ.set i (some (En.own false o))) (σ.set i (some (.ref a))) H := by
  obtain ⟨f1, f2, f3, f4, f5⟩ := f
  have hs : i < σ.length := by rw [h.len]; exact hi
  refine ⟨by rw [List.length_set, List.length_set]; exact h.len, h.sub, h.f0, h.new, h.old, fun j en q => ?_, fun j k b b1 o1 b2 o2 q1 q2 q3 q4 => ?_, fun b w q => ?_⟩
  · by_cases e : i = j
    · subst e
      rw [List.getElem?_set_self hi] at q
      cases q
      exact ⟨_, List.getElem?_set_self hs, a, rfl, f1, f3, f2⟩
    · rw [List.getElem?_set_ne e] at q ⊢
      exact h.slot j en q
  · by_cases ej : i = j
    · by_cases ek : i = k
      · exact ej.symm.trans ek
      · subst ej
        rw [List.getElem?_set_self hs] at q3
        cases q3
        rw [List.getElem?_set_ne ek] at q2 q4
        exact absurd q4 (f4 k _ _ q2)
    · by_cases ek : i = k
      · subst ek
        rw [List.getElem?_set_self hs] at q4
        cases q4
        rw [List.getElem?_set_ne ej] at q1 q3
        exact absurd q3 (f4 j _ _ q1)
      · rw [List.getElem?_set_ne ej] at q1 q3
        rw [List.getElem?_set_ne ek] at q2 q4
        exact h.sep j k b _ _ _ _ q1 q2 q3 q4
  · obtain ⟨k1, k2, k3, k4⟩ := h.kept b w q
    refine ⟨k1, k2, k3, fun j b1 o1 q1 => ?_⟩
    by_cases e : i = j
    · subst e
      rw [List.getElem?_set_self hs]
      intro z
      cases z
      exact f5 _ q
    · rw [List.getElem?_set_ne e] at q1 ⊢
      exact k4 j _ _ q1
/-- a slot is forgotten -/
theorem Hd.forget (h : Hd K C F ρ σ H) (i : Nat) : Hd K C F (ρ.set i none) σ H := by
  refine ⟨by rw [List.length_set]; exact h.len, h.sub, h.f0, h.new, h.old, fun j en q => ?_, fun j k b b1 o1 b2 o2 q1 q2 q3 q4 => ?_, fun b w q => ?_⟩
  · by_cases e : i = j
    · subst e
      rw [List.getElem?_set] at q
      simp at q
    · rw [List.getElem?_set_ne e] at q
      exact h.slot j en q
  · have nj : i ≠ j := fun z => by
      subst z
      rw [List.getElem?_set] at q1; simp at q1
    have nk : i ≠ k := fun z => by
      subst z
      rw [List.getElem?_set] at q2; simp at q2
    rw [List.getElem?_set_ne nj] at q1
    rw [List.getElem?_set_ne nk] at q2
    exact h.sep j k b _ _ _ _ q1 q2 q3 q4
  · obtain ⟨k1, k2, k3, k4⟩ := h.kept b w q
    refine ⟨k1, k2, k3, fun j b1 o1 q1 => ?_⟩
    by_cases e : i = j
    · subst e
      rw [List.getElem?_set] at q1; simp at q1
    · rw [List.getElem?_set_ne e] at q1
      exact k4 j _ _ q1
/-- the thing of a slot is changed -/
theorem Hd.change (h : Hd K C F ρ σ H) {i : Nat} {io : Bool} {o o' : Ow} (hi : ρ[i]? = some (some (En.own io o))) {a : Addr} (ha : σ[i]? = some (some (V.ref a))) {u : HO} (ho : OwOk K F (upd H a u) a o') :
    Hd K C F (ρ.set i (some (En.own io o'))) σ (upd H a u) := by
  obtain ⟨a', h1, h2, h3, h4⟩ := h.ownAt hi
  rw [ha] at h1
  have e1 : a' = a := by injection h1 with h1; injection h1 with h1; injection h1 with h1; exact h1.symm
  subst e1
  have hil : i < ρ.length := (List.getElem?_eq_some_iff.mp hi).1
  refine ⟨by rw [List.length_set]; exact h.len, h.sub.mut h2, h.f0, h.new, fun b w q => ?_, fun j en q => ?_, fun j k b b1 o1 b2 o2 q1 q2 q3 q4 => ?_, fun b w q => ?_⟩
  · by_cases e : b = a'
    · subst e
      refine ⟨u, upd_same, fun hn => ?_⟩
      cases io with
      | true => exact absurd h4 (hn i)
      | false =>
        have h4 : C.H0 b = none := h4
        rw [h4] at q; cases q
    · rw [upd_ne e]; exact h.old b w q
  · by_cases e : i = j
    · subst e
      rw [List.getElem?_set_self hil] at q
      cases q
      exact ⟨_, ha, a', rfl, h2, ho, h4⟩
    · rw [List.getElem?_set_ne e] at q
      obtain ⟨v, g1, g2⟩ := h.slot j en q
      refine ⟨v, g1, ?_⟩
      cases en with
      | dat d => exact g2
      | own io2 o2 =>
        obtain ⟨b, g3, g4, g5, g6⟩ := g2
        subst g3
        have ne : b ≠ a' := fun z => by
          subst z
          exact e (h.sep i j b _ _ _ _ hi q ha g1)
        exact ⟨b, rfl, g4, g5.mono (Ext.refl F) (upd_ne ne), g6⟩
  · by_cases ej : i = j
    · by_cases ek : i = k
      · exact ej.symm.trans ek
      · subst ej
        rw [List.getElem?_set_ne ek] at q2
        exact h.sep i k b _ _ _ _ hi q2 q3 q4
    · by_cases ek : i = k
      · subst ek
        rw [List.getElem?_set_ne ej] at q1
        exact h.sep j i b _ _ _ _ q1 hi q3 q4
      · rw [List.getElem?_set_ne ej] at q1
        rw [List.getElem?_set_ne ek] at q2
        exact h.sep j k b _ _ _ _ q1 q2 q3 q4
  · obtain ⟨k1, k2, k3, k4⟩ := h.kept b w q
    have ne : b ≠ a' := fun e => k4 i _ _ hi (e ▸ ha)
    refine ⟨by rw [upd_ne ne]; exact k1, k2, k3, fun j b1 o1 q1 => ?_⟩
    by_cases e : i = j
    · subst e
      exact k4 i _ _ hi
    · rw [List.getElem?_set_ne e] at q1
      exact k4 j _ _ q1
end
end Wk
namespace Wk
open PySem L2
/-! ### what a def's body wants of an error: the concrete wish and the plain one -/
structure Wx where
  xk : XK
  ex : Addr → List (Str × Dt) → Prop
def Wx.none : Wx := ⟨fun _ _ _ => False, fun _ _ => False⟩
def RepF (K : Fr) (F : Hp) : List (Str × V) → List (Str × Dt) → Prop := Paired fun p q => p.1 = q.1 ∧ Rep K F p.2 q.2
def COk (K : Fr) (C : PC) (W : Wx) : Prop := ∀ (c dd : Addr) (fs : List (Str × Dt)) (vs : List (Str × V)) (F H : Hp), W.ex c fs → RepF K F vs fs → Ext C.F0 F → Ext F H →
  (∀ a o, F a = some o → C.F0 a = some o ∨ C.H0 a = none) → (∀ a o, C.H0 a = some o → ∃ o', H a = some o' ∧ ((∀ i, (i, a) ∉ C.io) → o' = o)) → (∀ (a : Addr) (o : HO), (a, o) ∈ C.keep → H a = some o ∧ F a = none ∧ C.H0 a = none ∧ a ≠ dd) → H dd = some (.xd vs) → C.H0 dd = none → W.xk (.ref c) (some dd) H
/-! ### views -/
inductive Vw where
  | slot (i : Nat) | dat (d : Dt)
def look (ρ : Rho) : Vw → Option Dt
  | .dat d => some d
  | .slot i => match ρ[i]? with
    | some (some (.dat d)) => some d
    | some (some (.own _ o)) => some o.dt
    | _ => Option.none
def VwOk (K : Fr) (F : Hp) (σ : L2.St) (v : V) : Vw → Prop
  | .slot i => σ[i]? = some (some v)
  | .dat d => Rep K F v d
/-- what stands at v, its items frozen -/
def TopOk (K : Fr) (F H : Hp) (v : V) : Dt → Prop
  | .lst xs => ∃ a vs, v = .ref a ∧ H a = some (.lst vs) ∧ RepAll K F vs xs
  | .tup xs => ∃ a vs, v = .ref a ∧ H a = some (.tup vs) ∧ RepAll K F vs xs
  | .scr ns => ∃ a, v = .ref a ∧ SqL K H a (ns.map V.int)
  | .dT kvs => ∃ a vs, v = .ref a ∧ H a = some (.dT vs) ∧ RepKV K F vs kvs
  | d => Rep K F v d
theorem Rep.top {K : Fr} {F H : Hp} {v : V} {d : Dt} (e : Ext F H) (h : Rep K F v d) : TopOk K F H v d := by
  cases h with
  | non => exact Rep.non
  | bl b => exact Rep.bl b
  | int i => exact Rep.int i
  | str x => exact Rep.str x
  | lst h r => exact ⟨_, _, rfl, e _ _ h, r⟩
  | tup h r => exact ⟨_, _, rfl, e _ _ h, r⟩
  | scr h => exact ⟨_, rfl, e.l h⟩
  | dT h r => exact ⟨_, _, rfl, e _ _ h, r⟩
  | exc h r => exact Rep.exc h r
theorem OwOk.top {K : Fr} {F H : Hp} {a : Addr} {o : Ow} (h : OwOk K F H a o) : TopOk K F H (.ref a) o.dt := by
  cases o with
  | lst xs => obtain ⟨vs, h1, h2⟩ := h; exact ⟨a, vs, rfl, h1, h2⟩
  | dT kvs => obtain ⟨vs, h1, h2⟩ := h; exact ⟨a, vs, rfl, h1, h2⟩
theorem VwOk.mono {K : Fr} {F F' : Hp} {σ : L2.St} {v : V} {w : Vw} (e : Ext F F') (h : VwOk K F σ v w) : VwOk K F' σ v w := by
  cases w with
  | slot i => exact h
  | dat d => exact Rep.mono e h
theorem Hd.view {K : Fr} {C : PC} {F : Hp} {ρ : Rho} {σ : L2.St} {H : Hp} (h : Hd K C F ρ σ H) {v : V} {w : Vw} (hv : VwOk K F σ v w) {d : Dt} (hl : look ρ w = some d) : TopOk K F H v d := by
  cases w with
  | dat d' =>
    cases hl
    exact Rep.top h.sub hv
  | slot i =>
    have hv : σ[i]? = some (some v) := hv
    unfold look at hl
    dsimp only at hl
    cases q : ρ[i]? with
    | none => rw [q] at hl; cases hl
    | some x =>
      cases x with
      | none => rw [q] at hl; cases hl
      | some en =>
        cases en with
        | dat d' =>
          rw [q] at hl
          cases hl
          obtain ⟨v', h1, h2⟩ := h.datAt q
          rw [hv] at h1; cases h1
          exact Rep.top h.sub h2
        | own io o =>
          rw [q] at hl
          cases hl
          obtain ⟨a, h1, h2, h3, h4⟩ := h.ownAt q
          rw [hv] at h1; cases h1
          exact h3.top
def seqOf : Dt → Option (List Dt)
  | .lst xs => some xs
  | .tup xs => some xs
  | .scr ns => some (ns.map Dt.int)
  | _ => Option.none
/-- a sequence: a list or a tuple whose items are told -/
theorem TopOk.seq {K : Fr} {F H : Hp} {v : V} {d : Dt} (h : TopOk K F H v d) {xs : List Dt} (hs : seqOf d = some xs) : ∃ a vs, v = .ref a ∧ (SqL K H a vs ∨ SqT K H a vs) ∧ RepAll K F vs xs := by
  cases d with
  | lst ys => cases hs; obtain ⟨a, vs, rfl, h1, h2⟩ := h; exact ⟨a, vs, rfl, .inl (SqL.of h1), h2⟩
  | tup ys => cases hs; obtain ⟨a, vs, rfl, h1, h2⟩ := h; exact ⟨a, vs, rfl, .inr (SqT.of h1), h2⟩
  | scr ns => cases hs; obtain ⟨a, rfl, h1⟩ := h; exact ⟨a, _, rfl, .inl h1, RepAll.ofInts ns⟩
  | non => cases hs
  | bl b => cases hs
  | int i => cases hs
  | str x => cases hs
  | dT k => cases hs
  | exc _ _ _ _ => cases hs
/-! ### the plain readings -/
abbrev PTE := Rho → (Dt → Rho → Prop) → Prop
abbrev PTF := Rho → (Ow → Rho → Prop) → Prop
abbrev PTV := Rho → (Vw → Rho → Prop) → Prop
abbrev PTT := Rho → (Bool → Rho → Prop) → Prop
abbrev PTA := Rho → (List Vw → Rho → Prop) → Prop
abbrev PTO := Rho → (Option Int → Rho → Prop) → Prop
def SimE (K : Fr) (W : Wx) (te : TE) (t : PTE) : Prop := ∀ (C : PC), COk K C W → ∀ (ρ : Rho) (P : Dt → Rho → Prop), t ρ P → ∀ (F : Hp) (σ : L2.St) (H : Hp), Hd K C F ρ σ H → ∀ Q : VK,
  (∀ d ρ' v F' H', P d ρ' → Ext F F' → Hd K C F' ρ' σ H' → Rep K F' v d → Q v H') → te σ H Q
def SimF (K : Fr) (W : Wx) (te : TE) (t : PTF) : Prop := ∀ (C : PC), COk K C W → ∀ (ρ : Rho) (P : Ow → Rho → Prop), t ρ P → ∀ (F : Hp) (σ : L2.St) (H : Hp), Hd K C F ρ σ H → ∀ Q : VK,
  (∀ o ρ' a F' H', P o ρ' → Ext F F' → Hd K C F' ρ' σ H' → Fresh K C F' ρ' σ H' a o → Q (.ref a) H') → te σ H Q
def SimV (K : Fr) (W : Wx) (te : TE) (t : PTV) : Prop := ∀ (C : PC), COk K C W → ∀ (ρ : Rho) (P : Vw → Rho → Prop), t ρ P → ∀ (F : Hp) (σ : L2.St) (H : Hp), Hd K C F ρ σ H → ∀ Q : VK,
  (∀ w ρ' v F' H', P w ρ' → Ext F F' → Hd K C F' ρ' σ H' → VwOk K F' σ v w → Q v H') → te σ H Q
def SimT (K : Fr) (W : Wx) (tt : TT) (t : PTT) : Prop := ∀ (C : PC), COk K C W → ∀ (ρ : Rho) (P : Bool → Rho → Prop), t ρ P → ∀ (F : Hp) (σ : L2.St) (H : Hp), Hd K C F ρ σ H → ∀ Q : Bool → Hp → Prop,
  (∀ b ρ' F' H', P b ρ' → Ext F F' → Hd K C F' ρ' σ H' → Q b H') → tt σ H Q
abbrev VwsOk (K : Fr) (F : Hp) (σ : L2.St) : List V → List Vw → Prop := Paired (VwOk K F σ)
def SimA (K : Fr) (W : Wx) (ta : TA) (t : PTA) : Prop := ∀ (C : PC), COk K C W → ∀ (ρ : Rho) (P : List Vw → Rho → Prop), t ρ P → ∀ (F : Hp) (σ : L2.St) (H : Hp), Hd K C F ρ σ H → ∀ Q : List V → Hp → Prop,
  (∀ ws ρ' vs F' H', P ws ρ' → Ext F F' → Hd K C F' ρ' σ H' → VwsOk K F' σ vs ws → Q vs H') → ta σ H Q
def SimO (K : Fr) (W : Wx) (to : TO) (t : PTO) : Prop := ∀ (C : PC), COk K C W → ∀ (ρ : Rho) (P : Option Int → Rho → Prop), t ρ P → ∀ (F : Hp) (σ : L2.St) (H : Hp), Hd K C F ρ σ H → ∀ Q : Option Int → Hp → Prop,
  (∀ o ρ' F' H', P o ρ' → Ext F F' → Hd K C F' ρ' σ H' → Q o H') → to σ H Q
structure PD (X : Cx) (W : Wx) (e : Expr) (te : TE) (t : PTE) : Prop where
  pe : PE X e te
  sim : SimE X.K W te t
structure PF (X : Cx) (W : Wx) (e : Expr) (te : TE) (t : PTF) : Prop where
  pe : PE X e te
  sim : SimF X.K W te t
structure PV (X : Cx) (W : Wx) (e : Expr) (te : TE) (t : PTV) : Prop where
  pe : PE X e te
  sim : SimV X.K W te t
structure PDT (X : Cx) (W : Wx) (e : Expr) (tt : TT) (t : PTT) : Prop where
  pt : PT X e tt
  sim : SimT X.K W tt t
structure PDW (X : Cx) (W : Wx) (e : Expr) (tt : TT) (t : PTT) : Prop where
  pw : PW X e tt
  sim : SimT X.K W tt t
structure PAr (X : Cx) (W : Wx) (es : List Expr) (ta : TA) (t : PTA) : Prop where
  pa : PA X es ta
  sim : SimA X.K W ta t
structure POr (X : Cx) (W : Wx) (e : Option Expr) (to : TO) (t : PTO) : Prop where
  po : PO X e to
  sim : SimO X.K W to t
section
variable {X : Cx} {W : Wx} {a b c : Expr} {e : Expr} {es : List Expr} {ta tb tc te : TE} {pa pb pc pe : PTE} {pos : Pos}
/-! ### names, constants -/
def pVar (i : Nat) : PTE := fun ρ P => match ρ[i]? with
  | some (some (.dat d)) => P d ρ
  | some (some (.own false o)) => P o.dt (ρ.set i (some (.dat o.dt)))
  | _ => False
theorem simVar {K : Fr} {i : Nat} : SimE K W (tVar i) (pVar i) := by
  intro C _ ρ P h F σ H hd Q q
  unfold pVar at h
  cases r : ρ[i]? with
  | none => rw [r] at h; exact h.elim
  | some x =>
    cases x with
    | none => rw [r] at h; exact h.elim
    | some en =>
      cases en with
      | dat d =>
        rw [r] at h
        obtain ⟨v, h1, h2⟩ := hd.datAt r
        exact ⟨v, h1, q d ρ v F H h (Ext.refl F) hd h2⟩
      | own io o =>
        cases io with
        | true => rw [r] at h; exact h.elim
        | false =>
          rw [r] at h
          obtain ⟨v, F1, h1, h2, h3, h4⟩ := hd.freeze r
          exact ⟨v, h1, q _ _ v F1 H h h2 h4 h3⟩
theorem pd_var (i : Nat) {x : Str} (hN : X.N[i]? = some x := by rfl) (hv : Vis X.env.scope x := by first | exact Or.inl rfl | exact Or.inr (Or.inl rfl) | exact Or.inr (Or.inr rfl)) (hd : (x == ("__debug__" : Str)) = false := by decide)
    (hcd : (x == ("__classdict__" : Str)) = false := by decide) : PD X W (.Name x pos) (tVar i) (pVar i) := ⟨pe_var hN hv hd hcd, simVar⟩
def pC (d : Dt) : PTE := fun ρ P => P d ρ
theorem simC {K : Fr} {v : V} {d : Dt} (r : ∀ F, Rep K F v d) : SimE K W (tC v) (pC d) := fun C _ ρ P h F σ H hd Q q => q d ρ v F H h (Ext.refl F) hd (r F)
theorem pd_int {i j} : PD X W (.Constant (.int i) j pos) (tC (.int i)) (pC (.int i)) := ⟨pe_int, simC fun _ => .int i⟩
theorem pd_bl {i j} : PD X W (.Constant (.bool i) j pos) (tC (.bl i)) (pC (.bl i)) := ⟨pe_bl, simC fun _ => .bl i⟩
theorem pd_non {j} : PD X W (.Constant .none j pos) (tC .non) (pC .non) := ⟨pe_non, simC fun _ => .non⟩
theorem pd_str {x j} : PD X W (.Constant (.str x) j pos) (tC (.str x)) (pC (.str x)) := ⟨pe_str, simC fun _ => .str x⟩
/-- a module's whole number -/
theorem pd_gint {x : Str} {i : Int} {u : Value} (hm : X.mg x = some u) (r : RelV (.int i) u) (hg : Gl X x := by rfl) (hd : (x == ("__debug__" : Str)) = false := by decide) : PD X W (.Name x pos) (tC (.int i)) (pC (.int i)) := ⟨pe_glob hg hm r hd, simC fun _ => .int i⟩
/-! ### from a thing of one's own to data; views -/
theorem freezeFresh {K : Fr} {C : PC} {F : Hp} {ρ : Rho} {σ : L2.St} {H : Hp} (h : Hd K C F ρ σ H) {a : Addr} {o : Ow} (f : Fresh K C F ρ σ H a o) : ∃ F1, Ext F F1 ∧ Rep K F1 (.ref a) o.dt ∧ Hd K C F1 ρ σ H := by
  obtain ⟨f1, f2, f3, f4, f5⟩ := f
  obtain ⟨u, hu⟩ := f3.there
  refine ⟨upd F a u, Ext.new f1, f3.rep u hu f1, h.len, fun b w q => ?_, h.f0.trans (Ext.new f1), fun b w q => ?_, h.old, fun j en q => ?_, h.sep, fun b w q => ?_⟩
  · by_cases e : b = a
    · subst e; rw [upd_same] at q; cases q; exact hu
    · rw [upd_ne e] at q; exact h.sub b w q
  · by_cases e : b = a
    · subst e; exact .inr f2
    · rw [upd_ne e] at q; exact h.new b w q
  · obtain ⟨v, g1, g2⟩ := h.slot j en q
    refine ⟨v, g1, ?_⟩
    cases en with
    | dat d => exact Rep.mono (Ext.new f1) g2
    | own io o' =>
      obtain ⟨b, g3, g4, g5, g6⟩ := g2
      subst g3
      have ne : b ≠ a := fun z => by
        subst z
        exact f4 j _ _ q g1
      exact ⟨b, rfl, by rw [upd_ne ne]; exact g4, g5.mono (Ext.new f1) rfl, g6⟩
  · obtain ⟨k1, k2, k3, k4⟩ := h.kept b w q
    have ne : b ≠ a := fun e => f5 w (e ▸ q)
    exact ⟨k1, by rw [upd_ne ne]; exact k2, k3, k4⟩
def pFrz (t : PTF) : PTE := fun ρ P => t ρ fun o ρ1 => P o.dt ρ1
theorem PF.pd {t : PTF} (h : PF X W e te t) : PD X W e te (pFrz t) := ⟨h.pe, fun C ok ρ P hp F σ H hd Q q => h.sim C ok ρ _ hp F σ H hd Q fun o ρ' a F' H' hP eF hd' f => by
  obtain ⟨F1, e1, r1, hd1⟩ := freezeFresh hd' f
  exact q _ _ _ F1 H' hP (eF.trans e1) hd1 r1⟩
def pvN (i : Nat) : PTV := fun ρ P => match ρ[i]? with
  | some (some _) => P (.slot i) ρ
  | _ => False
theorem pv_name (i : Nat) {x : Str} (hN : X.N[i]? = some x := by rfl) (hv : Vis X.env.scope x := by first | exact Or.inl rfl | exact Or.inr (Or.inl rfl) | exact Or.inr (Or.inr rfl)) (hd : (x == ("__debug__" : Str)) = false := by decide)
    (hcd : (x == ("__classdict__" : Str)) = false := by decide) : PV X W (.Name x pos) (tVar i) (pvN i) := ⟨pe_var hN hv hd hcd, by
  intro C _ ρ P h F σ H hd Q q
  unfold pvN at h
  cases r : ρ[i]? with
  | none => rw [r] at h; exact h.elim
  | some x =>
    cases x with
    | none => rw [r] at h; exact h.elim
    | some en =>
      rw [r] at h
      obtain ⟨v, h1, h2⟩ := hd.slot i en r
      exact ⟨v, h1, q _ ρ v F H h (Ext.refl F) hd h1⟩⟩
def pvD (t : PTE) : PTV := fun ρ P => t ρ fun d ρ1 => P (.dat d) ρ1
theorem PD.pv {t : PTE} (h : PD X W e te t) : PV X W e te (pvD t) := ⟨h.pe, fun C ok ρ P hp F σ H hd Q q => h.sim C ok ρ _ hp F σ H hd Q fun d ρ' v F' H' hP eF hd' r => q _ _ _ F' H' hP eF hd' r⟩
/-! ### operators -/
abbrev Op2 := Dt → Dt → (Dt → Prop) → Prop
/-- the operator does not touch the heap -/
def OpSim (K : Fr) (r : R2) (f : Op2) : Prop := ∀ (F H : Hp) (x y : V) (d e : Dt) (P : Dt → Prop) (Q : VK), Ext F H → Rep K F x d → Rep K F y e → f d e P → (∀ v z, P z → Rep K F v z → Q v H) → r x y H Q
def pOp (f : Op2) (pa pb : PTE) : PTE := fun ρ P => pa ρ fun d ρ1 => pb ρ1 fun e ρ2 => f d e fun z => P z ρ2
theorem simOp {K : Fr} {r : R2} {f : Op2} (ho : OpSim K r f) (ha : SimE K W ta pa) (hb : SimE K W tb pb) : SimE K W (tOp r ta tb) (pOp f pa pb) := fun C ok ρ P h F σ H hd Q q =>
  ha C ok ρ _ h F σ H hd _ fun d ρ1 x F1 H1 h1 e1 hd1 r1 => hb C ok ρ1 _ h1 F1 σ H1 hd1 _ fun z ρ2 y F2 H2 h2 e2 hd2 r2 =>
    ho F2 H2 x y d z _ Q hd2.sub (r1.mono e2) r2 h2 fun v w hw rw => q w ρ2 v F2 H2 hw (e1.trans e2) hd2 rw
theorem pd_op {op : Operator} {r : R2} {f : Op2} (hs : OpSim X.K r f) (ho : OpR X (binaryOp op) r) (ha : PD X W a ta pa) (hb : PD X W b tb pb) : PD X W (.BinOp a op b pos) (tOp r ta tb) (pOp f pa pb) := ⟨pe_op ho ha.pe hb.pe, simOp hs ha.sim hb.sim⟩
theorem pd_cmp {op : CmpOp} {r : R2} {f : Op2} (hs : OpSim X.K r f) (ho : OpR X (compareOp op) r) (ha : PD X W a ta pa) (hb : PD X W b tb pb) (hm : behindInMarks op b = false := by first | exact nomark _ | rfl) : PD X W (.Compare a [op] [b] pos) (tOp r ta tb) (pOp f pa pb) :=
  ⟨pe_cmpR ho ha.pe hb.pe hm, simOp hs ha.sim hb.sim⟩
/-- ints in, under a condition -/
def fI (C : Int → Int → Prop) (g : Int → Int → Dt) : Op2 := fun d e P => ∃ i j, d = .int i ∧ e = .int j ∧ C i j ∧ P (g i j)
def fI0 (g : Int → Int → Dt) : Op2 := fun d e P => ∃ i j, d = .int i ∧ e = .int j ∧ P (g i j)
theorem simI {K : Fr} {C : Int → Int → Prop} {g : Int → Int → V} {g' : Int → Int → Dt} (hg : ∀ F i j, Rep K F (g i j) (g' i j)) : OpSim K (rI C g) (fI C g') := by
  intro F H x y d e P Q _ rx ry ⟨i, j, e1, e2, hc, hp⟩ q
  subst e1; subst e2
  cases rx; cases ry
  exact ⟨i, j, rfl, rfl, hc, q _ _ hp (hg F i j)⟩
theorem simI0 {K : Fr} {g : Int → Int → V} {g' : Int → Int → Dt} (hg : ∀ F i j, Rep K F (g i j) (g' i j)) : OpSim K (rI0 g) (fI0 g') := by
  intro F H x y d e P Q _ rx ry ⟨i, j, e1, e2, hp⟩ q
  subst e1; subst e2
  cases rx; cases ry
  exact ⟨i, j, rfl, rfl, q _ _ hp (hg F i j)⟩
theorem pd_add (ha : PD X W a ta pa) (hb : PD X W b tb pb) : PD X W (.BinOp a .Add b pos) (tOp (rI0 fun i j => .int (i + j)) ta tb) (pOp (fI0 fun i j => .int (i + j)) pa pb) := pd_op (simI0 fun _ _ _ => .int _) op_add ha hb
theorem pd_sub (ha : PD X W a ta pa) (hb : PD X W b tb pb) : PD X W (.BinOp a .Sub b pos) (tOp (rI0 fun i j => .int (i - j)) ta tb) (pOp (fI0 fun i j => .int (i - j)) pa pb) := pd_op (simI0 fun _ _ _ => .int _) op_sub ha hb
theorem pd_mul (ha : PD X W a ta pa) (hb : PD X W b tb pb) : PD X W (.BinOp a .Mult b pos) (tOp (rI CMul fun i j => .int (i * j)) ta tb) (pOp (fI CMul fun i j => .int (i * j)) pa pb) := pd_op (simI fun _ _ _ => .int _) op_mul ha hb
theorem pd_fdiv (ha : PD X W a ta pa) (hb : PD X W b tb pb) : PD X W (.BinOp a .FloorDiv b pos) (tOp (rI CDiv fun i j => .int (i / j)) ta tb) (pOp (fI CDiv fun i j => .int (i / j)) pa pb) := pd_op (simI fun _ _ _ => .int _) op_fdiv ha hb
theorem pd_mod (ha : PD X W a ta pa) (hb : PD X W b tb pb) : PD X W (.BinOp a .Mod b pos) (tOp (rI (fun _ j => 0 < j) fun i j => .int (i % j)) ta tb) (pOp (fI (fun _ j => 0 < j) fun i j => .int (i % j)) pa pb) := pd_op (simI fun _ _ _ => .int _) op_mod ha hb
theorem pd_pow (ha : PD X W a ta pa) (hb : PD X W b tb pb) : PD X W (.BinOp a .Pow b pos) (tOp (rI CPow fun i j => .int (i ^ j.toNat)) ta tb) (pOp (fI CPow fun i j => .int (i ^ j.toNat)) pa pb) := pd_op (simI fun _ _ _ => .int _) op_pow ha hb
theorem pd_shl (ha : PD X W a ta pa) (hb : PD X W b tb pb) : PD X W (.BinOp a .LShift b pos) (tOp (rI CPow fun i j => .int (i * 2 ^ j.toNat)) ta tb) (pOp (fI CPow fun i j => .int (i * 2 ^ j.toNat)) pa pb) := pd_op (simI fun _ _ _ => .int _) op_shl ha hb
theorem pd_shr (ha : PD X W a ta pa) (hb : PD X W b tb pb) : PD X W (.BinOp a .RShift b pos) (tOp (rI (fun _ j => 0 ≤ j) fun i j => .int (i / 2 ^ j.toNat)) ta tb) (pOp (fI (fun _ j => 0 ≤ j) fun i j => .int (i / 2 ^ j.toNat)) pa pb) := pd_op (simI fun _ _ _ => .int _) op_shr ha hb
theorem pd_band (ha : PD X W a ta pa) (hb : PD X W b tb pb) : PD X W (.BinOp a .BitAnd b pos) (tOp (rI0 fun i j => .int (Builtin.bitAnd i j)) ta tb) (pOp (fI0 fun i j => .int (Builtin.bitAnd i j)) pa pb) := pd_op (simI0 fun _ _ _ => .int _) op_and ha hb
theorem pd_bor (ha : PD X W a ta pa) (hb : PD X W b tb pb) : PD X W (.BinOp a .BitOr b pos) (tOp (rI0 fun i j => .int (Builtin.bitOr i j)) ta tb) (pOp (fI0 fun i j => .int (Builtin.bitOr i j)) pa pb) := pd_op (simI0 fun _ _ _ => .int _) op_or ha hb
theorem pd_lt (ha : PD X W a ta pa) (hb : PD X W b tb pb) : PD X W (.Compare a [.Lt] [b] pos) (tOp (rI0 fun i j => .bl (decide (i < j))) ta tb) (pOp (fI0 fun i j => .bl (decide (i < j))) pa pb) := pd_cmp (simI0 fun _ _ _ => .bl _) op_lt ha hb
theorem pd_le (ha : PD X W a ta pa) (hb : PD X W b tb pb) : PD X W (.Compare a [.LtE] [b] pos) (tOp (rI0 fun i j => .bl (decide (i ≤ j))) ta tb) (pOp (fI0 fun i j => .bl (decide (i ≤ j))) pa pb) := pd_cmp (simI0 fun _ _ _ => .bl _) op_le ha hb
theorem pd_gt (ha : PD X W a ta pa) (hb : PD X W b tb pb) : PD X W (.Compare a [.Gt] [b] pos) (tOp (rI0 fun i j => .bl (decide (j < i))) ta tb) (pOp (fI0 fun i j => .bl (decide (j < i))) pa pb) := pd_cmp (simI0 fun _ _ _ => .bl _) op_gt ha hb
theorem pd_ge (ha : PD X W a ta pa) (hb : PD X W b tb pb) : PD X W (.Compare a [.GtE] [b] pos) (tOp (rI0 fun i j => .bl (decide (j ≤ i))) ta tb) (pOp (fI0 fun i j => .bl (decide (j ≤ i))) pa pb) := pd_cmp (simI0 fun _ _ _ => .bl _) op_ge ha hb
/-- -a -/
def pNeg (pa : PTE) : PTE := fun ρ P => pa ρ fun d ρ1 => ∃ i, d = .int i ∧ P (.int (-i)) ρ1
theorem pd_neg (ha : PD X W a ta pa) : PD X W (.UnaryOp .USub a pos) (tUn (rU fun i => .int (-i)) ta) (pNeg pa) := ⟨pe_un un_neg ha.pe, fun C ok ρ P h F σ H hd Q q =>
  ha.sim C ok ρ _ h F σ H hd _ fun d ρ1 x F1 H1 h1 e1 hd1 r1 => by
    obtain ⟨i, rfl, h1⟩ := h1
    cases r1
    exact ⟨i, rfl, q _ _ _ F1 H1 h1 e1 hd1 (.int _)⟩⟩
/-- is None, is not None -/
def isN : Dt → Bool
  | .non => true
  | _ => false
theorem Rep.isN {K : Fr} {F : Hp} {v : V} {d : Dt} (r : Rep K F v d) : decide (v = .non) = isN d := by
  cases r <;> first | rfl | (exact decide_eq_false (by intro h; cases h))
def fIs : Op2 := fun d e P => e = .non ∧ P (.bl (isN d))
def fIsNot : Op2 := fun d e P => e = .non ∧ P (.bl (!isN d))
theorem pd_is (ha : PD X W a ta pa) (hb : PD X W b tb pb) : PD X W (.Compare a [.Is] [b] pos) (tOp (fun x y H Q => y = .non ∧ Q (.bl (decide (x = .non))) H) ta tb) (pOp fIs pa pb) := pd_cmp (fun F H x y d e P Q _ rx ry ⟨e1, hp⟩ q => by
  subst e1
  cases ry
  exact ⟨rfl, q _ _ hp (by rw [rx.isN]; exact .bl _)⟩) op_isN ha hb
theorem pd_isnot (ha : PD X W a ta pa) (hb : PD X W b tb pb) : PD X W (.Compare a [.IsNot] [b] pos) (tOp (fun x y H Q => y = .non ∧ Q (.bl (!decide (x = .non))) H) ta tb) (pOp fIsNot pa pb) := pd_cmp (fun F H x y d e P Q _ rx ry ⟨e1, hp⟩ q => by
  subst e1
  cases ry
  exact ⟨rfl, q _ _ hp (by rw [rx.isN]; exact .bl _)⟩) op_notN ha hb
/-! ### tests -/
def pTst (t : PTE) : PTT := fun ρ P => t ρ fun d ρ1 => ∃ b, d = .bl b ∧ P b ρ1
theorem simTst {K : Fr} (ha : SimE K W ta pa) : SimT K W (tB ta) (pTst pa) := fun C ok ρ P h F σ H hd Q q => ha C ok ρ _ h F σ H hd _ fun d ρ1 x F1 H1 h1 e1 hd1 r1 => by
  obtain ⟨b, rfl, h1⟩ := h1
  cases r1
  exact ⟨b, rfl, q _ _ F1 H1 h1 e1 hd1⟩
/-- a value that is True or False as a test -/
theorem pdt_val (ha : PD X W e te pe) (he : ∀ whole, isTrue e X.env whole = (do let v ← whole; standAt e.pos; holding [v] (truthy v)) := by intro _; rfl) : PDT X W e (tB te) (pTst pe) := ⟨pt_val ha.pe he, simTst ha.sim⟩
/-- a comparison as a test -/
theorem pdt_cmp {op : CmpOp} {r : R2} {f : Op2} (hs : OpSim X.K r f) (ho : OpR X (compareOp op) r) (ha : PD X W a ta pa) (hb : PD X W b tb pb) (hm : behindInMarks op b = false := by first | exact nomark _ | rfl) : PDT X W (.Compare a [op] [b] pos) (tTest (tOp r ta tb)) (pTst (pOp f pa pb)) :=
  ⟨pt_cmpR ho ha.pe hb.pe hm, simTst (simOp hs ha.sim hb.sim)⟩
def pAnd (t u : PTT) : PTT := fun ρ P => t ρ fun b ρ1 => if b = true then u ρ1 P else P false ρ1
def pOr (t u : PTT) : PTT := fun ρ P => t ρ fun b ρ1 => if b = true then P true ρ1 else u ρ1 P
def pNot (t : PTT) : PTT := fun ρ P => t ρ fun b ρ1 => P (!b) ρ1
variable {tt tu : TT} {pt pu : PTT} {rest : List Expr}
theorem pdw_and1 (ha : PDT X W a tt pt) : PDW X W (.BoolOp .And [a] pos) tt pt := ⟨pw_and1 ha.pt, ha.sim⟩
theorem pdw_or1 (ha : PDT X W a tt pt) : PDW X W (.BoolOp .Or [a] pos) tt pt := ⟨pw_or1 ha.pt, ha.sim⟩
theorem pdw_and (ha : PDT X W a tt pt) (hb : PDW X W (.BoolOp .And (b :: rest) pos) tu pu) : PDW X W (.BoolOp .And (a :: b :: rest) pos) (tAnd tt tu) (pAnd pt pu) := ⟨pw_and ha.pt hb.pw, fun C ok ρ P h F σ H hd Q q =>
  ha.sim C ok ρ _ h F σ H hd _ fun k ρ1 F1 H1 h1 e1 hd1 => by
    cases k with
    | true =>
      show tu σ H1 Q
      exact hb.sim C ok ρ1 P h1 F1 σ H1 hd1 Q fun k2 ρ2 F2 H2 h2 e2 hd2 => q k2 ρ2 F2 H2 h2 (e1.trans e2) hd2
    | false =>
      show Q false H1
      exact q false ρ1 F1 H1 h1 e1 hd1⟩
theorem pdw_or (ha : PDT X W a tt pt) (hb : PDW X W (.BoolOp .Or (b :: rest) pos) tu pu) : PDW X W (.BoolOp .Or (a :: b :: rest) pos) (tOr tt tu) (pOr pt pu) := ⟨pw_or ha.pt hb.pw, fun C ok ρ P h F σ H hd Q q =>
  ha.sim C ok ρ _ h F σ H hd _ fun k ρ1 F1 H1 h1 e1 hd1 => by
    cases k with
    | true =>
      show Q true H1
      exact q true ρ1 F1 H1 h1 e1 hd1
    | false =>
      show tu σ H1 Q
      exact hb.sim C ok ρ1 P h1 F1 σ H1 hd1 Q fun k2 ρ2 F2 H2 h2 e2 hd2 => q k2 ρ2 F2 H2 h2 (e1.trans e2) hd2⟩
theorem PDW.pdt (h : PDW X W e tt pt) : PDT X W e tt pt := ⟨h.pw.pt, h.sim⟩
theorem pdt_not (ha : PDT X W a tt pt) : PDT X W (.UnaryOp .Not a pos) (tNot tt) (pNot pt) := ⟨pt_not ha.pt, fun C ok ρ P h F σ H hd Q q =>
  ha.sim C ok ρ _ h F σ H hd _ fun k ρ1 F1 H1 h1 e1 hd1 => q _ ρ1 F1 H1 h1 e1 hd1⟩
/-- as values -/
def pAndV (pa pb : PTE) : PTE := fun ρ P => pa ρ fun d ρ1 => ∃ b, d = .bl b ∧ if b = true then pb ρ1 P else P (.bl false) ρ1
def pOrV (pa pb : PTE) : PTE := fun ρ P => pa ρ fun d ρ1 => ∃ b, d = .bl b ∧ if b = true then P (.bl true) ρ1 else pb ρ1 P
def pNotV (pa : PTE) : PTE := fun ρ P => pa ρ fun d ρ1 => ∃ b, d = .bl b ∧ P (.bl (!b)) ρ1
theorem pd_one {op} (h : PD X W a ta pa) : PD X W (.BoolOp op [a] pos) ta pa := ⟨pe_one h.pe, h.sim⟩
theorem pd_and (ha : PD X W a ta pa) (hb : PD X W (.BoolOp .And (b :: rest) pos) tb pb) : PD X W (.BoolOp .And (a :: b :: rest) pos) (tAndV ta tb) (pAndV pa pb) := ⟨pe_and ha.pe hb.pe, fun C ok ρ P h F σ H hd Q q =>
  ha.sim C ok ρ _ h F σ H hd _ fun d ρ1 x F1 H1 h1 e1 hd1 r1 => by
    obtain ⟨k, rfl, h1⟩ := h1
    cases r1
    refine ⟨k, rfl, ?_⟩
    cases k with
    | true => exact hb.sim C ok ρ1 P h1 F1 σ H1 hd1 Q fun k2 ρ2 v F2 H2 h2 e2 hd2 r2 => q k2 ρ2 v F2 H2 h2 (e1.trans e2) hd2 r2
    | false => exact q _ ρ1 _ F1 H1 h1 e1 hd1 (.bl false)⟩
theorem pd_or (ha : PD X W a ta pa) (hb : PD X W (.BoolOp .Or (b :: rest) pos) tb pb) : PD X W (.BoolOp .Or (a :: b :: rest) pos) (tOrV ta tb) (pOrV pa pb) := ⟨pe_or ha.pe hb.pe, fun C ok ρ P h F σ H hd Q q =>
  ha.sim C ok ρ _ h F σ H hd _ fun d ρ1 x F1 H1 h1 e1 hd1 r1 => by
    obtain ⟨k, rfl, h1⟩ := h1
    cases r1
    refine ⟨k, rfl, ?_⟩
    cases k with
    | true => exact q _ ρ1 _ F1 H1 h1 e1 hd1 (.bl true)
    | false => exact hb.sim C ok ρ1 P h1 F1 σ H1 hd1 Q fun k2 ρ2 v F2 H2 h2 e2 hd2 r2 => q k2 ρ2 v F2 H2 h2 (e1.trans e2) hd2 r2⟩
theorem pd_not (ha : PD X W a ta pa) : PD X W (.UnaryOp .Not a pos) (tNotV ta) (pNotV pa) := ⟨pe_not ha.pe, fun C ok ρ P h F σ H hd Q q =>
  ha.sim C ok ρ _ h F σ H hd _ fun d ρ1 x F1 H1 h1 e1 hd1 r1 => by
    obtain ⟨k, rfl, h1⟩ := h1
    cases r1
    exact ⟨k, rfl, q _ ρ1 _ F1 H1 h1 e1 hd1 (.bl _)⟩⟩
def pIfE (t : PTT) (pa pb : PTE) : PTE := fun ρ P => t ρ fun b ρ1 => if b = true then pa ρ1 P else pb ρ1 P
theorem pd_ifE (hc : PDT X W c tt pt) (ha : PD X W a ta pa) (hb : PD X W b tb pb) : PD X W (.IfExp c a b pos) (tIf tt ta tb) (pIfE pt pa pb) := ⟨pe_ifExp hc.pt ha.pe hb.pe, fun C ok ρ P h F σ H hd Q q =>
  hc.sim C ok ρ _ h F σ H hd _ fun k ρ1 F1 H1 h1 e1 hd1 => by
    cases k with
    | true =>
      show ta σ H1 Q
      exact ha.sim C ok ρ1 P h1 F1 σ H1 hd1 Q fun k2 ρ2 v F2 H2 h2 e2 hd2 r2 => q k2 ρ2 v F2 H2 h2 (e1.trans e2) hd2 r2
    | false =>
      show tb σ H1 Q
      exact hb.sim C ok ρ1 P h1 F1 σ H1 hd1 Q fun k2 ρ2 v F2 H2 h2 e2 hd2 r2 => q k2 ρ2 v F2 H2 h2 (e1.trans e2) hd2 r2⟩
/-! ### arguments, displays -/
def pANil : PTA := fun ρ P => P [] ρ
def pACons (te : PTE) (tr : PTA) : PTA := fun ρ P => te ρ fun d ρ1 => tr ρ1 fun ws ρ2 => P (.dat d :: ws) ρ2
def pALend (tv : PTV) (tr : PTA) : PTA := fun ρ P => tv ρ fun w ρ1 => tr ρ1 fun ws ρ2 => P (w :: ws) ρ2
variable {tr : TA} {pr : PTA}
theorem pa_nil' : PAr X W [] tNil pANil := ⟨L2.pa_nil, fun C ok ρ P h F σ H hd Q q => q [] ρ [] F H h (Ext.refl F) hd .nil⟩
theorem pa_cons' (ha : PD X W e te pe) (hr : PAr X W es tr pr) (hs : starEach (e :: es) X.env = (false, eval e X.env) :: starEach es X.env := by rfl) : PAr X W (e :: es) (tCons te tr) (pACons pe pr) := ⟨L2.pa_cons ha.pe hr.pa hs, fun C ok ρ P h F σ H hd Q q =>
  ha.sim C ok ρ _ h F σ H hd _ fun d ρ1 x F1 H1 h1 e1 hd1 r1 => hr.sim C ok ρ1 _ h1 F1 σ H1 hd1 _ fun ws ρ2 vs F2 H2 h2 e2 hd2 r2 => q _ ρ2 _ F2 H2 h2 (e1.trans e2) hd2 (.cons (Rep.mono e2 r1) r2)⟩
/-- a slot's thing is lent -/
theorem pa_lend {pv : PTV} (ha : PV X W e te pv) (hr : PAr X W es tr pr) (hs : starEach (e :: es) X.env = (false, eval e X.env) :: starEach es X.env := by rfl) : PAr X W (e :: es) (tCons te tr) (pALend pv pr) := ⟨L2.pa_cons ha.pe hr.pa hs, fun C ok ρ P h F σ H hd Q q =>
  ha.sim C ok ρ _ h F σ H hd _ fun d ρ1 x F1 H1 h1 e1 hd1 r1 => hr.sim C ok ρ1 _ h1 F1 σ H1 hd1 _ fun ws ρ2 vs F2 H2 h2 e2 hd2 r2 => q _ ρ2 _ F2 H2 h2 (e1.trans e2) hd2 (.cons (r1.mono e2) r2)⟩
def dats : List Vw → Option (List Dt)
  | [] => some []
  | .dat d :: ws => (dats ws).map (d :: ·)
  | .slot _ :: _ => Option.none
theorem dats_rep {K : Fr} {F : Hp} {σ : L2.St} : ∀ {vs : List V} {ws : List Vw} {ds : List Dt}, VwsOk K F σ vs ws → dats ws = some ds → RepAll K F vs ds
  | _, _, _, .nil, h => by cases h; exact .nil
  | _, _, _, .cons (b := .dat d) r s, h => by
    unfold dats at h
    cases q : dats _ with
    | none => rw [q] at h; cases h
    | some ds =>
      rw [q] at h
      cases h
      exact .cons r (dats_rep s q)
  | _, _, _, .cons (b := .slot i) r s, h => by cases h
theorem big {n : Nat} (h : n ≤ 1000000) : n ≤ sizeLine := Nat.le_trans h (by decide)
theorem bigL {n : Nat} (h : n < 1000000) : n < sizeLine := Nat.lt_of_lt_of_le h (by decide)
def pTup (t : PTA) : PTE := fun ρ P => t ρ fun ws ρ1 => ∃ ds, dats ws = some ds ∧ ds.length ≤ 1000 ∧ P (.tup ds) ρ1
theorem pd_tup {x1} (h : PAr X W es tr pr) : PD X W (.Tuple es x1 pos) (tTup tr) (pTup pr) := ⟨pe_tup h.pa, fun C ok ρ P hp F σ H hd Q q =>
  h.sim C ok ρ _ hp F σ H hd _ fun ws ρ1 vs F1 H1 h1 e1 hd1 r1 => by
    obtain ⟨ds, h2, h3, h4⟩ := h1
    have r2 := dats_rep r1 h2
    refine ⟨big (by rw [r2.length]; omega), fun p hp => ?_⟩
    have fp := hd1.sub.free hp
    exact q _ ρ1 _ (upd F1 p (.tup vs)) _ h4 (e1.trans (Ext.new fp)) (hd1.alloc hp _) (.tup upd_same (r2.mono (Ext.new fp)))⟩
def pLst (t : PTA) : PTF := fun ρ P => t ρ fun ws ρ1 => ∃ ds, dats ws = some ds ∧ ds.length ≤ 1000 ∧ P (.lst ds) ρ1
theorem pf_lst (h : PAr X W es tr pr) : PF X W (.List es pos) (tLst tr) (pLst pr) := ⟨pe_lst h.pa, fun C ok ρ P hp F σ H hd Q q =>
  h.sim C ok ρ _ hp F σ H hd _ fun ws ρ1 vs F1 H1 h1 e1 hd1 r1 => by
    obtain ⟨ds, h2, h3, h4⟩ := h1
    have r2 := dats_rep r1 h2
    refine ⟨big (by rw [r2.length]; omega), fun p hp => ?_⟩
    exact q _ ρ1 _ F1 _ h4 e1 (hd1.lay hp _) (Fresh.of_new hd1 hp (o := .lst ds) ⟨vs, upd_same, r2⟩)⟩
end
end Wk
namespace Wk
open PySem L2
section
variable {K : Fr} {C : PC} {F F' : Hp} {ρ : Rho} {σ : L2.St} {H H' : Hp}
/-- a tuple is always data -/
theorem Hd.viewTup (h : Hd K C F ρ σ H) {v : V} {w : Vw} (hv : VwOk K F σ v w) {xs : List Dt} (hl : look ρ w = some (.tup xs)) : Rep K F v (.tup xs) := by
  cases w with
  | dat d' => cases hl; exact hv
  | slot i =>
    have hv : σ[i]? = some (some v) := hv
    unfold look at hl
    dsimp only at hl
    cases q : ρ[i]? with
    | none => rw [q] at hl; cases hl
    | some x =>
      cases x with
      | none => rw [q] at hl; cases hl
      | some en =>
        cases en with
        | dat d' =>
          rw [q] at hl
          cases hl
          obtain ⟨v', h1, h2⟩ := h.datAt q
          rw [hv] at h1; cases h1
          exact h2
        | own io o =>
          rw [q] at hl
          cases o <;> cases hl
theorem Rep.int_inv {v : V} {i : Int} (r : Rep K F v (.int i)) : v = .int i := by cases r; rfl
theorem atI_rep {vs : List V} {xs : List Dt} (r : RepAll K F vs xs) {i : Int} {z : Dt} (h : atI xs i = some z) : ∃ v, atI vs i = some v ∧ Rep K F v z := by
  unfold atI at h ⊢
  rw [r.length]
  cases q : ixN xs.length i with
  | none => rw [q] at h; cases h
  | some j =>
    rw [q] at h
    obtain ⟨u, h1, h2⟩ := r.get (i := j) h
    exact ⟨u, h1, h2⟩
end
section
variable {X : Cx} {W : Wx} {a b c : Expr} {e : Expr} {es : List Expr} {ta tb tc te : TE} {pa pb pc pe : PTE} {va vb : PTV} {pos : Pos}
/-! ### a[i] -/
def pIx (va : PTV) (pb : PTE) : PTE := fun ρ P => va ρ fun w ρ1 => pb ρ1 fun k ρ2 => ∃ d xs i z, look ρ2 w = some d ∧ seqOf d = some xs ∧ k = .int i ∧ atI xs i = some z ∧ P z ρ2
theorem pd_ix (ha : PV X W a ta va) (hb : PD X W b tb pb) (hs : PlainIx b := by exact fun _ _ => rfl) : PD X W (.Subscript a b pos) (tOp (rIx X.K) ta tb) (pIx va pb) := ⟨pe_ix ix_seq ha.pe hb.pe hs, fun C ok ρ P h F σ H hd Q q =>
  ha.sim C ok ρ _ h F σ H hd _ fun w ρ1 x F1 H1 h1 e1 hd1 r1 => hb.sim C ok ρ1 _ h1 F1 σ H1 hd1 _ fun k ρ2 y F2 H2 h2 e2 hd2 r2 => by
    obtain ⟨d, xs, i, z, hl, hs, rfl, hz, hp⟩ := h2
    cases r2
    obtain ⟨p, vs, rfl, hq, hr⟩ := (hd2.view (r1.mono e2) hl).seq hs
    obtain ⟨v, hv, rv⟩ := atI_rep hr hz
    have fin := q z ρ2 v F2 H2 hp (e1.trans e2) hd2 rv
    rcases hq with hq | hq
    · exact .inl ⟨p, vs, i, v, rfl, rfl, hq, hv, fin⟩
    · exact .inr (.inl ⟨p, vs, i, v, rfl, rfl, hq, hv, fin⟩)⟩
/-! ### slices -/
def pNoPart : PTO := fun ρ P => P Option.none ρ
def pPart (t : PTE) : PTO := fun ρ P => t ρ fun d ρ1 => ∃ i, d = .int i ∧ P (some i) ρ1
theorem po_none' : POr X W Option.none tNoPart pNoPart := ⟨po_none, fun C ok ρ P h F σ H hd Q q => q _ ρ F H h (Ext.refl F) hd⟩
theorem po_some' (h : PD X W e te pe) : POr X W (some e) (tPart te) (pPart pe) := ⟨po_some h.pe, fun C ok ρ P hp F σ H hd Q q => h.sim C ok ρ _ hp F σ H hd _ fun d ρ1 v F1 H1 h1 e1 hd1 r1 => by
  obtain ⟨i, rfl, h1⟩ := h1
  cases r1
  exact ⟨i, rfl, q _ ρ1 F1 H1 h1 e1 hd1⟩⟩
/-- the part of a sequence from lo to hi -/
def cut {α : Type} (xs : List α) (lo hi : Option Int) : List α := (xs.drop (HT.sIx xs.length 0 lo)).take (HT.sIx xs.length xs.length hi - HT.sIx xs.length 0 lo)
theorem cut_rep {K : Fr} {F : Hp} {vs : List V} {xs : List Dt} (r : RepAll K F vs xs) (lo hi : Option Int) : RepAll K F (cutV vs lo hi) (cut xs lo hi) := by
  unfold cutV cut
  rw [r.length]
  exact (r.drop _).take _
variable {lo hi : Option Expr} {tl th : TO} {pl ph : PTO} {p2 : Pos}
def pSlT (va : PTV) (pl ph : PTO) : PTE := fun ρ P => va ρ fun w ρ1 => pl ρ1 fun l ρ2 => ph ρ2 fun u ρ3 => ∃ xs, look ρ3 w = some (.tup xs) ∧ P (.tup (cut xs l u)) ρ3
theorem cut_all {α : Type} {xs : List α} {lo hi : Option Int} (h : HT.sIx xs.length 0 lo = 0 ∧ HT.sIx xs.length xs.length hi = xs.length) : cut xs lo hi = xs := by
  unfold cut
  rw [h.1, h.2]
  simp
theorem pd_slT (ha : PV X W a ta va) (hl : POr X W lo tl pl) (hh : POr X W hi th ph) : PD X W (.Subscript a (.Slice lo hi none p2) pos) (tSl (rSlA X.K) ta tl th) (pSlT va pl ph) := ⟨pe_slice sl_tupA ha.pe hl.po hh.po, fun C ok ρ P h F σ H hd Q q =>
  ha.sim C ok ρ _ h F σ H hd _ fun w ρ1 x F1 H1 h1 e1 hd1 r1 => hl.sim C ok ρ1 _ h1 F1 σ H1 hd1 _ fun l ρ2 F2 H2 h2 e2 hd2 => hh.sim C ok ρ2 _ h2 F2 σ H2 hd2 _ fun u ρ3 F3 H3 h3 e3 hd3 => by
    obtain ⟨xs, hv, hp⟩ := h3
    have rr := hd3.viewTup ((r1.mono e2).mono e3) hv
    have rr' := rr
    cases rr with
    | @tup p vs _ hf ra =>
      have e123 := (e1.trans e2).trans e3
      refine ⟨p, vs, rfl, SqT.of (hd3.sub _ _ hf), fun hw => ?_, fun hw l hl => ?_⟩
      · rw [ra.length] at hw
        exact q _ ρ3 _ F3 H3 hp e123 hd3 (by rw [cut_all hw]; exact rr')
      · have fl := hd3.sub.free hl
        exact q _ ρ3 _ (upd F3 l (.tup (cutV vs _ _))) _ hp (e123.trans (Ext.new fl)) (hd3.alloc hl _) (.tup upd_same ((cut_rep ra _ _).mono (Ext.new fl)))⟩
def pSlL (va : PTV) (pl ph : PTO) : PTF := fun ρ P => va ρ fun w ρ1 => pl ρ1 fun l ρ2 => ph ρ2 fun u ρ3 => ∃ d xs, look ρ3 w = some d ∧ d ≠ .tup xs ∧ seqOf d = some xs ∧ P (.lst (cut xs l u)) ρ3
theorem pf_slL (ha : PV X W a ta va) (hl : POr X W lo tl pl) (hh : POr X W hi th ph) : PF X W (.Subscript a (.Slice lo hi none p2) pos) (tSl (rSlL X.K) ta tl th) (pSlL va pl ph) := ⟨pe_slice sl_list ha.pe hl.po hh.po, fun C ok ρ P h F σ H hd Q q =>
  ha.sim C ok ρ _ h F σ H hd _ fun w ρ1 x F1 H1 h1 e1 hd1 r1 => hl.sim C ok ρ1 _ h1 F1 σ H1 hd1 _ fun l ρ2 F2 H2 h2 e2 hd2 => hh.sim C ok ρ2 _ h2 F2 σ H2 hd2 _ fun u ρ3 F3 H3 h3 e3 hd3 => by
    obtain ⟨d, xs, hv, ht, hs, hp⟩ := h3
    have rr := hd3.view ((r1.mono e2).mono e3) hv
    have e123 := (e1.trans e2).trans e3
    have key : ∃ p vs, x = .ref p ∧ SqL X.K H3 p vs ∧ RepAll X.K F3 vs xs := by
      cases d with
      | lst ys => cases hs; obtain ⟨p, vs, rfl, g1, g2⟩ := rr; exact ⟨p, vs, rfl, SqL.of g1, g2⟩
      | tup ys => cases hs; exact absurd rfl ht
      | scr ns => cases hs; obtain ⟨p, rfl, g1⟩ := rr; exact ⟨p, _, rfl, g1, RepAll.ofInts ns⟩
      | non => cases hs
      | bl b => cases hs
      | int i => cases hs
      | str x => cases hs
      | dT k => cases hs
      | exc _ _ _ _ => cases hs
    obtain ⟨p, vs, rfl, g1, g2⟩ := key
    exact ⟨p, vs, rfl, g1, fun l hl => q _ ρ3 _ F3 _ hp e123 (hd3.lay hl _) (Fresh.of_new hd3 hl (o := .lst (cut xs _ _)) ⟨_, upd_same, cut_rep g2 _ _⟩)⟩⟩
/-! ### built-ins -/
section
variable {pp : Pos}
/-- one argument -/
theorem simOne {K : Fr} {r : List V → Hp → VK → Prop} {v1 : PTV} (ha : SimV K W ta v1) {f : Vw → Rho → (Dt → Rho → Prop) → Prop}
    (hr : ∀ (C : PC) (F : Hp) (ρ : Rho) (σ : L2.St) (H : Hp) (v : V) (w : Vw) (P : Dt → Rho → Prop) (Q : VK), Hd K C F ρ σ H → VwOk K F σ v w → f w ρ P → (∀ d v F' H', P d ρ → Ext F F' → Hd K C F' ρ σ H' → Rep K F' v d → Q v H') → r [v] H Q) :
    SimE K W (tCB r (tCons ta tNil)) (fun ρ P => v1 ρ fun w ρ1 => f w ρ1 P) := fun C ok ρ P h F σ H hd Q q =>
  ha C ok ρ _ h F σ H hd _ fun w ρ1 v F1 H1 h1 e1 hd1 r1 => hr C F1 ρ1 σ H1 v w P Q hd1 r1 h1 fun d v' F' H' hp e2 hd2 rd => q d ρ1 v' F' H' hp (e1.trans e2) hd2 rd
theorem pa1 (ha : PE X a ta) (hs : starEach [a] X.env = (false, eval a X.env) :: starEach [] X.env := by rfl) : PA X [a] (tCons ta tNil) := L2.pa_cons ha L2.pa_nil hs
/-- len -/
def pLen (va : PTV) : PTE := fun ρ P => va ρ fun w ρ1 => ∃ d xs, look ρ1 w = some d ∧ seqOf d = some xs ∧ P (.int xs.length) ρ1
theorem pd_len (hm : X.mg "len" = none) (ha : PV X W a ta va) (hg : Gl X "len" := by rfl) (hs : starEach [a] X.env = (false, eval a X.env) :: starEach [] X.env := by rfl) (hpl : (backTo pos (starEach [] X.env)).any (·.1) = false := by rfl) :
    PD X W (.Call (.Name "len" pp) [a] [] pos) (tCB (fun xs H Q => ∃ p ys, xs = [.ref p] ∧ (SqL X.K H p ys ∨ SqT X.K H p ys) ∧ Q (.int ys.length) H) (tCons ta tNil)) (pLen va) := ⟨pe_callB call_len_seq hg hm PySem.boot_len (pa1 ha.pe hs) (by decide) (by decide) hs hpl,
  simOne (f := fun w ρ P => ∃ d xs, look ρ w = some d ∧ seqOf d = some xs ∧ P (.int xs.length) ρ) ha.sim fun C F ρ σ H v w P Q hd hv ⟨d, xs, hl, hs, hp⟩ q => by
    obtain ⟨p, vs, rfl, hq, hr⟩ := (hd.view hv hl).seq hs
    exact ⟨p, vs, rfl, hq, q _ _ F H hp (Ext.refl F) hd (by rw [hr.length]; exact .int _)⟩⟩
/-- a list of whole numbers -/
theorem ints_of {K : Fr} {C : PC} {F : Hp} {ρ : Rho} {σ : L2.St} {H : Hp} {v : V} {w : Vw} (hd : Hd K C F ρ σ H) (hv : VwOk K F σ v w) {ns : List Int} (hl : look ρ w = some (.lst (ns.map Dt.int))) : ∃ p, v = .ref p ∧ SqL K H p (ns.map V.int) := by
  obtain ⟨p, vs, rfl, h1, h2⟩ := hd.view hv hl
  rw [h2.ints] at h1
  exact ⟨p, rfl, SqL.of h1⟩
def pSum (va : PTV) : PTE := fun ρ P => va ρ fun w ρ1 => ∃ ns : List Int, look ρ1 w = some (.lst (ns.map Dt.int)) ∧ P (.int ns.sum) ρ1
theorem pd_sum (hm : X.mg "sum" = none) (ha : PV X W a ta va) (hc : X.calm = true := by rfl) (hg : Gl X "sum" := by rfl) (hs : starEach [a] X.env = (false, eval a X.env) :: starEach [] X.env := by rfl) (hpl : (backTo pos (starEach [] X.env)).any (·.1) = false := by rfl) :
    PD X W (.Call (.Name "sum" pp) [a] [] pos) (tCB (rSum X.K) (tCons ta tNil)) (pSum va) := ⟨pe_callB (cr_sum hc) hg hm (by decide +kernel) (pa1 ha.pe hs) (by decide) (by decide) hs hpl,
  simOne (f := fun w ρ P => ∃ ns : List Int, look ρ w = some (.lst (ns.map Dt.int)) ∧ P (.int ns.sum) ρ) ha.sim fun C F ρ σ H v w P Q hd hv ⟨ns, hl, hp⟩ q => by
    obtain ⟨p, rfl, hq⟩ := ints_of hd hv hl
    exact ⟨p, ns, rfl, hq, q _ _ F H hp (Ext.refl F) hd (.int _)⟩⟩
/-- the least, the greatest of a list -/
def lmin : List Int → Int
  | [] => 0
  | [x] => x
  | x :: y :: r => min x (lmin (y :: r))
def lmax : List Int → Int
  | [] => 0
  | [x] => x
  | x :: y :: r => max x (lmax (y :: r))
theorem lmin_mem : ∀ {xs : List Int}, xs ≠ [] → lmin xs ∈ xs
  | [], h => absurd rfl h
  | [x], _ => by simp [lmin]
  | x :: y :: r, _ => by
    have ih := lmin_mem (xs := y :: r) (by simp)
    unfold lmin
    rcases Int.le_total x (lmin (y :: r)) with h | h
    · rw [Int.min_eq_left h]; simp
    · rw [Int.min_eq_right h]; exact List.mem_cons_of_mem _ ih
theorem lmin_le : ∀ {xs : List Int} {z : Int}, z ∈ xs → lmin xs ≤ z
  | [], _, h => by simp at h
  | [x], z, h => by simp at h; subst h; exact Int.le_refl _
  | x :: y :: r, z, h => by
    unfold lmin
    rcases List.mem_cons.mp h with h | h
    · subst h; exact Int.min_le_left _ _
    · exact Int.le_trans (Int.min_le_right _ _) (lmin_le h)
theorem lmax_mem : ∀ {xs : List Int}, xs ≠ [] → lmax xs ∈ xs
  | [], h => absurd rfl h
  | [x], _ => by simp [lmax]
  | x :: y :: r, _ => by
    have ih := lmax_mem (xs := y :: r) (by simp)
    unfold lmax
    rcases Int.le_total x (lmax (y :: r)) with h | h
    · rw [Int.max_eq_right h]; exact List.mem_cons_of_mem _ ih
    · rw [Int.max_eq_left h]; simp
theorem lmax_ge : ∀ {xs : List Int} {z : Int}, z ∈ xs → z ≤ lmax xs
  | [], _, h => by simp at h
  | [x], z, h => by simp at h; subst h; exact Int.le_refl _
  | x :: y :: r, z, h => by
    unfold lmax
    rcases List.mem_cons.mp h with h | h
    · subst h; exact Int.le_max_left _ _
    · exact Int.le_trans (lmax_ge h) (Int.le_max_right _ _)
def pMin (va : PTV) : PTE := fun ρ P => va ρ fun w ρ1 => ∃ ns : List Int, look ρ1 w = some (.lst (ns.map Dt.int)) ∧ ns ≠ [] ∧ P (.int (lmin ns)) ρ1
def pMax (va : PTV) : PTE := fun ρ P => va ρ fun w ρ1 => ∃ ns : List Int, look ρ1 w = some (.lst (ns.map Dt.int)) ∧ ns ≠ [] ∧ P (.int (lmax ns)) ρ1
theorem pd_min (hm : X.mg "min" = none) (ha : PV X W a ta va) (hc : X.calm = true := by rfl) (hg : Gl X "min" := by rfl) (hs : starEach [a] X.env = (false, eval a X.env) :: starEach [] X.env := by rfl) (hpl : (backTo pos (starEach [] X.env)).any (·.1) = false := by rfl) :
    PD X W (.Call (.Name "min" pp) [a] [] pos) (tCB (rMin X.K) (tCons ta tNil)) (pMin va) := ⟨pe_callB (cr_min hc) hg hm (by decide +kernel) (pa1 ha.pe hs) (by decide) (by decide) hs hpl,
  simOne (f := fun w ρ P => ∃ ns : List Int, look ρ w = some (.lst (ns.map Dt.int)) ∧ ns ≠ [] ∧ P (.int (lmin ns)) ρ) ha.sim fun C F ρ σ H v w P Q hd hv ⟨ns, hl, hn, hp⟩ q => by
    obtain ⟨p, rfl, hq⟩ := ints_of hd hv hl
    refine ⟨p, ns, rfl, hq, List.length_pos_iff.mpr hn, fun m hm hle => ?_⟩
    have em : m = lmin ns := Int.le_antisymm (hle _ (lmin_mem hn)) (lmin_le hm)
    exact q _ _ F H hp (Ext.refl F) hd (by rw [em]; exact .int _)⟩
theorem pd_max (hm : X.mg "max" = none) (ha : PV X W a ta va) (hc : X.calm = true := by rfl) (hg : Gl X "max" := by rfl) (hs : starEach [a] X.env = (false, eval a X.env) :: starEach [] X.env := by rfl) (hpl : (backTo pos (starEach [] X.env)).any (·.1) = false := by rfl) :
    PD X W (.Call (.Name "max" pp) [a] [] pos) (tCB (rMax X.K) (tCons ta tNil)) (pMax va) := ⟨pe_callB (cr_max hc) hg hm (by decide +kernel) (pa1 ha.pe hs) (by decide) (by decide) hs hpl,
  simOne (f := fun w ρ P => ∃ ns : List Int, look ρ w = some (.lst (ns.map Dt.int)) ∧ ns ≠ [] ∧ P (.int (lmax ns)) ρ) ha.sim fun C F ρ σ H v w P Q hd hv ⟨ns, hl, hn, hp⟩ q => by
    obtain ⟨p, rfl, hq⟩ := ints_of hd hv hl
    refine ⟨p, ns, rfl, hq, List.length_pos_iff.mpr hn, fun m hm hle => ?_⟩
    have em : m = lmax ns := Int.le_antisymm (lmax_ge hm) (hle _ (lmax_mem hn))
    exact q _ _ F H hp (Ext.refl F) hd (by rw [em]; exact .int _)⟩
/-- abs, int of a whole number -/
def pAbs (pa : PTE) : PTE := fun ρ P => pa ρ fun d ρ1 => ∃ i, d = .int i ∧ P (.int (if i < 0 then -i else i)) ρ1
theorem pd_abs (hm : X.mg "abs" = none) (ha : PD X W a ta pa) (hg : Gl X "abs" := by rfl) (hs : starEach [a] X.env = (false, eval a X.env) :: starEach [] X.env := by rfl) (hpl : (backTo pos (starEach [] X.env)).any (·.1) = false := by rfl) :
    PD X W (.Call (.Name "abs" pp) [a] [] pos) (tCB (fun xs H Q => ∃ i, xs = [.int i] ∧ Q (.int (if i < 0 then -i else i)) H) (tCons ta tNil)) (pAbs pa) := ⟨pe_callB call_abs hg hm (by decide +kernel) (pa1 ha.pe hs) (by decide) (by decide) hs hpl,
  fun C ok ρ P h F σ H hd Q q => ha.sim C ok ρ _ h F σ H hd _ fun d ρ1 v F1 H1 h1 e1 hd1 r1 => by
    obtain ⟨i, rfl, h1⟩ := h1
    cases r1
    exact ⟨i, rfl, q _ ρ1 _ F1 H1 h1 e1 hd1 (.int _)⟩⟩
def pInt (pa : PTE) : PTE := fun ρ P => pa ρ fun d ρ1 => ∃ i, d = .int i ∧ P (.int i) ρ1
theorem pd_toint (hm : X.mg "int" = none) (ha : PD X W a ta pa) (hg : Gl X "int" := by rfl) (hs : starEach [a] X.env = (false, eval a X.env) :: starEach [] X.env := by rfl) (hpl : (backTo pos (starEach [] X.env)).any (·.1) = false := by rfl) :
    PD X W (.Call (.Name "int" pp) [a] [] pos) (tCB (fun xs H Q => (∃ i, xs = [.int i] ∧ Q (.int i) H) ∨ ∃ k, xs = [.bl k] ∧ Q (.int (if k then 1 else 0)) H) (tCons ta tNil)) (pInt pa) := ⟨pe_callTy call_int1 hg hm (by decide +kernel) (pa1 ha.pe hs) (by decide) (by decide) hs hpl,
  fun C ok ρ P h F σ H hd Q q => ha.sim C ok ρ _ h F σ H hd _ fun d ρ1 v F1 H1 h1 e1 hd1 r1 => by
    obtain ⟨i, rfl, h1⟩ := h1
    cases r1
    exact .inl ⟨i, rfl, q _ ρ1 _ F1 H1 h1 e1 hd1 (.int _)⟩⟩
/-- min, max of two -/
def pMM (f : Int → Int → Int) (pa pb : PTE) : PTE := fun ρ P => pa ρ fun d ρ1 => pb ρ1 fun z ρ2 => ∃ i j, d = .int i ∧ z = .int j ∧ P (.int (f i j)) ρ2
theorem simMM {K : Fr} {f : Int → Int → Int} (ha : SimE K W ta pa) (hb : SimE K W tb pb) : SimE K W (tCB (fun xs H Q => ∃ i j, xs = [.int i, .int j] ∧ Q (.int (f i j)) H) (tCons ta (tCons tb tNil))) (pMM f pa pb) :=
  fun C ok ρ P h F σ H hd Q q => ha C ok ρ _ h F σ H hd _ fun d ρ1 v F1 H1 h1 e1 hd1 r1 => hb C ok ρ1 _ h1 F1 σ H1 hd1 _ fun z ρ2 y F2 H2 h2 e2 hd2 r2 => by
    obtain ⟨i, j, rfl, rfl, h2⟩ := h2
    cases r1
    cases r2
    exact ⟨i, j, rfl, q _ ρ2 _ F2 H2 h2 (e1.trans e2) hd2 (.int _)⟩
theorem pd_max2 (hm : X.mg "max" = none) (ha : PD X W a ta pa) (hb : PD X W b tb pb) (hc : X.calm = true := by rfl) (hg : Gl X "max" := by rfl) (hs : starEach [a, b] X.env = (false, eval a X.env) :: starEach [b] X.env := by rfl) (hs2 : starEach [b] X.env = (false, eval b X.env) :: starEach [] X.env := by rfl) (hpl : (backTo pos (starEach [b] X.env)).any (·.1) = false := by rfl) :
    PD X W (.Call (.Name "max" pp) [a, b] [] pos) (tCB (fun xs H Q => ∃ i j, xs = [.int i, .int j] ∧ Q (.int (if j > i then j else i)) H) (tCons ta (tCons tb tNil))) (pMM (fun i j => if j > i then j else i) pa pb) :=
  ⟨pe_callB (call_max2 hc) hg hm (by decide +kernel) (L2.pa_cons ha.pe (L2.pa_cons hb.pe L2.pa_nil hs2) hs) (by decide) (by decide) hs hpl, simMM ha.sim hb.sim⟩
theorem pd_min2 (hm : X.mg "min" = none) (ha : PD X W a ta pa) (hb : PD X W b tb pb) (hc : X.calm = true := by rfl) (hg : Gl X "min" := by rfl) (hs : starEach [a, b] X.env = (false, eval a X.env) :: starEach [b] X.env := by rfl) (hs2 : starEach [b] X.env = (false, eval b X.env) :: starEach [] X.env := by rfl) (hpl : (backTo pos (starEach [b] X.env)).any (·.1) = false := by rfl) :
    PD X W (.Call (.Name "min" pp) [a, b] [] pos) (tCB (fun xs H Q => ∃ i j, xs = [.int i, .int j] ∧ Q (.int (if j < i then j else i)) H) (tCons ta (tCons tb tNil))) (pMM (fun i j => if j < i then j else i) pa pb) :=
  ⟨pe_callB (call_min2 hc) hg hm (by decide +kernel) (L2.pa_cons ha.pe (L2.pa_cons hb.pe L2.pa_nil hs2) hs) (by decide) (by decide) hs hpl, simMM ha.sim hb.sim⟩
/-- tuple(xs), list(xs) -/
def pTupOf (va : PTV) : PTE := fun ρ P => va ρ fun w ρ1 => ∃ d xs, look ρ1 w = some d ∧ seqOf d = some xs ∧ P (.tup xs) ρ1
theorem pd_tupOf (hm : X.mg "tuple" = none) (ha : PV X W a ta va) (hg : Gl X "tuple" := by rfl) (hs : starEach [a] X.env = (false, eval a X.env) :: starEach [] X.env := by rfl) (hpl : (backTo pos (starEach [] X.env)).any (·.1) = false := by rfl) :
    PD X W (.Call (.Name "tuple" pp) [a] [] pos) (tCB (fun xs H Q => ∃ p ys, xs = [.ref p] ∧ ((SqL X.K H p ys ∧ ∀ l, H l = none → Q (.ref l) (upd H l (.tup ys))) ∨ (SqT X.K H p ys ∧ Q (.ref p) H))) (tCons ta tNil)) (pTupOf va) := ⟨pe_callTy call_tuple_of hg hm (by decide +kernel) (pa1 ha.pe hs) (by decide) (by decide) hs hpl,
  simOne (f := fun w ρ P => ∃ d xs, look ρ w = some d ∧ seqOf d = some xs ∧ P (.tup xs) ρ) ha.sim fun C F ρ σ H v w P Q hd hv ⟨d, xs, hl, hs, hp⟩ q => by
    have mk : ∀ {p : Addr} {vs : List V}, RepAll X.K F vs xs → ∀ l, H l = none → Q (.ref l) (upd H l (.tup vs)) := fun {p vs} hr l hl => by
      have fl := hd.sub.free hl
      exact q _ _ (upd F l (.tup vs)) _ hp (Ext.new fl) (hd.alloc hl _) (.tup upd_same (hr.mono (Ext.new fl)))
    cases d with
    | lst ys => cases hs; obtain ⟨p, vs, rfl, g1, g2⟩ := hd.view hv hl; exact ⟨p, vs, rfl, .inl ⟨SqL.of g1, mk (p := p) g2⟩⟩
    | tup ys =>
      cases hs
      have rr := hd.viewTup hv hl
      have rr' := rr
      cases rr with
      | @tup p vs _ hf ra => exact ⟨p, vs, rfl, .inr ⟨SqT.of (hd.sub _ _ hf), q _ _ F H hp (Ext.refl F) hd rr'⟩⟩
    | scr ns => cases hs; obtain ⟨p, rfl, g1⟩ := hd.view hv hl; exact ⟨p, _, rfl, .inl ⟨g1, mk (p := p) (RepAll.ofInts ns)⟩⟩
    | non => cases hs
    | bl b => cases hs
    | int i => cases hs
    | str x => cases hs
    | dT k => cases hs
    | exc _ _ _ _ => cases hs⟩
def pLstOf (va : PTV) : PTF := fun ρ P => va ρ fun w ρ1 => ∃ d xs, look ρ1 w = some d ∧ seqOf d = some xs ∧ P (.lst xs) ρ1
theorem pf_lstOf (hm : X.mg "list" = none) (ha : PV X W a ta va) (hg : Gl X "list" := by rfl) (hs : starEach [a] X.env = (false, eval a X.env) :: starEach [] X.env := by rfl) (hpl : (backTo pos (starEach [] X.env)).any (·.1) = false := by rfl) :
    PF X W (.Call (.Name "list" pp) [a] [] pos) (tCB (fun xs H Q => ∃ p ys, xs = [.ref p] ∧ (SqL X.K H p ys ∨ SqT X.K H p ys) ∧ ∀ l, H l = none → Q (.ref l) (upd H l (.lst ys))) (tCons ta tNil)) (pLstOf va) := ⟨pe_callTy call_list_of hg hm (by decide +kernel) (pa1 ha.pe hs) (by decide) (by decide) hs hpl,
  fun C ok ρ P h F σ H hd Q q => ha.sim C ok ρ _ h F σ H hd _ fun w ρ1 v F1 H1 h1 e1 hd1 r1 => by
    obtain ⟨d, xs, hl, hs, hp⟩ := h1
    obtain ⟨p, vs, rfl, hq, hr⟩ := (hd1.view r1 hl).seq hs
    exact ⟨p, vs, rfl, hq, fun l hl => q _ ρ1 _ F1 _ hp e1 (hd1.lay hl _) (Fresh.of_new hd1 hl (o := .lst xs) ⟨_, upd_same, hr⟩)⟩⟩
/-- isinstance(e, T), T a built-in class -/
def tyN : Dt → String
  | .non => "NoneType" | .bl _ => "bool" | .int _ => "int" | .str _ => "str" | .lst _ => "list" | .tup _ => "tuple" | .scr _ => "list" | .dT _ => "dict" | .exc _ _ _ _ => ""
theorem TopOk.ty {K : Fr} {F H : Hp} {v : V} {d : Dt} (h : TopOk K F H v d) (hn : (∀ ns, d ≠ .scr ns) ∧ ∀ a c dd fs, d ≠ .exc a c dd fs) : TyX K H v (.type (tyN d)) := by
  cases d with
  | non => cases h; exact .base .non
  | bl b => cases h; exact .base (.bl b)
  | int i => cases h; exact .base (.int i)
  | str x => cases h; exact .base (.str x)
  | lst xs => obtain ⟨a, vs, rfl, h1, _⟩ := h; exact .base (.lst h1)
  | tup xs => obtain ⟨a, vs, rfl, h1, _⟩ := h; exact .base (.tup h1)
  | scr ns => exact absurd rfl (hn.1 ns)
  | exc _ _ _ _ => exact absurd rfl (hn.2 _ _ _ _)
  | dT k => obtain ⟨a, vs, rfl, h1, _⟩ := h; exact .base (.dT h1)
def isScr : Dt → Bool
  | .scr _ => true
  | .exc _ _ _ _ => true
  | _ => false
def pIsi (T : String) (va : PTV) : PTE := fun ρ P => va ρ fun w ρ1 => ∃ d b, look ρ1 w = some d ∧ isScr d = false ∧ kitB (tyN d) T = some b ∧ P (.bl b) ρ1
theorem pd_isi {x : Str} {T : String} {p2 : Pos} (hm : X.mg "isinstance" = none) (ha : PV X W a ta va) (hT : X.mg x = none) (hv : bootBuiltins x = some (.type T)) (hg : Gl X "isinstance" := by rfl) (hgT : Gl X x := by rfl) (hnx : x ≠ "__name__" := by decide) (hdx : (x == ("__debug__" : Str)) = false := by decide)
    (hs : starEach [a, .Name x p2] X.env = (false, eval a X.env) :: starEach [.Name x p2] X.env := by rfl) (hs2 : starEach [.Name x p2] X.env = (false, eval (.Name x p2) X.env) :: starEach [] X.env := by rfl) (hpl : (backTo pos (starEach [.Name x p2] X.env)).any (·.1) = false := by rfl) :
    PD X W (.Call (.Name "isinstance" pp) [a, .Name x p2] [] pos) (tCB (rIsi X.K) (tCons ta (tCons (tC (.ty T)) tNil))) (pIsi T va) :=
  ⟨pe_callB call_isi hg hm (by decide +kernel) (L2.pa_cons ha.pe (L2.pa_cons (pe_bltn hgT hT hv rfl hnx hdx) L2.pa_nil hs2) hs) (by decide) (by decide) hs hpl,
  fun C ok ρ P h F σ H hd Q q => ha.sim C ok ρ _ h F σ H hd _ fun w ρ1 v F1 H1 h1 e1 hd1 r1 => by
    obtain ⟨d, k, hl, hsc, hk, hp⟩ := h1
    have tp := hd1.view r1 hl
    exact ⟨v, .ty T, .type (tyN d), .type T, k, rfl, .ty T, tp.ty ⟨fun ns e => (by subst e; cases hsc), fun _ _ _ _ e => (by subst e; cases hsc)⟩, kit_ty hk, q _ ρ1 _ F1 H1 hp e1 hd1 (.bl k)⟩⟩
end
/-! ### x in xs, whole numbers -/
theorem inV_int (n : Int) : ∀ ns : List Int, inV (.int n) (ns.map V.int) = decide (n ∈ ns)
  | [] => rfl
  | m :: ns => by
    have ih := inV_int n ns
    unfold inV at ih ⊢
    rw [List.map_cons, List.any_cons, ih]
    show (m == n || decide (n ∈ ns)) = decide (n ∈ m :: ns)
    by_cases h : m = n
    · subst h; simp
    · have : (m == n) = false := by simpa using h
      rw [this, Bool.false_or]
      simp only [List.mem_cons, decide_eq_decide]
      constructor
      · exact .inr
      · rintro (z | z)
        · exact absurd z.symm h
        · exact z
theorem flat_ints (ns : List Int) : (ns.map V.int).all flatV = true := by
  rw [List.all_eq_true]
  intro x hx
  obtain ⟨n, _, rfl⟩ := List.mem_map.mp hx
  rfl
def pInI (neg : Bool) (pa : PTE) (vb : PTV) : PTE := fun ρ P => pa ρ fun d ρ1 => vb ρ1 fun w ρ2 => ∃ (n : Int) (ns : List Int) (z : Dt), d = .int n ∧ look ρ2 w = some z ∧ seqOf z = some (ns.map Dt.int) ∧ P (.bl (if neg = true then !decide (n ∈ ns) else decide (n ∈ ns))) ρ2
theorem simInI {K : Fr} {neg : Bool} (ha : SimE K W ta pa) (hb : SimV K W tb vb) : SimE K W (tOp (rIn K neg) ta tb) (pInI neg pa vb) := fun C ok ρ P h F σ H hd Q q =>
  ha C ok ρ _ h F σ H hd _ fun d ρ1 x F1 H1 h1 e1 hd1 r1 => hb C ok ρ1 _ h1 F1 σ H1 hd1 _ fun w ρ2 y F2 H2 h2 e2 hd2 r2 => by
    obtain ⟨n, ns, z, rfl, hl, hs, hp⟩ := h2
    cases r1
    obtain ⟨p, vs, rfl, hq, hr⟩ := (hd2.view r2 hl).seq hs
    rw [hr.ints] at hq
    exact ⟨p, ns.map V.int, rfl, hq, rfl, flat_ints ns, q _ ρ2 _ F2 H2 hp (e1.trans e2) hd2 (by rw [inV_int]; exact .bl _)⟩
theorem pd_inI (ha : PD X W a ta pa) (hb : PV X W b tb vb) (hm : behindInMarks .In b = false := by rfl) : PD X W (.Compare a [.In] [b] pos) (tOp (rIn X.K false) ta tb) (pInI false pa vb) := ⟨pe_cmpR op_in_seq ha.pe hb.pe hm, simInI ha.sim hb.sim⟩
theorem pd_notInI (ha : PD X W a ta pa) (hb : PV X W b tb vb) (hm : behindInMarks .NotIn b = false := by rfl) : PD X W (.Compare a [.NotIn] [b] pos) (tOp (rIn X.K true) ta tb) (pInI true pa vb) := ⟨pe_cmpR op_notIn_seq ha.pe hb.pe hm, simInI ha.sim hb.sim⟩
/-! ### dicts with tuple keys -/
def keyOf1 : Dt → Option Key
  | .int i => some (.inl i)
  | .str x => some (.inr x)
  | _ => Option.none
def keyOfs : List Dt → Option (List Key)
  | [] => some []
  | d :: ds => match keyOf1 d, keyOfs ds with
    | some k, some ks => some (k :: ks)
    | _, _ => Option.none
def keyOf : Dt → Option (List Key)
  | .tup ds => keyOfs ds
  | _ => Option.none
theorem keyOfs_rep {K : Fr} {F : Hp} : ∀ {vs : List V} {ds : List Dt} {ks : List Key}, RepAll K F vs ds → keyOfs ds = some ks → vs = ks.map kV
  | _, _, _, .nil, h => by cases h; rfl
  | _, _, ks, .cons (d := d) (ds := ds) r s, h => by
    unfold keyOfs at h
    cases q1 : keyOf1 d with
    | none => rw [q1] at h; cases h
    | some k =>
      cases q2 : keyOfs ds with
      | none => rw [q1, q2] at h; cases h
      | some ks' =>
        rw [q1, q2] at h
        cases h
        have e2 := keyOfs_rep s q2
        cases r with
        | int i => cases q1; rw [e2]; rfl
        | str x => cases q1; rw [e2]; rfl
        | non => cases q1
        | bl b => cases q1
        | lst _ _ => cases q1
        | tup _ _ => cases q1
        | scr _ => cases q1
        | dT _ _ => cases q1
        | exc _ _ => cases q1
theorem keyOf_rep {K : Fr} {F : Hp} {v : V} {d : Dt} {k : List Key} (r : Rep K F v d) (h : keyOf d = some k) : ∃ b, v = .ref b ∧ F b = some (.tup (k.map kV)) := by
  cases r with
  | tup hf ra =>
    have e := keyOfs_rep ra h
    subst e
    exact ⟨_, rfl, hf⟩
  | non => cases h
  | bl b => cases h
  | int i => cases h
  | str x => cases h
  | lst _ _ => cases h
  | scr _ => cases h
  | dT _ _ => cases h
  | exc _ _ => cases h
/-- what a dict holds at a key; a dict behind a store -/
def dget {α : Type} (kvs : List (List Key × α)) (k : List Key) : Option α := (kvs.find? fun kv => decide (kv.1 = k)).map (·.2)
def dput {α : Type} (kvs : List (List Key × α)) (k : List Key) (v : α) : List (List Key × α) :=
  if (kvs.any fun kv => decide (kv.1 = k)) = true then kvs.map (fun kv => if kv.1 = k then (kv.1, v) else kv) else kvs ++ [(k, v)]
theorem dget_rep {K : Fr} {F : Hp} (k : List Key) : ∀ {vs : List (List Key × V)} {ds : List (List Key × Dt)}, RepKV K F vs ds → (dget ds k = Option.none ∧ valV vs k = none) ∨ ∃ z v, dget ds k = some z ∧ valV vs k = some v ∧ Rep K F v z
  | _, _, .nil => .inl ⟨rfl, rfl⟩
  | _, _, .cons (k := k') r s => by
    by_cases h : k' = k
    · refine .inr ⟨_, _, ?_, ?_, r⟩
      · simp [dget, List.find?_cons, h]
      · simp [valV, List.find?_cons, h]
    · have ih := dget_rep k s
      have e1 : ∀ {α : Type} (x : α) (l : List (List Key × α)), dget ((k', x) :: l) k = dget l k := fun x l => by simp [dget, List.find?_cons, h]
      have e2 : ∀ (x : V) (l : List (List Key × V)), valV ((k', x) :: l) k = valV l k := fun x l => by simp [valV, List.find?_cons, h]
      rw [e1, e2]
      exact ih
theorem repkv_any {K : Fr} {F : Hp} (k : List Key) : ∀ {vs : List (List Key × V)} {ds : List (List Key × Dt)}, RepKV K F vs ds → (vs.any fun kv => decide (kv.1 = k)) = (ds.any fun kv => decide (kv.1 = k))
  | _, _, .nil => rfl
  | _, _, .cons r s => by rw [List.any_cons, List.any_cons, repkv_any k s]
theorem repkv_len {K : Fr} {F : Hp} : ∀ {vs : List (List Key × V)} {ds : List (List Key × Dt)}, RepKV K F vs ds → vs.length = ds.length
  | _, _, .nil => rfl
  | _, _, .cons _ s => congrArg (· + 1) (repkv_len s)
theorem repkv_map {K : Fr} {F : Hp} (k : List Key) {v : V} {d : Dt} (r : Rep K F v d) : ∀ {vs : List (List Key × V)} {ds : List (List Key × Dt)}, RepKV K F vs ds → RepKV K F (vs.map fun kv => if kv.1 = k then (kv.1, v) else kv) (ds.map fun kv => if kv.1 = k then (kv.1, d) else kv)
  | _, _, .nil => .nil
  | _, _, .cons (k := k') q s => by
    rw [List.map_cons, List.map_cons]
    by_cases h : k' = k
    · simp only [h, if_true]
      exact .cons r (repkv_map k r s)
    · simp only [h, if_false]
      exact .cons q (repkv_map k r s)
theorem repkv_app {K : Fr} {F : Hp} : ∀ {vs ws : List (List Key × V)} {ds es : List (List Key × Dt)}, RepKV K F vs ds → RepKV K F ws es → RepKV K F (vs ++ ws) (ds ++ es)
  | _, _, _, _, .nil, s => s
  | _, _, _, _, .cons r t, s => .cons r (repkv_app t s)
theorem dput_rep {K : Fr} {F : Hp} (k : List Key) {v : V} {d : Dt} (r : Rep K F v d) {vs : List (List Key × V)} {ds : List (List Key × Dt)} (h : RepKV K F vs ds) : RepKV K F (putK vs k v) (dput ds k d) := by
  unfold putK dput
  rw [repkv_any k h]
  split
  · exact repkv_map k r h
  · exact repkv_app h (.cons r .nil)
theorem dput_len {α : Type} (kvs : List (List Key × α)) (k : List Key) (v : α) : (dput kvs k v).length ≤ kvs.length + 1 := by
  unfold dput
  split
  · rw [List.length_map]; omega
  · rw [List.length_append]; simp
theorem dget_put {α : Type} (kvs : List (List Key × α)) (k j : List Key) (v : α) : dget (dput kvs k v) j = if j = k then some v else dget kvs j := by
  unfold dput
  split
  · rename_i h
    induction kvs with
    | nil => simp at h
    | cons p r ih =>
      rw [List.map_cons]
      by_cases hp : p.1 = k
      · rw [if_pos hp]
        by_cases hj : j = k
        · subst hj
          simp [dget, List.find?_cons, hp]
        · have : ¬ k = j := fun e => hj e.symm
          rw [if_neg hj]
          have e1 : dget (r.map fun kv => if kv.1 = k then (kv.1, v) else kv) j = dget r j := by
            clear ih h
            induction r with
            | nil => rfl
            | cons q s ih2 =>
              rw [List.map_cons]
              by_cases hq : q.1 = k
              · rw [if_pos hq]
                have hqj : ¬ q.1 = j := fun e => this (hq.symm.trans e)
                simp only [dget, List.find?_cons, hqj, decide_false]
                exact ih2
              · rw [if_neg hq]
                by_cases hqj : q.1 = j
                · simp [dget, List.find?_cons, hqj]
                · simp only [dget, List.find?_cons, hqj, decide_false]
                  exact ih2
          have hpj : ¬ p.1 = j := fun e => this (hp.symm.trans e)
          simp only [dget, List.find?_cons, hpj, decide_false] at e1 ⊢
          exact e1
      · rw [if_neg hp]
        have h' : (r.any fun kv => decide (kv.1 = k)) = true := by
          rw [List.any_cons, decide_eq_false hp, Bool.false_or] at h
          exact h
        have ih' := ih h'
        by_cases hpj : p.1 = j
        · have : ¬ j = k := fun e => hp (hpj.trans e)
          rw [if_neg this]
          simp [dget, List.find?_cons, hpj]
        · simp only [dget, List.find?_cons, hpj, decide_false] at ih' ⊢
          exact ih'
  · rename_i h
    have hn : ∀ p ∈ kvs, ¬ p.1 = k := fun p hp e => h (List.any_eq_true.mpr ⟨p, hp, decide_eq_true e⟩)
    induction kvs with
    | nil =>
      by_cases hj : j = k
      · subst hj; simp [dget]
      · have : ¬ k = j := fun e => hj e.symm
        simp [dget, List.find?_cons, this, hj]
    | cons p r ih =>
      have h' : ¬ (r.any fun kv => decide (kv.1 = k)) = true := fun z => h (by rw [List.any_cons, z, Bool.or_true])
      have ih' := ih h' fun q hq => hn q (List.mem_cons_of_mem _ hq)
      rw [List.cons_append]
      by_cases hpj : p.1 = j
      · have : ¬ j = k := fun e => hn p List.mem_cons_self (hpj.trans e)
        rw [if_neg this]
        simp [dget, List.find?_cons, hpj]
      · simp only [dget, List.find?_cons, hpj, decide_false] at ih' ⊢
        exact ih'
def pDGet (va : PTV) (pb : PTE) : PTE := fun ρ P => va ρ fun w ρ1 => pb ρ1 fun y ρ2 => ∃ kvs k z, look ρ2 w = some (.dT kvs) ∧ keyOf y = some k ∧ dget kvs k = some z ∧ P z ρ2
theorem pd_dget (hu : X.A.units + 1 < cLine) (ha : PV X W a ta va) (hb : PD X W b tb pb) (hs : NoSl b := by exact fun _ _ => rfl) : PD X W (.Subscript a b pos) (tDGet ta tb) (pDGet va pb) := ⟨pe_dget hu ha.pe hb.pe hs, fun C ok ρ P h F σ H hd Q q =>
  ha.sim C ok ρ _ h F σ H hd _ fun w ρ1 x F1 H1 h1 e1 hd1 r1 => hb.sim C ok ρ1 _ h1 F1 σ H1 hd1 _ fun y ρ2 v F2 H2 h2 e2 hd2 r2 => by
    obtain ⟨kvs, k, z, hl, hk, hz, hp⟩ := h2
    obtain ⟨p, vs, rfl, g1, g2⟩ := hd2.view (r1.mono e2) hl
    obtain ⟨b', rfl, hb'⟩ := keyOf_rep r2 hk
    rcases dget_rep k g2 with ⟨n1, _⟩ | ⟨z', v', n1, n2, n3⟩
    · rw [hz] at n1; cases n1
    · rw [hz] at n1; cases n1
      refine ⟨p, v', rfl, ?_, q z ρ2 v' F2 H2 hp (e1.trans e2) hd2 n3⟩
      rw [← n2]
      exact DGet.t g1 (hd2.sub _ _ hb')⟩
def pDIn (neg : Bool) (pa : PTE) (vb : PTV) : PTE := fun ρ P => pa ρ fun y ρ1 => vb ρ1 fun w ρ2 => ∃ kvs k, look ρ2 w = some (.dT kvs) ∧ keyOf y = some k ∧ P (.bl (if neg = true then !(dget kvs k).isSome else (dget kvs k).isSome)) ρ2
theorem dget_some {K : Fr} {F : Hp} {k : List Key} {vs : List (List Key × V)} {ds : List (List Key × Dt)} (h : RepKV K F vs ds) : (valV vs k).isSome = (dget ds k).isSome := by
  rcases dget_rep k h with ⟨n1, n2⟩ | ⟨z', v', n1, n2, n3⟩ <;> rw [n1, n2] <;> rfl
theorem pd_din (hu : X.A.units + 1 < cLine) (ha : PD X W a ta pa) (hb : PV X W b tb vb) (h1 : behindInMarks .In b = false := by rfl) : PD X W (.Compare a [.In] [b] pos) (tDIn ta tb) (pDIn false pa vb) := ⟨pe_cmp (pc_din hu ha.pe hb.pe) h1, fun C ok ρ P h F σ H hd Q q =>
  ha.sim C ok ρ _ h F σ H hd _ fun y ρ1 x F1 H1 h1 e1 hd1 r1 => hb.sim C ok ρ1 _ h1 F1 σ H1 hd1 _ fun w ρ2 v F2 H2 h2 e2 hd2 r2 => by
    obtain ⟨kvs, k, hl, hk, hp⟩ := h2
    obtain ⟨p, vs, rfl, g1, g2⟩ := hd2.view r2 hl
    obtain ⟨b', rfl, hb'⟩ := keyOf_rep (r1.mono e2) hk
    exact ⟨p, _, rfl, DGet.t g1 (hd2.sub _ _ hb'), q _ ρ2 _ F2 H2 hp (e1.trans e2) hd2 (by rw [dget_some g2]; exact .bl _)⟩⟩
theorem pd_dnotin (hu : X.A.units + 1 < cLine) (ha : PD X W a ta pa) (hb : PV X W b tb vb) (h1 : behindInMarks .NotIn b = false := by rfl) : PD X W (.Compare a [.NotIn] [b] pos) (tDNotIn ta tb) (pDIn true pa vb) := ⟨pe_cmp (pc_dnotin hu ha.pe hb.pe) h1, fun C ok ρ P h F σ H hd Q q =>
  ha.sim C ok ρ _ h F σ H hd _ fun y ρ1 x F1 H1 h1 e1 hd1 r1 => hb.sim C ok ρ1 _ h1 F1 σ H1 hd1 _ fun w ρ2 v F2 H2 h2 e2 hd2 r2 => by
    obtain ⟨kvs, k, hl, hk, hp⟩ := h2
    obtain ⟨p, vs, rfl, g1, g2⟩ := hd2.view r2 hl
    obtain ⟨b', rfl, hb'⟩ := keyOf_rep (r1.mono e2) hk
    exact ⟨p, _, rfl, DGet.t g1 (hd2.sub _ _ hb'), q _ ρ2 _ F2 H2 hp (e1.trans e2) hd2 (by rw [dget_some g2]; exact .bl _)⟩⟩
def pDNew : PTF := fun ρ P => P (.dT []) ρ
theorem pf_dnew : PF X W (.Dict [] [] pos) tDNewT pDNew := ⟨pe_dnewT, fun C ok ρ P h F σ H hd Q q p hp => q _ ρ p F _ h (Ext.refl F) (hd.lay hp _) (Fresh.of_new hd hp (o := .dT []) ⟨[], upd_same, .nil⟩)⟩
/-! ### tuples, lists put together -/
def pCatT (va vb : PTV) : PTE := fun ρ P => va ρ fun w ρ1 => vb ρ1 fun u ρ2 => ∃ xs ys, look ρ2 w = some (.tup xs) ∧ look ρ2 u = some (.tup ys) ∧ xs.length + ys.length ≤ 1000000 ∧ P (.tup (xs ++ ys)) ρ2
theorem pd_catT (ha : PV X W a ta va) (hb : PV X W b tb vb) : PD X W (.BinOp a .Add b pos) (tOp (rCatA X.K) ta tb) (pCatT va vb) := ⟨pe_op op_catA ha.pe hb.pe, fun C ok ρ P h F σ H hd Q q =>
  ha.sim C ok ρ _ h F σ H hd _ fun w ρ1 x F1 H1 h1 e1 hd1 r1 => hb.sim C ok ρ1 _ h1 F1 σ H1 hd1 _ fun u ρ2 y F2 H2 h2 e2 hd2 r2 => by
    obtain ⟨xs, ys, hl, hl2, hz, hp⟩ := h2
    have ra := hd2.viewTup (r1.mono e2) hl
    have rb := hd2.viewTup r2 hl2
    have ra' := ra
    have rb' := rb
    cases ra with
    | @tup p1 vs1 _ f1 g1 =>
      cases rb with
      | @tup p2 vs2 _ f2 g2 =>
        have e12 := e1.trans e2
        refine ⟨p1, p2, vs1, vs2, rfl, rfl, SqT.of (hd2.sub _ _ f1), SqT.of (hd2.sub _ _ f2), big (by rw [g1.length, g2.length]; exact hz), fun hn => ?_, fun _ hn => ?_, fun _ _ p hp' => ?_⟩
        · subst hn
          cases g1
          exact q _ ρ2 _ F2 H2 hp e12 hd2 rb'
        · subst hn
          cases g2
          exact q _ ρ2 _ F2 H2 hp e12 hd2 (by rw [List.append_nil]; exact ra')
        · have fl := hd2.sub.free hp'
          exact q _ ρ2 _ (upd F2 p (.tup (vs1 ++ vs2))) _ hp (e12.trans (Ext.new fl)) (hd2.alloc hp' _) (.tup upd_same ((g1.app g2).mono (Ext.new fl)))⟩
def pCatL (va vb : PTV) : PTF := fun ρ P => va ρ fun w ρ1 => vb ρ1 fun u ρ2 => ∃ xs ys, look ρ2 w = some (.lst xs) ∧ look ρ2 u = some (.lst ys) ∧ xs.length + ys.length ≤ 1000000 ∧ P (.lst (xs ++ ys)) ρ2
theorem pf_catL (ha : PV X W a ta va) (hb : PV X W b tb vb) : PF X W (.BinOp a .Add b pos) (tOp rCat ta tb) (pCatL va vb) := ⟨pe_op op_cat ha.pe hb.pe, fun C ok ρ P h F σ H hd Q q =>
  ha.sim C ok ρ _ h F σ H hd _ fun w ρ1 x F1 H1 h1 e1 hd1 r1 => hb.sim C ok ρ1 _ h1 F1 σ H1 hd1 _ fun u ρ2 y F2 H2 h2 e2 hd2 r2 => by
    obtain ⟨xs, ys, hl, hl2, hz, hp⟩ := h2
    obtain ⟨p1, vs1, rfl, f1, g1⟩ := hd2.view (r1.mono e2) hl
    obtain ⟨p2, vs2, rfl, f2, g2⟩ := hd2.view r2 hl2
    exact ⟨p1, p2, vs1, vs2, rfl, rfl, f1, f2, big (by rw [g1.length, g2.length]; exact hz), fun p hp' => q _ ρ2 _ F2 _ hp (e1.trans e2) (hd2.lay hp' _) (Fresh.of_new hd2 hp' (o := .lst (xs ++ ys)) ⟨_, upd_same, g1.app g2⟩)⟩⟩
/-- xs.index(n), whole numbers -/
def pIndex (va : PTV) (pb : PTE) : PTE := fun ρ P => va ρ fun w ρ1 => (∃ xs, look ρ1 w = some (.lst xs)) ∧ pb ρ1 fun d ρ2 => ∃ (ns : List Int) (n : Int), look ρ2 w = some (.lst (ns.map Dt.int)) ∧ d = .int n ∧ n ∈ ns ∧ P (.int (ns.idxOf n)) ρ2
theorem idx_of_mem {n : Int} {ns : List Int} (h : n ∈ ns) : (ns.map V.int)[ns.idxOf n]? = some (.int n) ∧ ∀ (m : Nat) (z : V), m < ns.idxOf n → (ns.map V.int)[m]? = some z → eqV z (.int n) = false := by
  have hl : ns.idxOf n < ns.length := List.idxOf_lt_length_of_mem h
  refine ⟨by rw [List.getElem?_map, List.getElem?_eq_getElem hl, List.getElem_idxOf hl]; rfl, fun m z hm hz => ?_⟩
  rw [List.getElem?_map, List.getElem?_eq_getElem (Nat.lt_trans hm hl)] at hz
  cases hz
  show (ns[m] == n) = false
  have hne := List.not_of_lt_findIdx (p := fun x => x == n) (xs := ns) (i := m) hm
  simpa using hne
theorem pd_index {apos : Pos} (ha : PV X W a ta va) (hb : PD X W b tb pb) (hbase : attributeBase a "index" X.env (eval a X.env) = eval a X.env := by rfl)
    (hfew : ((backTo pos (starEach [b] X.env)).all (fun x => !x.1) && (backToKw pos (keywordEach [] X.env)).all (fun x => x.1.isSome)
      && decide ([b].length + ([] : List Keyword).length + (if ([] : List Keyword).isEmpty then 0 else 1) < 30)) = true := by rfl)
    (hline : (apos.endLine == pos.line) = true := by rfl) (hs : starEach [b] X.env = (false, eval b X.env) :: starEach [] X.env := by rfl) (hplain : (backTo pos (starEach [] X.env)).any (·.1) = false := by rfl) :
    PD X W (.Call (.Attribute a "index" apos) [b] [] pos) (tBM X.K "list" (rIndex X.K) ta (tCons tb tNil)) (pIndex va pb) := ⟨pe_bm PySem.F.plainAttrs_list PySem.F.slot_list_index PySem.F.type_list_index mt_index ha.pe (pa1 hb.pe hs) hbase hfew hline hs hplain, fun C ok ρ P h F σ H hd Q q =>
  ha.sim C ok ρ _ h F σ H hd _ fun w ρ1 x F1 H1 h1 e1 hd1 r1 => by
    obtain ⟨⟨xs, hl⟩, h1⟩ := h1
    obtain ⟨p, vs, rfl, g1, g2⟩ := hd1.view r1 hl
    refine ⟨.inl ⟨rfl, _, SqL.of g1⟩, hb.sim C ok ρ1 _ h1 F1 σ H1 hd1 _ fun d ρ2 v F2 H2 h2 e2 hd2 r2 => ?_⟩
    obtain ⟨ns, n, hl2, rfl, hmem, hp⟩ := h2
    cases r2
    obtain ⟨p', e, hq⟩ := ints_of hd2 (r1.mono e2) hl2
    cases e
    obtain ⟨i1, i2⟩ := idx_of_mem hmem
    exact ⟨p, _, .int n, _, .int n, rfl, rfl, hq, rfl, flat_ints ns, i1, by simp [eqV], i2, q _ ρ2 _ F2 H2 hp (e1.trans e2) hd2 (.int _)⟩⟩
end
end Wk
namespace Wk
open PySem L2
/-! ### == of data -/
def okn : Nat → Dt → Bool
  | _, .non => true
  | _, .bl _ => true
  | _, .int _ => true
  | _, .str x => PyData.strOk x
  | n + 1, .lst xs => xs.all (okn n)
  | n + 1, .tup xs => xs.all (okn n)
  | _, _ => false
def pyn : Nat → Dt → PyData
  | _, .non => .none
  | _, .bl b => .bool b
  | _, .int i => .int i
  | _, .str x => .str x
  | n + 1, .lst xs => .list (xs.map (pyn n))
  | n + 1, .tup xs => .tuple (xs.map (pyn n))
  | _, _ => .none
def eqls (f : Dt → Dt → Bool) : List Dt → List Dt → Bool
  | [], [] => true
  | x :: xs, y :: ys => f x y && eqls f xs ys
  | _, _ => false
def eqbn : Nat → Dt → Dt → Bool
  | _, .non, .non => true
  | _, .bl a, .bl b => a == b
  | _, .bl a, .int j => (if a then 1 else 0) == j
  | _, .int i, .bl b => i == (if b then 1 else 0)
  | _, .int i, .int j => decide (i = j)
  | _, .str x, .str y => x == y
  | n + 1, .lst xs, .lst ys => eqls (eqbn n) xs ys
  | n + 1, .tup xs, .tup ys => eqls (eqbn n) xs ys
  | _, _, _ => false
theorem okn_lay : ∀ (n : Nat) (d : Dt), okn n d = true → (pyn n d).canLay0 = true ∧ (pyn n d).depth ≤ n := by
  intro n
  induction n with
  | zero =>
    intro d h
    cases d with
    | non => simp [pyn, PyData.canLay0, PyData.depth]
    | bl b => simp [pyn, PyData.canLay0, PyData.depth]
    | int i => simp [pyn, PyData.canLay0, PyData.depth]
    | str x => simp only [okn] at h; simp [pyn, PyData.canLay0, PyData.depth, h]
    | lst xs => simp [okn] at h
    | tup xs => simp [okn] at h
    | scr ns => simp [okn] at h
    | dT k => simp [okn] at h
    | exc _ _ _ _ => simp [okn] at h
  | succ n ih =>
    intro d h
    have all : ∀ xs : List Dt, xs.all (okn n) = true → PyData.canLayAll0 (xs.map (pyn n)) = true ∧ PyData.depthAll (xs.map (pyn n)) ≤ n := by
      intro xs
      induction xs with
      | nil => intro _; simp [PyData.canLayAll0, PyData.depthAll]
      | cons x xs ihx =>
        intro hx
        rw [List.all_cons, Bool.and_eq_true] at hx
        obtain ⟨a1, a2⟩ := ih x hx.1
        obtain ⟨b1, b2⟩ := ihx hx.2
        simp only [List.map_cons, PyData.canLayAll0, PyData.depthAll, a1, b1, Bool.and_self, true_and]
        omega
    cases d with
    | non => simp [pyn, PyData.canLay0, PyData.depth]
    | bl b => simp [pyn, PyData.canLay0, PyData.depth]
    | int i => simp [pyn, PyData.canLay0, PyData.depth]
    | str x => simp only [okn] at h; simp [pyn, PyData.canLay0, PyData.depth, h]
    | lst xs =>
      simp only [okn] at h
      obtain ⟨a1, a2⟩ := all xs h
      simp only [pyn, PyData.canLay0, PyData.depth, a1, true_and]
      omega
    | tup xs =>
      simp only [okn] at h
      obtain ⟨a1, a2⟩ := all xs h
      simp only [pyn, PyData.canLay0, PyData.depth, a1, true_and]
      omega
    | scr ns => simp [okn] at h
    | dT k => simp [okn] at h
    | exc _ _ _ _ => simp [okn] at h
theorem okn_shaped {n : Nat} {d : Dt} (hn : n ≤ 64) (h : okn n d = true) : SeqAt.shaped (pyn n d) = true := by
  obtain ⟨h1, h2⟩ := okn_lay n d h
  unfold SeqAt.shaped
  rw [h1, Bool.true_and]
  exact decide_eq_true (by omega)
theorem eqv_eqbn : ∀ (n : Nat) (d e : Dt), okn n d = true → okn n e = true → PyData.eqv (pyn n d) (pyn n e) = eqbn n d e := by
  intro n
  induction n with
  | zero =>
    intro d e h h'
    cases d <;> cases e <;> simp [okn] at h h' <;> simp [pyn, PyData.eqv, eqbn] <;> rfl
  | succ n ih =>
    intro d e h h'
    have all : ∀ xs ys : List Dt, xs.all (okn n) = true → ys.all (okn n) = true → PyData.eqvAll (xs.map (pyn n)) (ys.map (pyn n)) = eqls (eqbn n) xs ys := by
      intro xs
      induction xs with
      | nil => intro ys _ _; cases ys <;> simp [PyData.eqvAll, eqls]
      | cons x xs ihx =>
        intro ys hx hy
        cases ys with
        | nil => simp [PyData.eqvAll, eqls]
        | cons y ys =>
          rw [List.all_cons, Bool.and_eq_true] at hx hy
          simp only [List.map_cons, PyData.eqvAll, eqls, ih x y hx.1 hy.1, ihx ys hx.2 hy.2]
    cases d <;> cases e <;> simp only [okn] at h h' <;> first | (cases h; done) | (cases h'; done) | (simp only [pyn, PyData.eqv, eqbn]; first | rfl | (exact all _ _ h h') | (simp [Int.beq_eq_decide_eq]; done) | skip)
mutual
theorem Rep.dp {K : Fr} {F : Hp} : ∀ {v : V} {d : Dt} (n : Nat), Rep K F v d → okn n d = true → Dp K F v (pyn n d)
  | _, _, n, .non, _ => by cases n <;> exact .non
  | _, _, n, .bl b, _ => by cases n <;> exact .bl b
  | _, _, n, .int i, _ => by cases n <;> exact .int i
  | _, _, n, .str x, _ => by cases n <;> exact .str x
  | _, _, 0, .lst h r, ho => by simp [okn] at ho
  | _, _, 0, .tup h r, ho => by simp [okn] at ho
  | _, _, n + 1, .lst h r, ho => by
    simp only [okn] at ho
    simp only [pyn]
    exact .lst (SqL.of h) (RepAll.dp n r ho)
  | _, _, n + 1, .tup h r, ho => by
    simp only [okn] at ho
    simp only [pyn]
    exact .tup (SqT.of h) (RepAll.dp n r ho)
  | _, _, n, .scr h, ho => by cases n <;> simp [okn] at ho
  | _, _, n, .dT h r, ho => by cases n <;> simp [okn] at ho
  | _, _, n, .exc h r, ho => by cases n <;> simp [okn] at ho
theorem RepAll.dp {K : Fr} {F : Hp} : ∀ {v : List V} {d : List Dt} (n : Nat), RepAll K F v d → d.all (okn n) = true → DpAll K F v (d.map (pyn n))
  | _, _, _, .nil, _ => .nil
  | _, _, n, .cons r s, ho => by
    rw [List.all_cons, Bool.and_eq_true] at ho
    exact .cons (Rep.dp n r ho.1) (RepAll.dp n s ho.2)
end
theorem TopOk.dp {K : Fr} {F H : Hp} (e : Ext F H) {v : V} {d : Dt} {n : Nat} (h : TopOk K F H v d) (ho : okn n d = true) : Dp K H v (pyn n d) := by
  cases d with
  | non => exact (Rep.mono e h).dp n ho
  | bl b => exact (Rep.mono e h).dp n ho
  | int i => exact (Rep.mono e h).dp n ho
  | str x => exact (Rep.mono e h).dp n ho
  | lst xs =>
    obtain ⟨a, vs, rfl, h1, h2⟩ := h
    exact (Rep.lst h1 (h2.mono e)).dp n ho
  | tup xs =>
    obtain ⟨a, vs, rfl, h1, h2⟩ := h
    exact (Rep.tup h1 (h2.mono e)).dp n ho
  | scr ns => cases n <;> simp [okn] at ho
  | dT k => cases n <;> simp [okn] at ho
  | exc _ _ _ _ => cases n <;> simp [okn] at ho
section
variable {X : Cx} {W : Wx} {a b c : Expr} {e : Expr} {es : List Expr} {ta tb tc te : TE} {pa pb pc pe : PTE} {va vb : PTV} {pos : Pos}
def pEq (neg : Bool) (va vb : PTV) : PTE := fun ρ P => va ρ fun w ρ1 => vb ρ1 fun u ρ2 => ∃ d e, look ρ2 w = some d ∧ look ρ2 u = some e ∧ okn 60 d = true ∧ okn 60 e = true ∧ P (.bl (if neg = true then !eqbn 60 d e else eqbn 60 d e)) ρ2
theorem pd_eq (hu : X.A.units + 64 < cLine) (ha : PV X W a ta va) (hb : PV X W b tb vb) (hm : behindInMarks .Eq b = false := by exact nomark _) : PD X W (.Compare a [.Eq] [b] pos) (tOp (rEqD X.K) ta tb) (pEq false va vb) := ⟨pe_cmpR (op_eqD hu) ha.pe hb.pe hm, fun C ok ρ P h F σ H hd Q q =>
  ha.sim C ok ρ _ h F σ H hd _ fun w ρ1 x F1 H1 h1 e1 hd1 r1 => hb.sim C ok ρ1 _ h1 F1 σ H1 hd1 _ fun u ρ2 y F2 H2 h2 e2 hd2 r2 => by
    obtain ⟨d, e, hl, hl2, o1, o2, hp⟩ := h2
    refine ⟨_, _, (hd2.view (r1.mono e2) hl).dp hd2.sub o1, (hd2.view r2 hl2).dp hd2.sub o2, okn_shaped (by decide) o1, okn_shaped (by decide) o2, q _ ρ2 _ F2 H2 hp (e1.trans e2) hd2 ?_⟩
    rw [eqv_eqbn 60 d e o1 o2]
    exact .bl _⟩
theorem pd_ne (hu : X.A.units + 64 < cLine) (ha : PV X W a ta va) (hb : PV X W b tb vb) (hm : behindInMarks .NotEq b = false := by exact nomark _) : PD X W (.Compare a [.NotEq] [b] pos) (tOp (rNeD X.K) ta tb) (pEq true va vb) := ⟨pe_cmpR (op_neD hu) ha.pe hb.pe hm, fun C ok ρ P h F σ H hd Q q =>
  ha.sim C ok ρ _ h F σ H hd _ fun w ρ1 x F1 H1 h1 e1 hd1 r1 => hb.sim C ok ρ1 _ h1 F1 σ H1 hd1 _ fun u ρ2 y F2 H2 h2 e2 hd2 r2 => by
    obtain ⟨d, e, hl, hl2, o1, o2, hp⟩ := h2
    refine ⟨_, _, (hd2.view (r1.mono e2) hl).dp hd2.sub o1, (hd2.view r2 hl2).dp hd2.sub o2, okn_shaped (by decide) o1, okn_shaped (by decide) o2, q _ ρ2 _ F2 H2 hp (e1.trans e2) hd2 ?_⟩
    rw [eqv_eqbn 60 d e o1 o2]
    exact .bl _⟩
/-- a == b of whole numbers -/
theorem pd_eqI (ha : PD X W a ta pa) (hb : PD X W b tb pb) : PD X W (.Compare a [.Eq] [b] pos) (tOp rEq ta tb) (pOp (fI0 fun i j => .bl (decide (i = j))) pa pb) := pd_cmp (fun F H x y d e P Q _ rx ry ⟨i, j, e1, e2, hp⟩ q => by
  subst e1; subst e2
  cases rx; cases ry
  refine ⟨rfl, q _ _ hp ?_⟩
  rw [show decide (V.int i = V.int j) = decide (i = j) from by simp]
  exact .bl _) op_eq ha hb
theorem pd_neI (ha : PD X W a ta pa) (hb : PD X W b tb pb) : PD X W (.Compare a [.NotEq] [b] pos) (tOp rNe ta tb) (pOp (fI0 fun i j => .bl (!decide (i = j))) pa pb) := pd_cmp (fun F H x y d e P Q _ rx ry ⟨i, j, e1, e2, hp⟩ q => by
  subst e1; subst e2
  cases rx; cases ry
  refine ⟨rfl, q _ _ hp ?_⟩
  rw [show decide (V.int i = V.int j) = decide (i = j) from by simp]
  exact .bl _) op_ne ha hb
/-- a op b op' c, whole numbers -/
def pChain (f g : Int → Int → Bool) (pa pb pc : PTE) : PTE := fun ρ P => pa ρ fun x ρ1 => pb ρ1 fun y ρ2 => ∃ i j, x = .int i ∧ y = .int j ∧ if f i j = true then pc ρ2 (fun z ρ3 => ∃ k, z = .int k ∧ P (.bl (g j k)) ρ3) else P (.bl false) ρ2
theorem pd_chain {op op' : CmpOp} {f g : Int → Int → Bool} (ho : OpR X (compareOp op) (rI0 fun i j => .bl (f i j))) (ho' : OpR X (compareOp op') (rI0 fun i j => .bl (g i j))) (ha : PD X W a ta pa) (hb : PD X W b tb pb) (hc : PD X W c tc pc)
    (hm : lastMarks [op, op'] [b, c] = false := by with_unfolding_all rfl) : PD X W (.Compare a [op, op'] [b, c] pos) (tChain (rI0 fun i j => .bl (f i j)) (rI0 fun i j => .bl (g i j)) ta tb tc) (pChain f g pa pb pc) := ⟨pe_chain ho ho' ha.pe hb.pe hc.pe hm, fun C ok ρ P h F σ H hd Q q =>
  ha.sim C ok ρ _ h F σ H hd _ fun x ρ1 v1 F1 H1 h1 e1 hd1 r1 => hb.sim C ok ρ1 _ h1 F1 σ H1 hd1 _ fun y ρ2 v2 F2 H2 h2 e2 hd2 r2 => by
    obtain ⟨i, j, rfl, rfl, h2⟩ := h2
    cases r1
    cases r2
    refine ⟨i, j, rfl, rfl, f i j, rfl, ?_⟩
    by_cases hf : f i j = true
    · rw [if_pos hf] at h2 ⊢
      exact hc.sim C ok ρ2 _ h2 F2 σ H2 hd2 _ fun z ρ3 v3 F3 H3 h3 e3 hd3 r3 => by
        obtain ⟨k, rfl, hp⟩ := h3
        cases r3
        exact ⟨j, k, rfl, rfl, q _ ρ3 _ F3 H3 hp ((e1.trans e2).trans e3) hd3 (.bl _)⟩
    · rw [if_neg hf] at h2 ⊢
      exact q _ ρ2 _ F2 H2 h2 (e1.trans e2) hd2 (.bl _)⟩
end
end Wk
namespace Wk
open PySem L2
/-! ### what a def hands back -/
inductive Rs where
  | dat (d : Dt) | own (o : Ow)
def Rs.dt : Rs → Dt
  | .dat d => d
  | .own o => o.dt
/-- the arguments, and the addresses of those that are lent -/
inductive ArgsOk (K : Fr) (F H : Hp) : List V → List En → List Addr → Prop
  | nil : ArgsOk K F H [] [] []
  | dat {v : V} {d : Dt} {vs : List V} {es : List En} {as : List Addr} : Rep K F v d → ArgsOk K F H vs es as → ArgsOk K F H (v :: vs) (.dat d :: es) as
  | own {a : Addr} {o : Ow} {vs : List V} {es : List En} {as : List Addr} : F a = none → OwOk K F H a o → ArgsOk K F H vs es as → ArgsOk K F H (.ref a :: vs) (.own true o :: es) (a :: as)
theorem ArgsOk.length {K : Fr} {F H : Hp} : ∀ {vs : List V} {es : List En} {as : List Addr}, ArgsOk K F H vs es as → vs.length = es.length
  | _, _, _, .nil => rfl
  | _, _, _, .dat _ s => congrArg (· + 1) (ArgsOk.length s)
  | _, _, _, .own _ _ s => congrArg (· + 1) (ArgsOk.length s)
abbrev FSpec := List En → (Rs → List Ow → Prop) → (Addr → List (Str × Dt) → Prop) → Prop
def RtOk (K : Fr) (F' H' H : Hp) (v : V) : Rs → Prop
  | .dat d => Rep K F' v d
  | .own o => ∃ a, v = .ref a ∧ F' a = none ∧ OwOk K F' H' a o ∧ H a = none
abbrev OutsOk (K : Fr) (F' H' : Hp) : List Addr → List Ow → Prop := Paired fun a o => F' a = none ∧ OwOk K F' H' a o
/-- the promise of a def with n parameters -/
def spF (K : Fr) (n : Nat) (spec : FSpec) : Sp := fun vs H Q E => ∃ (F : Hp) (es : List En) (as : List Addr) (P : Rs → List Ow → Prop) (Ex : Addr → List (Str × Dt) → Prop),
  es.length = n ∧ Ext F H ∧ ArgsOk K F H vs es as ∧ as.Nodup ∧ spec es P Ex ∧
  (∀ r os v F' H', P r os → Ext F F' → Ext F' H' → (∀ a o, F' a = some o → F a = some o ∨ H a = none) → (∀ a o, H a = some o → ∃ o', H' a = some o' ∧ (a ∉ as → o' = o)) → OutsOk K F' H' as os → RtOk K F' H' H v r → Q v H') ∧
  (∀ c dd fs xs F' H', Ex c fs → RepF K F' xs fs → Ext F F' → Ext F' H' → (∀ a o, F' a = some o → F a = some o ∨ H a = none) → (∀ a o, H a = some o → ∃ o', H' a = some o' ∧ (a ∉ as → o' = o)) → H' dd = some (.xd xs) → H dd = none → E (.ref c) (some dd) H')
/-! ### the caller's side -/
def resv (ρ : Rho) : List Vw → Option (List En)
  | [] => some []
  | .dat d :: ws => match resv ρ ws with
    | some es => some (.dat d :: es)
    | Option.none => Option.none
  | .slot i :: ws => match ρ[i]?, resv ρ ws with
    | some (some (.own _ o)), some es => some (.own true o :: es)
    | _, _ => Option.none
def slotsOf : List Vw → List Nat
  | [] => []
  | .dat _ :: ws => slotsOf ws
  | .slot i :: ws => i :: slotsOf ws
def wback (ρ : Rho) : List Nat → List Ow → Option Rho
  | [], [] => some ρ
  | i :: is, o :: os => match ρ[i]? with
    | some (some (.own io _)) => wback (ρ.set i (some (.own io o))) is os
    | _ => Option.none
  | _, _ => Option.none
section
variable {K : Fr} {C : PC} {F F' : Hp} {ρ : Rho} {σ : L2.St} {H H' : Hp}
theorem resv_args (hd : Hd K C F ρ σ H) : ∀ {vs : List V} {ws : List Vw} {es : List En}, VwsOk K F σ vs ws → resv ρ ws = some es → ∃ as, ArgsOk K F H vs es as ∧ Paired (fun a i => σ[i]? = some (some (.ref a)) ∧ ∃ io o, ρ[i]? = some (some (.own io o))) as (slotsOf ws)
  | _, _, _, .nil, h => by cases h; exact ⟨[], .nil, .nil⟩
  | _, _, _, .cons (b := .dat d) r s, h => by
    unfold resv at h
    cases q : resv ρ _ with
    | none => rw [q] at h; cases h
    | some es =>
      rw [q] at h
      cases h
      obtain ⟨as, h1, h2⟩ := resv_args hd s q
      exact ⟨as, .dat r h1, h2⟩
  | _, _, _, .cons (b := .slot i) (l₂ := ws) r s, h => by
    unfold resv at h
    cases q1 : ρ[i]? with
    | none => rw [q1] at h; cases h
    | some x =>
      cases x with
      | none => rw [q1] at h; cases h
      | some en =>
        cases en with
        | dat d => rw [q1] at h; cases h
        | own io o =>
          cases q : resv ρ ws with
          | none => rw [q1, q] at h; cases h
          | some es =>
            rw [q1, q] at h
            cases h
            obtain ⟨as, h1, h2⟩ := resv_args hd s q
            obtain ⟨a, g1, g2, g3, g4⟩ := hd.ownAt q1
            have r : σ[i]? = some (some _) := r
            rw [g1] at r
            cases r
            exact ⟨a :: as, .own g2 g3 h1, .cons ⟨g1, _, _, q1⟩ h2⟩
theorem slots_nodup (hd : Hd K C F ρ σ H) : ∀ {as : List Addr} {is : List Nat}, Paired (fun a i => σ[i]? = some (some (.ref a)) ∧ ∃ io o, ρ[i]? = some (some (.own io o))) as is → is.Nodup → as.Nodup
  | _, _, .nil, _ => List.nodup_nil
  | _, _, .cons (a := a) (b := i) (l₁ := as) (l₂ := is) r s, h => by
    rw [List.nodup_cons] at h ⊢
    refine ⟨fun hm => h.1 ?_, slots_nodup hd s h.2⟩
    clear h
    obtain ⟨r1, io, o, r2⟩ := r
    induction s with
    | nil => simp at hm
    | cons q t ih =>
      obtain ⟨q1, io2, o2, q2⟩ := q
      rcases List.mem_cons.mp hm with e | e
      · subst e
        rw [hd.sep _ _ _ _ _ _ _ r2 q2 r1 q1]
        exact List.mem_cons_self
      · exact List.mem_cons_of_mem _ (ih e)
/-- the heap as it was at L, as it is elsewhere -/
def mixH (L : List Addr) (H H' : Hp) : Hp := fun a => if a ∈ L then H a else H' a
theorem mixH_nil : mixH [] H H' = H' := by funext a; simp [mixH]
theorem mixH_cons {a : Addr} {L : List Addr} {u : HO} (ha : a ∉ L) (hu : H' a = some u) : upd (mixH (a :: L) H H') a u = mixH L H H' := by
  funext b
  by_cases e : b = a
  · subst e; rw [upd_same, mixH, if_neg ha, hu]
  · rw [upd_ne e]
    unfold mixH
    by_cases hb : b ∈ L
    · rw [if_pos hb, if_pos (List.mem_cons_of_mem _ hb)]
    · rw [if_neg hb, if_neg (fun z => (List.mem_cons.mp z).elim e hb)]
theorem paired_mem {α β : Type} {R : α → β → Prop} : ∀ {as : List α} {bs : List β}, Paired R as bs → ∀ {a : α}, a ∈ as → ∃ b, b ∈ bs ∧ R a b
  | _, _, .nil, _, h => by simp at h
  | _, _, .cons r s, a, h => by
    rcases List.mem_cons.mp h with e | e
    · subst e; exact ⟨_, List.mem_cons_self, r⟩
    · obtain ⟨b, h1, h2⟩ := paired_mem s e
      exact ⟨b, List.mem_cons_of_mem _ h1, h2⟩
theorem paired_imp {α β : Type} {R S : α → β → Prop} : ∀ {as : List α} {bs : List β}, Paired R as bs → (∀ a b, b ∈ bs → R a b → S a b) → Paired S as bs
  | _, _, .nil, _ => .nil
  | _, _, .cons r s, h => .cons (h _ _ List.mem_cons_self r) (paired_imp s fun a b hb => h a b (List.mem_cons_of_mem _ hb))
theorem wback_hd : ∀ {as : List Addr} {is : List Nat} {os : List Ow} {ρ ρ' : Rho}, Hd K C F' ρ σ (mixH as H H') → Paired (fun a i => σ[i]? = some (some (.ref a)) ∧ ∃ io o, ρ[i]? = some (some (.own io o))) as is → is.Nodup → as.Nodup → OutsOk K F' H' as os → wback ρ is os = some ρ' → Hd K C F' ρ' σ H' := by
  intro as
  induction as with
  | nil =>
    intro is os ρ ρ' hd p _ _ q h
    cases p
    cases q
    cases h
    rw [mixH_nil] at hd
    exact hd
  | cons a as ih =>
    intro is os ρ ρ' hd p hi ha q h
    cases p with
    | @cons _ i _ is r s =>
      cases q with
      | @cons _ o _ os q t =>
        obtain ⟨r1, io, o0, r2⟩ := r
        rw [List.nodup_cons] at hi ha
        unfold wback at h
        rw [r2] at h
        dsimp only at h
        obtain ⟨u, hu⟩ := q.2.there
        have e := mixH_cons (H := H) ha.1 hu
        have hc := hd.change r2 r1 (u := u) (o' := o) (q.2.mono (Ext.refl F') (by rw [upd_same, hu]))
        rw [e] at hc
        refine ih hc (paired_imp s fun b j hj z => ?_) hi.2 ha.2 t h
        obtain ⟨z1, io3, o3, z2⟩ := z
        have nij : i ≠ j := fun e => hi.1 (by rw [e]; exact hj)
        exact ⟨z1, io3, o3, by rw [List.getElem?_set_ne nij]; exact z2⟩
theorem wback_own : ∀ {is : List Nat} {os : List Ow} {ρ ρ' : Rho}, wback ρ is os = some ρ' → ∀ {i : Nat} {b : Bool} {o : Ow}, ρ'[i]? = some (some (.own b o)) → ∃ io o3, ρ[i]? = some (some (.own io o3)) := by
  intro is
  induction is with
  | nil =>
    intro os ρ ρ' h i b o hi
    cases os with
    | nil => cases h; exact ⟨_, _, hi⟩
    | cons o os => cases h
  | cons j is ih =>
    intro os ρ ρ' h i b o hi
    cases os with
    | nil => cases h
    | cons o1 os =>
      unfold wback at h
      split at h
      · rename_i io o2 hj
        obtain ⟨io3, o3, h3⟩ := ih h hi
        by_cases e : j = i
        · subst e; exact ⟨_, _, hj⟩
        · rw [List.getElem?_set_ne e] at h3
          exact ⟨_, _, h3⟩
      · cases h
end
/-- a call of an own def: P of what comes back and of the slots behind -/
def pCallR (spec : FSpec) (ta : PTA) : Rho → (Rs → Rho → Prop) → Prop := fun ρ P => ta ρ fun ws ρ1 => ∃ es, resv ρ1 ws = some es ∧ (slotsOf ws).Nodup ∧ spec es (fun r os => ∃ ρ2, wback ρ1 (slotsOf ws) os = some ρ2 ∧ P r ρ2) fun _ _ => False
def pCallX (W : Wx) (spec : FSpec) (ta : PTA) : Rho → (Rs → Rho → Prop) → Prop := fun ρ P => ta ρ fun ws ρ1 => ∃ es, resv ρ1 ws = some es ∧ (slotsOf ws).Nodup ∧ spec es (fun r os => ∃ ρ2, wback ρ1 (slotsOf ws) os = some ρ2 ∧ P r ρ2) W.ex
theorem simCall {K : Fr} {W W' : Wx} {n : Nat} {spec : FSpec} {ta : TA} {pa : PTA} (ha : SimA K W ta pa) (hW : ∀ C : PC, COk K C W → (∀ (es : List En) , True) → (W' = W ∨ ∀ c fs, ¬ W'.ex c fs)) {C : PC} (ok : COk K C W) {ρ : Rho} {P : Rs → Rho → Prop} {F : Hp} {σ : L2.St} {H : Hp} {Q : VK}
    (h : ta = ta) (hp : pa ρ fun ws ρ1 => ∃ es, resv ρ1 ws = some es ∧ es.length = n ∧ (slotsOf ws).Nodup ∧ spec es (fun r os => ∃ ρ2, wback ρ1 (slotsOf ws) os = some ρ2 ∧ P r ρ2) W'.ex) (hd : Hd K C F ρ σ H)
    (q : ∀ r ρ' v F' H', P r ρ' → Ext F F' → Hd K C F' ρ' σ H' → (match r with | .dat d => Rep K F' v d | .own o => ∃ a, v = .ref a ∧ Fresh K C F' ρ' σ H' a o) → Q v H') : tCall (spF K n spec) [] W'.xk ta σ H Q := by
  refine ha C ok ρ _ hp F σ H hd _ fun ws ρ1 vs F1 H1 h1 e1 hd1 r1 => ?_
  obtain ⟨es, h2, hn, h3, h4⟩ := h1
  obtain ⟨as, g1, g2⟩ := resv_args hd1 r1 h2
  have nd := slots_nodup hd1 g2 h3
  have inAs : ∀ a, a ∈ as → F1 a = none ∧ (∃ u, H1 a = some u) ∧ (C.H0 a = none ∨ ∃ i, (i, a) ∈ C.io) := by
    intro a ham
    obtain ⟨i, _, z1, io, o, z2⟩ := paired_mem g2 ham
    obtain ⟨a', w1, w2, w3, w4⟩ := hd1.ownAt z2
    rw [z1] at w1
    cases w1
    refine ⟨w2, w3.there, ?_⟩
    cases io with
    | true => exact .inr ⟨_, w4⟩
    | false => exact .inl w4
  show spF K n spec (vs ++ []) H1 Q W'.xk
  rw [List.append_nil]
  -- the state behind: at the places of as as it was
  have after : ∀ (F' H' : Hp), Ext F1 F' → Ext F' H' → (∀ a o, F' a = some o → F1 a = some o ∨ H1 a = none) → (∀ a o, H1 a = some o → ∃ o', H' a = some o' ∧ (a ∉ as → o' = o)) → Hd K C F' ρ1 σ (mixH as H1 H') := by
    intro F' H' x1 x2 x3 x4
    refine hd1.grow x1 (fun a o z => ?_) x3 (fun a o z => ?_)
    · unfold mixH
      by_cases ha' : a ∈ as
      · obtain ⟨w1, ⟨u, w2⟩, _⟩ := inAs a ha'
        rcases x3 a o z with y | y
        · rw [w1] at y; cases y
        · rw [w2] at y; cases y
      · rw [if_neg ha']; exact x2 a o z
    · unfold mixH
      by_cases ha' : a ∈ as
      · rw [if_pos ha']; exact z
      · rw [if_neg ha']
        obtain ⟨o', w1, w2⟩ := x4 a o z
        rw [w1, w2 ha']
  refine ⟨F1, es, as, _, W'.ex, hn, hd1.sub, g1, nd, h4, fun r os v F' H' hP x1 x2 x3 x4 x5 x6 => ?_, fun c dd fs xs F' H' hE x0 x1 x2 x3 x4 x5 x6 => ?_⟩
  · obtain ⟨ρ2, w1, hP⟩ := hP
    have hm := after F' H' x1 x2 x3 x4
    have hd2 := wback_hd hm g2 h3 nd x5 w1
    refine q r ρ2 v F' H' hP (e1.trans x1) hd2 ?_
    cases r with
    | dat d => exact x6
    | own o =>
      obtain ⟨a, y1, y2, y3, y4⟩ := x6
      refine ⟨a, y1, y2, hd1.free0 y4, y3, fun i b1 o1 z1 z2 => ?_, fun w z => by
        have := (hd1.kept a w z).1
        rw [y4] at this; cases this⟩
      -- a slot's thing stood ahead of the call
      obtain ⟨io, o3, z3⟩ := wback_own w1 z1
      obtain ⟨a', v1, v2, v3, v4⟩ := hd1.ownAt z3
      rw [z2] at v1
      cases v1
      obtain ⟨u, hu⟩ := v3.there
      rw [y4] at hu; cases hu
  · rcases hW C ok (fun _ => trivial) with e | e
    · subst e
      refine ok c dd fs xs F' H' hE x0 (hd1.f0.trans x1) x2 (fun a o z => ?_) (fun a o z => ?_) (fun a o z => ?_) x5 (hd1.free0 x6)
      · rcases x3 a o z with y | y
        · exact hd1.new a o y
        · exact .inr (hd1.free0 y)
      · obtain ⟨o', y1, y2⟩ := hd1.old a o z
        obtain ⟨o'', y3, y4⟩ := x4 a o' y1
        refine ⟨o'', y3, fun hn => ?_⟩
        rw [← y2 hn]
        refine y4 fun ham => ?_
        obtain ⟨_, _, y5⟩ := inAs a ham
        rcases y5 with y5 | ⟨i, y5⟩
        · rw [z] at y5; cases y5
        · exact hn i y5
      · obtain ⟨k1, k2, k3, k4⟩ := hd1.kept a o z
        obtain ⟨o', y1, y2⟩ := x4 a o k1
        refine ⟨?_, ?_, k3, fun e => by rw [e, x6] at k1; cases k1⟩
        · rw [y1, y2 fun ham => ?_]
          obtain ⟨i, _, z1, io, o1, z2⟩ := paired_mem g2 ham
          exact k4 i _ _ z2 z1
        · cases q : F' a with
          | none => rfl
          | some w =>
            rcases x3 a w q with y | y
            · rw [k2] at y; cases y
            · rw [k1] at y; cases y
    · exact absurd hE (e c fs)
end Wk
namespace Wk
open PySem L2
section
variable {X : Cx} {W : Wx} {a b c : Expr} {e : Expr} {es : List Expr} {ta tb tc te : TE} {pa pb pc pe : PTE} {va vb : PTV} {pos : Pos} {tr : TA} {pr : PTA}
/-! ### calls of own defs -/
def pCall (n : Nat) (spec : FSpec) (ex : Addr → List (Str × Dt) → Prop) (t : PTA) : Rho → (Rs → Rho → Prop) → Prop := fun ρ P => t ρ fun ws ρ1 => ∃ es, resv ρ1 ws = some es ∧ es.length = n ∧ (slotsOf ws).Nodup ∧ spec es (fun r os => ∃ ρ2, wback ρ1 (slotsOf ws) os = some ρ2 ∧ P r ρ2) ex
abbrev exNo : Addr → List (Str × Dt) → Prop := fun _ _ => False
def pCallD (n : Nat) (spec : FSpec) (ex : Addr → List (Str × Dt) → Prop) (t : PTA) : PTE := fun ρ P => pCall n spec ex t ρ fun r ρ1 => P r.dt ρ1
def pCallF (n : Nat) (spec : FSpec) (ex : Addr → List (Str × Dt) → Prop) (t : PTA) : PTF := fun ρ P => pCall n spec ex t ρ fun r ρ1 => ∃ o, r = .own o ∧ P o ρ1
theorem simCallD {K : Fr} {W W' : Wx} {n : Nat} {spec : FSpec} (hW : W' = W ∨ ∀ c fs, ¬ W'.ex c fs) (ha : SimA K W tr pr) : SimE K W (tCall (spF K n spec) [] W'.xk tr) (pCallD n spec W'.ex pr) := fun C ok ρ P h F σ H hd Q q =>
  simCall ha (fun _ _ _ => hW) ok rfl h hd fun r ρ' v F' H' hP e1 hd' hr => by
    cases r with
    | dat d => exact q _ _ _ F' H' hP e1 hd' hr
    | own o =>
      obtain ⟨a, rfl, f⟩ := hr
      obtain ⟨F1, e2, r1, hd1⟩ := freezeFresh hd' f
      exact q _ _ _ F1 H' hP (e1.trans e2) hd1 r1
theorem simCallF {K : Fr} {W W' : Wx} {n : Nat} {spec : FSpec} (hW : W' = W ∨ ∀ c fs, ¬ W'.ex c fs) (ha : SimA K W tr pr) : SimF K W (tCall (spF K n spec) [] W'.xk tr) (pCallF n spec W'.ex pr) := fun C ok ρ P h F σ H hd Q q =>
  simCall ha (fun _ _ _ => hW) ok rfl h hd fun r ρ' v F' H' hP e1 hd' hr => by
    obtain ⟨o, rfl, hP⟩ := hP
    obtain ⟨a, rfl, f⟩ := hr
    exact q _ _ _ F' H' hP e1 hd' f
section
variable {CX : CXT} {k n : Nat} {f : Addr} {fd : FuncData} {ps : List Str} {spec : FSpec} {x : Str} {p : Pos}
theorem pd_call (G : FnOk X.prog X.w X.K X.mg X.base CX0 k f fd ps (spF X.K n spec)) (hr : Room k X.A) (hm : X.mg x = some (.ref f)) (hk : PySem.W.keepIn X.K (.ref f) = true) (hb : Binds X.K fd ps []) (ha : PAr X W (e :: es) tr pr)
    (hg : Gl X x := by rfl) (hdb : (x == ("__debug__" : Str)) = false := by decide) (he : starEach (e :: es) X.env = (false, eval e X.env) :: starEach es X.env := by rfl) (hpl : (backTo pos (starEach es X.env)).any (·.1) = false := by rfl) :
    PD X W (.Call (.Name x p) (e :: es) [] pos) (tCall (spF X.K n spec) [] E0 tr) (pCallD n spec exNo pr) := ⟨L2.pe_call G hr hg hm hk hb .nil pass0 ha.pa hdb he hpl, simCallD (W' := Wx.none) (.inr fun _ _ => id) ha.sim⟩
theorem pf_call (G : FnOk X.prog X.w X.K X.mg X.base CX0 k f fd ps (spF X.K n spec)) (hr : Room k X.A) (hm : X.mg x = some (.ref f)) (hk : PySem.W.keepIn X.K (.ref f) = true) (hb : Binds X.K fd ps []) (ha : PAr X W (e :: es) tr pr)
    (hg : Gl X x := by rfl) (hdb : (x == ("__debug__" : Str)) = false := by decide) (he : starEach (e :: es) X.env = (false, eval e X.env) :: starEach es X.env := by rfl) (hpl : (backTo pos (starEach es X.env)).any (·.1) = false := by rfl) :
    PF X W (.Call (.Name x p) (e :: es) [] pos) (tCall (spF X.K n spec) [] E0 tr) (pCallF n spec exNo pr) := ⟨L2.pe_call G hr hg hm hk hb .nil pass0 ha.pa hdb he hpl, simCallF (W' := Wx.none) (.inr fun _ _ => id) ha.sim⟩
/-- a call that may raise -/
theorem pd_callX (G : FnOk X.prog X.w X.K X.mg X.base CX k f fd ps (spF X.K n spec)) (hr : Room k X.A) (hm : X.mg x = some (.ref f)) (hk : PySem.W.keepIn X.K (.ref f) = true) (hb : Binds X.K fd ps []) (hx : Passes CX X W.xk) (ha : PAr X W (e :: es) tr pr)
    (hg : Gl X x := by rfl) (hdb : (x == ("__debug__" : Str)) = false := by decide) (he : starEach (e :: es) X.env = (false, eval e X.env) :: starEach es X.env := by rfl) (hpl : (backTo pos (starEach es X.env)).any (·.1) = false := by rfl) :
    PD X W (.Call (.Name x p) (e :: es) [] pos) (tCall (spF X.K n spec) [] W.xk tr) (pCallD n spec W.ex pr) := ⟨L2.pe_call G hr hg hm hk hb .nil hx ha.pa hdb he hpl, simCallD (.inl rfl) ha.sim⟩
end
/-! ### statements -/
structure PEnds where
  nx : Rho → Prop
  rt : Rs → Rho → Prop
  bk : Rho → Prop := fun _ => False
  ct : Rho → Prop := fun _ => False
def RsOk (K : Fr) (C : PC) (F : Hp) (ρ : Rho) (σ : L2.St) (H : Hp) (v : V) : Rs → Prop
  | .dat d => Rep K F v d
  | .own o => ∃ a, v = .ref a ∧ Fresh K C F ρ σ H a o
structure EndsOk (K : Fr) (C : PC) (D : PEnds) (Dc : Ends) : Prop where
  nx : ∀ ρ F σ H, D.nx ρ → Hd K C F ρ σ H → Dc.nx σ H
  rt : ∀ r ρ F σ H v, D.rt r ρ → Hd K C F ρ σ H → RsOk K C F ρ σ H v r → Dc.rt v H
  bk : ∀ ρ F σ H, D.bk ρ → Hd K C F ρ σ H → Dc.bk σ H
  ct : ∀ ρ F σ H, D.ct ρ → Hd K C F ρ σ H → Dc.ct σ H
abbrev PTS := PEnds → Rho → Prop
def SimS (K : Fr) (W : Wx) (ts : TS) (t : PTS) : Prop := ∀ (C : PC), COk K C W → ∀ (D : PEnds) (ρ : Rho), t D ρ → ∀ (F : Hp) (σ : L2.St) (H : Hp), Hd K C F ρ σ H → ∀ Dc : Ends, EndsOk K C D Dc → ts Dc σ H
structure PSt (X : Cx) (W : Wx) (st : Stmt) (ts : TS) (t : PTS) : Prop where
  ps : PS X st ts
  sim : SimS X.K W ts t
structure PSts (X : Cx) (W : Wx) (st : List Stmt) (ts : TS) (t : PTS) : Prop where
  pss : PSs X st ts
  sim : SimS X.K W ts t
variable {st : Stmt} {rest : List Stmt} {ts tu : TS} {t u : PTS}
def pNext : PTS := fun D ρ => D.nx ρ
def pSeq (t u : PTS) : PTS := fun D ρ => t { D with nx := fun ρ1 => u D ρ1 } ρ
theorem ps_nil' : PSts X W [] tNext pNext := ⟨pss_nil, fun C ok D ρ h F σ H hd Dc ed => ed.nx ρ F σ H h hd⟩
theorem ps_cons' (h1 : PSt X W st ts t) (h2 : PSts X W rest tu u) : PSts X W (st :: rest) (tSeq ts tu) (pSeq t u) := ⟨pss_cons h1.ps h2.pss, fun C ok D ρ h F σ H hd Dc ed =>
  h1.sim C ok _ ρ h F σ H hd _ ⟨fun ρ1 F1 σ1 H1 h1 hd1 => h2.sim C ok D ρ1 h1 F1 σ1 H1 hd1 Dc ed, ed.rt, ed.bk, ed.ct⟩⟩
theorem ps_one' (h1 : PSt X W st ts t) : PSts X W [st] ts t := ⟨pss_one h1.ps, h1.sim⟩
def pBrk : PTS := fun D ρ => D.bk ρ
def pCnt : PTS := fun D ρ => D.ct ρ
theorem ps_pass' : PSt X W (.Pass pos) tNext pNext := ⟨ps_pass, fun C ok D ρ h F σ H hd Dc ed => ed.nx ρ F σ H h hd⟩
theorem ps_brk' : PSt X W (.Break pos) tBreak pBrk := ⟨ps_break, fun C ok D ρ h F σ H hd Dc ed => ed.bk ρ F σ H h hd⟩
theorem ps_cnt' : PSt X W (.Continue pos) tCont pCnt := ⟨ps_continue, fun C ok D ρ h F σ H hd Dc ed => ed.ct ρ F σ H h hd⟩
def pNever : PTS := fun _ _ => False
theorem ps_never' : PSt X W st tNever pNever := ⟨ps_never, fun C ok D ρ h F σ H hd Dc ed => h.elim⟩
theorem pss_never' {sts : List Stmt} : PSts X W sts tNever pNever := ⟨pss_never, fun C ok D ρ h F σ H hd Dc ed => h.elim⟩
/-- e alone -/
def pDrop (t : PTE) : PTS := fun D ρ => t ρ fun _ ρ1 => D.nx ρ1
theorem ps_expr' (he : PD X W e te pe) (hs : swapsWith e none pos.line X.env = pure false := by rfl) : PSt X W (.Expr e pos) (tDrop te) (pDrop pe) := ⟨ps_expr he.pe hs, fun C ok D ρ h F σ H hd Dc ed => he.sim C ok ρ _ h F σ H hd _ fun d ρ1 v F1 H1 h1 _ hd1 _ => ed.nx ρ1 F1 σ H1 h1 hd1⟩
/-- return -/
def pRet (t : PTE) : PTS := fun D ρ => t ρ fun d ρ1 => D.rt (.dat d) ρ1
def pRetF (t : PTF) : PTS := fun D ρ => t ρ fun o ρ1 => D.rt (.own o) ρ1
theorem ps_ret' (he : PD X W e te pe) : PSt X W (.Return (some e) pos) (tRet te) (pRet pe) := ⟨ps_ret he.pe, fun C ok D ρ h F σ H hd Dc ed => he.sim C ok ρ _ h F σ H hd _ fun d ρ1 v F1 H1 h1 _ hd1 r1 => ed.rt (.dat d) ρ1 F1 σ H1 v h1 hd1 r1⟩
theorem ps_retF' {pf : PTF} (he : PF X W e te pf) : PSt X W (.Return (some e) pos) (tRet te) (pRetF pf) := ⟨ps_ret he.pe, fun C ok D ρ h F σ H hd Dc ed => he.sim C ok ρ _ h F σ H hd _ fun o ρ1 a F1 H1 h1 _ hd1 f => ed.rt (.own o) ρ1 F1 σ H1 _ h1 hd1 ⟨a, rfl, f⟩⟩
/-- return of a name: what it owns goes to the caller -/
def pRetN (i : Nat) : PTS := fun D ρ => match ρ[i]? with
  | some (some (.dat d)) => D.rt (.dat d) ρ
  | some (some (.own false o)) => D.rt (.own o) (ρ.set i none)
  | _ => False
theorem ps_retN' (i : Nat) {x : Str} {p : Pos} (hN : X.N[i]? = some x := by rfl) (hv : Vis X.env.scope x := by first | exact Or.inl rfl | exact Or.inr (Or.inl rfl) | exact Or.inr (Or.inr rfl)) (hd : (x == ("__debug__" : Str)) = false := by decide)
    (hcd : (x == ("__classdict__" : Str)) = false := by decide) : PSt X W (.Return (some (.Name x p)) pos) (tRet (tVar i)) (pRetN i) := ⟨ps_ret (pe_var hN hv hd hcd), fun C ok D ρ h F σ H hd Dc ed => by
  unfold pRetN at h
  cases r : ρ[i]? with
  | none => rw [r] at h; exact h.elim
  | some x =>
    cases x with
    | none => rw [r] at h; exact h.elim
    | some en =>
      cases en with
      | dat d =>
        rw [r] at h
        obtain ⟨v, h1, h2⟩ := hd.datAt r
        exact ⟨v, h1, ed.rt (.dat d) ρ F σ H v h hd h2⟩
      | own io o =>
        cases io with
        | true => rw [r] at h; exact h.elim
        | false =>
          rw [r] at h
          obtain ⟨a, h1, h2, h3, h4⟩ := hd.ownAt r
          refine ⟨_, h1, ed.rt (.own o) (ρ.set i none) F σ H _ h (hd.forget i) ⟨a, rfl, h2, h4, h3, fun j b1 o1 q1 q2 => ?_, fun w q => (hd.kept a w q).2.2.2 i _ _ r h1⟩⟩
          by_cases e : i = j
          · subst e
            rw [List.getElem?_set] at q1
            simp at q1
          · rw [List.getElem?_set_ne e] at q1
            exact e (hd.sep i j a _ _ _ _ r q1 h1 q2)⟩
def pRetNon : PTS := fun D ρ => D.rt (.dat .non) ρ
theorem ps_retNon' : PSt X W (.Return none pos) tRetN pRetNon := ⟨ps_retN, fun C ok D ρ h F σ H hd Dc ed => ed.rt (.dat .non) ρ F σ H .non h hd .non⟩
/-- if -/
def pIfS (c : PTT) (t u : PTS) : PTS := fun D ρ => c ρ fun b ρ1 => if b = true then t D ρ1 else u D ρ1
variable {sa sb : List Stmt} {tt : TT} {pt : PTT}
theorem ps_if' (hc : PDT X W c tt pt) (ha : PSts X W sa ts t) (hb : PSts X W sb tu u) : PSt X W (.If c sa sb pos) (tIfS tt ts tu) (pIfS pt t u) := ⟨ps_if hc.pt ha.pss hb.pss, fun C ok D ρ h F σ H hd Dc ed => hc.sim C ok ρ _ h F σ H hd _ fun k ρ1 F1 H1 h1 _ hd1 => by
  cases k with
  | true =>
    show ts Dc σ H1
    exact ha.sim C ok D ρ1 h1 F1 σ H1 hd1 Dc ed
  | false =>
    show tu Dc σ H1
    exact hb.sim C ok D ρ1 h1 F1 σ H1 hd1 Dc ed⟩
/-! ### targets, assignments -/
abbrev PTG := Dt → Rho → (Rho → Prop) → Prop
abbrev PTGs := List Dt → Rho → (Rho → Prop) → Prop
def SimG (K : Fr) (W : Wx) (g : TG) (p : PTG) : Prop := ∀ (C : PC), COk K C W → ∀ (d : Dt) (ρ : Rho) (P : Rho → Prop), p d ρ P → ∀ (F : Hp) (σ : L2.St) (H : Hp) (v : V), Hd K C F ρ σ H → Rep K F v d → ∀ Q : L2.St → Hp → Prop, (∀ ρ' F' σ' H', P ρ' → Ext F F' → Hd K C F' ρ' σ' H' → Q σ' H') → g v σ H Q
def SimGs (K : Fr) (W : Wx) (g : TGs) (p : PTGs) : Prop := ∀ (C : PC), COk K C W → ∀ (ds : List Dt) (ρ : Rho) (P : Rho → Prop), p ds ρ P → ∀ (F : Hp) (σ : L2.St) (H : Hp) (vs : List V), Hd K C F ρ σ H → RepAll K F vs ds → ∀ Q : L2.St → Hp → Prop, (∀ ρ' F' σ' H', P ρ' → Ext F F' → Hd K C F' ρ' σ' H' → Q σ' H') → g vs σ H Q
structure PGr (X : Cx) (W : Wx) (tg : Expr) (g : TG) (p : PTG) : Prop where
  pg : PG X tg g
  sim : SimG X.K W g p
structure PGrs (X : Cx) (W : Wx) (tg : List Expr) (g : TGs) (p : PTGs) : Prop where
  pg : PGs X tg g
  sim : SimGs X.K W g p
def pgN (i : Nat) : PTG := fun d ρ P => noio ρ i = true ∧ P (ρ.set i (some (.dat d)))
theorem pg_name' (i : Nat) {x : Str} (hN : X.N.Nodup) (hi : X.N[i]? = some x := by rfl) (hx : Loc X.env.scope x := by first | exact Or.inl rfl | exact Or.inr rfl) (hf : X.fn x = true ∨ X.env.scope.names.lookup x = some .local := by first | exact .inl rfl | exact .inr rfl) : PGr X W (.Name x pos) (gName i) (pgN i) :=
  ⟨pg_name hN hi hx hf, fun C ok d ρ P h F σ H v hd r Q q => q _ F _ H h.2 (Ext.refl F) (hd.setDat (noio_lt h.1) r)⟩
def pgNil : PTGs := fun ds ρ P => ds = [] ∧ P ρ
def pgCons (g : PTG) (gs : PTGs) : PTGs := fun ds ρ P => ∃ d r, ds = d :: r ∧ g d ρ fun ρ1 => gs r ρ1 P
theorem pgs_nil' : PGrs X W [] gNil pgNil := ⟨pgs_nil, fun C ok ds ρ P h F σ H vs hd r Q q => by
  obtain ⟨rfl, h⟩ := h
  cases r
  exact ⟨rfl, q ρ F σ H h (Ext.refl F) hd⟩⟩
theorem pgs_cons' {tg : Expr} {tgs : List Expr} {g : TG} {gs : TGs} {p : PTG} {qs : PTGs} (h1 : PGr X W tg g p) (h2 : PGrs X W tgs gs qs) (hs : (assignEach (tg :: tgs) X.env).map (·.2) = assign tg X.env :: (assignEach tgs X.env).map (·.2) := by rfl) : PGrs X W (tg :: tgs) (gCons g gs) (pgCons p qs) :=
  ⟨pgs_cons h1.pg h2.pg hs, fun C ok ds ρ P h F σ H vs hd r Q q => by
    obtain ⟨d, r', rfl, h⟩ := h
    cases r with
    | cons r1 r2 => exact ⟨_, _, rfl, h1.sim C ok d ρ _ h F σ H _ hd r1 _ fun ρ1 F1 σ1 H1 h1 e1 hd1 => h2.sim C ok r' ρ1 P h1 F1 σ1 H1 _ hd1 (r2.mono e1) Q fun ρ2 F2 σ2 H2 h2 e2 hd2 => q ρ2 F2 σ2 H2 h2 (e1.trans e2) hd2⟩⟩
def pgTup (n : Nat) (gs : PTGs) : PTG := fun d ρ P => ∃ ds, d = .tup ds ∧ ds.length = n ∧ gs ds ρ P
theorem pg_tup' {tgs : List Expr} {k : Nat} {gs : TGs} {qs : PTGs} (n : Nat) (hc : X.calm = true) (h : PGrs X W tgs gs qs) (hn : (assignEach tgs X.env).length = n := by rfl) (hst : (assignEach tgs X.env).findIdx? (·.1) = none := by rfl) : PGr X W (.Tuple tgs k pos) (gTup X.K n gs) (pgTup n qs) :=
  ⟨pg_tup hc h.pg hn hst, fun C ok d ρ P hp F σ H v hd r Q q => by
    obtain ⟨ds, rfl, hl, hp⟩ := hp
    cases r with
    | tup hf ra => exact ⟨_, _, rfl, SqT.of (hd.sub _ _ hf), ra.length.trans hl, h.sim C ok ds ρ P hp F σ H _ hd ra Q q⟩⟩
/-- name = data -/
def pSet (i : Nat) (t : PTE) : PTS := fun D ρ => t ρ fun d ρ1 => noio ρ1 i = true ∧ D.nx (ρ1.set i (some (.dat d)))
theorem simSet {K : Fr} {i : Nat} (h : SimE K W te pe) : SimS K W (tAsg te (gName i)) (pSet i pe) := fun C ok D ρ hp F σ H hd Dc ed => h C ok ρ _ hp F σ H hd _ fun d ρ1 v F1 H1 h1 _ hd1 r1 => ed.nx _ F1 _ H1 h1.2 (hd1.setDat (noio_lt h1.1) r1)
theorem ps_set' (i : Nat) {x : Str} {pos' : Pos} (hN : X.N.Nodup) (he : PD X W e te pe) (hi : X.N[i]? = some x := by rfl) (hx : Loc X.env.scope x := by first | exact Or.inl rfl | exact Or.inr rfl) (hs : swapsWith e (some (.Name x pos')) pos.line X.env = pure false := by rfl) (hf : X.fn x = true ∨ X.env.scope.names.lookup x = some .local := by first | exact .inl rfl | exact .inr rfl) :
    PSt X W (.Assign [.Name x pos'] e pos) (tAsg te (gName i)) (pSet i pe) := ⟨ps_set hN hi hx he.pe hs hf, simSet he.sim⟩
/-- name = a new thing of one's own -/
def pSetF (i : Nat) (t : PTF) : PTS := fun D ρ => t ρ fun o ρ1 => noio ρ1 i = true ∧ D.nx (ρ1.set i (some (.own false o)))
theorem simSetF {K : Fr} {i : Nat} {pf : PTF} (h : SimF K W te pf) : SimS K W (tAsg te (gName i)) (pSetF i pf) := fun C ok D ρ hp F σ H hd Dc ed => h C ok ρ _ hp F σ H hd _ fun o ρ1 a F1 H1 h1 _ hd1 f => ed.nx _ F1 _ H1 h1.2 (hd1.setOwn (noio_lt h1.1) f)
theorem ps_setF' (i : Nat) {x : Str} {pos' : Pos} {pf : PTF} (hN : X.N.Nodup) (he : PF X W e te pf) (hi : X.N[i]? = some x := by rfl) (hx : Loc X.env.scope x := by first | exact Or.inl rfl | exact Or.inr rfl) (hs : swapsWith e (some (.Name x pos')) pos.line X.env = pure false := by rfl) (hf : X.fn x = true ∨ X.env.scope.names.lookup x = some .local := by first | exact .inl rfl | exact .inr rfl) :
    PSt X W (.Assign [.Name x pos'] e pos) (tAsg te (gName i)) (pSetF i pf) := ⟨ps_set hN hi hx he.pe hs hf, simSetF he.sim⟩
/-- a, b, .. = e -/
def pAsg (t : PTE) (g : PTG) : PTS := fun D ρ => t ρ fun d ρ1 => g d ρ1 D.nx
theorem ps_asg' {tg : Expr} {g : TG} {pg : PTG} (he : PD X W e te pe) (hg : PGr X W tg g pg) (hs : swapsWithSole [tg] e pos.line X.env = pure false := by rfl) (hw : swappedStores [tg] e X.env = pure none := by rfl) (h1 : (assignEach [tg] X.env).map (·.2) = [assign tg X.env] := by rfl) :
    PSt X W (.Assign [tg] e pos) (tAsg te g) (pAsg pe pg) := ⟨ps_asg he.pe hg.pg hs hw h1, fun C ok D ρ hp F σ H hd Dc ed => he.sim C ok ρ _ hp F σ H hd _ fun d ρ1 v F1 H1 h1 _ hd1 r1 => hg.sim C ok d ρ1 _ h1 F1 σ H1 v hd1 r1 _ fun ρ2 F2 σ2 H2 h2 _ hd2 => ed.nx ρ2 F2 σ2 H2 h2 hd2⟩
/-- a, b = x, y -/
def pPar (i j : Nat) (pa pb : PTE) : PTS := fun D ρ => pa ρ fun d ρ1 => pb ρ1 fun z ρ2 => noio ρ2 i = true ∧ noio ρ2 j = true ∧ D.nx ((ρ2.set i (some (.dat d))).set j (some (.dat z)))
theorem ps_par' (i j : Nat) {x y : Str} {px py pt : Pos} {kt k2 pt2} (hc : X.calm = true) (hN : X.N.Nodup) (hij : i ≠ j) (ha : PD X W a ta pa) (hb : PD X W b tb pb) (hi : X.N[i]? = some x := by rfl) (hj : X.N[j]? = some y := by rfl)
    (hx : X.env.scope.names.lookup x = some .local := by rfl) (hy : X.env.scope.names.lookup y = some .local := by rfl) (hsa : starEach [a, b] X.env = (false, eval a X.env) :: starEach [b] X.env := by rfl) (hsb : starEach [b] X.env = (false, eval b X.env) :: starEach [] X.env := by rfl)
    (hw : swappedStores [.Tuple [.Name x px, .Name y py] kt pt] (.Tuple [a, b] k2 pt2) X.env = pure (some [x, y]) := by rfl)
    (hs : swapsWithSole [.Tuple [.Name x px, .Name y py] kt pt] (.Tuple [a, b] k2 pt2) pos.line X.env = pure false := by rfl) :
    PSt X W (.Assign [.Tuple [.Name x px, .Name y py] kt pt] (.Tuple [a, b] k2 pt2) pos) (tPar i j (tCons ta (tCons tb tNil))) (pPar i j pa pb) := ⟨ps_par hc hN hi hj hij hx hy (L2.pa_cons ha.pe (L2.pa_cons hb.pe L2.pa_nil hsb) hsa) hw hs,
  fun C ok D ρ hp F σ H hd Dc ed => ha.sim C ok ρ _ hp F σ H hd _ fun d ρ1 v F1 H1 h1 e1 hd1 r1 => hb.sim C ok ρ1 _ h1 F1 σ H1 hd1 _ fun z ρ2 y F2 H2 h2 e2 hd2 r2 =>
    ⟨v, y, rfl, ed.nx _ F2 _ H2 h2.2.2 ((hd2.setDat (noio_lt h2.1) (r1.mono e2)).setDat (by rw [List.length_set]; exact noio_lt h2.2.1) r2)⟩⟩
/-- name op= e, whole numbers -/
def pAug (i : Nat) (f : Int → Int → Int) (t : PTE) : PTS := fun D ρ => ∃ x, ρ[i]? = some (some (.dat (.int x))) ∧ t ρ fun d ρ1 => ∃ y, d = .int y ∧ noio ρ1 i = true ∧ D.nx (ρ1.set i (some (.dat (.int (f x y)))))
theorem ps_aug' (i : Nat) {x : Str} {op : Operator} {f : Int → Int → Int} {pos' : Pos} (hN : X.N.Nodup) (ho : PIp X op (ipI f)) (he : PD X W e te pe) (hi : X.N[i]? = some x := by rfl) (hx : Loc X.env.scope x := by first | exact Or.inl rfl | exact Or.inr rfl) (hf : X.fn x = true ∨ X.env.scope.names.lookup x = some .local := by first | exact .inl rfl | exact .inr rfl) :
    PSt X W (.AugAssign (.Name x pos') op e pos) (tAug i te (ipI f)) (pAug i f pe) := ⟨ps_aug hN hi hx he.pe ho hf, fun C ok D ρ hp F σ H hd Dc ed => by
  obtain ⟨x, hx, hp⟩ := hp
  obtain ⟨v, h1, h2⟩ := hd.datAt hx
  cases h2
  exact ⟨_, h1, he.sim C ok ρ _ hp F σ H hd _ fun d ρ1 v F1 H1 h1 _ hd1 r1 => by
    obtain ⟨y, rfl, hn, hq⟩ := h1
    cases r1
    exact ⟨x, y, rfl, rfl, ed.nx _ F1 _ H1 hq (hd1.setDat (noio_lt hn) (.int _))⟩⟩⟩
/-- xs[k] = e, xs a slot's own list -/
def pSetIx (i : Nat) (te tk : PTE) : PTS := fun D ρ => te ρ fun d ρ1 => (∃ en, ρ1[i]? = some (some en)) ∧ tk ρ1 fun k ρ2 => ∃ io xs n j, ρ2[i]? = some (some (.own io (.lst xs))) ∧ k = .int n ∧ ixN xs.length n = some j ∧ D.nx (ρ2.set i (some (.own io (.lst (xs.set j d)))))
theorem ps_setIx' (i : Nat) {x : Str} {p1 p2 : Pos} (he : PD X W e te pe) (hk : PD X W b tb pb) (hN : X.N[i]? = some x := by rfl) (hv : Vis X.env.scope x := by first | exact Or.inl rfl | exact Or.inr (Or.inl rfl) | exact Or.inr (Or.inr rfl)) (hdd : (x == ("__debug__" : Str)) = false := by decide)
    (hcd : (x == ("__classdict__" : Str)) = false := by decide) (ha : ∀ v, assign (.Subscript (.Name x p1) b p2) X.env v = (do
      let ov ← holding [v] (eval (.Name x p1) X.env)
      let iv ← holding [v, ov] (eval b X.env)
      standAt p2
      holding [v, ov, iv] (setItem ov iv v)
      release [v, ov, iv] []) := by intro _; rfl)
    (hs : swapsWithSole [.Subscript (.Name x p1) b p2] e pos.line X.env = pure false := by rfl) (hw : swappedStores [.Subscript (.Name x p1) b p2] e X.env = pure none := by rfl) (h1 : (assignEach [.Subscript (.Name x p1) b p2] X.env).map (·.2) = [assign (.Subscript (.Name x p1) b p2) X.env] := by rfl) :
    PSt X W (.Assign [.Subscript (.Name x p1) b p2] e pos) (tAsg te (gSub (tVar i) tb rSetL)) (pSetIx i pe pb) := ⟨ps_asg he.pe (pg_sub (pe_var hN hv hdd hcd) hk.pe set_list ha) hs hw h1, fun C ok D ρ hp F σ H hd Dc ed => he.sim C ok ρ _ hp F σ H hd _ fun d ρ1 v F1 H1 h1 e1 hd1 r1 => by
  obtain ⟨⟨en, hen⟩, h1⟩ := h1
  obtain ⟨vo, o1, _⟩ := hd1.slot i en hen
  refine ⟨vo, o1, hk.sim C ok ρ1 _ h1 F1 σ H1 hd1 _ fun k ρ2 y F2 H2 h2 e2 hd2 r2 => ?_⟩
  obtain ⟨io, xs, n, j, q1, rfl, q3, q4⟩ := h2
  cases r2
  obtain ⟨a', g1, g2, ⟨vs, g3, g4⟩, g5⟩ := hd2.ownAt q1
  rw [o1] at g1
  cases g1
  exact ⟨a', vs, n, j, rfl, rfl, g3, by rw [g4.length]; exact q3, ed.nx _ F2 σ _ q4 (hd2.change q1 o1 (o' := .lst (xs.set j d)) ⟨_, upd_same, g4.set (r1.mono e2) j⟩)⟩⟩
/-- d[k] = e, d a slot's own dict -/
def pSetK (i : Nat) (te tk : PTE) : PTS := fun D ρ => te ρ fun d ρ1 => (∃ en, ρ1[i]? = some (some en)) ∧ tk ρ1 fun y ρ2 => ∃ io kvs k, ρ2[i]? = some (some (.own io (.dT kvs))) ∧ keyOf y = some k ∧ kvs.length < 1000000 ∧ D.nx (ρ2.set i (some (.own io (.dT (dput kvs k d)))))
theorem ps_setK' (i : Nat) {x : Str} {p1 p2 : Pos} (hu : X.A.units + 1 < cLine) (he : PD X W e te pe) (hk : PD X W b tb pb) (hN : X.N[i]? = some x := by rfl) (hv : Vis X.env.scope x := by first | exact Or.inl rfl | exact Or.inr (Or.inl rfl) | exact Or.inr (Or.inr rfl)) (hdd : (x == ("__debug__" : Str)) = false := by decide)
    (hcd : (x == ("__classdict__" : Str)) = false := by decide) (hs : swapsWith e (some (.Subscript (.Name x p1) b p2)) pos.line X.env = pure false := by rfl) {ts : TS} (hps : PS X (.Assign [.Subscript (.Name x p1) b p2] e pos) (sDPut (tVar i) tb te)) :
    PSt X W (.Assign [.Subscript (.Name x p1) b p2] e pos) (sDPut (tVar i) tb te) (pSetK i pe pb) := ⟨hps, fun C ok D ρ hp F σ H hd Dc ed => he.sim C ok ρ _ hp F σ H hd _ fun d ρ1 v F1 H1 h1 e1 hd1 r1 => by
  obtain ⟨⟨en, hen⟩, h1⟩ := h1
  obtain ⟨vo, o1, _⟩ := hd1.slot i en hen
  refine ⟨vo, o1, hk.sim C ok ρ1 _ h1 F1 σ H1 hd1 _ fun y ρ2 yv F2 H2 h2 e2 hd2 r2 => ?_⟩
  obtain ⟨io, kvs, k, q1, q2, q3, q4⟩ := h2
  obtain ⟨a', g1, g2, ⟨vs, g3, g4⟩, g5⟩ := hd2.ownAt q1
  rw [o1] at g1
  cases g1
  obtain ⟨b', rfl, hb'⟩ := keyOf_rep r2 q2
  exact ⟨a', _, rfl, DPut.t g3 (hd2.sub _ _ hb') (bigL (by rw [repkv_len g4]; exact q3)), ed.nx _ F2 σ _ q4 (hd2.change q1 o1 (o' := .dT (dput kvs k d)) ⟨_, upd_same, dput_rep k (r1.mono e2) g4⟩)⟩⟩
/-- xs.append(e), xs a slot's own list -/
def pApp (i : Nat) (te : PTE) : PTS := fun D ρ => (∃ io xs, ρ[i]? = some (some (.own io (.lst xs)))) ∧ te ρ fun d ρ1 => ∃ io xs, ρ1[i]? = some (some (.own io (.lst xs))) ∧ xs.length < 1000000 ∧ D.nx (ρ1.set i (some (.own io (.lst (xs ++ [d])))))
theorem ps_app' (i : Nat) {x : Str} {p1 apos cpos : Pos} (he : PD X W e te pe) (hN : X.N[i]? = some x := by rfl) (hv : Vis X.env.scope x := by first | exact Or.inl rfl | exact Or.inr (Or.inl rfl) | exact Or.inr (Or.inr rfl)) (hdd : (x == ("__debug__" : Str)) = false := by decide)
    (hcd : (x == ("__classdict__" : Str)) = false := by decide) (hbase : attributeBase (.Name x p1) "append" X.env (eval (.Name x p1) X.env) = eval (.Name x p1) X.env := by rfl)
    (hfew : ((backTo cpos (starEach [e] X.env)).all (fun x => !x.1) && (backToKw cpos (keywordEach [] X.env)).all (fun x => x.1.isSome)
      && decide ([e].length + ([] : List Keyword).length + (if ([] : List Keyword).isEmpty then 0 else 1) < 30)) = true := by rfl)
    (hline : (apos.endLine == cpos.line) = true := by rfl) (hs : starEach [e] X.env = (false, eval e X.env) :: starEach [] X.env := by rfl) (hplain : (backTo cpos (starEach [] X.env)).any (·.1) = false := by rfl) (hsw : swapsWith (.Call (.Attribute (.Name x p1) "append" apos) [e] [] cpos) none pos.line X.env = pure false := by rfl) :
    PSt X W (.Expr (.Call (.Attribute (.Name x p1) "append" apos) [e] [] cpos) pos) (tDrop (tBM X.K "list" rAppend (tVar i) (tCons te tNil))) (pApp i pe) :=
  ⟨ps_expr (pe_bm PySem.F.plainAttrs_list PySem.F.slot_list_append PySem.F.type_list_append mt_append (pe_var hN hv hdd hcd) (pa1 he.pe hs) hbase hfew hline hs hplain) hsw, fun C ok D ρ hp F σ H hd Dc ed => by
  obtain ⟨⟨io0, xs0, hx0⟩, hp⟩ := hp
  obtain ⟨a', g1, g2, ⟨vs, g3, g4⟩, g5⟩ := hd.ownAt hx0
  refine ⟨_, g1, .inl ⟨rfl, _, SqL.of g3⟩, he.sim C ok ρ _ hp F σ H hd _ fun d ρ1 v F1 H1 h1 e1 hd1 r1 => ?_⟩
  obtain ⟨io, xs, q1, q2, q3⟩ := h1
  obtain ⟨a2, k1, k2, ⟨ws, k3, k4⟩, k5⟩ := hd1.ownAt q1
  rw [g1] at k1
  cases k1
  exact ⟨a', ws, v, rfl, rfl, k3, bigL (by rw [k4.length]; exact q2), ed.nx _ F1 σ _ q3 (hd1.change q1 g1 (o' := .lst (xs ++ [d])) ⟨_, upd_same, k4.app (.cons r1 .nil)⟩)⟩⟩
end
end Wk
namespace Wk
open PySem L2
/-! ### what is walked -/
def ItOk (K : Fr) (F : Hp) (J : It) (xs : List Dt) : Prop := ∀ H, Ext F H → (∀ i, i < xs.length → J.go i H) ∧ (∀ i, xs.length ≤ i → J.stop i H) ∧ ∀ i v H', i < xs.length → J.yld i H v H' → H' = H ∧ ∃ d, xs[i]? = some d ∧ Rep K F v d
theorem ItOk.mono {K : Fr} {F F' : Hp} {J : It} {xs : List Dt} (e : Ext F F') (h : ItOk K F J xs) : ItOk K F' J xs := fun H x => by
  obtain ⟨h1, h2, h3⟩ := h H (e.trans x)
  refine ⟨h1, h2, fun i v H' hi y => ?_⟩
  obtain ⟨z1, d, z2, z3⟩ := h3 i v H' hi y
  exact ⟨z1, d, z2, z3.mono e⟩
abbrev PTI := Rho → (List Dt → Rho → Prop) → Prop
def SimI (K : Fr) (W : Wx) (wi : TI) (t : PTI) : Prop := ∀ (C : PC), COk K C W → ∀ (ρ : Rho) (P : List Dt → Rho → Prop), t ρ P → ∀ (F : Hp) (σ : L2.St) (H : Hp), Hd K C F ρ σ H → ∀ R : It → Hp → Prop,
  (∀ xs ρ' J F' H', P xs ρ' → Ext F F' → Hd K C F' ρ' σ H' → ItOk K F' J xs → R J H') → wi σ H R
structure PIr (X : Cx) (W : Wx) (tg iter : Expr) (wi : TI) (t : PTI) : Prop where
  pi : PI X tg iter wi
  sim : SimI X.K W wi t
section
variable {X : Cx} {W : Wx} {a b c : Expr} {e tg : Expr} {es : List Expr} {ta tb tc te : TE} {pa pb pc pe : PTE} {va vb : PTV} {pos : Pos} {tr : TA} {pr : PTA}
def piL (t : PTE) : PTI := fun ρ P => t ρ fun d ρ1 => ∃ xs, seqOf d = some xs ∧ (∀ ys, d ≠ .tup ys) ∧ P xs ρ1
def piT (t : PTE) : PTI := fun ρ P => t ρ fun d ρ1 => ∃ xs, d = .tup xs ∧ P xs ρ1
theorem simIL {K : Fr} (ha : SimE K W ta pa) : SimI K W (iList K ta) (piL pa) := fun C ok ρ P h F σ H hd R q => ha C ok ρ _ h F σ H hd _ fun d ρ1 v F1 H1 h1 e1 hd1 r1 => by
  obtain ⟨xs, hs, hn, hp⟩ := h1
  have key : ∃ p vs, v = .ref p ∧ SqL K F1 p vs ∧ RepAll K F1 vs xs := by
    cases r1 with
    | lst h r => cases hs; exact ⟨_, _, rfl, SqL.of h, r⟩
    | tup h r => exact absurd rfl (hn _)
    | scr h => cases hs; exact ⟨_, _, rfl, h, RepAll.ofInts _⟩
    | non => cases hs
    | bl b => cases hs
    | int i => cases hs
    | str x => cases hs
    | dT _ _ => cases hs
    | exc _ _ => cases hs
  obtain ⟨p, vs, rfl, g1, g2⟩ := key
  refine ⟨p, rfl, ⟨vs, hd1.sub.l g1⟩, q xs ρ1 (Itl K p) F1 H1 hp e1 hd1 fun H' x => ?_⟩
  have g := x.l g1
  have hl := g2.length
  refine ⟨fun i hi => ?_, fun i hi => ⟨vs, g, by omega⟩, fun i u H2 hi y => ?_⟩
  · have : i < vs.length := by omega
    exact ⟨vs, vs[i], g, List.getElem?_eq_getElem this⟩
  · obtain ⟨rfl, y2⟩ := y
    have z := y2 vs g
    obtain ⟨w, z1, z2⟩ := g2.get (List.getElem?_eq_getElem hi)
    rw [z] at z1
    cases z1
    exact ⟨rfl, _, List.getElem?_eq_getElem hi, z2⟩
theorem simIT {K : Fr} (ha : SimE K W ta pa) : SimI K W (iTup K ta) (piT pa) := fun C ok ρ P h F σ H hd R q => ha C ok ρ _ h F σ H hd _ fun d ρ1 v F1 H1 h1 e1 hd1 r1 => by
  obtain ⟨xs, rfl, hp⟩ := h1
  cases r1 with
  | @tup p vs _ g0 g2 =>
    have g1 : SqT K F1 p vs := SqT.of g0
    refine ⟨p, rfl, ⟨vs, hd1.sub.t g1⟩, q xs ρ1 (Itt K p) F1 H1 hp e1 hd1 fun H' x => ?_⟩
    have g := x.t g1
    have hl := g2.length
    refine ⟨fun i hi => ?_, fun i hi => ⟨vs, g, by omega⟩, fun i u H2 hi y => ?_⟩
    · have : i < vs.length := by omega
      exact ⟨vs, vs[i], g, List.getElem?_eq_getElem this⟩
    · obtain ⟨rfl, y2⟩ := y
      have z := y2 vs g
      obtain ⟨w, z1, z2⟩ := g2.get (List.getElem?_eq_getElem hi)
      rw [z] at z1
      cases z1
      exact ⟨rfl, _, List.getElem?_eq_getElem hi, z2⟩
theorem pi_list' (ha : PD X W a ta pa) : PIr X W tg a (iList X.K ta) (piL pa) := ⟨pi_list ha.pe, simIL ha.sim⟩
theorem pi_tup' (ha : PD X W a ta pa) : PIr X W tg a (iTup X.K ta) (piT pa) := ⟨pi_tup ha.pe, simIT ha.sim⟩
/-- lo, lo + 1, .. -/
def rngD (lo : Int) (n : Nat) : List Dt := (List.range n).map fun (i : Nat) => Dt.int (lo + (i : Int))
theorem rngD_len (lo : Int) (n : Nat) : (rngD lo n).length = n := by simp [rngD]
theorem rngD_get {lo : Int} {n i : Nat} (h : i < n) : (rngD lo n)[i]? = some (.int (lo + (i : Int))) := by
  unfold rngD
  rw [List.getElem?_map, List.getElem?_range h]
  rfl
theorem rngD_some {lo : Int} {n i : Nat} {d : Dt} (h : (rngD lo n)[i]? = some d) : i < n ∧ d = .int (lo + (i : Int)) := by
  have hi : i < n := by
    have := (List.getElem?_eq_some_iff.mp h).1
    rwa [rngD_len] at this
  rw [rngD_get hi] at h
  cases h
  exact ⟨hi, rfl⟩
theorem itr_ok {K : Fr} {F : Hp} (lo : Int) (n : Nat) : ItOk K F (Itr lo n) (rngD lo n) := fun H _ => by
  rw [rngD_len]
  refine ⟨fun i hi => hi, fun i hi => hi, fun i v H' hi y => ?_⟩
  obtain ⟨y1, y2⟩ := y
  subst y2
  exact ⟨y1, _, rngD_get hi, .int _⟩
def piR1 (t : PTE) : PTI := fun ρ P => t ρ fun d ρ1 => ∃ n : Int, d = .int n ∧ -1000000000 ≤ n ∧ n ≤ 1000000000 ∧ P (rngD 0 n.toNat) ρ1
theorem pi_range1' {pp : Pos} (hm : X.mg "range" = none) (ha : PD X W a ta pa) (hg : Gl X "range" := by rfl) (hs : starEach [a] X.env = [(false, eval a X.env)] := by rfl) (hs' : starEach [a] X.env = (false, eval a X.env) :: starEach [] X.env := by rfl) : PIr X W tg (.Call (.Name "range" pp) [a] [] pos) (iRng1 (tCons ta tNil)) (piR1 pa) := ⟨pi_range1 hg hm (pa1 ha.pe hs') hs,
  fun C ok ρ P h F σ H hd R q => ha.sim C ok ρ _ h F σ H hd _ fun d ρ1 v F1 H1 h1 e1 hd1 r1 => by
    obtain ⟨n, rfl, b1, b2, hp⟩ := h1
    cases r1
    exact ⟨n, rfl, by omega, by omega, q _ ρ1 _ F1 H1 hp e1 hd1 (itr_ok 0 _)⟩⟩
def piR2 (t u : PTE) : PTI := fun ρ P => t ρ fun d ρ1 => u ρ1 fun z ρ2 => ∃ lo hi : Int, d = .int lo ∧ z = .int hi ∧ (-1000000000 ≤ lo ∧ lo ≤ 1000000000 ∧ -1000000000 ≤ hi ∧ hi ≤ 1000000000) ∧ P (rngD lo (hi - lo).toNat) ρ2
theorem pi_range2' {pp : Pos} (hm : X.mg "range" = none) (ha : PD X W a ta pa) (hb : PD X W b tb pb) (hg : Gl X "range" := by rfl) (hs : starEach [a, b] X.env = [(false, eval a X.env), (false, eval b X.env)] := by rfl) (hs2 : starEach [b] X.env = [(false, eval b X.env)] := by rfl)
    (hs' : starEach [a, b] X.env = (false, eval a X.env) :: starEach [b] X.env := by rfl) (hs2' : starEach [b] X.env = (false, eval b X.env) :: starEach [] X.env := by rfl) : PIr X W tg (.Call (.Name "range" pp) [a, b] [] pos) (iRng2 (tCons ta (tCons tb tNil))) (piR2 pa pb) := ⟨pi_range2 hg hm (L2.pa_cons ha.pe (pa1 hb.pe hs2') hs') hs hs2,
  fun C ok ρ P h F σ H hd R q => ha.sim C ok ρ _ h F σ H hd _ fun d ρ1 v F1 H1 h1 e1 hd1 r1 => hb.sim C ok ρ1 _ h1 F1 σ H1 hd1 _ fun z ρ2 y F2 H2 h2 e2 hd2 r2 => by
    obtain ⟨lo, hi, rfl, rfl, b1, hp⟩ := h2
    cases r1
    cases r2
    exact ⟨lo, hi, rfl, by omega, q _ ρ2 _ F2 H2 hp (e1.trans e2) hd2 (itr_ok lo _)⟩⟩
/-! ### for, while -/
section
variable {K : Fr} {C : PC} {F F1 F' : Hp} {ρ : Rho} {σ : L2.St} {H : Hp}
/-- what is frozen now as the part that stays -/
def PC.base (C : PC) (F1 : Hp) : PC := ⟨C.H0, F1, C.io, C.keep⟩
theorem Hd.base (h : Hd K C F ρ σ H) (e : Ext F1 F) (e0 : Ext C.F0 F1) : Hd K (C.base F1) F ρ σ H where
  len := h.len
  sub := h.sub
  f0 := e
  new := fun a o q => by
    rcases h.new a o q with z | z
    · exact .inl (e0 a o z)
    · exact .inr z
  old := h.old
  slot := fun i en q => by
    obtain ⟨v, h1, h2⟩ := h.slot i en q
    exact ⟨v, h1, by cases en <;> exact h2⟩
  sep := h.sep
  kept := h.kept
theorem Hd.unbase (h : Hd K (C.base F1) F ρ σ H) (e0 : Ext C.F0 F1) (n1 : ∀ a o, F1 a = some o → C.F0 a = some o ∨ C.H0 a = none) : Hd K C F ρ σ H where
  len := h.len
  sub := h.sub
  f0 := e0.trans h.f0
  new := fun a o q => by
    rcases h.new a o q with z | z
    · exact n1 a o z
    · exact .inr z
  old := h.old
  slot := fun i en q => by
    obtain ⟨v, h1, h2⟩ := h.slot i en q
    exact ⟨v, h1, by cases en <;> exact h2⟩
  sep := h.sep
  kept := h.kept
theorem COk.base {W : Wx} (ok : COk K C W) (e0 : Ext C.F0 F1) (n1 : ∀ a o, F1 a = some o → C.F0 a = some o ∨ C.H0 a = none) : COk K (C.base F1) W := fun c dd fs vs F H x1 x2 x3 x4 x5 x6 xk x7 x8 =>
  ok c dd fs vs F H x1 x2 (e0.trans x3) x4 (fun a o q => by
    rcases x5 a o q with z | z
    · exact n1 a o z
    · exact .inr z) x6 xk x7 x8
theorem RsOk.base {v : V} {r : Rs} (h : RsOk K (C.base F1) F ρ σ H v r) : RsOk K C F ρ σ H v r := by cases r <;> exact h
end
/-- what is let go of -/
def drp (fg : List Nat) (ρ : Rho) : Rho := fg.foldl (fun r i => r.set i none) ρ
theorem Hd.drp {K : Fr} {C : PC} {F : Hp} {σ : L2.St} {H : Hp} : ∀ (fg : List Nat) {ρ : Rho}, Hd K C F ρ σ H → Hd K C F (drp fg ρ) σ H
  | [], _, h => h
  | i :: fg, _, h => Hd.drp fg (h.forget i)
variable {body : List Stmt} {tb' : TS} {pb' : PTS} {wi : TI} {src : PTI} {g : TG} {pg : PTG}
def pFor (src : PTI) (g : PTG) (tb : PTS) : PTS := fun D ρ => src ρ fun xs ρ1 => ∃ (fg : List Nat) (I : Nat → Rho → Prop), I 0 (drp fg ρ1) ∧
  (∀ i x ρ2, xs[i]? = some x → I i ρ2 → g x ρ2 fun ρ3 => tb { D with nx := fun ρ4 => I (i + 1) (drp fg ρ4), ct := fun ρ4 => I (i + 1) (drp fg ρ4), bk := D.nx } ρ3) ∧ ∀ ρ2, I xs.length ρ2 → D.nx ρ2
theorem simFor {K : Fr} (hi : SimI K W wi src) (hg : SimG K W g pg) (hb : SimS K W tb' pb') : SimS K W (tFor wi g tb') (pFor src pg pb') := fun C ok D ρ h F σ H hd Dc ed => hi C ok ρ _ h F σ H hd _ fun xs ρ1 J F1 H1 h1 e1 hd1 it => by
  obtain ⟨fg, I, i0, is, id⟩ := h1
  refine ⟨fun i m σ' H' => i ≤ xs.length ∧ m = xs.length - i ∧ ∃ F' ρ', I i ρ' ∧ Hd K C F' ρ' σ' H' ∧ Ext F1 F', ⟨xs.length, Nat.zero_le _, rfl, F1, _, i0, hd1.drp fg, Ext.refl F1⟩, fun i m σ' H' hw => ?_⟩
  obtain ⟨hle, rfl, F', ρ', hI, hd', e'⟩ := hw
  obtain ⟨t1, t2, t3⟩ := it.mono e' H' hd'.sub
  by_cases hlt : i < xs.length
  · refine .inr ⟨t1 i hlt, fun σ2 H2 => ∃ F2 ρ2, I (i + 1) ρ2 ∧ Hd K C F2 ρ2 σ2 H2 ∧ Ext F1 F2, fun σ2 H2 ⟨F2, ρ2, q1, q2, q3⟩ => ⟨xs.length - (i + 1), by omega, hlt, rfl, F2, ρ2, q1, q2, q3⟩, fun v H2 y => ?_⟩
    obtain ⟨rfl, d, hx, rv⟩ := t3 i v H2 hlt y
    refine hg C ok d ρ' _ (is i d ρ' hx hI) F' σ' H2 v hd' rv _ fun ρ3 F3 σ3 H3 h3 e3 hd3 => ?_
    have n1 := hd1.new
    have f1 := hd1.f0
    have e3' : Ext F1 F3 := e'.trans e3
    refine hb (C.base F1) (ok.base f1 n1) _ ρ3 h3 F3 σ3 H3 (hd3.base e3' f1) _ ⟨fun ρ4 F4 σ4 H4 h4 hd4 => ?_, fun r ρ4 F4 σ4 H4 v4 h4 hd4 r4 => ed.rt r ρ4 F4 σ4 H4 v4 h4 (hd4.unbase f1 n1) r4.base, fun ρ4 F4 σ4 H4 h4 hd4 => ed.nx ρ4 F4 σ4 H4 h4 (hd4.unbase f1 n1), fun ρ4 F4 σ4 H4 h4 hd4 => ?_⟩
    · exact ⟨F4, _, h4, (hd4.unbase f1 n1).drp fg, hd4.f0⟩
    · exact ⟨F4, _, h4, (hd4.unbase f1 n1).drp fg, hd4.f0⟩
  · have e : i = xs.length := by omega
    subst e
    exact .inl ⟨t2 _ (Nat.le_refl _), ed.nx ρ' F' σ' H' (id ρ' hI) hd'⟩
theorem ps_for' (hp : PassesOwn (model X.prog X.w) X.A X.env X.xe) (hc : X.calm = true) (hi : PIr X W tg e wi src) (hg : PGr X W tg g pg) (hb : PSts X W body tb' pb') (hs : ∀ x, foldedSetIterable e X.env x = pure x := by intro _; rfl) : PSt X W (.For tg e body [] pos) (tFor wi g tb') (pFor src pg pb') := ⟨ps_for hp hc hi.pi hg.pg hb.pss hs, simFor hi.sim hg.sim hb.sim⟩
variable {tt : TT} {pt : PTT}
def pWhile (c : PTT) (tb : PTS) : PTS := fun D ρ => ∃ (fg : List Nat) (I : Nat → Rho → Prop), (∃ m, I m (drp fg ρ)) ∧ ∀ m ρ1, I m ρ1 → c ρ1 fun b ρ2 => if b = true then tb { D with nx := fun ρ4 => ∃ m', m' < m ∧ I m' (drp fg ρ4), ct := fun ρ4 => ∃ m', m' < m ∧ I m' (drp fg ρ4), bk := D.nx } ρ2 else D.nx ρ2
theorem ps_while' (hp : PassesOwn (model X.prog X.w) X.A X.env X.xe) (hc : PDT X W c tt pt) (hb : PSts X W body tb' pb') : PSt X W (.While c body [] pos) (tWhile tt tb') (pWhile pt pb') := ⟨ps_while hp hc.pt hb.pss, fun C ok D ρ h F σ H hd Dc ed => by
  obtain ⟨fg, I, ⟨m0, i0⟩, is⟩ := h
  refine ⟨fun m σ' H' => ∃ F' ρ', I m ρ' ∧ Hd X.K C F' ρ' σ' H', ⟨m0, F, _, i0, hd.drp fg⟩, fun m σ' H' ⟨F', ρ', hI, hd'⟩ => ?_⟩
  refine hc.sim C ok ρ' _ (is m ρ' hI) F' σ' H' hd' _ fun b ρ2 F2 H2 h2 e2 hd2 => ?_
  cases b with
  | true =>
    rw [if_pos rfl] at h2 ⊢
    refine ⟨fun σ3 H3 => ∃ m', m' < m ∧ ∃ F3 ρ3, I m' ρ3 ∧ Hd X.K C F3 ρ3 σ3 H3, fun σ3 H3 ⟨m', q1, q2⟩ => ⟨m', q1, q2⟩, hb.sim C ok _ ρ2 h2 F2 σ' H2 hd2 _ ⟨fun ρ4 F4 σ4 H4 h4 hd4 => ?_, ed.rt, ed.nx, fun ρ4 F4 σ4 H4 h4 hd4 => ?_⟩⟩
    · obtain ⟨m', q1, q2⟩ := h4
      exact ⟨m', q1, F4, _, q2, hd4.drp fg⟩
    · obtain ⟨m', q1, q2⟩ := h4
      exact ⟨m', q1, F4, _, q2, hd4.drp fg⟩
  | false =>
    rw [if_neg Bool.false_ne_true] at h2 ⊢
    exact ed.nx ρ2 F2 σ' H2 h2 hd2⟩
/-! ### comprehensions -/
/-- the block's own slots forgotten; those that held data hold it again -/
def wipeR (ρ : Rho) : List Nat → Rho
  | [] => ρ
  | v :: vs => (wipeR ρ vs).set v none
def backR (ρ0 ρ : Rho) : List Nat → Rho
  | [] => ρ
  | v :: vs => match ρ0[v]? with
    | some (some (.dat d)) => (backR ρ0 ρ vs).set v (some (.dat d))
    | _ => backR ρ0 ρ vs
structure PTr (X : Cx) (W : Wx) (ifs : List Expr) (tt : TT) (t : PTT) : Prop where
  pt : PTs X ifs tt
  sim : SimT X.K W tt t
def pYes : PTT := fun ρ P => P true ρ
theorem pt_nil' : PTr X W [] tYes pYes := ⟨pts_nil, fun C ok ρ P h F σ H hd Q q => q true ρ F H h (Ext.refl F) hd⟩
theorem pt_one' (h : PDT X W c tt pt) : PTr X W [c] tt pt := ⟨pts_one h.pt, h.sim⟩
def pLc (src : PTI) (g : PTG) (tt : PTT) (te : PTE) (vs : List Nat) : PTF := fun ρ P => src ρ fun xs ρ1 => ∃ I : Nat → List Dt → Rho → Prop, I 0 [] (wipeR ρ1 vs) ∧
  (∀ i x acc ρ2, xs[i]? = some x → I i acc ρ2 → g x ρ2 fun ρ3 => tt ρ3 fun b ρ4 => if b = true then te ρ4 (fun d ρ5 => acc.length < 1000000 ∧ I (i + 1) (acc ++ [d]) (wipeR ρ5 vs)) else I (i + 1) acc (wipeR ρ4 vs)) ∧
  ∀ acc ρ2, I xs.length acc ρ2 → P (.lst acc) (backR ρ1 ρ2 vs)
theorem wipe_get {σ : L2.St} : ∀ {vs : List Nat} {i : Nat}, i ∉ vs → (L2.wipe σ vs)[i]? = σ[i]?
  | [], _, _ => rfl
  | v :: vs, i, h => by
    unfold L2.wipe
    rw [List.getElem?_set_ne (fun e => h (by rw [e]; exact List.mem_cons_self))]
    exact wipe_get fun hv => h (List.mem_cons_of_mem _ hv)
theorem wipe_in {σ : L2.St} {i : Nat} : ∀ {vs : List Nat}, i ∈ vs → (L2.wipe σ vs)[i]? = if i < σ.length then some none else none
  | [], h => by simp at h
  | v :: vs, h => by
    unfold L2.wipe
    rw [List.getElem?_set, wipe_length]
    by_cases e : v = i
    · subst e; simp
    · rw [if_neg e]
      rcases List.mem_cons.mp h with z | z
      · exact absurd z.symm e
      · exact wipe_in z
theorem wipe_same {σ σ2 : L2.St} {vs : List Nat} (hl : σ2.length = σ.length) (h : ∀ i, i ∉ vs → σ2[i]? = σ[i]?) : L2.wipe σ2 vs = L2.wipe σ vs := by
  apply List.ext_getElem?
  intro i
  by_cases hi : i ∈ vs
  · rw [wipe_in hi, wipe_in hi, hl]
  · rw [wipe_get hi, wipe_get hi, h i hi]
theorem wipe_wipe {σ : L2.St} {vs : List Nat} : L2.wipe (L2.wipe σ vs) vs = L2.wipe σ vs := wipe_same (wipe_length σ vs) fun i hi => wipe_get hi
theorem wipeR_len {ρ : Rho} : ∀ vs : List Nat, (wipeR ρ vs).length = ρ.length
  | [] => rfl
  | v :: vs => by unfold wipeR; rw [List.length_set, wipeR_len vs]
theorem wipeR_some {ρ : Rho} {i : Nat} {x : En} : ∀ {vs : List Nat}, (wipeR ρ vs)[i]? = some (some x) → ρ[i]? = some (some x) ∧ i ∉ vs
  | [], h => ⟨h, by simp⟩
  | v :: vs, h => by
    unfold wipeR at h
    by_cases hi : v = i
    · subst hi
      rw [List.getElem?_set] at h
      simp at h
    · rw [List.getElem?_set_ne hi] at h
      obtain ⟨h1, h2⟩ := wipeR_some h
      exact ⟨h1, fun hm => (List.mem_cons.mp hm).elim (fun e => hi e.symm) h2⟩
/-- a target stores to the block's own slots alone -/
structure OwnG (vs : List Nat) (g : TG) : Prop where
  mono : ∀ (v : V) (σ : L2.St) (H : Hp) (Q Q' : L2.St → Hp → Prop), (∀ σ' H', Q σ' H' → Q' σ' H') → g v σ H Q → g v σ H Q'
  own : ∀ (v : V) (σ : L2.St) (H : Hp) (Q : L2.St → Hp → Prop), g v σ H Q → g v σ H fun σ2 H2 => L2.wipe σ2 vs = L2.wipe σ vs ∧ Q σ2 H2
structure OwnGs (vs : List Nat) (g : TGs) : Prop where
  mono : ∀ (v : List V) (σ : L2.St) (H : Hp) (Q Q' : L2.St → Hp → Prop), (∀ σ' H', Q σ' H' → Q' σ' H') → g v σ H Q → g v σ H Q'
  own : ∀ (v : List V) (σ : L2.St) (H : Hp) (Q : L2.St → Hp → Prop), g v σ H Q → g v σ H fun σ2 H2 => L2.wipe σ2 vs = L2.wipe σ vs ∧ Q σ2 H2
theorem own_name {vs : List Nat} {i : Nat} (h : i ∈ vs := by decide) : OwnG vs (gName i) := ⟨fun v σ H Q Q' hm q => hm _ _ q, fun v σ H Q q => ⟨wipe_same List.length_set fun j hj => List.getElem?_set_ne fun e => hj (by rw [← e]; exact h), q⟩⟩
theorem own_nil {vs : List Nat} : OwnGs vs gNil := ⟨fun v σ H Q Q' hm q => ⟨q.1, hm _ _ q.2⟩, fun v σ H Q q => ⟨q.1, rfl, q.2⟩⟩
theorem own_cons {vs : List Nat} {g : TG} {gs : TGs} (h1 : OwnG vs g) (h2 : OwnGs vs gs) : OwnGs vs (gCons g gs) := ⟨fun v σ H Q Q' hm q => by
  obtain ⟨a, r, e, q⟩ := q
  exact ⟨a, r, e, h1.mono _ _ _ _ _ (fun σ' H' z => h2.mono _ _ _ _ _ hm z) q⟩, fun v σ H Q q => by
  obtain ⟨a, r, e, q⟩ := q
  exact ⟨a, r, e, h1.mono _ _ _ _ _ (fun σ' H' z => h2.mono _ _ _ _ _ (fun σ2 H2 y => ⟨y.1.trans z.1, y.2⟩) (h2.own _ _ _ _ z.2)) (h1.own _ _ _ _ q)⟩⟩
theorem own_tup {vs : List Nat} {K : Fr} {n : Nat} {gs : TGs} (h : OwnGs vs gs) : OwnG vs (gTup K n gs) := ⟨fun v σ H Q Q' hm q => by
  obtain ⟨a, xs, e1, e2, e3, q⟩ := q
  exact ⟨a, xs, e1, e2, e3, h.mono _ _ _ _ _ hm q⟩, fun v σ H Q q => by
  obtain ⟨a, xs, e1, e2, e3, q⟩ := q
  exact ⟨a, xs, e1, e2, e3, h.own _ _ _ _ q⟩⟩
theorem backR_own {ρ0 ρ : Rho} {i : Nat} {b : Bool} {o : Ow} : ∀ {vs : List Nat}, (backR ρ0 ρ vs)[i]? = some (some (En.own b o)) → ρ[i]? = some (some (En.own b o))
  | [], h => h
  | v :: vs, h => by
    unfold backR at h
    split at h
    · by_cases e : v = i
      · subst e
        rw [List.getElem?_set] at h
        split at h
        · split at h
          · cases h
          · cases h
        · exact backR_own h
      · rw [List.getElem?_set_ne e] at h
        exact backR_own h
    · exact backR_own h
section
variable {K : Fr} {C : PC} {F F1 F' : Hp} {ρ : Rho} {σ : L2.St} {H : Hp}
/-- the slots as the block sees them -/
theorem Hd.wiped (h : Hd K C F ρ σ H) (vs : List Nat) : Hd K C F (wipeR ρ vs) (L2.wipe σ vs) H where
  len := by rw [wipe_length, wipeR_len]; exact h.len
  sub := h.sub
  f0 := h.f0
  new := h.new
  old := h.old
  slot := fun i en q => by
    obtain ⟨q1, q2⟩ := wipeR_some q
    rw [wipe_get q2]
    exact h.slot i en q1
  sep := fun i j a b1 o1 b2 o2 q1 q2 q3 q4 => by
    obtain ⟨q1', q1n⟩ := wipeR_some q1
    obtain ⟨q2', q2n⟩ := wipeR_some q2
    rw [wipe_get q1n] at q3
    rw [wipe_get q2n] at q4
    exact h.sep i j a _ _ _ _ q1' q2' q3 q4
  kept := fun a o q => by
    obtain ⟨k1, k2, k3, k4⟩ := h.kept a o q
    refine ⟨k1, k2, k3, fun i b o1 q1 => ?_⟩
    obtain ⟨q1', q1n⟩ := wipeR_some q1
    rw [wipe_get q1n]
    exact k4 i b o1 q1'
/-- .. and back -/
theorem Hd.unwiped {vs : List Nat} (h : Hd K C F ρ (L2.wipe σ vs) H) : Hd K C F ρ σ H where
  len := by rw [← h.len, wipe_length]
  sub := h.sub
  f0 := h.f0
  new := h.new
  old := h.old
  slot := fun i en q => by
    obtain ⟨v, h1, h2⟩ := h.slot i en q
    exact ⟨v, (wipe_some h1).1, h2⟩
  sep := fun i j a b1 o1 b2 o2 q1 q2 q3 q4 => by
    obtain ⟨v1, w1, _⟩ := h.slot i _ q1
    obtain ⟨v2, w2, _⟩ := h.slot j _ q2
    have e1 := (wipe_some w1).1
    have e2 := (wipe_some w2).1
    rw [q3] at e1
    rw [q4] at e2
    cases e1
    cases e2
    exact h.sep i j a _ _ _ _ q1 q2 w1 w2
  kept := fun a o q => by
    obtain ⟨k1, k2, k3, k4⟩ := h.kept a o q
    refine ⟨k1, k2, k3, fun i b o1 q1 z => ?_⟩
    obtain ⟨v1, w1, _⟩ := h.slot i _ q1
    have e1 := (wipe_some w1).1
    rw [z] at e1
    cases e1
    exact k4 i b o1 q1 w1
theorem Hd.setDatAt (h : Hd K C F ρ σ H) {i : Nat} {v : V} {d : Dt} (hi : σ[i]? = some (some v)) (r : Rep K F v d) : Hd K C F (ρ.set i (some (.dat d))) σ H := by
  have hl : i < ρ.length := by rw [← h.len]; exact (List.getElem?_eq_some_iff.mp hi).1
  have := h.setDat hl r
  have e : σ.set i (some v) = σ := by
    apply List.ext_getElem?
    intro j
    by_cases e : i = j
    · subst e
      rw [List.getElem?_set_self (List.getElem?_eq_some_iff.mp hi).1, hi]
    · rw [List.getElem?_set_ne e]
  rwa [e] at this
theorem Hd.back {ρ0 : Rho} {H1 : Hp} (h0 : Hd K C F1 ρ0 σ H1) (e : Ext F1 F) (h : Hd K C F ρ σ H) : ∀ vs : List Nat, Hd K C F (backR ρ0 ρ vs) σ H
  | [] => h
  | v :: vs => by
    have ih := Hd.back h0 e h vs
    unfold backR
    split
    · rename_i d hd
      obtain ⟨u, h1, h2⟩ := h0.datAt hd
      exact ih.setDatAt h1 (h2.mono e)
    · exact ih
/-- with what is being made among what stays -/
def PC.with_ (C : PC) (F1 : Hp) (D : Addr) (o : HO) : PC := ⟨C.H0, F1, C.io, (D, o) :: C.keep⟩
theorem Hd.with_ {D : Addr} {u : HO} {o : Ow} (h : Hd K C F ρ σ H) (f : Fresh K C F ρ σ H D o) (hu : H D = some u) : Hd K (C.with_ F D u) F ρ σ H where
  len := h.len
  sub := h.sub
  f0 := Ext.refl F
  new := fun a o q => .inl q
  old := h.old
  slot := fun i en q => by
    obtain ⟨v, h1, h2⟩ := h.slot i en q
    exact ⟨v, h1, by cases en <;> exact h2⟩
  sep := h.sep
  kept := fun a w q => by
    rcases List.mem_cons.mp q with e | e
    · cases e
      exact ⟨hu, f.1, f.2.1, f.2.2.2.1⟩
    · exact h.kept a w e
theorem Hd.without {D : Addr} {u : HO} (h : Hd K (C.with_ F1 D u) F ρ σ H) (e0 : Ext C.F0 F1) (n1 : ∀ a o, F1 a = some o → C.F0 a = some o ∨ C.H0 a = none) : Hd K C F ρ σ H where
  len := h.len
  sub := h.sub
  f0 := e0.trans h.f0
  new := fun a o q => by
    rcases h.new a o q with z | z
    · exact n1 a o z
    · exact .inr z
  old := h.old
  slot := fun i en q => by
    obtain ⟨v, h1, h2⟩ := h.slot i en q
    exact ⟨v, h1, by cases en <;> exact h2⟩
  sep := h.sep
  kept := fun a o q => h.kept a o (List.mem_cons_of_mem _ q)
theorem COk.with_ {W : Wx} {D : Addr} {u : HO} (ok : COk K C W) (e0 : Ext C.F0 F1) (n1 : ∀ a o, F1 a = some o → C.F0 a = some o ∨ C.H0 a = none) : COk K (C.with_ F1 D u) W := fun c dd fs vs F H x1 x2 x3 x4 x5 x6 xk x7 x8 =>
  ok c dd fs vs F H x1 x2 (e0.trans x3) x4 (fun a o q => by
    rcases x5 a o q with z | z
    · exact n1 a o z
    · exact .inr z) x6 (fun a o q => xk a o (List.mem_cons_of_mem _ q)) x7 x8
/-- an object of nobody's is changed -/
theorem Hd.mutD {D : Addr} {u : HO} (h : Hd K C F ρ σ H) (f1 : F D = none) (f2 : C.H0 D = none) (f4 : ∀ (i : Nat) (b1 : Bool) (o1 : Ow), ρ[i]? = some (some (En.own b1 o1)) → σ[i]? ≠ some (some (V.ref D))) (f5 : ∀ w, (D, w) ∉ C.keep) : Hd K C F ρ σ (upd H D u) where
  len := h.len
  sub := h.sub.mut f1
  f0 := h.f0
  new := h.new
  old := fun a o q => by
    have ne : a ≠ D := fun e => by rw [e, f2] at q; cases q
    rw [upd_ne ne]
    exact h.old a o q
  slot := fun i en q => by
    obtain ⟨v, h1, h2⟩ := h.slot i en q
    refine ⟨v, h1, ?_⟩
    cases en with
    | dat d => exact h2
    | own io o =>
      obtain ⟨a, rfl, g2, g3, g4⟩ := h2
      have ne : a ≠ D := fun e => f4 i _ _ q (e ▸ h1)
      exact ⟨a, rfl, g2, g3.mono (Ext.refl F) (upd_ne ne), g4⟩
  sep := h.sep
  kept := fun a o q => by
    obtain ⟨k1, k2, k3, k4⟩ := h.kept a o q
    have ne : a ≠ D := fun e => f5 o (e ▸ q)
    exact ⟨by rw [upd_ne ne]; exact k1, k2, k3, k4⟩
end
theorem simLc {K : Fr} {vs : List Nat} (hi : SimI K W wi src) (hg : SimG K W g pg) (ht : SimT K W tt pt) (he : SimE K W te pe) (hgw : OwnG vs g) : SimF K W (tLc wi g tt te vs) (pLc src pg pt pe vs) := fun C ok ρ P h F σ H hd Q q => hi C ok ρ _ h F σ H hd _ fun xs ρ1 J F1 H1 h1 e1 hd1 it D hD => by
  obtain ⟨I, i0, is, id⟩ := h1
  refine ⟨fun i m H' => i ≤ xs.length ∧ m = xs.length - i ∧ ∃ F' ρ' acc, I i acc ρ' ∧ Hd K C F' ρ' (L2.wipe σ vs) H' ∧ Ext F1 F' ∧ Fresh K C F' ρ' (L2.wipe σ vs) H' D (.lst acc), ⟨xs.length, Nat.zero_le _, rfl, F1, _, [], i0, (hd1.wiped vs).lay hD _, Ext.refl F1, Fresh.of_new (hd1.wiped vs) hD (o := .lst []) ⟨[], upd_same, .nil⟩⟩, fun i m H' hw => ?_⟩
  obtain ⟨hle, rfl, F', ρ', acc, hI, hd', e', fr⟩ := hw
  obtain ⟨t1, t2, t3⟩ := it.mono e' H' hd'.sub
  by_cases hlt : i < xs.length
  · refine .inr ⟨t1 i hlt, fun H2 => ∃ F2 ρ2 acc2, I (i + 1) acc2 ρ2 ∧ Hd K C F2 ρ2 (L2.wipe σ vs) H2 ∧ Ext F1 F2 ∧ Fresh K C F2 ρ2 (L2.wipe σ vs) H2 D (.lst acc2), fun H2 ⟨F2, ρ2, acc2, q1, q2, q3, q4⟩ => ⟨xs.length - (i + 1), by omega, hlt, rfl, F2, ρ2, acc2, q1, q2, q3, q4⟩, fun v H2 y => ?_⟩
    obtain ⟨rfl, d, hx, rv⟩ := t3 i v H2 hlt y
    obtain ⟨fr1, fr2, ⟨vacc, fr3, fr3'⟩, fr4, fr5⟩ := fr
    have n1 := hd'.new
    have f1 := hd'.f0
    have hdw := hd'.with_ (o := .lst acc) ⟨fr1, fr2, ⟨vacc, fr3, fr3'⟩, fr4, fr5⟩ fr3
    have okw : COk K (C.with_ F' D (.lst vacc)) W := ok.with_ f1 n1
    have fin : ∀ (ρ4 : Rho) (F4 : Hp) (σ4 : L2.St) (H4 : Hp), Hd K (C.with_ F' D (.lst vacc)) F4 ρ4 σ4 H4 → L2.wipe σ4 vs = L2.wipe (L2.wipe σ vs) vs → H4 D = some (.lst vacc) ∧ Ext F' F4 ∧ F4 D = none ∧ Hd K C F4 (wipeR ρ4 vs) (L2.wipe σ vs) H4 ∧ ∀ (i : Nat) (b1 : Bool) (o1 : Ow), (wipeR ρ4 vs)[i]? = some (some (En.own b1 o1)) → (L2.wipe σ vs)[i]? ≠ some (some (V.ref D)) := fun ρ4 F4 σ4 H4 hd4 hw => by
      obtain ⟨k1, k2, k3, k4⟩ := hd4.kept D _ List.mem_cons_self
      have hw4 := (hd4.without f1 n1).wiped vs
      rw [hw, wipe_wipe] at hw4
      refine ⟨k1, hd4.f0, k2, hw4, fun j b1 o1 q1 => ?_⟩
      obtain ⟨q1', q1n⟩ := wipeR_some q1
      have := k4 j b1 o1 q1'
      rw [← wipe_wipe, ← hw, wipe_get q1n]
      exact this
    refine hgw.mono _ _ _ _ _ ?_ (hgw.own _ _ _ _ (hg (C.with_ F' D (.lst vacc)) okw d ρ' _ (is i d acc ρ' hx hI) F' _ H2 v hdw rv (fun σ2 H3 => L2.wipe σ2 vs = L2.wipe (L2.wipe σ vs) vs → tt σ2 H3 fun b H4 => if b = true then te σ2 H4 fun y H5 => ∃ acc, H5 D = some (.lst acc) ∧ acc.length < sizeLine ∧ (∃ F2 ρ2 acc2, I (i + 1) acc2 ρ2 ∧ Hd K C F2 ρ2 (L2.wipe σ vs) (upd H5 D (.lst (acc ++ [y]))) ∧ Ext F1 F2 ∧ Fresh K C F2 ρ2 (L2.wipe σ vs) (upd H5 D (.lst (acc ++ [y]))) D (.lst acc2)) else (∃ F2 ρ2 acc2, I (i + 1) acc2 ρ2 ∧ Hd K C F2 ρ2 (L2.wipe σ vs) H4 ∧ Ext F1 F2 ∧ Fresh K C F2 ρ2 (L2.wipe σ vs) H4 D (.lst acc2))) ?_))
    · intro σ2 H3 z
      rw [wipe_wipe] at z
      exact ⟨z.1, z.2 z.1⟩
    · intro ρ3 F3 σ3 H3 h3 e3 hd3 hw
      refine ht _ okw ρ3 _ h3 F3 σ3 H3 hd3 _ fun b ρ4 F4 H4 h4 e4 hd4 => ?_
      cases b with
      | true =>
        rw [if_pos rfl] at h4 ⊢
        refine he _ okw ρ4 _ h4 F4 σ3 H4 hd4 _ fun z ρ5 yv F5 H5 h5 e5 hd5 r5 => ?_
        obtain ⟨k1, k2, k3, k4, k5⟩ := fin ρ5 F5 σ3 H5 hd5 hw
        have lz := fr3'.length
        refine ⟨vacc, k1, bigL (by rw [lz]; exact h5.1), F5, _, _, h5.2, k4.mutD k3 fr2 k5 fr5, e'.trans k2, k3, fr2, ⟨_, upd_same, (fr3'.mono k2).app (.cons r5 .nil)⟩, k5, fr5⟩
      | false =>
        rw [if_neg Bool.false_ne_true] at h4 ⊢
        obtain ⟨k1, k2, k3, k4, k5⟩ := fin ρ4 F4 σ3 H4 hd4 hw
        exact ⟨F4, _, _, h4, k4, e'.trans k2, k3, fr2, ⟨_, k1, fr3'.mono k2⟩, k5, fr5⟩
  · have e : i = xs.length := by omega
    subst e
    refine .inl ⟨t2 _ (Nat.le_refl _), ?_⟩
    have hb := Hd.back hd1 e' hd'.unwiped vs
    obtain ⟨fr1, fr2, fr3, fr4, fr5⟩ := fr
    refine q _ _ D F' H' (id acc ρ' hI) (e1.trans e') hb ⟨fr1, fr2, fr3, fun j b1 o1 q1 q2 => ?_, fr5⟩
    have q3 := backR_own q1
    obtain ⟨u, g1, _⟩ := hd'.slot j _ q3
    have g2 := (wipe_some g1).1
    rw [q2] at g2
    cases g2
    exact fr4 j _ _ q3 g1
variable {elt iter : Expr} {ifs : List Expr} {scope : Scope} {own : List (Str × Nat)}
/-- the state nothing is asked of -/
abbrev s00 : Shared := {}
abbrev h00 : Hp := fun _ => none
abbrev Ps (α : Type) := Shared → Hp → Addr → List (Str × Addr) → List Addr → α
/-- [elt for tg in iter if ..] -/
theorem pf_lc (own : List (Str × Nat)) {g : Ps TG} {tt : Ps TT} {te : Ps TE} (hc : X.calm = true) (hN : X.N.Nodup) (hi : PIr X W tg iter wi src) (ok : BlkOk X.N X.env.scope scope own)
    (hg : ∀ (s : Shared) (H : Hp) (C : Addr) (cl : List (Str × Addr)) (fp : List Addr), PGr (X.blk s H scope (compEnvC scope cl C X.env) fp) W tg (g s H C cl fp) pg) (hgo : OwnG (own.map (·.2)) (g s00 h00 0 [] [])) (ht : ∀ (s : Shared) (H : Hp) (C : Addr) (cl : List (Str × Addr)) (fp : List Addr), PTr (X.blk s H scope (compEnvC scope cl C X.env) fp) W ifs (tt s H C cl fp) pt)
    (he : ∀ (s : Shared) (H : Hp) (C : Addr) (cl : List (Str × Addr)) (fp : List Addr), PD (X.blk s H scope (compEnvC scope cl C X.env) fp) W elt (te s H C cl fp) pe) (hs : ∀ x, foldedSetIterable iter X.env x = pure x := by intro _; rfl)
    (eg : ∀ (s : Shared) (H : Hp) (C : Addr) (cl : List (Str × Addr)) (fp : List Addr), g s H C cl fp = g s00 h00 0 [] [] := by intros; rfl) (et : ∀ (s : Shared) (H : Hp) (C : Addr) (cl : List (Str × Addr)) (fp : List Addr), tt s H C cl fp = tt s00 h00 0 [] [] := by intros; rfl) (ee : ∀ (s : Shared) (H : Hp) (C : Addr) (cl : List (Str × Addr)) (fp : List Addr), te s H C cl fp = te s00 h00 0 [] [] := by intros; rfl) :
    PF X W (.ListComp elt [⟨tg, iter, ifs, 0⟩] scope pos) (tLc wi (g s00 h00 0 [] []) (tt s00 h00 0 [] []) (te s00 h00 0 [] []) (own.map (·.2))) (pLc src pg pt pe (own.map (·.2))) :=
  ⟨pe_lc hc hN hi.pi ok (fun s H C cl fp => eg s H C cl fp ▸ (hg s H C cl fp).pg) (fun s H C cl fp => et s H C cl fp ▸ (ht s H C cl fp).pt) (fun s H C cl fp => ee s H C cl fp ▸ (he s H C cl fp).pe) hs, simLc hi.sim (hg s00 h00 0 [] []).sim (ht s00 h00 0 [] []).sim (he s00 h00 0 [] []).sim hgo⟩
/-- name = [..], the name a local -/
theorem ps_setLc' (i : Nat) {y : Str} {py spos : Pos} (own : List (Str × Nat)) {g : Ps TG} {tt : Ps TT} {te : Ps TE} (hc : X.calm = true) (hN : X.N.Nodup) (hi : PIr X W tg iter wi src) (ok : BlkOk X.N X.env.scope scope own)
    (hg : ∀ (s : Shared) (H : Hp) (C : Addr) (cl : List (Str × Addr)) (fp : List Addr), PGr (X.blk s H scope (compEnvC scope cl C X.env) fp) W tg (g s H C cl fp) pg) (hgo : OwnG (own.map (·.2)) (g s00 h00 0 [] [])) (ht : ∀ (s : Shared) (H : Hp) (C : Addr) (cl : List (Str × Addr)) (fp : List Addr), PTr (X.blk s H scope (compEnvC scope cl C X.env) fp) W ifs (tt s H C cl fp) pt)
    (he : ∀ (s : Shared) (H : Hp) (C : Addr) (cl : List (Str × Addr)) (fp : List Addr), PD (X.blk s H scope (compEnvC scope cl C X.env) fp) W elt (te s H C cl fp) pe) (hy : X.N[i]? = some y := by rfl) (hyl : X.env.scope.names.lookup y = some .local := by rfl)
    (hsw : swapsWith (.ListComp elt [⟨tg, iter, ifs, 0⟩] scope pos) (some (.Name y py)) spos.line X.env = pure true := by exact sw_true rfl rfl rfl (by decide +kernel)) (hs : ∀ x, foldedSetIterable iter X.env x = pure x := by intro _; rfl)
    (eg : ∀ (s : Shared) (H : Hp) (C : Addr) (cl : List (Str × Addr)) (fp : List Addr), g s H C cl fp = g s00 h00 0 [] [] := by intros; rfl) (et : ∀ (s : Shared) (H : Hp) (C : Addr) (cl : List (Str × Addr)) (fp : List Addr), tt s H C cl fp = tt s00 h00 0 [] [] := by intros; rfl) (ee : ∀ (s : Shared) (H : Hp) (C : Addr) (cl : List (Str × Addr)) (fp : List Addr), te s H C cl fp = te s00 h00 0 [] [] := by intros; rfl) :
    PSt X W (.Assign [.Name y py] (.ListComp elt [⟨tg, iter, ifs, 0⟩] scope pos) spos) (tAsg (tLc wi (g s00 h00 0 [] []) (tt s00 h00 0 [] []) (te s00 h00 0 [] []) (own.map (·.2))) (gName i)) (pSetF i (pLc src pg pt pe (own.map (·.2)))) :=
  ⟨ps_setLc hc hN hy hyl hsw hi.pi ok (fun s H C cl fp => eg s H C cl fp ▸ (hg s H C cl fp).pg) (fun s H C cl fp => et s H C cl fp ▸ (ht s H C cl fp).pt) (fun s H C cl fp => ee s H C cl fp ▸ (he s H C cl fp).pe) hs, simSetF (simLc hi.sim (hg s00 h00 0 [] []).sim (ht s00 h00 0 [] []).sim (he s00 h00 0 [] []).sim hgo)⟩
theorem simFrz {K : Fr} {W : Wx} {te : TE} {t : PTF} (h : SimF K W te t) : SimE K W te (pFrz t) := fun C ok ρ P hp F σ H hd Q q => h C ok ρ _ hp F σ H hd Q fun o ρ' a F' H' hP eF hd' f => by
  obtain ⟨F1, e1, r1, hd1⟩ := freezeFresh hd' f
  exact q _ _ _ F1 H' hP (eF.trans e1) hd1 r1
/-- .. frozen at once -/
theorem ps_setLcD' (i : Nat) {y : Str} {py spos : Pos} (own : List (Str × Nat)) {g : Ps TG} {tt : Ps TT} {te : Ps TE} (hc : X.calm = true) (hN : X.N.Nodup) (hi : PIr X W tg iter wi src) (ok : BlkOk X.N X.env.scope scope own)
    (hg : ∀ (s : Shared) (H : Hp) (C : Addr) (cl : List (Str × Addr)) (fp : List Addr), PGr (X.blk s H scope (compEnvC scope cl C X.env) fp) W tg (g s H C cl fp) pg) (hgo : OwnG (own.map (·.2)) (g s00 h00 0 [] [])) (ht : ∀ (s : Shared) (H : Hp) (C : Addr) (cl : List (Str × Addr)) (fp : List Addr), PTr (X.blk s H scope (compEnvC scope cl C X.env) fp) W ifs (tt s H C cl fp) pt)
    (he : ∀ (s : Shared) (H : Hp) (C : Addr) (cl : List (Str × Addr)) (fp : List Addr), PD (X.blk s H scope (compEnvC scope cl C X.env) fp) W elt (te s H C cl fp) pe) (hy : X.N[i]? = some y := by rfl) (hyl : X.env.scope.names.lookup y = some .local := by rfl)
    (hsw : swapsWith (.ListComp elt [⟨tg, iter, ifs, 0⟩] scope pos) (some (.Name y py)) spos.line X.env = pure true := by exact sw_true rfl rfl rfl (by decide +kernel)) (hs : ∀ x, foldedSetIterable iter X.env x = pure x := by intro _; rfl)
    (eg : ∀ (s : Shared) (H : Hp) (C : Addr) (cl : List (Str × Addr)) (fp : List Addr), g s H C cl fp = g s00 h00 0 [] [] := by intros; rfl) (et : ∀ (s : Shared) (H : Hp) (C : Addr) (cl : List (Str × Addr)) (fp : List Addr), tt s H C cl fp = tt s00 h00 0 [] [] := by intros; rfl) (ee : ∀ (s : Shared) (H : Hp) (C : Addr) (cl : List (Str × Addr)) (fp : List Addr), te s H C cl fp = te s00 h00 0 [] [] := by intros; rfl) :
    PSt X W (.Assign [.Name y py] (.ListComp elt [⟨tg, iter, ifs, 0⟩] scope pos) spos) (tAsg (tLc wi (g s00 h00 0 [] []) (tt s00 h00 0 [] []) (te s00 h00 0 [] []) (own.map (·.2))) (gName i)) (pSet i (pFrz (pLc src pg pt pe (own.map (·.2))))) :=
  ⟨ps_setLc hc hN hy hyl hsw hi.pi ok (fun s H C cl fp => eg s H C cl fp ▸ (hg s H C cl fp).pg) (fun s H C cl fp => et s H C cl fp ▸ (ht s H C cl fp).pt) (fun s H C cl fp => ee s H C cl fp ▸ (he s H C cl fp).pe) hs, simSet (simFrz (simLc hi.sim (hg s00 h00 0 [] []).sim (ht s00 h00 0 [] []).sim (he s00 h00 0 [] []).sim hgo))⟩
end
end Wk
namespace Wk
open PySem L2
/-- the places of what is lent -/
def ioFrom (k : Nat) : List En → List Nat
  | [] => []
  | .dat _ :: es => ioFrom (k + 1) es
  | .own _ _ :: es => k :: ioFrom (k + 1) es
def outs (ρ : Rho) : List Nat → Option (List Ow)
  | [] => some []
  | i :: is => match ρ[i]?, outs ρ is with
    | some (some (.own true o)), some os => some (o :: os)
    | _, _ => Option.none
section
variable {K : Fr} {F H : Hp}
theorem io_len : ∀ {vs : List V} {es : List En} {as : List Addr}, ArgsOk K F H vs es as → ∀ k, (ioFrom k es).length = as.length
  | _, _, _, .nil, _ => rfl
  | _, _, _, .dat _ s, k => io_len s (k + 1)
  | _, _, _, .own _ _ s, k => congrArg (· + 1) (io_len s (k + 1))
theorem io_ge : ∀ {es : List En} {k i : Nat}, i ∈ ioFrom k es → k ≤ i
  | [], _, _, h => by simp [ioFrom] at h
  | .dat _ :: es, k, i, h => by
    have := io_ge (es := es) (k := k + 1) h
    omega
  | .own _ _ :: es, k, i, h => by
    rcases List.mem_cons.mp h with e | e
    · omega
    · have := io_ge (es := es) (k := k + 1) e
      omega
theorem io_nodup : ∀ {es : List En} {k : Nat}, (ioFrom k es).Nodup
  | [], _ => List.nodup_nil
  | .dat _ :: es, k => io_nodup (es := es) (k := k + 1)
  | .own _ _ :: es, k => by
    unfold ioFrom
    rw [List.nodup_cons]
    refine ⟨fun h => ?_, io_nodup⟩
    have := io_ge h
    omega
theorem args_slot : ∀ {vs : List V} {es : List En} {as : List Addr}, ArgsOk K F H vs es as → ∀ (k i : Nat) (e : En), es[i]? = some e → ∃ v, vs[i]? = some v ∧ (match e with
    | .dat d => Rep K F v d
    | .own io o => io = true ∧ ∃ a, v = .ref a ∧ F a = none ∧ OwOk K F H a o ∧ (k + i, a) ∈ (ioFrom k es).zip as)
  | _, _, _, .nil, k, i, e, h => by simp at h
  | _, _, _, .dat r s, k, 0, e, h => by simp at h; subst h; exact ⟨_, rfl, r⟩
  | _, _, _, .own r q s, k, 0, e, h => by
    simp at h; subst h
    exact ⟨_, rfl, rfl, _, rfl, r, q, by simp [ioFrom]⟩
  | _, _, _, .dat r s, k, i + 1, e, h => by
    obtain ⟨v, h1, h2⟩ := args_slot s (k + 1) i e (by simpa using h)
    refine ⟨v, by simpa using h1, ?_⟩
    cases e with
    | dat d => exact h2
    | own io o =>
      obtain ⟨g0, a, g1, g2, g3, g4⟩ := h2
      exact ⟨g0, a, g1, g2, g3, by rw [show k + (i + 1) = k + 1 + i by omega]; exact g4⟩
  | _, _, _, .own r q s, k, i + 1, e, h => by
    obtain ⟨v, h1, h2⟩ := args_slot s (k + 1) i e (by simpa using h)
    refine ⟨v, by simpa using h1, ?_⟩
    cases e with
    | dat d => exact h2
    | own io o =>
      obtain ⟨g0, a, g1, g2, g3, g4⟩ := h2
      refine ⟨g0, a, g1, g2, g3, ?_⟩
      rw [show k + (i + 1) = k + 1 + i by omega]
      exact List.mem_cons_of_mem _ g4
theorem zip_inj2 : ∀ {is : List Nat} {as : List Addr}, as.Nodup → ∀ {i j : Nat} {a : Addr}, (i, a) ∈ is.zip as → (j, a) ∈ is.zip as → i = j
  | [], _, _, _, _, _, h, _ => by simp at h
  | _ :: _, [], _, _, _, _, h, _ => by simp at h
  | x :: is, y :: as, hn, i, j, a, h, h' => by
    rw [List.nodup_cons] at hn
    rw [List.zip_cons_cons] at h h'
    rcases List.mem_cons.mp h with e | e
    · cases e
      rcases List.mem_cons.mp h' with e' | e'
      · cases e'; rfl
      · exact absurd (List.of_mem_zip e').2 hn.1
    · rcases List.mem_cons.mp h' with e' | e'
      · cases e'
        exact absurd (List.of_mem_zip e).2 hn.1
      · exact zip_inj2 hn.2 e e'
theorem zip_inj1 : ∀ {is : List Nat} {as : List Addr}, is.Nodup → ∀ {i : Nat} {a b : Addr}, (i, a) ∈ is.zip as → (i, b) ∈ is.zip as → a = b
  | [], _, _, _, _, _, h, _ => by simp at h
  | _ :: _, [], _, _, _, _, h, _ => by simp at h
  | x :: is, y :: as, hn, i, a, b, h, h' => by
    rw [List.nodup_cons] at hn
    rw [List.zip_cons_cons] at h h'
    rcases List.mem_cons.mp h with e | e
    · cases e
      rcases List.mem_cons.mp h' with e' | e'
      · cases e'; rfl
      · exact absurd (List.of_mem_zip e').1 hn.1
    · rcases List.mem_cons.mp h' with e' | e'
      · cases e'
        exact absurd (List.of_mem_zip e).1 hn.1
      · exact zip_inj1 hn.2 e e'
theorem start_hd {N : List Str} {vs : List V} {es : List En} {as : List Addr} (e : Ext F H) (ha : ArgsOk K F H vs es as) (nd : as.Nodup) :
    Hd K ⟨H, F, (ioFrom 0 es).zip as, []⟩ F (es.map some ++ List.replicate (N.length - es.length) none) (L2.start N vs) H where
  len := by unfold L2.start; simp [ha.length]
  sub := e
  f0 := Ext.refl F
  new := fun a o q => .inl q
  old := fun a o q => ⟨o, q, fun _ => rfl⟩
  slot := fun i en q => by
    have hi : i < es.length := by
      by_cases h : i < es.length
      · exact h
      · exfalso
        rw [List.getElem?_append_right (by rw [List.length_map]; omega), List.getElem?_replicate] at q
        split at q <;> simp at q
    rw [List.getElem?_append_left (by rw [List.length_map]; exact hi), List.getElem?_map] at q
    have q' : es[i]? = some en := by
      cases z : es[i]? with
      | none => rw [z] at q; simp at q
      | some w => rw [z] at q; simp at q; rw [q]
    obtain ⟨v, h1, h2⟩ := args_slot ha 0 i en q'
    refine ⟨v, ?_, ?_⟩
    · unfold L2.start
      rw [List.getElem?_append_left (by rw [List.length_map, ha.length]; exact hi), List.getElem?_map, h1]
      rfl
    · cases en with
      | dat d => exact h2
      | own io o =>
        obtain ⟨rfl, a, g1, g2, g3, g4⟩ := h2
        rw [Nat.zero_add] at g4
        exact ⟨a, g1, g2, g3, g4⟩
  sep := fun i j a b1 o1 b2 o2 q1 q2 q3 q4 => by
    have key : ∀ (i : Nat) (b : Bool) (o : Ow), (es.map some ++ List.replicate (N.length - es.length) none)[i]? = some (some (En.own b o)) → (L2.start N vs)[i]? = some (some (V.ref a)) → (i, a) ∈ (ioFrom 0 es).zip as := fun i b o q q' => by
      have hi : i < es.length := by
        by_cases h : i < es.length
        · exact h
        · exfalso
          rw [List.getElem?_append_right (by rw [List.length_map]; omega), List.getElem?_replicate] at q
          split at q <;> simp at q
      rw [List.getElem?_append_left (by rw [List.length_map]; exact hi), List.getElem?_map] at q
      have q2 : es[i]? = some (En.own b o) := by
        cases z : es[i]? with
        | none => rw [z] at q; simp at q
        | some w => rw [z] at q; simp at q; rw [q]
      obtain ⟨v, h1, rfl, a', g1, g2, g3, g4⟩ := args_slot ha 0 i _ q2
      unfold L2.start at q'
      rw [List.getElem?_append_left (by rw [List.length_map, ha.length]; exact hi), List.getElem?_map, h1, g1] at q'
      cases q'
      rw [Nat.zero_add] at g4
      exact g4
    exact zip_inj2 nd (key i _ _ q1 q3) (key j _ _ q2 q4)
  kept := fun a o q => by simp at q
theorem outs_ok {C : PC} {ρ : Rho} {σ : L2.St} (hd : Hd K C F ρ σ H) (inj : ∀ (i : Nat) (a b : Addr), (i, a) ∈ C.io → (i, b) ∈ C.io → a = b) : ∀ {is : List Nat} {as : List Addr} {os : List Ow}, is.length = as.length → (∀ (i : Nat) (a : Addr), (i, a) ∈ is.zip as → (i, a) ∈ C.io) → outs ρ is = some os → OutsOk K F H as os
  | [], [], os, _, _, h => by cases h; exact .nil
  | [], _ :: _, _, hl, _, _ => by simp at hl
  | _ :: _, [], _, hl, _, _ => by simp at hl
  | i :: is, a :: as, os, hl, hz, h => by
    unfold outs at h
    split at h
    · rename_i o os' q1 q2
      cases h
      obtain ⟨a', g1, g2, g3, g4⟩ := hd.ownAt q1
      have e := inj i a' a g4 (hz i a (by simp))
      subst e
      exact .cons ⟨g2, g3⟩ (outs_ok hd inj (by simpa using hl) (fun j b hb => hz j b (by rw [List.zip_cons_cons]; exact List.mem_cons_of_mem _ hb)) q2)
    · cases h
end
/-- what is to be reached at a def's end -/
def fin (es : List En) (P : Rs → List Ow → Prop) : Rs → Rho → Prop := fun r ρ => ∃ os, outs ρ (ioFrom 0 es) = some os ∧ P r os
def endsF (es : List En) (P : Rs → List Ow → Prop) : PEnds := { nx := fun ρ => fin es P (.dat .non) ρ, rt := fun r ρ => fin es P r ρ }
section
variable {P : Program} {w : World} {K : Fr} {mg : Str → Option Value} {base : Heap} {x qual : Str} {st : Stmt} {f : Addr} {fd : FuncData} {N ps : List Str} {k : Nat} {spec : FSpec}
theorem ends_ok {H F : Hp} {vs : List V} {es : List En} {as : List Addr} {P' : Rs → List Ow → Prop} {Q : VK} (e : Ext F H) (ha : ArgsOk K F H vs es as) (nd : as.Nodup)
    (hq : ∀ r os v F' H', P' r os → Ext F F' → Ext F' H' → (∀ a o, F' a = some o → F a = some o ∨ H a = none) → (∀ a o, H a = some o → ∃ o', H' a = some o' ∧ (a ∉ as → o' = o)) → OutsOk K F' H' as os → RtOk K F' H' H v r → Q v H') :
    EndsOk K ⟨H, F, (ioFrom 0 es).zip as, []⟩ (endsF es P') { nx := fun _ H' => Q .non H', rt := Q } := by
  have main : ∀ r ρ F' σ' H' v, fin es P' r ρ → Hd K ⟨H, F, (ioFrom 0 es).zip as, []⟩ F' ρ σ' H' → RsOk K ⟨H, F, (ioFrom 0 es).zip as, []⟩ F' ρ σ' H' v r → Q v H' := fun r ρ F' σ' H' v hf hd hr => by
    obtain ⟨os, h1, h2⟩ := hf
    refine hq r os v F' H' h2 hd.f0 hd.sub hd.new (fun a o q => ?_) (outs_ok hd (fun i a b h h' => zip_inj1 io_nodup h h') (io_len ha 0) (fun i a h => h) h1) ?_
    · obtain ⟨o', g1, g2⟩ := hd.old a o q
      exact ⟨o', g1, fun hn => g2 fun i hm => hn (List.of_mem_zip hm).2⟩
    · cases r with
      | dat d => exact hr
      | own o =>
        obtain ⟨a, rfl, f1, f2, f3, _⟩ := hr
        exact ⟨a, rfl, f1, f3, f2⟩
  exact ⟨fun ρ F' σ' H' h hd => main (.dat .non) ρ F' σ' H' .non h hd .non, fun r ρ F' σ' H' v h hd hr => main r ρ F' σ' H' v h hd hr, fun _ _ _ _ h => h.elim, fun _ _ _ _ h => h.elim⟩
/-- THE RULE for a def that raises nothing -/
theorem okP (F : Fun K x qual st f fd) (S : FnScope N ps (defScope st))
    (body : ∀ (cdv : Value) (A : Around) (outer : List PySem.Env) (s : Shared) (H : Hp) (E : XK), Room k (A.deeper (PyProof.Rows.envOfC qual (defScope st) s.heap.objs.size f cdv)) →
      ∃ ts t, PSts (cxOf CX0 P w K mg base N qual (defScope st) f cdv A outer s H E).nox Wx.none (defBody st) ts t ∧
        ∀ es P' Ex ρ0, es.length = ps.length → spec es P' Ex → es.map some ++ List.replicate (N.length - es.length) none = ρ0 → t (endsF es P') ρ0) : FnOk P w K mg base CX0 (k + 1) f fd ps (spF K ps.length spec) := by
  refine F.ok S (fun vs H Q E h => ?_) (fun cdv A outer s H vs Q E hr h => ?_)
  · obtain ⟨F, es, as, P', Ex, h1, h2, h3, _⟩ := h
    rw [h3.length, h1]
  · obtain ⟨F0, es, as, P', Ex, h1, h2, h3, h4, h5, h6, _⟩ := h
    obtain ⟨ts, t, ht, hb⟩ := body cdv A outer s H E hr
    refine ⟨ts, ht.pss, ?_⟩
    have hd := start_hd (N := N) h2 h3 h4
    refine ht.sim _ (fun c dd fs xs F H hx => hx.elim) _ _ (hb es P' Ex _ h1 h5 rfl) F0 _ H hd _ (ends_ok h2 h3 h4 h6)
end
end Wk
namespace Wk
open PySem L2
section
variable {X : Cx} {W : Wx} {a b c : Expr} {e : Expr} {es : List Expr} {ta tb tc te : TE} {pa pb pc pe : PTE} {va vb : PTV} {pos : Pos} {tr : TA} {pr : PTA}
/-! ### comparisons, as values and as tests -/
structure PCm (X : Cx) (W : Wx) (op : CmpOp) (a b : Expr) (te : TE) (t : PTE) : Prop where
  pc : L2.PC X op a b te
  sim : SimE X.K W te t
theorem pc_of {op : CmpOp} {r : R2} (ho : OpR X (compareOp op) r) (ha : PE X a ta) (hb : PE X b tb) : L2.PC X op a b (tOp r ta tb) := ⟨fun pins s σ H Q I h => by
  refine thn (ha.run pins s σ H _ I h) fun v s1 ⟨x, H1, I1, r1, q1⟩ => ?_
  refine thn (hb.run pins s1 σ H1 _ I1 q1) fun u s2 ⟨y, H2, I2, r2, q2⟩ => ?_
  exact ho pins s2 σ H2 x y v u Q I2 r1 r2 q2⟩
theorem PCm.pd {op : CmpOp} {t : PTE} (h : PCm X W op a b te t) (hm : behindInMarks op b = false := by first | exact nomark _ | rfl) : PD X W (.Compare a [op] [b] pos) te t := ⟨pe_cmp h.pc hm, h.sim⟩
theorem PCm.pdt {op : CmpOp} {t : PTE} (h : PCm X W op a b te t) (hm : behindInMarks op b = false := by first | exact nomark _ | rfl) : PDT X W (.Compare a [op] [b] pos) (tB te) (pTst t) := ⟨pt_cmp h.pc hm, simTst h.sim⟩
def pI2 (g : Int → Int → Bool) (pa pb : PTE) : PTE := pOp (fI0 fun i j => .bl (g i j)) pa pb
theorem c_lt (ha : PD X W a ta pa) (hb : PD X W b tb pb) : PCm X W .Lt a b (tOp (rI0 fun i j => .bl (decide (i < j))) ta tb) (pI2 (fun i j => decide (i < j)) pa pb) := ⟨pc_of op_lt ha.pe hb.pe, simOp (simI0 fun _ _ _ => .bl _) ha.sim hb.sim⟩
theorem c_le (ha : PD X W a ta pa) (hb : PD X W b tb pb) : PCm X W .LtE a b (tOp (rI0 fun i j => .bl (decide (i ≤ j))) ta tb) (pI2 (fun i j => decide (i ≤ j)) pa pb) := ⟨pc_of op_le ha.pe hb.pe, simOp (simI0 fun _ _ _ => .bl _) ha.sim hb.sim⟩
theorem c_gt (ha : PD X W a ta pa) (hb : PD X W b tb pb) : PCm X W .Gt a b (tOp (rI0 fun i j => .bl (decide (j < i))) ta tb) (pI2 (fun i j => decide (j < i)) pa pb) := ⟨pc_of op_gt ha.pe hb.pe, simOp (simI0 fun _ _ _ => .bl _) ha.sim hb.sim⟩
theorem c_ge (ha : PD X W a ta pa) (hb : PD X W b tb pb) : PCm X W .GtE a b (tOp (rI0 fun i j => .bl (decide (j ≤ i))) ta tb) (pI2 (fun i j => decide (j ≤ i)) pa pb) := ⟨pc_of op_ge ha.pe hb.pe, simOp (simI0 fun _ _ _ => .bl _) ha.sim hb.sim⟩
theorem opS_eqI {K : Fr} : OpSim K rEq (fI0 fun i j => .bl (decide (i = j))) := fun F H x y d e P Q _ rx ry ⟨i, j, e1, e2, hp⟩ q => by
  subst e1; subst e2
  cases rx; cases ry
  refine ⟨rfl, q _ _ hp ?_⟩
  rw [show decide (V.int i = V.int j) = decide (i = j) from by simp]
  exact .bl _
theorem opS_neI {K : Fr} : OpSim K rNe (fI0 fun i j => .bl (!decide (i = j))) := fun F H x y d e P Q _ rx ry ⟨i, j, e1, e2, hp⟩ q => by
  subst e1; subst e2
  cases rx; cases ry
  refine ⟨rfl, q _ _ hp ?_⟩
  rw [show decide (V.int i = V.int j) = decide (i = j) from by simp]
  exact .bl _
theorem c_eqI (ha : PD X W a ta pa) (hb : PD X W b tb pb) : PCm X W .Eq a b (tOp rEq ta tb) (pI2 (fun i j => decide (i = j)) pa pb) := ⟨pc_of op_eq ha.pe hb.pe, simOp opS_eqI ha.sim hb.sim⟩
theorem c_neI (ha : PD X W a ta pa) (hb : PD X W b tb pb) : PCm X W .NotEq a b (tOp rNe ta tb) (pI2 (fun i j => !decide (i = j)) pa pb) := ⟨pc_of op_ne ha.pe hb.pe, simOp opS_neI ha.sim hb.sim⟩
theorem opS_is {K : Fr} : OpSim K (fun x y H Q => y = .non ∧ Q (.bl (decide (x = .non))) H) fIs := fun F H x y d e P Q _ rx ry ⟨e1, hp⟩ q => by
  subst e1
  cases ry
  exact ⟨rfl, q _ _ hp (by rw [rx.isN]; exact .bl _)⟩
theorem opS_isnot {K : Fr} : OpSim K (fun x y H Q => y = .non ∧ Q (.bl (!decide (x = .non))) H) fIsNot := fun F H x y d e P Q _ rx ry ⟨e1, hp⟩ q => by
  subst e1
  cases ry
  exact ⟨rfl, q _ _ hp (by rw [rx.isN]; exact .bl _)⟩
theorem c_is (ha : PD X W a ta pa) (hb : PD X W b tb pb) : PCm X W .Is a b (tOp (fun x y H Q => y = .non ∧ Q (.bl (decide (x = .non))) H) ta tb) (pOp fIs pa pb) := ⟨pc_of op_isN ha.pe hb.pe, simOp opS_is ha.sim hb.sim⟩
theorem c_isnot (ha : PD X W a ta pa) (hb : PD X W b tb pb) : PCm X W .IsNot a b (tOp (fun x y H Q => y = .non ∧ Q (.bl (!decide (x = .non))) H) ta tb) (pOp fIsNot pa pb) := ⟨pc_of op_notN ha.pe hb.pe, simOp opS_isnot ha.sim hb.sim⟩
theorem c_eq (hu : X.A.units + 64 < cLine) (ha : PV X W a ta va) (hb : PV X W b tb vb) : PCm X W .Eq a b (tOp (rEqD X.K) ta tb) (pEq false va vb) := ⟨pc_of (op_eqD hu) ha.pe hb.pe, (pd_eq (pos := ⟨0, 0, 0, 0⟩) hu ha hb).sim⟩
theorem c_ne (hu : X.A.units + 64 < cLine) (ha : PV X W a ta va) (hb : PV X W b tb vb) : PCm X W .NotEq a b (tOp (rNeD X.K) ta tb) (pEq true va vb) := ⟨pc_of (op_neD hu) ha.pe hb.pe, (pd_ne (pos := ⟨0, 0, 0, 0⟩) hu ha hb).sim⟩
theorem c_in (ha : PD X W a ta pa) (hb : PV X W b tb vb) : PCm X W .In a b (tOp (rIn X.K false) ta tb) (pInI false pa vb) := ⟨pc_of op_in_seq ha.pe hb.pe, simInI ha.sim hb.sim⟩
theorem c_notin (ha : PD X W a ta pa) (hb : PV X W b tb vb) : PCm X W .NotIn a b (tOp (rIn X.K true) ta tb) (pInI true pa vb) := ⟨pc_of op_notIn_seq ha.pe hb.pe, simInI ha.sim hb.sim⟩
theorem simDIn {K : Fr} (ha : SimE K W ta pa) (hb : SimV K W tb vb) : SimE K W (tDIn ta tb) (pDIn false pa vb) := fun C ok ρ P h F σ H hd Q q =>
  ha C ok ρ _ h F σ H hd _ fun y ρ1 x F1 H1 h1 e1 hd1 r1 => hb C ok ρ1 _ h1 F1 σ H1 hd1 _ fun w ρ2 v F2 H2 h2 e2 hd2 r2 => by
    obtain ⟨kvs, k, hl, hk, hp⟩ := h2
    obtain ⟨p, vs, rfl, g1, g2⟩ := hd2.view r2 hl
    obtain ⟨b', rfl, hb'⟩ := keyOf_rep (r1.mono e2) hk
    exact ⟨p, _, rfl, DGet.t g1 (hd2.sub _ _ hb'), q _ ρ2 _ F2 H2 hp (e1.trans e2) hd2 (by rw [dget_some g2]; exact .bl _)⟩
theorem simDNotIn {K : Fr} (ha : SimE K W ta pa) (hb : SimV K W tb vb) : SimE K W (tDNotIn ta tb) (pDIn true pa vb) := fun C ok ρ P h F σ H hd Q q =>
  ha C ok ρ _ h F σ H hd _ fun y ρ1 x F1 H1 h1 e1 hd1 r1 => hb C ok ρ1 _ h1 F1 σ H1 hd1 _ fun w ρ2 v F2 H2 h2 e2 hd2 r2 => by
    obtain ⟨kvs, k, hl, hk, hp⟩ := h2
    obtain ⟨p, vs, rfl, g1, g2⟩ := hd2.view r2 hl
    obtain ⟨b', rfl, hb'⟩ := keyOf_rep (r1.mono e2) hk
    exact ⟨p, _, rfl, DGet.t g1 (hd2.sub _ _ hb'), q _ ρ2 _ F2 H2 hp (e1.trans e2) hd2 (by rw [dget_some g2]; exact .bl _)⟩
theorem c_din (hu : X.A.units + 1 < cLine) (ha : PD X W a ta pa) (hb : PV X W b tb vb) : PCm X W .In a b (tDIn ta tb) (pDIn false pa vb) := ⟨pc_din hu ha.pe hb.pe, simDIn ha.sim hb.sim⟩
theorem c_dnotin (hu : X.A.units + 1 < cLine) (ha : PD X W a ta pa) (hb : PV X W b tb vb) : PCm X W .NotIn a b (tDNotIn ta tb) (pDIn true pa vb) := ⟨pc_dnotin hu ha.pe hb.pe, simDNotIn ha.sim hb.sim⟩
/-- a op b op' c as a test -/
theorem pdt_chain {op op' : CmpOp} {f g : Int → Int → Bool} (ho : OpR X (compareOp op) (rI0 fun i j => .bl (f i j))) (ho' : OpR X (compareOp op') (rI0 fun i j => .bl (g i j))) (ha : PD X W a ta pa) (hb : PD X W b tb pb) (hc : PD X W c tc pc)
    (hm : lastMarks [op, op'] [b, c] = false := by with_unfolding_all rfl) : PDT X W (.Compare a [op, op'] [b, c] pos) (tTest (tChain (rI0 fun i j => .bl (f i j)) (rI0 fun i j => .bl (g i j)) ta tb tc)) (pTst (pChain f g pa pb pc)) := ⟨pt_chain ho ho' ha.pe hb.pe hc.pe hm, simTst (Wk.pd_chain (pos := pos) ho ho' ha hb hc hm).sim⟩
/-- d[k] = e -/
theorem ps_setKey (i : Nat) {x : Str} {p1 p2 : Pos} (hu : X.A.units + 1 < cLine) (he : PD X W e te pe) (hk : PD X W b tb pb) (hN : X.N[i]? = some x := by rfl) (hv : Vis X.env.scope x := by first | exact Or.inl rfl | exact Or.inr (Or.inl rfl) | exact Or.inr (Or.inr rfl)) (hdd : (x == ("__debug__" : Str)) = false := by decide)
    (hcd : (x == ("__classdict__" : Str)) = false := by decide) (hs : swapsWith e (some (.Subscript (.Name x p1) b p2)) pos.line X.env = pure false := by rfl) :
    PSt X W (.Assign [.Subscript (.Name x p1) b p2] e pos) (sDPut (tVar i) tb te) (pSetK i pe pb) := ps_setK' (ts := tDrop te) i hu he hk hN hv hdd hcd hs (ps_dput hu (pe_var hN hv hdd hcd) hk.pe he.pe hs)
end
/-! ### a def of the text, called -/
/-- the def stands at the module's top -/
structure Df (K : Fr) (mg : Str → Option Value) (x : Str) (st : Stmt) : Prop where
  ex : ∃ f fd, Fun K x x st f fd ∧ mg x = some (.ref f)
/-- the def of this name keeps the promise -/
structure Cal (P : Program) (w : World) (K : Fr) (mg : Str → Option Value) (base : Heap) (k : Nat) (x : Str) (n : Nat) (spec : FSpec) : Prop where
  ex : ∃ f fd ps, FnOk P w K mg base CX0 k f fd ps (spF K n spec) ∧ mg x = some (.ref f) ∧ PySem.W.keepIn K (.ref f) = true ∧ Binds K fd ps []
section
variable {P : Program} {w : World} {K : Fr} {mg : Str → Option Value} {base : Heap} {x : Str} {st : Stmt} {N ps : List Str} {k : Nat} {spec : FSpec}
/-- how arguments come to a def's parameters -/
def BindOk (x : Str) (st : Stmt) (ps : List Str) : Prop := ∀ (kV doc pm : Value) (an : Option Addr) (cdv ct : Value) (us : List Value), us.length = ps.length → bindArgs (PySem.W.fnOf x x (defArgs st) (defBody st) (defScope st) .none kV doc pm an cdv ct) ⟨us, []⟩ = pure (ps.zip us)
theorem cal_of (D : Df K mg x st) (S : FnScope N ps (defScope st)) (hb : BindOk x st ps)
    (body : ∀ (f : Addr) (cdv : Value) (A : Around) (outer : List PySem.Env) (s : Shared) (H : Hp) (E : XK), Room k (A.deeper (PyProof.Rows.envOfC x (defScope st) s.heap.objs.size f cdv)) →
      ∃ ts t, PSts (cxOf CX0 P w K mg base N x (defScope st) f cdv A outer s H E).nox Wx.none (defBody st) ts t ∧
        ∀ es P' Ex ρ0, es.length = ps.length → spec es P' Ex → es.map some ++ List.replicate (N.length - es.length) none = ρ0 → t (endsF es P') ρ0) : Cal P w K mg base (k + 1) x ps.length spec := by
  obtain ⟨f, fd, F, hm⟩ := D.ex
  exact ⟨f, fd, ps, okP F S (fun cdv A outer s H E hr => body f cdv A outer s H E hr), hm, F.kp, F.binds hb⟩
end
section
variable {X : Cx} {W : Wx} {e : Expr} {es : List Expr} {pos : Pos} {tr : TA} {pr : PTA} {k n : Nat} {spec : FSpec} {x : Str} {p : Pos}
theorem pd_cal (c : Cal X.prog X.w X.K X.mg X.base k x n spec) (hr : Room k X.A) (ha : PAr X W (e :: es) tr pr)
    (hg : Gl X x := by rfl) (hdb : (x == ("__debug__" : Str)) = false := by decide) (he : starEach (e :: es) X.env = (false, eval e X.env) :: starEach es X.env := by rfl) (hpl : (backTo pos (starEach es X.env)).any (·.1) = false := by rfl) :
    PD X W (.Call (.Name x p) (e :: es) [] pos) (tCall (spF X.K n spec) [] E0 tr) (pCallD n spec exNo pr) := by
  obtain ⟨f, fd, ps, G, hm, hk, hb⟩ := c.ex
  exact pd_call G hr hm hk hb ha hg hdb he hpl
theorem pf_cal (c : Cal X.prog X.w X.K X.mg X.base k x n spec) (hr : Room k X.A) (ha : PAr X W (e :: es) tr pr)
    (hg : Gl X x := by rfl) (hdb : (x == ("__debug__" : Str)) = false := by decide) (he : starEach (e :: es) X.env = (false, eval e X.env) :: starEach es X.env := by rfl) (hpl : (backTo pos (starEach es X.env)).any (·.1) = false := by rfl) :
    PF X W (.Call (.Name x p) (e :: es) [] pos) (tCall (spF X.K n spec) [] E0 tr) (pCallF n spec exNo pr) := by
  obtain ⟨f, fd, ps, G, hm, hk, hb⟩ := c.ex
  exact pf_call G hr hm hk hb ha hg hdb he hpl
end
/-- the built-in names that the text leaves alone -/
structure Bi (mg : Str → Option Value) : Prop where
  len : mg "len" = none
  range : mg "range" = none
  tuple : mg "tuple" = none
  list : mg "list" = none
  int : mg "int" = none
  bool : mg "bool" = none
  sum : mg "sum" = none
  min : mg "min" = none
  max : mg "max" = none
  abs : mg "abs" = none
  isinstance : mg "isinstance" = none
  ValueError : mg "ValueError" = none
end Wk
namespace Wk
open PySem L2
theorem okn_int (n : Nat) (i : Int) : okn n (.int i) = true := by cases n <;> rfl
theorem okn_bl (n : Nat) (i : Bool) : okn n (.bl i) = true := by cases n <;> rfl
theorem okn_non (n : Nat) : okn n .non = true := by cases n <;> rfl
theorem okn_tup (n : Nat) (xs : List Dt) : okn (n + 1) (.tup xs) = xs.all (okn n) := rfl
theorem okn_lst (n : Nat) (xs : List Dt) : okn (n + 1) (.lst xs) = xs.all (okn n) := rfl
theorem eqbn_int (n : Nat) (i j : Int) : eqbn n (.int i) (.int j) = decide (i = j) := by cases n <;> rfl
theorem eqbn_bl (n : Nat) (i j : Bool) : eqbn n (.bl i) (.bl j) = (i == j) := by cases n <;> rfl
theorem eqbn_tup (n : Nat) (xs ys : List Dt) : eqbn (n + 1) (.tup xs) (.tup ys) = eqls (eqbn n) xs ys := rfl
theorem eqbn_lst (n : Nat) (xs ys : List Dt) : eqbn (n + 1) (.lst xs) (.lst ys) = eqls (eqbn n) xs ys := rfl
theorem atI_nn {α : Type} {xs : List α} {i : Int} {z : α} (h0 : 0 ≤ i) (h : xs[i.toNat]? = some z) : atI xs i = some z := by
  have : i = (i.toNat : Int) := by omega
  rw [this]
  exact atI_nat h
theorem ixN_nn {n : Nat} {i : Int} (h0 : 0 ≤ i) (h : i < n) : ixN n i = some i.toNat := by
  unfold ixN
  rw [if_pos h0, if_pos h]
/-- a promise in plain words: the arguments, what is asked of them, what comes back, what the lent things hold then -/
structure FS where
  A : Type
  ar : A → List En
  pre : A → Prop
  rs : A → Rs
  ou : A → List Ow
def FS.sp (s : FS) : FSpec := fun es P _ => ∃ a, es = s.ar a ∧ s.pre a ∧ P (s.rs a) (s.ou a)
/-! ### the plain readings, one step at a time -/
section
variable {ρ : Rho} {i j : Nat} {d : Dt} {P : Dt → Rho → Prop} {PB : Bool → Rho → Prop} {PO : Ow → Rho → Prop} {PV : Vw → Rho → Prop} {PL : List Vw → Rho → Prop} {PI : Option Int → Rho → Prop} {pa pb pc te tk : PTE} {va vb : PTV} {pt pu : PTT} {tr : PTA} {tf : PTF}
theorem e_var (h : ρ[i]? = some (some (.dat d))) (q : P d ρ) : pVar i ρ P := by unfold pVar; rw [h]; exact q
theorem e_varO {o : Ow} (h : ρ[i]? = some (some (.own false o))) (q : P o.dt (ρ.set i (some (.dat o.dt)))) : pVar i ρ P := by unfold pVar; rw [h]; exact q
theorem e_varL {xs : List Dt} {ρ' : Rho} (h : ρ[i]? = some (some (.own false (.lst xs)))) (e : ρ.set i (some (.dat (.lst xs))) = ρ') (q : P (.lst xs) ρ') : pVar i ρ P := by subst e; exact e_varO h q
theorem e_varT {xs : List (List Key × Dt)} {ρ' : Rho} (h : ρ[i]? = some (some (.own false (.dT xs)))) (e : ρ.set i (some (.dat (.dT xs))) = ρ') (q : P (.dT xs) ρ') : pVar i ρ P := by subst e; exact e_varO h q
theorem e_c (q : P d ρ) : pC d ρ P := q
def toO (P : Dt → Rho → Prop) (o : Ow) (ρ : Rho) : Prop := P o.dt ρ
theorem e_toL {xs : List Dt} (q : P (.lst xs) ρ) : toO P (.lst xs) ρ := q
theorem e_toT {xs : List (List Key × Dt)} (q : P (.dT xs) ρ) : toO P (.dT xs) ρ := q
theorem e_frz (q : tf ρ (toO P)) : pFrz tf ρ P := q
theorem e_vn {e : En} (h : ρ[i]? = some (some e)) (q : PV (.slot i) ρ) : pvN i ρ PV := by unfold pvN; rw [h]; exact q
theorem e_vd (q : pa ρ fun d ρ1 => PV (.dat d) ρ1) : pvD pa ρ PV := q
theorem e_op {f : Op2} (q : pa ρ fun d ρ1 => pb ρ1 fun e ρ2 => f d e fun z => P z ρ2) : pOp f pa pb ρ P := q
theorem e_I2 {g : Int → Int → Bool} (q : pa ρ fun d ρ1 => pb ρ1 fun e ρ2 => fI0 (fun i j => .bl (g i j)) d e fun z => P z ρ2) : pI2 g pa pb ρ P := q
variable {Q : Dt → Prop}
theorem e_fI0 {g : Int → Int → Dt} {x y : Int} (q : Q (g x y)) : fI0 g (.int x) (.int y) Q := ⟨x, y, rfl, rfl, q⟩
theorem e_fI {C : Int → Int → Prop} {g : Int → Int → Dt} {x y : Int} (h : C x y) (q : Q (g x y)) : fI C g (.int x) (.int y) Q := ⟨x, y, rfl, rfl, h, q⟩
theorem e_mul {g : Int → Int → Dt} {x y : Int} (h : (-(2 ^ 64) < x ∧ x < 2 ^ 64) ∨ (-(2 ^ 64) < y ∧ y < 2 ^ 64)) (q : Q (g x y)) : fI CMul g (.int x) (.int y) Q := ⟨x, y, rfl, rfl, h, q⟩
theorem e_mulR {g : Int → Int → Dt} {x y : Int} (h1 : -(18446744073709551616) < y) (h2 : y < 18446744073709551616) (q : Q (g x y)) : fI CMul g (.int x) (.int y) Q := ⟨x, y, rfl, rfl, .inr ⟨h1, h2⟩, q⟩
theorem e_mulL {g : Int → Int → Dt} {x y : Int} (h1 : -(18446744073709551616) < x) (h2 : x < 18446744073709551616) (q : Q (g x y)) : fI CMul g (.int x) (.int y) Q := ⟨x, y, rfl, rfl, .inl ⟨h1, h2⟩, q⟩
theorem e_div {g : Int → Int → Dt} {x y : Int} (h1 : 0 < y) (h2 : y < 1073741824) (q : Q (g x y)) : fI CDiv g (.int x) (.int y) Q := ⟨x, y, rfl, rfl, ⟨h1, h2⟩, q⟩
theorem e_mod {g : Int → Int → Dt} {x y : Int} (h1 : 0 < y) (q : Q (g x y)) : fI (fun _ j => 0 < j) g (.int x) (.int y) Q := ⟨x, y, rfl, rfl, h1, q⟩
theorem e_pow {g : Int → Int → Dt} {x y : Int} (h1 : CPow x y) (q : Q (g x y)) : fI CPow g (.int x) (.int y) Q := ⟨x, y, rfl, rfl, h1, q⟩
theorem e_is (q : Q (.bl (isN d))) : fIs d .non Q := ⟨rfl, q⟩
theorem e_isnot (q : Q (.bl (!isN d))) : fIsNot d .non Q := ⟨rfl, q⟩
def kNeg (d : Dt) (ρ : Rho) (P : Dt → Rho → Prop) : Prop := ∃ i, d = .int i ∧ P (.int (-i)) ρ
theorem e_neg (q : pa ρ fun d ρ1 => kNeg d ρ1 P) : pNeg pa ρ P := q
theorem e_kneg {x : Int} (q : P (.int (-x)) ρ) : kNeg (.int x) ρ P := ⟨x, rfl, q⟩
def kTst (d : Dt) (ρ : Rho) (P : Bool → Rho → Prop) : Prop := ∃ b, d = .bl b ∧ P b ρ
theorem e_tst (q : pa ρ fun d ρ1 => kTst d ρ1 PB) : pTst pa ρ PB := q
theorem e_ktst {b : Bool} (q : PB b ρ) : kTst (.bl b) ρ PB := ⟨b, rfl, q⟩
theorem e_and (q : pt ρ fun b ρ1 => if b = true then pu ρ1 PB else PB false ρ1) : pAnd pt pu ρ PB := q
theorem e_or (q : pt ρ fun b ρ1 => if b = true then PB true ρ1 else pu ρ1 PB) : pOr pt pu ρ PB := q
theorem e_not (q : pt ρ fun b ρ1 => PB (!b) ρ1) : pNot pt ρ PB := q
def kAndV (d : Dt) (pb : PTE) (ρ : Rho) (P : Dt → Rho → Prop) : Prop := ∃ b, d = .bl b ∧ if b = true then pb ρ P else P (.bl false) ρ
def kOrV (d : Dt) (pb : PTE) (ρ : Rho) (P : Dt → Rho → Prop) : Prop := ∃ b, d = .bl b ∧ if b = true then P (.bl true) ρ else pb ρ P
def kNotV (d : Dt) (ρ : Rho) (P : Dt → Rho → Prop) : Prop := ∃ b, d = .bl b ∧ P (.bl (!b)) ρ
theorem e_andV (q : pa ρ fun d ρ1 => kAndV d pb ρ1 P) : pAndV pa pb ρ P := q
theorem e_orV (q : pa ρ fun d ρ1 => kOrV d pb ρ1 P) : pOrV pa pb ρ P := q
theorem e_notV (q : pa ρ fun d ρ1 => kNotV d ρ1 P) : pNotV pa ρ P := q
theorem e_kandV {b : Bool} (q : if b = true then pb ρ P else P (.bl false) ρ) : kAndV (.bl b) pb ρ P := ⟨b, rfl, q⟩
theorem e_korV {b : Bool} (q : if b = true then P (.bl true) ρ else pb ρ P) : kOrV (.bl b) pb ρ P := ⟨b, rfl, q⟩
theorem e_knotV {b : Bool} (q : P (.bl (!b)) ρ) : kNotV (.bl b) ρ P := ⟨b, rfl, q⟩
theorem e_ifE (q : pt ρ fun b ρ1 => if b = true then pa ρ1 P else pb ρ1 P) : pIfE pt pa pb ρ P := q
theorem e_anil (q : PL [] ρ) : pANil ρ PL := q
theorem e_acons (q : te ρ fun d ρ1 => tr ρ1 fun ws ρ2 => PL (.dat d :: ws) ρ2) : pACons te tr ρ PL := q
theorem e_alend (q : va ρ fun w ρ1 => tr ρ1 fun ws ρ2 => PL (w :: ws) ρ2) : pALend va tr ρ PL := q
def kTup (ws : List Vw) (ρ : Rho) (P : Dt → Rho → Prop) : Prop := ∃ ds, dats ws = some ds ∧ ds.length ≤ 1000 ∧ P (.tup ds) ρ
theorem e_tup (q : tr ρ fun ws ρ1 => kTup ws ρ1 P) : pTup tr ρ P := q
theorem e_ktup {ws : List Vw} {ds : List Dt} (h : dats ws = some ds) (hl : Nat.ble ds.length 1000 = true) (q : P (.tup ds) ρ) : kTup ws ρ P := ⟨ds, h, Nat.le_of_ble_eq_true hl, q⟩
def kLst (ws : List Vw) (ρ : Rho) (P : Ow → Rho → Prop) : Prop := ∃ ds, dats ws = some ds ∧ ds.length ≤ 1000 ∧ P (.lst ds) ρ
theorem e_lst (q : tr ρ fun ws ρ1 => kLst ws ρ1 PO) : pLst tr ρ PO := q
theorem e_klst {ws : List Vw} {ds : List Dt} (h : dats ws = some ds) (hl : Nat.ble ds.length 1000 = true) (q : PO (.lst ds) ρ) : kLst ws ρ PO := ⟨ds, h, Nat.le_of_ble_eq_true hl, q⟩
def kIx (w : Vw) (k : Dt) (ρ : Rho) (P : Dt → Rho → Prop) : Prop := ∃ d xs i z, look ρ w = some d ∧ seqOf d = some xs ∧ k = .int i ∧ atI xs i = some z ∧ P z ρ
theorem e_ix (q : va ρ fun w ρ1 => pb ρ1 fun k ρ2 => kIx w k ρ2 P) : pIx va pb ρ P := q
theorem e_kix {w : Vw} {xs : List Dt} {x : Int} {z : Dt} (h1 : look ρ w = some d) (h2 : seqOf d = some xs) (h3 : atI xs x = some z) (q : P z ρ) : kIx w (.int x) ρ P := ⟨d, xs, x, z, h1, h2, rfl, h3, q⟩
theorem e_nopart (q : PI Option.none ρ) : pNoPart ρ PI := q
def kPart (d : Dt) (ρ : Rho) (P : Option Int → Rho → Prop) : Prop := ∃ i, d = .int i ∧ P (some i) ρ
theorem e_part (q : pa ρ fun d ρ1 => kPart d ρ1 PI) : pPart pa ρ PI := q
theorem e_kpart {x : Int} (q : PI (some x) ρ) : kPart (.int x) ρ PI := ⟨x, rfl, q⟩
variable {pl ph : PTO}
def kSlT (w : Vw) (l u : Option Int) (ρ : Rho) (P : Dt → Rho → Prop) : Prop := ∃ xs, look ρ w = some (.tup xs) ∧ P (.tup (cut xs l u)) ρ
theorem e_slT (q : va ρ fun w ρ1 => pl ρ1 fun l ρ2 => ph ρ2 fun u ρ3 => kSlT w l u ρ3 P) : pSlT va pl ph ρ P := q
theorem e_kslT {w : Vw} {l u : Option Int} {xs : List Dt} (h : look ρ w = some (.tup xs)) (q : P (.tup (cut xs l u)) ρ) : kSlT w l u ρ P := ⟨xs, h, q⟩
def kSlL (w : Vw) (l u : Option Int) (ρ : Rho) (P : Ow → Rho → Prop) : Prop := ∃ d xs, look ρ w = some d ∧ d ≠ .tup xs ∧ seqOf d = some xs ∧ P (.lst (cut xs l u)) ρ
theorem e_slL (q : va ρ fun w ρ1 => pl ρ1 fun l ρ2 => ph ρ2 fun u ρ3 => kSlL w l u ρ3 PO) : pSlL va pl ph ρ PO := q
theorem e_kslL {w : Vw} {l u : Option Int} {xs : List Dt} (h : look ρ w = some (.lst xs)) (q : PO (.lst (cut xs l u)) ρ) : kSlL w l u ρ PO := ⟨.lst xs, xs, h, (by intro e; cases e), rfl, q⟩
theorem e_kslS {w : Vw} {l u : Option Int} {ns : List Int} (h : look ρ w = some (.scr ns)) (q : PO (.lst (cut (ns.map Dt.int) l u)) ρ) : kSlL w l u ρ PO := ⟨.scr ns, _, h, (by intro e; cases e), rfl, q⟩
def kLen (w : Vw) (ρ : Rho) (P : Dt → Rho → Prop) : Prop := ∃ d xs, look ρ w = some d ∧ seqOf d = some xs ∧ P (.int xs.length) ρ
theorem e_len (q : va ρ fun w ρ1 => kLen w ρ1 P) : pLen va ρ P := q
theorem e_klen {w : Vw} {xs : List Dt} (h1 : look ρ w = some d) (h2 : seqOf d = some xs) (q : P (.int xs.length) ρ) : kLen w ρ P := ⟨d, xs, h1, h2, q⟩
def kSum (w : Vw) (ρ : Rho) (P : Dt → Rho → Prop) : Prop := ∃ ns : List Int, look ρ w = some (.lst (ns.map Dt.int)) ∧ P (.int ns.sum) ρ
theorem e_sum (q : va ρ fun w ρ1 => kSum w ρ1 P) : pSum va ρ P := q
theorem e_ksum {w : Vw} {ns : List Int} (h1 : look ρ w = some (.lst (ns.map Dt.int))) (q : P (.int ns.sum) ρ) : kSum w ρ P := ⟨ns, h1, q⟩
def kMin (w : Vw) (ρ : Rho) (P : Dt → Rho → Prop) : Prop := ∃ ns : List Int, look ρ w = some (.lst (ns.map Dt.int)) ∧ ns ≠ [] ∧ P (.int (lmin ns)) ρ
theorem e_min (q : va ρ fun w ρ1 => kMin w ρ1 P) : pMin va ρ P := q
theorem e_kmin {w : Vw} {ns : List Int} (h1 : look ρ w = some (.lst (ns.map Dt.int))) (h2 : ns ≠ []) (q : P (.int (lmin ns)) ρ) : kMin w ρ P := ⟨ns, h1, h2, q⟩
def kMax (w : Vw) (ρ : Rho) (P : Dt → Rho → Prop) : Prop := ∃ ns : List Int, look ρ w = some (.lst (ns.map Dt.int)) ∧ ns ≠ [] ∧ P (.int (lmax ns)) ρ
theorem e_max (q : va ρ fun w ρ1 => kMax w ρ1 P) : pMax va ρ P := q
theorem e_kmax {w : Vw} {ns : List Int} (h1 : look ρ w = some (.lst (ns.map Dt.int))) (h2 : ns ≠ []) (q : P (.int (lmax ns)) ρ) : kMax w ρ P := ⟨ns, h1, h2, q⟩
def kAbs (d : Dt) (ρ : Rho) (P : Dt → Rho → Prop) : Prop := ∃ i, d = .int i ∧ P (.int (if i < 0 then -i else i)) ρ
theorem e_abs (q : pa ρ fun d ρ1 => kAbs d ρ1 P) : pAbs pa ρ P := q
theorem e_kabs {x : Int} (q : P (.int (if x < 0 then -x else x)) ρ) : kAbs (.int x) ρ P := ⟨x, rfl, q⟩
def kInt (d : Dt) (ρ : Rho) (P : Dt → Rho → Prop) : Prop := ∃ i, d = .int i ∧ P (.int i) ρ
theorem e_int (q : pa ρ fun d ρ1 => kInt d ρ1 P) : pInt pa ρ P := q
theorem e_kint {x : Int} (q : P (.int x) ρ) : kInt (.int x) ρ P := ⟨x, rfl, q⟩
def kMM (f : Int → Int → Int) (d z : Dt) (ρ : Rho) (P : Dt → Rho → Prop) : Prop := ∃ i j, d = .int i ∧ z = .int j ∧ P (.int (f i j)) ρ
theorem e_MM {f : Int → Int → Int} (q : pa ρ fun d ρ1 => pb ρ1 fun z ρ2 => kMM f d z ρ2 P) : pMM f pa pb ρ P := q
theorem e_kMM {f : Int → Int → Int} {x y : Int} (q : P (.int (f x y)) ρ) : kMM f (.int x) (.int y) ρ P := ⟨x, y, rfl, rfl, q⟩
def kTupOf (w : Vw) (ρ : Rho) (P : Dt → Rho → Prop) : Prop := ∃ d xs, look ρ w = some d ∧ seqOf d = some xs ∧ P (.tup xs) ρ
theorem e_tupOf (q : va ρ fun w ρ1 => kTupOf w ρ1 P) : pTupOf va ρ P := q
theorem e_ktupOf {w : Vw} {xs : List Dt} (h1 : look ρ w = some d) (h2 : seqOf d = some xs) (q : P (.tup xs) ρ) : kTupOf w ρ P := ⟨d, xs, h1, h2, q⟩
def kLstOf (w : Vw) (ρ : Rho) (P : Ow → Rho → Prop) : Prop := ∃ d xs, look ρ w = some d ∧ seqOf d = some xs ∧ P (.lst xs) ρ
theorem e_lstOf (q : va ρ fun w ρ1 => kLstOf w ρ1 PO) : pLstOf va ρ PO := q
theorem e_klstOf {w : Vw} {xs : List Dt} (h1 : look ρ w = some d) (h2 : seqOf d = some xs) (q : PO (.lst xs) ρ) : kLstOf w ρ PO := ⟨d, xs, h1, h2, q⟩
def kIsi (T : String) (w : Vw) (ρ : Rho) (P : Dt → Rho → Prop) : Prop := ∃ d b, look ρ w = some d ∧ isScr d = false ∧ kitB (tyN d) T = some b ∧ P (.bl b) ρ
theorem e_isi {T : String} (q : va ρ fun w ρ1 => kIsi T w ρ1 P) : pIsi T va ρ P := q
theorem e_kisi {T : String} {w : Vw} {b : Bool} (h1 : look ρ w = some d) (h2 : isScr d = false) (h3 : kitB (tyN d) T = some b) (q : P (.bl b) ρ) : kIsi T w ρ P := ⟨d, b, h1, h2, h3, q⟩
def kInI (neg : Bool) (d : Dt) (w : Vw) (ρ : Rho) (P : Dt → Rho → Prop) : Prop := ∃ (n : Int) (ns : List Int) (z : Dt), d = .int n ∧ look ρ w = some z ∧ seqOf z = some (ns.map Dt.int) ∧ P (.bl (if neg = true then !decide (n ∈ ns) else decide (n ∈ ns))) ρ
theorem e_inI {neg : Bool} (q : pa ρ fun d ρ1 => vb ρ1 fun w ρ2 => kInI neg d w ρ2 P) : pInI neg pa vb ρ P := q
theorem e_kin {w : Vw} {x : Int} {ns : List Int} {z : Dt} (h1 : look ρ w = some z) (h2 : seqOf z = some (ns.map Dt.int)) (q : P (.bl (decide (x ∈ ns))) ρ) : kInI false (.int x) w ρ P := ⟨x, ns, z, rfl, h1, h2, q⟩
theorem e_knotin {w : Vw} {x : Int} {ns : List Int} {z : Dt} (h1 : look ρ w = some z) (h2 : seqOf z = some (ns.map Dt.int)) (q : P (.bl (!decide (x ∈ ns))) ρ) : kInI true (.int x) w ρ P := ⟨x, ns, z, rfl, h1, h2, q⟩
def kDGet (w : Vw) (y : Dt) (ρ : Rho) (P : Dt → Rho → Prop) : Prop := ∃ kvs k z, look ρ w = some (.dT kvs) ∧ keyOf y = some k ∧ dget kvs k = some z ∧ P z ρ
theorem e_dget (q : va ρ fun w ρ1 => pb ρ1 fun y ρ2 => kDGet w y ρ2 P) : pDGet va pb ρ P := q
theorem e_kdget {w : Vw} {y z : Dt} {kvs : List (List Key × Dt)} {k : List Key} (h1 : look ρ w = some (.dT kvs)) (h2 : keyOf y = some k) (h3 : dget kvs k = some z) (q : P z ρ) : kDGet w y ρ P := ⟨kvs, k, z, h1, h2, h3, q⟩
def kDIn (neg : Bool) (y : Dt) (w : Vw) (ρ : Rho) (P : Dt → Rho → Prop) : Prop := ∃ kvs k, look ρ w = some (.dT kvs) ∧ keyOf y = some k ∧ P (.bl (if neg = true then !(dget kvs k).isSome else (dget kvs k).isSome)) ρ
theorem e_din {neg : Bool} (q : pa ρ fun d ρ1 => vb ρ1 fun w ρ2 => kDIn neg d w ρ2 P) : pDIn neg pa vb ρ P := q
theorem e_kdin {w : Vw} {y : Dt} {kvs : List (List Key × Dt)} {k : List Key} (h1 : look ρ w = some (.dT kvs)) (h2 : keyOf y = some k) (q : P (.bl (dget kvs k).isSome) ρ) : kDIn false y w ρ P := ⟨kvs, k, h1, h2, q⟩
theorem e_kdnotin {w : Vw} {y : Dt} {kvs : List (List Key × Dt)} {k : List Key} (h1 : look ρ w = some (.dT kvs)) (h2 : keyOf y = some k) (q : P (.bl (!(dget kvs k).isSome)) ρ) : kDIn true y w ρ P := ⟨kvs, k, h1, h2, q⟩
theorem e_dnew (q : PO (.dT []) ρ) : pDNew ρ PO := q
def kCatT (w u : Vw) (ρ : Rho) (P : Dt → Rho → Prop) : Prop := ∃ xs ys, look ρ w = some (.tup xs) ∧ look ρ u = some (.tup ys) ∧ xs.length + ys.length ≤ 1000000 ∧ P (.tup (xs ++ ys)) ρ
theorem e_catT (q : va ρ fun w ρ1 => vb ρ1 fun u ρ2 => kCatT w u ρ2 P) : pCatT va vb ρ P := q
theorem e_kcatT {w u : Vw} {xs ys : List Dt} (h1 : look ρ w = some (.tup xs)) (h2 : look ρ u = some (.tup ys)) (h3 : xs.length + ys.length ≤ 1000000) (q : P (.tup (xs ++ ys)) ρ) : kCatT w u ρ P := ⟨xs, ys, h1, h2, h3, q⟩
def kCatL (w u : Vw) (ρ : Rho) (P : Ow → Rho → Prop) : Prop := ∃ xs ys, look ρ w = some (.lst xs) ∧ look ρ u = some (.lst ys) ∧ xs.length + ys.length ≤ 1000000 ∧ P (.lst (xs ++ ys)) ρ
theorem e_catL (q : va ρ fun w ρ1 => vb ρ1 fun u ρ2 => kCatL w u ρ2 PO) : pCatL va vb ρ PO := q
theorem e_kcatL {w u : Vw} {xs ys : List Dt} (h1 : look ρ w = some (.lst xs)) (h2 : look ρ u = some (.lst ys)) (h3 : xs.length + ys.length ≤ 1000000) (q : PO (.lst (xs ++ ys)) ρ) : kCatL w u ρ PO := ⟨xs, ys, h1, h2, h3, q⟩
def kIndex (w : Vw) (d : Dt) (ρ : Rho) (P : Dt → Rho → Prop) : Prop := ∃ (ns : List Int) (n : Int), look ρ w = some (.lst (ns.map Dt.int)) ∧ d = .int n ∧ n ∈ ns ∧ P (.int (ns.idxOf n)) ρ
theorem e_index (q : va ρ fun w ρ1 => (∃ xs, look ρ1 w = some (.lst xs)) ∧ pb ρ1 fun d ρ2 => kIndex w d ρ2 P) : pIndex va pb ρ P := q
theorem e_kindex {w : Vw} {x : Int} {ns : List Int} (h1 : look ρ w = some (.lst (ns.map Dt.int))) (h2 : x ∈ ns) (q : P (.int (ns.idxOf x)) ρ) : kIndex w (.int x) ρ P := ⟨ns, x, h1, rfl, h2, q⟩
def kEq (neg : Bool) (w u : Vw) (ρ : Rho) (P : Dt → Rho → Prop) : Prop := ∃ d e, look ρ w = some d ∧ look ρ u = some e ∧ okn 60 d = true ∧ okn 60 e = true ∧ P (.bl (if neg = true then !eqbn 60 d e else eqbn 60 d e)) ρ
theorem e_eq {neg : Bool} (q : va ρ fun w ρ1 => vb ρ1 fun u ρ2 => kEq neg w u ρ2 P) : pEq neg va vb ρ P := q
theorem e_keq {w u : Vw} {d e : Dt} {b : Bool} (h1 : look ρ w = some d) (h2 : look ρ u = some e) (h3 : okn 60 d = true) (h4 : okn 60 e = true) (h5 : eqbn 60 d e = b) (q : P (.bl b) ρ) : kEq false w u ρ P := ⟨d, e, h1, h2, h3, h4, by rw [h5]; exact q⟩
theorem e_kne {w u : Vw} {d e : Dt} {b : Bool} (h1 : look ρ w = some d) (h2 : look ρ u = some e) (h3 : okn 60 d = true) (h4 : okn 60 e = true) (h5 : eqbn 60 d e = b) (q : P (.bl (!b)) ρ) : kEq true w u ρ P := ⟨d, e, h1, h2, h3, h4, by rw [h5]; exact q⟩
def kChain (f g : Int → Int → Bool) (pc : PTE) (x y : Dt) (ρ : Rho) (P : Dt → Rho → Prop) : Prop := ∃ i j, x = .int i ∧ y = .int j ∧ if f i j = true then pc ρ (fun z ρ3 => ∃ k, z = .int k ∧ P (.bl (g j k)) ρ3) else P (.bl false) ρ
theorem e_chain {f g : Int → Int → Bool} (q : pa ρ fun x ρ1 => pb ρ1 fun y ρ2 => kChain f g pc x y ρ2 P) : pChain f g pa pb pc ρ P := q
def kChain2 (g : Int → Int → Bool) (j : Int) (z : Dt) (ρ : Rho) (P : Dt → Rho → Prop) : Prop := ∃ k, z = .int k ∧ P (.bl (g j k)) ρ
theorem e_kchain {f g : Int → Int → Bool} {x y : Int} (q : if f x y = true then pc ρ (fun z ρ3 => kChain2 g y z ρ3 P) else P (.bl false) ρ) : kChain f g pc (.int x) (.int y) ρ P := ⟨x, y, rfl, rfl, q⟩
theorem e_kchain2 {g : Int → Int → Bool} {y z : Int} (q : P (.bl (g y z)) ρ) : kChain2 g y (.int z) ρ P := ⟨z, rfl, q⟩
/-- calls -/
def kCall (n : Nat) (spec : FSpec) (ex : Addr → List (Str × Dt) → Prop) (ws : List Vw) (ρ : Rho) (P : Rs → Rho → Prop) : Prop := ∃ es, resv ρ ws = some es ∧ es.length = n ∧ (slotsOf ws).Nodup ∧ spec es (fun r os => ∃ ρ2, wback ρ (slotsOf ws) os = some ρ2 ∧ P r ρ2) ex
def toD (P : Dt → Rho → Prop) (r : Rs) (ρ : Rho) : Prop := P r.dt ρ
theorem e_toD {d : Dt} (q : P d ρ) : toD P (.dat d) ρ := q
theorem e_toDo {o : Ow} (q : P o.dt ρ) : toD P (.own o) ρ := q
theorem e_callD {n : Nat} {spec : FSpec} {ex : Addr → List (Str × Dt) → Prop} (q : tr ρ fun ws ρ1 => kCall n spec ex ws ρ1 (toD P)) : pCallD n spec ex tr ρ P := q
def kOwn (r : Rs) (ρ : Rho) (P : Ow → Rho → Prop) : Prop := ∃ o, r = .own o ∧ P o ρ
theorem e_callF {n : Nat} {spec : FSpec} {ex : Addr → List (Str × Dt) → Prop} (q : tr ρ fun ws ρ1 => kCall n spec ex ws ρ1 fun r ρ2 => kOwn r ρ2 PO) : pCallF n spec ex tr ρ PO := q
theorem e_kown {o : Ow} (q : PO o ρ) : kOwn (.own o) ρ PO := ⟨o, rfl, q⟩
theorem e_call0 {n : Nat} (s : FS) (a : s.A) {ex : Addr → List (Str × Dt) → Prop} {ws : List Vw} {PR : Rs → Rho → Prop} (h1 : resv ρ ws = some (s.ar a)) (h2 : Nat.beq (s.ar a).length n = true) (h3 : slotsOf ws = []) (hp : s.pre a) (ho : s.ou a = []) (q : PR (s.rs a) ρ) : kCall n s.sp ex ws ρ PR :=
  ⟨_, h1, Nat.eq_of_beq_eq_true h2, by rw [h3]; exact List.nodup_nil, a, rfl, hp, ρ, by rw [h3, ho]; rfl, q⟩
theorem e_call1 {n : Nat} (s : FS) (a : s.A) {ex : Addr → List (Str × Dt) → Prop} {ws : List Vw} {PR : Rs → Rho → Prop} {io : Bool} {o0 o : Ow} (h1 : resv ρ ws = some (s.ar a)) (h2 : Nat.beq (s.ar a).length n = true) (h3 : slotsOf ws = [i]) (h4 : ρ[i]? = some (some (.own io o0)))
    (hp : s.pre a) (ho : s.ou a = [o]) {ρ' : Rho} (e : ρ.set i (some (.own io o)) = ρ') (q : PR (s.rs a) ρ') : kCall n s.sp ex ws ρ PR := by
  subst e
  exact ⟨_, h1, Nat.eq_of_beq_eq_true h2, by rw [h3]; simp, a, rfl, hp, _, by rw [h3, ho]; unfold wback; rw [h4]; rfl, q⟩
variable {nx bk ct : Rho → Prop} {rt : Rs → Rho → Prop} {t u : PTS} {g : PTG} {gs : PTGs} {PR : Rho → Prop}
theorem e_next (q : nx ρ) : pNext ⟨nx, rt, bk, ct⟩ ρ := q
theorem e_seq (q : t ⟨fun ρ1 => u ⟨nx, rt, bk, ct⟩ ρ1, rt, bk, ct⟩ ρ) : pSeq t u ⟨nx, rt, bk, ct⟩ ρ := q
theorem e_brk (q : bk ρ) : pBrk ⟨nx, rt, bk, ct⟩ ρ := q
theorem e_cnt (q : ct ρ) : pCnt ⟨nx, rt, bk, ct⟩ ρ := q
theorem e_drop (q : pa ρ fun _ ρ1 => nx ρ1) : pDrop pa ⟨nx, rt, bk, ct⟩ ρ := q
theorem e_ret (q : pa ρ fun d ρ1 => rt (.dat d) ρ1) : pRet pa ⟨nx, rt, bk, ct⟩ ρ := q
theorem e_retF (q : tf ρ fun o ρ1 => rt (.own o) ρ1) : pRetF tf ⟨nx, rt, bk, ct⟩ ρ := q
theorem e_retN (h : ρ[i]? = some (some (.dat d))) (q : rt (.dat d) ρ) : pRetN i ⟨nx, rt, bk, ct⟩ ρ := by unfold pRetN; rw [h]; exact q
theorem e_retNO {o : Ow} {ρ' : Rho} (h : ρ[i]? = some (some (.own false o))) (e : ρ.set i none = ρ') (q : rt (.own o) ρ') : pRetN i ⟨nx, rt, bk, ct⟩ ρ := by subst e; unfold pRetN; rw [h]; exact q
theorem e_retnon (q : rt (.dat .non) ρ) : pRetNon ⟨nx, rt, bk, ct⟩ ρ := q
theorem e_ifS (q : pt ρ fun b ρ1 => if b = true then t ⟨nx, rt, bk, ct⟩ ρ1 else u ⟨nx, rt, bk, ct⟩ ρ1) : pIfS pt t u ⟨nx, rt, bk, ct⟩ ρ := q
theorem e_gN {ρ' : Rho} (h : noio ρ i = true) (e : ρ.set i (some (.dat d)) = ρ') (q : PR ρ') : pgN i d ρ PR := by subst e; exact ⟨h, q⟩
theorem e_gnil (q : PR ρ) : pgNil [] ρ PR := ⟨rfl, q⟩
theorem e_gcons {d : Dt} {ds : List Dt} (q : g d ρ fun ρ1 => gs ds ρ1 PR) : pgCons g gs (d :: ds) ρ PR := ⟨d, ds, rfl, q⟩
theorem e_gtup {n : Nat} {ds : List Dt} (h : Nat.beq ds.length n = true) (q : gs ds ρ PR) : pgTup n gs (.tup ds) ρ PR := ⟨ds, rfl, Nat.eq_of_beq_eq_true h, q⟩
def kSet (i : Nat) (d : Dt) (ρ : Rho) (nx : Rho → Prop) : Prop := noio ρ i = true ∧ nx (ρ.set i (some (.dat d)))
theorem e_set (q : pa ρ fun d ρ1 => kSet i d ρ1 nx) : pSet i pa ⟨nx, rt, bk, ct⟩ ρ := q
theorem e_kset {ρ' : Rho} (h : noio ρ i = true) (e : ρ.set i (some (.dat d)) = ρ') (q : nx ρ') : kSet i d ρ nx := by subst e; exact ⟨h, q⟩
def kSetF (i : Nat) (o : Ow) (ρ : Rho) (nx : Rho → Prop) : Prop := noio ρ i = true ∧ nx (ρ.set i (some (.own false o)))
theorem e_setF (q : tf ρ fun o ρ1 => kSetF i o ρ1 nx) : pSetF i tf ⟨nx, rt, bk, ct⟩ ρ := q
theorem e_ksetF {o : Ow} {ρ' : Rho} (h : noio ρ i = true) (e : ρ.set i (some (.own false o)) = ρ') (q : nx ρ') : kSetF i o ρ nx := by subst e; exact ⟨h, q⟩
theorem e_asg (q : pa ρ fun d ρ1 => g d ρ1 nx) : pAsg pa g ⟨nx, rt, bk, ct⟩ ρ := q
def kPar (i j : Nat) (d z : Dt) (ρ : Rho) (nx : Rho → Prop) : Prop := noio ρ i = true ∧ noio ρ j = true ∧ nx ((ρ.set i (some (.dat d))).set j (some (.dat z)))
theorem e_par (q : pa ρ fun d ρ1 => pb ρ1 fun z ρ2 => kPar i j d z ρ2 nx) : pPar i j pa pb ⟨nx, rt, bk, ct⟩ ρ := q
theorem e_kpar {z : Dt} (h : noio ρ i = true) (h2 : noio ρ j = true) {ρ' : Rho} (e : (ρ.set i (some (.dat d))).set j (some (.dat z)) = ρ') (q : nx ρ') : kPar i j d z ρ nx := by subst e; exact ⟨h, h2, q⟩
def kAug (i : Nat) (f : Int → Int → Int) (x : Int) (d : Dt) (ρ : Rho) (nx : Rho → Prop) : Prop := ∃ y, d = .int y ∧ noio ρ i = true ∧ nx (ρ.set i (some (.dat (.int (f x y)))))
theorem e_aug {f : Int → Int → Int} {x : Int} (h : ρ[i]? = some (some (.dat (.int x)))) (q : pa ρ fun d ρ1 => kAug i f x d ρ1 nx) : pAug i f pa ⟨nx, rt, bk, ct⟩ ρ := ⟨x, h, q⟩
theorem e_kaug {f : Int → Int → Int} {x y : Int} {ρ' : Rho} (h : noio ρ i = true) (e : ρ.set i (some (.dat (.int (f x y)))) = ρ') (q : nx ρ') : kAug i f x (.int y) ρ nx := by subst e; exact ⟨y, rfl, h, q⟩
def kSetIx1 (i : Nat) (tk : PTE) (d : Dt) (ρ : Rho) (Q : Dt → Rho → Prop) : Prop := (∃ en, ρ[i]? = some (some en)) ∧ tk ρ Q
def kSetIx (i : Nat) (d k : Dt) (ρ : Rho) (nx : Rho → Prop) : Prop := ∃ io xs n j, ρ[i]? = some (some (.own io (.lst xs))) ∧ k = .int n ∧ ixN xs.length n = some j ∧ nx (ρ.set i (some (.own io (.lst (xs.set j d)))))
theorem e_setIx (q : te ρ fun d ρ1 => kSetIx1 i tk d ρ1 fun k ρ2 => kSetIx i d k ρ2 nx) : pSetIx i te tk ⟨nx, rt, bk, ct⟩ ρ := q
theorem e_setIx1 {Q : Dt → Rho → Prop} {en : En} (h : ρ[i]? = some (some en)) (q : tk ρ Q) : kSetIx1 i tk d ρ Q := ⟨⟨en, h⟩, q⟩
theorem e_ksetIx {io : Bool} {xs : List Dt} {n : Int} {j : Nat} {ρ' : Rho} (h : ρ[i]? = some (some (.own io (.lst xs)))) (h2 : ixN xs.length n = some j) (e : ρ.set i (some (.own io (.lst (xs.set j d)))) = ρ') (q : nx ρ') : kSetIx i d (.int n) ρ nx := by subst e; exact ⟨io, xs, n, j, h, rfl, h2, q⟩
def kSetK (i : Nat) (d y : Dt) (ρ : Rho) (nx : Rho → Prop) : Prop := ∃ io kvs k, ρ[i]? = some (some (.own io (.dT kvs))) ∧ keyOf y = some k ∧ kvs.length < 1000000 ∧ nx (ρ.set i (some (.own io (.dT (dput kvs k d)))))
theorem e_setK (q : te ρ fun d ρ1 => kSetIx1 i tk d ρ1 fun k ρ2 => kSetK i d k ρ2 nx) : pSetK i te tk ⟨nx, rt, bk, ct⟩ ρ := q
theorem e_ksetK {io : Bool} {kvs : List (List Key × Dt)} {k : List Key} {y : Dt} (h : ρ[i]? = some (some (.own io (.dT kvs)))) (h2 : keyOf y = some k) (h3 : kvs.length < 1000000) {ρ' : Rho} (e : ρ.set i (some (.own io (.dT (dput kvs k d)))) = ρ') (q : nx ρ') : kSetK i d y ρ nx := by subst e; exact ⟨io, kvs, k, h, h2, h3, q⟩
def kApp (i : Nat) (d : Dt) (ρ : Rho) (nx : Rho → Prop) : Prop := ∃ io xs, ρ[i]? = some (some (.own io (.lst xs))) ∧ xs.length < 1000000 ∧ nx (ρ.set i (some (.own io (.lst (xs ++ [d])))))
theorem e_app {io : Bool} {xs : List Dt} (h : ρ[i]? = some (some (.own io (.lst xs)))) (q : te ρ fun d ρ1 => kApp i d ρ1 nx) : pApp i te ⟨nx, rt, bk, ct⟩ ρ := ⟨⟨io, xs, h⟩, q⟩
theorem e_kapp {io : Bool} {xs : List Dt} (h : ρ[i]? = some (some (.own io (.lst xs)))) (h2 : xs.length < 1000000) {ρ' : Rho} (e : ρ.set i (some (.own io (.lst (xs ++ [d])))) = ρ') (q : nx ρ') : kApp i d ρ nx := by subst e; exact ⟨io, xs, h, h2, q⟩
variable {PX : List Dt → Rho → Prop}
def kL (d : Dt) (ρ : Rho) (P : List Dt → Rho → Prop) : Prop := ∃ xs, seqOf d = some xs ∧ (∀ ys, d ≠ .tup ys) ∧ P xs ρ
theorem e_iL (q : pa ρ fun d ρ1 => kL d ρ1 PX) : piL pa ρ PX := q
theorem e_kL {xs : List Dt} (q : PX xs ρ) : kL (.lst xs) ρ PX := ⟨xs, rfl, (by intro ys e; cases e), q⟩
def kT (d : Dt) (ρ : Rho) (P : List Dt → Rho → Prop) : Prop := ∃ xs, d = .tup xs ∧ P xs ρ
theorem e_iT (q : pa ρ fun d ρ1 => kT d ρ1 PX) : piT pa ρ PX := q
theorem e_kT {xs : List Dt} (q : PX xs ρ) : kT (.tup xs) ρ PX := ⟨xs, rfl, q⟩
def kR1 (d : Dt) (ρ : Rho) (P : List Dt → Rho → Prop) : Prop := ∃ n : Int, d = .int n ∧ -1000000000 ≤ n ∧ n ≤ 1000000000 ∧ P (rngD 0 n.toNat) ρ
theorem e_iR1 (q : pa ρ fun d ρ1 => kR1 d ρ1 PX) : piR1 pa ρ PX := q
theorem e_kR1 {n : Int} (h : -1000000000 ≤ n) (h2 : n ≤ 1000000000) (q : PX (rngD 0 n.toNat) ρ) : kR1 (.int n) ρ PX := ⟨n, rfl, h, h2, q⟩
def kR2 (d z : Dt) (ρ : Rho) (P : List Dt → Rho → Prop) : Prop := ∃ lo hi : Int, d = .int lo ∧ z = .int hi ∧ (-1000000000 ≤ lo ∧ lo ≤ 1000000000 ∧ -1000000000 ≤ hi ∧ hi ≤ 1000000000) ∧ P (rngD lo (hi - lo).toNat) ρ
theorem e_iR2 (q : pa ρ fun d ρ1 => pb ρ1 fun z ρ2 => kR2 d z ρ2 PX) : piR2 pa pb ρ PX := q
theorem e_kR2 {lo hi : Int} (h : -1000000000 ≤ lo ∧ lo ≤ 1000000000 ∧ -1000000000 ≤ hi ∧ hi ≤ 1000000000) (q : PX (rngD lo (hi - lo).toNat) ρ) : kR2 (.int lo) (.int hi) ρ PX := ⟨lo, hi, rfl, rfl, h, q⟩
variable {src : PTI} {tb : PTS}
def kFor (g : PTG) (tb : PTS) (nx : Rho → Prop) (rt : Rs → Rho → Prop) (xs : List Dt) (ρ1 : Rho) : Prop := ∃ (fg : List Nat) (I : Nat → Rho → Prop), I 0 (drp fg ρ1) ∧
  (∀ i x ρ2, xs[i]? = some x → I i ρ2 → g x ρ2 fun ρ3 => tb ⟨fun ρ4 => I (i + 1) (drp fg ρ4), rt, nx, fun ρ4 => I (i + 1) (drp fg ρ4)⟩ ρ3) ∧ ∀ ρ2, I xs.length ρ2 → nx ρ2
theorem e_for (q : src ρ fun xs ρ1 => kFor g tb nx rt xs ρ1) : pFor src g tb ⟨nx, rt, bk, ct⟩ ρ := q
/-- a loop by the slots at each turn, a function of the turn -/
theorem e_forS (fg : List Nat) (S : Nat → Rho) {xs : List Dt} (h0 : drp fg ρ = S 0) (hs : ∀ i x, xs[i]? = some x → g x (S i) fun ρ3 => tb ⟨fun ρ4 => drp fg ρ4 = S (i + 1), rt, nx, fun ρ4 => drp fg ρ4 = S (i + 1)⟩ ρ3) (hd : nx (S xs.length)) : kFor g tb nx rt xs ρ :=
  ⟨fg, fun i ρ' => ρ' = S i, h0, fun i x ρ2 hx e => by subst e; exact hs i x hx, fun ρ2 e => by subst e; exact hd⟩
/-- .. and a fact at each turn -/
theorem e_forI (fg : List Nat) (I : Nat → Rho → Prop) {xs : List Dt} (h0 : I 0 (drp fg ρ)) (hs : ∀ i x ρ2, xs[i]? = some x → I i ρ2 → g x ρ2 fun ρ3 => tb ⟨fun ρ4 => I (i + 1) (drp fg ρ4), rt, nx, fun ρ4 => I (i + 1) (drp fg ρ4)⟩ ρ3) (hd : ∀ ρ2, I xs.length ρ2 → nx ρ2) : kFor g tb nx rt xs ρ := ⟨fg, I, h0, hs, hd⟩
theorem e_while (fg : List Nat) (I : Nat → Rho → Prop) (m0 : Nat) (h0 : I m0 (drp fg ρ)) (hs : ∀ m ρ1, I m ρ1 → pt ρ1 fun b ρ2 => if b = true then tb ⟨fun ρ4 => ∃ m', m' < m ∧ I m' (drp fg ρ4), rt, nx, fun ρ4 => ∃ m', m' < m ∧ I m' (drp fg ρ4)⟩ ρ2 else nx ρ2) : pWhile pt tb ⟨nx, rt, bk, ct⟩ ρ := ⟨fg, I, ⟨m0, h0⟩, hs⟩
theorem e_yes (q : PB true ρ) : pYes ρ PB := q
def kLc (g : PTG) (tt : PTT) (te : PTE) (vs : List Nat) (P : Ow → Rho → Prop) (xs : List Dt) (ρ1 : Rho) : Prop := ∃ I : Nat → List Dt → Rho → Prop, I 0 [] (wipeR ρ1 vs) ∧
  (∀ i x acc ρ2, xs[i]? = some x → I i acc ρ2 → g x ρ2 fun ρ3 => tt ρ3 fun b ρ4 => if b = true then te ρ4 (fun d ρ5 => acc.length < 1000000 ∧ I (i + 1) (acc ++ [d]) (wipeR ρ5 vs)) else I (i + 1) acc (wipeR ρ4 vs)) ∧
  ∀ acc ρ2, I xs.length acc ρ2 → P (.lst acc) (backR ρ1 ρ2 vs)
theorem e_lc {vs : List Nat} (q : src ρ fun xs ρ1 => kLc g pt te vs PO xs ρ1) : pLc src g pt te vs ρ PO := q
/-- a comprehension that changes nothing: the items kept, in order, each by its function -/
theorem e_lcF {vs : List Nat} {α : Type} (ys : List α) (D : α → Dt) (keep : α → Bool) (f : α → Dt) {xs : List Dt} (hx : xs = ys.map D) (hz : ys.length ≤ 1000000)
    (hs : ∀ y, y ∈ ys → g (D y) (wipeR ρ vs) fun ρ3 => pt ρ3 fun b ρ4 => b = keep y ∧ (b = true → te ρ4 fun d ρ5 => d = f y ∧ wipeR ρ5 vs = wipeR ρ vs) ∧ (b = false → wipeR ρ4 vs = wipeR ρ vs))
    (gm : ∀ d ρ (A B : Rho → Prop), (∀ ρ', A ρ' → B ρ') → g d ρ A → g d ρ B) (tm : ∀ ρ (A B : Bool → Rho → Prop), (∀ b ρ', A b ρ' → B b ρ') → pt ρ A → pt ρ B) (em : ∀ ρ (A B : Dt → Rho → Prop), (∀ b ρ', A b ρ' → B b ρ') → te ρ A → te ρ B)
    (hd : PO (.lst ((ys.filter keep).map f)) (backR ρ (wipeR ρ vs) vs)) : kLc g pt te vs PO xs ρ := by
  subst hx
  refine ⟨fun i acc ρ' => ρ' = wipeR ρ vs ∧ acc = ((ys.take i).filter keep).map f, ⟨rfl, by simp⟩, fun i x acc ρ2 hx hI => ?_, fun acc ρ2 hI => ?_⟩
  · obtain ⟨rfl, rfl⟩ := hI
    rw [List.getElem?_map] at hx
    cases q : ys[i]? with
    | none => rw [q] at hx; cases hx
    | some y =>
      rw [q] at hx
      cases hx
      have hy : y ∈ ys := List.mem_of_getElem? q
      have hi : i < ys.length := (List.getElem?_eq_some_iff.mp q).1
      refine gm _ _ _ _ (fun ρ3 h3 => tm _ _ _ (fun b ρ4 h4 => ?_) h3) (hs y hy)
      obtain ⟨hb, h5, h6⟩ := h4
      have et : ys.take (i + 1) = ys.take i ++ [y] := by rw [List.take_add_one, q]; rfl
      cases b with
      | true =>
        rw [if_pos rfl]
        refine em _ _ _ (fun d ρ5 h7 => ?_) (h5 rfl)
        obtain ⟨rfl, h8⟩ := h7
        refine ⟨?_, h8, ?_⟩
        · rw [List.length_map]
          have := List.length_filter_le keep (ys.take i)
          rw [List.length_take] at this
          omega
        · rw [et, List.filter_append, List.map_append, List.filter_cons, ← hb]
          rfl
      | false =>
        rw [if_neg Bool.false_ne_true]
        refine ⟨h6 rfl, ?_⟩
        rw [et, List.filter_append, List.filter_cons, ← hb]
        simp
  · obtain ⟨rfl, rfl⟩ := hI
    rw [List.length_map, List.take_length]
    exact hd
/-- tests that are known, tests that are not -/
theorem e_ift {A B : Prop} (q : A) : if true = true then A else B := by rw [if_pos rfl]; exact q
theorem e_iff {A B : Prop} (q : B) : if false = true then A else B := by rw [if_neg Bool.false_ne_true]; exact q
theorem e_ifnt {A B : Prop} (q : B) : if (!true) = true then A else B := by rw [Bool.not_true, if_neg Bool.false_ne_true]; exact q
theorem e_ifnf {A B : Prop} (q : A) : if (!false) = true then A else B := by rw [Bool.not_false, if_pos rfl]; exact q
theorem e_ifd {c : Prop} [Decidable c] {A B : Prop} (q1 : c → A) (q2 : ¬ c → B) : if decide c = true then A else B := by
  by_cases h : c
  · rw [decide_eq_true h, if_pos rfl]; exact q1 h
  · rw [decide_eq_false h, if_neg Bool.false_ne_true]; exact q2 h
theorem e_ifnd {c : Prop} [Decidable c] {A B : Prop} (q1 : ¬ c → A) (q2 : c → B) : if (!decide c) = true then A else B := by
  by_cases h : c
  · rw [decide_eq_true h]; exact q2 h
  · rw [decide_eq_false h]; exact q1 h
theorem e_ifb {b : Bool} {A B : Prop} (q1 : b = true → A) (q2 : b = false → B) : if b = true then A else B := by
  cases b with
  | true => exact q1 rfl
  | false => exact q2 rfl
theorem e_ifnb {b : Bool} {A B : Prop} (q1 : b = false → A) (q2 : b = true → B) : if (!b) = true then A else B := by
  cases b with
  | true => exact q2 rfl
  | false => exact q1 rfl
theorem set_0 {α : Type} {a x : α} {l : List α} : (a :: l).set 0 x = x :: l := rfl
theorem set_s {α : Type} {a x : α} {l l' : List α} {n : Nat} (h : l.set n x = l') : (a :: l).set (n + 1) x = a :: l' := by rw [List.set_cons_succ, h]
theorem st0 {α : Type} {a0 x : α} {l : List α} : (a0 :: l).set 0 x = x :: l := rfl
theorem st1 {α : Type} {a0 a1 x : α} {l : List α} : (a0 :: a1 :: l).set 1 x = a0 :: x :: l := rfl
theorem st2 {α : Type} {a0 a1 a2 x : α} {l : List α} : (a0 :: a1 :: a2 :: l).set 2 x = a0 :: a1 :: x :: l := rfl
theorem st3 {α : Type} {a0 a1 a2 a3 x : α} {l : List α} : (a0 :: a1 :: a2 :: a3 :: l).set 3 x = a0 :: a1 :: a2 :: x :: l := rfl
theorem st4 {α : Type} {a0 a1 a2 a3 a4 x : α} {l : List α} : (a0 :: a1 :: a2 :: a3 :: a4 :: l).set 4 x = a0 :: a1 :: a2 :: a3 :: x :: l := rfl
theorem st5 {α : Type} {a0 a1 a2 a3 a4 a5 x : α} {l : List α} : (a0 :: a1 :: a2 :: a3 :: a4 :: a5 :: l).set 5 x = a0 :: a1 :: a2 :: a3 :: a4 :: x :: l := rfl
theorem st6 {α : Type} {a0 a1 a2 a3 a4 a5 a6 x : α} {l : List α} : (a0 :: a1 :: a2 :: a3 :: a4 :: a5 :: a6 :: l).set 6 x = a0 :: a1 :: a2 :: a3 :: a4 :: a5 :: x :: l := rfl
theorem st7 {α : Type} {a0 a1 a2 a3 a4 a5 a6 a7 x : α} {l : List α} : (a0 :: a1 :: a2 :: a3 :: a4 :: a5 :: a6 :: a7 :: l).set 7 x = a0 :: a1 :: a2 :: a3 :: a4 :: a5 :: a6 :: x :: l := rfl
theorem st8 {α : Type} {a0 a1 a2 a3 a4 a5 a6 a7 a8 x : α} {l : List α} : (a0 :: a1 :: a2 :: a3 :: a4 :: a5 :: a6 :: a7 :: a8 :: l).set 8 x = a0 :: a1 :: a2 :: a3 :: a4 :: a5 :: a6 :: a7 :: x :: l := rfl
theorem st9 {α : Type} {a0 a1 a2 a3 a4 a5 a6 a7 a8 a9 x : α} {l : List α} : (a0 :: a1 :: a2 :: a3 :: a4 :: a5 :: a6 :: a7 :: a8 :: a9 :: l).set 9 x = a0 :: a1 :: a2 :: a3 :: a4 :: a5 :: a6 :: a7 :: a8 :: x :: l := rfl
theorem st10 {α : Type} {a0 a1 a2 a3 a4 a5 a6 a7 a8 a9 a10 x : α} {l : List α} : (a0 :: a1 :: a2 :: a3 :: a4 :: a5 :: a6 :: a7 :: a8 :: a9 :: a10 :: l).set 10 x = a0 :: a1 :: a2 :: a3 :: a4 :: a5 :: a6 :: a7 :: a8 :: a9 :: x :: l := rfl
theorem st11 {α : Type} {a0 a1 a2 a3 a4 a5 a6 a7 a8 a9 a10 a11 x : α} {l : List α} : (a0 :: a1 :: a2 :: a3 :: a4 :: a5 :: a6 :: a7 :: a8 :: a9 :: a10 :: a11 :: l).set 11 x = a0 :: a1 :: a2 :: a3 :: a4 :: a5 :: a6 :: a7 :: a8 :: a9 :: a10 :: x :: l := rfl
theorem st12 {α : Type} {a0 a1 a2 a3 a4 a5 a6 a7 a8 a9 a10 a11 a12 x : α} {l : List α} : (a0 :: a1 :: a2 :: a3 :: a4 :: a5 :: a6 :: a7 :: a8 :: a9 :: a10 :: a11 :: a12 :: l).set 12 x = a0 :: a1 :: a2 :: a3 :: a4 :: a5 :: a6 :: a7 :: a8 :: a9 :: a10 :: a11 :: x :: l := rfl
theorem st13 {α : Type} {a0 a1 a2 a3 a4 a5 a6 a7 a8 a9 a10 a11 a12 a13 x : α} {l : List α} : (a0 :: a1 :: a2 :: a3 :: a4 :: a5 :: a6 :: a7 :: a8 :: a9 :: a10 :: a11 :: a12 :: a13 :: l).set 13 x = a0 :: a1 :: a2 :: a3 :: a4 :: a5 :: a6 :: a7 :: a8 :: a9 :: a10 :: a11 :: a12 :: x :: l := rfl
theorem st14 {α : Type} {a0 a1 a2 a3 a4 a5 a6 a7 a8 a9 a10 a11 a12 a13 a14 x : α} {l : List α} : (a0 :: a1 :: a2 :: a3 :: a4 :: a5 :: a6 :: a7 :: a8 :: a9 :: a10 :: a11 :: a12 :: a13 :: a14 :: l).set 14 x = a0 :: a1 :: a2 :: a3 :: a4 :: a5 :: a6 :: a7 :: a8 :: a9 :: a10 :: a11 :: a12 :: a13 :: x :: l := rfl
theorem st15 {α : Type} {a0 a1 a2 a3 a4 a5 a6 a7 a8 a9 a10 a11 a12 a13 a14 a15 x : α} {l : List α} : (a0 :: a1 :: a2 :: a3 :: a4 :: a5 :: a6 :: a7 :: a8 :: a9 :: a10 :: a11 :: a12 :: a13 :: a14 :: a15 :: l).set 15 x = a0 :: a1 :: a2 :: a3 :: a4 :: a5 :: a6 :: a7 :: a8 :: a9 :: a10 :: a11 :: a12 :: a13 :: a14 :: x :: l := rfl
theorem st16 {α : Type} {a0 a1 a2 a3 a4 a5 a6 a7 a8 a9 a10 a11 a12 a13 a14 a15 a16 x : α} {l : List α} : (a0 :: a1 :: a2 :: a3 :: a4 :: a5 :: a6 :: a7 :: a8 :: a9 :: a10 :: a11 :: a12 :: a13 :: a14 :: a15 :: a16 :: l).set 16 x = a0 :: a1 :: a2 :: a3 :: a4 :: a5 :: a6 :: a7 :: a8 :: a9 :: a10 :: a11 :: a12 :: a13 :: a14 :: a15 :: x :: l := rfl
theorem st17 {α : Type} {a0 a1 a2 a3 a4 a5 a6 a7 a8 a9 a10 a11 a12 a13 a14 a15 a16 a17 x : α} {l : List α} : (a0 :: a1 :: a2 :: a3 :: a4 :: a5 :: a6 :: a7 :: a8 :: a9 :: a10 :: a11 :: a12 :: a13 :: a14 :: a15 :: a16 :: a17 :: l).set 17 x = a0 :: a1 :: a2 :: a3 :: a4 :: a5 :: a6 :: a7 :: a8 :: a9 :: a10 :: a11 :: a12 :: a13 :: a14 :: a15 :: a16 :: x :: l := rfl
theorem st18 {α : Type} {a0 a1 a2 a3 a4 a5 a6 a7 a8 a9 a10 a11 a12 a13 a14 a15 a16 a17 a18 x : α} {l : List α} : (a0 :: a1 :: a2 :: a3 :: a4 :: a5 :: a6 :: a7 :: a8 :: a9 :: a10 :: a11 :: a12 :: a13 :: a14 :: a15 :: a16 :: a17 :: a18 :: l).set 18 x = a0 :: a1 :: a2 :: a3 :: a4 :: a5 :: a6 :: a7 :: a8 :: a9 :: a10 :: a11 :: a12 :: a13 :: a14 :: a15 :: a16 :: a17 :: x :: l := rfl
theorem st19 {α : Type} {a0 a1 a2 a3 a4 a5 a6 a7 a8 a9 a10 a11 a12 a13 a14 a15 a16 a17 a18 a19 x : α} {l : List α} : (a0 :: a1 :: a2 :: a3 :: a4 :: a5 :: a6 :: a7 :: a8 :: a9 :: a10 :: a11 :: a12 :: a13 :: a14 :: a15 :: a16 :: a17 :: a18 :: a19 :: l).set 19 x = a0 :: a1 :: a2 :: a3 :: a4 :: a5 :: a6 :: a7 :: a8 :: a9 :: a10 :: a11 :: a12 :: a13 :: a14 :: a15 :: a16 :: a17 :: a18 :: x :: l := rfl
theorem st20 {α : Type} {a0 a1 a2 a3 a4 a5 a6 a7 a8 a9 a10 a11 a12 a13 a14 a15 a16 a17 a18 a19 a20 x : α} {l : List α} : (a0 :: a1 :: a2 :: a3 :: a4 :: a5 :: a6 :: a7 :: a8 :: a9 :: a10 :: a11 :: a12 :: a13 :: a14 :: a15 :: a16 :: a17 :: a18 :: a19 :: a20 :: l).set 20 x = a0 :: a1 :: a2 :: a3 :: a4 :: a5 :: a6 :: a7 :: a8 :: a9 :: a10 :: a11 :: a12 :: a13 :: a14 :: a15 :: a16 :: a17 :: a18 :: a19 :: x :: l := rfl
theorem rh_m {a : En} {l : List En} {r l' : Rho} (h : l.map some ++ r = l') : (a :: l).map some ++ r = some a :: l' := by rw [List.map_cons, List.cons_append, h]
theorem rh_n {r l' : Rho} (h : r = l') : ([] : List En).map some ++ r = l' := h
theorem rh_0 : (List.replicate 0 none : Rho) = [] := rfl
theorem rh_s {n : Nat} {l : Rho} (h : List.replicate n none = l) : List.replicate (n + 1) none = none :: l := by rw [List.replicate_succ, h]
theorem st_rho {t : PTS} {D : PEnds} {ρ' : Rho} (e : ρ = ρ') (q : t D ρ') : t D ρ := by subst e; exact q
theorem ks_ii : kitB "int" "int" = some true := by decide +kernel
theorem ks_ib : kitB "int" "bool" = some false := by decide +kernel
theorem ks_bi : kitB "bool" "int" = some true := by decide +kernel
theorem ks_bb : kitB "bool" "bool" = some true := by decide +kernel
theorem ks_ni : kitB "NoneType" "int" = some false := by decide +kernel
theorem ks_nb : kitB "NoneType" "bool" = some false := by decide +kernel
theorem ks_nt : kitB "NoneType" "tuple" = some false := by decide +kernel
theorem ks_tt : kitB "tuple" "tuple" = some true := by decide +kernel
theorem ks_lt : kitB "list" "tuple" = some false := by decide +kernel
theorem ks_it : kitB "int" "tuple" = some false := by decide +kernel
theorem ks_ti : kitB "tuple" "int" = some false := by decide +kernel
theorem ks_si : kitB "str" "int" = some false := by decide +kernel
theorem e_fin {es : List En} {PF : Rs → List Ow → Prop} {r : Rs} {os : List Ow} (h : outs ρ (ioFrom 0 es) = some os) (q : PF r os) : fin es PF r ρ := ⟨os, h, q⟩
end
end Wk
namespace Wk
open PySem PySem.Spec PyProof.Rows L2 NdefX
section
variable {prog : Program} {w : World} {A : Around} {E : Value → Shared → Prop} {h : Heap} {g : Array GenState} {d : Drawn} {t : Nat} {os : OsState}
variable {nm q : Str} {C N : Addr} {bs bm : List Value} {hdct : Bool} {sn : List Str} {sub : List Value} {ab : Bool} {col : Option Bool} {dd : Option Addr} {k0 k1 k2 k3 k5 : Option Value}
/-- the bound ValueError.__init__ called: the args are laid anew -/
theorem call_bwV {u e t0 : Addr} {rest : List Value} {Q : Value → Shared → Prop}
    (hC : h.get? C = some (excClassObj nm q C N bs bm hdct sn sub ab col dd k0 k1 k2 k3 k5 "ValueError.__new__")) (he : h.get? e = some (PySem.HandSPX.excO C t0)) (hu : h.get? u = some (PySem.W.kxs_mw "ValueError.__init__" e)) (hrest : rest.length ≤ sizeLine)
    (hq : ∀ h' t1, (∀ b o, b ≠ e → h.get? b = some o → h'.get? b = some o) → h'.get? e = some (PySem.HandSPX.excO C t1) → Q .none ⟨h', g, d, t, os⟩) :
    wpAny (model prog w) A (call (.ref u) rest) Q E ⟨h, g, d, t, os⟩ := by
  refine wpAny_call (codeAny_of_tree ?_)
  show wpAny _ A.in1 (callAny (.ref u) ⟨rest, []⟩) _ _ _
  simp only [callAny]
  refine wpAny_bind (wpAny_load hu ?_)
  simp only [PySem.W.kxs_mw, show (Value.type "method-wrapper" == Value.type "method" || Value.type "method-wrapper" == Value.type "builtin_function_or_method" || Value.type "method-wrapper" == Value.type "method-wrapper") = true by decide, if_true]
  refine W.KFB.if_so (by decide) ?_
  refine wpAny_bind (PySem.W.check_bound_init F.excBase_ValueError.toExcCallFacts hC he rfl ?_)
  refine wpAny_bind (wpAny_pure (wpAny_pure ?_))
  refine ⟨Code.quiet_builtin _ (by decide +kernel), codeAny_builtin F.excBase_ValueError.initEntry ?_⟩
  rw [Around.under_plainId F.excBase_ValueError.init.plain _]
  wp_walk
  refine hq _ h.objs.size (fun b o hb ho => ?_) ?_
  · rw [Heap.get?_update_other _ _ (Ne.symm hb)]
    exact Heap.get?_push_of_some _ ho
  · rw [Heap.get?_update_self _ (Heap.get?_push_of_some _ he) rfl]
    rfl
end
/-- what the written part says of an own exception's __init__, ahead of its walk -/
structure SupC (P : Program) (K : PySem.W.Frag) (mg : Str → Option Value) (cc cda C : Addr) : Prop where
  code : ∃ ccl cdd vs ccs file tf, K.lookup cda = some ⟨ccl, cdd, .fields vs, ccs⟩ ∧ vs[2]? = some (.str file tf) ∧ ((P.main.file : Str) == file) = true
  cell : ∃ cl cld csl, K.lookup cc = some ⟨cl, cld, .cell (some (.ref C)), csl⟩
  mg : mg "super" = none
  top : (P.main.scope.names.lookup ("super" : Str)).isSome = false
  sup : PySem.W.ks_superIn K C C "__init__" = some (some (.builtin "ValueError.__init__"))
  exV : PySem.W.subIn K (.ref C) (.type "ValueError") = some true
  opq : PySem.W.nsIn K cStatics "thirdparty.any" = some none
section
variable {P : Program} {w : World} {K : PySem.W.Frag} {mg : Str → Option Value} {base : Heap} {CX : CXT} {k : Nat} {f cc cda C : Addr} {name qual : Str} {params : Arguments} {e : Expr} {rest : List Stmt} {scope : Scope} {dV kV doc pm ct oc : Value} {an od : Option Addr} {osl : Array (Option Value)}
  {p0 p1 p2 p3 p4 : Pos} {N ps : List Str} {sp : Sp} {ar : Arg} {self : Str}
/-- the context of its body -/
abbrev NFs (name qual : Str) (params : Arguments) (body : List Stmt) (scope : Scope) (cc cda : Addr) : NF := ⟨name, qual, params, body, scope, [("__class__", cc)], cda⟩
theorem lookup_put {α : Type} (f g : Str) (y : α) (fs : List (Str × α)) : ((f, y) :: fs).lookup g = if g = f then some y else fs.lookup g := by
  by_cases h : g = f
  · subst h
    simp [List.lookup]
  · have e : (g == f) = false := by simpa using h
    rw [if_neg h]
    simp [List.lookup, e]
theorem mro_self {K : PySem.W.Frag} {C : Addr} (T : OexC K C) : PySem.W.mroIn K C (.ref C) = some true := by
  obtain ⟨nm, q, N, bs, bm, sn, sub, ab, col, dd, k0, k1, k2, k3, k5, hC, hbm⟩ := T.cls
  have hcl : PySem.W.clsIn K C = some { name := nm, bases := bs, mro := .ref C :: bm, ns := N, qualname := q, hasDict := true, slotNames := sn, subclasses := sub, abstract := ab, collection := col, hasDel := false } := by unfold PySem.W.clsIn; rw [hC] <;> rfl
  unfold PySem.W.mroIn
  rw [hcl, Option.bind_some, if_neg (by simp), List.contains_cons, beq_self_eq_true, Bool.true_or]
theorem super_stmt {X : Cx} {pins : List (Addr × Obj)} {σ : L2.St} {H : Hp} {s : Shared} {D : Ends} {fd : FuncData} {a : Addr} {te : TE} {ts : TS} {bd : List Stmt} (I : Inv X pins σ H s) (T : OexC X.K C) (U : SupC X.prog X.K X.mg cc cda C)
    (hfu : X.env.func = some f) (lk : X.K.lookup f = some ⟨oc, od, .func fd, osl⟩) (hp : (fd.params.posonlyargs ++ fd.params.args).head? = some ar) (har : ar.arg = self) (hco : X.env.code = .ref cda) (hcells : X.env.cells.lookup ("__class__" : Str) = some cc)
    (hks : X.env.scope.names.lookup ("super" : Str) = some .globalImplicit) (hkc : X.env.scope.names.lookup ("__class__" : Str) = some .free) (hN0 : X.N[0]? = some self) (hself : X.env.scope.names.lookup self = some .local)
    (hint : interactive X.env = false) (hsw : swapsWith (.Call (.Attribute (.Call (.Name "super" p0) [] [] p1) "__init__" p2) [e] [] p3) none p4.line X.env = pure false) (he1 : starEach [e] X.env = [(false, eval e X.env)])
    {pl : Sem Bool} (hev : eval (.Call (.Attribute (.Call (.Name "super" p0) [] [] p1) "__init__" p2) [e] [] p3) X.env = (do
      let ov ← attributeBase (.Call (.Name "super" p0) [] [] p1) "__init__" X.env (eval (.Call (.Name "super" p0) [] [] p1) X.env)
      standAt p2.atName
      let (f, first) ← holding [ov] (getMethod ov "__init__" pl)
      callWith p3 f first (backTo p3 (starEach [e] X.env)) []))
    (hσ : σ[0]? = some (some (.ref a))) (ha : H a = some (exo a C none)) (he : PE X e te) (ht : PSs X rest ts) (hq : te σ H fun x H1 => ([x] : List V).length = 1 ∧ H1 a = some (exo a C none) ∧ ts D σ H1) :
    PySem.wpAt (model X.prog X.w) X.A (.func bd X.env) (execs (.Expr (.Call (.Attribute (.Call (.Name "super" p0) [] [] p1) "__init__" p2) [e] [] p3) p4 :: rest) X.env) (SP X pins D) X.xe s := by
  obtain ⟨cl, cld, csl, hcell⟩ := U.cell
  obtain ⟨ccl, cdd, vs0, ccs, file, tf, hcode, hvs, hfile⟩ := U.code
  have KX := I.kIn
  refine PySem.ks_wpAt_execs_cons (PySem.ks_wpAt_Expr_any ?_ hint hsw)
  refine PySem.ks_wpAt_MethodCall ?_ hev
  refine PySem.ks_wpAt_super_base hks hkc rfl hfu (KX _ _ lk) rfl hp hco (KX _ _ hcode) rfl hvs hfile U.top ?_
  obtain ⟨mb, hb1, hb2⟩ := I.mod.blt
  refine PySem.W.ks_loadName_global I.ok.kind hks (Calls.loadGlobal_builtin (by rw [I.ok.glob]; exact I.mod.glob.keeps I.bk) U.mg (by rw [I.ok.blt]; exact hb1.keeps I.bk) ((hb2 "super" (by decide)).trans PyProof.Rows.Boot.«super») ⟨rfl, ?_⟩)
  refine wpAny_loadName_free I.ok.kind hkc hcells ⟨_, KX _ _ hcell, rfl⟩ ?_
  obtain ⟨m, hns, hlk⟩ := id I.loc
  have hl0 : m self = some (.ref a) := by
    obtain ⟨u, ru, hu⟩ := hlk 0 self _ hN0 hσ (.inl hself)
    obtain rfl : u = Value.ref a := ru
    rcases hu with ⟨_, z⟩ | ⟨z, _⟩
    · exact z
    · rcases z with z | z
      · have z : X.env.scope.names.lookup self = some .cell := z
        rw [hself] at z; cases z
      · have z : X.env.scope.names.lookup self = some .free := z
        rw [hself] at z; cases z
  rw [har]
  refine wpAny_loadName_local I.ok.kind hself hns hl0 ?_
  obtain ⟨nm, q, N', bs, bm, sn, sub, ab, col, dd, k0, k1, k2, k3, k5, hC, hbm⟩ := T.cls
  have hCh := KX _ _ hC
  have hcl : PySem.W.clsIn X.K C = some { name := nm, bases := bs, mro := .ref C :: bm, ns := N', qualname := q, hasDict := true, slotNames := sn, subclasses := sub, abstract := ab, collection := col, hasDel := false } := by unfold PySem.W.clsIn; rw [hC] <;> rfl
  refine PySem.ks_wpAny_isType_cls hCh rfl ⟨rfl, ?_⟩
  obtain ⟨t1, ho⟩ := exo_at I.hok ha
  obtain ⟨hp1, g, d, tk, os⟩ := s
  refine PySem.ks_wpAny_call_super hCh rfl ho rfl (fun c z => by cases z) (PySem.W.looks_mroIn KX (mro_self T)) fun h1 e1 k1' => ?_
  have I1 : Inv X pins σ H ⟨h1, g, d, tk, os⟩ := I.kept (t' := tk) k1'
  have ho1 := k1' _ _ ho
  have KX1 := I1.kIn
  have hsup := U.sup
  unfold PySem.W.ks_superIn at hsup
  rw [hcl, Option.bind_some] at hsup
  have IA : PySem.W.InstAt h1 a _ C none := ⟨ho1, rfl, rfl, trivial⟩
  have hI : PySem.W.Looks (model X.prog X.w) h1 (isInstance (.ref a) (.type "ValueError")) true := IA.type.andThen (PySem.W.looks_subIn KX1 U.exV)
  refine PySem.W.kxs_getMethod PySem.W.kxs_ValueError e1 (PySem.W.looks_opaque KX1 U.opq) (l₀ := .ref C :: bm) ?_ rfl KX1 hsup hI (PySem.W.ks_ne KX1 IA hcl) rfl ?_
  · exact fun A Q E s k q => wpAny_bind ((PySem.W.looks_clsIn KX1 hcl) A _ E s k (wpAny_pure q))
  have k2 : ∀ b o, h1.get? b = some o → (h1.push (PySem.W.kxs_mw "ValueError.__init__" a)).get? b = some o := fun b o z => Heap.get?_push_of_some _ z
  have I2 : Inv X pins σ H ⟨h1.push (PySem.W.kxs_mw "ValueError.__init__" a), g, d, tk + 1, os⟩ := I1.kept (t' := tk + 1) k2
  have I3 : Inv X ((h1.objs.size, PySem.W.kxs_mw "ValueError.__init__" a) :: pins) σ H ⟨h1.push (PySem.W.kxs_mw "ValueError.__init__" a), g, d, tk + 1, os⟩ := I2.pins_of fun p hp => by
    rcases List.mem_cons.mp hp with rfl | hp
    · exact ⟨Heap.get?_push_at rfl rfl, I1.hok.fresh (Nat.le_refl _), Nat.ne_of_gt I1.lt, I1.nofs (Nat.le_refl _), fun v z => by cases z⟩
    · exact I2.pin p (List.mem_append_right _ hp)
  show wpAny _ _ (callWith p3 (.ref h1.objs.size) [] (backTo p3 (starEach [e] X.env)) []) _ _ _
  have hpa : PA X [e] (tCons te tNil) := L2.pa_cons he L2.pa_nil he1
  have hrun := hpa.run p3 _ _ σ H (fun vs H1 => vs.length = 1 ∧ H1 a = some (exo a C none) ∧ ts D σ H1) I3 hq
  rw [he1] at hrun ⊢
  refine PySem.W.kxs_callWith (i := "ValueError.__init__") (x := a) (by rfl) (PySem.Calls.evalArgs_plain (wpAny_mono hrun (fun us s1 hu => ?_) fun _ _ z => z))
  obtain ⟨vs, H1, I4, r1, hvl, ha1, hq1⟩ := hu
  obtain ⟨hpin, _⟩ := I4.pin _ (List.mem_append_right _ List.mem_cons_self)
  refine ⟨hpin, ?_⟩
  obtain ⟨t2, ho2⟩ := exo_at I4.hok ha1
  obtain ⟨hp2, g2, d2, tk2, os2⟩ := s1
  have hlen : us.length ≤ sizeLine := by
    rw [← Paired.length r1, hvl, sizeLine_eq]
    decide
  refine call_bwV (I4.kIn _ _ hC) ho2 hpin hlen fun h3 t3 k3' hx => ?_
  have J := I4.write (t' := tk2) (x := a) (e := a) (o := exo a C none) (by rw [ha1]; exact True.intro) (.inl rfl) k3' ⟨_, hx⟩ (exo_ok hx)
  have eu : upd H1 a (exo a C none) = H1 := by
    funext b
    by_cases hb : b = a
    · rw [hb, upd_same, ha1]
    · rw [upd_ne hb]
  rw [eu] at J
  have J2 : Inv X pins σ H1 ⟨h3, g2, d2, tk2, os2⟩ := J.pins_of fun p hp => J.pin p (List.mem_append_right _ (List.mem_cons_of_mem _ hp))
  exact PySem.wpAt_of_wpAny (ht.run pins _ σ H1 D J2 hq1)
/-- THE RULE: an own exception's __init__ that says super().__init__(e), then rest -/
theorem fn_super (body : List Stmt) (hbd : body = .Expr (.Call (.Attribute (.Call (.Name "super" p0) [] [] p1) "__init__" p2) [e] [] p3) p4 :: rest)
    (lk : K.lookup f = some ⟨oc, od, .func (PySem.W.fnX name qual params body scope [("__class__", cc)] dV kV doc pm an (.ref cda) ct), osl⟩) (hcd : PySem.W.codeIn K (.ref cda) qual = true) (S : NScope N ps ["__class__"] scope)
    (hp : (params.posonlyargs ++ params.args).head? = some ar) (har : ar.arg = self) (hN0 : N[0]? = some self) (hself : scope.names.lookup self = some .local) (hks : scope.names.lookup ("super" : Str) = some .globalImplicit)
    (T : OexC K C) (U : SupC P K mg cc cda C) (len : ∀ vs H Q E, sp vs H Q E → vs.length = ps.length)
    (hbody : ∀ (A : Around) (outer : List PySem.Env) (s : Shared) (H : Hp) (vs : List V) (Q : VK) (E : XK), sp vs H Q E →
      ∃ te ts, PE (ncx CX P w K mg base N (NFs name qual params body scope cc cda) f A outer s H E) e te ∧ PSs (ncx CX P w K mg base N (NFs name qual params body scope cc cda) f A outer s H E) rest ts ∧
        ∃ a ws, vs = .ref a :: ws ∧ H a = some (exo a C none) ∧ te (startF N vs [some (.ref C)]) H fun x H1 => ([x] : List V).length = 1 ∧ H1 a = some (exo a C none) ∧ ts { nx := fun _ H' => Q .non H', rt := Q } (startF N vs [some (.ref C)]) H1)
    {pl : PySem.Env → Sem Bool} (hev : ∀ env : PySem.Env, eval (.Call (.Attribute (.Call (.Name "super" p0) [] [] p1) "__init__" p2) [e] [] p3) env = (do
      let ov ← attributeBase (.Call (.Name "super" p0) [] [] p1) "__init__" env (eval (.Call (.Name "super" p0) [] [] p1) env)
      standAt p2.atName
      let (f, first) ← holding [ov] (getMethod ov "__init__" (pl env))
      callWith p3 f first (backTo p3 (starEach [e] env)) []))
    (hint : ∀ (q : Str) (L a : Addr) (cd : Value) (cl : List (Str × Addr)), interactive (PySem.W.envX q scope L a cd cl) = false) (hsw : ∀ env : PySem.Env, swapsWith (.Call (.Attribute (.Call (.Name "super" p0) [] [] p1) "__init__" p2) [e] [] p3) none p4.line env = pure false := by intro _; rfl) (he1 : ∀ env : PySem.Env, starEach [e] env = [(false, eval e env)] := by intro _; rfl) :
    FnOk P w K mg base CX (k + 1) f (PySem.W.fnX name qual params body scope [("__class__", cc)] dV kV doc pm an (.ref cda) ct) ps sp := by
  refine ⟨len, fun A outer s H args us vs Q E hr e0 hb r hsp => ?_⟩
  have hl := len _ _ _ _ hsp
  have kb : ∀ b o, base.get? b = some o → s.heap.get? b = some o := fun b o e => (e0.bs b o e).1
  have KX : K.In s.heap := e0.mod.kin.keeps kb
  have lim : s.heap.NoLimit := e0.mod.nolimit.keeps kb
  obtain ⟨cl, cld, csl, hcell⟩ := U.cell
  obtain ⟨ccl, cdd, vs0, ccs, file, tf, hcode, hvs, hfile⟩ := U.code
  obtain ⟨te, ts, he, ht, a, ws, hvs1, ha, hq⟩ := hbody A outer s H vs Q E hsp
  have CA : CellsAt [(("__class__" : Str), cc)] ["__class__"] [some (.ref C)] s.heap H := by
    refine ⟨rfl, fun y c z => ?_, fun x y c z1 z2 => ?_, fun i y z => ?_⟩
    · have : c = cc := by
        simp only [List.lookup] at z
        split at z
        · cases z; rfl
        · cases z
      subst this
      exact ⟨(e0.bs _ _ (e0.mod.kin _ _ hcell)).2, _, _, KX _ _ hcell, rfl⟩
    · rw [lookup_put (α := Addr)] at z1 z2
      by_cases h1 : x = "__class__"
      · by_cases h2 : y = "__class__"
        · rw [h1, h2]
        · rw [if_neg h2] at z2; cases z2
      · rw [if_neg h1] at z1; cases z1
    · match i with
      | 0 =>
        simp at z
        subst z
        refine ⟨cc, by simp [List.lookup], fun v q => ?_⟩
        simp at q
        subst q
        exact ⟨.ref C, rfl, _, KX _ _ hcell, rfl⟩
      | i + 1 => simp at z
  refine PySem.ks_codeAny_call_defAt (body := body) hr.depth (KX _ _ lk) rfl lim (PySem.W.codeRec_of KX hcd) rfl hb S.nocell (fun ⟨n, v⟩ hy => S.par n (List.of_mem_zip hy).1) (fun h₁ hns kp => ?_) S.co S.gen S.kind
  have I : Inv (ncx CX P w K mg base N (NFs name qual params body scope cc cda) f A outer s H E) [] (startF N vs [some (.ref C)]) H { s with heap := h₁, toks := s.toks + (ps.zip us).length } := inv_startN S hr.hd e0 hl r CA hns kp
  show PySem.wpAt _ (A.deeper (envF (NFs name qual params body scope cc cda) f s.heap.objs.size)) (.func body (envF (NFs name qual params body scope cc cda) f s.heap.objs.size)) (execs body (envF (NFs name qual params body scope cc cda) f s.heap.objs.size)) _ _ _
  subst hbd
  obtain ⟨t, ht2⟩ : ∃ t : Nat, t = s.toks + (ps.zip us).length := ⟨_, rfl⟩
  have hrun := super_stmt (bd := .Expr (.Call (.Attribute (.Call (.Name "super" p0) [] [] p1) "__init__" p2) [e] [] p3) p4 :: rest) (p0 := p0) (p1 := p1) (p2 := p2) (p3 := p3) (p4 := p4) (D := { nx := fun _ H' => Q .non H', rt := Q }) I T U rfl lk hp har rfl (lookup_put _ _ _ _) hks (S.frk _ List.mem_cons_self) hN0 hself (hint _ _ _ _ _) (hsw _) (he1 _) (hev _) (by subst hvs1; rfl) ha he ht hq
  refine PySem.ks_wpAt_mono hrun (fun fl s' hs => ?_) fun e s' hs => hs
  have fin : ∀ {σ' : L2.St} {H' : Hp} {v : V} {u : Value}, Inv (ncx CX P w K mg base N (NFs name qual params (.Expr (.Call (.Attribute (.Call (.Name "super" p0) [] [] p1) "__init__" p2) [e] [] p3) p4 :: rest) scope cc cda) f A outer s H E) [] σ' H' s' → L2.RelV v u → Q v H' → CE outer P w H s Q u s' :=
    fun {σ' H' v u} J rv q => ⟨v, H', J.os, J.bare, J.base, J.hok, rv, q⟩
  cases fl with
  | ret u =>
    obtain ⟨v, σ', H', J, rv, q⟩ := hs
    exact fin J rv q
  | next =>
    obtain ⟨σ', H', J, q⟩ := hs
    exact fin (v := V.non) (u := Value.none) J rfl q
  | brk =>
    obtain ⟨_, _, _, q⟩ := hs
    exact False.elim q
  | cont =>
    obtain ⟨_, _, _, q⟩ := hs
    exact False.elim q
end
/-! ### an own exception class over ValueError whose __init__ says super().__init__(f'msg{fld}'), self.fld = fld -/
/-- the shape of its __init__ -/
structure ShX (st : Stmt) (msg fld : Str) : Prop where
  body : ∃ p0 p1 p2 p3 p4 pa pb pc pd q1 q2 q3 q4, ((p2.endLine == p3.line) = true) ∧ defBody st = [.Expr (.Call (.Attribute (.Call (.Name "super" p0) [] [] p1) "__init__" p2) [.JoinedStr [.Constant (.str msg) 0 pa, .FormattedValue (.Name fld pb) (-1) none pc] pd] [] p3) p4, .Assign [.Attribute (.Name "self" q1) fld q2] (.Name fld q3) q4]
  sc : NScope ["self", fld, "__class__"] ["self", fld] ["__class__"] (defScope st)
  par : ∃ ar, ((defArgs st).posonlyargs ++ (defArgs st).args).head? = some ar ∧ ar.arg = "self"
  self : (defScope st).names.lookup ("self" : Str) = some .local
  sup : (defScope st).names.lookup ("super" : Str) = some .globalImplicit
  fl : (defScope st).names.lookup fld = some .local
  dbg : (fld == ("__debug__" : Str)) = false
  cd : (fld == ("__classdict__" : Str)) = false
  len : msg.length ≤ 1000
  bind : ∀ (cl : List (Str × Addr)) (qual : Str) (kV doc pm : Value) (an : Option Addr) (cdv ct : Value) (us : List Value), us.length = 2 → bindArgs (PySem.W.fnX "__init__" qual (defArgs st) (defBody st) (defScope st) cl .none kV doc pm an cdv ct) ⟨us, []⟩ = pure ((["self", fld] : List Str).zip us)
/-- what the top has written of it -/
structure XTxt (P : Program) (K : PySem.W.Frag) (mg : Str → Option Value) (x qual fld : Str) (st : Stmt) (C fI cc cda : Addr) : Prop where
  gC : mg x = some (.ref C)
  oex : OexC K C
  sup : SupC P K mg cc cda C
  iC : PySem.W.findIn K (.ref C) "__init__" = some (some (.ref fI))
  tI : PySem.W.typeIn K (.ref fI) = some (.type "function")
  no : PySem.W.findIn K (.ref C) fld = some none
  fn : ∃ (oc : Value) (od : Option Addr) (kV doc pm : Value) (an : Option Addr) (ct : Value) (osl : Array (Option Value)), K.lookup fI = some ⟨oc, od, .func (PySem.W.fnX "__init__" qual (defArgs st) (defBody st) (defScope st) [("__class__", cc)] .none kV doc pm an (.ref cda) ct), osl⟩ ∧ PySem.W.codeIn K (.ref cda) qual = true
/-- its promise -/
def spInit (C : Addr) (fld : Str) : Sp := fun vs H Q _ => ∃ (a : Addr) (y : Str), vs = [.ref a, .str y] ∧ y.length ≤ 1000 ∧ H a = some (exo a C none) ∧ ∀ dx, H dx = none → dx ≠ a → Q .non (upd (upd H dx (exd dx [(fld, .str y)])) a (exo a C (some dx)))
section
variable {P : Program} {w : World} {K : PySem.W.Frag} {mg : Str → Option Value} {base : Heap} {CX : CXT} {x qual fld msg : Str} {st : Stmt} {C fI cc cda : Addr}
theorem Str.len_app (a b : Str) : (a ++ b).length = a.length + b.length := by
  show (a.cps ++ b.cps).size = a.cps.size + b.cps.size
  exact Array.size_append
theorem hev_fmt {p0 p1 p2 p3 pa pb pc pd : Pos} (hl : (p2.endLine == p3.line) = true) (env : PySem.Env) : eval (.Call (.Attribute (.Call (.Name "super" p0) [] [] p1) "__init__" p2) [.JoinedStr [.Constant (.str msg) 0 pa, .FormattedValue (.Name fld pb) (-1) none pc] pd] [] p3) env = (do
      let ov ← attributeBase (.Call (.Name "super" p0) [] [] p1) "__init__" env (eval (.Call (.Name "super" p0) [] [] p1) env)
      standAt p2.atName
      let (f, first) ← holding [ov] (getMethod ov "__init__" (do return (← importBound (.Call (.Name "super" p0) [] [] p1) env).getD true))
      callWith p3 f first (backTo p3 (starEach [.JoinedStr [.Constant (.str msg) 0 pa, .FormattedValue (.Name fld pb) (-1) none pc] pd] env)) []) := by
  have h1 : methodCallPos true (.Call (.Name "super" p0) [] [] p1) env p2 p3 = pure p3 := by
    unfold methodCallPos
    rw [hl]
    rfl
  have h2 : eval (.Call (.Attribute (.Call (.Name "super" p0) [] [] p1) "__init__" p2) [.JoinedStr [.Constant (.str msg) 0 pa, .FormattedValue (.Name fld pb) (-1) none pc] pd] [] p3) env = (do
      let ov ← attributeBase (.Call (.Name "super" p0) [] [] p1) "__init__" env (eval (.Call (.Name "super" p0) [] [] p1) env)
      standAt p2.atName
      let (f, first) ← holding [ov] (getMethod ov "__init__" (do return (← importBound (.Call (.Name "super" p0) [] [] p1) env).getD true))
      let cp ← methodCallPos true (.Call (.Name "super" p0) [] [] p1) env p2 p3
      callWith cp f first (backTo p3 (starEach [.JoinedStr [.Constant (.str msg) 0 pa, .FormattedValue (.Name fld pb) (-1) none pc] pd] env)) []) := by rfl
  rw [h2, h1]
  simp only [pure_bind]
theorem XTxt.ok (T : XTxt P K mg x qual fld st C fI cc cda) (S : ShX st msg fld) : ∃ fd, FnOk P w K mg base CX 1 fI fd ["self", fld] (spInit C fld) ∧ Binds K fd ["self", fld] [] := by
  obtain ⟨oc, od, kV, doc, pm, an, ct, osl, lk, hcd⟩ := T.fn
  obtain ⟨p0, p1, p2, p3, p4, pa, pb, pc, pd, q1, q2, q3, q4, hln, hbd⟩ := S.body
  obtain ⟨ar, hp, har⟩ := S.par
  refine ⟨_, fn_super (k := 0) (name := "__init__") (self := "self") (defBody st) hbd lk hcd S.sc hp har rfl S.self S.sup T.oex T.sup (fun vs H Q E h => ?_) (fun A outer s H vs Q E h => ?_) (fun env => hev_fmt hln env) (fun q L a cd cl => ?_), .all (S.bind _ _ _ _ _ _ _ _)⟩
  · obtain ⟨a, y, rfl, _⟩ := h
    rfl
  · obtain ⟨a, y, rfl, hy, ha, hq⟩ := h
    refine ⟨_, _, pe_joined (PJ.cons pe_str (PJ.cons (pe_fmt (pe_var (i := 1) rfl (.inl S.fl) S.dbg S.cd)) PJ.nil)), pss_one (ps_ost (pe_var (i := 0) rfl (.inl S.self)) (pe_var (i := 1) rfl (.inl S.fl) S.dbg S.cd)), a, [.str y], rfl, ha, ?_⟩
    have hm := S.len
    refine ⟨_, rfl, ?_, .str y, rfl, .inl ⟨y, rfl, big (by omega), _, rfl, ?_, rfl, ha, .str y, rfl, .ref a, rfl, a, C, rfl, T.oex, T.no, .inl ⟨ha, hq⟩⟩⟩
    · rw [Str.len_app]
      exact big (by show 0 + msg.length ≤ _; omega)
    · rw [Str.len_app, Str.len_app]
      exact big (by show 0 + msg.length + y.length ≤ _; omega)
  · unfold interactive
    rw [show (PySem.W.envX q (defScope st) L a cd cl).scope.kind = .function from S.sc.kind]
    rfl
end
end Wk
namespace Wk
open PySem PySem.Spec PyProof.Rows L2
/-! ### raise of an own exception -/
/-- the class of this name, at C, whose one field is fld -/
structure Xc (P : Program) (w : World) (K : Fr) (mg : Str → Option Value) (base : Heap) (x fld : Str) (C : Addr) : Prop where
  gC : mg x = some (.ref C)
  oex : OexC K C
  iC : ∃ fI fd, PySem.W.findIn K (.ref C) "__init__" = some (some (.ref fI)) ∧ PySem.W.typeIn K (.ref fI) = some (.type "function") ∧ FnOk P w K mg base CX0 1 fI fd ["self", fld] (spInit C fld) ∧ Binds K fd ["self", fld] []
theorem XTxt.xc {P : Program} {w : World} {K : Fr} {mg : Str → Option Value} {base : Heap} {x qual fld msg : Str} {st : Stmt} {C fI cc cda : Addr} (T : XTxt P K mg x qual fld st C fI cc cda) (S : ShX st msg fld) : Xc P w K mg base x fld C := by
  obtain ⟨fd, h1, h2⟩ := T.ok (w := w) (base := base) (CX := CX0) S
  exact ⟨T.gC, T.oex, fI, fd, T.iC, T.tI, h1, h2⟩
def pRaise (ex : Addr → List (Str × Dt) → Prop) (C : Addr) (fld : Str) (pr : PTA) : PTS := fun _ ρ => pr ρ fun ws _ => ∃ y : Str, ws = [.dat (.str y)] ∧ y.length ≤ 1000 ∧ ex C [(fld, .str y)]
section
variable {X : Cx} {W : Wx} {e : Expr} {tr : TA} {pr : PTA} {x fld : Str} {C : Addr} {p pos pos2 : Pos}
theorem ps_raise' (hc : X.calm = true) (tk : Takes X (fun c d _ H => W.xk c d H)) (c : Xc X.prog X.w X.K X.mg X.base x fld C) (hr : Room 2 X.A) (ha : PAr X W [e] tr pr) (hg : Gl X x := by rfl) (hdb : (x == ("__debug__" : Str)) = false := by decide)
    (he : starEach [e] X.env = (false, eval e X.env) :: starEach [] X.env := by rfl) (hpl : (backTo pos (starEach [] X.env)).any (·.1) = false := by rfl) :
    PSt X W (.Raise (some (.Call (.Name x p) [e] [] pos)) none pos2) (fun _ σ H => tMkO C (spInit C fld) [] tr σ H fun cls d H' => W.xk cls d H') (pRaise W.ex C fld pr) := by
  obtain ⟨fI, fd, iC, tI, F1, hb⟩ := c.iC
  refine ⟨ps_raise hc tk (pmk_oex c.oex iC tI F1 hr hb .nil pass0 hg c.gC ha.pa hdb he hpl), fun Cc ok D ρ h F σ H hd Dc ed => ?_⟩
  refine ha.sim Cc ok ρ _ h F σ H hd _ fun ws ρ1 vs F1 H1 h1 e1 hd1 r1 => ?_
  obtain ⟨y, rfl, hy, hex⟩ := h1
  cases r1 with
  | cons r s =>
    cases s
    have r : Rep X.K F1 _ (.str y) := r
    cases r
    refine ⟨(by decide : 1 ≤ 1000), fun a ha => ⟨a, y, rfl, hy, upd_same, fun dx hn hne => ⟨rfl, dx, [(fld, .str y)], upd_same, ?_, ?_, ?_⟩⟩⟩
    · rw [upd_ne hne, upd_same]
    · rw [upd_ne hne] at hn
      exact hn
    · rw [upd_ne hne] at hn
      have e : upd (del (upd (upd (upd H1 a (exo a C none)) dx (exd dx [(fld, .str y)])) a (exo a C (some dx))) a) dx (.xd [(fld, .str y)]) = upd H1 dx (.xd [(fld, .str y)]) := by
        funext b
        by_cases h1 : b = dx
        · rw [h1, upd_same, upd_same]
        · rw [upd_ne h1, upd_ne h1]
          by_cases h2 : b = a
          · rw [h2, del_same, ha]
          · rw [del_ne h2, upd_ne h2, upd_ne h1, upd_ne h2]
      rw [e]
      have nd : ∀ {b : Addr} {o : HO}, H1 b = some o → b ≠ dx := fun {b o} q z => by rw [z, hn] at q; cases q
      refine ok C dx [(fld, .str y)] [(fld, .str y)] F1 _ hex (.cons ⟨rfl, .str y⟩ .nil) hd1.f0 (fun b o q => ?_) hd1.new (fun b o q => ?_) (fun b o q => ?_) upd_same (hd1.free0 hn)
      · rw [upd_ne (nd (hd1.sub b o q))]
        exact hd1.sub b o q
      · obtain ⟨o', y1, y2⟩ := hd1.old b o q
        exact ⟨o', by rw [upd_ne (nd y1)]; exact y1, y2⟩
      · obtain ⟨k1, k2, k3, k4⟩ := hd1.kept b o q
        exact ⟨by rw [upd_ne (nd k1)]; exact k1, k2, k3, nd k1⟩
end
/-! ### a def that may raise -/
/-- the def of this name keeps the promise; it may raise -/
structure CalX (P : Program) (w : World) (K : Fr) (mg : Str → Option Value) (base : Heap) (k : Nat) (x : Str) (n : Nat) (spec : FSpec) : Prop where
  ex : ∃ f fd ps, FnOk P w K mg base (L2.CX P w) k f fd ps (spF K n spec) ∧ mg x = some (.ref f) ∧ PySem.W.keepIn K (.ref f) = true ∧ Binds K fd ps []
section
variable {P : Program} {w : World} {K : Fr} {mg : Str → Option Value} {base : Heap} {x : Str} {st : Stmt} {N ps : List Str} {k : Nat} {spec : FSpec}
theorem calX_of (D : Df K mg x st) (S : FnScope N ps (defScope st)) (hb : BindOk x st ps)
    (body : ∀ (f : Addr) (cdv : Value) (A : Around) (outer : List PySem.Env) (s : Shared) (H : Hp) (E : XK) (Ex : Addr → List (Str × Dt) → Prop), Room k (A.deeper (PyProof.Rows.envOfC x (defScope st) s.heap.objs.size f cdv)) →
      ∃ ts t, PSts (cxOf (L2.CX P w) P w K mg base N x (defScope st) f cdv A outer s H E) ⟨E, Ex⟩ (defBody st) ts t ∧
        ∀ es P' ρ0, es.length = ps.length → spec es P' Ex → es.map some ++ List.replicate (N.length - es.length) none = ρ0 → t (endsF es P') ρ0) : CalX P w K mg base (k + 1) x ps.length spec := by
  obtain ⟨f, fd, F, hm⟩ := D.ex
  refine ⟨f, fd, ps, F.okX S (fun vs H Q E h => ?_) (fun cdv A outer s H vs Q E hr h => ?_), hm, F.kp, F.binds hb⟩
  · obtain ⟨F, es, as, P', Ex, h1, h2, h3, _⟩ := h
    rw [h3.length, h1]
  · obtain ⟨F0, es, as, P', Ex, h1, h2, h3, h4, h5, h6, h7⟩ := h
    obtain ⟨ts, t, ht, hb⟩ := body f cdv A outer s H E Ex hr
    refine ⟨ts, ht.pss, ?_⟩
    have hd := start_hd (N := N) h2 h3 h4
    refine ht.sim _ (fun c dd fs xs F H' hx r x0 x1 nw od kp hdd h0 => ?_) _ _ (hb es P' _ h1 h5 rfl) F0 _ H hd _ (ends_ok h2 h3 h4 h6)
    exact h7 c dd fs xs F H' hx r x0 x1 nw (fun a o q => by
      obtain ⟨o', g1, g2⟩ := od a o q
      exact ⟨o', g1, fun hn => g2 fun i hm => hn (List.of_mem_zip hm).2⟩) hdd h0
end
section
variable {X : Cx} {W : Wx} {e : Expr} {es : List Expr} {pos : Pos} {tr : TA} {pr : PTA} {k n : Nat} {spec : FSpec} {x : Str} {p : Pos}
theorem pd_calX (c : CalX X.prog X.w X.K X.mg X.base k x n spec) (hr : Room k X.A) (hx : Passes (L2.CX X.prog X.w) X W.xk) (ha : PAr X W (e :: es) tr pr)
    (hg : Gl X x := by rfl) (hdb : (x == ("__debug__" : Str)) = false := by decide) (he : starEach (e :: es) X.env = (false, eval e X.env) :: starEach es X.env := by rfl) (hpl : (backTo pos (starEach es X.env)).any (·.1) = false := by rfl) :
    PD X W (.Call (.Name x p) (e :: es) [] pos) (tCall (spF X.K n spec) [] W.xk tr) (pCallD n spec W.ex pr) := by
  obtain ⟨f, fd, ps, G, hm, hk, hb⟩ := c.ex
  exact pd_callX G hr hm hk hb hx ha hg hdb he hpl
end
/-! ### the suite of a try -/
/-- isinstance(e, T), e the exception that the suite holds -/
def rIsX (K : Fr) (a : Addr) (cls : Value) (d : Option Addr) : List V → Hp → VK → Prop := fun xs H Q => ∃ (t : V) (cv : Value) (b : Bool) (c dd : Addr) (fs : List (Str × V)), xs = [.ref a, t] ∧ cls = .ref c ∧ d = some dd ∧ ExcC K c ∧ (∀ u, L2.RelV t u → u = cv) ∧
  PySem.W.kitOne K (.ref c) cv = some b ∧ H dd = some (.xd fs) ∧ Q (.bl b) H
theorem call_isX {X : Cx} {a : Addr} {cls : Value} {d : Option Addr} {oe : Obj} {pn : List (Addr × Obj)} (hz : Zc cls d oe) (hf : ∃ vs, oe.data = .fields vs) : CallR (X.suite a ((a, oe) :: pn)) (.builtin "isinstance") (rIsX X.K a cls d) := by
  intro pins s σ H xs us Q I r h
  obtain ⟨t, cv, b, c, dd, fs, rfl, rfl, rfl, C, hcv, e, hdd, q⟩ := h
  cases r with
  | cons rx rr =>
    cases rr with
    | cons rt rr =>
      cases rr
      cases rx
      have ec := hcv _ rt
      subst ec
      obtain ⟨hget, _⟩ := I.pin (a, oe) (List.mem_append.mpr (.inl List.mem_cons_self))
      obtain ⟨vs, hv⟩ := hf
      have hx : ObjOk X.prog X.w H s.heap dd (.xd fs) := I.hok dd _ hdd
      obtain ⟨mA, hns, hr⟩ := hx
      obtain ⟨od, ho, hl⟩ := lookIn_ns hns
      have J : PySem.W.InstAt s.heap a oe c (some od) := ⟨hget, hz.1, by unfold PySem.W.notCls; rw [hv] <;> rfl, by rw [hz.2]; exact ho⟩
      have hcl : (PySem.W.clsIn X.K c).isSome = true := by
        obtain ⟨cd, hc, _⟩ := PySem.W.any_some C.hd
        rw [hc]; rfl
      exact PySem.W.kia_one (PySem.W.kitx_exc hcl C.hg C.hk C.hs C.ha C.hn C.ht C.hm) I.kIn J e (fun z => nomatch z) fun tk => ⟨.bl b, H, I.kept (t' := tk) fun _ _ z => z, rfl, q⟩
/-- err.f -/
def tXf2 (K : Fr) (a : Addr) (cls : Value) (d : Option Addr) (f : Str) (te : TE) : TE := fun σ H Q => te σ H fun x H1 => x = .ref a ∧ ∃ (c dd : Addr) (fs : List (Str × V)) (v : V), cls = .ref c ∧ XfC K c ∧ PySem.W.findIn K (.ref c) f = some none ∧ d = some dd ∧ H1 dd = some (.xd fs) ∧ fs.lookup f = some v ∧ Q v H1
theorem pe_xf2 {X : Cx} {a : Addr} {oe : Obj} {cls : Value} {d : Option Addr} {pn : List (Addr × Obj)} {e : Expr} {te : TE} {pos : Pos} {n : Str} (hz : Zc cls d oe) (hf : ∃ vs, oe.data = .fields vs) (he : PE (X.suite a ((a, oe) :: pn)) e te)
    (hb : attributeBase e n X.env (eval e X.env) = eval e X.env := by rfl) : PE (X.suite a ((a, oe) :: pn)) (.Attribute e n pos) (tXf2 X.K a cls d n te) := by
  refine ⟨fun pins s σ H Q I h => ?_⟩
  refine attr_of hb (thn (he.run pins s σ H _ I h) fun u s1 hh => ?_)
  obtain ⟨x, H1, I1, rx, ex, c, dd, fs, v, ec, T, hno, ed, ea, l, q⟩ := hh
  subst ex
  obtain rfl : u = Value.ref a := rx
  subst ec
  subst ed
  obtain ⟨ha, _⟩ := I1.pin (a, oe) (List.mem_append_left _ List.mem_cons_self)
  obtain ⟨vs, hd⟩ := hf
  have hx : ObjOk X.prog X.w H1 s1.heap dd (.xd fs) := I1.hok dd _ ea
  obtain ⟨mA, hns, hr⟩ := hx
  obtain ⟨od, ho, hl⟩ := lookIn_ns hns
  obtain ⟨u, hu, ru⟩ := RelO.some_of (v := v) (o := mA n) (by rw [← l]; exact hr n)
  have J : PySem.W.InstAt s1.heap a oe c (some od) := ⟨ha, hz.1, by unfold PySem.W.notCls; rw [hd] <;> rfl, by rw [hz.2]; exact ho⟩
  exact HandSPX.exc_get I1.kIn J T.ga T.gg T.exC (PySem.W.findObj_own T.hdC hno rfl (by rw [hl, hu])) (handed_of ru) ⟨v, H1, I1.tok _, ru, q⟩
theorem repXs_look {K : Fr} {F : Hp} : ∀ {vs : List (Str × V)} {fs : List (Str × Dt)}, RepXs K F vs fs → ∀ {f : Str} {d : Dt}, fs.lookup f = some d → ∃ v, vs.lookup f = some v ∧ Rep K F v d
  | _, _, .nil, _, _, h => by simp at h
  | _, _, .cons (k := k) (v := v) (vs := vs) (d := d0) (ds := ds) r s, f, d, h => by
    rw [lookup_put] at h
    by_cases e : f = k
    · rw [if_pos e] at h
      cases h
      exact ⟨v, by rw [lookup_put, if_pos e], r⟩
    · rw [if_neg e] at h
      obtain ⟨u, h1, h2⟩ := repXs_look s h
      exact ⟨u, by rw [lookup_put, if_neg e]; exact h1, h2⟩
def pIsX (K : Fr) (a : Addr) (cls : Value) (d : Option Addr) (cv : Value) (pa : PTE) : PTE := fun ρ P => pa ρ fun y ρ1 => ∃ c dd fs b, y = .exc a c dd fs ∧ cls = .ref c ∧ d = some dd ∧ ExcC K c ∧ PySem.W.kitOne K (.ref c) cv = some b ∧ P (.bl b) ρ1
def pXf (K : Fr) (a : Addr) (cls : Value) (d : Option Addr) (f : Str) (pa : PTE) : PTE := fun ρ P => pa ρ fun y ρ1 => ∃ c dd fs z, y = .exc a c dd fs ∧ cls = .ref c ∧ d = some dd ∧ XfC K c ∧ PySem.W.findIn K (.ref c) f = some none ∧ fs.lookup f = some z ∧ P z ρ1
section
variable {X : Cx} {W : Wx} {a : Addr} {cls : Value} {d : Option Addr} {oe : Obj} {pn : List (Addr × Obj)} {e : Expr} {te : TE} {pe : PTE} {pos pp : Pos}
/-- isinstance of the held exception and a class by its name -/
theorem pd_isXo {x : Str} {p2 : Pos} {cv : Value} {t : V} (hz : Zc cls d oe) (hf : ∃ vs, oe.data = .fields vs) (hm : X.mg "isinstance" = none) (ha : PD (X.suite a ((a, oe) :: pn)) W e te pe)
    (hT : PE (X.suite a ((a, oe) :: pn)) (.Name x p2) (tC t)) (ht : ∀ u, L2.RelV t u → u = cv) (hg : Gl X "isinstance" := by rfl)
    (hs : starEach [e, .Name x p2] X.env = (false, eval e X.env) :: starEach [.Name x p2] X.env := by rfl) (hs2 : starEach [.Name x p2] X.env = (false, eval (.Name x p2) X.env) :: starEach [] X.env := by rfl) (hpl : (backTo pos (starEach [.Name x p2] X.env)).any (·.1) = false := by rfl) :
    PD (X.suite a ((a, oe) :: pn)) W (.Call (.Name "isinstance" pp) [e, .Name x p2] [] pos) (tCB (rIsX X.K a cls d) (tCons te (tCons (tC t) tNil))) (pIsX X.K a cls d cv pe) :=
  ⟨pe_callB (call_isX hz hf) hg hm (by decide +kernel) (L2.pa_cons ha.pe (L2.pa_cons hT L2.pa_nil hs2) hs) (by decide) (by decide) hs hpl,
  fun C ok ρ P h F σ H hd Q q => ha.sim C ok ρ _ h F σ H hd _ fun y ρ1 v F1 H1 h1 e1 hd1 r1 => by
    obtain ⟨c, dd, fs, b, rfl, rfl, rfl, hC, hk, hP⟩ := h1
    cases r1 with
    | exc hf' hr => exact ⟨t, cv, b, c, dd, _, rfl, rfl, rfl, hC, ht, hk, hd1.sub _ _ hf', q _ ρ1 _ F1 H1 hP e1 hd1 (.bl b)⟩⟩
theorem pd_isX {x : Str} {p2 : Pos} {C : Addr} (hz : Zc cls d oe) (hf : ∃ vs, oe.data = .fields vs) (hm : X.mg "isinstance" = none) (gC : X.mg x = some (.ref C)) (ha : PD (X.suite a ((a, oe) :: pn)) W e te pe) (hg : Gl X "isinstance" := by rfl) (hgx : Gl X x := by rfl) (hdb : (x == ("__debug__" : Str)) = false := by decide)
    (hs : starEach [e, .Name x p2] X.env = (false, eval e X.env) :: starEach [.Name x p2] X.env := by rfl) (hs2 : starEach [.Name x p2] X.env = (false, eval (.Name x p2) X.env) :: starEach [] X.env := by rfl) (hpl : (backTo pos (starEach [.Name x p2] X.env)).any (·.1) = false := by rfl) :
    PD (X.suite a ((a, oe) :: pn)) W (.Call (.Name "isinstance" pp) [e, .Name x p2] [] pos) (tCB (rIsX X.K a cls d) (tCons te (tCons (tC (.ref C)) tNil))) (pIsX X.K a cls d (.ref C) pe) :=
  pd_isXo hz hf hm ha (pe_glob (X := X.suite a ((a, oe) :: pn)) hgx gC rfl hdb) (fun u hu => hu) hg hs hs2 hpl
theorem pd_isXb {x : Str} {p2 : Pos} {T : String} (hz : Zc cls d oe) (hf : ∃ vs, oe.data = .fields vs) (hm : X.mg "isinstance" = none) (hT : X.mg x = none) (ha : PD (X.suite a ((a, oe) :: pn)) W e te pe) (hv : bootBuiltins x = some (.type T)) (hg : Gl X "isinstance" := by rfl) (hgx : Gl X x := by rfl) (hnx : x ≠ "__name__" := by decide) (hdb : (x == ("__debug__" : Str)) = false := by decide)
    (hs : starEach [e, .Name x p2] X.env = (false, eval e X.env) :: starEach [.Name x p2] X.env := by rfl) (hs2 : starEach [.Name x p2] X.env = (false, eval (.Name x p2) X.env) :: starEach [] X.env := by rfl) (hpl : (backTo pos (starEach [.Name x p2] X.env)).any (·.1) = false := by rfl) :
    PD (X.suite a ((a, oe) :: pn)) W (.Call (.Name "isinstance" pp) [e, .Name x p2] [] pos) (tCB (rIsX X.K a cls d) (tCons te (tCons (tC (.ty T)) tNil))) (pIsX X.K a cls d (.type T) pe) :=
  pd_isXo hz hf hm ha (pe_bltn (X := X.suite a ((a, oe) :: pn)) hgx hT hv rfl hnx hdb) (fun u hu => hu) hg hs hs2 hpl
/-- err.f -/
theorem pd_xf {n : Str} (hz : Zc cls d oe) (hf : ∃ vs, oe.data = .fields vs) (he : PD (X.suite a ((a, oe) :: pn)) W e te pe) (hb : attributeBase e n X.env (eval e X.env) = eval e X.env := by rfl) :
    PD (X.suite a ((a, oe) :: pn)) W (.Attribute e n pos) (tXf2 X.K a cls d n te) (pXf X.K a cls d n pe) :=
  ⟨pe_xf2 hz hf he.pe hb, fun C ok ρ P h F σ H hd Q q => he.sim C ok ρ _ h F σ H hd _ fun y ρ1 v F1 H1 h1 e1 hd1 r1 => by
    obtain ⟨c, dd, fs, z, rfl, rfl, rfl, hC, hno, hl, hP⟩ := h1
    cases r1 with
    | exc hf' hr =>
      obtain ⟨u, l2, r2⟩ := repXs_look hr hl
      exact ⟨rfl, c, dd, _, u, rfl, hC, hno, rfl, hd1.sub _ _ hf', l2, q _ ρ1 _ F1 H1 hP e1 hd1 r2⟩⟩
end
/-! ### try: body, except x as n: suite -/
theorem Hd.drop {K : Fr} {C : PC} {F : Hp} {ρ : Rho} {σ : L2.St} {H : Hp} (h : Hd K C F ρ σ H) (i : Nat) : Hd K C F (ρ.set i none) (σ.set i none) H := by
  have hf := h.forget i
  have ne : ∀ {j : Nat} {en : En}, (ρ.set i none)[j]? = some (some en) → i ≠ j := fun {j en} q e => by
    subst e
    rw [List.getElem?_set] at q
    simp at q
  refine ⟨by rw [List.length_set, List.length_set]; exact h.len, h.sub, h.f0, h.new, h.old, fun j en q => ?_, fun j k b b1 o1 b2 o2 q1 q2 q3 q4 => ?_, fun b w q => ?_⟩
  · rw [List.getElem?_set_ne (ne q)]
    exact hf.slot j en q
  · rw [List.getElem?_set_ne (ne q1)] at q3
    rw [List.getElem?_set_ne (ne q2)] at q4
    exact hf.sep j k b _ _ _ _ q1 q2 q3 q4
  · obtain ⟨k1, k2, k3, k4⟩ := hf.kept b w q
    refine ⟨k1, k2, k3, fun j b1 o1 q1 => ?_⟩
    rw [List.getElem?_set_ne (ne q1)]
    exact k4 j _ _ q1
theorem repXs_of {K : Fr} {F : Hp} : ∀ {vs : List (Str × V)} {fs : List (Str × Dt)}, RepF K F vs fs → RepXs K F vs fs
  | _, _, .nil => .nil
  | _, _, .cons (a := (k, v)) (b := (k', d)) r s => by
    obtain ⟨e, r⟩ := r
    have e : k = k' := e
    subst e
    exact .cons r (repXs_of s)
/-- the exception stands in slot i, nothing is known of the other slots -/
def excRho (n i : Nat) (a c dd : Addr) (fs : List (Str × Dt)) : Rho := (List.replicate n none).set i (some (.dat (.exc a c dd fs)))
def dropE (i : Nat) (D : PEnds) : PEnds := { nx := fun ρ => D.nx (ρ.set i none), rt := D.rt, bk := fun ρ => D.bk (ρ.set i none), ct := fun ρ => D.ct (ρ.set i none) }
def exTry (K : Fr) (cv : Value) (i n : Nat) (su : Addr → Value → Option Addr → PTS) (D : PEnds) : Addr → List (Str × Dt) → Prop := fun c fs => PySem.W.exmOne K (.ref c) cv = some true ∧ ∀ a dd, su a (.ref c) (some dd) (dropE i D) (excRho n i a c dd fs)
def pTry (K : Fr) (cv : Value) (i n : Nat) (tb : (Addr → List (Str × Dt) → Prop) → PTS) (su : Addr → Value → Option Addr → PTS) : PTS := fun D ρ => tb (exTry K cv i n su D) D ρ
def xkTry (K : Fr) (cv : Value) (i n : Nat) (ts : Addr → Value → Option Addr → TS) (D : Ends) : XK := fun cls d H => ∀ σ : L2.St, σ.length = n → wAs K cv i ts (fun _ _ _ _ => False) D cls d σ H
theorem takes_len {X : Cx} {Wr : WX} (t : Takes X Wr) : Takes X (fun cls d _ H => ∀ σ : L2.St, σ.length = X.N.length → Wr cls d σ H) := fun u s' ⟨a, B, sI, pins, σ, H, cls, d, e, I, nb, up, sky, na, os, ag, w⟩ =>
  t u s' ⟨a, B, sI, pins, σ, H, cls, d, e, I, nb, up, sky, na, os, ag, w σ I.len⟩
/-- an object -/
def obj0 : Obj := ⟨.none, none, .fields #[], #[]⟩
theorem cok_none {K : Fr} {C : PC} : COk K C Wx.none := fun _ _ _ _ _ _ h => h.elim
section
variable {X : Cx} {W : Wx} {x n : Str} {c : Value} {i : Nat} {body suite : List Stmt} {b₀ : Stmt} {np pos pos' : Pos} {tb : XK → List (Addr × Obj) → (Value → Shared → Prop) → TS} {ts : Addr → Value → Option Addr → Obj → List (Addr × Obj) → TS} {pb : (Addr → List (Str × Dt) → Prop) → PTS} {su : Addr → Value → Option Addr → PTS}
theorem ps_try' (hex : X.ex = []) (hs : X.stack = X.env :: X.outer) (hf : X.env.frame = some X.env.locals) (hN : X.N.Nodup) (hi : X.N[i]? = some n) (hln : X.env.kindOf n = some .local) (hc : Names X x c)
    (hb : ∀ (xk : XK) (ex : Addr → List (Str × Dt) → Prop) (pn : List (Addr × Obj)) (xe : Value → Shared → Prop), Takes (X.tr pn xe) (fun c d _ H => xk c d H) → PassesOwn (model X.prog X.w) X.A X.env xe → PSts (X.tr pn xe) ⟨xk, ex⟩ body (tb xk pn xe) (pb ex))
    (hsu : ∀ (a : Addr) (oe : Obj) (cls : Value) (d : Option Addr) (pn : List (Addr × Obj)), Zc cls d oe → (∃ vs, oe.data = .fields vs) → PSts (X.suite a ((a, oe) :: pn)) Wx.none (b₀ :: suite) (ts a cls d oe pn) (su a cls d))
    (eb : ∀ (xk : XK) (pn : List (Addr × Obj)) (xe : Value → Shared → Prop), tb xk pn xe = tb xk [] (fun _ _ => False) := by intros; rfl) (es : ∀ (a : Addr) (cls : Value) (d : Option Addr) (oe : Obj) (pn : List (Addr × Obj)), ts a cls d oe pn = ts a cls d obj0 [] := by intros; rfl) :
    PSt X W (.Try body [.ExceptHandler (some (.Name x np)) (some n) (b₀ :: suite) pos'] [] [] pos) (fun D σ H => tb (xkTry X.K c i X.N.length (fun a cls d => ts a cls d obj0 []) D) [] (fun _ _ => False) D σ H) (pTry X.K c i X.N.length pb su) := by
  refine ⟨?_, fun C ok D ρ h F σ H hd Dc ed => ?_⟩
  · exact ps_try_as (ts := fun a cls d => ts a cls d obj0 []) (tb := fun Wr => tb (fun cls d H => ∀ σ : L2.St, σ.length = X.N.length → Wr cls d σ H) [] fun _ _ => False) (Wout := fun _ _ _ _ => False) hs hf hN hi hln hc takes0
      (fun Wr pn xe tk po => eb _ pn xe ▸ (hb (fun cls d H => ∀ σ : L2.St, σ.length = X.N.length → Wr cls d σ H) (fun _ _ => False) pn xe (takes_len tk) po).pss) (fun a oe cls d pn hz hf' => es a cls d oe pn ▸ (hsu a oe cls d pn hz hf').pss)
  · have key := hb (xkTry X.K c i X.N.length (fun a cls d => ts a cls d obj0 []) Dc) (exTry X.K c i X.N.length su D) X.pn
      (fun e s' => wpAny (model X.prog X.w) X.A (leaving X.env e) (fun _ s'' => L2.CX X.prog X.w X.outer X.H_0 X.s_0 (xkTry X.K c i X.N.length (fun a cls d => ts a cls d obj0 []) Dc) e s'') (fun _ _ => True) s')
      (takes_of (X := X.tr X.pn _) hs hf hex rfl) PassesOwn.leaving
    have ksim := key.sim
    rw [eb] at ksim
    refine ksim C (fun c' dd fs vs F' H' hx r x0 x1 nw od kp hdd h0 => ?_) D ρ h F σ H hd Dc ed
    obtain ⟨he, hsu'⟩ := hx
    intro σ' hl
    refine ⟨true, he, fun _ a ha => ?_, fun z => nomatch z⟩
    have hil : i < X.N.length := (List.getElem?_eq_some_iff.mp hi).1
    have sl : ∀ {j : Nat} {en : En}, (excRho X.N.length i a c' dd fs)[j]? = some (some en) → j = i ∧ en = .dat (.exc a c' dd fs) := fun {j en} q => by
      unfold excRho at q
      by_cases e : i = j
      · subst e
        rw [List.getElem?_set_self (by rw [List.length_replicate]; exact hil)] at q
        cases q
        exact ⟨rfl, rfl⟩
      · rw [List.getElem?_set_ne e, List.getElem?_replicate] at q
        split at q <;> cases q
    have ef : Ext F' (upd F' dd (.xd vs)) := fun b o q => by
      by_cases e : b = dd
      · subst e
        have z := x1 _ _ q
        rw [hdd] at z
        cases z
        exact upd_same
      · rw [upd_ne e]; exact q
    have hR : Rep X.K (upd F' dd (.xd vs)) (.ref a) (.exc a c' dd fs) := .exc upd_same ((repXs_of r).mono ef)
    have hd' : Hd X.K C (upd F' dd (.xd vs)) (excRho X.N.length i a c' dd fs) (σ'.set i (some (.ref a))) H' := by
      refine ⟨by unfold excRho; rw [List.length_set, List.length_set, List.length_replicate]; exact hl, fun b o q => ?_, x0.trans ef, fun b o q => ?_, od, fun j en q => ?_, fun j k b b1 o1 b2 o2 q1 q2 q3 q4 => ?_, fun b w q => ?_⟩
      · by_cases e : b = dd
        · subst e; rw [upd_same] at q; cases q; exact hdd
        · rw [upd_ne e] at q; exact x1 b o q
      · by_cases e : b = dd
        · subst e; exact .inr h0
        · rw [upd_ne e] at q; exact nw b o q
      · obtain ⟨rfl, rfl⟩ := sl q
        exact ⟨.ref a, List.getElem?_set_self (by rw [hl]; exact hil), hR⟩
      · have z := (sl q1).2
        cases z
      · obtain ⟨k1, k2, k3, k4⟩ := kp b w q
        refine ⟨k1, by rw [upd_ne k4]; exact k2, k3, fun j b1 o1 q1 => ?_⟩
        have z := (sl q1).2
        cases z
    have ssim := (hsu a ⟨.ref c', some dd, .fields #[], #[]⟩ (.ref c') (some dd) X.pn ⟨rfl, rfl⟩ ⟨_, rfl⟩).sim
    rw [es] at ssim
    refine ssim C cok_none _ _ (hsu' a dd) _ _ H' hd' _ ?_
    exact ⟨fun ρ1 F1 σ1 H1 h1 hd1 => ed.nx _ F1 _ H1 h1 (hd1.drop i), ed.rt, fun ρ1 F1 σ1 H1 h1 hd1 => ed.bk _ F1 _ H1 h1 (hd1.drop i), fun ρ1 F1 σ1 H1 h1 hd1 => ed.ct _ F1 _ H1 h1 (hd1.drop i)⟩
end
end Wk
namespace Wk
open PySem L2
/-- a promise by what is known of the outcome -/
structure FR where
  A : Type
  ar : A → List En
  pre : A → Prop
  post : A → Rs → List Ow → Prop
def FR.sp (s : FR) : FSpec := fun es P _ => ∃ a, es = s.ar a ∧ s.pre a ∧ ∀ r os, s.post a r os → P r os
/-- a promise of a def that may raise: what comes back, or the exception's class and fields -/
structure FX where
  A : Type
  ar : A → List En
  pre : A → Prop
  rs : A → Except (Addr × List (Str × Dt)) Rs
  ou : A → List Ow
def outX (P : Rs → Prop) (ex : Addr → List (Str × Dt) → Prop) : Except (Addr × List (Str × Dt)) Rs → Prop
  | .ok r => P r
  | .error x => ex x.1 x.2
def FX.sp (s : FX) : FSpec := fun es P Ex => ∃ a, es = s.ar a ∧ s.pre a ∧ outX (fun r => P r (s.ou a)) Ex (s.rs a)
/-- the class's address by its name -/
def clsA (mg : Str → Option Value) (x : Str) : Addr := match mg x with
  | some (.ref a) => a
  | _ => 0
theorem clsA_of {mg : Str → Option Value} {x : Str} {a : Addr} (h : mg x = some (.ref a)) : clsA mg x = a := by unfold clsA; rw [h]
section
variable {ρ : Rho} {i j : Nat} {d : Dt} {P : Dt → Rho → Prop} {PR : Rs → Rho → Prop} {ex : Addr → List (Str × Dt) → Prop} {ws : List Vw} {pa : PTE} {tr : PTA} {nx bk ct : Rho → Prop} {rt : Rs → Rho → Prop} {K : Fr} {a : Addr} {cls : Value} {dd : Option Addr} {cv : Value}
theorem e_callR0 {n : Nat} (s : FR) (a : s.A) (h1 : resv ρ ws = some (s.ar a)) (h2 : Nat.beq (s.ar a).length n = true) (h3 : slotsOf ws = []) (hp : s.pre a) (q : ∀ r os, s.post a r os → os = [] ∧ PR r ρ) : kCall n s.sp ex ws ρ PR :=
  ⟨_, h1, Nat.eq_of_beq_eq_true h2, by rw [h3]; exact List.nodup_nil, a, rfl, hp, fun r os h => by
    obtain ⟨rfl, q⟩ := q r os h
    exact ⟨ρ, by rw [h3]; rfl, q⟩⟩
theorem e_callR1 {n : Nat} (s : FR) (a : s.A) {io : Bool} {o0 : Ow} (h1 : resv ρ ws = some (s.ar a)) (h2 : Nat.beq (s.ar a).length n = true) (h3 : slotsOf ws = [i]) (h4 : ρ[i]? = some (some (.own io o0))) (hp : s.pre a)
    (q : ∀ r os, s.post a r os → ∃ o, os = [o] ∧ ∀ ρ', ρ.set i (some (.own io o)) = ρ' → PR r ρ') : kCall n s.sp ex ws ρ PR :=
  ⟨_, h1, Nat.eq_of_beq_eq_true h2, by rw [h3]; simp, a, rfl, hp, fun r os h => by
    obtain ⟨o, rfl, q⟩ := q r os h
    exact ⟨_, by rw [h3]; unfold wback; rw [h4]; rfl, q _ rfl⟩⟩
theorem e_callX {n : Nat} (s : FX) (a : s.A) (h1 : resv ρ ws = some (s.ar a)) (h2 : Nat.beq (s.ar a).length n = true) (h3 : slotsOf ws = []) (hp : s.pre a) (ho : s.ou a = []) (q : outX (fun r => PR r ρ) ex (s.rs a)) : kCall n s.sp ex ws ρ PR :=
  ⟨_, h1, Nat.eq_of_beq_eq_true h2, by rw [h3]; exact List.nodup_nil, a, rfl, hp, by
    rw [ho]
    cases h : s.rs a with
    | ok r => rw [h] at q; exact ⟨ρ, by rw [h3]; rfl, q⟩
    | error x => rw [h] at q; exact q⟩
/-- the call gives what it should -/
theorem e_callXok {n : Nat} (s : FX) (a : s.A) {r : Rs} (h1 : resv ρ ws = some (s.ar a)) (h2 : Nat.beq (s.ar a).length n = true) (h3 : slotsOf ws = []) (hp : s.pre a) (ho : s.ou a = []) (hr : s.rs a = .ok r) (q : PR r ρ) : kCall n s.sp ex ws ρ PR :=
  e_callX s a h1 h2 h3 hp ho (by rw [hr]; exact q)
def kRaise (ex : Addr → List (Str × Dt) → Prop) (C : Addr) (fld : Str) (ws : List Vw) : Prop := ∃ y : Str, ws = [.dat (.str y)] ∧ y.length ≤ 1000 ∧ ex C [(fld, .str y)]
theorem e_raise {C : Addr} {fld : Str} {D : PEnds} (q : tr ρ fun ws _ => kRaise ex C fld ws) : pRaise ex C fld tr D ρ := q
theorem e_kraise {C : Addr} {fld y : Str} (hl : Nat.ble y.length 1000 = true) (q : ex C [(fld, .str y)]) : kRaise ex C fld [.dat (.str y)] := ⟨y, rfl, Nat.le_of_ble_eq_true hl, q⟩
theorem e_try {n : Nat} {tb : (Addr → List (Str × Dt) → Prop) → PTS} {su : Addr → Value → Option Addr → PTS} (q : tb (exTry K cv i n su ⟨nx, rt, bk, ct⟩) ⟨nx, rt, bk, ct⟩ ρ) : pTry K cv i n tb su ⟨nx, rt, bk, ct⟩ ρ := q
theorem e_exc {n : Nat} {su : Addr → Value → Option Addr → PTS} {c : Addr} {fs : List (Str × Dt)} (h : PySem.W.exmOne K (.ref c) cv = some true) (q : ∀ a dd, su a (.ref c) (some dd) ⟨fun ρ => nx (ρ.set i none), rt, fun ρ => bk (ρ.set i none), fun ρ => ct (ρ.set i none)⟩ ((List.replicate n none).set i (some (.dat (.exc a c dd fs))))) : exTry K cv i n su ⟨nx, rt, bk, ct⟩ c fs := ⟨h, q⟩
def kIsX (K : Fr) (a : Addr) (cls : Value) (d : Option Addr) (cv : Value) (y : Dt) (ρ : Rho) (P : Dt → Rho → Prop) : Prop := ∃ c dd fs b, y = .exc a c dd fs ∧ cls = .ref c ∧ d = some dd ∧ ExcC K c ∧ PySem.W.kitOne K (.ref c) cv = some b ∧ P (.bl b) ρ
theorem e_isX (q : pa ρ fun y ρ1 => kIsX K a cls dd cv y ρ1 P) : pIsX K a cls dd cv pa ρ P := q
theorem e_kisX {c d : Addr} {fs : List (Str × Dt)} {b : Bool} (hC : ExcC K c) (hk : PySem.W.kitOne K (.ref c) cv = some b) (q : P (.bl b) ρ) : kIsX K a (.ref c) (some d) cv (.exc a c d fs) ρ P := ⟨c, d, fs, b, rfl, rfl, rfl, hC, hk, q⟩
def kXf (K : Fr) (a : Addr) (cls : Value) (d : Option Addr) (f : Str) (y : Dt) (ρ : Rho) (P : Dt → Rho → Prop) : Prop := ∃ c dd fs z, y = .exc a c dd fs ∧ cls = .ref c ∧ d = some dd ∧ XfC K c ∧ PySem.W.findIn K (.ref c) f = some none ∧ fs.lookup f = some z ∧ P z ρ
theorem e_xf {f : Str} (q : pa ρ fun y ρ1 => kXf K a cls dd f y ρ1 P) : pXf K a cls dd f pa ρ P := q
theorem e_kxf {c d : Addr} {fs : List (Str × Dt)} {f : Str} {z : Dt} (hC : XfC K c) (hn : PySem.W.findIn K (.ref c) f = some none) (hl : fs.lookup f = some z) (q : P z ρ) : kXf K a (.ref c) (some d) f (.exc a c d fs) ρ P := ⟨c, d, fs, z, rfl, rfl, rfl, hC, hn, hl, q⟩
end
end Wk
namespace Wk
open PySem L2
section
variable {ρ ρw ρ' : Rho} {g : PTG} {pt : PTT} {te : PTE} {vs : List Nat} {PO : Ow → Rho → Prop} {xs : List Dt} {α : Type}
/-- a comprehension by an invariant -/
theorem e_lcI (I : Nat → List Dt → Rho → Prop) (hw : wipeR ρ vs = ρw) (h0 : I 0 [] ρw)
    (hs : ∀ i x acc ρ2, xs[i]? = some x → I i acc ρ2 → g x ρ2 fun ρ3 => pt ρ3 fun b ρ4 => if b = true then te ρ4 (fun d ρ5 => acc.length < 1000000 ∧ I (i + 1) (acc ++ [d]) (wipeR ρ5 vs)) else I (i + 1) acc (wipeR ρ4 vs))
    (hd : ∀ acc ρ2, I xs.length acc ρ2 → PO (.lst acc) (backR ρ ρ2 vs)) : kLc g pt te vs PO xs ρ := by
  subst hw
  exact ⟨I, h0, hs, hd⟩
/-- .. that changes nothing: the items kept, each by its function -/
theorem e_lcK (ys : List α) (D : α → Dt) (keep : α → Bool) (f : α → Dt) (hx : xs = ys.map D) (hz : ys.length ≤ 1000000) (hw : wipeR ρ vs = ρw) (hb : backR ρ ρw vs = ρ')
    (hs : ∀ y, y ∈ ys → ∀ (K1 : Dt → Rho → Prop) (K2 : Rho → Prop), (keep y = true → ∀ ρ5, wipeR ρ5 vs = ρw → K1 (f y) ρ5) → (keep y = false → ∀ ρ5, wipeR ρ5 vs = ρw → K2 ρ5) → g (D y) ρw fun ρ3 => pt ρ3 fun b ρ4 => if b = true then te ρ4 K1 else K2 ρ4)
    (hd : PO (.lst ((ys.filter keep).map f)) ρ') : kLc g pt te vs PO xs ρ := by
  subst hx
  refine e_lcI (fun i acc ρ' => ρ' = ρw ∧ acc = ((ys.take i).filter keep).map f) hw ⟨rfl, by simp⟩ (fun i x acc ρ2 hx hI => ?_) fun acc ρ2 hI => ?_
  · obtain ⟨rfl, rfl⟩ := hI
    rw [List.getElem?_map] at hx
    cases q : ys[i]? with
    | none => rw [q] at hx; cases hx
    | some y =>
      rw [q] at hx
      cases hx
      have hy : y ∈ ys := List.mem_of_getElem? q
      have hi : i < ys.length := (List.getElem?_eq_some_iff.mp q).1
      have et : ys.take (i + 1) = ys.take i ++ [y] := by rw [List.take_add_one, q]; rfl
      refine hs y hy _ _ (fun hk ρ5 h5 => ⟨?_, h5, ?_⟩) (fun hk ρ5 h5 => ⟨h5, ?_⟩)
      · rw [List.length_map]
        have := List.length_filter_le keep (ys.take i)
        rw [List.length_take] at this
        omega
      · rw [et, List.filter_append, List.map_append, List.filter_cons, hk]
        rfl
      · rw [et, List.filter_append, List.filter_cons, hk]
        simp
  · obtain ⟨rfl, rfl⟩ := hI
    rw [List.length_map, List.take_length, hb]
    exact hd
/-- .. without a test -/
theorem e_lcM (ys : List α) (D f : α → Dt) (hx : xs = ys.map D) (hz : ys.length ≤ 1000000) (hw : wipeR ρ vs = ρw) (hb : backR ρ ρw vs = ρ')
    (hs : ∀ y, y ∈ ys → ∀ (K1 : Dt → Rho → Prop), (∀ ρ5, wipeR ρ5 vs = ρw → K1 (f y) ρ5) → g (D y) ρw fun ρ3 => te ρ3 K1)
    (hd : PO (.lst (ys.map f)) ρ') : kLc g pYes te vs PO xs ρ := by
  refine e_lcK ys D (fun _ => true) f hx hz hw hb (fun y hy K1 K2 h1 h2 => ?_) (by rw [show ys.filter (fun _ => true) = ys from List.filter_eq_self.mpr (fun _ _ => rfl)]; exact hd)
  have := hs y hy K1 (h1 rfl)
  exact this
/-- is slot v empty, or data -/
def nown (ρ : Rho) (v : Nat) : Bool := match ρ[v]? with
  | some none => true
  | some (some (.dat _)) => true
  | _ => false
theorem back1 {v : Nat} (h : nown ρ v = true) (hw : ρ.set v none = ρw) : backR ρ ρw [v] = ρ := by
  subst hw
  unfold nown at h
  show (match ρ[v]? with
    | some (some (.dat d)) => (backR ρ (ρ.set v none) []).set v (some (.dat d))
    | _ => backR ρ (ρ.set v none) []) = ρ
  have e : backR ρ (ρ.set v none) [] = ρ.set v none := rfl
  rw [e]
  have hv : v < ρ.length := by
    cases q : ρ[v]? with
    | none => rw [q] at h; cases h
    | some x => exact (List.getElem?_eq_some_iff.mp q).1
  cases q : ρ[v]? with
  | none => rw [q] at h; cases h
  | some x =>
    obtain ⟨hv, q2⟩ := List.getElem?_eq_some_iff.mp q
    cases x with
    | none =>
      show ρ.set v none = ρ
      rw [← q2, List.set_getElem_self]
    | some y =>
      cases y with
      | dat d =>
        show (ρ.set v none).set v (some (.dat d)) = ρ
        rw [List.set_set, ← q2, List.set_getElem_self]
      | own b o => rw [q] at h; cases h
theorem e_lcM1 {v : Nat} (ys : List α) (D f : α → Dt) (hx : xs = ys.map D) (hz : ys.length ≤ 1000000) (hn : nown ρ v = true) (hw : ρ.set v none = ρw)
    (hs : ∀ y, y ∈ ys → ∀ (K1 : Dt → Rho → Prop), (∀ ρ5, ρ5.set v none = ρw → K1 (f y) ρ5) → g (D y) ρw fun ρ3 => te ρ3 K1)
    (hd : PO (.lst (ys.map f)) ρ) : kLc g pYes te [v] PO xs ρ := e_lcM ys D f hx hz hw (back1 hn hw) hs hd
theorem e_lcK1 {v : Nat} (ys : List α) (D : α → Dt) (keep : α → Bool) (f : α → Dt) (hx : xs = ys.map D) (hz : ys.length ≤ 1000000) (hn : nown ρ v = true) (hw : ρ.set v none = ρw)
    (hs : ∀ y, y ∈ ys → ∀ (K1 : Dt → Rho → Prop) (K2 : Rho → Prop), (keep y = true → ∀ ρ5, ρ5.set v none = ρw → K1 (f y) ρ5) → (keep y = false → ∀ ρ5, ρ5.set v none = ρw → K2 ρ5) → g (D y) ρw fun ρ3 => pt ρ3 fun b ρ4 => if b = true then te ρ4 K1 else K2 ρ4)
    (hd : PO (.lst ((ys.filter keep).map f)) ρ) : kLc g pt te [v] PO xs ρ := e_lcK ys D keep f hx hz hw (back1 hn hw) hs hd
theorem rngD_eq (n : Nat) : rngD 0 n = (List.range n).map fun k : Nat => .int (k : Int) := by
  unfold rngD
  refine List.map_congr_left fun k _ => ?_
  simp
theorem rng_get {n i : Nat} {x : Dt} (h : (rngD 0 n)[i]? = some x) : i < n ∧ x = .int (i : Int) := by
  have hi : i < n := by
    by_cases hi : i < n
    · exact hi
    · rw [List.getElem?_eq_none (by rw [rngD_len]; omega)] at h
      cases h
  rw [rngD_get hi] at h
  cases h
  exact ⟨hi, by simp⟩
end
end Wk
namespace K85
open Wk
/-! ### what the program computes, in plain words -/
abbrev Arc := Nat × Nat × Int
abbrev Row := List (Option Int)
abbrev Fc := Int × Int
def okA (n : Nat) (arcs : List Arc) : Prop := ∀ a ∈ arcs, a.1 < n ∧ a.2.1 < n
def relax1 (bf : Row) (af : Row) (a : Arc) : Row :=
  match bf.getD a.1 none with
  | none => af
  | some c => match af.getD a.2.1 none with
    | none => af.set a.2.1 (some (c + a.2.2))
    | some w => if c + a.2.2 < w then af.set a.2.1 (some (c + a.2.2)) else af
def nextRow (n : Nat) (arcs : List Arc) (bf : Row) : Row := arcs.foldl (relax1 bf) (List.replicate n none)
def rowN (n : Nat) (arcs : List Arc) : Nat → Row
  | 0 => List.replicate n (some 0)
  | k + 1 => nextRow n arcs (rowN n arcs k)
def lessB (p q : Fc) : Bool := decide (p.1 * q.2 < q.1 * p.2)
/-- the greatest of the means so far -/
def worst1 (w : Option Fc) (m : Fc) : Option Fc := match w with
  | none => some m
  | some w => if lessB w m = true then some m else some w
def worstN (n : Nat) (arcs : List Arc) (v : Nat) (cn : Int) : Nat → Option Fc
  | 0 => none
  | i + 1 => match (rowN n arcs i).getD v none with
    | none => worstN n arcs v cn i
    | some c => worst1 (worstN n arcs v cn i) (cn - c, (n : Int) - (i : Int))
def best1 (b : Option Fc) (m : Fc) : Option Fc := match b with
  | none => some m
  | some b => if lessB m b = true then some m else some b
def bestN (n : Nat) (arcs : List Arc) : Nat → Option Fc
  | 0 => none
  | v + 1 => match (rowN n arcs n).getD v none with
    | none => bestN n arcs v
    | some cn => best1 (bestN n arcs v) ((worstN n arcs v cn n).getD (0, 1))
def lowF (p : Fc) : Fc := (p.1 / (Int.gcd p.1 p.2 : Int), p.2 / (Int.gcd p.1 p.2 : Int))
def leastMean (n : Nat) (arcs : List Arc) : Option Fc := (bestN n arcs n).map lowF
def spareF (a : Arc) (m : Fc) : Int := a.2.2 * m.2 - m.1
def bf1 (m : Fc) (st : List Int × Bool) (a : Arc) : List Int × Bool :=
  if st.1.getD a.1 0 + spareF a m < st.1.getD a.2.1 0 then (st.1.set a.2.1 (st.1.getD a.1 0 + spareF a m), true) else st
def bfPass (m : Fc) (arcs : List Arc) (told : List Int) : List Int × Bool := arcs.foldl (bf1 m) (told, false)
def potF (m : Fc) (arcs : List Arc) : Nat → List Int → Option (List Int)
  | 0, _ => none
  | f + 1, told => if (bfPass m arcs told).2 = true then potF m arcs f (bfPass m arcs told).1 else some (bfPass m arcs told).1
def potentials (n : Nat) (arcs : List Arc) (m : Fc) : Option (List Int) := potF m arcs (n + 1) (List.replicate n 0)
def isTight (m : Fc) (p : List Int) (a : Arc) : Bool := decide (p.getD a.2.1 0 = p.getD a.1 0 + spareF a m)
def nextOf (tight : List Arc) (al : List Bool) (v : Nat) : List Arc := tight.filter fun a => decide (a.1 = v) && al.getD a.2.1 false
def el1 (tight : List Arc) (st : List Bool × Bool) (v : Nat) : List Bool × Bool :=
  if (st.1.getD v false && decide ((nextOf tight st.1 v).length = 0)) = true then (st.1.set v false, true) else st
def elPass (n : Nat) (tight : List Arc) (al : List Bool) : List Bool × Bool := (List.range n).foldl (el1 tight) (al, false)
def elF (n : Nat) (tight : List Arc) : Nat → List Bool → List Bool
  | 0, al => al
  | f + 1, al => if (elPass n tight al).2 = true then elF n tight f (elPass n tight al).1 else (elPass n tight al).1
def aliveN (n : Nat) (tight : List Arc) : List Bool := elF n tight (n + 1) (List.replicate n true)
def startsN (n : Nat) (al : List Bool) : List Nat := (List.range n).filter fun v => al.getD v false
def stepOf (tight : List Arc) (al : List Bool) (v : Nat) : Nat := (lmin ((nextOf tight al v).map fun a => (a.2.1 : Int))).toNat
def goF (tight : List Arc) (al : List Bool) : Nat → List Nat → List Nat
  | 0, w => w
  | f + 1, w => if stepOf tight al (w.getLastD 0) ∈ w then w.drop (w.idxOf (stepOf tight al (w.getLastD 0))) ++ [stepOf tight al (w.getLastD 0)] else goF tight al f (w ++ [stepOf tight al (w.getLastD 0)])
def tightRound (n : Nat) (arcs : List Arc) (m : Fc) (p : List Int) : List Nat :=
  goF (arcs.filter (isTight m p)) (aliveN n (arcs.filter (isTight m p))) (n + 1) [(startsN n (aliveN n (arcs.filter (isTight m p)))).getD 0 0]
/-- the cheapest arc from u to v -/
def costsUV (arcs : List Arc) (u v : Nat) : List Int := (arcs.filter fun a => decide (a.1 = u) && decide (a.2.1 = v)).map fun a => a.2.2
/-- the sum along a walk of the least costs above the mean, none where there is no arc -/
def sumW (arcs : List Arc) (m : Fc) : List Nat → Option Int
  | u :: v :: r => if costsUV arcs u v = [] then none else match sumW arcs m (v :: r) with
    | none => none
    | some t => some (lmin (costsUV arcs u v) * m.2 - m.1 + t)
  | _ => some 0
def judge (n : Nat) (arcs : List Arc) (m : Fc) (p : List Int) (w : List Nat) : Bool :=
  decide (p.length = n) && decide (1 ≤ m.2) && decide (2 ≤ w.length) && decide (w.head? = w.getLast?) && (arcs.all fun a => decide (p.getD a.2.1 0 ≤ p.getD a.1 0 + spareF a m)) && decide (sumW arcs m w = some 0)
end K85
namespace K85
open PySem PySem.Spec PyProof.Rows L2 Wk
local macro_rules | `(tactic| walk_at "wk") => `(tactic| repeat (first
  | apply_rules -symm -exfalso (transparency := .reducible) (maxDepth := 100000) only [@e_seq, @e_c, @e_ix, @e_set, @e_op, @e_I2, @e_fI0, @e_ifS, @e_tst, @e_ktst, @e_ift, @e_iff, @e_ifnt, @e_ifnf, @e_ret, @e_retF, @e_acons, @e_anil, @e_alend, @e_tup, @e_int, @e_kint, @e_vd, @e_setIx, @e_toL, @e_toT, @e_callD, @e_toD, @e_toDo, @e_callF, @e_kown, @e_frz, @e_len, @e_setF, @e_lst, @e_and, @e_or, @e_not, @e_andV, @e_orV, @e_notV, @e_kandV, @e_korV, @e_knotV, @e_ifE, @e_is, @e_isnot, @e_neg, @e_kneg, @e_par, @e_asg, @e_gnil, @e_gcons, @e_slT, @e_slL, @e_nopart, @e_part, @e_kpart, @e_sum, @e_min, @e_max, @e_abs, @e_kabs, @e_MM, @e_kMM, @e_tupOf, @e_lstOf, @e_isi, @e_inI, @e_dget, @e_din, @e_dnew, @e_catT, @e_catL, @e_index, @e_eq, @e_chain, @e_kchain, @e_kchain2, @e_drop, @e_next, @e_brk, @e_cnt, @e_retnon, @e_setK, @e_iL, @e_kL, @e_iT, @e_kT, @e_iR1, @e_iR2, @e_for, @e_yes, @e_lc, @e_raise, @e_try, @e_isX, @e_xf]
  | ((with_reducible refine' e_var ?k1 ?_); (case k1 => exact rfl))
  | ((with_reducible refine' e_kset ?k1 ?k2 ?_); (case k1 => exact rfl); (case k2 => (with_reducible (first | exact st0 | exact st1 | exact st2 | exact st3 | exact st4 | exact st5 | exact st6 | exact st7 | exact st8 | exact st9 | exact st10 | exact st11 | exact st12 | exact st13 | exact st14 | exact st15 | exact st16 | exact st17 | exact st18 | exact st19 | exact st20))))
  | ((with_reducible refine' e_ktup ?k1 ?k2 ?_); (case k1 => exact rfl); (case k2 => exact rfl))
  | ((with_reducible refine' e_kix ?k1 ?k2 ?k3 ?_); (case k1 => exact rfl); (case k2 => exact rfl); (case k3 => exact rfl))
  | ((with_reducible refine' e_vn ?k1 ?_); (case k1 => exact rfl))
  | ((with_reducible refine' e_varL ?k1 ?k2 ?_); (case k1 => exact rfl); (case k2 => (with_reducible (first | exact st0 | exact st1 | exact st2 | exact st3 | exact st4 | exact st5 | exact st6 | exact st7 | exact st8 | exact st9 | exact st10 | exact st11 | exact st12 | exact st13 | exact st14 | exact st15 | exact st16 | exact st17 | exact st18 | exact st19 | exact st20))))
  | ((with_reducible refine' e_app ?k1 ?_); (case k1 => exact rfl))
  | ((with_reducible refine' e_kapp ?k1 ?k2 ?k3 ?_); (case k1 => exact rfl); (case k2 => (simp only [List.length_append, List.length_map, List.length_cons, List.length_nil]; omega)); (case k3 => (with_reducible (first | exact st0 | exact st1 | exact st2 | exact st3 | exact st4 | exact st5 | exact st6 | exact st7 | exact st8 | exact st9 | exact st10 | exact st11 | exact st12 | exact st13 | exact st14 | exact st15 | exact st16 | exact st17 | exact st18 | exact st19 | exact st20))))
  | ((with_reducible refine' e_ksetF ?k1 ?k2 ?_); (case k1 => exact rfl); (case k2 => (with_reducible (first | exact st0 | exact st1 | exact st2 | exact st3 | exact st4 | exact st5 | exact st6 | exact st7 | exact st8 | exact st9 | exact st10 | exact st11 | exact st12 | exact st13 | exact st14 | exact st15 | exact st16 | exact st17 | exact st18 | exact st19 | exact st20))))
  | ((with_reducible refine' e_klen ?k1 ?k2 ?_); (case k1 => exact rfl); (case k2 => exact rfl))
  | ((with_reducible refine' e_klst ?k1 ?k2 ?_); (case k1 => exact rfl); (case k2 => exact rfl))
  | ((with_reducible refine' e_gtup ?k1 ?_); (case k1 => exact rfl))
  | ((with_reducible refine' e_gN ?k1 ?k2 ?_); (case k1 => exact rfl); (case k2 => (with_reducible (first | exact st0 | exact st1 | exact st2 | exact st3 | exact st4 | exact st5 | exact st6 | exact st7 | exact st8 | exact st9 | exact st10 | exact st11 | exact st12 | exact st13 | exact st14 | exact st15 | exact st16 | exact st17 | exact st18 | exact st19 | exact st20))))
  | ((with_reducible refine' e_varT ?k1 ?k2 ?_); (case k1 => exact rfl); (case k2 => (with_reducible (first | exact st0 | exact st1 | exact st2 | exact st3 | exact st4 | exact st5 | exact st6 | exact st7 | exact st8 | exact st9 | exact st10 | exact st11 | exact st12 | exact st13 | exact st14 | exact st15 | exact st16 | exact st17 | exact st18 | exact st19 | exact st20))))
  | ((with_reducible refine' e_mulR ?k1 ?k2 ?_); (case k1 => omega); (case k2 => omega))
  | ((with_reducible refine' e_mulL ?k1 ?k2 ?_); (case k1 => omega); (case k2 => omega))
  | ((with_reducible refine' e_div ?k1 ?k2 ?_); (case k1 => omega); (case k2 => omega))
  | ((with_reducible refine' e_mod ?k1 ?_); (case k1 => omega))
  | ((with_reducible refine' e_retN ?k1 ?_); (case k1 => exact rfl))
  | ((with_reducible refine' e_retNO ?k1 ?k2 ?_); (case k1 => exact rfl); (case k2 => (with_reducible (first | exact st0 | exact st1 | exact st2 | exact st3 | exact st4 | exact st5 | exact st6 | exact st7 | exact st8 | exact st9 | exact st10 | exact st11 | exact st12 | exact st13 | exact st14 | exact st15 | exact st16 | exact st17 | exact st18 | exact st19 | exact st20))))
  | ((with_reducible refine' e_setIx1 ?k1 ?_); (case k1 => exact rfl))
  | ((with_reducible refine' e_ksetIx ?k1 ?k2 ?k3 ?_); (case k1 => exact rfl); (case k2 => exact rfl); (case k3 => (with_reducible (first | exact st0 | exact st1 | exact st2 | exact st3 | exact st4 | exact st5 | exact st6 | exact st7 | exact st8 | exact st9 | exact st10 | exact st11 | exact st12 | exact st13 | exact st14 | exact st15 | exact st16 | exact st17 | exact st18 | exact st19 | exact st20))))
  | ((with_reducible refine' e_kpar ?k1 ?k2 ?k3 ?_); (case k1 => exact rfl); (case k2 => exact rfl); (case k3 => (repeat (first | exact set_0 | apply set_s))))
  | ((with_reducible refine' e_aug ?k1 ?_); (case k1 => exact rfl))
  | ((with_reducible refine' e_kaug ?k1 ?k2 ?_); (case k1 => exact rfl); (case k2 => (with_reducible (first | exact st0 | exact st1 | exact st2 | exact st3 | exact st4 | exact st5 | exact st6 | exact st7 | exact st8 | exact st9 | exact st10 | exact st11 | exact st12 | exact st13 | exact st14 | exact st15 | exact st16 | exact st17 | exact st18 | exact st19 | exact st20))))
  | ((with_reducible refine' e_kslT ?k1 ?_); (case k1 => exact rfl))
  | ((with_reducible refine' e_kslL ?k1 ?_); (case k1 => exact rfl))
  | ((with_reducible refine' e_ksum ?k1 ?_); (case k1 => exact rfl))
  | ((with_reducible refine' e_ktupOf ?k1 ?k2 ?_); (case k1 => exact rfl); (case k2 => exact rfl))
  | ((with_reducible refine' e_klstOf ?k1 ?k2 ?_); (case k1 => exact rfl); (case k2 => exact rfl))
  | ((with_reducible refine' e_kisi ?k1 ?k2 ?k3 ?_); (case k1 => exact rfl); (case k2 => exact rfl); (case k3 => (first | exact ks_ii | exact ks_ib | exact ks_bi | exact ks_bb | exact ks_ni | exact ks_nb | exact ks_tt | exact ks_lt | exact ks_it | exact ks_nt | exact ks_ti | exact ks_si)))
  | ((with_reducible refine' e_kR1 ?k1 ?k2 ?_); (case k1 => omega); (case k2 => omega))
  | ((with_reducible refine' e_kR2 ?k1 ?_); (case k1 => omega))
  ))
local macro_rules | `(tactic| walk_at "wk0") => `(tactic| (unfold endsF; (with_reducible refine' st_rho ?k1 ?_); (case k1 => repeat (first | exact rh_0 | (with_reducible apply rh_m) | (with_reducible apply rh_n) | apply rh_s))))
local macro_rules | `(tactic| walk_at "set") => `(tactic| with_reducible (first | exact st0 | exact st1 | exact st2 | exact st3 | exact st4 | exact st5 | exact st6 | exact st7 | exact st8 | exact st9 | exact st10 | exact st11 | exact st12 | exact st13 | exact st14 | exact st15 | exact st16 | exact st17 | exact st18 | exact st19 | exact st20))
def topS (i : Nat) : Stmt := PySem.Challenge.pw_wedgekin_k85_least_mean_whole.main.body.getD i (.Pass ⟨0, 0, 0, 0⟩)
abbrev s_law_draw : Stmt := topS 22
abbrev n_law_draw : List Str := ["bag", "many", "mixed", "digit"]
theorem sc_law_draw : FnScope ["bag", "many", "mixed", "digit"] ["bag", "many"] (defScope s_law_draw) := ⟨rfl, rfl, rfl, by decide +kernel, rfl, by decide +kernel, by decide +kernel⟩
theorem bi_law_draw : BindOk "_law_draw" s_law_draw ["bag", "many"] := fun _ _ _ _ _ _ us hl => match us, hl with | [_, _], _ => rfl
abbrev sless : Stmt := topS 12
abbrev nless : List Str := ["one", "other"]
theorem scless : FnScope ["one", "other"] ["one", "other"] (defScope sless) := ⟨rfl, rfl, rfl, by decide +kernel, rfl, by decide +kernel, by decide +kernel⟩
theorem biless : BindOk "less" sless ["one", "other"] := fun _ _ _ _ _ _ us hl => match us, hl with | [_, _], _ => rfl
abbrev sspare : Stmt := topS 15
abbrev nspare : List Str := ["arc", "mean"]
theorem scspare : FnScope ["arc", "mean"] ["arc", "mean"] (defScope sspare) := ⟨rfl, rfl, rfl, by decide +kernel, rfl, by decide +kernel, by decide +kernel⟩
theorem bispare : BindOk "spare" sspare ["arc", "mean"] := fun _ _ _ _ _ _ us hl => match us, hl with | [_, _], _ => rfl
abbrev s_law_pick : Stmt := topS 23
abbrev n_law_pick : List Str := ["bag", "pool"]
theorem sc_law_pick : FnScope ["bag", "pool"] ["bag", "pool"] (defScope s_law_pick) := ⟨rfl, rfl, rfl, by decide +kernel, rfl, by decide +kernel, by decide +kernel⟩
theorem bi_law_pick : BindOk "_law_pick" s_law_pick ["bag", "pool"] := fun _ _ _ _ _ _ us hl => match us, hl with | [_, _], _ => rfl
abbrev Bag := Int × Int × Int
def bagD (b : Bag) : List Dt := [.int b.1, .int b.2.1, .int b.2.2]
def draw (b : Bag) (m : Int) : Int × Bag :=
  if 0 < b.1 then (b.1 % m, (b.1 / m, b.2.1, b.2.2))
  else
    let t := b.2.2 + 1
    let x := (b.2.1 * 48271 + t * 69621 + 977) % 2147483647
    let y := (x * (x / 3 + 40692) + t * 271) % 2147483629
    ((y / 5) % m, (b.1, b.2.1, t))
def fsDraw : FS := ⟨Bag × Int, fun a => [.own true (.lst (bagD a.1)), .dat (.int a.2)], fun a => 0 < a.2 ∧ a.2 < 1073741824, fun a => .dat (.int (draw a.1 a.2).1), fun a => [.lst (bagD (draw a.1 a.2).2)]⟩
def fracD (p : Int × Int) : Dt := .tup [.int p.1, .int p.2]
def sm (x : Int) : Prop := -(18446744073709551616) < x ∧ x < 18446744073709551616
def fsLess : FS := ⟨(Int × Int) × (Int × Int), fun a => [.dat (fracD a.1), .dat (fracD a.2)], fun a => sm a.1.2 ∧ sm a.2.2, fun a => .dat (.bl (lessB a.1 a.2)), fun _ => []⟩
def arcD (a : Arc) : Dt := .tup [.int (a.1 : Int), .int (a.2.1 : Int), .int a.2.2]
def fsSpare : FS := ⟨Arc × Fc, fun a => [.dat (arcD a.1), .dat (fracD a.2)], fun a => sm a.2.2, fun a => .dat (.int (spareF a.1 a.2)), fun _ => []⟩
def fsPick : FS := ⟨Bag × Dt × List Dt, fun a => [.own true (.lst (bagD a.1)), .dat a.2.1], fun a => seqOf a.2.1 = some a.2.2 ∧ a.2.2 ≠ [] ∧ a.2.2.length < 1000000, fun a => .dat (a.2.2.getD (draw a.1 a.2.2.length).1.toNat .non), fun a => [.lst (bagD (draw a.1 a.2.2.length).2)]⟩
theorem draw_lt {b : Bag} {m : Int} (h : 0 < m) : 0 ≤ (draw b m).1 ∧ (draw b m).1 < m := by
  unfold draw
  split
  · exact ⟨Int.emod_nonneg _ (by omega), Int.emod_lt_of_pos _ h⟩
  · exact ⟨Int.emod_nonneg _ (by omega), Int.emod_lt_of_pos _ h⟩
section
variable {P : Program} {w : World} {K : Fr} {mg : Str → Option Value} {base : Heap}
theorem ok_draw (D : Df K mg "_law_draw" s_law_draw) (B : Bi mg) : Cal P w K mg base 1 "_law_draw" 2 fsDraw.sp := by
  refine cal_of D sc_law_draw bi_law_draw fun f cdv A outer s H E hr => ⟨_, _, (ps_cons' (ps_if' (PCm.pdt (c_gt (pd_ix (pv_name 0) pd_int) pd_int))
       (ps_cons' (ps_set' 3 sc_law_draw.nd (pd_mod (pd_toint B.int (pd_ix (pv_name 0) pd_int)) (pd_var 1)))
        (ps_cons' (ps_setIx' 0 (pd_fdiv (pd_ix (pv_name 0) pd_int) (pd_var 1)) pd_int)
        (ps_one' (ps_retN' 3))))
       ps_nil')
      (ps_cons' (ps_setIx' 0 (pd_add (pd_ix (pv_name 0) pd_int) pd_int) pd_int)
      (ps_cons' (ps_set' 2 sc_law_draw.nd (pd_mod (pd_toint B.int (pd_add (pd_add (pd_mul (pd_ix (pv_name 0) pd_int) pd_int) (pd_mul (pd_ix (pv_name 0) pd_int) pd_int)) pd_int)) pd_int))
      (ps_cons' (ps_set' 2 sc_law_draw.nd (pd_mod (pd_toint B.int (pd_add (pd_mul (pd_var 2) (pd_add (pd_fdiv (pd_var 2) pd_int) pd_int)) (pd_mul (pd_ix (pv_name 0) pd_int) pd_int))) pd_int))
      (ps_one' (ps_ret' (pd_mod (pd_toint B.int (pd_fdiv (pd_var 2) pd_int)) (pd_var 1)))))))), ?_⟩
  rintro es P' Ex ρ0 hl ⟨⟨⟨b0, b1, b2⟩, m⟩, rfl, ⟨h0, h1⟩, hp⟩ rfl
  dsimp only [fsDraw] at h0 h1 hp
  dsimp only [fsDraw]
  walk_at "wk0"
  walk_at "wk"
  refine e_ifd (fun hc => ?_) (fun hc => ?_)
  · walk_at "wk"
    refine e_fin rfl ?_
    simp only [draw, if_pos hc] at hp
    exact hp
  · walk_at "wk"
    have hx0 := Int.emod_nonneg (b1 * 48271 + (b2 + 1) * 69621 + 977) (b := 2147483647) (by decide)
    have hx1 := Int.emod_lt_of_pos (b1 * 48271 + (b2 + 1) * 69621 + 977) (b := 2147483647) (by decide)
    walk_at "wk"
    refine e_fin rfl ?_
    simp only [draw, if_neg hc] at hp
    exact hp
theorem ok_less (D : Df K mg "less" sless) : Cal P w K mg base 1 "less" 2 fsLess.sp := by
  refine cal_of D scless biless fun f cdv A outer s H E hr => ⟨_, _, (ps_one' (ps_ret' (PCm.pd (c_lt (pd_mul (pd_ix (pv_name 0) pd_int) (pd_ix (pv_name 1) pd_int)) (pd_mul (pd_ix (pv_name 1) pd_int) (pd_ix (pv_name 0) pd_int)))))), ?_⟩
  rintro es P' Ex ρ0 hl ⟨⟨⟨p1, p2⟩, q1, q2⟩, rfl, ⟨⟨h0, h1⟩, h2, h3⟩, hp⟩ rfl
  dsimp only [fsLess] at h0 h1 h2 h3 hp
  dsimp only [fsLess]
  walk_at "wk0"
  walk_at "wk"
  exact e_fin rfl hp
theorem ok_spare (D : Df K mg "spare" sspare) : Cal P w K mg base 1 "spare" 2 fsSpare.sp := by
  refine cal_of D scspare bispare fun f cdv A outer s H E hr => ⟨_, _, (ps_one' (ps_ret' (pd_sub (pd_mul (pd_ix (pv_name 0) pd_int) (pd_ix (pv_name 1) pd_int)) (pd_ix (pv_name 1) pd_int)))), ?_⟩
  rintro es P' Ex ρ0 hl ⟨⟨⟨p1, p2, p3⟩, q1, q2⟩, rfl, ⟨h0, h1⟩, hp⟩ rfl
  dsimp only [fsSpare] at h0 h1 hp
  dsimp only [fsSpare]
  walk_at "wk0"
  walk_at "wk"
  exact e_fin rfl hp
theorem call_draw {ρ : Rho} {ws : List Vw} {PR : Rs → Rho → Prop} {ex : Addr → List (Str × Dt) → Prop} {i : Nat} {io : Bool} {o0 : Ow} {b : Bag} {m : Int} (h1 : resv ρ ws = some [.own true (.lst (bagD b)), .dat (.int m)]) (h3 : slotsOf ws = [i]) (h4 : ρ[i]? = some (some (.own io o0)))
    (hm : 0 < m) (hm2 : m < 1073741824) {ρ' : Rho} (e : ρ.set i (some (.own io (.lst (bagD (draw b m).2)))) = ρ') (q : PR (.dat (.int (draw b m).1)) ρ') : kCall 2 fsDraw.sp ex ws ρ PR := e_call1 fsDraw (b, m) h1 rfl h3 h4 ⟨hm, hm2⟩ rfl e q
theorem ok_pick (D : Df K mg "_law_pick" s_law_pick) (B : Bi mg) (c_law_draw : Cal P w K mg base 1 "_law_draw" 2 fsDraw.sp) : Cal P w K mg base 2 "_law_pick" 2 fsPick.sp := by
  refine cal_of D sc_law_pick bi_law_pick fun f cdv A outer s H E hr => ⟨_, _, (ps_one' (ps_ret' (pd_ix (pv_name 1) (pd_cal c_law_draw (hr.mono (by decide)) (pa_lend (pv_name 0) (pa_cons' (pd_len B.len (pv_name 1)) pa_nil')))))), ?_⟩
  rintro es P' Ex ρ0 hl ⟨⟨b, d, xs⟩, rfl, ⟨h0, h1, h2⟩, hp⟩ rfl
  dsimp only [fsPick] at h0 h1 h2 hp
  dsimp only [fsPick]
  walk_at "wk0"
  walk_at "wk"
  refine e_klen rfl h0 ?_
  walk_at "wk"
  have hpos : 0 < xs.length := List.length_pos_iff.mpr h1
  refine call_draw rfl rfl rfl (by omega) (by omega) rfl ?_
  obtain ⟨g0, g1⟩ := draw_lt (b := b) (m := xs.length) (by omega)
  have hlt : (draw b xs.length).1.toNat < xs.length := by omega
  refine e_kix rfl h0 (atI_nn g0 (List.getElem?_eq_getElem hlt)) ?_
  walk_at "wk"
  refine e_fin rfl ?_
  rw [List.getD_eq_getElem?_getD, List.getElem?_eq_getElem hlt] at hp
  exact hp
end
end K85
namespace K85
open PySem PySem.Spec PyProof.Rows L2 Wk
local macro_rules | `(tactic| walk_at "wk") => `(tactic| repeat (first
  | apply_rules -symm -exfalso (transparency := .reducible) (maxDepth := 100000) only [@e_seq, @e_c, @e_ix, @e_set, @e_op, @e_I2, @e_fI0, @e_ifS, @e_tst, @e_ktst, @e_ift, @e_iff, @e_ifnt, @e_ifnf, @e_ret, @e_retF, @e_acons, @e_anil, @e_alend, @e_tup, @e_int, @e_kint, @e_vd, @e_setIx, @e_toL, @e_toT, @e_callD, @e_toD, @e_toDo, @e_callF, @e_kown, @e_frz, @e_len, @e_setF, @e_lst, @e_and, @e_or, @e_not, @e_andV, @e_orV, @e_notV, @e_kandV, @e_korV, @e_knotV, @e_ifE, @e_is, @e_isnot, @e_neg, @e_kneg, @e_par, @e_asg, @e_gnil, @e_gcons, @e_slT, @e_slL, @e_nopart, @e_part, @e_kpart, @e_sum, @e_min, @e_max, @e_abs, @e_kabs, @e_MM, @e_kMM, @e_tupOf, @e_lstOf, @e_isi, @e_inI, @e_dget, @e_din, @e_dnew, @e_catT, @e_catL, @e_index, @e_eq, @e_chain, @e_kchain, @e_kchain2, @e_drop, @e_next, @e_brk, @e_cnt, @e_retnon, @e_setK, @e_iL, @e_kL, @e_iT, @e_kT, @e_iR1, @e_iR2, @e_for, @e_yes, @e_lc, @e_raise, @e_try, @e_isX, @e_xf]
  | ((with_reducible refine' e_var ?k1 ?_); (case k1 => exact rfl))
  | ((with_reducible refine' e_kset ?k1 ?k2 ?_); (case k1 => exact rfl); (case k2 => (with_reducible (first | exact st0 | exact st1 | exact st2 | exact st3 | exact st4 | exact st5 | exact st6 | exact st7 | exact st8 | exact st9 | exact st10 | exact st11 | exact st12 | exact st13 | exact st14 | exact st15 | exact st16 | exact st17 | exact st18 | exact st19 | exact st20))))
  | ((with_reducible refine' e_ktup ?k1 ?k2 ?_); (case k1 => exact rfl); (case k2 => exact rfl))
  | ((with_reducible refine' e_kix ?k1 ?k2 ?k3 ?_); (case k1 => exact rfl); (case k2 => exact rfl); (case k3 => exact rfl))
  | ((with_reducible refine' e_vn ?k1 ?_); (case k1 => exact rfl))
  | ((with_reducible refine' e_varL ?k1 ?k2 ?_); (case k1 => exact rfl); (case k2 => (with_reducible (first | exact st0 | exact st1 | exact st2 | exact st3 | exact st4 | exact st5 | exact st6 | exact st7 | exact st8 | exact st9 | exact st10 | exact st11 | exact st12 | exact st13 | exact st14 | exact st15 | exact st16 | exact st17 | exact st18 | exact st19 | exact st20))))
  | ((with_reducible refine' e_app ?k1 ?_); (case k1 => exact rfl))
  | ((with_reducible refine' e_kapp ?k1 ?k2 ?k3 ?_); (case k1 => exact rfl); (case k2 => (simp only [List.length_append, List.length_map, List.length_cons, List.length_nil]; omega)); (case k3 => (with_reducible (first | exact st0 | exact st1 | exact st2 | exact st3 | exact st4 | exact st5 | exact st6 | exact st7 | exact st8 | exact st9 | exact st10 | exact st11 | exact st12 | exact st13 | exact st14 | exact st15 | exact st16 | exact st17 | exact st18 | exact st19 | exact st20))))
  | ((with_reducible refine' e_ksetF ?k1 ?k2 ?_); (case k1 => exact rfl); (case k2 => (with_reducible (first | exact st0 | exact st1 | exact st2 | exact st3 | exact st4 | exact st5 | exact st6 | exact st7 | exact st8 | exact st9 | exact st10 | exact st11 | exact st12 | exact st13 | exact st14 | exact st15 | exact st16 | exact st17 | exact st18 | exact st19 | exact st20))))
  | ((with_reducible refine' e_klen ?k1 ?k2 ?_); (case k1 => exact rfl); (case k2 => exact rfl))
  | ((with_reducible refine' e_klst ?k1 ?k2 ?_); (case k1 => exact rfl); (case k2 => exact rfl))
  | ((with_reducible refine' e_gtup ?k1 ?_); (case k1 => exact rfl))
  | ((with_reducible refine' e_gN ?k1 ?k2 ?_); (case k1 => exact rfl); (case k2 => (with_reducible (first | exact st0 | exact st1 | exact st2 | exact st3 | exact st4 | exact st5 | exact st6 | exact st7 | exact st8 | exact st9 | exact st10 | exact st11 | exact st12 | exact st13 | exact st14 | exact st15 | exact st16 | exact st17 | exact st18 | exact st19 | exact st20))))
  | ((with_reducible refine' e_varT ?k1 ?k2 ?_); (case k1 => exact rfl); (case k2 => (with_reducible (first | exact st0 | exact st1 | exact st2 | exact st3 | exact st4 | exact st5 | exact st6 | exact st7 | exact st8 | exact st9 | exact st10 | exact st11 | exact st12 | exact st13 | exact st14 | exact st15 | exact st16 | exact st17 | exact st18 | exact st19 | exact st20))))
  | ((with_reducible refine' e_mulR ?k1 ?k2 ?_); (case k1 => omega); (case k2 => omega))
  | ((with_reducible refine' e_mulL ?k1 ?k2 ?_); (case k1 => omega); (case k2 => omega))
  | ((with_reducible refine' e_div ?k1 ?k2 ?_); (case k1 => omega); (case k2 => omega))
  | ((with_reducible refine' e_mod ?k1 ?_); (case k1 => omega))
  | ((with_reducible refine' e_retN ?k1 ?_); (case k1 => exact rfl))
  | ((with_reducible refine' e_retNO ?k1 ?k2 ?_); (case k1 => exact rfl); (case k2 => (with_reducible (first | exact st0 | exact st1 | exact st2 | exact st3 | exact st4 | exact st5 | exact st6 | exact st7 | exact st8 | exact st9 | exact st10 | exact st11 | exact st12 | exact st13 | exact st14 | exact st15 | exact st16 | exact st17 | exact st18 | exact st19 | exact st20))))
  | ((with_reducible refine' e_setIx1 ?k1 ?_); (case k1 => exact rfl))
  | ((with_reducible refine' e_ksetIx ?k1 ?k2 ?k3 ?_); (case k1 => exact rfl); (case k2 => exact rfl); (case k3 => (with_reducible (first | exact st0 | exact st1 | exact st2 | exact st3 | exact st4 | exact st5 | exact st6 | exact st7 | exact st8 | exact st9 | exact st10 | exact st11 | exact st12 | exact st13 | exact st14 | exact st15 | exact st16 | exact st17 | exact st18 | exact st19 | exact st20))))
  | ((with_reducible refine' e_kpar ?k1 ?k2 ?k3 ?_); (case k1 => exact rfl); (case k2 => exact rfl); (case k3 => (repeat (first | exact set_0 | apply set_s))))
  | ((with_reducible refine' e_aug ?k1 ?_); (case k1 => exact rfl))
  | ((with_reducible refine' e_kaug ?k1 ?k2 ?_); (case k1 => exact rfl); (case k2 => (with_reducible (first | exact st0 | exact st1 | exact st2 | exact st3 | exact st4 | exact st5 | exact st6 | exact st7 | exact st8 | exact st9 | exact st10 | exact st11 | exact st12 | exact st13 | exact st14 | exact st15 | exact st16 | exact st17 | exact st18 | exact st19 | exact st20))))
  | ((with_reducible refine' e_kslT ?k1 ?_); (case k1 => exact rfl))
  | ((with_reducible refine' e_kslL ?k1 ?_); (case k1 => exact rfl))
  | ((with_reducible refine' e_ksum ?k1 ?_); (case k1 => exact rfl))
  | ((with_reducible refine' e_ktupOf ?k1 ?k2 ?_); (case k1 => exact rfl); (case k2 => exact rfl))
  | ((with_reducible refine' e_klstOf ?k1 ?k2 ?_); (case k1 => exact rfl); (case k2 => exact rfl))
  | ((with_reducible refine' e_kisi ?k1 ?k2 ?k3 ?_); (case k1 => exact rfl); (case k2 => exact rfl); (case k3 => (first | exact ks_ii | exact ks_ib | exact ks_bi | exact ks_bb | exact ks_ni | exact ks_nb | exact ks_tt | exact ks_lt | exact ks_it | exact ks_nt | exact ks_ti | exact ks_si)))
  | ((with_reducible refine' e_kR1 ?k1 ?k2 ?_); (case k1 => omega); (case k2 => omega))
  | ((with_reducible refine' e_kR2 ?k1 ?_); (case k1 => omega))
  ))
local macro_rules | `(tactic| walk_at "wk0") => `(tactic| (unfold endsF; (with_reducible refine' st_rho ?k1 ?_); (case k1 => repeat (first | exact rh_0 | (with_reducible apply rh_m) | (with_reducible apply rh_n) | apply rh_s))))
local macro_rules | `(tactic| walk_at "set") => `(tactic| with_reducible (first | exact st0 | exact st1 | exact st2 | exact st3 | exact st4 | exact st5 | exact st6 | exact st7 | exact st8 | exact st9 | exact st10 | exact st11 | exact st12 | exact st13 | exact st14 | exact st15 | exact st16 | exact st17 | exact st18 | exact st19 | exact st20))
abbrev sis_whole : Stmt := topS 6
abbrev nis_whole : List Str := ["value"]
theorem scis_whole : FnScope ["value"] ["value"] (defScope sis_whole) := ⟨rfl, rfl, rfl, by decide +kernel, rfl, by decide +kernel, by decide +kernel⟩
theorem biis_whole : BindOk "is_whole" sis_whole ["value"] := fun _ _ _ _ _ _ us hl => match us, hl with | [_], _ => rfl
abbrev scheck_arcs : Stmt := topS 10
abbrev ncheck_arcs : List Str := ["many", "arcs", "arc", "number"]
theorem sccheck_arcs : FnScope ["many", "arcs", "arc", "number"] ["many", "arcs"] (defScope scheck_arcs) := ⟨rfl, rfl, rfl, by decide +kernel, rfl, by decide +kernel, by decide +kernel⟩
theorem bicheck_arcs : BindOk "check_arcs" scheck_arcs ["many", "arcs"] := fun _ _ _ _ _ _ us hl => match us, hl with | [_, _], _ => rfl
def isI : Dt → Bool
  | .int _ => true
  | _ => false
def isT : Dt → Bool
  | .tup _ => true
  | _ => false
theorem kk_NoneType_int : kitB "NoneType" "int" = some false := by decide +kernel
theorem kk_NoneType_bool : kitB "NoneType" "bool" = some false := by decide +kernel
theorem kk_NoneType_tuple : kitB "NoneType" "tuple" = some false := by decide +kernel
theorem kk_bool_int : kitB "bool" "int" = some true := by decide +kernel
theorem kk_bool_bool : kitB "bool" "bool" = some true := by decide +kernel
theorem kk_bool_tuple : kitB "bool" "tuple" = some false := by decide +kernel
theorem kk_int_int : kitB "int" "int" = some true := by decide +kernel
theorem kk_int_bool : kitB "int" "bool" = some false := by decide +kernel
theorem kk_int_tuple : kitB "int" "tuple" = some false := by decide +kernel
theorem kk_str_int : kitB "str" "int" = some false := by decide +kernel
theorem kk_str_bool : kitB "str" "bool" = some false := by decide +kernel
theorem kk_str_tuple : kitB "str" "tuple" = some false := by decide +kernel
theorem kk_list_int : kitB "list" "int" = some false := by decide +kernel
theorem kk_list_bool : kitB "list" "bool" = some false := by decide +kernel
theorem kk_list_tuple : kitB "list" "tuple" = some false := by decide +kernel
theorem kk_tuple_int : kitB "tuple" "int" = some false := by decide +kernel
theorem kk_tuple_bool : kitB "tuple" "bool" = some false := by decide +kernel
theorem kk_tuple_tuple : kitB "tuple" "tuple" = some true := by decide +kernel
theorem kk_dict_int : kitB "dict" "int" = some false := by decide +kernel
theorem kk_dict_bool : kitB "dict" "bool" = some false := by decide +kernel
theorem kk_dict_tuple : kitB "dict" "tuple" = some false := by decide +kernel
theorem kit_int {d : Dt} (h : isScr d = false) : ∃ b, kitB (tyN d) "int" = some b ∧ (b = false → isI d = false) ∧ ∃ c, kitB (tyN d) "bool" = some c ∧ (b = true → isI d = !c) := by
  cases d with
  | non => exact ⟨_, kk_NoneType_int, fun _ => rfl, _, kk_NoneType_bool, fun z => nomatch z⟩
  | bl b => exact ⟨_, kk_bool_int, (fun z => nomatch z), _, kk_bool_bool, fun _ => rfl⟩
  | int i => exact ⟨_, kk_int_int, (fun z => nomatch z), _, kk_int_bool, fun _ => rfl⟩
  | str x => exact ⟨_, kk_str_int, fun _ => rfl, _, kk_str_bool, fun z => nomatch z⟩
  | lst xs => exact ⟨_, kk_list_int, fun _ => rfl, _, kk_list_bool, fun z => nomatch z⟩
  | tup xs => exact ⟨_, kk_tuple_int, fun _ => rfl, _, kk_tuple_bool, fun z => nomatch z⟩
  | dT k => exact ⟨_, kk_dict_int, fun _ => rfl, _, kk_dict_bool, fun z => nomatch z⟩
  | scr ns => cases h
  | exc _ _ _ _ => cases h
theorem kit_tup {d : Dt} (h : isScr d = false) : kitB (tyN d) "tuple" = some (isT d) := by
  cases d with
  | non => exact kk_NoneType_tuple
  | bl b => exact kk_bool_tuple
  | int i => exact kk_int_tuple
  | str x => exact kk_str_tuple
  | lst xs => exact kk_list_tuple
  | tup xs => exact kk_tuple_tuple
  | dT k => exact kk_dict_tuple
  | scr ns => cases h
  | exc _ _ _ _ => cases h
def fsWhole : FS := ⟨Dt, fun d => [.dat d], fun d => isScr d = false, fun d => .dat (.bl (isI d)), fun _ => []⟩
section
variable {P : Program} {w : World} {K : PySem.W.Frag} {mg : Str → Option Value} {base : Heap}
theorem ok_whole (D : Df K mg "is_whole" sis_whole) (B : Bi mg) : Cal P w K mg base 1 "is_whole" 1 fsWhole.sp := by
  refine cal_of D scis_whole biis_whole fun f cdv A outer s H E hr => ⟨_, _, (ps_one' (ps_ret' (pd_and (pd_isi (T := "int") B.isinstance (pv_name 0) B.int (by decide +kernel)) (pd_one (pd_not (pd_isi (T := "bool") B.isinstance (pv_name 0) B.bool (by decide +kernel))))))), ?_⟩
  rintro es P' Ex ρ0 hl ⟨d, rfl, hd, hp⟩ rfl
  dsimp only [fsWhole] at hd hp
  dsimp only [fsWhole]
  obtain ⟨b, h1, h2, c, h3, h4⟩ := kit_int hd
  walk_at "wk0"
  walk_at "wk"
  refine e_kisi rfl hd h1 ?_
  walk_at "wk"
  refine e_ifb (fun hb => ?_) (fun hb => ?_)
  · walk_at "wk"
    refine e_kisi rfl hd h3 ?_
    walk_at "wk"
    refine e_fin rfl ?_
    rw [← h4 hb]
    exact hp
  · walk_at "wk"
    refine e_fin rfl ?_
    rw [← h2 hb]
    exact hp
def badA (m : Int) : Dt → Bool
  | .tup [.int u, .int v, .int _] => decide (min u v < 0) || decide (m ≤ max u v)
  | _ => true
def errV (c : Addr) : Addr × List (Str × Dt) := (c, [("reason", .str "arcs")])
def errM (c : Addr) : Addr × List (Str × Dt) := (c, [("what", .str "arcs")])
def chkR (cN cT : Addr) (m : Int) (d : Dt) : Except (Addr × List (Str × Dt)) Rs :=
  if m < 1 then .error (errV cN) else match d with
    | .tup xs => if xs.any (badA m) = true then .error (errV cN) else if 200 < m ∨ 4000 < xs.length then .error (errM cT) else .ok (.dat .non)
    | _ => .error (errV cN)
def tame (d : Dt) : Prop := isScr d = false ∧ ∀ ys, d = .tup ys → ∀ y ∈ ys, isScr y = false
def fxChk (cN cT : Addr) : FX := ⟨Int × Dt, fun a => [.dat (.int a.1), .dat a.2], fun a => isScr a.2 = false ∧ ∀ xs, a.2 = .tup xs → xs.length < 1000000 ∧ ∀ x ∈ xs, tame x, fun a => chkR cN cT a.1 a.2, fun _ => []⟩
theorem take_any {α : Type} {p : α → Bool} {l : List α} {i : Nat} {x : α} (h : l[i]? = some x) (h1 : (l.take i).any p = false) (h2 : p x = false) : (l.take (i + 1)).any p = false := by
  rw [List.take_add_one, h]
  simp [h1, h2]
theorem any_of {α : Type} {p : α → Bool} {l : List α} {i : Nat} {x : α} (h : l[i]? = some x) (h2 : p x = true) : l.any p = true := List.any_eq_true.mpr ⟨x, List.mem_of_getElem? h, h2⟩
theorem call_whole {ρ : Rho} {ws : List Vw} {PR : Rs → Rho → Prop} {ex : Addr → List (Str × Dt) → Prop} {d : Dt} {b : Bool} (h1 : resv ρ ws = some [.dat d]) (h3 : slotsOf ws = []) (hd : isScr d = false) (hb : isI d = b) (q : PR (.dat (.bl b)) ρ) : kCall 1 fsWhole.sp ex ws ρ PR := by
  subst hb
  exact e_call0 fsWhole d h1 rfl h3 hd rfl q
theorem chk_bad {cN cT : Addr} {m : Int} {xs : List Dt} {i : Nat} {x : Dt} (hm : ¬ m < 1) (h : xs[i]? = some x) (hb : badA m x = true) : chkR cN cT m (.tup xs) = .error (errV cN) := by
  unfold chkR
  rw [if_neg hm]
  dsimp only
  rw [if_pos (any_of h hb)]
theorem ok_chk {cNoValue cTooMany : Addr} (D : Df K mg "check_arcs" scheck_arcs) (B : Bi mg) (xNoValue : Xc P w K mg base "NoValue" "reason" cNoValue) (xTooMany : Xc P w K mg base "TooMany" "what" cTooMany) (gMEAN_NODES : ∃ t, mg "MEAN_NODES" = some (.int 200 t)) (gMEAN_ARCS : ∃ t, mg "MEAN_ARCS" = some (.int 4000 t))
    (cis_whole : Cal P w K mg base 1 "is_whole" 1 fsWhole.sp) : CalX P w K mg base 3 "check_arcs" 2 (fxChk cNoValue cTooMany).sp := by
  obtain ⟨tN, gMEAN_NODES⟩ := gMEAN_NODES
  obtain ⟨tA, gMEAN_ARCS⟩ := gMEAN_ARCS
  refine calX_of D sccheck_arcs bicheck_arcs fun f cdv A outer s H E Ex hr => ⟨_, _, (ps_cons' (ps_if' (PDW.pdt (pdw_or (pdt_not (pdt_val (pd_cal cis_whole (hr.mono (by decide)) (pa_cons' (pd_var 0) pa_nil')))) (pdw_or (PCm.pdt (c_lt (pd_var 0) pd_int)) (pdw_or1 (pdt_not (pdt_val (pd_isi (T := "tuple") B.isinstance (pv_name 1) B.tuple (by decide +kernel))))))))
       (ps_one' (ps_raise' rfl (takes_of rfl rfl rfl rfl) xNoValue (hr.mono (by decide)) (pa_cons' pd_str pa_nil')))
       ps_nil')
      (ps_cons' (ps_for' (passes_of rfl) rfl (pi_tup' (pd_var 1)) (pg_name' 2 sccheck_arcs.nd)
       (ps_cons' (ps_if' (PDW.pdt (pdw_or (pdt_not (pdt_val (pd_isi (T := "tuple") B.isinstance (pv_name 2) B.tuple (by decide +kernel)))) (pdw_or1 (PCm.pdt (c_neI (pd_len B.len (pv_name 2)) pd_int)))))
         (ps_one' (ps_raise' rfl (takes_of rfl rfl rfl rfl) xNoValue (hr.mono (by decide)) (pa_cons' pd_str pa_nil')))
         ps_nil')
        (ps_cons' (ps_for' (passes_of rfl) rfl (pi_tup' (pd_var 2)) (pg_name' 3 sccheck_arcs.nd)
         (ps_one' (ps_if' (pdt_not (pdt_val (pd_cal cis_whole (hr.mono (by decide)) (pa_cons' (pd_var 3) pa_nil'))))
           (ps_one' (ps_raise' rfl (takes_of rfl rfl rfl rfl) xNoValue (hr.mono (by decide)) (pa_cons' pd_str pa_nil')))
           ps_nil')))
        (ps_one' (ps_if' (PDW.pdt (pdw_or (PCm.pdt (c_lt (pd_min2 B.min (pd_ix (pv_name 2) pd_int) (pd_ix (pv_name 2) pd_int)) pd_int)) (pdw_or1 (PCm.pdt (c_ge (pd_max2 B.max (pd_ix (pv_name 2) pd_int) (pd_ix (pv_name 2) pd_int)) (pd_var 0))))))
         (ps_one' (ps_raise' rfl (takes_of rfl rfl rfl rfl) xNoValue (hr.mono (by decide)) (pa_cons' pd_str pa_nil')))
         ps_nil')))))
      (ps_one' (ps_if' (PDW.pdt (pdw_or (PCm.pdt (c_gt (pd_var 0) (pd_gint gMEAN_NODES ⟨_, rfl⟩))) (pdw_or1 (PCm.pdt (c_gt (pd_len B.len (pv_name 1)) (pd_gint gMEAN_ARCS ⟨_, rfl⟩))))))
       (ps_one' (ps_raise' rfl (takes_of rfl rfl rfl rfl) xTooMany (hr.mono (by decide)) (pa_cons' pd_str pa_nil')))
       ps_nil')))), ?_⟩
  rintro es P' ρ0 hl ⟨⟨m, d⟩, rfl, ⟨hd, hx⟩, hp⟩ rfl
  dsimp only [fxChk] at hd hx hp
  dsimp only [fxChk]
  walk_at "wk0"
  walk_at "wk"
  refine call_whole (b := true) rfl rfl rfl rfl ?_
  walk_at "wk"
  have bad : chkR cNoValue cTooMany m d = .error (errV cNoValue) → kRaise Ex cNoValue "reason" [.dat (.str "arcs")] := fun e => by
    rw [e] at hp
    exact e_kraise rfl hp
  refine e_ifd (fun hm => ?_) (fun hm => ?_)
  · walk_at "wk"
    exact bad (by unfold chkR; rw [if_pos hm])
  walk_at "wk"
  refine e_kisi rfl hd (kit_tup hd) ?_
  walk_at "wk"
  refine e_ifnb (fun ht => ?_) (fun ht => ?_)
  · walk_at "wk"
    refine bad ?_
    unfold chkR
    rw [if_neg hm]
    cases d <;> first | rfl | cases ht
  obtain ⟨xs, rfl⟩ : ∃ xs, d = .tup xs := by
    cases d <;> first | exact ⟨_, rfl⟩ | cases ht
  obtain ⟨hxl, hxt⟩ := hx xs rfl
  walk_at "wk"
  refine e_forI [2, 3] (fun i ρ => ρ = [some (.dat (.int m)), some (.dat (.tup xs)), none, none] ∧ (xs.take i).any (badA m) = false) ⟨rfl, by simp⟩ (fun i x ρ2 hi hI => ?_) (fun ρ2 hI => ?_)
  · obtain ⟨rfl, hI⟩ := hI
    obtain ⟨hx0, hx1⟩ := hxt x (List.mem_of_getElem? hi)
    walk_at "wk"
    refine e_kisi rfl hx0 (kit_tup hx0) ?_
    walk_at "wk"
    refine e_ifnb (fun ht => ?_) (fun ht => ?_)
    · walk_at "wk"
      refine bad (chk_bad hm hi ?_)
      cases x <;> first | rfl | cases ht
    obtain ⟨ys, rfl⟩ : ∃ ys, x = .tup ys := by
      cases x <;> first | exact ⟨_, rfl⟩ | cases ht
    have hy := hx1 ys rfl
    walk_at "wk"
    refine e_ifnd (fun hl3 => ?_) (fun hl3 => ?_)
    · walk_at "wk"
      refine bad (chk_bad hm hi ?_)
      unfold badA
      split
      · rename_i u v c e
        cases e
        exact absurd rfl hl3
      · rfl
    obtain ⟨y0, y1, y2, rfl⟩ : ∃ y0 y1 y2, ys = [y0, y1, y2] := by
      match ys, (show ys.length = 3 by omega) with
      | [a, b, c], _ => exact ⟨a, b, c, rfl⟩
    walk_at "wk"
    refine e_forI [3] (fun i ρ => ρ = [some (.dat (.int m)), some (.dat (.tup xs)), some (.dat (.tup [y0, y1, y2])), none] ∧ ∀ y ∈ [y0, y1, y2].take i, isI y = true) ⟨rfl, by simp⟩ (fun j y ρ2 hj hJ => ?_) (fun ρ2 hJ => ?_)
    · obtain ⟨rfl, hJ⟩ := hJ
      walk_at "wk"
      refine call_whole rfl rfl (hy y (List.mem_of_getElem? hj)) rfl ?_
      walk_at "wk"
      refine e_ifnb (fun hb => ?_) (fun hb => ?_)
      · walk_at "wk"
        refine bad (chk_bad hm hi ?_)
        unfold badA
        split
        · rename_i u v c e
          cases e
          have := List.mem_of_getElem? hj
          simp at this
          rcases this with rfl | rfl | rfl <;> cases hb
        · rfl
      · walk_at "wk"
        refine ⟨rfl, fun z hz => ?_⟩
        rw [List.take_add_one, hj, List.mem_append] at hz
        rcases hz with hz | hz
        · exact hJ z hz
        · simp at hz
          rw [hz]
          exact hb
    · obtain ⟨rfl, hJ⟩ := hJ
      have toI : ∀ y : Dt, isI y = true → ∃ k, y = .int k := fun y h => by
        cases y <;> first | exact ⟨_, rfl⟩ | cases h
      obtain ⟨u, rfl⟩ := toI y0 (hJ y0 (by simp))
      obtain ⟨v, rfl⟩ := toI y1 (hJ y1 (by simp))
      obtain ⟨c, rfl⟩ := toI y2 (hJ y2 (by simp))
      walk_at "wk"
      refine e_ifd (fun h1 => ?_) (fun h1 => ?_)
      · walk_at "wk"
        refine bad (chk_bad hm hi ?_)
        have h2 : min u v < 0 := by omega
        simp [badA, h2]
      · walk_at "wk"
        refine e_ifd (fun h2 => ?_) (fun h2 => ?_)
        · walk_at "wk"
          refine bad (chk_bad hm hi ?_)
          have h3 : m ≤ max u v := by omega
          simp [badA, h3]
        · walk_at "wk"
          refine ⟨rfl, take_any hi hI ?_⟩
          have h3 : ¬ m ≤ max u v := by omega
          have h4 : ¬ min u v < 0 := by omega
          simp [badA, h3, h4]
  · obtain ⟨rfl, hI⟩ := hI
    rw [List.take_length] at hI
    have fine : chkR cNoValue cTooMany m (.tup xs) = if 200 < m ∨ 4000 < xs.length then .error (errM cTooMany) else .ok (.dat .non) := by
      unfold chkR
      rw [if_neg hm]
      dsimp only
      rw [if_neg (by rw [hI]; exact Bool.false_ne_true)]
    rw [fine] at hp
    walk_at "wk"
    refine e_ifd (fun h1 => ?_) (fun h1 => ?_)
    · walk_at "wk"
      rw [if_pos (.inl h1)] at hp
      exact e_kraise rfl hp
    · walk_at "wk"
      refine e_ifd (fun h2 => ?_) (fun h2 => ?_)
      · walk_at "wk"
        rw [if_pos (.inr (by omega))] at hp
        exact e_kraise rfl hp
      · walk_at "wk"
        rw [if_neg (by omega)] at hp
        exact e_fin rfl hp
end
end K85
namespace K85
open PySem PySem.Spec PyProof.Rows L2 Wk
local macro_rules | `(tactic| walk_at "wk") => `(tactic| repeat (first
  | apply_rules -symm -exfalso (transparency := .reducible) (maxDepth := 100000) only [@e_seq, @e_c, @e_ix, @e_set, @e_op, @e_I2, @e_fI0, @e_ifS, @e_tst, @e_ktst, @e_ift, @e_iff, @e_ifnt, @e_ifnf, @e_ret, @e_retF, @e_acons, @e_anil, @e_alend, @e_tup, @e_int, @e_kint, @e_vd, @e_setIx, @e_toL, @e_toT, @e_callD, @e_toD, @e_toDo, @e_callF, @e_kown, @e_frz, @e_len, @e_setF, @e_lst, @e_and, @e_or, @e_not, @e_andV, @e_orV, @e_notV, @e_kandV, @e_korV, @e_knotV, @e_ifE, @e_is, @e_isnot, @e_neg, @e_kneg, @e_par, @e_asg, @e_gnil, @e_gcons, @e_slT, @e_slL, @e_nopart, @e_part, @e_kpart, @e_sum, @e_min, @e_max, @e_abs, @e_kabs, @e_MM, @e_kMM, @e_tupOf, @e_lstOf, @e_isi, @e_inI, @e_dget, @e_din, @e_dnew, @e_catT, @e_catL, @e_index, @e_eq, @e_chain, @e_kchain, @e_kchain2, @e_drop, @e_next, @e_brk, @e_cnt, @e_retnon, @e_setK, @e_iL, @e_kL, @e_iT, @e_kT, @e_iR1, @e_iR2, @e_for, @e_yes, @e_lc, @e_raise, @e_try, @e_isX, @e_xf]
  | ((with_reducible refine' e_var ?k1 ?_); (case k1 => exact rfl))
  | ((with_reducible refine' e_kset ?k1 ?k2 ?_); (case k1 => exact rfl); (case k2 => (with_reducible (first | exact st0 | exact st1 | exact st2 | exact st3 | exact st4 | exact st5 | exact st6 | exact st7 | exact st8 | exact st9 | exact st10 | exact st11 | exact st12 | exact st13 | exact st14 | exact st15 | exact st16 | exact st17 | exact st18 | exact st19 | exact st20))))
  | ((with_reducible refine' e_ktup ?k1 ?k2 ?_); (case k1 => exact rfl); (case k2 => exact rfl))
  | ((with_reducible refine' e_kix ?k1 ?k2 ?k3 ?_); (case k1 => exact rfl); (case k2 => exact rfl); (case k3 => exact rfl))
  | ((with_reducible refine' e_vn ?k1 ?_); (case k1 => exact rfl))
  | ((with_reducible refine' e_varL ?k1 ?k2 ?_); (case k1 => exact rfl); (case k2 => (with_reducible (first | exact st0 | exact st1 | exact st2 | exact st3 | exact st4 | exact st5 | exact st6 | exact st7 | exact st8 | exact st9 | exact st10 | exact st11 | exact st12 | exact st13 | exact st14 | exact st15 | exact st16 | exact st17 | exact st18 | exact st19 | exact st20))))
  | ((with_reducible refine' e_app ?k1 ?_); (case k1 => exact rfl))
  | ((with_reducible refine' e_kapp ?k1 ?k2 ?k3 ?_); (case k1 => exact rfl); (case k2 => (simp only [List.length_append, List.length_map, List.length_cons, List.length_nil]; omega)); (case k3 => (with_reducible (first | exact st0 | exact st1 | exact st2 | exact st3 | exact st4 | exact st5 | exact st6 | exact st7 | exact st8 | exact st9 | exact st10 | exact st11 | exact st12 | exact st13 | exact st14 | exact st15 | exact st16 | exact st17 | exact st18 | exact st19 | exact st20))))
  | ((with_reducible refine' e_ksetF ?k1 ?k2 ?_); (case k1 => exact rfl); (case k2 => (with_reducible (first | exact st0 | exact st1 | exact st2 | exact st3 | exact st4 | exact st5 | exact st6 | exact st7 | exact st8 | exact st9 | exact st10 | exact st11 | exact st12 | exact st13 | exact st14 | exact st15 | exact st16 | exact st17 | exact st18 | exact st19 | exact st20))))
  | ((with_reducible refine' e_klen ?k1 ?k2 ?_); (case k1 => exact rfl); (case k2 => exact rfl))
  | ((with_reducible refine' e_klst ?k1 ?k2 ?_); (case k1 => exact rfl); (case k2 => exact rfl))
  | ((with_reducible refine' e_gtup ?k1 ?_); (case k1 => exact rfl))
  | ((with_reducible refine' e_gN ?k1 ?k2 ?_); (case k1 => exact rfl); (case k2 => (with_reducible (first | exact st0 | exact st1 | exact st2 | exact st3 | exact st4 | exact st5 | exact st6 | exact st7 | exact st8 | exact st9 | exact st10 | exact st11 | exact st12 | exact st13 | exact st14 | exact st15 | exact st16 | exact st17 | exact st18 | exact st19 | exact st20))))
  | ((with_reducible refine' e_varT ?k1 ?k2 ?_); (case k1 => exact rfl); (case k2 => (with_reducible (first | exact st0 | exact st1 | exact st2 | exact st3 | exact st4 | exact st5 | exact st6 | exact st7 | exact st8 | exact st9 | exact st10 | exact st11 | exact st12 | exact st13 | exact st14 | exact st15 | exact st16 | exact st17 | exact st18 | exact st19 | exact st20))))
  | ((with_reducible refine' e_mulR ?k1 ?k2 ?_); (case k1 => omega); (case k2 => omega))
  | ((with_reducible refine' e_mulL ?k1 ?k2 ?_); (case k1 => omega); (case k2 => omega))
  | ((with_reducible refine' e_div ?k1 ?k2 ?_); (case k1 => omega); (case k2 => omega))
  | ((with_reducible refine' e_mod ?k1 ?_); (case k1 => omega))
  | ((with_reducible refine' e_retN ?k1 ?_); (case k1 => exact rfl))
  | ((with_reducible refine' e_retNO ?k1 ?k2 ?_); (case k1 => exact rfl); (case k2 => (with_reducible (first | exact st0 | exact st1 | exact st2 | exact st3 | exact st4 | exact st5 | exact st6 | exact st7 | exact st8 | exact st9 | exact st10 | exact st11 | exact st12 | exact st13 | exact st14 | exact st15 | exact st16 | exact st17 | exact st18 | exact st19 | exact st20))))
  | ((with_reducible refine' e_setIx1 ?k1 ?_); (case k1 => exact rfl))
  | ((with_reducible refine' e_ksetIx ?k1 ?k2 ?k3 ?_); (case k1 => exact rfl); (case k2 => exact rfl); (case k3 => (with_reducible (first | exact st0 | exact st1 | exact st2 | exact st3 | exact st4 | exact st5 | exact st6 | exact st7 | exact st8 | exact st9 | exact st10 | exact st11 | exact st12 | exact st13 | exact st14 | exact st15 | exact st16 | exact st17 | exact st18 | exact st19 | exact st20))))
  | ((with_reducible refine' e_kpar ?k1 ?k2 ?k3 ?_); (case k1 => exact rfl); (case k2 => exact rfl); (case k3 => (repeat (first | exact set_0 | apply set_s))))
  | ((with_reducible refine' e_aug ?k1 ?_); (case k1 => exact rfl))
  | ((with_reducible refine' e_kaug ?k1 ?k2 ?_); (case k1 => exact rfl); (case k2 => (with_reducible (first | exact st0 | exact st1 | exact st2 | exact st3 | exact st4 | exact st5 | exact st6 | exact st7 | exact st8 | exact st9 | exact st10 | exact st11 | exact st12 | exact st13 | exact st14 | exact st15 | exact st16 | exact st17 | exact st18 | exact st19 | exact st20))))
  | ((with_reducible refine' e_kslT ?k1 ?_); (case k1 => exact rfl))
  | ((with_reducible refine' e_kslL ?k1 ?_); (case k1 => exact rfl))
  | ((with_reducible refine' e_ksum ?k1 ?_); (case k1 => exact rfl))
  | ((with_reducible refine' e_ktupOf ?k1 ?k2 ?_); (case k1 => exact rfl); (case k2 => exact rfl))
  | ((with_reducible refine' e_klstOf ?k1 ?k2 ?_); (case k1 => exact rfl); (case k2 => exact rfl))
  | ((with_reducible refine' e_kisi ?k1 ?k2 ?k3 ?_); (case k1 => exact rfl); (case k2 => exact rfl); (case k3 => (first | exact ks_ii | exact ks_ib | exact ks_bi | exact ks_bb | exact ks_ni | exact ks_nb | exact ks_tt | exact ks_lt | exact ks_it | exact ks_nt | exact ks_ti | exact ks_si)))
  | ((with_reducible refine' e_kR1 ?k1 ?k2 ?_); (case k1 => omega); (case k2 => omega))
  | ((with_reducible refine' e_kR2 ?k1 ?_); (case k1 => omega))
  ))
local macro_rules | `(tactic| walk_at "wk0") => `(tactic| (unfold endsF; (with_reducible refine' st_rho ?k1 ?_); (case k1 => repeat (first | exact rh_0 | (with_reducible apply rh_m) | (with_reducible apply rh_n) | apply rh_s))))
local macro_rules | `(tactic| walk_at "set") => `(tactic| with_reducible (first | exact st0 | exact st1 | exact st2 | exact st3 | exact st4 | exact st5 | exact st6 | exact st7 | exact st8 | exact st9 | exact st10 | exact st11 | exact st12 | exact st13 | exact st14 | exact st15 | exact st16 | exact st17 | exact st18 | exact st19 | exact st20))
abbrev swalk_costs : Stmt := topS 11
abbrev nwalk_costs : List Str := ["many", "arcs", "rows", "length", "before", "after", "start", "end", "cost", "node", "total"]
theorem scwalk_costs : FnScope ["many", "arcs", "rows", "length", "before", "after", "start", "end", "cost", "node", "total"] ["many", "arcs"] (defScope swalk_costs) := ⟨rfl, rfl, rfl, by decide +kernel, rfl, by decide +kernel, by decide +kernel⟩
theorem biwalk_costs : BindOk "walk_costs" swalk_costs ["many", "arcs"] := fun _ _ _ _ _ _ us hl => match us, hl with | [_, _], _ => rfl
abbrev slowest : Stmt := topS 13
abbrev nlowest : List Str := ["number", "divisor", "first", "second"]
theorem sclowest : FnScope ["number", "divisor", "first", "second"] ["number", "divisor"] (defScope slowest) := ⟨rfl, rfl, rfl, by decide +kernel, rfl, by decide +kernel, by decide +kernel⟩
theorem bilowest : BindOk "lowest" slowest ["number", "divisor"] := fun _ _ _ _ _ _ us hl => match us, hl with | [_, _], _ => rfl
def optD : Option Int → Dt
  | none => .non
  | some c => .int c
def rowD (r : Row) : Dt := .lst (r.map optD)
def arcsD (arcs : List Arc) : Dt := .tup (arcs.map arcD)
def fsRows : FS := ⟨Nat × List Arc, fun a => [.dat (.int a.1), .dat (arcsD a.2)], fun a => okA a.1 a.2 ∧ a.1 ≤ 200, fun a => .own (.lst ((List.range (a.1 + 1)).map fun k => rowD (rowN a.1 a.2 k))), fun _ => []⟩
theorem row_len {bf : Row} : ∀ (arcs : List Arc) (af : Row), (arcs.foldl (relax1 bf) af).length = af.length
  | [], _ => rfl
  | a :: r, af => by
    rw [List.foldl_cons, row_len r]
    unfold relax1
    split
    · rfl
    · split
      · rw [List.length_set]
      · split
        · rw [List.length_set]
        · rfl
theorem rowN_len {n : Nat} {arcs : List Arc} : ∀ k, (rowN n arcs k).length = n
  | 0 => List.length_replicate
  | k + 1 => by unfold rowN nextRow; rw [row_len, List.length_replicate]
theorem isN_opt (o : Option Int) : isN (optD o) = o.isNone := by cases o <;> rfl
theorem getD_map {l : Row} {i : Nat} (h : i < l.length) : (l.map optD)[i]? = some (optD (l.getD i none)) := by
  rw [List.getElem?_map, List.getD_eq_getElem?_getD, List.getElem?_eq_getElem h]
  rfl
theorem get_opt {l : Row} {i : Nat} {c : Int} (h : i < l.length) (e : l.getD i none = some c) : (l.map optD)[i]? = some (.int c) := by rw [getD_map h, e]; rfl
theorem e_ifnN {o : Option Int} {A B : Prop} (q1 : ∀ c, o = some c → A) (q2 : o = none → B) : if (!isN (optD o)) = true then A else B := by
  cases o with
  | none => exact q2 rfl
  | some c => exact q1 c rfl
theorem e_ifN {o : Option Int} {A B : Prop} (q1 : o = none → A) (q2 : ∀ c, o = some c → B) : if isN (optD o) = true then A else B := by
  cases o with
  | none => exact q1 rfl
  | some c => exact q2 c rfl
theorem map_get {α β : Type} {f : α → β} {l : List α} {i : Nat} {x : β} (h : (l.map f)[i]? = some x) : ∃ a, l[i]? = some a ∧ x = f a := by
  rw [List.getElem?_map] at h
  cases q : l[i]? with
  | none => rw [q] at h; cases h
  | some a => rw [q] at h; cases h; exact ⟨a, rfl, rfl⟩
theorem fold_take {α β : Type} {f : β → α → β} {l : List α} {i : Nat} {a : α} {b : β} (h : l[i]? = some a) : (l.take (i + 1)).foldl f b = f ((l.take i).foldl f b) a := by
  rw [List.take_add_one, h, List.foldl_append]
  rfl
theorem ixN_nat {n v : Nat} (h : v < n) : ixN n (v : Int) = some v := by
  rw [ixN_nn (by omega) (by omega)]
  rfl
section
variable {P : Program} {w : World} {K : PySem.W.Frag} {mg : Str → Option Value} {base : Heap}
theorem ok_rows (D : Df K mg "walk_costs" swalk_costs) (B : Bi mg) : Cal P w K mg base 1 "walk_costs" 2 fsRows.sp := by
  refine cal_of D scwalk_costs biwalk_costs fun f cdv A outer s H E hr => ⟨_, _, (ps_cons' (ps_setF' 2 scwalk_costs.nd (pf_lst (pa_cons' (PF.pd (pf_lc [("node", 9)] rfl scwalk_costs.nd (pi_range1' B.range (pd_var 0)) (blkOk_by (N := nwalk_costs) (sc := defScope swalk_costs) (by decide +kernel)) (fun _ _ _ _ _ => (pg_name' 9 scwalk_costs.nd)) own_name (fun _ _ _ _ _ => pt_nil') (fun _ _ _ _ _ => pd_int))) pa_nil')))
      (ps_cons' (ps_for' PassesOwn.never rfl (pi_range1' B.range (pd_var 0)) (pg_name' 3 scwalk_costs.nd)
       (ps_cons' (ps_set' 4 scwalk_costs.nd (pd_ix (pv_name 2) (pd_var 3)))
        (ps_cons' (ps_setLc' 5 [("node", 9)] rfl scwalk_costs.nd (pi_range1' B.range (pd_var 0)) (blkOk_by (N := nwalk_costs) (sc := defScope swalk_costs) (by decide +kernel)) (fun _ _ _ _ _ => (pg_name' 9 scwalk_costs.nd)) own_name (fun _ _ _ _ _ => pt_nil') (fun _ _ _ _ _ => pd_non))
        (ps_cons' (ps_for' PassesOwn.never rfl (pi_tup' (pd_var 1)) (pg_tup' 3 rfl (pgs_cons' (pg_name' 6 scwalk_costs.nd) (pgs_cons' (pg_name' 7 scwalk_costs.nd) (pgs_cons' (pg_name' 8 scwalk_costs.nd) pgs_nil'))))
         (ps_one' (ps_if' (PCm.pdt (c_isnot (pd_ix (pv_name 4) (pd_var 6)) pd_non))
           (ps_cons' (ps_set' 10 scwalk_costs.nd (pd_add (pd_ix (pv_name 4) (pd_var 6)) (pd_var 8)))
            (ps_one' (ps_if' (PDW.pdt (pdw_or (PCm.pdt (c_is (pd_ix (pv_name 5) (pd_var 7)) pd_non)) (pdw_or1 (PCm.pdt (c_lt (pd_var 10) (pd_ix (pv_name 5) (pd_var 7)))))))
             (ps_one' (ps_setIx' 5 (pd_var 10) (pd_var 7)))
             ps_nil')))
           ps_nil')))
        (ps_one' (ps_app' 2 (pd_var 5)))))))
      (ps_one' (ps_retN' 2)))), ?_⟩
  rintro es P' Ex ρ0 hl ⟨⟨n, arcs⟩, rfl, ⟨ho, hn⟩, hp⟩ rfl
  dsimp only [fsRows] at ho hn hp
  dsimp only [fsRows]
  walk_at "wk0"
  walk_at "wk"
  rw [Int.toNat_natCast]
  refine e_lcM1 (List.range n) (fun k => .int (k : Int)) (fun _ => .int 0) (rngD_eq n) (by rw [List.length_range]; omega) rfl (by walk_at "set") (fun y hy K1 h1 => ?_) ?_
  · walk_at "wk"
    exact h1 _ rfl
  walk_at "wk"
  rw [Int.toNat_natCast]
  let S : Nat → Rho := fun i => [some (.dat (.int n)), some (.dat (arcsD arcs)), some (.own false (.lst ((List.range (i + 1)).map fun k => rowD (rowN n arcs k)))), none, none, none, none, none, none, none, none]
  refine e_forS [3, 4, 5, 6, 7, 8, 10] S ?_ (fun i x hx => ?_) ?_
  · have e : (List.range n).map (fun _ => Dt.int 0) = (List.replicate n (some 0)).map optD := by
      rw [List.map_replicate, List.map_const', List.length_range]
      rfl
    rw [e]
    rfl
  · obtain ⟨hi, rfl⟩ := rng_get hx
    dsimp only [S]
    walk_at "wk"
    refine e_kix (z := rowD (rowN n arcs i)) rfl rfl (atI_nat (by rw [List.getElem?_map, List.getElem?_range (by omega)]; rfl)) ?_
    walk_at "wk"
    rw [Int.toNat_natCast]
    refine e_lcM1 (List.range n) (fun k => .int (k : Int)) (fun _ => .non) (rngD_eq n) (by rw [List.length_range]; omega) rfl (by walk_at "set") (fun y hy K1 h1 => ?_) ?_
    · walk_at "wk"
      exact h1 _ rfl
    walk_at "wk"
    refine e_kT (xs := arcs.map arcD) ?_
    have lb := rowN_len (n := n) (arcs := arcs) i
    generalize hbf : rowN n arcs i = bf at lb ⊢
    let S2 : Nat → Rho := fun j => [some (.dat (.int n)), some (.dat (arcsD arcs)), some (.own false (.lst ((List.range (i + 1)).map fun k => rowD (rowN n arcs k)))), some (.dat (.int i)), some (.dat (rowD bf)), some (.own false (.lst (((arcs.take j).foldl (relax1 bf) (List.replicate n none)).map optD))), none, none, none, none, none]
    refine e_forS [6, 7, 8, 10] S2 ?_ (fun j x hx => ?_) ?_
    · have e : (List.range n).map (fun _ => Dt.non) = (List.replicate n none).map optD := by
        rw [List.map_replicate, List.map_const', List.length_range]
        rfl
      rw [e]
      rfl
    · obtain ⟨⟨u, v, c⟩, ha, rfl⟩ := map_get hx
      obtain ⟨hu, hv⟩ := ho _ (List.mem_of_getElem? ha)
      dsimp only at hu hv
      dsimp only [S2, arcD]
      have la := row_len (bf := bf) (arcs.take j) (List.replicate n none)
      rw [List.length_replicate] at la
      rw [fold_take ha]
      generalize (arcs.take j).foldl (relax1 bf) (List.replicate n none) = af at la ⊢
      walk_at "wk"
      refine e_kix rfl rfl (atI_nat (getD_map (by omega))) ?_
      walk_at "wk"
      refine e_ifnN (fun c0 h0 => ?_) (fun h0 => ?_)
      · walk_at "wk"
        refine e_kix rfl rfl (atI_nat (get_opt (by omega) h0)) ?_
        walk_at "wk"
        refine e_kix rfl rfl (atI_nat (getD_map (by omega))) ?_
        walk_at "wk"
        refine e_ifN (fun h2 => ?_) (fun w0 h2 => ?_)
        · walk_at "wk"
          refine e_ksetIx rfl (ixN_nat (by rw [List.length_map]; omega)) (by walk_at "set") ?_
          have e : relax1 bf af (u, v, c) = af.set v (some (c0 + c)) := by
            unfold relax1
            dsimp only
            rw [h0]
            dsimp only
            rw [h2]
          rw [e, List.map_set]
          rfl
        · walk_at "wk"
          refine e_kix rfl rfl (atI_nat (get_opt (by omega) h2)) ?_
          walk_at "wk"
          refine e_ifd (fun h3 => ?_) (fun h3 => ?_)
          · walk_at "wk"
            refine e_ksetIx rfl (ixN_nat (by rw [List.length_map]; omega)) (by walk_at "set") ?_
            have e : relax1 bf af (u, v, c) = af.set v (some (c0 + c)) := by
              unfold relax1
              dsimp only
              rw [h0]
              dsimp only
              rw [h2]
              dsimp only
              rw [if_pos h3]
            rw [e, List.map_set]
            rfl
          · walk_at "wk"
            have e : relax1 bf af (u, v, c) = af := by
              unfold relax1
              dsimp only
              rw [h0]
              dsimp only
              rw [h2]
              dsimp only
              rw [if_neg h3]
            rw [e]
            rfl
      · walk_at "wk"
        have e : relax1 bf af (u, v, c) = af := by
          unfold relax1
          dsimp only
          rw [h0]
        rw [e]
        rfl
    · dsimp only [S2]
      rw [List.length_map, List.take_length]
      walk_at "wk"
      refine e_kapp rfl (by rw [List.length_map, List.length_range]; omega) (by walk_at "set") ?_
      have e : (List.range (i + 1)).map (fun k => rowD (rowN n arcs k)) ++ [rowD (arcs.foldl (relax1 bf) (List.replicate n none))] = (List.range (i + 1 + 1)).map (fun k => rowD (rowN n arcs k)) := by
        rw [show List.range (i + 1 + 1) = List.range (i + 1) ++ [i + 1] from List.range_succ, List.map_append]
        subst hbf
        rfl
      rw [← e]
      rfl
  · dsimp only [S]
    rw [rngD_len]
    walk_at "wk"
    exact e_fin rfl hp
def fsLow : FS := ⟨Int × Int, fun a => [.dat (.int a.1), .dat (.int a.2)], fun a => 0 < a.2 ∧ a.2 < 1073741824, fun a => .dat (fracD (lowF a)), fun _ => []⟩
theorem gcd_pos {p q : Int} (h : 0 < q) : 0 < (Int.gcd p q : Int) := by
  have : Int.gcd p q ≠ 0 := fun e => by
    have := (Int.gcd_eq_zero_iff.mp e).2
    omega
  omega
theorem gcd_le {p q : Int} (h : 0 < q) : (Int.gcd p q : Int) ≤ q := Int.le_of_dvd h (Int.gcd_dvd_right _ _)
theorem gcd_step {a b : Int} (ha : 0 ≤ a) (hb : 0 < b) : Int.gcd b (a % b) = Int.gcd a b := by
  obtain ⟨x, rfl⟩ := Int.eq_ofNat_of_zero_le ha
  obtain ⟨y, rfl⟩ := Int.eq_ofNat_of_zero_le (Int.le_of_lt hb)
  have e : ((x : Int) % (y : Int)) = ((x % y : Nat) : Int) := (Int.natCast_emod x y).symm
  rw [e]
  show Nat.gcd y (x % y) = Nat.gcd x y
  rw [Nat.gcd_comm x y, Nat.gcd_rec y x, Nat.gcd_comm]
theorem ok_low (D : Df K mg "lowest" slowest) (B : Bi mg) : Cal P w K mg base 1 "lowest" 2 fsLow.sp := by
  refine cal_of D sclowest bilowest fun f cdv A outer s H E hr => ⟨_, _, (ps_cons' (ps_set' 2 sclowest.nd (pd_abs B.abs (pd_var 0)))
      (ps_cons' (ps_set' 3 sclowest.nd (pd_var 1))
      (ps_cons' (ps_while' PassesOwn.never (PCm.pdt (c_gt (pd_var 3) pd_int))
       (ps_one' (ps_par' 2 3 rfl sclowest.nd (by decide) (pd_var 3) (pd_mod (pd_var 2) (pd_var 3)))))
      (ps_one' (ps_ret' (pd_tup (pa_cons' (pd_fdiv (pd_var 0) (pd_var 2)) (pa_cons' (pd_fdiv (pd_var 1) (pd_var 2)) pa_nil')))))))), ?_⟩
  rintro es P' Ex ρ0 hl ⟨⟨p, q⟩, rfl, ⟨h0, h1⟩, hp⟩ rfl
  dsimp only [fsLow] at h0 h1 hp
  dsimp only [fsLow]
  walk_at "wk0"
  walk_at "wk"
  refine e_while [] (fun m ρ => ∃ a b : Int, 0 ≤ a ∧ 0 ≤ b ∧ m = b.toNat ∧ Int.gcd a b = Int.gcd p q ∧ ρ = [some (.dat (.int p)), some (.dat (.int q)), some (.dat (.int a)), some (.dat (.int b))]) q.toNat ?_ (fun m ρ1 hI => ?_)
  · refine ⟨_, _, ?_, by omega, rfl, ?_, rfl⟩
    · split <;> omega
    · split
      · rw [Int.neg_gcd]
      · rfl
  · obtain ⟨a, b, ha, hb, rfl, hg, rfl⟩ := hI
    walk_at "wk"
    refine e_ifd (fun hc => ?_) (fun hc => ?_)
    · walk_at "wk"
      have h2 := Int.emod_nonneg a (show b ≠ 0 by omega)
      have h3 := Int.emod_lt_of_pos a hc
      refine ⟨_, ?_, b, a % b, hb, h2, rfl, ?_, rfl⟩
      · omega
      · rw [← hg, gcd_step ha hc]
    · obtain rfl : b = 0 := by omega
      have hg2 : (Int.gcd p q : Int) = a := by
        rw [← hg, Int.gcd_zero_right]
        omega
      have g0 := gcd_pos (p := p) h0
      have g1 := gcd_le (p := p) h0
      walk_at "wk"
      refine e_fin rfl ?_
      have e : lowF (p, q) = (p / a, q / a) := by
        unfold lowF
        dsimp only
        rw [hg2]
      rw [e] at hp
      exact hp
end
end K85
namespace K85
open PySem PySem.Spec PyProof.Rows L2 Wk
local macro_rules | `(tactic| walk_at "wk") => `(tactic| repeat (first
  | apply_rules -symm -exfalso (transparency := .reducible) (maxDepth := 100000) only [@e_seq, @e_c, @e_ix, @e_set, @e_op, @e_I2, @e_fI0, @e_ifS, @e_tst, @e_ktst, @e_ift, @e_iff, @e_ifnt, @e_ifnf, @e_ret, @e_retF, @e_acons, @e_anil, @e_alend, @e_tup, @e_int, @e_kint, @e_vd, @e_setIx, @e_toL, @e_toT, @e_callD, @e_toD, @e_toDo, @e_callF, @e_kown, @e_frz, @e_len, @e_setF, @e_lst, @e_and, @e_or, @e_not, @e_andV, @e_orV, @e_notV, @e_kandV, @e_korV, @e_knotV, @e_ifE, @e_is, @e_isnot, @e_neg, @e_kneg, @e_par, @e_asg, @e_gnil, @e_gcons, @e_slT, @e_slL, @e_nopart, @e_part, @e_kpart, @e_sum, @e_min, @e_max, @e_abs, @e_kabs, @e_MM, @e_kMM, @e_tupOf, @e_lstOf, @e_isi, @e_inI, @e_dget, @e_din, @e_dnew, @e_catT, @e_catL, @e_index, @e_eq, @e_chain, @e_kchain, @e_kchain2, @e_drop, @e_next, @e_brk, @e_cnt, @e_retnon, @e_setK, @e_iL, @e_kL, @e_iT, @e_kT, @e_iR1, @e_iR2, @e_for, @e_yes, @e_lc, @e_raise, @e_try, @e_isX, @e_xf]
  | ((with_reducible refine' e_var ?k1 ?_); (case k1 => exact rfl))
  | ((with_reducible refine' e_kset ?k1 ?k2 ?_); (case k1 => exact rfl); (case k2 => (with_reducible (first | exact st0 | exact st1 | exact st2 | exact st3 | exact st4 | exact st5 | exact st6 | exact st7 | exact st8 | exact st9 | exact st10 | exact st11 | exact st12 | exact st13 | exact st14 | exact st15 | exact st16 | exact st17 | exact st18 | exact st19 | exact st20))))
  | ((with_reducible refine' e_ktup ?k1 ?k2 ?_); (case k1 => exact rfl); (case k2 => exact rfl))
  | ((with_reducible refine' e_kix ?k1 ?k2 ?k3 ?_); (case k1 => exact rfl); (case k2 => exact rfl); (case k3 => exact rfl))
  | ((with_reducible refine' e_vn ?k1 ?_); (case k1 => exact rfl))
  | ((with_reducible refine' e_varL ?k1 ?k2 ?_); (case k1 => exact rfl); (case k2 => (with_reducible (first | exact st0 | exact st1 | exact st2 | exact st3 | exact st4 | exact st5 | exact st6 | exact st7 | exact st8 | exact st9 | exact st10 | exact st11 | exact st12 | exact st13 | exact st14 | exact st15 | exact st16 | exact st17 | exact st18 | exact st19 | exact st20))))
  | ((with_reducible refine' e_app ?k1 ?_); (case k1 => exact rfl))
  | ((with_reducible refine' e_kapp ?k1 ?k2 ?k3 ?_); (case k1 => exact rfl); (case k2 => (simp only [List.length_append, List.length_map, List.length_cons, List.length_nil]; omega)); (case k3 => (with_reducible (first | exact st0 | exact st1 | exact st2 | exact st3 | exact st4 | exact st5 | exact st6 | exact st7 | exact st8 | exact st9 | exact st10 | exact st11 | exact st12 | exact st13 | exact st14 | exact st15 | exact st16 | exact st17 | exact st18 | exact st19 | exact st20))))
  | ((with_reducible refine' e_ksetF ?k1 ?k2 ?_); (case k1 => exact rfl); (case k2 => (with_reducible (first | exact st0 | exact st1 | exact st2 | exact st3 | exact st4 | exact st5 | exact st6 | exact st7 | exact st8 | exact st9 | exact st10 | exact st11 | exact st12 | exact st13 | exact st14 | exact st15 | exact st16 | exact st17 | exact st18 | exact st19 | exact st20))))
  | ((with_reducible refine' e_klen ?k1 ?k2 ?_); (case k1 => exact rfl); (case k2 => exact rfl))
  | ((with_reducible refine' e_klst ?k1 ?k2 ?_); (case k1 => exact rfl); (case k2 => exact rfl))
  | ((with_reducible refine' e_gtup ?k1 ?_); (case k1 => exact rfl))
  | ((with_reducible refine' e_gN ?k1 ?k2 ?_); (case k1 => exact rfl); (case k2 => (with_reducible (first | exact st0 | exact st1 | exact st2 | exact st3 | exact st4 | exact st5 | exact st6 | exact st7 | exact st8 | exact st9 | exact st10 | exact st11 | exact st12 | exact st13 | exact st14 | exact st15 | exact st16 | exact st17 | exact st18 | exact st19 | exact st20))))
  | ((with_reducible refine' e_varT ?k1 ?k2 ?_); (case k1 => exact rfl); (case k2 => (with_reducible (first | exact st0 | exact st1 | exact st2 | exact st3 | exact st4 | exact st5 | exact st6 | exact st7 | exact st8 | exact st9 | exact st10 | exact st11 | exact st12 | exact st13 | exact st14 | exact st15 | exact st16 | exact st17 | exact st18 | exact st19 | exact st20))))
  | ((with_reducible refine' e_mulR ?k1 ?k2 ?_); (case k1 => omega); (case k2 => omega))
  | ((with_reducible refine' e_mulL ?k1 ?k2 ?_); (case k1 => omega); (case k2 => omega))
  | ((with_reducible refine' e_div ?k1 ?k2 ?_); (case k1 => omega); (case k2 => omega))
  | ((with_reducible refine' e_mod ?k1 ?_); (case k1 => omega))
  | ((with_reducible refine' e_retN ?k1 ?_); (case k1 => exact rfl))
  | ((with_reducible refine' e_retNO ?k1 ?k2 ?_); (case k1 => exact rfl); (case k2 => (with_reducible (first | exact st0 | exact st1 | exact st2 | exact st3 | exact st4 | exact st5 | exact st6 | exact st7 | exact st8 | exact st9 | exact st10 | exact st11 | exact st12 | exact st13 | exact st14 | exact st15 | exact st16 | exact st17 | exact st18 | exact st19 | exact st20))))
  | ((with_reducible refine' e_setIx1 ?k1 ?_); (case k1 => exact rfl))
  | ((with_reducible refine' e_ksetIx ?k1 ?k2 ?k3 ?_); (case k1 => exact rfl); (case k2 => exact rfl); (case k3 => (with_reducible (first | exact st0 | exact st1 | exact st2 | exact st3 | exact st4 | exact st5 | exact st6 | exact st7 | exact st8 | exact st9 | exact st10 | exact st11 | exact st12 | exact st13 | exact st14 | exact st15 | exact st16 | exact st17 | exact st18 | exact st19 | exact st20))))
  | ((with_reducible refine' e_kpar ?k1 ?k2 ?k3 ?_); (case k1 => exact rfl); (case k2 => exact rfl); (case k3 => (repeat (first | exact set_0 | apply set_s))))
  | ((with_reducible refine' e_aug ?k1 ?_); (case k1 => exact rfl))
  | ((with_reducible refine' e_kaug ?k1 ?k2 ?_); (case k1 => exact rfl); (case k2 => (with_reducible (first | exact st0 | exact st1 | exact st2 | exact st3 | exact st4 | exact st5 | exact st6 | exact st7 | exact st8 | exact st9 | exact st10 | exact st11 | exact st12 | exact st13 | exact st14 | exact st15 | exact st16 | exact st17 | exact st18 | exact st19 | exact st20))))
  | ((with_reducible refine' e_kslT ?k1 ?_); (case k1 => exact rfl))
  | ((with_reducible refine' e_kslL ?k1 ?_); (case k1 => exact rfl))
  | ((with_reducible refine' e_ksum ?k1 ?_); (case k1 => exact rfl))
  | ((with_reducible refine' e_ktupOf ?k1 ?k2 ?_); (case k1 => exact rfl); (case k2 => exact rfl))
  | ((with_reducible refine' e_klstOf ?k1 ?k2 ?_); (case k1 => exact rfl); (case k2 => exact rfl))
  | ((with_reducible refine' e_kisi ?k1 ?k2 ?k3 ?_); (case k1 => exact rfl); (case k2 => exact rfl); (case k3 => (first | exact ks_ii | exact ks_ib | exact ks_bi | exact ks_bb | exact ks_ni | exact ks_nb | exact ks_tt | exact ks_lt | exact ks_it | exact ks_nt | exact ks_ti | exact ks_si)))
  | ((with_reducible refine' e_kR1 ?k1 ?k2 ?_); (case k1 => omega); (case k2 => omega))
  | ((with_reducible refine' e_kR2 ?k1 ?_); (case k1 => omega))
  ))
local macro_rules | `(tactic| walk_at "wk0") => `(tactic| (unfold endsF; (with_reducible refine' st_rho ?k1 ?_); (case k1 => repeat (first | exact rh_0 | (with_reducible apply rh_m) | (with_reducible apply rh_n) | apply rh_s))))
local macro_rules | `(tactic| walk_at "set") => `(tactic| with_reducible (first | exact st0 | exact st1 | exact st2 | exact st3 | exact st4 | exact st5 | exact st6 | exact st7 | exact st8 | exact st9 | exact st10 | exact st11 | exact st12 | exact st13 | exact st14 | exact st15 | exact st16 | exact st17 | exact st18 | exact st19 | exact st20))
abbrev sleast_mean : Stmt := topS 14
abbrev nleast_mean : List Str := ["many", "arcs", "rows", "best", "node", "worst", "length", "mean"]
theorem scleast_mean : FnScope ["many", "arcs", "rows", "best", "node", "worst", "length", "mean"] ["many", "arcs"] (defScope sleast_mean) := ⟨rfl, rfl, rfl, by decide +kernel, rfl, by decide +kernel, by decide +kernel⟩
theorem bileast_mean : BindOk "least_mean" sleast_mean ["many", "arcs"] := fun _ _ _ _ _ _ us hl => match us, hl with | [_, _], _ => rfl
def optF : Option Fc → Dt
  | none => .non
  | some p => fracD p
def deA : Dt → Arc
  | .tup [.int u, .int v, .int c] => (u.toNat, v.toNat, c)
  | _ => (0, 0, 0)
def arcsOf : Dt → List Arc
  | .tup xs => xs.map deA
  | _ => []
/-- behind the check of the arcs -/
def behind (cN cT : Addr) (a : Int × Dt) (r : Nat → List Arc → Except (Addr × List (Str × Dt)) Rs) : Except (Addr × List (Str × Dt)) Rs := match chkR cN cT a.1 a.2 with
  | .error e => .error e
  | .ok _ => r a.1.toNat (arcsOf a.2)
def preA (a : Int × Dt) : Prop := isScr a.2 = false ∧ ∀ xs, a.2 = .tup xs → xs.length < 1000000 ∧ ∀ x ∈ xs, tame x
def fxLeast (cN cT : Addr) : FX := ⟨Int × Dt, fun a => [.dat (.int a.1), .dat a.2], preA, fun a => behind cN cT a fun n arcs => .ok (.dat (optF (leastMean n arcs))), fun _ => []⟩
theorem not_bad {m : Int} {x : Dt} (h : badA m x = false) : x = arcD (deA x) ∧ ((deA x).1 : Int) < m ∧ ((deA x).2.1 : Int) < m := by
  unfold badA at h
  split at h
  · rename_i u v c
    rw [Bool.or_eq_false_iff, decide_eq_false_iff_not, decide_eq_false_iff_not] at h
    have hu : ((u.toNat : Nat) : Int) = u := by omega
    have hv : ((v.toNat : Nat) : Int) = v := by omega
    refine ⟨?_, ?_, ?_⟩
    · show Dt.tup [.int u, .int v, .int c] = Dt.tup [.int (u.toNat : Int), .int (v.toNat : Int), .int c]
      rw [hu, hv]
    · show ((u.toNat : Nat) : Int) < m
      omega
    · show ((v.toNat : Nat) : Int) < m
      omega
  · cases h
theorem chk_ok {cN cT : Addr} {m : Int} {d : Dt} {r : Rs} (h : chkR cN cT m d = .ok r) : r = .dat .non ∧ ∃ (n : Nat) (arcs : List Arc), m = n ∧ d = arcsD arcs ∧ arcsOf d = arcs ∧ m.toNat = n ∧ 1 ≤ n ∧ n ≤ 200 ∧ arcs.length ≤ 4000 ∧ okA n arcs := by
  unfold chkR at h
  split at h
  · cases h
  · rename_i hm
    split at h
    · rename_i xs
      split at h
      · cases h
      · rename_i hb
        split at h
        · cases h
        · rename_i hb2
          have hall : ∀ x ∈ xs, badA m x = false := fun x hx => by
            cases q : badA m x with
            | false => rfl
            | true => exact absurd (List.any_eq_true.mpr ⟨x, hx, q⟩) hb
          have e : xs = (xs.map deA).map arcD := by
            rw [List.map_map]
            conv => lhs; rw [← List.map_id xs]
            exact List.map_congr_left fun x hx => (not_bad (hall x hx)).1
          refine ⟨by cases h; rfl, m.toNat, xs.map deA, by omega, congrArg Dt.tup e, rfl, rfl, by omega, by omega, by rw [List.length_map]; omega, fun a ha => ?_⟩
          obtain ⟨x, hx, rfl⟩ := List.mem_map.mp ha
          have := not_bad (hall x hx)
          omega
    · cases h
theorem worst_bd {n : Nat} {arcs : List Arc} {v : Nat} {cn : Int} : ∀ {i : Nat} {w : Fc}, i ≤ n → worstN n arcs v cn i = some w → 0 < w.2 ∧ w.2 ≤ n
  | 0, _, _, h => by cases h
  | i + 1, w, hi, h => by
    unfold worstN at h
    split at h
    · exact worst_bd (by omega) h
    · rename_i c hc
      have hm : 0 < (n : Int) - (i : Int) ∧ (n : Int) - (i : Int) ≤ n := by omega
      unfold worst1 at h
      split at h
      · cases h; exact hm
      · rename_i w0 h0
        split at h
        · cases h; exact hm
        · cases h; exact worst_bd (by omega) h0
theorem worst_some {n : Nat} {arcs : List Arc} {v : Nat} {cn : Int} (hv : v < n) : ∀ {i : Nat}, 0 < i → ∃ w, worstN n arcs v cn i = some w
  | i + 1, _ => by
    unfold worstN
    split
    · rename_i hc
      by_cases h : 0 < i
      · exact worst_some hv h
      · obtain rfl : i = 0 := by omega
        unfold rowN at hc
        rw [List.getD_eq_getElem?_getD, List.getElem?_replicate, if_pos hv] at hc
        cases hc
    · unfold worst1
      split
      · exact ⟨_, rfl⟩
      · split
        · exact ⟨_, rfl⟩
        · exact ⟨_, rfl⟩
theorem best_bd {n : Nat} {arcs : List Arc} (hn : 0 < n) : ∀ {i : Nat} {w : Fc}, i ≤ n → bestN n arcs i = some w → 0 < w.2 ∧ w.2 ≤ n
  | 0, _, _, h => by cases h
  | i + 1, w, hi, h => by
    unfold bestN at h
    split at h
    · exact best_bd hn (by omega) h
    · rename_i cn hc
      obtain ⟨w1, hw⟩ := worst_some (arcs := arcs) (cn := cn) (show i < n by omega) hn
      have hm := worst_bd (Nat.le_refl n) hw
      rw [hw] at h
      unfold best1 at h
      split at h
      · cases h; exact hm
      · rename_i w0 h0
        split at h
        · cases h; exact hm
        · cases h; exact best_bd hn (by omega) h0
theorem rows_at {n : Nat} {arcs : List Arc} {k : Nat} (h : k ≤ n) : atI ((List.range (n + 1)).map fun k => rowD (rowN n arcs k)) (k : Int) = some (rowD (rowN n arcs k)) := atI_nat (by rw [List.getElem?_map, List.getElem?_range (by omega)]; rfl)
theorem e_ifNF {o : Option Fc} {A B : Prop} (q1 : o = none → A) (q2 : ∀ c, o = some c → B) : if isN (optF o) = true then A else B := by
  cases o with
  | none => exact q1 rfl
  | some c => exact q2 c rfl
theorem call_chk {cN cT : Addr} {ρ : Rho} {ws : List Vw} {PR : Rs → Rho → Prop} {ex : Addr → List (Str × Dt) → Prop} {m : Int} {d : Dt} (h1 : resv ρ ws = some [.dat (.int m), .dat d]) (h3 : slotsOf ws = []) (hp : preA (m, d)) (q1 : ∀ e, chkR cN cT m d = .error e → ex e.1 e.2) (q2 : ∀ r, chkR cN cT m d = .ok r → PR r ρ) : kCall 2 (fxChk cN cT).sp ex ws ρ PR := by
  refine e_callX (fxChk cN cT) (m, d) h1 rfl h3 hp rfl ?_
  show outX _ _ (chkR cN cT m d)
  cases h : chkR cN cT m d with
  | error e => exact q1 e h
  | ok r => exact q2 r h
section
variable {P : Program} {w : World} {K : PySem.W.Frag} {mg : Str → Option Value} {base : Heap}
theorem ok_least {cNoValue cTooMany : Addr} (D : Df K mg "least_mean" sleast_mean) (B : Bi mg) (ccheck_arcs : CalX P w K mg base 3 "check_arcs" 2 (fxChk cNoValue cTooMany).sp) (cwalk_costs : Cal P w K mg base 1 "walk_costs" 2 fsRows.sp) (cless : Cal P w K mg base 1 "less" 2 fsLess.sp) (clowest : Cal P w K mg base 1 "lowest" 2 fsLow.sp) :
    CalX P w K mg base 4 "least_mean" 2 (fxLeast cNoValue cTooMany).sp := by
  refine calX_of D scleast_mean bileast_mean fun f cdv A outer s H E Ex hr => ⟨_, _, (ps_cons' (ps_expr' (pd_calX ccheck_arcs (hr.mono (by decide)) (passes_call (takes_of rfl rfl rfl rfl) fun _ _ _ _ h => h) (pa_cons' (pd_var 0) (pa_cons' (pd_var 1) pa_nil'))))
      (ps_cons' (ps_set' 2 scleast_mean.nd (PF.pd (pf_cal cwalk_costs (hr.mono (by decide)) (pa_cons' (pd_var 0) (pa_cons' (pd_var 1) pa_nil')))))
      (ps_cons' (ps_set' 3 scleast_mean.nd pd_non)
      (ps_cons' (ps_for' (passes_of rfl) rfl (pi_range1' B.range (pd_var 0)) (pg_name' 4 scleast_mean.nd)
       (ps_cons' (ps_if' (PCm.pdt (c_is (pd_ix (PD.pv (pd_ix (pv_name 2) (pd_var 0))) (pd_var 4)) pd_non))
         (ps_one' ps_cnt')
         ps_nil')
        (ps_cons' (ps_set' 5 scleast_mean.nd pd_non)
        (ps_cons' (ps_for' (passes_of rfl) rfl (pi_range1' B.range (pd_var 0)) (pg_name' 6 scleast_mean.nd)
         (ps_one' (ps_if' (PCm.pdt (c_isnot (pd_ix (PD.pv (pd_ix (pv_name 2) (pd_var 6))) (pd_var 4)) pd_non))
           (ps_cons' (ps_set' 7 scleast_mean.nd (pd_tup (pa_cons' (pd_sub (pd_ix (PD.pv (pd_ix (pv_name 2) (pd_var 0))) (pd_var 4)) (pd_ix (PD.pv (pd_ix (pv_name 2) (pd_var 6))) (pd_var 4))) (pa_cons' (pd_sub (pd_var 0) (pd_var 6)) pa_nil'))))
            (ps_one' (ps_if' (PDW.pdt (pdw_or (PCm.pdt (c_is (pd_var 5) pd_non)) (pdw_or1 (pdt_val (pd_cal cless (hr.mono (by decide)) (pa_cons' (pd_var 5) (pa_cons' (pd_var 7) pa_nil')))))))
             (ps_one' (ps_set' 5 scleast_mean.nd (pd_var 7)))
             ps_nil')))
           ps_nil')))
        (ps_one' (ps_if' (PDW.pdt (pdw_or (PCm.pdt (c_is (pd_var 3) pd_non)) (pdw_or1 (pdt_val (pd_cal cless (hr.mono (by decide)) (pa_cons' (pd_var 5) (pa_cons' (pd_var 3) pa_nil')))))))
         (ps_one' (ps_set' 3 scleast_mean.nd (pd_var 5)))
         ps_nil'))))))
      (ps_one' (ps_ret' (pd_ifE (PCm.pdt (c_is (pd_var 3) pd_non)) pd_non (pd_cal clowest (hr.mono (by decide)) (pa_cons' (pd_ix (pv_name 3) pd_int) (pa_cons' (pd_ix (pv_name 3) pd_int) pa_nil')))))))))), ?_⟩
  rintro es P' ρ0 hl ⟨⟨m, d⟩, rfl, hpre, hp⟩ rfl
  dsimp only [fxLeast] at hp
  dsimp only [fxLeast]
  walk_at "wk0"
  walk_at "wk"
  refine call_chk rfl rfl hpre (fun e he => ?_) (fun r he => ?_)
  · unfold behind at hp
    dsimp only at hp
    rw [he] at hp
    exact hp
  obtain ⟨rfl, n, arcs, rfl, rfl, ha, _, hn1, hn2, hn3, hok⟩ := chk_ok he
  have hp2 : P' (.dat (optF (leastMean n arcs))) [] := by
    unfold behind at hp
    dsimp only at hp
    rw [he, ha] at hp
    exact hp
  clear hp
  walk_at "wk"
  refine e_call0 fsRows (n, arcs) rfl rfl rfl ⟨hok, hn2⟩ rfl ?_
  dsimp only [fsRows]
  walk_at "wk"
  rw [Int.toNat_natCast]
  let S : Nat → Rho := fun v => [some (.dat (.int n)), some (.dat (arcsD arcs)), some (.dat (.lst ((List.range (n + 1)).map fun k => rowD (rowN n arcs k)))), some (.dat (optF (bestN n arcs v))), none, none, none, none]
  refine e_forS [4, 5, 6, 7] S rfl (fun v x hx => ?_) ?_
  · obtain ⟨hv, rfl⟩ := rng_get hx
    dsimp only [S]
    have hln := rowN_len (n := n) (arcs := arcs) n
    have hln' : v < (rowN n arcs n).length := by omega
    walk_at "wk"
    refine e_kix rfl rfl (rows_at (Nat.le_refl n)) ?_
    walk_at "wk"
    refine e_kix rfl rfl (atI_nat (getD_map hln')) ?_
    walk_at "wk"
    refine e_ifN (fun h0 => ?_) (fun cn h0 => ?_)
    · walk_at "wk"
      have e : bestN n arcs (v + 1) = bestN n arcs v := by
        conv => lhs; unfold bestN
        rw [h0]
      rw [e]
      rfl
    walk_at "wk"
    rw [Int.toNat_natCast]
    let S2 : Nat → Rho := fun k => [some (.dat (.int n)), some (.dat (arcsD arcs)), some (.dat (.lst ((List.range (n + 1)).map fun k => rowD (rowN n arcs k)))), some (.dat (optF (bestN n arcs v))), some (.dat (.int v)), some (.dat (optF (worstN n arcs v cn k))), none, none]
    refine e_forS [6, 7] S2 rfl (fun k x hx => ?_) ?_
    · obtain ⟨hk, rfl⟩ := rng_get hx
      dsimp only [S2]
      have hlk := rowN_len (n := n) (arcs := arcs) k
      have hlk' : v < (rowN n arcs k).length := by omega
      walk_at "wk"
      refine e_kix rfl rfl (rows_at (Nat.le_of_lt hk)) ?_
      walk_at "wk"
      refine e_kix rfl rfl (atI_nat (getD_map hlk')) ?_
      walk_at "wk"
      refine e_ifnN (fun c h1 => ?_) (fun h1 => ?_)
      · walk_at "wk"
        refine e_kix rfl rfl (rows_at (Nat.le_refl n)) ?_
        walk_at "wk"
        refine e_kix rfl rfl (atI_nat (get_opt hln' h0)) ?_
        walk_at "wk"
        refine e_kix rfl rfl (rows_at (Nat.le_of_lt hk)) ?_
        walk_at "wk"
        refine e_kix rfl rfl (atI_nat (get_opt hlk' h1)) ?_
        walk_at "wk"
        have step : worstN n arcs v cn (k + 1) = worst1 (worstN n arcs v cn k) (cn - c, (n : Int) - (k : Int)) := by
          conv => lhs; unfold worstN
          rw [h1]
        rw [step]
        refine e_ifNF (fun h2 => ?_) (fun w0 h2 => ?_)
        · walk_at "wk"
          rw [h2]
          rfl
        · rw [h2]
          have bd := worst_bd (Nat.le_of_lt hk) h2
          walk_at "wk"
          refine e_call0 fsLess (w0, (cn - c, (n : Int) - (k : Int))) rfl rfl rfl ⟨⟨by dsimp only; omega, by dsimp only; omega⟩, by dsimp only; omega, by dsimp only; omega⟩ rfl ?_
          dsimp only [fsLess]
          walk_at "wk"
          refine e_ifb (fun h3 => ?_) (fun h3 => ?_)
          · walk_at "wk"
            have e : worst1 (some w0) (cn - c, (n : Int) - (k : Int)) = some (cn - c, (n : Int) - (k : Int)) := by
              unfold worst1
              dsimp only
              rw [if_pos h3]
            rw [e]
            rfl
          · walk_at "wk"
            have e : worst1 (some w0) (cn - c, (n : Int) - (k : Int)) = some w0 := by
              unfold worst1
              dsimp only
              rw [if_neg (by rw [h3]; exact Bool.false_ne_true)]
            rw [e]
            rfl
      · walk_at "wk"
        have step : worstN n arcs v cn (k + 1) = worstN n arcs v cn k := by
          conv => lhs; unfold worstN
          rw [h1]
        rw [step]
        rfl
    · dsimp only [S2]
      rw [rngD_len]
      obtain ⟨w1, hw⟩ := worst_some (arcs := arcs) (cn := cn) hv (show 0 < n by omega)
      have bd := worst_bd (Nat.le_refl n) hw
      have step : bestN n arcs (v + 1) = best1 (bestN n arcs v) w1 := by
        conv => lhs; unfold bestN
        rw [h0]
        dsimp only
        rw [hw]
        rfl
      rw [step, hw]
      walk_at "wk"
      refine e_ifNF (fun h2 => ?_) (fun b0 h2 => ?_)
      · walk_at "wk"
        rw [h2]
        rfl
      · rw [h2]
        have bd2 := best_bd (by omega) (Nat.le_of_lt hv) h2
        walk_at "wk"
        refine e_call0 fsLess (w1, b0) rfl rfl rfl ⟨⟨by dsimp only; omega, by dsimp only; omega⟩, by dsimp only; omega, by dsimp only; omega⟩ rfl ?_
        dsimp only [fsLess]
        walk_at "wk"
        refine e_ifb (fun h3 => ?_) (fun h3 => ?_)
        · walk_at "wk"
          have e : best1 (some b0) w1 = some w1 := by
            unfold best1
            dsimp only
            rw [if_pos h3]
          rw [e]
          rfl
        · walk_at "wk"
          have e : best1 (some b0) w1 = some b0 := by
            unfold best1
            dsimp only
            rw [if_neg (by rw [h3]; exact Bool.false_ne_true)]
          rw [e]
          rfl
  · dsimp only [S]
    rw [rngD_len]
    walk_at "wk"
    refine e_ifNF (fun h2 => ?_) (fun b0 h2 => ?_)
    · walk_at "wk"
      refine e_fin rfl ?_
      unfold leastMean at hp2
      rw [h2] at hp2
      exact hp2
    · have bd2 := best_bd (by omega) (Nat.le_refl n) h2
      rw [h2]
      walk_at "wk"
      refine e_call0 fsLow b0 rfl rfl rfl ⟨bd2.1, by omega⟩ rfl ?_
      dsimp only [fsLow]
      walk_at "wk"
      refine e_fin rfl ?_
      unfold leastMean at hp2
      rw [h2] at hp2
      exact hp2
end
end K85
namespace K85
open PySem PySem.Spec PyProof.Rows L2 Wk
local macro_rules | `(tactic| walk_at "wk") => `(tactic| repeat (first
  | apply_rules -symm -exfalso (transparency := .reducible) (maxDepth := 100000) only [@e_seq, @e_c, @e_ix, @e_set, @e_op, @e_I2, @e_fI0, @e_ifS, @e_tst, @e_ktst, @e_ift, @e_iff, @e_ifnt, @e_ifnf, @e_ret, @e_retF, @e_acons, @e_anil, @e_alend, @e_tup, @e_int, @e_kint, @e_vd, @e_setIx, @e_toL, @e_toT, @e_callD, @e_toD, @e_toDo, @e_callF, @e_kown, @e_frz, @e_len, @e_setF, @e_lst, @e_and, @e_or, @e_not, @e_andV, @e_orV, @e_notV, @e_kandV, @e_korV, @e_knotV, @e_ifE, @e_is, @e_isnot, @e_neg, @e_kneg, @e_par, @e_asg, @e_gnil, @e_gcons, @e_slT, @e_slL, @e_nopart, @e_part, @e_kpart, @e_sum, @e_min, @e_max, @e_abs, @e_kabs, @e_MM, @e_kMM, @e_tupOf, @e_lstOf, @e_isi, @e_inI, @e_dget, @e_din, @e_dnew, @e_catT, @e_catL, @e_index, @e_eq, @e_chain, @e_kchain, @e_kchain2, @e_drop, @e_next, @e_brk, @e_cnt, @e_retnon, @e_setK, @e_iL, @e_kL, @e_iT, @e_kT, @e_iR1, @e_iR2, @e_for, @e_yes, @e_lc, @e_raise, @e_try, @e_isX, @e_xf]
  | ((with_reducible refine' e_var ?k1 ?_); (case k1 => exact rfl))
  | ((with_reducible refine' e_kset ?k1 ?k2 ?_); (case k1 => exact rfl); (case k2 => (with_reducible (first | exact st0 | exact st1 | exact st2 | exact st3 | exact st4 | exact st5 | exact st6 | exact st7 | exact st8 | exact st9 | exact st10 | exact st11 | exact st12 | exact st13 | exact st14 | exact st15 | exact st16 | exact st17 | exact st18 | exact st19 | exact st20))))
  | ((with_reducible refine' e_ktup ?k1 ?k2 ?_); (case k1 => exact rfl); (case k2 => exact rfl))
  | ((with_reducible refine' e_kix ?k1 ?k2 ?k3 ?_); (case k1 => exact rfl); (case k2 => exact rfl); (case k3 => exact rfl))
  | ((with_reducible refine' e_vn ?k1 ?_); (case k1 => exact rfl))
  | ((with_reducible refine' e_varL ?k1 ?k2 ?_); (case k1 => exact rfl); (case k2 => (with_reducible (first | exact st0 | exact st1 | exact st2 | exact st3 | exact st4 | exact st5 | exact st6 | exact st7 | exact st8 | exact st9 | exact st10 | exact st11 | exact st12 | exact st13 | exact st14 | exact st15 | exact st16 | exact st17 | exact st18 | exact st19 | exact st20))))
  | ((with_reducible refine' e_app ?k1 ?_); (case k1 => exact rfl))
  | ((with_reducible refine' e_kapp ?k1 ?k2 ?k3 ?_); (case k1 => exact rfl); (case k2 => (simp only [List.length_append, List.length_map, List.length_cons, List.length_nil]; omega)); (case k3 => (with_reducible (first | exact st0 | exact st1 | exact st2 | exact st3 | exact st4 | exact st5 | exact st6 | exact st7 | exact st8 | exact st9 | exact st10 | exact st11 | exact st12 | exact st13 | exact st14 | exact st15 | exact st16 | exact st17 | exact st18 | exact st19 | exact st20))))
  | ((with_reducible refine' e_ksetF ?k1 ?k2 ?_); (case k1 => exact rfl); (case k2 => (with_reducible (first | exact st0 | exact st1 | exact st2 | exact st3 | exact st4 | exact st5 | exact st6 | exact st7 | exact st8 | exact st9 | exact st10 | exact st11 | exact st12 | exact st13 | exact st14 | exact st15 | exact st16 | exact st17 | exact st18 | exact st19 | exact st20))))
  | ((with_reducible refine' e_klen ?k1 ?k2 ?_); (case k1 => exact rfl); (case k2 => exact rfl))
  | ((with_reducible refine' e_klst ?k1 ?k2 ?_); (case k1 => exact rfl); (case k2 => exact rfl))
  | ((with_reducible refine' e_gtup ?k1 ?_); (case k1 => exact rfl))
  | ((with_reducible refine' e_gN ?k1 ?k2 ?_); (case k1 => exact rfl); (case k2 => (with_reducible (first | exact st0 | exact st1 | exact st2 | exact st3 | exact st4 | exact st5 | exact st6 | exact st7 | exact st8 | exact st9 | exact st10 | exact st11 | exact st12 | exact st13 | exact st14 | exact st15 | exact st16 | exact st17 | exact st18 | exact st19 | exact st20))))
  | ((with_reducible refine' e_varT ?k1 ?k2 ?_); (case k1 => exact rfl); (case k2 => (with_reducible (first | exact st0 | exact st1 | exact st2 | exact st3 | exact st4 | exact st5 | exact st6 | exact st7 | exact st8 | exact st9 | exact st10 | exact st11 | exact st12 | exact st13 | exact st14 | exact st15 | exact st16 | exact st17 | exact st18 | exact st19 | exact st20))))
  | ((with_reducible refine' e_mulR ?k1 ?k2 ?_); (case k1 => omega); (case k2 => omega))
  | ((with_reducible refine' e_mulL ?k1 ?k2 ?_); (case k1 => omega); (case k2 => omega))
  | ((with_reducible refine' e_div ?k1 ?k2 ?_); (case k1 => omega); (case k2 => omega))
  | ((with_reducible refine' e_mod ?k1 ?_); (case k1 => omega))
  | ((with_reducible refine' e_retN ?k1 ?_); (case k1 => exact rfl))
  | ((with_reducible refine' e_retNO ?k1 ?k2 ?_); (case k1 => exact rfl); (case k2 => (with_reducible (first | exact st0 | exact st1 | exact st2 | exact st3 | exact st4 | exact st5 | exact st6 | exact st7 | exact st8 | exact st9 | exact st10 | exact st11 | exact st12 | exact st13 | exact st14 | exact st15 | exact st16 | exact st17 | exact st18 | exact st19 | exact st20))))
  | ((with_reducible refine' e_setIx1 ?k1 ?_); (case k1 => exact rfl))
  | ((with_reducible refine' e_ksetIx ?k1 ?k2 ?k3 ?_); (case k1 => exact rfl); (case k2 => exact rfl); (case k3 => (with_reducible (first | exact st0 | exact st1 | exact st2 | exact st3 | exact st4 | exact st5 | exact st6 | exact st7 | exact st8 | exact st9 | exact st10 | exact st11 | exact st12 | exact st13 | exact st14 | exact st15 | exact st16 | exact st17 | exact st18 | exact st19 | exact st20))))
  | ((with_reducible refine' e_kpar ?k1 ?k2 ?k3 ?_); (case k1 => exact rfl); (case k2 => exact rfl); (case k3 => (repeat (first | exact set_0 | apply set_s))))
  | ((with_reducible refine' e_aug ?k1 ?_); (case k1 => exact rfl))
  | ((with_reducible refine' e_kaug ?k1 ?k2 ?_); (case k1 => exact rfl); (case k2 => (with_reducible (first | exact st0 | exact st1 | exact st2 | exact st3 | exact st4 | exact st5 | exact st6 | exact st7 | exact st8 | exact st9 | exact st10 | exact st11 | exact st12 | exact st13 | exact st14 | exact st15 | exact st16 | exact st17 | exact st18 | exact st19 | exact st20))))
  | ((with_reducible refine' e_kslT ?k1 ?_); (case k1 => exact rfl))
  | ((with_reducible refine' e_kslL ?k1 ?_); (case k1 => exact rfl))
  | ((with_reducible refine' e_ksum ?k1 ?_); (case k1 => exact rfl))
  | ((with_reducible refine' e_ktupOf ?k1 ?k2 ?_); (case k1 => exact rfl); (case k2 => exact rfl))
  | ((with_reducible refine' e_klstOf ?k1 ?k2 ?_); (case k1 => exact rfl); (case k2 => exact rfl))
  | ((with_reducible refine' e_kisi ?k1 ?k2 ?k3 ?_); (case k1 => exact rfl); (case k2 => exact rfl); (case k3 => (first | exact ks_ii | exact ks_ib | exact ks_bi | exact ks_bb | exact ks_ni | exact ks_nb | exact ks_tt | exact ks_lt | exact ks_it | exact ks_nt | exact ks_ti | exact ks_si)))
  | ((with_reducible refine' e_kR1 ?k1 ?k2 ?_); (case k1 => omega); (case k2 => omega))
  | ((with_reducible refine' e_kR2 ?k1 ?_); (case k1 => omega))
  ))
local macro_rules | `(tactic| walk_at "wk0") => `(tactic| (unfold endsF; (with_reducible refine' st_rho ?k1 ?_); (case k1 => repeat (first | exact rh_0 | (with_reducible apply rh_m) | (with_reducible apply rh_n) | apply rh_s))))
local macro_rules | `(tactic| walk_at "set") => `(tactic| with_reducible (first | exact st0 | exact st1 | exact st2 | exact st3 | exact st4 | exact st5 | exact st6 | exact st7 | exact st8 | exact st9 | exact st10 | exact st11 | exact st12 | exact st13 | exact st14 | exact st15 | exact st16 | exact st17 | exact st18 | exact st19 | exact st20))
abbrev spotentials_for : Stmt := topS 16
abbrev npotentials_for : List Str := ["many", "arcs", "mean", "told", "turn", "changed", "arc", "node", "limit"]
theorem scpotentials_for : FnScope ["many", "arcs", "mean", "told", "turn", "changed", "arc", "node", "limit"] ["many", "arcs", "mean"] (defScope spotentials_for) := ⟨rfl, rfl, rfl, by decide +kernel, rfl, by decide +kernel, by decide +kernel⟩
theorem bipotentials_for : BindOk "potentials_for" spotentials_for ["many", "arcs", "mean"] := fun _ _ _ _ _ _ us hl => match us, hl with | [_, _, _], _ => rfl
def intsD (p : List Int) : Dt := .tup (p.map Dt.int)
def fsPot : FS := ⟨(Nat × List Arc × Fc) × List Int, fun a => [.dat (.int a.1.1), .dat (arcsD a.1.2.1), .dat (fracD a.1.2.2)], fun a => okA a.1.1 a.1.2.1 ∧ a.1.1 ≤ 200 ∧ sm a.1.2.2.2 ∧ potentials a.1.1 a.1.2.1 a.1.2.2 = some a.2, fun a => .dat (intsD a.2), fun _ => []⟩
theorem bf_len {m : Fc} : ∀ (arcs : List Arc) (st : List Int × Bool), (arcs.foldl (bf1 m) st).1.length = st.1.length
  | [], _ => rfl
  | a :: r, st => by
    rw [List.foldl_cons, bf_len r]
    unfold bf1
    split
    · rw [List.length_set]
    · rfl
theorem geti {l : List Int} {i : Nat} (h : i < l.length) : (l.map Dt.int)[i]? = some (.int (l.getD i 0)) := by
  rw [List.getElem?_map, List.getD_eq_getElem?_getD, List.getElem?_eq_getElem h]
  rfl
theorem call_spare {ρ : Rho} {ws : List Vw} {PR : Rs → Rho → Prop} {ex : Addr → List (Str × Dt) → Prop} {a : Arc} {m : Fc} (h1 : resv ρ ws = some [.dat (arcD a), .dat (fracD m)]) (h3 : slotsOf ws = []) (hm : sm m.2) (q : PR (.dat (.int (spareF a m))) ρ) : kCall 2 fsSpare.sp ex ws ρ PR := e_call0 fsSpare (a, m) h1 rfl h3 hm rfl q
section
variable {P : Program} {w : World} {K : PySem.W.Frag} {mg : Str → Option Value} {base : Heap}
theorem ok_pot (D : Df K mg "potentials_for" spotentials_for) (B : Bi mg) (cspare : Cal P w K mg base 1 "spare" 2 fsSpare.sp) : Cal P w K mg base 2 "potentials_for" 3 fsPot.sp := by
  refine cal_of D scpotentials_for bipotentials_for fun f cdv A outer s H E hr => ⟨_, _, (ps_cons' (ps_setLc' 3 [("node", 7)] rfl scpotentials_for.nd (pi_range1' B.range (pd_var 0)) (blkOk_by (N := npotentials_for) (sc := defScope spotentials_for) (by decide +kernel)) (fun _ _ _ _ _ => (pg_name' 7 scpotentials_for.nd)) own_name (fun _ _ _ _ _ => pt_nil') (fun _ _ _ _ _ => pd_int))
      (ps_cons' (ps_for' PassesOwn.never rfl (pi_range1' B.range (pd_add (pd_var 0) pd_int)) (pg_name' 4 scpotentials_for.nd)
       (ps_cons' (ps_set' 5 scpotentials_for.nd pd_bl)
        (ps_cons' (ps_for' PassesOwn.never rfl (pi_tup' (pd_var 1)) (pg_name' 6 scpotentials_for.nd)
         (ps_cons' (ps_set' 8 scpotentials_for.nd (pd_add (pd_ix (pv_name 3) (pd_ix (pv_name 6) pd_int)) (pd_cal cspare (hr.mono (by decide)) (pa_cons' (pd_var 6) (pa_cons' (pd_var 2) pa_nil')))))
          (ps_one' (ps_if' (PCm.pdt (c_lt (pd_var 8) (pd_ix (pv_name 3) (pd_ix (pv_name 6) pd_int))))
           (ps_cons' (ps_setIx' 3 (pd_var 8) (pd_ix (pv_name 6) pd_int))
            (ps_one' (ps_set' 5 scpotentials_for.nd pd_bl)))
           ps_nil'))))
        (ps_one' (ps_if' (pdt_not (pdt_val (pd_var 5)))
         (ps_one' (ps_ret' (pd_tupOf B.tuple (pv_name 3))))
         ps_nil')))))
      (ps_one' ps_never'))), ?_⟩
  rintro es P' Ex ρ0 hl ⟨⟨⟨n, arcs, m⟩, p⟩, rfl, ⟨hok, hn, hm, hpot⟩, hp⟩ rfl
  dsimp only [fsPot] at hok hn hm hpot hp
  dsimp only [fsPot]
  walk_at "wk0"
  walk_at "wk"
  rw [Int.toNat_natCast]
  refine e_lcM1 (List.range n) (fun k => .int (k : Int)) (fun _ => .int 0) (rngD_eq n) (by rw [List.length_range]; omega) rfl (by walk_at "set") (fun y hy K1 h1 => ?_) ?_
  · walk_at "wk"
    exact h1 _ rfl
  have e0 : (List.range n).map (fun _ => Dt.int 0) = (List.replicate n (0 : Int)).map Dt.int := by
    rw [List.map_replicate, List.map_const', List.length_range]
  rw [e0]
  walk_at "wk"
  rw [show ((n : Int) + 1).toNat = n + 1 by omega]
  refine e_forI [4, 5, 6, 8] (fun t ρ => ∃ told : List Int, ρ = [some (.dat (.int n)), some (.dat (arcsD arcs)), some (.dat (fracD m)), some (.own false (.lst (told.map Dt.int))), none, none, none, none, none] ∧ told.length = n ∧ potF m arcs (n + 1 - t) told = some p) ⟨_, rfl, List.length_replicate, hpot⟩ (fun t x ρ2 hx hI => ?_) (fun ρ2 hI => ?_)
  · obtain ⟨told, rfl, hlt, hpt⟩ := hI
    obtain ⟨ht, rfl⟩ := rng_get hx
    walk_at "wk"
    refine e_kT (xs := arcs.map arcD) ?_
    let S2 : Nat → Rho := fun j => [some (.dat (.int n)), some (.dat (arcsD arcs)), some (.dat (fracD m)), some (.own false (.lst (((arcs.take j).foldl (bf1 m) (told, false)).1.map Dt.int))), some (.dat (.int t)), some (.dat (.bl ((arcs.take j).foldl (bf1 m) (told, false)).2)), none, none, none]
    refine e_forS [6, 8] S2 rfl (fun j x hx => ?_) ?_
    · obtain ⟨a, ha, rfl⟩ := map_get hx
      obtain ⟨hu, hv⟩ := hok _ (List.mem_of_getElem? ha)
      dsimp only [S2]
      have la := bf_len (m := m) (arcs.take j) (told, false)
      dsimp only at la
      rw [fold_take ha]
      generalize (arcs.take j).foldl (bf1 m) (told, false) = st at la ⊢
      obtain ⟨l0, b0⟩ := st
      dsimp only at la ⊢
      walk_at "wk"
      refine e_kix rfl rfl (atI_nat (geti (i := a.1) (by omega))) ?_
      walk_at "wk"
      refine call_spare rfl rfl hm ?_
      walk_at "wk"
      refine e_kix rfl rfl (atI_nat (geti (i := a.2.1) (by omega))) ?_
      walk_at "wk"
      refine e_ifd (fun hc => ?_) (fun hc => ?_)
      · walk_at "wk"
        refine e_ksetIx rfl (ixN_nat (by rw [List.length_map]; omega)) (by walk_at "set") ?_
        walk_at "wk"
        have e : bf1 m (l0, b0) a = (l0.set a.2.1 (l0.getD a.1 0 + spareF a m), true) := by
          unfold bf1
          exact if_pos hc
        rw [e, List.map_set]
        rfl
      · walk_at "wk"
        have e : bf1 m (l0, b0) a = (l0, b0) := by
          unfold bf1
          exact if_neg hc
        rw [e]
        rfl
    · dsimp only [S2]
      rw [List.length_map, List.take_length]
      have hl2 := bf_len (m := m) arcs (told, false)
      have ep : arcs.foldl (bf1 m) (told, false) = bfPass m arcs told := rfl
      rw [show n + 1 - t = (n - t) + 1 by omega] at hpt
      unfold potF at hpt
      rw [ep] at hl2 ⊢
      walk_at "wk"
      refine e_ifnb (fun hc => ?_) (fun hc => ?_)
      · rw [if_neg (by rw [hc]; exact Bool.false_ne_true)] at hpt
        cases hpt
        walk_at "wk"
        exact e_fin rfl hp
      · rw [if_pos hc] at hpt
        walk_at "wk"
        exact ⟨(bfPass m arcs told).1, rfl, by rw [hl2]; exact hlt, by rw [show n + 1 - (t + 1) = n - t by omega]; exact hpt⟩
  · obtain ⟨told, rfl, hlt, hpt⟩ := hI
    rw [rngD_len, Nat.sub_self] at hpt
    cases hpt
end
end K85
namespace K85
open PySem PySem.Spec PyProof.Rows L2 Wk
local macro_rules | `(tactic| walk_at "wk") => `(tactic| repeat (first
  | apply_rules -symm -exfalso (transparency := .reducible) (maxDepth := 100000) only [@e_seq, @e_c, @e_ix, @e_set, @e_op, @e_I2, @e_fI0, @e_ifS, @e_tst, @e_ktst, @e_ift, @e_iff, @e_ifnt, @e_ifnf, @e_ret, @e_retF, @e_acons, @e_anil, @e_alend, @e_tup, @e_int, @e_kint, @e_vd, @e_setIx, @e_toL, @e_toT, @e_callD, @e_toD, @e_toDo, @e_callF, @e_kown, @e_frz, @e_len, @e_setF, @e_lst, @e_and, @e_or, @e_not, @e_andV, @e_orV, @e_notV, @e_kandV, @e_korV, @e_knotV, @e_ifE, @e_is, @e_isnot, @e_neg, @e_kneg, @e_par, @e_asg, @e_gnil, @e_gcons, @e_slT, @e_slL, @e_nopart, @e_part, @e_kpart, @e_sum, @e_min, @e_max, @e_abs, @e_kabs, @e_MM, @e_kMM, @e_tupOf, @e_lstOf, @e_isi, @e_inI, @e_dget, @e_din, @e_dnew, @e_catT, @e_catL, @e_index, @e_eq, @e_chain, @e_kchain, @e_kchain2, @e_drop, @e_next, @e_brk, @e_cnt, @e_retnon, @e_setK, @e_iL, @e_kL, @e_iT, @e_kT, @e_iR1, @e_iR2, @e_for, @e_yes, @e_lc, @e_raise, @e_try, @e_isX, @e_xf]
  | ((with_reducible refine' e_var ?k1 ?_); (case k1 => exact rfl))
  | ((with_reducible refine' e_kset ?k1 ?k2 ?_); (case k1 => exact rfl); (case k2 => (with_reducible (first | exact st0 | exact st1 | exact st2 | exact st3 | exact st4 | exact st5 | exact st6 | exact st7 | exact st8 | exact st9 | exact st10 | exact st11 | exact st12 | exact st13 | exact st14 | exact st15 | exact st16 | exact st17 | exact st18 | exact st19 | exact st20))))
  | ((with_reducible refine' e_ktup ?k1 ?k2 ?_); (case k1 => exact rfl); (case k2 => exact rfl))
  | ((with_reducible refine' e_kix ?k1 ?k2 ?k3 ?_); (case k1 => exact rfl); (case k2 => exact rfl); (case k3 => exact rfl))
  | ((with_reducible refine' e_vn ?k1 ?_); (case k1 => exact rfl))
  | ((with_reducible refine' e_varL ?k1 ?k2 ?_); (case k1 => exact rfl); (case k2 => (with_reducible (first | exact st0 | exact st1 | exact st2 | exact st3 | exact st4 | exact st5 | exact st6 | exact st7 | exact st8 | exact st9 | exact st10 | exact st11 | exact st12 | exact st13 | exact st14 | exact st15 | exact st16 | exact st17 | exact st18 | exact st19 | exact st20))))
  | ((with_reducible refine' e_app ?k1 ?_); (case k1 => exact rfl))
  | ((with_reducible refine' e_kapp ?k1 ?k2 ?k3 ?_); (case k1 => exact rfl); (case k2 => (simp only [List.length_append, List.length_map, List.length_cons, List.length_nil]; omega)); (case k3 => (with_reducible (first | exact st0 | exact st1 | exact st2 | exact st3 | exact st4 | exact st5 | exact st6 | exact st7 | exact st8 | exact st9 | exact st10 | exact st11 | exact st12 | exact st13 | exact st14 | exact st15 | exact st16 | exact st17 | exact st18 | exact st19 | exact st20))))
  | ((with_reducible refine' e_ksetF ?k1 ?k2 ?_); (case k1 => exact rfl); (case k2 => (with_reducible (first | exact st0 | exact st1 | exact st2 | exact st3 | exact st4 | exact st5 | exact st6 | exact st7 | exact st8 | exact st9 | exact st10 | exact st11 | exact st12 | exact st13 | exact st14 | exact st15 | exact st16 | exact st17 | exact st18 | exact st19 | exact st20))))
  | ((with_reducible refine' e_klen ?k1 ?k2 ?_); (case k1 => exact rfl); (case k2 => exact rfl))
  | ((with_reducible refine' e_klst ?k1 ?k2 ?_); (case k1 => exact rfl); (case k2 => exact rfl))
  | ((with_reducible refine' e_gtup ?k1 ?_); (case k1 => exact rfl))
  | ((with_reducible refine' e_gN ?k1 ?k2 ?_); (case k1 => exact rfl); (case k2 => (with_reducible (first | exact st0 | exact st1 | exact st2 | exact st3 | exact st4 | exact st5 | exact st6 | exact st7 | exact st8 | exact st9 | exact st10 | exact st11 | exact st12 | exact st13 | exact st14 | exact st15 | exact st16 | exact st17 | exact st18 | exact st19 | exact st20))))
  | ((with_reducible refine' e_varT ?k1 ?k2 ?_); (case k1 => exact rfl); (case k2 => (with_reducible (first | exact st0 | exact st1 | exact st2 | exact st3 | exact st4 | exact st5 | exact st6 | exact st7 | exact st8 | exact st9 | exact st10 | exact st11 | exact st12 | exact st13 | exact st14 | exact st15 | exact st16 | exact st17 | exact st18 | exact st19 | exact st20))))
  | ((with_reducible refine' e_mulR ?k1 ?k2 ?_); (case k1 => omega); (case k2 => omega))
  | ((with_reducible refine' e_mulL ?k1 ?k2 ?_); (case k1 => omega); (case k2 => omega))
  | ((with_reducible refine' e_div ?k1 ?k2 ?_); (case k1 => omega); (case k2 => omega))
  | ((with_reducible refine' e_mod ?k1 ?_); (case k1 => omega))
  | ((with_reducible refine' e_retN ?k1 ?_); (case k1 => exact rfl))
  | ((with_reducible refine' e_retNO ?k1 ?k2 ?_); (case k1 => exact rfl); (case k2 => (with_reducible (first | exact st0 | exact st1 | exact st2 | exact st3 | exact st4 | exact st5 | exact st6 | exact st7 | exact st8 | exact st9 | exact st10 | exact st11 | exact st12 | exact st13 | exact st14 | exact st15 | exact st16 | exact st17 | exact st18 | exact st19 | exact st20))))
  | ((with_reducible refine' e_setIx1 ?k1 ?_); (case k1 => exact rfl))
  | ((with_reducible refine' e_ksetIx ?k1 ?k2 ?k3 ?_); (case k1 => exact rfl); (case k2 => exact rfl); (case k3 => (with_reducible (first | exact st0 | exact st1 | exact st2 | exact st3 | exact st4 | exact st5 | exact st6 | exact st7 | exact st8 | exact st9 | exact st10 | exact st11 | exact st12 | exact st13 | exact st14 | exact st15 | exact st16 | exact st17 | exact st18 | exact st19 | exact st20))))
  | ((with_reducible refine' e_kpar ?k1 ?k2 ?k3 ?_); (case k1 => exact rfl); (case k2 => exact rfl); (case k3 => (repeat (first | exact set_0 | apply set_s))))
  | ((with_reducible refine' e_aug ?k1 ?_); (case k1 => exact rfl))
  | ((with_reducible refine' e_kaug ?k1 ?k2 ?_); (case k1 => exact rfl); (case k2 => (with_reducible (first | exact st0 | exact st1 | exact st2 | exact st3 | exact st4 | exact st5 | exact st6 | exact st7 | exact st8 | exact st9 | exact st10 | exact st11 | exact st12 | exact st13 | exact st14 | exact st15 | exact st16 | exact st17 | exact st18 | exact st19 | exact st20))))
  | ((with_reducible refine' e_kslT ?k1 ?_); (case k1 => exact rfl))
  | ((with_reducible refine' e_kslL ?k1 ?_); (case k1 => exact rfl))
  | ((with_reducible refine' e_ksum ?k1 ?_); (case k1 => exact rfl))
  | ((with_reducible refine' e_ktupOf ?k1 ?k2 ?_); (case k1 => exact rfl); (case k2 => exact rfl))
  | ((with_reducible refine' e_klstOf ?k1 ?k2 ?_); (case k1 => exact rfl); (case k2 => exact rfl))
  | ((with_reducible refine' e_kisi ?k1 ?k2 ?k3 ?_); (case k1 => exact rfl); (case k2 => exact rfl); (case k3 => (first | exact ks_ii | exact ks_ib | exact ks_bi | exact ks_bb | exact ks_ni | exact ks_nb | exact ks_tt | exact ks_lt | exact ks_it | exact ks_nt | exact ks_ti | exact ks_si)))
  | ((with_reducible refine' e_kR1 ?k1 ?k2 ?_); (case k1 => omega); (case k2 => omega))
  | ((with_reducible refine' e_kR2 ?k1 ?_); (case k1 => omega))
  ))
local macro_rules | `(tactic| walk_at "wk0") => `(tactic| (unfold endsF; (with_reducible refine' st_rho ?k1 ?_); (case k1 => repeat (first | exact rh_0 | (with_reducible apply rh_m) | (with_reducible apply rh_n) | apply rh_s))))
local macro_rules | `(tactic| walk_at "set") => `(tactic| with_reducible (first | exact st0 | exact st1 | exact st2 | exact st3 | exact st4 | exact st5 | exact st6 | exact st7 | exact st8 | exact st9 | exact st10 | exact st11 | exact st12 | exact st13 | exact st14 | exact st15 | exact st16 | exact st17 | exact st18 | exact st19 | exact st20))
abbrev stight_round : Stmt := topS 17
abbrev ntight_round : List Str := ["many", "arcs", "mean", "potentials", "tight", "alive", "changed", "starts", "walk", "node", "after", "arc"]
theorem sctight_round : FnScope ["many", "arcs", "mean", "potentials", "tight", "alive", "changed", "starts", "walk", "node", "after", "arc"] ["many", "arcs", "mean", "potentials"] (defScope stight_round) := ⟨rfl, rfl, rfl, by decide +kernel, rfl, by decide +kernel, by decide +kernel⟩
theorem bitight_round : BindOk "tight_round" stight_round ["many", "arcs", "mean", "potentials"] := fun _ _ _ _ _ _ us hl => match us, hl with | [_, _, _, _], _ => rfl
def intsN (w : List Nat) : List Int := w.map fun k : Nat => (k : Int)
def nodesD (w : List Nat) : Dt := intsD (intsN w)
def tightL (m : Fc) (p : List Int) (arcs : List Arc) : List Arc := arcs.filter (isTight m p)
theorem tightRound_eq (n : Nat) (arcs : List Arc) (m : Fc) (p : List Int) : tightRound n arcs m p = goF (tightL m p arcs) (aliveN n (tightL m p arcs)) (n + 1) [(startsN n (aliveN n (tightL m p arcs))).getD 0 0] := rfl
/-- the walk never stands still -/
def Alive (n : Nat) (tight : List Arc) (al : List Bool) : Prop := al.length = n ∧ ∀ v, al.getD v false = true → nextOf tight al v ≠ []
def fsTight : FS := ⟨(Nat × List Arc × Fc) × List Int, fun a => [.dat (.int a.1.1), .dat (arcsD a.1.2.1), .dat (fracD a.1.2.2), .dat (intsD a.2)],
  fun a => okA a.1.1 a.1.2.1 ∧ a.1.1 ≤ 200 ∧ a.1.2.1.length ≤ 4000 ∧ sm a.1.2.2.2 ∧ a.2.length = a.1.1 ∧ startsN a.1.1 (aliveN a.1.1 (tightL a.1.2.2 a.2 a.1.2.1)) ≠ [] ∧ Alive a.1.1 (tightL a.1.2.2 a.2 a.1.2.1) (aliveN a.1.1 (tightL a.1.2.2 a.2 a.1.2.1)),
  fun a => .dat (nodesD (tightRound a.1.1 a.1.2.1 a.1.2.2 a.2)), fun _ => []⟩
def trues (al : List Bool) : Nat := al.countP id
theorem trues_set {al : List Bool} {v : Nat} (h : al.getD v false = true) : trues (al.set v false) < trues al := by
  unfold trues
  rw [List.getD_eq_getElem?_getD] at h
  cases q : al[v]? with
  | none => rw [q] at h; cases h
  | some b =>
    rw [q] at h
    have h : b = true := h
    subst h
    obtain ⟨hv, e⟩ := List.getElem?_eq_some_iff.mp q
    have hp : 0 < al.countP id := List.countP_pos_iff.mpr ⟨true, List.mem_of_getElem? q, rfl⟩
    rw [List.countP_set hv, e]
    simp only [id, if_true, Bool.false_eq_true, if_false] at hp ⊢
    omega
theorem el_fold {tight : List Arc} : ∀ (vs : List Nat) (st : List Bool × Bool), (vs.foldl (el1 tight) st).1.length = st.1.length ∧ trues (vs.foldl (el1 tight) st).1 ≤ trues st.1 ∧
    ((vs.foldl (el1 tight) st).2 = true → st.2 = true ∨ trues (vs.foldl (el1 tight) st).1 < trues st.1) ∧ ((vs.foldl (el1 tight) st).2 = false → vs.foldl (el1 tight) st = st)
  | [], st => ⟨rfl, Nat.le_refl _, fun h => .inl h, fun _ => rfl⟩
  | v :: r, st => by
    rw [List.foldl_cons]
    obtain ⟨h1, h2, h3, h4⟩ := el_fold r (el1 tight st v)
    have key : (el1 tight st v = st) ∨ (el1 tight st v = (st.1.set v false, true) ∧ trues (st.1.set v false) < trues st.1) := by
      unfold el1
      split
      · rename_i hc
        rw [Bool.and_eq_true] at hc
        exact .inr ⟨rfl, trues_set hc.1⟩
      · exact .inl rfl
    rcases key with e | ⟨e, hlt⟩
    · rw [e] at h1 h2 h3 h4 ⊢
      exact ⟨h1, h2, h3, h4⟩
    · rw [e] at h1 h2 h3 h4 ⊢
      dsimp only at h1 h2 h3 h4
      refine ⟨by rw [h1, List.length_set], by omega, fun _ => .inr (by omega), fun h => ?_⟩
      have := h4 h
      rw [this] at h
      cases h
theorem getb {l : List Bool} {i : Nat} (h : i < l.length) : (l.map Dt.bl)[i]? = some (.bl (l.getD i false)) := by
  rw [List.getElem?_map, List.getD_eq_getElem?_getD, List.getElem?_eq_getElem h]
  rfl
theorem nodup_le : ∀ (n : Nat) (l : List Nat), l.Nodup → (∀ x ∈ l, x < n) → l.length ≤ n
  | 0, [], _, _ => Nat.le_refl _
  | 0, x :: r, _, h => absurd (h x List.mem_cons_self) (by omega)
  | n + 1, l, hd, h => by
    by_cases hn : n ∈ l
    · have h1 := nodup_le n (l.erase n) (hd.erase n) fun x hx => by
        have := h x (List.mem_of_mem_erase hx)
        have hne : x ≠ n := fun e => by subst e; exact (List.Nodup.mem_erase_iff hd).mp hx |>.1 rfl
        omega
      have h2 := List.length_erase_of_mem hn
      omega
    · have h1 := nodup_le n l hd fun x hx => by
        have := h x hx
        have hne : x ≠ n := fun e => by subst e; exact hn hx
        omega
      omega
theorem idx_ints {w : List Nat} {x : Nat} : (intsN w).idxOf (x : Int) = w.idxOf x := by
  induction w with
  | nil => rfl
  | cons a r ih =>
    show List.idxOf (x : Int) ((a : Int) :: intsN r) = List.idxOf x (a :: r)
    rw [List.idxOf_cons, List.idxOf_cons, ih]
    by_cases e : a = x
    · subst e; simp
    · have h1 : ((a : Int) == (x : Int)) = false := by rw [beq_eq_false_iff_ne]; omega
      have h2 : (a == x) = false := by simpa using e
      rw [h1, h2]
theorem mem_ints {w : List Nat} {x : Nat} : (x : Int) ∈ intsN w ↔ x ∈ w := by
  unfold intsN
  rw [List.mem_map]
  constructor
  · rintro ⟨y, hy, e⟩
    have : y = x := by omega
    exact this ▸ hy
  · exact fun h => ⟨x, h, rfl⟩
theorem step_int {tight : List Arc} {al : List Bool} {v : Nat} (h : nextOf tight al v ≠ []) : lmin ((nextOf tight al v).map fun a => (a.2.1 : Int)) = (stepOf tight al v : Int) ∧ ∃ a ∈ nextOf tight al v, a.2.1 = stepOf tight al v := by
  have hm := lmin_mem (xs := (nextOf tight al v).map fun a => (a.2.1 : Int)) (by simpa using h)
  obtain ⟨a, ha, e⟩ := List.mem_map.mp hm
  have : stepOf tight al v = a.2.1 := by
    unfold stepOf
    rw [← e]
    rfl
  exact ⟨by rw [this, ← e], a, ha, this.symm⟩
theorem mem_next {tight : List Arc} {al : List Bool} {v : Nat} {a : Arc} : a ∈ nextOf tight al v ↔ a ∈ tight ∧ a.1 = v ∧ al.getD a.2.1 false = true := by
  unfold nextOf
  rw [List.mem_filter, Bool.and_eq_true, decide_eq_true_eq]
theorem cut_from {α : Type} {xs : List α} {k : Nat} (h : k ≤ xs.length) : cut xs (some (k : Int)) none = xs.drop k := by
  unfold cut
  rw [HT.sIx_nat, HT.sIx_none, Nat.min_eq_left h]
  exact List.take_of_length_le (by rw [List.length_drop]; omega)
theorem last_mem {w : List Nat} (h : w ≠ []) : w.getLastD 0 ∈ w := by
  rw [List.getLastD_eq_getLast?]
  cases q : w.getLast? with
  | none => exact absurd (List.getLast?_eq_none_iff.mp q) h
  | some x => exact List.mem_of_getLast? q
theorem at_last {w : List Nat} (h : w ≠ []) : atI ((intsN w).map Dt.int) ((((intsN w).map Dt.int).length : Int) - 1) = some (.int (w.getLastD 0 : Nat)) := by
  have hp : 0 < w.length := List.length_pos_iff.mpr h
  have hl : ((intsN w).map Dt.int).length = w.length := by unfold intsN; simp
  rw [hl, show ((w.length : Int) - 1) = ((w.length - 1 : Nat) : Int) by omega]
  refine atI_nat ?_
  unfold intsN
  rw [List.getElem?_map, List.getElem?_map, List.getLastD_eq_getLast?, List.getLast?_eq_getElem?]
  rw [List.getElem?_eq_getElem (show w.length - 1 < w.length by omega)]
  rfl
section
variable {P : Program} {w : World} {K : PySem.W.Frag} {mg : Str → Option Value} {base : Heap}
theorem ok_tight (D : Df K mg "tight_round" stight_round) (B : Bi mg) (cspare : Cal P w K mg base 1 "spare" 2 fsSpare.sp) : Cal P w K mg base 2 "tight_round" 4 fsTight.sp := by
  refine cal_of D sctight_round bitight_round fun f cdv A outer s H E hr => ⟨_, _, (ps_cons' (ps_setLcD' 4 [("arc", 11)] rfl sctight_round.nd (pi_tup' (pd_var 1)) (blkOk_by (N := ntight_round) (sc := defScope stight_round) (by decide +kernel)) (fun _ _ _ _ _ => (pg_name' 11 sctight_round.nd)) own_name (fun _ _ _ _ _ => (pt_one' (PCm.pdt (c_eqI (pd_ix (pv_name 3) (pd_ix (pv_name 11) pd_int)) (pd_add (pd_ix (pv_name 3) (pd_ix (pv_name 11) pd_int)) (pd_cal cspare (hr.mono (by decide)) (pa_cons' (pd_var 11) (pa_cons' (pd_var 2) pa_nil')))))))) (fun _ _ _ _ _ => (pd_var 11)))
      (ps_cons' (ps_setF' 5 sctight_round.nd (pf_lc [("node", 9)] rfl sctight_round.nd (pi_range1' B.range (pd_var 0)) (blkOk_by (N := ntight_round) (sc := defScope stight_round) (by decide +kernel)) (fun _ _ _ _ _ => (pg_name' 9 sctight_round.nd)) own_name (fun _ _ _ _ _ => pt_nil') (fun _ _ _ _ _ => pd_bl)))
      (ps_cons' (ps_set' 6 sctight_round.nd pd_bl)
      (ps_cons' (ps_while' PassesOwn.never (pdt_val (pd_var 6))
       (ps_cons' (ps_set' 6 sctight_round.nd pd_bl)
        (ps_one' (ps_for' PassesOwn.never rfl (pi_range1' B.range (pd_var 0)) (pg_name' 9 sctight_round.nd)
         (ps_one' (ps_if' (PDW.pdt (pdw_and (pdt_val (pd_ix (pv_name 5) (pd_var 9))) (pdw_and1 (PCm.pdt (c_eqI (pd_len B.len (PD.pv (PF.pd (pf_lc [("arc", 11)] rfl sctight_round.nd (pi_list' (pd_var 4)) (blkOk_by (N := ntight_round) (sc := defScope stight_round) (by decide +kernel)) (fun _ _ _ _ _ => (pg_name' 11 sctight_round.nd)) own_name (fun _ _ _ _ _ => (pt_one' (PDW.pdt (pdw_and (PCm.pdt (c_eqI (pd_ix (pv_name 11) pd_int) (pd_var 9))) (pdw_and1 (pdt_val (pd_ix (pv_name 5) (pd_ix (pv_name 11) pd_int)))))))) (fun _ _ _ _ _ => (pd_var 11)))))) pd_int)))))
           (ps_cons' (ps_setIx' 5 pd_bl (pd_var 9))
            (ps_one' (ps_set' 6 sctight_round.nd pd_bl)))
           ps_nil'))))))
      (ps_cons' (ps_setLcD' 7 [("node", 9)] rfl sctight_round.nd (pi_range1' B.range (pd_var 0)) (blkOk_by (N := ntight_round) (sc := defScope stight_round) (by decide +kernel)) (fun _ _ _ _ _ => (pg_name' 9 sctight_round.nd)) own_name (fun _ _ _ _ _ => (pt_one' (pdt_val (pd_ix (pv_name 5) (pd_var 9))))) (fun _ _ _ _ _ => (pd_var 9)))
      (ps_cons' (ps_if' (PCm.pdt (c_eqI (pd_len B.len (pv_name 7)) pd_int))
       (ps_one' ps_never')
       ps_nil')
      (ps_cons' (ps_setF' 8 sctight_round.nd (pf_lst (pa_cons' (pd_ix (pv_name 7) pd_int) pa_nil')))
      (ps_one' (ps_while' PassesOwn.never (pdt_val pd_bl)
       (ps_cons' (ps_set' 10 sctight_round.nd (pd_min B.min (PD.pv (PF.pd (pf_lc [("arc", 11)] rfl sctight_round.nd (pi_list' (pd_var 4)) (blkOk_by (N := ntight_round) (sc := defScope stight_round) (by decide +kernel)) (fun _ _ _ _ _ => (pg_name' 11 sctight_round.nd)) own_name (fun _ _ _ _ _ => (pt_one' (PDW.pdt (pdw_and (PCm.pdt (c_eqI (pd_ix (pv_name 11) pd_int) (pd_ix (pv_name 8) (pd_sub (pd_len B.len (pv_name 8)) pd_int)))) (pdw_and1 (pdt_val (pd_ix (pv_name 5) (pd_ix (pv_name 11) pd_int)))))))) (fun _ _ _ _ _ => (pd_ix (pv_name 11) pd_int)))))))
        (ps_cons' (ps_if' (PCm.pdt (c_in (pd_var 10) (pv_name 8)))
         (ps_one' (ps_ret' (pd_tupOf B.tuple (PD.pv (PF.pd (pf_catL (PD.pv (PF.pd (pf_slL (pv_name 8) (po_some' (pd_index (pv_name 8) (pd_var 10))) po_none'))) (PD.pv (PF.pd (pf_lst (pa_cons' (pd_var 10) pa_nil'))))))))))
         ps_nil')
        (ps_one' (ps_app' 8 (pd_var 10)))))))))))))), ?_⟩
  rintro es P' Ex ρ0 hl ⟨⟨⟨n, arcs, m⟩, p⟩, rfl, ⟨hok, hn, hn4, hm, hpl, hst, hal⟩, hp⟩ rfl
  dsimp only [fsTight] at hok hn hn4 hm hpl hst hal hp
  dsimp only [fsTight]
  rw [tightRound_eq] at hp
  walk_at "wk0"
  walk_at "wk"
  refine e_kT (xs := arcs.map arcD) ?_
  walk_at "wk"
  refine e_lcK1 arcs arcD (isTight m p) arcD rfl (by omega) rfl (by walk_at "set") (fun a ha K1 K2 k1 k2 => ?_) ?_
  · obtain ⟨hu, hv⟩ := hok _ ha
    walk_at "wk"
    refine e_kix (d := intsD p) rfl rfl (atI_nat (geti (i := a.2.1) (by omega))) ?_
    walk_at "wk"
    refine e_kix (d := intsD p) rfl rfl (atI_nat (geti (i := a.1) (by omega))) ?_
    walk_at "wk"
    refine call_spare rfl rfl hm ?_
    walk_at "wk"
    refine e_ifd (fun hc => ?_) (fun hc => ?_)
    · walk_at "wk"
      exact k1 (decide_eq_true hc) _ rfl
    · exact k2 (decide_eq_false hc) _ rfl
  have et : (arcs.filter (isTight m p)) = tightL m p arcs := rfl
  rw [et]
  have htl : (tightL m p arcs).length ≤ arcs.length := List.length_filter_le _ _
  have htk : ∀ a ∈ tightL m p arcs, a.1 < n ∧ a.2.1 < n := fun a ha => hok a (List.mem_filter.mp ha).1
  generalize tightL m p arcs = tight at hst hal hp htl htk ⊢
  walk_at "wk"
  rw [Int.toNat_natCast]
  refine e_lcM1 (List.range n) (fun k => .int (k : Int)) (fun _ => .bl true) (rngD_eq n) (by rw [List.length_range]; omega) rfl (by walk_at "set") (fun y hy K1 h1 => ?_) ?_
  · walk_at "wk"
    exact h1 _ rfl
  have e0 : (List.range n).map (fun _ => Dt.bl true) = (List.replicate n true).map Dt.bl := by
    rw [List.map_replicate, List.map_const', List.length_range]
  rw [e0]
  walk_at "wk"
  let Z : List Bool → Bool → Rho := fun al ch => [some (.dat (.int n)), some (.dat (arcsD arcs)), some (.dat (fracD m)), some (.dat (intsD p)), some (.dat (.lst (tight.map arcD))), some (.own false (.lst (al.map Dt.bl))), some (.dat (.bl ch)), none, none, none, none, none]
  refine e_while [9] (fun k ρ => ∃ al ch fuel, ρ = Z al ch ∧ al.length = n ∧ k = trues al + (if ch = true then 1 else 0) ∧ (ch = true → elF n tight fuel al = aliveN n tight ∧ trues al < fuel) ∧ (ch = false → al = aliveN n tight)) (trues (List.replicate n true) + 1)
    ⟨List.replicate n true, true, n + 1, rfl, List.length_replicate, rfl, fun _ => ⟨rfl, by unfold trues; rw [List.countP_replicate]; split <;> omega⟩, fun z => nomatch z⟩ (fun k ρ1 hI => ?_)
  · obtain ⟨al, ch, fuel, rfl, hall, rfl, hI1, hI2⟩ := hI
    dsimp only [Z]
    walk_at "wk"
    refine e_ifb (fun hc => ?_) (fun hc => ?_)
    · subst hc
      obtain ⟨hf1, hf2⟩ := hI1 rfl
      walk_at "wk"
      rw [Int.toNat_natCast]
      let S2 : Nat → Rho := fun v => [some (.dat (.int n)), some (.dat (arcsD arcs)), some (.dat (fracD m)), some (.dat (intsD p)), some (.dat (.lst (tight.map arcD))), some (.own false (.lst ((((List.range n).take v).foldl (el1 tight) (al, false)).1.map Dt.bl))), some (.dat (.bl (((List.range n).take v).foldl (el1 tight) (al, false)).2)), none, none, none, none, none]
      refine e_forS [9] S2 rfl (fun v x hx => ?_) ?_
      · obtain ⟨hv, rfl⟩ := rng_get hx
        dsimp only [S2]
        have la := (el_fold (tight := tight) ((List.range n).take v) (al, false)).1
        dsimp only at la
        rw [fold_take (List.getElem?_range hv)]
        generalize ((List.range n).take v).foldl (el1 tight) (al, false) = st at la ⊢
        obtain ⟨l0, b0⟩ := st
        dsimp only at la ⊢
        walk_at "wk"
        refine e_kix rfl rfl (atI_nat (getb (i := v) (by omega))) ?_
        walk_at "wk"
        refine e_ifb (fun h1 => ?_) (fun h1 => ?_)
        · walk_at "wk"
          refine e_lcK1 tight arcD (fun a => decide (a.1 = v) && l0.getD a.2.1 false) arcD rfl (by omega) rfl (by walk_at "set") (fun a ha K1 K2 k1 k2 => ?_) ?_
          · obtain ⟨hu, hw⟩ := htk _ ha
            walk_at "wk"
            refine e_ifd (fun hc => ?_) (fun hc => ?_)
            · have hc : a.1 = v := by omega
              walk_at "wk"
              refine e_kix rfl rfl (atI_nat (getb (i := a.2.1) (by omega))) ?_
              walk_at "wk"
              refine e_ifb (fun h2 => ?_) (fun h2 => ?_)
              · walk_at "wk"
                exact k1 (by rw [decide_eq_true hc, h2]; rfl) _ rfl
              · exact k2 (by rw [h2, Bool.and_false]) _ rfl
            · have hc : ¬ a.1 = v := by omega
              walk_at "wk"
              exact k2 (by rw [decide_eq_false hc]; rfl) _ rfl
          have en : tight.filter (fun a => decide (a.1 = v) && l0.getD a.2.1 false) = nextOf tight l0 v := rfl
          rw [en]
          walk_at "wk"
          refine e_ifd (fun h2 => ?_) (fun h2 => ?_)
          · rw [List.length_map] at h2
            walk_at "wk"
            refine e_ksetIx rfl (ixN_nat (by rw [List.length_map]; omega)) (by walk_at "set") ?_
            walk_at "wk"
            have e : el1 tight (l0, b0) v = (l0.set v false, true) := by
              unfold el1
              exact if_pos (by rw [Bool.and_eq_true]; exact ⟨h1, decide_eq_true (by dsimp only; omega)⟩)
            rw [e, List.map_set]
            rfl
          · rw [List.length_map] at h2
            walk_at "wk"
            have e : el1 tight (l0, b0) v = (l0, b0) := by
              unfold el1
              exact if_neg (by rw [Bool.and_eq_true, decide_eq_true_eq]; intro z; have z2 := z.2; dsimp only at z2; exact h2 (by omega))
            rw [e]
            rfl
        · walk_at "wk"
          have e : el1 tight (l0, b0) v = (l0, b0) := by
            unfold el1
            exact if_neg (by dsimp only; rw [h1]; exact Bool.false_ne_true)
          rw [e]
          rfl
      · dsimp only [S2]
        rw [rngD_len, List.take_of_length_le (by rw [List.length_range]; exact Nat.le_refl _)]
        obtain ⟨g1, g2, g3, g4⟩ := el_fold (tight := tight) (List.range n) (al, false)
        have ep : (List.range n).foldl (el1 tight) (al, false) = elPass n tight al := rfl
        rw [ep] at g1 g2 g3 g4 ⊢
        obtain ⟨fu, rfl⟩ : ∃ fu, fuel = fu + 1 := ⟨fuel - 1, by omega⟩
        unfold elF at hf1
        dsimp only at g1 g2 g3 g4
        generalize elPass n tight al = r at g1 g2 g3 g4 hf1 ⊢
        obtain ⟨al2, b2⟩ := r
        dsimp only at g1 g2 g3 g4 hf1 ⊢
        walk_at "wk"
        cases b2 with
        | true =>
          rw [if_pos rfl] at hf1
          have := (g3 rfl).resolve_left (fun z => nomatch z)
          exact ⟨trues al2 + 1, by rw [if_pos rfl]; omega, al2, true, fu, rfl, by omega, rfl, fun _ => ⟨hf1, by omega⟩, fun z => nomatch z⟩
        | false =>
          rw [if_neg Bool.false_ne_true] at hf1
          exact ⟨trues al2, by rw [if_pos rfl]; omega, al2, false, fu, rfl, by omega, rfl, (fun z => nomatch z), fun _ => hf1⟩
    · subst hc
      obtain rfl := hI2 rfl
      clear hI1 hI2
      generalize aliveN n tight = al at hst hal hp hall ⊢
      walk_at "wk"
      rw [Int.toNat_natCast]
      refine e_lcK1 (List.range n) (fun k => .int (k : Int)) (fun v => al.getD v false) (fun k => .int (k : Int)) (rngD_eq n) (by rw [List.length_range]; omega) rfl (by walk_at "set") (fun v hv K1 K2 k1 k2 => ?_) ?_
      · rw [List.mem_range] at hv
        walk_at "wk"
        refine e_kix rfl rfl (atI_nat (getb (i := v) (by omega))) ?_
        walk_at "wk"
        refine e_ifb (fun h1 => ?_) (fun h1 => ?_)
        · walk_at "wk"
          exact k1 h1 _ rfl
        · exact k2 h1 _ rfl
      have es : (List.range n).filter (fun v => al.getD v false) = startsN n al := rfl
      rw [es]
      obtain ⟨s0, sr, hs⟩ : ∃ s0 sr, startsN n al = s0 :: sr := by
        cases h : startsN n al with
        | nil => exact absurd h hst
        | cons a r => exact ⟨a, r, rfl⟩
      have hs0 : s0 < n ∧ al.getD s0 false = true := by
        have hm : s0 ∈ startsN n al := by rw [hs]; exact List.mem_cons_self
        unfold startsN at hm
        rw [List.mem_filter, List.mem_range] at hm
        exact hm
      rw [hs] at hp ⊢
      walk_at "wk"
      refine e_ifd (fun h1 => ?_) (fun _ => ?_)
      · exfalso
        rw [List.length_map, List.length_cons] at h1
        omega
      walk_at "wk"
      refine e_kix rfl rfl (z := .int s0) (atI_nn (Int.le_refl 0) rfl) ?_
      walk_at "wk"
      let Y : List Nat → Rho := fun w => [some (.dat (.int n)), some (.dat (arcsD arcs)), some (.dat (fracD m)), some (.dat (intsD p)), some (.dat (.lst (tight.map arcD))), some (.own false (.lst (al.map Dt.bl))), some (.dat (.bl false)), some (.dat (.lst ((s0 :: sr).map fun k : Nat => Dt.int (k : Int)))), some (.own false (.lst ((intsN w).map Dt.int))), none, none, none]
      have hgl : (s0 :: sr).getD 0 0 = s0 := rfl
      rw [hgl] at hp
      obtain ⟨R, hR⟩ : ∃ R, R = goF tight al (n + 1) [s0] := ⟨_, rfl⟩
      rw [← hR] at hp
      refine e_while [10] (fun k ρ => ∃ w : List Nat, ρ = Y w ∧ w ≠ [] ∧ w.Nodup ∧ (∀ x ∈ w, x < n ∧ al.getD x false = true) ∧ w.length + k = n + 2 ∧ goF tight al k w = R) (n + 1)
        ⟨[s0], rfl, by simp, by simp, fun x hx => by rw [List.mem_singleton] at hx; rw [hx]; exact hs0, by rw [List.length_singleton]; omega, hR.symm⟩ (fun k ρ1 hI => ?_)
      obtain ⟨w, rfl, hw0, hwd, hwx, hwl, hwg⟩ := hI
      have hwn := nodup_le n w hwd fun x hx => (hwx x hx).1
      obtain ⟨fu, rfl⟩ : ∃ fu, k = fu + 1 := ⟨k - 1, by omega⟩
      unfold goF at hwg
      have hln := hal.2 _ (hwx _ (last_mem hw0)).2
      have hx := step_int hln
      have hxm := hx.2
      generalize hv : w.getLastD 0 = v at hwg hln hx hxm ⊢
      dsimp only [Y]
      walk_at "wk"
      refine e_lcK1 tight arcD (fun a => decide (a.1 = v) && al.getD a.2.1 false) (fun a => .int (a.2.1 : Int)) rfl (by omega) rfl (by walk_at "set") (fun a ha K1 K2 k1 k2 => ?_) ?_
      · obtain ⟨hu, hw⟩ := htk _ ha
        walk_at "wk"
        refine e_kix rfl rfl (at_last hw0) ?_
        rw [hv]
        walk_at "wk"
        refine e_ifd (fun hc => ?_) (fun hc => ?_)
        · have hc : a.1 = v := by omega
          walk_at "wk"
          refine e_kix rfl rfl (atI_nat (getb (i := a.2.1) (by omega))) ?_
          walk_at "wk"
          refine e_ifb (fun h2 => ?_) (fun h2 => ?_)
          · walk_at "wk"
            exact k1 (by rw [decide_eq_true hc, h2]; rfl) _ rfl
          · exact k2 (by rw [h2, Bool.and_false]) _ rfl
        · have hc : ¬ a.1 = v := by omega
          walk_at "wk"
          exact k2 (by rw [decide_eq_false hc]; rfl) _ rfl
      have en : tight.filter (fun a => decide (a.1 = v) && al.getD a.2.1 false) = nextOf tight al v := rfl
      have em : (nextOf tight al v).map (fun a => Dt.int (a.2.1 : Int)) = ((nextOf tight al v).map fun a => (a.2.1 : Int)).map Dt.int := by
        rw [List.map_map]
        rfl
      rw [en, em]
      walk_at "wk"
      refine e_kmin rfl (by simpa using hln) ?_
      rw [hx.1]
      generalize stepOf tight al v = x at hxm hwg ⊢
      obtain ⟨ax, hax, rfl⟩ := hxm
      rw [mem_next] at hax
      walk_at "wk"
      refine e_kin (z := .lst ((intsN w).map Dt.int)) rfl rfl ?_
      walk_at "wk"
      refine e_ifd (fun h1 => ?_) (fun h1 => ?_)
      · have h1' := mem_ints.mp h1
        rw [if_pos h1'] at hwg
        rw [← hwg] at hp
        walk_at "wk"
        refine ⟨⟨_, rfl⟩, ?_⟩
        walk_at "wk"
        refine e_kindex rfl h1 ?_
        rw [idx_ints]
        walk_at "wk"
        have hil : w.idxOf ax.2.1 ≤ ((intsN w).map Dt.int).length := by
          unfold intsN
          rw [List.length_map, List.length_map]
          exact List.idxOf_le_length
        rw [cut_from hil]
        walk_at "wk"
        refine e_kcatL rfl rfl ?_ ?_
        · unfold intsN
          simp
          omega
        walk_at "wk"
        refine e_fin rfl ?_
        have ed : nodesD (w.drop (w.idxOf ax.2.1) ++ [ax.2.1]) = .tup (((intsN w).map Dt.int).drop (w.idxOf ax.2.1) ++ [Dt.int (ax.2.1 : Int)]) := by
          unfold nodesD intsD intsN
          simp [List.map_drop]
        rw [ed] at hp
        exact hp
      · have h1' : ax.2.1 ∉ w := fun z => h1 (mem_ints.mpr z)
        rw [if_neg h1'] at hwg
        walk_at "wk"
        refine e_kapp rfl ?_ (by walk_at "set") ?_
        · unfold intsN
          rw [List.length_map, List.length_map]
          omega
        refine ⟨fu, by omega, w ++ [ax.2.1], ?_, by simp, ?_, fun y hy => ?_, ?_, hwg⟩
        · have ew : (intsN (w ++ [ax.2.1])).map Dt.int = (intsN w).map Dt.int ++ [Dt.int (ax.2.1 : Int)] := by
            unfold intsN
            simp
          rw [ew]
          rfl
        · rw [List.nodup_append]
          refine ⟨hwd, by simp, fun a ha b hb => ?_⟩
          rw [List.mem_singleton] at hb
          intro e
          exact h1' (by rw [← hb, ← e]; exact ha)
        · rcases List.mem_append.mp hy with hy | hy
          · exact hwx y hy
          · rw [List.mem_singleton] at hy
            rw [hy]
            exact ⟨(htk _ hax.1).2, hax.2.2⟩
        · rw [List.length_append, List.length_singleton]
          omega
end
end K85
namespace K85
open PySem PySem.Spec PyProof.Rows L2 Wk
local macro_rules | `(tactic| walk_at "wk") => `(tactic| repeat (first
  | apply_rules -symm -exfalso (transparency := .reducible) (maxDepth := 100000) only [@e_seq, @e_c, @e_ix, @e_set, @e_op, @e_I2, @e_fI0, @e_ifS, @e_tst, @e_ktst, @e_ift, @e_iff, @e_ifnt, @e_ifnf, @e_ret, @e_retF, @e_acons, @e_anil, @e_alend, @e_tup, @e_int, @e_kint, @e_vd, @e_setIx, @e_toL, @e_toT, @e_callD, @e_toD, @e_toDo, @e_callF, @e_kown, @e_frz, @e_len, @e_setF, @e_lst, @e_and, @e_or, @e_not, @e_andV, @e_orV, @e_notV, @e_kandV, @e_korV, @e_knotV, @e_ifE, @e_is, @e_isnot, @e_neg, @e_kneg, @e_par, @e_asg, @e_gnil, @e_gcons, @e_slT, @e_slL, @e_nopart, @e_part, @e_kpart, @e_sum, @e_min, @e_max, @e_abs, @e_kabs, @e_MM, @e_kMM, @e_tupOf, @e_lstOf, @e_isi, @e_inI, @e_dget, @e_din, @e_dnew, @e_catT, @e_catL, @e_index, @e_eq, @e_chain, @e_kchain, @e_kchain2, @e_drop, @e_next, @e_brk, @e_cnt, @e_retnon, @e_setK, @e_iL, @e_kL, @e_iT, @e_kT, @e_iR1, @e_iR2, @e_for, @e_yes, @e_lc, @e_raise, @e_try, @e_isX, @e_xf]
  | ((with_reducible refine' e_var ?k1 ?_); (case k1 => exact rfl))
  | ((with_reducible refine' e_kset ?k1 ?k2 ?_); (case k1 => exact rfl); (case k2 => (with_reducible (first | exact st0 | exact st1 | exact st2 | exact st3 | exact st4 | exact st5 | exact st6 | exact st7 | exact st8 | exact st9 | exact st10 | exact st11 | exact st12 | exact st13 | exact st14 | exact st15 | exact st16 | exact st17 | exact st18 | exact st19 | exact st20))))
  | ((with_reducible refine' e_ktup ?k1 ?k2 ?_); (case k1 => exact rfl); (case k2 => exact rfl))
  | ((with_reducible refine' e_kix ?k1 ?k2 ?k3 ?_); (case k1 => exact rfl); (case k2 => exact rfl); (case k3 => exact rfl))
  | ((with_reducible refine' e_vn ?k1 ?_); (case k1 => exact rfl))
  | ((with_reducible refine' e_varL ?k1 ?k2 ?_); (case k1 => exact rfl); (case k2 => (with_reducible (first | exact st0 | exact st1 | exact st2 | exact st3 | exact st4 | exact st5 | exact st6 | exact st7 | exact st8 | exact st9 | exact st10 | exact st11 | exact st12 | exact st13 | exact st14 | exact st15 | exact st16 | exact st17 | exact st18 | exact st19 | exact st20))))
  | ((with_reducible refine' e_app ?k1 ?_); (case k1 => exact rfl))
  | ((with_reducible refine' e_kapp ?k1 ?k2 ?k3 ?_); (case k1 => exact rfl); (case k2 => (simp only [List.length_append, List.length_map, List.length_cons, List.length_nil]; omega)); (case k3 => (with_reducible (first | exact st0 | exact st1 | exact st2 | exact st3 | exact st4 | exact st5 | exact st6 | exact st7 | exact st8 | exact st9 | exact st10 | exact st11 | exact st12 | exact st13 | exact st14 | exact st15 | exact st16 | exact st17 | exact st18 | exact st19 | exact st20))))
  | ((with_reducible refine' e_ksetF ?k1 ?k2 ?_); (case k1 => exact rfl); (case k2 => (with_reducible (first | exact st0 | exact st1 | exact st2 | exact st3 | exact st4 | exact st5 | exact st6 | exact st7 | exact st8 | exact st9 | exact st10 | exact st11 | exact st12 | exact st13 | exact st14 | exact st15 | exact st16 | exact st17 | exact st18 | exact st19 | exact st20))))
  | ((with_reducible refine' e_klen ?k1 ?k2 ?_); (case k1 => exact rfl); (case k2 => exact rfl))
  | ((with_reducible refine' e_klst ?k1 ?k2 ?_); (case k1 => exact rfl); (case k2 => exact rfl))
  | ((with_reducible refine' e_gtup ?k1 ?_); (case k1 => exact rfl))
  | ((with_reducible refine' e_gN ?k1 ?k2 ?_); (case k1 => exact rfl); (case k2 => (with_reducible (first | exact st0 | exact st1 | exact st2 | exact st3 | exact st4 | exact st5 | exact st6 | exact st7 | exact st8 | exact st9 | exact st10 | exact st11 | exact st12 | exact st13 | exact st14 | exact st15 | exact st16 | exact st17 | exact st18 | exact st19 | exact st20))))
  | ((with_reducible refine' e_varT ?k1 ?k2 ?_); (case k1 => exact rfl); (case k2 => (with_reducible (first | exact st0 | exact st1 | exact st2 | exact st3 | exact st4 | exact st5 | exact st6 | exact st7 | exact st8 | exact st9 | exact st10 | exact st11 | exact st12 | exact st13 | exact st14 | exact st15 | exact st16 | exact st17 | exact st18 | exact st19 | exact st20))))
  | ((with_reducible refine' e_mulR ?k1 ?k2 ?_); (case k1 => omega); (case k2 => omega))
  | ((with_reducible refine' e_mulL ?k1 ?k2 ?_); (case k1 => omega); (case k2 => omega))
  | ((with_reducible refine' e_div ?k1 ?k2 ?_); (case k1 => omega); (case k2 => omega))
  | ((with_reducible refine' e_mod ?k1 ?_); (case k1 => omega))
  | ((with_reducible refine' e_retN ?k1 ?_); (case k1 => exact rfl))
  | ((with_reducible refine' e_retNO ?k1 ?k2 ?_); (case k1 => exact rfl); (case k2 => (with_reducible (first | exact st0 | exact st1 | exact st2 | exact st3 | exact st4 | exact st5 | exact st6 | exact st7 | exact st8 | exact st9 | exact st10 | exact st11 | exact st12 | exact st13 | exact st14 | exact st15 | exact st16 | exact st17 | exact st18 | exact st19 | exact st20))))
  | ((with_reducible refine' e_setIx1 ?k1 ?_); (case k1 => exact rfl))
  | ((with_reducible refine' e_ksetIx ?k1 ?k2 ?k3 ?_); (case k1 => exact rfl); (case k2 => exact rfl); (case k3 => (with_reducible (first | exact st0 | exact st1 | exact st2 | exact st3 | exact st4 | exact st5 | exact st6 | exact st7 | exact st8 | exact st9 | exact st10 | exact st11 | exact st12 | exact st13 | exact st14 | exact st15 | exact st16 | exact st17 | exact st18 | exact st19 | exact st20))))
  | ((with_reducible refine' e_kpar ?k1 ?k2 ?k3 ?_); (case k1 => exact rfl); (case k2 => exact rfl); (case k3 => (repeat (first | exact set_0 | apply set_s))))
  | ((with_reducible refine' e_aug ?k1 ?_); (case k1 => exact rfl))
  | ((with_reducible refine' e_kaug ?k1 ?k2 ?_); (case k1 => exact rfl); (case k2 => (with_reducible (first | exact st0 | exact st1 | exact st2 | exact st3 | exact st4 | exact st5 | exact st6 | exact st7 | exact st8 | exact st9 | exact st10 | exact st11 | exact st12 | exact st13 | exact st14 | exact st15 | exact st16 | exact st17 | exact st18 | exact st19 | exact st20))))
  | ((with_reducible refine' e_kslT ?k1 ?_); (case k1 => exact rfl))
  | ((with_reducible refine' e_kslL ?k1 ?_); (case k1 => exact rfl))
  | ((with_reducible refine' e_ksum ?k1 ?_); (case k1 => exact rfl))
  | ((with_reducible refine' e_ktupOf ?k1 ?k2 ?_); (case k1 => exact rfl); (case k2 => exact rfl))
  | ((with_reducible refine' e_klstOf ?k1 ?k2 ?_); (case k1 => exact rfl); (case k2 => exact rfl))
  | ((with_reducible refine' e_kisi ?k1 ?k2 ?k3 ?_); (case k1 => exact rfl); (case k2 => exact rfl); (case k3 => (first | exact ks_ii | exact ks_ib | exact ks_bi | exact ks_bb | exact ks_ni | exact ks_nb | exact ks_tt | exact ks_lt | exact ks_it | exact ks_nt | exact ks_ti | exact ks_si)))
  | ((with_reducible refine' e_kR1 ?k1 ?k2 ?_); (case k1 => omega); (case k2 => omega))
  | ((with_reducible refine' e_kR2 ?k1 ?_); (case k1 => omega))
  ))
local macro_rules | `(tactic| walk_at "wk0") => `(tactic| (unfold endsF; (with_reducible refine' st_rho ?k1 ?_); (case k1 => repeat (first | exact rh_0 | (with_reducible apply rh_m) | (with_reducible apply rh_n) | apply rh_s))))
local macro_rules | `(tactic| walk_at "set") => `(tactic| with_reducible (first | exact st0 | exact st1 | exact st2 | exact st3 | exact st4 | exact st5 | exact st6 | exact st7 | exact st8 | exact st9 | exact st10 | exact st11 | exact st12 | exact st13 | exact st14 | exact st15 | exact st16 | exact st17 | exact st18 | exact st19 | exact st20))
abbrev smean_paper : Stmt := topS 18
abbrev nmean_paper : List Str := ["many", "arcs", "mean", "potentials"]
theorem scmean_paper : FnScope ["many", "arcs", "mean", "potentials"] ["many", "arcs"] (defScope smean_paper) := ⟨rfl, rfl, rfl, by decide +kernel, rfl, by decide +kernel, by decide +kernel⟩
theorem bimean_paper : BindOk "mean_paper" smean_paper ["many", "arcs"] := fun _ _ _ _ _ _ us hl => match us, hl with | [_, _], _ => rfl
def paperD (m : Fc) (p : List Int) (w : List Nat) : Dt := .tup [fracD m, intsD p, nodesD w]
def errP (c : Addr) : Addr × List (Str × Dt) := (c, [("reason", .str "round")])
def potOf (n : Nat) (arcs : List Arc) (m : Fc) : List Int := (potentials n arcs m).getD []
def paperR (cP : Addr) (n : Nat) (arcs : List Arc) : Except (Addr × List (Str × Dt)) Rs := match leastMean n arcs with
  | none => .error (errP cP)
  | some m => .ok (.dat (paperD m (potOf n arcs m) (tightRound n arcs m (potOf n arcs m))))
def fxPaper (cN cT cP : Addr) : FX := ⟨Int × Dt, fun a => [.dat (.int a.1), .dat a.2], preA, fun a => behind cN cT a (paperR cP), fun _ => []⟩
/-- what is known of the program's papers -/
def PaperOk : Prop := ∀ (n : Nat) (arcs : List Arc) (m : Fc), 1 ≤ n → okA n arcs → leastMean n arcs = some m →
  ∃ p, potentials n arcs m = some p ∧ p.length = n ∧ startsN n (aliveN n (tightL m p arcs)) ≠ [] ∧ Alive n (tightL m p arcs) (aliveN n (tightL m p arcs))
theorem low_bd {b : Fc} {n : Nat} (h : 0 < b.2 ∧ b.2 ≤ n) : 0 < (lowF b).2 ∧ (lowF b).2 ≤ n := by
  have g0 := gcd_pos (p := b.1) h.1
  have g1 := gcd_le (p := b.1) h.1
  unfold lowF
  dsimp only
  refine ⟨Int.ediv_pos_of_pos_of_dvd h.1 (Int.le_of_lt g0) (Int.gcd_dvd_right _ _), ?_⟩
  have := Int.ediv_le_self (↑(b.1.gcd b.2)) (Int.le_of_lt h.1)
  omega
theorem least_bd {n : Nat} {arcs : List Arc} {m : Fc} (hn : 1 ≤ n) (h : leastMean n arcs = some m) : 0 < m.2 ∧ m.2 ≤ n := by
  unfold leastMean at h
  cases q : bestN n arcs n with
  | none => rw [q] at h; cases h
  | some b =>
    rw [q] at h
    cases h
    exact low_bd (best_bd (by omega) (Nat.le_refl n) q)
theorem call_least {cN cT : Addr} {ρ : Rho} {ws : List Vw} {PR : Rs → Rho → Prop} {ex : Addr → List (Str × Dt) → Prop} {m : Int} {d : Dt} (h1 : resv ρ ws = some [.dat (.int m), .dat d]) (h3 : slotsOf ws = []) (hp : preA (m, d)) (q1 : ∀ e, chkR cN cT m d = .error e → ex e.1 e.2) (q2 : ∀ r, chkR cN cT m d = .ok r → PR (.dat (optF (leastMean m.toNat (arcsOf d)))) ρ) : kCall 2 (fxLeast cN cT).sp ex ws ρ PR := by
  refine e_callX (fxLeast cN cT) (m, d) h1 rfl h3 hp rfl ?_
  dsimp only [fxLeast]
  unfold behind
  dsimp only
  cases h : chkR cN cT m d with
  | error e => exact q1 e h
  | ok r => exact q2 r h
theorem behind_err {cN cT : Addr} {m : Int} {d : Dt} {r : Nat → List Arc → Except (Addr × List (Str × Dt)) Rs} {e : Addr × List (Str × Dt)} (h : chkR cN cT m d = .error e) : behind cN cT (m, d) r = .error e := by
  unfold behind
  dsimp only
  rw [h]
theorem behind_ok {cN cT : Addr} {m : Int} {d : Dt} {r : Nat → List Arc → Except (Addr × List (Str × Dt)) Rs} {x : Rs} (h : chkR cN cT m d = .ok x) : behind cN cT (m, d) r = r m.toNat (arcsOf d) := by
  unfold behind
  dsimp only
  rw [h]
section
variable {P : Program} {w : World} {K : PySem.W.Frag} {mg : Str → Option Value} {base : Heap}
theorem ok_paper {cNoValue cTooMany cNoPaper : Addr} (hM : PaperOk) (D : Df K mg "mean_paper" smean_paper) (B : Bi mg) (xNoPaper : Xc P w K mg base "NoPaper" "reason" cNoPaper) (cleast_mean : CalX P w K mg base 4 "least_mean" 2 (fxLeast cNoValue cTooMany).sp) (cpotentials_for : Cal P w K mg base 2 "potentials_for" 3 fsPot.sp) (ctight_round : Cal P w K mg base 2 "tight_round" 4 fsTight.sp) :
    CalX P w K mg base 5 "mean_paper" 2 (fxPaper cNoValue cTooMany cNoPaper).sp := by
  refine calX_of D scmean_paper bimean_paper fun f cdv A outer s H E Ex hr => ⟨_, _, (ps_cons' (ps_set' 2 scmean_paper.nd (pd_calX cleast_mean (hr.mono (by decide)) (passes_call (takes_of rfl rfl rfl rfl) fun _ _ _ _ h => h) (pa_cons' (pd_var 0) (pa_cons' (pd_var 1) pa_nil'))))
      (ps_cons' (ps_if' (PCm.pdt (c_is (pd_var 2) pd_non))
       (ps_one' (ps_raise' rfl (takes_of rfl rfl rfl rfl) xNoPaper (hr.mono (by decide)) (pa_cons' pd_str pa_nil')))
       ps_nil')
      (ps_cons' (ps_set' 3 scmean_paper.nd (pd_cal cpotentials_for (hr.mono (by decide)) (pa_cons' (pd_var 0) (pa_cons' (pd_var 1) (pa_cons' (pd_var 2) pa_nil')))))
      (ps_one' (ps_ret' (pd_tup (pa_cons' (pd_var 2) (pa_cons' (pd_var 3) (pa_cons' (pd_cal ctight_round (hr.mono (by decide)) (pa_cons' (pd_var 0) (pa_cons' (pd_var 1) (pa_cons' (pd_var 2) (pa_cons' (pd_var 3) pa_nil'))))) pa_nil'))))))))), ?_⟩
  rintro es P' ρ0 hl ⟨⟨m, d⟩, rfl, hpre, hp⟩ rfl
  dsimp only [fxPaper] at hp
  dsimp only [fxPaper]
  walk_at "wk0"
  walk_at "wk"
  refine call_least rfl rfl hpre (fun e he => ?_) (fun r he => ?_)
  · rw [behind_err he] at hp
    exact hp
  rw [behind_ok he] at hp
  obtain ⟨rfl, n, arcs, rfl, rfl, ha, _, hn1, hn2, hn3, hok⟩ := chk_ok he
  rw [ha, Int.toNat_natCast] at hp ⊢
  unfold paperR at hp
  walk_at "wk"
  refine e_ifNF (fun h2 => ?_) (fun mm h2 => ?_)
  · rw [h2] at hp
    walk_at "wk"
    exact e_kraise rfl hp
  obtain ⟨p, hpot, hpl, hst, hal⟩ := hM n arcs mm hn1 hok h2
  have bd := least_bd hn1 h2
  have hpo : potOf n arcs mm = p := by unfold potOf; rw [hpot]; rfl
  rw [h2] at hp ⊢
  dsimp only at hp
  rw [hpo] at hp
  walk_at "wk"
  refine e_call0 fsPot ((n, arcs, mm), p) rfl rfl rfl ⟨hok, hn2, ⟨by dsimp only; omega, by dsimp only; omega⟩, hpot⟩ rfl ?_
  dsimp only [fsPot]
  walk_at "wk"
  refine e_call0 fsTight ((n, arcs, mm), p) rfl rfl rfl ⟨hok, hn2, hn3, ⟨by dsimp only; omega, by dsimp only; omega⟩, hpl, hst, hal⟩ rfl ?_
  dsimp only [fsTight]
  walk_at "wk"
  exact e_fin rfl hp
end
end K85
namespace K85
open PySem PySem.Spec PyProof.Rows L2 Wk
local macro_rules | `(tactic| walk_at "wk") => `(tactic| repeat (first
  | apply_rules -symm -exfalso (transparency := .reducible) (maxDepth := 100000) only [@e_seq, @e_c, @e_ix, @e_set, @e_op, @e_I2, @e_fI0, @e_ifS, @e_tst, @e_ktst, @e_ift, @e_iff, @e_ifnt, @e_ifnf, @e_ret, @e_retF, @e_acons, @e_anil, @e_alend, @e_tup, @e_int, @e_kint, @e_vd, @e_setIx, @e_toL, @e_toT, @e_callD, @e_toD, @e_toDo, @e_callF, @e_kown, @e_frz, @e_len, @e_setF, @e_lst, @e_and, @e_or, @e_not, @e_andV, @e_orV, @e_notV, @e_kandV, @e_korV, @e_knotV, @e_ifE, @e_is, @e_isnot, @e_neg, @e_kneg, @e_par, @e_asg, @e_gnil, @e_gcons, @e_slT, @e_slL, @e_nopart, @e_part, @e_kpart, @e_sum, @e_min, @e_max, @e_abs, @e_kabs, @e_MM, @e_kMM, @e_tupOf, @e_lstOf, @e_isi, @e_inI, @e_dget, @e_din, @e_dnew, @e_catT, @e_catL, @e_index, @e_eq, @e_chain, @e_kchain, @e_kchain2, @e_drop, @e_next, @e_brk, @e_cnt, @e_retnon, @e_setK, @e_iL, @e_kL, @e_iT, @e_kT, @e_iR1, @e_iR2, @e_for, @e_yes, @e_lc, @e_raise, @e_try, @e_isX, @e_xf]
  | ((with_reducible refine' e_var ?k1 ?_); (case k1 => exact rfl))
  | ((with_reducible refine' e_kset ?k1 ?k2 ?_); (case k1 => exact rfl); (case k2 => (with_reducible (first | exact st0 | exact st1 | exact st2 | exact st3 | exact st4 | exact st5 | exact st6 | exact st7 | exact st8 | exact st9 | exact st10 | exact st11 | exact st12 | exact st13 | exact st14 | exact st15 | exact st16 | exact st17 | exact st18 | exact st19 | exact st20))))
  | ((with_reducible refine' e_ktup ?k1 ?k2 ?_); (case k1 => exact rfl); (case k2 => exact rfl))
  | ((with_reducible refine' e_kix ?k1 ?k2 ?k3 ?_); (case k1 => exact rfl); (case k2 => exact rfl); (case k3 => exact rfl))
  | ((with_reducible refine' e_vn ?k1 ?_); (case k1 => exact rfl))
  | ((with_reducible refine' e_varL ?k1 ?k2 ?_); (case k1 => exact rfl); (case k2 => (with_reducible (first | exact st0 | exact st1 | exact st2 | exact st3 | exact st4 | exact st5 | exact st6 | exact st7 | exact st8 | exact st9 | exact st10 | exact st11 | exact st12 | exact st13 | exact st14 | exact st15 | exact st16 | exact st17 | exact st18 | exact st19 | exact st20))))
  | ((with_reducible refine' e_app ?k1 ?_); (case k1 => exact rfl))
  | ((with_reducible refine' e_kapp ?k1 ?k2 ?k3 ?_); (case k1 => exact rfl); (case k2 => (simp only [List.length_append, List.length_map, List.length_cons, List.length_nil]; omega)); (case k3 => (with_reducible (first | exact st0 | exact st1 | exact st2 | exact st3 | exact st4 | exact st5 | exact st6 | exact st7 | exact st8 | exact st9 | exact st10 | exact st11 | exact st12 | exact st13 | exact st14 | exact st15 | exact st16 | exact st17 | exact st18 | exact st19 | exact st20))))
  | ((with_reducible refine' e_ksetF ?k1 ?k2 ?_); (case k1 => exact rfl); (case k2 => (with_reducible (first | exact st0 | exact st1 | exact st2 | exact st3 | exact st4 | exact st5 | exact st6 | exact st7 | exact st8 | exact st9 | exact st10 | exact st11 | exact st12 | exact st13 | exact st14 | exact st15 | exact st16 | exact st17 | exact st18 | exact st19 | exact st20))))
  | ((with_reducible refine' e_klen ?k1 ?k2 ?_); (case k1 => exact rfl); (case k2 => exact rfl))
  | ((with_reducible refine' e_klst ?k1 ?k2 ?_); (case k1 => exact rfl); (case k2 => exact rfl))
  | ((with_reducible refine' e_gtup ?k1 ?_); (case k1 => exact rfl))
  | ((with_reducible refine' e_gN ?k1 ?k2 ?_); (case k1 => exact rfl); (case k2 => (with_reducible (first | exact st0 | exact st1 | exact st2 | exact st3 | exact st4 | exact st5 | exact st6 | exact st7 | exact st8 | exact st9 | exact st10 | exact st11 | exact st12 | exact st13 | exact st14 | exact st15 | exact st16 | exact st17 | exact st18 | exact st19 | exact st20))))
  | ((with_reducible refine' e_varT ?k1 ?k2 ?_); (case k1 => exact rfl); (case k2 => (with_reducible (first | exact st0 | exact st1 | exact st2 | exact st3 | exact st4 | exact st5 | exact st6 | exact st7 | exact st8 | exact st9 | exact st10 | exact st11 | exact st12 | exact st13 | exact st14 | exact st15 | exact st16 | exact st17 | exact st18 | exact st19 | exact st20))))
  | ((with_reducible refine' e_mulR ?k1 ?k2 ?_); (case k1 => omega); (case k2 => omega))
  | ((with_reducible refine' e_mulL ?k1 ?k2 ?_); (case k1 => omega); (case k2 => omega))
  | ((with_reducible refine' e_div ?k1 ?k2 ?_); (case k1 => omega); (case k2 => omega))
  | ((with_reducible refine' e_mod ?k1 ?_); (case k1 => omega))
  | ((with_reducible refine' e_retN ?k1 ?_); (case k1 => exact rfl))
  | ((with_reducible refine' e_retNO ?k1 ?k2 ?_); (case k1 => exact rfl); (case k2 => (with_reducible (first | exact st0 | exact st1 | exact st2 | exact st3 | exact st4 | exact st5 | exact st6 | exact st7 | exact st8 | exact st9 | exact st10 | exact st11 | exact st12 | exact st13 | exact st14 | exact st15 | exact st16 | exact st17 | exact st18 | exact st19 | exact st20))))
  | ((with_reducible refine' e_setIx1 ?k1 ?_); (case k1 => exact rfl))
  | ((with_reducible refine' e_ksetIx ?k1 ?k2 ?k3 ?_); (case k1 => exact rfl); (case k2 => exact rfl); (case k3 => (with_reducible (first | exact st0 | exact st1 | exact st2 | exact st3 | exact st4 | exact st5 | exact st6 | exact st7 | exact st8 | exact st9 | exact st10 | exact st11 | exact st12 | exact st13 | exact st14 | exact st15 | exact st16 | exact st17 | exact st18 | exact st19 | exact st20))))
  | ((with_reducible refine' e_kpar ?k1 ?k2 ?k3 ?_); (case k1 => exact rfl); (case k2 => exact rfl); (case k3 => (repeat (first | exact set_0 | apply set_s))))
  | ((with_reducible refine' e_aug ?k1 ?_); (case k1 => exact rfl))
  | ((with_reducible refine' e_kaug ?k1 ?k2 ?_); (case k1 => exact rfl); (case k2 => (with_reducible (first | exact st0 | exact st1 | exact st2 | exact st3 | exact st4 | exact st5 | exact st6 | exact st7 | exact st8 | exact st9 | exact st10 | exact st11 | exact st12 | exact st13 | exact st14 | exact st15 | exact st16 | exact st17 | exact st18 | exact st19 | exact st20))))
  | ((with_reducible refine' e_kslT ?k1 ?_); (case k1 => exact rfl))
  | ((with_reducible refine' e_kslL ?k1 ?_); (case k1 => exact rfl))
  | ((with_reducible refine' e_ksum ?k1 ?_); (case k1 => exact rfl))
  | ((with_reducible refine' e_ktupOf ?k1 ?k2 ?_); (case k1 => exact rfl); (case k2 => exact rfl))
  | ((with_reducible refine' e_klstOf ?k1 ?k2 ?_); (case k1 => exact rfl); (case k2 => exact rfl))
  | ((with_reducible refine' e_kisi ?k1 ?k2 ?k3 ?_); (case k1 => exact rfl); (case k2 => exact rfl); (case k3 => (first | exact ks_ii | exact ks_ib | exact ks_bi | exact ks_bb | exact ks_ni | exact ks_nb | exact ks_tt | exact ks_lt | exact ks_it | exact ks_nt | exact ks_ti | exact ks_si)))
  | ((with_reducible refine' e_kR1 ?k1 ?k2 ?_); (case k1 => omega); (case k2 => omega))
  | ((with_reducible refine' e_kR2 ?k1 ?_); (case k1 => omega))
  ))
local macro_rules | `(tactic| walk_at "wk0") => `(tactic| (unfold endsF; (with_reducible refine' st_rho ?k1 ?_); (case k1 => repeat (first | exact rh_0 | (with_reducible apply rh_m) | (with_reducible apply rh_n) | apply rh_s))))
local macro_rules | `(tactic| walk_at "set") => `(tactic| with_reducible (first | exact st0 | exact st1 | exact st2 | exact st3 | exact st4 | exact st5 | exact st6 | exact st7 | exact st8 | exact st9 | exact st10 | exact st11 | exact st12 | exact st13 | exact st14 | exact st15 | exact st16 | exact st17 | exact st18 | exact st19 | exact st20))
abbrev sshows_mean : Stmt := topS 19
abbrev nshows_mean : List Str := ["many", "arcs", "paper", "arc", "total", "at", "mean", "potentials", "walk", "costs"]
theorem scshows_mean : FnScope ["many", "arcs", "paper", "arc", "total", "at", "mean", "potentials", "walk", "costs"] ["many", "arcs", "paper"] (defScope sshows_mean) := ⟨rfl, rfl, rfl, by decide +kernel, rfl, by decide +kernel, by decide +kernel⟩
theorem bishows_mean : BindOk "shows_mean" sshows_mean ["many", "arcs", "paper"] := fun _ _ _ _ _ _ us hl => match us, hl with | [_, _, _], _ => rfl
/-- a paper: mean, potentials, round -/
abbrev Pap := Fc × List Int × List Nat
def papD (x : Pap) : Dt := paperD x.1 x.2.1 x.2.2
def small (x : Pap) : Prop := sm x.1.2 ∧ x.2.1.length ≤ 100000 ∧ x.2.2.length ≤ 100000
def judgeP (n : Nat) (arcs : List Arc) (x : Pap) : Bool := judge n arcs x.1 x.2.1 x.2.2
def fxShows (cN cT : Addr) : FX := ⟨(Int × Dt) × Pap, fun a => [.dat (.int a.1.1), .dat a.1.2, .dat (papD a.2)], fun a => preA a.1 ∧ small a.2, fun a => behind cN cT a.1 fun n arcs => .ok (.dat (.bl (judgeP n arcs a.2))), fun _ => []⟩
theorem judge_eq {n : Nat} {arcs : List Arc} {m : Fc} {p : List Int} {w : List Nat} : judge n arcs m p w = true ↔ p.length = n ∧ 1 ≤ m.2 ∧ 2 ≤ w.length ∧ w.head? = w.getLast? ∧ (∀ a ∈ arcs, p.getD a.2.1 0 ≤ p.getD a.1 0 + spareF a m) ∧ sumW arcs m w = some 0 := by
  unfold judge
  simp only [Bool.and_eq_true, decide_eq_true_eq, List.all_eq_true]
  constructor
  · rintro ⟨⟨⟨⟨⟨h1, h2⟩, h3⟩, h4⟩, h5⟩, h6⟩
    exact ⟨h1, h2, h3, h4, h5, h6⟩
  · rintro ⟨h1, h2, h3, h4, h5, h6⟩
    exact ⟨⟨⟨⟨⟨h1, h2⟩, h3⟩, h4⟩, h5⟩, h6⟩
theorem judge_no {n : Nat} {arcs : List Arc} {m : Fc} {p : List Int} {w : List Nat} (h : ¬ (p.length = n ∧ 1 ≤ m.2 ∧ 2 ≤ w.length ∧ w.head? = w.getLast? ∧ (∀ a ∈ arcs, p.getD a.2.1 0 ≤ p.getD a.1 0 + spareF a m) ∧ sumW arcs m w = some 0)) : judge n arcs m p w = false := by
  cases q : judge n arcs m p w with
  | false => rfl
  | true => exact absurd (judge_eq.mp q) h
theorem at0 {w : List Nat} {x : Nat} (h : w[0]? = some x) : atI ((intsN w).map Dt.int) 0 = some (.int (x : Int)) := by
  refine atI_nn (Int.le_refl 0) ?_
  unfold intsN
  rw [List.getElem?_map, List.getElem?_map, show (0 : Int).toNat = 0 from rfl, h]
  rfl
theorem atN {w : List Nat} {i x : Nat} (h : w[i]? = some x) : atI ((intsN w).map Dt.int) (i : Int) = some (.int (x : Int)) := by
  refine atI_nat ?_
  unfold intsN
  rw [List.getElem?_map, List.getElem?_map, h]
  rfl
theorem atN1 {w : List Nat} {i x : Nat} (h : w[i + 1]? = some x) : atI ((intsN w).map Dt.int) ((i : Int) + 1) = some (.int (x : Int)) := by
  rw [show (i : Int) + 1 = ((i + 1 : Nat) : Int) by omega]
  exact atN h
theorem sum_step {arcs : List Arc} {m : Fc} {w : List Nat} {i u v : Nat} (hu : w[i]? = some u) (hv : w[i + 1]? = some v) : sumW arcs m (w.drop i) = if costsUV arcs u v = [] then none else match sumW arcs m (w.drop (i + 1)) with
    | none => none
    | some t => some (lmin (costsUV arcs u v) * m.2 - m.1 + t) := by
  have e1 : w.drop i = u :: v :: w.drop (i + 2) := by
    rw [List.drop_eq_getElem_cons (List.getElem?_eq_some_iff.mp hu).1, (List.getElem?_eq_some_iff.mp hu).2, List.drop_eq_getElem_cons (List.getElem?_eq_some_iff.mp hv).1, (List.getElem?_eq_some_iff.mp hv).2]
  have e2 : w.drop (i + 1) = v :: w.drop (i + 2) := by
    rw [List.drop_eq_getElem_cons (List.getElem?_eq_some_iff.mp hv).1, (List.getElem?_eq_some_iff.mp hv).2]
  rw [e1, e2]
  rfl
section
variable {P : Program} {w : World} {K : PySem.W.Frag} {mg : Str → Option Value} {base : Heap}
theorem ok_shows {cNoValue cTooMany : Addr} (D : Df K mg "shows_mean" sshows_mean) (B : Bi mg) (ccheck_arcs : CalX P w K mg base 3 "check_arcs" 2 (fxChk cNoValue cTooMany).sp) (cspare : Cal P w K mg base 1 "spare" 2 fsSpare.sp) : CalX P w K mg base 4 "shows_mean" 3 (fxShows cNoValue cTooMany).sp := by
  refine calX_of D scshows_mean bishows_mean fun f cdv A outer s H E Ex hr => ⟨_, _, (ps_cons' (ps_expr' (pd_calX ccheck_arcs (hr.mono (by decide)) (passes_call (takes_of rfl rfl rfl rfl) fun _ _ _ _ h => h) (pa_cons' (pd_var 0) (pa_cons' (pd_var 1) pa_nil'))))
      (ps_cons' (ps_asg' (pd_var 2) (pg_tup' 3 rfl (pgs_cons' (pg_name' 6 scshows_mean.nd) (pgs_cons' (pg_name' 7 scshows_mean.nd) (pgs_cons' (pg_name' 8 scshows_mean.nd) pgs_nil')))))
      (ps_cons' (ps_if' (PDW.pdt (pdw_or (PCm.pdt (c_neI (pd_len B.len (pv_name 7)) (pd_var 0))) (pdw_or (PCm.pdt (c_lt (pd_ix (pv_name 6) pd_int) pd_int)) (pdw_or (PCm.pdt (c_lt (pd_len B.len (pv_name 8)) pd_int)) (pdw_or1 (PCm.pdt (c_neI (pd_ix (pv_name 8) pd_int) (pd_ix (pv_name 8) (pd_sub (pd_len B.len (pv_name 8)) pd_int)))))))))
       (ps_one' (ps_ret' pd_bl))
       ps_nil')
      (ps_cons' (ps_for' (passes_of rfl) rfl (pi_tup' (pd_var 1)) (pg_name' 3 scshows_mean.nd)
       (ps_one' (ps_if' (PCm.pdt (c_gt (pd_ix (pv_name 7) (pd_ix (pv_name 3) pd_int)) (pd_add (pd_ix (pv_name 7) (pd_ix (pv_name 3) pd_int)) (pd_cal cspare (hr.mono (by decide)) (pa_cons' (pd_var 3) (pa_cons' (pd_var 6) pa_nil'))))))
         (ps_one' (ps_ret' pd_bl))
         ps_nil')))
      (ps_cons' (ps_set' 4 scshows_mean.nd pd_int)
      (ps_cons' (ps_for' (passes_of rfl) rfl (pi_range1' B.range (pd_sub (pd_len B.len (pv_name 8)) pd_int)) (pg_name' 5 scshows_mean.nd)
       (ps_cons' (ps_setLcD' 9 [("arc", 3)] rfl scshows_mean.nd (pi_tup' (pd_var 1)) (blkOk_by (N := nshows_mean) (sc := defScope sshows_mean) (by decide +kernel)) (fun _ _ _ _ _ => (pg_name' 3 scshows_mean.nd)) own_name (fun _ _ _ _ _ => (pt_one' (PDW.pdt (pdw_and (PCm.pdt (c_eqI (pd_ix (pv_name 3) pd_int) (pd_ix (pv_name 8) (pd_var 5)))) (pdw_and1 (PCm.pdt (c_eqI (pd_ix (pv_name 3) pd_int) (pd_ix (pv_name 8) (pd_add (pd_var 5) pd_int))))))))) (fun _ _ _ _ _ => (pd_ix (pv_name 3) pd_int)))
        (ps_cons' (ps_if' (PCm.pdt (c_eqI (pd_len B.len (pv_name 9)) pd_int))
         (ps_one' (ps_ret' pd_bl))
         ps_nil')
        (ps_one' (ps_aug' 4 scshows_mean.nd ip_add (pd_sub (pd_mul (pd_min B.min (pv_name 9)) (pd_ix (pv_name 6) pd_int)) (pd_ix (pv_name 6) pd_int)))))))
      (ps_one' (ps_ret' (PCm.pd (c_eqI (pd_var 4) pd_int)))))))))), ?_⟩
  rintro es P' ρ0 hl ⟨⟨⟨m0, d⟩, ⟨m, p, wk⟩⟩, rfl, ⟨hpre, hm, hp5, hw5⟩, hp⟩ rfl
  dsimp only [fxShows] at hp hpre hm hp5 hw5
  dsimp only [fxShows]
  walk_at "wk0"
  walk_at "wk"
  refine call_chk rfl rfl hpre (fun e he => ?_) (fun r he => ?_)
  · rw [behind_err he] at hp
    exact hp
  rw [behind_ok he] at hp
  obtain ⟨rfl, n, arcs, rfl, rfl, ha, _, hn1, hn2, hn3, hok⟩ := chk_ok he
  rw [ha, Int.toNat_natCast] at hp
  have hp2 : P' (.dat (.bl (judge n arcs m p wk))) [] := hp
  clear hp
  have ep : papD (m, p, wk) = .tup [fracD m, intsD p, nodesD wk] := rfl
  rw [ep]
  have hbad : ¬ (p.length = n ∧ 1 ≤ m.2 ∧ 2 ≤ wk.length ∧ wk.head? = wk.getLast? ∧ (∀ a ∈ arcs, p.getD a.2.1 0 ≤ p.getD a.1 0 + spareF a m) ∧ sumW arcs m wk = some 0) → P' (.dat (.bl false)) [] := fun h => by
    rw [judge_no h] at hp2
    exact hp2
  walk_at "wk"
  rw [List.length_map]
  refine e_ifnd (fun h1 => ?_) (fun h1 => ?_)
  · walk_at "wk"
    exact e_fin rfl (hbad fun z => h1 (by rw [z.1]))
  have hpl : p.length = n := by omega
  walk_at "wk"
  refine e_ifd (fun h2 => ?_) (fun h2 => ?_)
  · walk_at "wk"
    exact e_fin rfl (hbad fun z => by omega)
  walk_at "wk"
  have lw : ((intsN wk).map Dt.int).length = wk.length := by unfold intsN; simp
  rw [lw]
  refine e_ifd (fun h3 => ?_) (fun h3 => ?_)
  · walk_at "wk"
    exact e_fin rfl (hbad fun z => by omega)
  obtain ⟨x0, hx0⟩ : ∃ x0, wk[0]? = some x0 := ⟨_, List.getElem?_eq_getElem (show 0 < wk.length by omega)⟩
  have hw0 : wk ≠ [] := by
    intro e
    rw [e] at h3
    exact h3 (by decide)
  have hhd : wk.head? = wk.getLast? ↔ x0 = wk.getLastD 0 := by
    rw [List.head?_eq_getElem?, hx0, List.getLastD_eq_getLast?]
    cases q : wk.getLast? with
    | none => exact absurd (List.getLast?_eq_none_iff.mp q) hw0
    | some y => exact ⟨fun e => Option.some.inj e, fun e => congrArg some e⟩
  walk_at "wk"
  refine e_kix rfl rfl (at0 hx0) ?_
  walk_at "wk"
  refine e_kix rfl rfl (at_last hw0) ?_
  walk_at "wk"
  refine e_ifnd (fun h4 => ?_) (fun h4 => ?_)
  · walk_at "wk"
    exact e_fin rfl (hbad fun z => h4 (by rw [hhd.mp z.2.2.2.1]))
  have h4' : wk.head? = wk.getLast? := hhd.mpr (by omega)
  walk_at "wk"
  refine e_kT (xs := arcs.map arcD) ?_
  walk_at "wk"
  refine e_forI [3] (fun i ρ => ρ = [some (.dat (.int n)), some (.dat (arcsD arcs)), some (.dat (.tup [fracD m, intsD p, nodesD wk])), none, none, none, some (.dat (fracD m)), some (.dat (intsD p)), some (.dat (nodesD wk)), none] ∧ ∀ a ∈ arcs.take i, p.getD a.2.1 0 ≤ p.getD a.1 0 + spareF a m) ⟨rfl, by simp⟩ (fun i x ρ2 hi hI => ?_) (fun ρ2 hI => ?_)
  · obtain ⟨rfl, hI⟩ := hI
    obtain ⟨a, hai, rfl⟩ := map_get hi
    have ham := List.mem_of_getElem? hai
    obtain ⟨hu, hv⟩ := hok _ ham
    walk_at "wk"
    refine e_kix (d := intsD p) rfl rfl (atI_nat (geti (i := a.2.1) (by omega))) ?_
    walk_at "wk"
    refine e_kix (d := intsD p) rfl rfl (atI_nat (geti (i := a.1) (by omega))) ?_
    walk_at "wk"
    refine call_spare rfl rfl hm ?_
    walk_at "wk"
    refine e_ifd (fun hc => ?_) (fun hc => ?_)
    · walk_at "wk"
      exact e_fin rfl (hbad fun z => by have := z.2.2.2.2.1 a ham; omega)
    · walk_at "wk"
      refine ⟨rfl, fun b hb => ?_⟩
      rw [List.take_add_one, hai, List.mem_append] at hb
      rcases hb with hb | hb
      · exact hI b hb
      · have : b = a := by simpa using hb
        rw [this]
        omega
  obtain ⟨rfl, hI⟩ := hI
  rw [List.length_map, List.take_length] at hI
  walk_at "wk"
  rw [lw]
  walk_at "wk"
  rw [show ((wk.length : Int) - 1).toNat = wk.length - 1 by omega]
  have hm' := hm
  obtain ⟨hm1, hm2⟩ := hm'
  refine e_forI [3, 5, 9] (fun i ρ => ∃ t : Int, ρ = [some (.dat (.int n)), some (.dat (arcsD arcs)), some (.dat (.tup [fracD m, intsD p, nodesD wk])), none, some (.dat (.int t)), none, some (.dat (fracD m)), some (.dat (intsD p)), some (.dat (nodesD wk)), none] ∧ sumW arcs m wk = (sumW arcs m (wk.drop i)).map (t + ·)) ⟨0, rfl, ?_⟩ (fun i x ρ2 hi hJ => ?_) (fun ρ2 hJ => ?_)
  · rw [List.drop_zero]
    cases sumW arcs m wk with
    | none => rfl
    | some s => exact congrArg some (Int.zero_add s).symm
  · obtain ⟨t, rfl, hJ⟩ := hJ
    obtain ⟨hil, rfl⟩ := rng_get hi
    obtain ⟨u, hu⟩ : ∃ u, wk[i]? = some u := ⟨_, List.getElem?_eq_getElem (show i < wk.length by omega)⟩
    obtain ⟨v, hv⟩ : ∃ v, wk[i + 1]? = some v := ⟨_, List.getElem?_eq_getElem (show i + 1 < wk.length by omega)⟩
    rw [sum_step hu hv] at hJ
    walk_at "wk"
    refine e_kT (xs := arcs.map arcD) ?_
    walk_at "wk"
    refine e_lcK1 arcs arcD (fun a => decide (a.1 = u) && decide (a.2.1 = v)) (fun a => .int a.2.2) rfl (by omega) rfl (by walk_at "set") (fun a ha K1 K2 k1 k2 => ?_) ?_
    · walk_at "wk"
      refine e_kix (d := nodesD wk) rfl rfl (atN hu) ?_
      walk_at "wk"
      refine e_ifd (fun hc => ?_) (fun hc => ?_)
      · have hc : a.1 = u := by omega
        walk_at "wk"
        refine e_kix (d := nodesD wk) rfl rfl (atN1 hv) ?_
        walk_at "wk"
        refine e_ifd (fun hc2 => ?_) (fun hc2 => ?_)
        · have hc2 : a.2.1 = v := by omega
          walk_at "wk"
          exact k1 (by rw [decide_eq_true hc, decide_eq_true hc2]; rfl) _ rfl
        · have hc2 : ¬ a.2.1 = v := by omega
          exact k2 (by rw [decide_eq_false hc2, Bool.and_false]) _ rfl
      · have hc : ¬ a.1 = u := by omega
        walk_at "wk"
        exact k2 (by rw [decide_eq_false hc]; rfl) _ rfl
    have ec : (arcs.filter fun a => decide (a.1 = u) && decide (a.2.1 = v)).map (fun a => Dt.int a.2.2) = (costsUV arcs u v).map Dt.int := by
      unfold costsUV
      rw [List.map_map]
      rfl
    rw [ec]
    walk_at "wk"
    rw [List.length_map]
    refine e_ifd (fun h5 => ?_) (fun h5 => ?_)
    · have h5 : costsUV arcs u v = [] := List.length_eq_zero_iff.mp (by omega)
      rw [if_pos h5] at hJ
      walk_at "wk"
      exact e_fin rfl (hbad fun z => by rw [z.2.2.2.2.2] at hJ; cases hJ)
    · have h5 : costsUV arcs u v ≠ [] := fun e => h5 (by rw [e]; rfl)
      rw [if_neg h5] at hJ
      walk_at "wk"
      refine e_kmin rfl h5 ?_
      walk_at "wk"
      refine ⟨t + (lmin (costsUV arcs u v) * m.2 - m.1), rfl, ?_⟩
      rw [hJ]
      cases sumW arcs m (wk.drop (i + 1)) with
      | none => rfl
      | some s =>
        refine congrArg some ?_
        dsimp only
        omega
  · obtain ⟨t, rfl, hJ⟩ := hJ
    rw [rngD_len] at hJ
    have hlast : wk.drop (wk.length - 1) = [wk.getLastD 0] := by
      rw [List.drop_eq_getElem_cons (show wk.length - 1 < wk.length by omega), List.drop_of_length_le (by omega), List.getLastD_eq_getLast?, List.getLast?_eq_getElem?, List.getElem?_eq_getElem (show wk.length - 1 < wk.length by omega)]
      rfl
    rw [hlast] at hJ
    have hJ : sumW arcs m wk = some (t + 0) := hJ
    walk_at "wk"
    refine e_fin rfl ?_
    have ej : judge n arcs m p wk = decide (t = 0) := by
      by_cases ht : t = 0
      · rw [decide_eq_true ht]
        exact judge_eq.mpr ⟨hpl, by omega, by omega, h4', hI, by rw [hJ, ht]; rfl⟩
      · rw [decide_eq_false ht]
        refine judge_no fun z => ht ?_
        have := z.2.2.2.2.2
        rw [hJ] at this
        have := Option.some.inj this
        omega
    rw [ej] at hp2
    exact hp2
end
end K85
namespace K85
open PySem PySem.Spec PyProof.Rows L2 Wk
local macro_rules | `(tactic| walk_at "wk") => `(tactic| repeat (first
  | apply_rules -symm -exfalso (transparency := .reducible) (maxDepth := 100000) only [@e_seq, @e_c, @e_ix, @e_set, @e_op, @e_I2, @e_fI0, @e_ifS, @e_tst, @e_ktst, @e_ift, @e_iff, @e_ifnt, @e_ifnf, @e_ret, @e_retF, @e_acons, @e_anil, @e_alend, @e_tup, @e_int, @e_kint, @e_vd, @e_setIx, @e_toL, @e_toT, @e_callD, @e_toD, @e_toDo, @e_callF, @e_kown, @e_frz, @e_len, @e_setF, @e_lst, @e_and, @e_or, @e_not, @e_andV, @e_orV, @e_notV, @e_kandV, @e_korV, @e_knotV, @e_ifE, @e_is, @e_isnot, @e_neg, @e_kneg, @e_par, @e_asg, @e_gnil, @e_gcons, @e_slT, @e_slL, @e_nopart, @e_part, @e_kpart, @e_sum, @e_min, @e_max, @e_abs, @e_kabs, @e_MM, @e_kMM, @e_tupOf, @e_lstOf, @e_isi, @e_inI, @e_dget, @e_din, @e_dnew, @e_catT, @e_catL, @e_index, @e_eq, @e_chain, @e_kchain, @e_kchain2, @e_drop, @e_next, @e_brk, @e_cnt, @e_retnon, @e_setK, @e_iL, @e_kL, @e_iT, @e_kT, @e_iR1, @e_iR2, @e_for, @e_yes, @e_lc, @e_raise, @e_try, @e_isX, @e_xf]
  | ((with_reducible refine' e_var ?k1 ?_); (case k1 => exact rfl))
  | ((with_reducible refine' e_kset ?k1 ?k2 ?_); (case k1 => exact rfl); (case k2 => (with_reducible (first | exact st0 | exact st1 | exact st2 | exact st3 | exact st4 | exact st5 | exact st6 | exact st7 | exact st8 | exact st9 | exact st10 | exact st11 | exact st12 | exact st13 | exact st14 | exact st15 | exact st16 | exact st17 | exact st18 | exact st19 | exact st20))))
  | ((with_reducible refine' e_ktup ?k1 ?k2 ?_); (case k1 => exact rfl); (case k2 => exact rfl))
  | ((with_reducible refine' e_kix ?k1 ?k2 ?k3 ?_); (case k1 => exact rfl); (case k2 => exact rfl); (case k3 => exact rfl))
  | ((with_reducible refine' e_vn ?k1 ?_); (case k1 => exact rfl))
  | ((with_reducible refine' e_varL ?k1 ?k2 ?_); (case k1 => exact rfl); (case k2 => (with_reducible (first | exact st0 | exact st1 | exact st2 | exact st3 | exact st4 | exact st5 | exact st6 | exact st7 | exact st8 | exact st9 | exact st10 | exact st11 | exact st12 | exact st13 | exact st14 | exact st15 | exact st16 | exact st17 | exact st18 | exact st19 | exact st20))))
  | ((with_reducible refine' e_app ?k1 ?_); (case k1 => exact rfl))
  | ((with_reducible refine' e_kapp ?k1 ?k2 ?k3 ?_); (case k1 => exact rfl); (case k2 => (simp only [List.length_append, List.length_map, List.length_cons, List.length_nil]; omega)); (case k3 => (with_reducible (first | exact st0 | exact st1 | exact st2 | exact st3 | exact st4 | exact st5 | exact st6 | exact st7 | exact st8 | exact st9 | exact st10 | exact st11 | exact st12 | exact st13 | exact st14 | exact st15 | exact st16 | exact st17 | exact st18 | exact st19 | exact st20))))
  | ((with_reducible refine' e_ksetF ?k1 ?k2 ?_); (case k1 => exact rfl); (case k2 => (with_reducible (first | exact st0 | exact st1 | exact st2 | exact st3 | exact st4 | exact st5 | exact st6 | exact st7 | exact st8 | exact st9 | exact st10 | exact st11 | exact st12 | exact st13 | exact st14 | exact st15 | exact st16 | exact st17 | exact st18 | exact st19 | exact st20))))
  | ((with_reducible refine' e_klen ?k1 ?k2 ?_); (case k1 => exact rfl); (case k2 => exact rfl))
  | ((with_reducible refine' e_klst ?k1 ?k2 ?_); (case k1 => exact rfl); (case k2 => exact rfl))
  | ((with_reducible refine' e_gtup ?k1 ?_); (case k1 => exact rfl))
  | ((with_reducible refine' e_gN ?k1 ?k2 ?_); (case k1 => exact rfl); (case k2 => (with_reducible (first | exact st0 | exact st1 | exact st2 | exact st3 | exact st4 | exact st5 | exact st6 | exact st7 | exact st8 | exact st9 | exact st10 | exact st11 | exact st12 | exact st13 | exact st14 | exact st15 | exact st16 | exact st17 | exact st18 | exact st19 | exact st20))))
  | ((with_reducible refine' e_varT ?k1 ?k2 ?_); (case k1 => exact rfl); (case k2 => (with_reducible (first | exact st0 | exact st1 | exact st2 | exact st3 | exact st4 | exact st5 | exact st6 | exact st7 | exact st8 | exact st9 | exact st10 | exact st11 | exact st12 | exact st13 | exact st14 | exact st15 | exact st16 | exact st17 | exact st18 | exact st19 | exact st20))))
  | ((with_reducible refine' e_mulR ?k1 ?k2 ?_); (case k1 => omega); (case k2 => omega))
  | ((with_reducible refine' e_mulL ?k1 ?k2 ?_); (case k1 => omega); (case k2 => omega))
  | ((with_reducible refine' e_div ?k1 ?k2 ?_); (case k1 => omega); (case k2 => omega))
  | ((with_reducible refine' e_mod ?k1 ?_); (case k1 => omega))
  | ((with_reducible refine' e_retN ?k1 ?_); (case k1 => exact rfl))
  | ((with_reducible refine' e_retNO ?k1 ?k2 ?_); (case k1 => exact rfl); (case k2 => (with_reducible (first | exact st0 | exact st1 | exact st2 | exact st3 | exact st4 | exact st5 | exact st6 | exact st7 | exact st8 | exact st9 | exact st10 | exact st11 | exact st12 | exact st13 | exact st14 | exact st15 | exact st16 | exact st17 | exact st18 | exact st19 | exact st20))))
  | ((with_reducible refine' e_setIx1 ?k1 ?_); (case k1 => exact rfl))
  | ((with_reducible refine' e_ksetIx ?k1 ?k2 ?k3 ?_); (case k1 => exact rfl); (case k2 => exact rfl); (case k3 => (with_reducible (first | exact st0 | exact st1 | exact st2 | exact st3 | exact st4 | exact st5 | exact st6 | exact st7 | exact st8 | exact st9 | exact st10 | exact st11 | exact st12 | exact st13 | exact st14 | exact st15 | exact st16 | exact st17 | exact st18 | exact st19 | exact st20))))
  | ((with_reducible refine' e_kpar ?k1 ?k2 ?k3 ?_); (case k1 => exact rfl); (case k2 => exact rfl); (case k3 => (repeat (first | exact set_0 | apply set_s))))
  | ((with_reducible refine' e_aug ?k1 ?_); (case k1 => exact rfl))
  | ((with_reducible refine' e_kaug ?k1 ?k2 ?_); (case k1 => exact rfl); (case k2 => (with_reducible (first | exact st0 | exact st1 | exact st2 | exact st3 | exact st4 | exact st5 | exact st6 | exact st7 | exact st8 | exact st9 | exact st10 | exact st11 | exact st12 | exact st13 | exact st14 | exact st15 | exact st16 | exact st17 | exact st18 | exact st19 | exact st20))))
  | ((with_reducible refine' e_kslT ?k1 ?_); (case k1 => exact rfl))
  | ((with_reducible refine' e_kslL ?k1 ?_); (case k1 => exact rfl))
  | ((with_reducible refine' e_ksum ?k1 ?_); (case k1 => exact rfl))
  | ((with_reducible refine' e_ktupOf ?k1 ?k2 ?_); (case k1 => exact rfl); (case k2 => exact rfl))
  | ((with_reducible refine' e_klstOf ?k1 ?k2 ?_); (case k1 => exact rfl); (case k2 => exact rfl))
  | ((with_reducible refine' e_kisi ?k1 ?k2 ?k3 ?_); (case k1 => exact rfl); (case k2 => exact rfl); (case k3 => (first | exact ks_ii | exact ks_ib | exact ks_bi | exact ks_bb | exact ks_ni | exact ks_nb | exact ks_tt | exact ks_lt | exact ks_it | exact ks_nt | exact ks_ti | exact ks_si)))
  | ((with_reducible refine' e_kR1 ?k1 ?k2 ?_); (case k1 => omega); (case k2 => omega))
  | ((with_reducible refine' e_kR2 ?k1 ?_); (case k1 => omega))
  ))
local macro_rules | `(tactic| walk_at "wk0") => `(tactic| (unfold endsF; (with_reducible refine' st_rho ?k1 ?_); (case k1 => repeat (first | exact rh_0 | (with_reducible apply rh_m) | (with_reducible apply rh_n) | apply rh_s))))
local macro_rules | `(tactic| walk_at "set") => `(tactic| with_reducible (first | exact st0 | exact st1 | exact st2 | exact st3 | exact st4 | exact st5 | exact st6 | exact st7 | exact st8 | exact st9 | exact st10 | exact st11 | exact st12 | exact st13 | exact st14 | exact st15 | exact st16 | exact st17 | exact st18 | exact st19 | exact st20))
abbrev s_law_cheapest : Stmt := topS 25
abbrev n_law_cheapest : List Str := ["arcs", "told", "arc", "pair"]
theorem sc_law_cheapest : FnScope ["arcs", "told", "arc", "pair"] ["arcs"] (defScope s_law_cheapest) := ⟨rfl, rfl, rfl, by decide +kernel, rfl, by decide +kernel, by decide +kernel⟩
theorem bi_law_cheapest : BindOk "_law_cheapest" s_law_cheapest ["arcs"] := fun _ _ _ _ _ _ us hl => match us, hl with | [_], _ => rfl
/-- the least cost of an arc from u to v -/
def cheap (arcs : List Arc) (u v : Nat) : Option Int := if costsUV arcs u v = [] then none else some (lmin (costsUV arcs u v))
def kUV (u v : Nat) : List Key := [.inl (u : Int), .inl (v : Int)]
def IsCheap (arcs : List Arc) (kvs : List (List Key × Dt)) : Prop := (∀ u v, dget kvs (kUV u v) = (cheap arcs u v).map Dt.int) ∧ kvs.length ≤ arcs.length
def frCheap : FR := ⟨List Arc, fun a => [.dat (arcsD a)], fun a => a.length ≤ 4000, fun a r os => os = [] ∧ ∃ kvs, r = .own (.dT kvs) ∧ IsCheap a kvs⟩
theorem lmin_app {x : Int} : ∀ {xs : List Int}, xs ≠ [] → lmin (xs ++ [x]) = if x < lmin xs then x else lmin xs
  | [], h => absurd rfl h
  | [y], _ => by
    show min y x = _
    unfold lmin
    split <;> omega
  | y :: z :: r, _ => by
    have ih := lmin_app (x := x) (xs := z :: r) (by simp)
    have e : lmin (y :: z :: r ++ [x]) = min y (lmin (z :: r ++ [x])) := rfl
    have e2 : lmin (y :: z :: r) = min y (lmin (z :: r)) := rfl
    rw [e, e2, ih]
    split <;> split <;> omega
theorem costs_app {arcs : List Arc} {a : Arc} {u v : Nat} : costsUV (arcs ++ [a]) u v = if a.1 = u ∧ a.2.1 = v then costsUV arcs u v ++ [a.2.2] else costsUV arcs u v := by
  unfold costsUV
  rw [List.filter_append, List.map_append]
  by_cases h : a.1 = u ∧ a.2.1 = v
  · rw [if_pos h, List.filter_cons, decide_eq_true h.1, decide_eq_true h.2]
    rfl
  · rw [if_neg h, List.filter_cons]
    have : (decide (a.1 = u) && decide (a.2.1 = v)) = false := by
      rw [Bool.and_eq_false_iff, decide_eq_false_iff_not, decide_eq_false_iff_not]
      by_cases h1 : a.1 = u
      · exact .inr fun h2 => h ⟨h1, h2⟩
      · exact .inl h1
    rw [this]
    simp
theorem cheap_app {arcs : List Arc} {a : Arc} {u v : Nat} : cheap (arcs ++ [a]) u v = if a.1 = u ∧ a.2.1 = v then (match cheap arcs u v with | none => some a.2.2 | some w => if a.2.2 < w then some a.2.2 else some w) else cheap arcs u v := by
  unfold cheap
  rw [costs_app]
  by_cases h : a.1 = u ∧ a.2.1 = v
  · rw [if_pos h, if_pos h, if_neg (by simp)]
    by_cases h2 : costsUV arcs u v = []
    · rw [if_pos h2, h2]
      rfl
    · rw [if_neg h2, lmin_app h2]
      dsimp only
      split <;> rfl
  · rw [if_neg h, if_neg h]
theorem kUV_inj {u v u' v' : Nat} : kUV u v = kUV u' v' ↔ u = u' ∧ v = v' := by
  constructor
  · intro h
    unfold kUV at h
    injection h with h1 h2
    injection h2 with h2 _
    have h1 := Sum.inl.inj h1
    have h2 := Sum.inl.inj h2
    omega
  · rintro ⟨rfl, rfl⟩
    rfl
theorem cheap_put {arcs : List Arc} {u v : Nat} {c : Int} {kvs : List (List Key × Dt)} (h : IsCheap arcs kvs) (hc : cheap (arcs ++ [(u, v, c)]) u v = some c) : IsCheap (arcs ++ [(u, v, c)]) (dput kvs (kUV u v) (.int c)) := by
  refine ⟨fun u' v' => ?_, ?_⟩
  · rw [dget_put]
    by_cases e : kUV u' v' = kUV u v
    · rw [if_pos e]
      obtain ⟨rfl, rfl⟩ := kUV_inj.mp e
      rw [hc]
      rfl
    · rw [if_neg e, h.1, cheap_app, if_neg]
      rintro ⟨h1, h2⟩
      exact e (kUV_inj.mpr ⟨h1.symm, h2.symm⟩)
  · have := dput_len kvs (kUV u v) (Dt.int c)
    have := h.2
    rw [List.length_append, List.length_singleton]
    omega
theorem cheap_keep {arcs : List Arc} {u v : Nat} {c : Int} {kvs : List (List Key × Dt)} (h : IsCheap arcs kvs) (hc : cheap (arcs ++ [(u, v, c)]) u v = cheap arcs u v) : IsCheap (arcs ++ [(u, v, c)]) kvs := by
  refine ⟨fun u' v' => ?_, ?_⟩
  · rw [h.1]
    by_cases e : u = u' ∧ v = v'
    · obtain ⟨rfl, rfl⟩ := e
      rw [hc]
    · rw [cheap_app, if_neg e]
  · have := h.2
    rw [List.length_append]
    omega
theorem e_ifnSo {α β : Type} {f : α → β} {o : Option α} {A B : Prop} (q1 : o = none → A) (q2 : ∀ c, o = some c → B) : if (!(o.map f).isSome) = true then A else B := by
  cases o with
  | none => exact q1 rfl
  | some c => exact q2 c rfl
theorem e_ifSo {α β : Type} {f : α → β} {o : Option α} {A B : Prop} (q1 : ∀ c, o = some c → A) (q2 : o = none → B) : if (o.map f).isSome = true then A else B := by
  cases o with
  | none => exact q2 rfl
  | some c => exact q1 c rfl
section
variable {P : Program} {w : World} {K : PySem.W.Frag} {mg : Str → Option Value} {base : Heap}
theorem ok_cheap (D : Df K mg "_law_cheapest" s_law_cheapest) (B : Bi mg) : Cal P w K mg base 1 "_law_cheapest" 1 frCheap.sp := by
  refine cal_of D sc_law_cheapest bi_law_cheapest fun f cdv A outer s H E hr => ⟨_, _, (ps_cons' (ps_setF' 1 sc_law_cheapest.nd pf_dnew)
      (ps_cons' (ps_for' PassesOwn.never rfl (pi_tup' (pd_var 0)) (pg_name' 2 sc_law_cheapest.nd)
       (ps_cons' (ps_set' 3 sc_law_cheapest.nd (pd_tup (pa_cons' (pd_ix (pv_name 2) pd_int) (pa_cons' (pd_ix (pv_name 2) pd_int) pa_nil'))))
        (ps_one' (ps_if' (PDW.pdt (pdw_or (PCm.pdt (c_dnotin (hu_of hr) (pd_var 3) (pv_name 1))) (pdw_or1 (PCm.pdt (c_lt (pd_ix (pv_name 2) pd_int) (pd_dget (hu_of hr) (pv_name 1) (pd_var 3)))))))
         (ps_one' (ps_setKey 1 (hu_of hr) (pd_ix (pv_name 2) pd_int) (pd_var 3)))
         ps_nil'))))
      (ps_one' (ps_retN' 1)))), ?_⟩
  rintro es P' Ex ρ0 hl ⟨(arcs : List Arc), rfl, hn, hp⟩ rfl
  dsimp only [frCheap] at hn hp
  dsimp only [frCheap]
  walk_at "wk0"
  walk_at "wk"
  refine e_kT (xs := arcs.map arcD) ?_
  walk_at "wk"
  refine e_forI [2, 3] (fun i ρ => ∃ kvs, ρ = [some (.dat (arcsD arcs)), some (.own false (.dT kvs)), none, none] ∧ IsCheap (arcs.take i) kvs) ⟨[], rfl, fun u v => rfl, Nat.le_refl _⟩ (fun i x ρ2 hi hI => ?_) (fun ρ2 hI => ?_)
  · obtain ⟨kvs, rfl, hI⟩ := hI
    obtain ⟨⟨u, v, c⟩, ha, rfl⟩ := map_get hi
    have et : arcs.take (i + 1) = arcs.take i ++ [(u, v, c)] := by rw [List.take_add_one, ha]; rfl
    have hkl : kvs.length ≤ 4000 := by
      have := hI.2
      rw [List.length_take] at this
      omega
    rw [et]
    walk_at "wk"
    refine e_kdnotin rfl (k := kUV u v) rfl ?_
    rw [hI.1]
    walk_at "wk"
    refine e_ifnSo (fun hc => ?_) (fun w0 hc => ?_)
    · walk_at "wk"
      refine e_ksetK rfl (k := kUV u v) rfl (by omega) (by walk_at "set") ?_
      refine ⟨_, rfl, cheap_put hI ?_⟩
      rw [cheap_app, if_pos ⟨rfl, rfl⟩, hc]
    · walk_at "wk"
      refine e_kdget rfl (k := kUV u v) rfl (by rw [hI.1, hc]; rfl) ?_
      walk_at "wk"
      refine e_ifd (fun h1 => ?_) (fun h1 => ?_)
      · walk_at "wk"
        refine e_ksetK rfl (k := kUV u v) rfl (by omega) (by walk_at "set") ?_
        refine ⟨_, rfl, cheap_put hI ?_⟩
        rw [cheap_app, if_pos ⟨rfl, rfl⟩, hc]
        dsimp only
        rw [if_pos h1]
      · walk_at "wk"
        refine ⟨_, rfl, cheap_keep hI ?_⟩
        rw [cheap_app, if_pos ⟨rfl, rfl⟩, hc]
        dsimp only
        rw [if_neg h1]
  · obtain ⟨kvs, rfl, hI⟩ := hI
    rw [List.length_map, List.take_length] at hI
    walk_at "wk"
    exact e_fin rfl (hp _ _ ⟨rfl, kvs, rfl, hI⟩)
end
end K85
namespace K85
open PySem PySem.Spec PyProof.Rows L2 Wk
local macro_rules | `(tactic| walk_at "wk") => `(tactic| repeat (first
  | apply_rules -symm -exfalso (transparency := .reducible) (maxDepth := 100000) only [@e_seq, @e_c, @e_ix, @e_set, @e_op, @e_I2, @e_fI0, @e_ifS, @e_tst, @e_ktst, @e_ift, @e_iff, @e_ifnt, @e_ifnf, @e_ret, @e_retF, @e_acons, @e_anil, @e_alend, @e_tup, @e_int, @e_kint, @e_vd, @e_setIx, @e_toL, @e_toT, @e_callD, @e_toD, @e_toDo, @e_callF, @e_kown, @e_frz, @e_len, @e_setF, @e_lst, @e_and, @e_or, @e_not, @e_andV, @e_orV, @e_notV, @e_kandV, @e_korV, @e_knotV, @e_ifE, @e_is, @e_isnot, @e_neg, @e_kneg, @e_par, @e_asg, @e_gnil, @e_gcons, @e_slT, @e_slL, @e_nopart, @e_part, @e_kpart, @e_sum, @e_min, @e_max, @e_abs, @e_kabs, @e_MM, @e_kMM, @e_tupOf, @e_lstOf, @e_isi, @e_inI, @e_dget, @e_din, @e_dnew, @e_catT, @e_catL, @e_index, @e_eq, @e_chain, @e_kchain, @e_kchain2, @e_drop, @e_next, @e_brk, @e_cnt, @e_retnon, @e_setK, @e_iL, @e_kL, @e_iT, @e_kT, @e_iR1, @e_iR2, @e_for, @e_yes, @e_lc, @e_raise, @e_try, @e_isX, @e_xf]
  | ((with_reducible refine' e_var ?k1 ?_); (case k1 => exact rfl))
  | ((with_reducible refine' e_kset ?k1 ?k2 ?_); (case k1 => exact rfl); (case k2 => (with_reducible (first | exact st0 | exact st1 | exact st2 | exact st3 | exact st4 | exact st5 | exact st6 | exact st7 | exact st8 | exact st9 | exact st10 | exact st11 | exact st12 | exact st13 | exact st14 | exact st15 | exact st16 | exact st17 | exact st18 | exact st19 | exact st20))))
  | ((with_reducible refine' e_ktup ?k1 ?k2 ?_); (case k1 => exact rfl); (case k2 => exact rfl))
  | ((with_reducible refine' e_kix ?k1 ?k2 ?k3 ?_); (case k1 => exact rfl); (case k2 => exact rfl); (case k3 => exact rfl))
  | ((with_reducible refine' e_vn ?k1 ?_); (case k1 => exact rfl))
  | ((with_reducible refine' e_varL ?k1 ?k2 ?_); (case k1 => exact rfl); (case k2 => (with_reducible (first | exact st0 | exact st1 | exact st2 | exact st3 | exact st4 | exact st5 | exact st6 | exact st7 | exact st8 | exact st9 | exact st10 | exact st11 | exact st12 | exact st13 | exact st14 | exact st15 | exact st16 | exact st17 | exact st18 | exact st19 | exact st20))))
  | ((with_reducible refine' e_app ?k1 ?_); (case k1 => exact rfl))
  | ((with_reducible refine' e_kapp ?k1 ?k2 ?k3 ?_); (case k1 => exact rfl); (case k2 => (simp only [List.length_append, List.length_map, List.length_cons, List.length_nil]; omega)); (case k3 => (with_reducible (first | exact st0 | exact st1 | exact st2 | exact st3 | exact st4 | exact st5 | exact st6 | exact st7 | exact st8 | exact st9 | exact st10 | exact st11 | exact st12 | exact st13 | exact st14 | exact st15 | exact st16 | exact st17 | exact st18 | exact st19 | exact st20))))
  | ((with_reducible refine' e_ksetF ?k1 ?k2 ?_); (case k1 => exact rfl); (case k2 => (with_reducible (first | exact st0 | exact st1 | exact st2 | exact st3 | exact st4 | exact st5 | exact st6 | exact st7 | exact st8 | exact st9 | exact st10 | exact st11 | exact st12 | exact st13 | exact st14 | exact st15 | exact st16 | exact st17 | exact st18 | exact st19 | exact st20))))
  | ((with_reducible refine' e_klen ?k1 ?k2 ?_); (case k1 => exact rfl); (case k2 => exact rfl))
  | ((with_reducible refine' e_klst ?k1 ?k2 ?_); (case k1 => exact rfl); (case k2 => exact rfl))
  | ((with_reducible refine' e_gtup ?k1 ?_); (case k1 => exact rfl))
  | ((with_reducible refine' e_gN ?k1 ?k2 ?_); (case k1 => exact rfl); (case k2 => (with_reducible (first | exact st0 | exact st1 | exact st2 | exact st3 | exact st4 | exact st5 | exact st6 | exact st7 | exact st8 | exact st9 | exact st10 | exact st11 | exact st12 | exact st13 | exact st14 | exact st15 | exact st16 | exact st17 | exact st18 | exact st19 | exact st20))))
  | ((with_reducible refine' e_varT ?k1 ?k2 ?_); (case k1 => exact rfl); (case k2 => (with_reducible (first | exact st0 | exact st1 | exact st2 | exact st3 | exact st4 | exact st5 | exact st6 | exact st7 | exact st8 | exact st9 | exact st10 | exact st11 | exact st12 | exact st13 | exact st14 | exact st15 | exact st16 | exact st17 | exact st18 | exact st19 | exact st20))))
  | ((with_reducible refine' e_mulR ?k1 ?k2 ?_); (case k1 => omega); (case k2 => omega))
  | ((with_reducible refine' e_mulL ?k1 ?k2 ?_); (case k1 => omega); (case k2 => omega))
  | ((with_reducible refine' e_div ?k1 ?k2 ?_); (case k1 => omega); (case k2 => omega))
  | ((with_reducible refine' e_mod ?k1 ?_); (case k1 => omega))
  | ((with_reducible refine' e_retN ?k1 ?_); (case k1 => exact rfl))
  | ((with_reducible refine' e_retNO ?k1 ?k2 ?_); (case k1 => exact rfl); (case k2 => (with_reducible (first | exact st0 | exact st1 | exact st2 | exact st3 | exact st4 | exact st5 | exact st6 | exact st7 | exact st8 | exact st9 | exact st10 | exact st11 | exact st12 | exact st13 | exact st14 | exact st15 | exact st16 | exact st17 | exact st18 | exact st19 | exact st20))))
  | ((with_reducible refine' e_setIx1 ?k1 ?_); (case k1 => exact rfl))
  | ((with_reducible refine' e_ksetIx ?k1 ?k2 ?k3 ?_); (case k1 => exact rfl); (case k2 => exact rfl); (case k3 => (with_reducible (first | exact st0 | exact st1 | exact st2 | exact st3 | exact st4 | exact st5 | exact st6 | exact st7 | exact st8 | exact st9 | exact st10 | exact st11 | exact st12 | exact st13 | exact st14 | exact st15 | exact st16 | exact st17 | exact st18 | exact st19 | exact st20))))
  | ((with_reducible refine' e_kpar ?k1 ?k2 ?k3 ?_); (case k1 => exact rfl); (case k2 => exact rfl); (case k3 => (repeat (first | exact set_0 | apply set_s))))
  | ((with_reducible refine' e_aug ?k1 ?_); (case k1 => exact rfl))
  | ((with_reducible refine' e_kaug ?k1 ?k2 ?_); (case k1 => exact rfl); (case k2 => (with_reducible (first | exact st0 | exact st1 | exact st2 | exact st3 | exact st4 | exact st5 | exact st6 | exact st7 | exact st8 | exact st9 | exact st10 | exact st11 | exact st12 | exact st13 | exact st14 | exact st15 | exact st16 | exact st17 | exact st18 | exact st19 | exact st20))))
  | ((with_reducible refine' e_kslT ?k1 ?_); (case k1 => exact rfl))
  | ((with_reducible refine' e_kslL ?k1 ?_); (case k1 => exact rfl))
  | ((with_reducible refine' e_ksum ?k1 ?_); (case k1 => exact rfl))
  | ((with_reducible refine' e_ktupOf ?k1 ?k2 ?_); (case k1 => exact rfl); (case k2 => exact rfl))
  | ((with_reducible refine' e_klstOf ?k1 ?k2 ?_); (case k1 => exact rfl); (case k2 => exact rfl))
  | ((with_reducible refine' e_kisi ?k1 ?k2 ?k3 ?_); (case k1 => exact rfl); (case k2 => exact rfl); (case k3 => (first | exact ks_ii | exact ks_ib | exact ks_bi | exact ks_bb | exact ks_ni | exact ks_nb | exact ks_tt | exact ks_lt | exact ks_it | exact ks_nt | exact ks_ti | exact ks_si)))
  | ((with_reducible refine' e_kR1 ?k1 ?k2 ?_); (case k1 => omega); (case k2 => omega))
  | ((with_reducible refine' e_kR2 ?k1 ?_); (case k1 => omega))
  ))
local macro_rules | `(tactic| walk_at "wk0") => `(tactic| (unfold endsF; (with_reducible refine' st_rho ?k1 ?_); (case k1 => repeat (first | exact rh_0 | (with_reducible apply rh_m) | (with_reducible apply rh_n) | apply rh_s))))
local macro_rules | `(tactic| walk_at "set") => `(tactic| with_reducible (first | exact st0 | exact st1 | exact st2 | exact st3 | exact st4 | exact st5 | exact st6 | exact st7 | exact st8 | exact st9 | exact st10 | exact st11 | exact st12 | exact st13 | exact st14 | exact st15 | exact st16 | exact st17 | exact st18 | exact st19 | exact st20))
abbrev s_law_lowest : Stmt := topS 31
abbrev n_law_lowest : List Str := ["number", "size", "part", "one"]
theorem sc_law_lowest : FnScope ["number", "size", "part", "one"] ["number", "size"] (defScope s_law_lowest) := ⟨rfl, rfl, rfl, by decide +kernel, rfl, by decide +kernel, by decide +kernel⟩
theorem bi_law_lowest : BindOk "_law_lowest" s_law_lowest ["number", "size"] := fun _ _ _ _ _ _ us hl => match us, hl with | [_, _], _ => rfl
abbrev s_law_least : Stmt := topS 30
abbrev n_law_least : List Str := ["rounds", "best", "one"]
theorem sc_law_least : FnScope ["rounds", "best", "one"] ["rounds"] (defScope s_law_least) := ⟨rfl, rfl, rfl, by decide +kernel, rfl, by decide +kernel, by decide +kernel⟩
theorem bi_law_least : BindOk "_law_least" s_law_least ["rounds"] := fun _ _ _ _ _ _ us hl => match us, hl with | [_], _ => rfl
theorem rng2_get {lo : Int} {n i : Nat} {x : Dt} (h : (rngD lo n)[i]? = some x) : i < n ∧ x = .int (lo + (i : Int)) := by
  have hi : i < n := by
    by_cases hi : i < n
    · exact hi
    · rw [List.getElem?_eq_none (by rw [rngD_len]; omega)] at h
      cases h
  rw [rngD_get hi] at h
  cases h
  exact ⟨hi, rfl⟩
theorem gcd_is {p q g : Int} (hq : 0 < q) (h0 : 1 ≤ g) (h1 : g ∣ p) (h2 : g ∣ q) (h3 : ∀ d : Int, 2 ≤ d → d ≤ q → d ∣ p → d ∣ q → d ≤ g) : (Int.gcd p q : Int) = g := by
  have a0 := gcd_pos (p := p) hq
  have a1 := gcd_le (p := p) hq
  have d1 : g ∣ (Int.gcd p q : Int) := Int.dvd_coe_gcd h1 h2
  have d2 := Int.le_of_dvd a0 d1
  by_cases h : 2 ≤ (Int.gcd p q : Int)
  · have := h3 _ h a1 (Int.gcd_dvd_left _ _) (Int.gcd_dvd_right _ _)
    omega
  · omega
/-- a round: cost, number of arcs, nodes -/
abbrev Rnd := Int × Nat × List Nat
def rndD (r : Rnd) : Dt := .tup [.int r.1, .int (r.2.1 : Int), nodesD r.2.2]
def optR : Option Rnd → Dt
  | none => .non
  | some r => rndD r
def least1 (b : Option Rnd) (r : Rnd) : Option Rnd := match b with
  | none => some r
  | some b => if r.1 * (b.2.1 : Int) < b.1 * (r.2.1 : Int) then some r else some b
def leastR (rs : List Rnd) : Option Rnd := rs.foldl least1 none
def rndsD (rs : List Rnd) : Dt := .lst (rs.map rndD)
def fsLeastR : FS := ⟨List Rnd, fun a => [.dat (rndsD a)], fun a => ∀ r ∈ a, r.2.1 ≤ 100000, fun a => .dat (optR (leastR a)), fun _ => []⟩
theorem least_mem {rs : List Rnd} {r : Rnd} (h : leastR rs = some r) : r ∈ rs := by
  have key : ∀ (l : List Rnd) (b : Option Rnd), l.foldl least1 b = some r → b = some r ∨ r ∈ l := by
    intro l
    induction l with
    | nil => intro b h; exact .inl h
    | cons x l ih =>
      intro b h
      rw [List.foldl_cons] at h
      rcases ih _ h with e | e
      · unfold least1 at e
        split at e
        · cases e; exact .inr List.mem_cons_self
        · split at e
          · cases e; exact .inr List.mem_cons_self
          · exact .inl e
      · exact .inr (List.mem_cons_of_mem _ e)
  rcases key rs none h with e | e
  · cases e
  · exact e
theorem isN_optR (o : Option Rnd) {A B : Prop} (q1 : o = none → A) (q2 : ∀ c, o = some c → B) : if isN (optR o) = true then A else B := by
  cases o with
  | none => exact q1 rfl
  | some c => exact q2 c rfl
def fsLowL : FS := ⟨Int × Int, fun a => [.dat (.int a.1), .dat (.int a.2)], fun a => 0 < a.2 ∧ a.2 < 1000000, fun a => .dat (fracD (lowF a)), fun _ => []⟩
section
variable {P : Program} {w : World} {K : PySem.W.Frag} {mg : Str → Option Value} {base : Heap}
theorem ok_lowL (D : Df K mg "_law_lowest" s_law_lowest) (B : Bi mg) : Cal P w K mg base 1 "_law_lowest" 2 fsLowL.sp := by
  refine cal_of D sc_law_lowest bi_law_lowest fun f cdv A outer s H E hr => ⟨_, _, (ps_cons' (ps_set' 2 sc_law_lowest.nd pd_int)
      (ps_cons' (ps_for' PassesOwn.never rfl (pi_range2' B.range pd_int (pd_add (pd_var 1) pd_int)) (pg_name' 3 sc_law_lowest.nd)
       (ps_one' (ps_if' (PDW.pdt (pdw_and (PCm.pdt (c_eqI (pd_mod (pd_toint B.int (pd_var 0)) (pd_var 3)) pd_int)) (pdw_and1 (PCm.pdt (c_eqI (pd_mod (pd_toint B.int (pd_var 1)) (pd_var 3)) pd_int)))))
         (ps_one' (ps_set' 2 sc_law_lowest.nd (pd_var 3)))
         ps_nil')))
      (ps_one' (ps_ret' (pd_tup (pa_cons' (pd_fdiv (pd_var 0) (pd_var 2)) (pa_cons' (pd_fdiv (pd_var 1) (pd_var 2)) pa_nil'))))))), ?_⟩
  rintro es P' Ex ρ0 hl ⟨⟨p, q⟩, rfl, ⟨h0, h1⟩, hp⟩ rfl
  dsimp only [fsLowL] at h0 h1 hp
  dsimp only [fsLowL]
  walk_at "wk0"
  walk_at "wk"
  refine e_forI [3] (fun i ρ => ∃ g : Int, ρ = [some (.dat (.int p)), some (.dat (.int q)), some (.dat (.int g)), none] ∧ 1 ≤ g ∧ g ∣ p ∧ g ∣ q ∧ ∀ d : Int, 2 ≤ d → d < 2 + i → d ∣ p → d ∣ q → d ≤ g) ⟨1, rfl, by omega, Int.one_dvd _, Int.one_dvd _, fun d h2 h3 => by omega⟩ (fun i x ρ2 hi hI => ?_) (fun ρ2 hI => ?_)
  · obtain ⟨g, rfl, g1, g2, g3, g4⟩ := hI
    obtain ⟨hil, rfl⟩ := rng2_get hi
    walk_at "wk"
    refine e_ifd (fun hc => ?_) (fun hc => ?_)
    · walk_at "wk"
      refine e_ifd (fun hc2 => ?_) (fun hc2 => ?_)
      · walk_at "wk"
        refine ⟨2 + i, rfl, by omega, Int.dvd_of_emod_eq_zero hc, Int.dvd_of_emod_eq_zero hc2, fun d k1 k2 _ _ => by omega⟩
      · walk_at "wk"
        refine ⟨g, rfl, g1, g2, g3, fun d k1 k2 k3 k4 => ?_⟩
        by_cases e : d = 2 + i
        · subst e
          exact absurd (Int.emod_eq_zero_of_dvd k4) hc2
        · exact g4 d k1 (by omega) k3 k4
    · walk_at "wk"
      refine ⟨g, rfl, g1, g2, g3, fun d k1 k2 k3 k4 => ?_⟩
      by_cases e : d = 2 + i
      · subst e
        exact absurd (Int.emod_eq_zero_of_dvd k3) hc
      · exact g4 d k1 (by omega) k3 k4
  · obtain ⟨g, rfl, g1, g2, g3, g4⟩ := hI
    rw [rngD_len] at g4
    have hg : (Int.gcd p q : Int) = g := gcd_is h0 g1 g2 g3 fun d k1 k2 => g4 d k1 (by omega)
    have := Int.le_of_dvd h0 g3
    walk_at "wk"
    refine e_fin rfl ?_
    have e : lowF (p, q) = (p / g, q / g) := by
      unfold lowF
      dsimp only
      rw [hg]
    rw [e] at hp
    exact hp
theorem ok_leastR (D : Df K mg "_law_least" s_law_least) (B : Bi mg) : Cal P w K mg base 1 "_law_least" 1 fsLeastR.sp := by
  refine cal_of D sc_law_least bi_law_least fun f cdv A outer s H E hr => ⟨_, _, (ps_cons' (ps_set' 1 sc_law_least.nd pd_non)
      (ps_cons' (ps_for' PassesOwn.never rfl (pi_list' (pd_var 0)) (pg_name' 2 sc_law_least.nd)
       (ps_one' (ps_if' (PDW.pdt (pdw_or (PCm.pdt (c_is (pd_var 1) pd_non)) (pdw_or1 (PCm.pdt (c_lt (pd_mul (pd_ix (pv_name 2) pd_int) (pd_ix (pv_name 1) pd_int)) (pd_mul (pd_ix (pv_name 1) pd_int) (pd_ix (pv_name 2) pd_int)))))))
         (ps_one' (ps_set' 1 sc_law_least.nd (pd_var 2)))
         ps_nil')))
      (ps_one' (ps_retN' 1)))), ?_⟩
  rintro es P' Ex ρ0 hl ⟨(rs : List Rnd), rfl, hn, hp⟩ rfl
  dsimp only [fsLeastR] at hn hp
  dsimp only [fsLeastR]
  walk_at "wk0"
  walk_at "wk"
  refine e_kL (xs := rs.map rndD) ?_
  walk_at "wk"
  refine e_forS [2] (fun i => [some (.dat (rndsD rs)), some (.dat (optR ((rs.take i).foldl least1 none))), none]) rfl (fun i x hi => ?_) ?_
  · obtain ⟨r, hr1, rfl⟩ := map_get hi
    have hrm := List.mem_of_getElem? hr1
    have hb := hn r hrm
    rw [fold_take hr1]
    have hbb : ∀ b, (rs.take i).foldl least1 none = some b → b.2.1 ≤ 100000 := fun b hb => hn b (List.mem_of_mem_take (least_mem (rs := rs.take i) hb))
    generalize (rs.take i).foldl least1 none = o at hbb ⊢
    walk_at "wk"
    refine isN_optR o (fun h1 => ?_) (fun b h1 => ?_)
    · subst h1
      walk_at "wk"
      rfl
    · subst h1
      have hb2 := hbb b rfl
      walk_at "wk"
      refine e_ifd (fun h2 => ?_) (fun h2 => ?_)
      · walk_at "wk"
        have e : least1 (some b) r = some r := by unfold least1; exact if_pos h2
        rw [e]
        rfl
      · walk_at "wk"
        have e : least1 (some b) r = some b := by unfold least1; exact if_neg h2
        rw [e]
        rfl
  · rw [List.length_map, List.take_length]
    walk_at "wk"
    exact e_fin rfl hp
end
end K85
namespace K85
open PySem PySem.Spec PyProof.Rows L2 Wk
local macro_rules | `(tactic| walk_at "wk") => `(tactic| repeat (first
  | apply_rules -symm -exfalso (transparency := .reducible) (maxDepth := 100000) only [@e_seq, @e_c, @e_ix, @e_set, @e_op, @e_I2, @e_fI0, @e_ifS, @e_tst, @e_ktst, @e_ift, @e_iff, @e_ifnt, @e_ifnf, @e_ret, @e_retF, @e_acons, @e_anil, @e_alend, @e_tup, @e_int, @e_kint, @e_vd, @e_setIx, @e_toL, @e_toT, @e_callD, @e_toD, @e_toDo, @e_callF, @e_kown, @e_frz, @e_len, @e_setF, @e_lst, @e_and, @e_or, @e_not, @e_andV, @e_orV, @e_notV, @e_kandV, @e_korV, @e_knotV, @e_ifE, @e_is, @e_isnot, @e_neg, @e_kneg, @e_par, @e_asg, @e_gnil, @e_gcons, @e_slT, @e_slL, @e_nopart, @e_part, @e_kpart, @e_sum, @e_min, @e_max, @e_abs, @e_kabs, @e_MM, @e_kMM, @e_tupOf, @e_lstOf, @e_isi, @e_inI, @e_dget, @e_din, @e_dnew, @e_catT, @e_catL, @e_index, @e_eq, @e_chain, @e_kchain, @e_kchain2, @e_drop, @e_next, @e_brk, @e_cnt, @e_retnon, @e_setK, @e_iL, @e_kL, @e_iT, @e_kT, @e_iR1, @e_iR2, @e_for, @e_yes, @e_lc, @e_raise, @e_try, @e_isX, @e_xf]
  | ((with_reducible refine' e_var ?k1 ?_); (case k1 => exact rfl))
  | ((with_reducible refine' e_kset ?k1 ?k2 ?_); (case k1 => exact rfl); (case k2 => (with_reducible (first | exact st0 | exact st1 | exact st2 | exact st3 | exact st4 | exact st5 | exact st6 | exact st7 | exact st8 | exact st9 | exact st10 | exact st11 | exact st12 | exact st13 | exact st14 | exact st15 | exact st16 | exact st17 | exact st18 | exact st19 | exact st20))))
  | ((with_reducible refine' e_ktup ?k1 ?k2 ?_); (case k1 => exact rfl); (case k2 => exact rfl))
  | ((with_reducible refine' e_kix ?k1 ?k2 ?k3 ?_); (case k1 => exact rfl); (case k2 => exact rfl); (case k3 => exact rfl))
  | ((with_reducible refine' e_vn ?k1 ?_); (case k1 => exact rfl))
  | ((with_reducible refine' e_varL ?k1 ?k2 ?_); (case k1 => exact rfl); (case k2 => (with_reducible (first | exact st0 | exact st1 | exact st2 | exact st3 | exact st4 | exact st5 | exact st6 | exact st7 | exact st8 | exact st9 | exact st10 | exact st11 | exact st12 | exact st13 | exact st14 | exact st15 | exact st16 | exact st17 | exact st18 | exact st19 | exact st20))))
  | ((with_reducible refine' e_app ?k1 ?_); (case k1 => exact rfl))
  | ((with_reducible refine' e_kapp ?k1 ?k2 ?k3 ?_); (case k1 => exact rfl); (case k2 => (simp only [List.length_append, List.length_map, List.length_cons, List.length_nil]; omega)); (case k3 => (with_reducible (first | exact st0 | exact st1 | exact st2 | exact st3 | exact st4 | exact st5 | exact st6 | exact st7 | exact st8 | exact st9 | exact st10 | exact st11 | exact st12 | exact st13 | exact st14 | exact st15 | exact st16 | exact st17 | exact st18 | exact st19 | exact st20))))
  | ((with_reducible refine' e_ksetF ?k1 ?k2 ?_); (case k1 => exact rfl); (case k2 => (with_reducible (first | exact st0 | exact st1 | exact st2 | exact st3 | exact st4 | exact st5 | exact st6 | exact st7 | exact st8 | exact st9 | exact st10 | exact st11 | exact st12 | exact st13 | exact st14 | exact st15 | exact st16 | exact st17 | exact st18 | exact st19 | exact st20))))
  | ((with_reducible refine' e_klen ?k1 ?k2 ?_); (case k1 => exact rfl); (case k2 => exact rfl))
  | ((with_reducible refine' e_klst ?k1 ?k2 ?_); (case k1 => exact rfl); (case k2 => exact rfl))
  | ((with_reducible refine' e_gtup ?k1 ?_); (case k1 => exact rfl))
  | ((with_reducible refine' e_gN ?k1 ?k2 ?_); (case k1 => exact rfl); (case k2 => (with_reducible (first | exact st0 | exact st1 | exact st2 | exact st3 | exact st4 | exact st5 | exact st6 | exact st7 | exact st8 | exact st9 | exact st10 | exact st11 | exact st12 | exact st13 | exact st14 | exact st15 | exact st16 | exact st17 | exact st18 | exact st19 | exact st20))))
  | ((with_reducible refine' e_varT ?k1 ?k2 ?_); (case k1 => exact rfl); (case k2 => (with_reducible (first | exact st0 | exact st1 | exact st2 | exact st3 | exact st4 | exact st5 | exact st6 | exact st7 | exact st8 | exact st9 | exact st10 | exact st11 | exact st12 | exact st13 | exact st14 | exact st15 | exact st16 | exact st17 | exact st18 | exact st19 | exact st20))))
  | ((with_reducible refine' e_mulR ?k1 ?k2 ?_); (case k1 => omega); (case k2 => omega))
  | ((with_reducible refine' e_mulL ?k1 ?k2 ?_); (case k1 => omega); (case k2 => omega))
  | ((with_reducible refine' e_div ?k1 ?k2 ?_); (case k1 => omega); (case k2 => omega))
  | ((with_reducible refine' e_mod ?k1 ?_); (case k1 => omega))
  | ((with_reducible refine' e_retN ?k1 ?_); (case k1 => exact rfl))
  | ((with_reducible refine' e_retNO ?k1 ?k2 ?_); (case k1 => exact rfl); (case k2 => (with_reducible (first | exact st0 | exact st1 | exact st2 | exact st3 | exact st4 | exact st5 | exact st6 | exact st7 | exact st8 | exact st9 | exact st10 | exact st11 | exact st12 | exact st13 | exact st14 | exact st15 | exact st16 | exact st17 | exact st18 | exact st19 | exact st20))))
  | ((with_reducible refine' e_setIx1 ?k1 ?_); (case k1 => exact rfl))
  | ((with_reducible refine' e_ksetIx ?k1 ?k2 ?k3 ?_); (case k1 => exact rfl); (case k2 => exact rfl); (case k3 => (with_reducible (first | exact st0 | exact st1 | exact st2 | exact st3 | exact st4 | exact st5 | exact st6 | exact st7 | exact st8 | exact st9 | exact st10 | exact st11 | exact st12 | exact st13 | exact st14 | exact st15 | exact st16 | exact st17 | exact st18 | exact st19 | exact st20))))
  | ((with_reducible refine' e_kpar ?k1 ?k2 ?k3 ?_); (case k1 => exact rfl); (case k2 => exact rfl); (case k3 => (repeat (first | exact set_0 | apply set_s))))
  | ((with_reducible refine' e_aug ?k1 ?_); (case k1 => exact rfl))
  | ((with_reducible refine' e_kaug ?k1 ?k2 ?_); (case k1 => exact rfl); (case k2 => (with_reducible (first | exact st0 | exact st1 | exact st2 | exact st3 | exact st4 | exact st5 | exact st6 | exact st7 | exact st8 | exact st9 | exact st10 | exact st11 | exact st12 | exact st13 | exact st14 | exact st15 | exact st16 | exact st17 | exact st18 | exact st19 | exact st20))))
  | ((with_reducible refine' e_kslT ?k1 ?_); (case k1 => exact rfl))
  | ((with_reducible refine' e_kslL ?k1 ?_); (case k1 => exact rfl))
  | ((with_reducible refine' e_ksum ?k1 ?_); (case k1 => exact rfl))
  | ((with_reducible refine' e_ktupOf ?k1 ?k2 ?_); (case k1 => exact rfl); (case k2 => exact rfl))
  | ((with_reducible refine' e_klstOf ?k1 ?k2 ?_); (case k1 => exact rfl); (case k2 => exact rfl))
  | ((with_reducible refine' e_kisi ?k1 ?k2 ?k3 ?_); (case k1 => exact rfl); (case k2 => exact rfl); (case k3 => (first | exact ks_ii | exact ks_ib | exact ks_bi | exact ks_bb | exact ks_ni | exact ks_nb | exact ks_tt | exact ks_lt | exact ks_it | exact ks_nt | exact ks_ti | exact ks_si)))
  | ((with_reducible refine' e_kR1 ?k1 ?k2 ?_); (case k1 => omega); (case k2 => omega))
  | ((with_reducible refine' e_kR2 ?k1 ?_); (case k1 => omega))
  ))
local macro_rules | `(tactic| walk_at "wk0") => `(tactic| (unfold endsF; (with_reducible refine' st_rho ?k1 ?_); (case k1 => repeat (first | exact rh_0 | (with_reducible apply rh_m) | (with_reducible apply rh_n) | apply rh_s))))
local macro_rules | `(tactic| walk_at "set") => `(tactic| with_reducible (first | exact st0 | exact st1 | exact st2 | exact st3 | exact st4 | exact st5 | exact st6 | exact st7 | exact st8 | exact st9 | exact st10 | exact st11 | exact st12 | exact st13 | exact st14 | exact st15 | exact st16 | exact st17 | exact st18 | exact st19 | exact st20))
abbrev s_law_potentials : Stmt := topS 32
abbrev n_law_potentials : List Str := ["many", "arcs", "mean", "told", "turn", "changed", "arc", "node", "limit", "one"]
theorem sc_law_potentials : FnScope ["many", "arcs", "mean", "told", "turn", "changed", "arc", "node", "limit", "one"] ["many", "arcs", "mean"] (defScope s_law_potentials) := ⟨rfl, rfl, rfl, by decide +kernel, rfl, by decide +kernel, by decide +kernel⟩
theorem bi_law_potentials : BindOk "_law_potentials" s_law_potentials ["many", "arcs", "mean"] := fun _ _ _ _ _ _ us hl => match us, hl with | [_, _, _], _ => rfl
abbrev s_law_whole : Stmt := topS 24
abbrev n_law_whole : List Str := ["value"]
theorem sc_law_whole : FnScope ["value"] ["value"] (defScope s_law_whole) := ⟨rfl, rfl, rfl, by decide +kernel, rfl, by decide +kernel, by decide +kernel⟩
theorem bi_law_whole : BindOk "_law_whole" s_law_whole ["value"] := fun _ _ _ _ _ _ us hl => match us, hl with | [_], _ => rfl
abbrev s_law_numbers : Stmt := topS 34
abbrev n_law_numbers : List Str := ["row", "one"]
theorem sc_law_numbers : FnScope ["row", "one"] ["row"] (defScope s_law_numbers) := ⟨rfl, rfl, rfl, by decide +kernel, rfl, by decide +kernel, by decide +kernel⟩
theorem bi_law_numbers : BindOk "_law_numbers" s_law_numbers ["row"] := fun _ _ _ _ _ _ us hl => match us, hl with | [_], _ => rfl
def swp (a : Arc) : Arc := (a.2.1, a.1, a.2.2)
def fsPotL : FS := ⟨(Nat × List Arc × Fc) × List Int, fun a => [.dat (.int a.1.1), .dat (arcsD a.1.2.1), .dat (fracD a.1.2.2)], fun a => okA a.1.1 a.1.2.1 ∧ a.1.1 ≤ 200 ∧ sm a.1.2.2.2 ∧ potF a.1.2.2 (a.1.2.1.map swp) a.1.1 (List.replicate a.1.1 0) = some a.2, fun a => .dat (intsD (a.2.map fun x => -x)), fun _ => []⟩
def numsB : Dt → Bool
  | .tup xs => xs.all isI
  | _ => false
def fsNums : FS := ⟨Dt, fun d => [.dat d], fun d => isScr d = false ∧ ∀ xs, d = .tup xs → xs.length ≤ 1000000 ∧ ∀ x ∈ xs, isScr x = false, fun d => .dat (.bl (numsB d)), fun _ => []⟩
section
variable {P : Program} {w : World} {K : PySem.W.Frag} {mg : Str → Option Value} {base : Heap}
theorem ok_potL (D : Df K mg "_law_potentials" s_law_potentials) (B : Bi mg) : Cal P w K mg base 1 "_law_potentials" 3 fsPotL.sp := by
  refine cal_of D sc_law_potentials bi_law_potentials fun f cdv A outer s H E hr => ⟨_, _, (ps_cons' (ps_setLc' 3 [("node", 7)] rfl sc_law_potentials.nd (pi_range1' B.range (pd_var 0)) (blkOk_by (N := n_law_potentials) (sc := defScope s_law_potentials) (by decide +kernel)) (fun _ _ _ _ _ => (pg_name' 7 sc_law_potentials.nd)) own_name (fun _ _ _ _ _ => pt_nil') (fun _ _ _ _ _ => pd_int))
      (ps_cons' (ps_for' PassesOwn.never rfl (pi_range1' B.range (pd_var 0)) (pg_name' 4 sc_law_potentials.nd)
       (ps_cons' (ps_set' 5 sc_law_potentials.nd pd_bl)
        (ps_cons' (ps_for' PassesOwn.never rfl (pi_tup' (pd_var 1)) (pg_name' 6 sc_law_potentials.nd)
         (ps_cons' (ps_set' 8 sc_law_potentials.nd (pd_sub (pd_add (pd_ix (pv_name 3) (pd_ix (pv_name 6) pd_int)) (pd_mul (pd_ix (pv_name 6) pd_int) (pd_ix (pv_name 2) pd_int))) (pd_ix (pv_name 2) pd_int)))
          (ps_one' (ps_if' (PCm.pdt (c_lt (pd_var 8) (pd_ix (pv_name 3) (pd_ix (pv_name 6) pd_int))))
           (ps_cons' (ps_setIx' 3 (pd_var 8) (pd_ix (pv_name 6) pd_int))
            (ps_one' (ps_set' 5 sc_law_potentials.nd pd_bl)))
           ps_nil'))))
        (ps_one' (ps_if' (pdt_not (pdt_val (pd_var 5)))
         (ps_one' ps_brk')
         ps_nil')))))
      (ps_one' (ps_ret' (pd_tupOf B.tuple (PD.pv (PF.pd (pf_lc [("one", 9)] rfl sc_law_potentials.nd (pi_list' (pd_var 3)) (blkOk_by (N := n_law_potentials) (sc := defScope s_law_potentials) (by decide +kernel)) (fun _ _ _ _ _ => (pg_name' 9 sc_law_potentials.nd)) own_name (fun _ _ _ _ _ => pt_nil') (fun _ _ _ _ _ => (pd_neg (pd_var 9))))))))))), ?_⟩
  rintro es P' Ex ρ0 hl ⟨⟨⟨n, arcs, m⟩, q⟩, rfl, ⟨hok, hn, hm, hpot⟩, hp⟩ rfl
  dsimp only [fsPotL] at hok hn hm hpot hp
  dsimp only [fsPotL]
  obtain ⟨hm1, hm2⟩ := id hm
  walk_at "wk0"
  walk_at "wk"
  rw [Int.toNat_natCast]
  refine e_lcM1 (List.range n) (fun k => .int (k : Int)) (fun _ => .int 0) (rngD_eq n) (by rw [List.length_range]; omega) rfl (by walk_at "set") (fun y hy K1 h1 => ?_) ?_
  · walk_at "wk"
    exact h1 _ rfl
  have e0 : (List.range n).map (fun _ => Dt.int 0) = (List.replicate n (0 : Int)).map Dt.int := by
    rw [List.map_replicate, List.map_const', List.length_range]
  rw [e0]
  walk_at "wk"
  rw [Int.toNat_natCast]
  refine e_forI [4, 5, 6, 8] (fun t ρ => ∃ told : List Int, ρ = [some (.dat (.int n)), some (.dat (arcsD arcs)), some (.dat (fracD m)), some (.own false (.lst (told.map Dt.int))), none, none, none, none, none, none] ∧ told.length = n ∧ potF m (arcs.map swp) (n - t) told = some q) ⟨_, rfl, List.length_replicate, hpot⟩ (fun t x ρ2 hx hI => ?_) (fun ρ2 hI => ?_)
  · obtain ⟨told, rfl, hlt, hpt⟩ := hI
    obtain ⟨ht, rfl⟩ := rng_get hx
    walk_at "wk"
    refine e_kT (xs := arcs.map arcD) ?_
    let S2 : Nat → Rho := fun j => [some (.dat (.int n)), some (.dat (arcsD arcs)), some (.dat (fracD m)), some (.own false (.lst ((((arcs.map swp).take j).foldl (bf1 m) (told, false)).1.map Dt.int))), some (.dat (.int t)), some (.dat (.bl (((arcs.map swp).take j).foldl (bf1 m) (told, false)).2)), none, none, none, none]
    refine e_forS [6, 8] S2 rfl (fun j x hx => ?_) ?_
    · obtain ⟨a, ha, rfl⟩ := map_get hx
      obtain ⟨hu, hv⟩ := hok _ (List.mem_of_getElem? ha)
      dsimp only [S2]
      have ha2 : (arcs.map swp)[j]? = some (swp a) := by rw [List.getElem?_map, ha]; rfl
      have la := bf_len (m := m) ((arcs.map swp).take j) (told, false)
      dsimp only at la
      rw [fold_take ha2]
      generalize ((arcs.map swp).take j).foldl (bf1 m) (told, false) = st at la ⊢
      obtain ⟨l0, b0⟩ := st
      dsimp only at la ⊢
      walk_at "wk"
      refine e_kix rfl rfl (atI_nat (geti (i := a.2.1) (by omega))) ?_
      walk_at "wk"
      refine e_kix rfl rfl (atI_nat (geti (i := a.1) (by omega))) ?_
      walk_at "wk"
      have es : l0.getD (swp a).1 0 + spareF (swp a) m = l0.getD a.2.1 0 + a.2.2 * m.2 - m.1 := by
        show l0.getD a.2.1 0 + (a.2.2 * m.2 - m.1) = _
        omega
      refine e_ifd (fun hc => ?_) (fun hc => ?_)
      · walk_at "wk"
        refine e_ksetIx rfl (ixN_nat (by rw [List.length_map]; omega)) (by walk_at "set") ?_
        walk_at "wk"
        have e : bf1 m (l0, b0) (swp a) = (l0.set a.1 (l0.getD a.2.1 0 + a.2.2 * m.2 - m.1), true) := by
          unfold bf1
          rw [es]
          exact if_pos hc
        rw [e, List.map_set]
        rfl
      · walk_at "wk"
        have e : bf1 m (l0, b0) (swp a) = (l0, b0) := by
          unfold bf1
          rw [es]
          exact if_neg hc
        rw [e]
        rfl
    · dsimp only [S2]
      rw [List.length_map, List.take_of_length_le (by rw [List.length_map]; exact Nat.le_refl _)]
      have hl2 := bf_len (m := m) (arcs.map swp) (told, false)
      have ep : (arcs.map swp).foldl (bf1 m) (told, false) = bfPass m (arcs.map swp) told := rfl
      rw [show n - t = (n - t - 1) + 1 by omega] at hpt
      unfold potF at hpt
      rw [ep] at hl2 ⊢
      walk_at "wk"
      refine e_ifnb (fun hc => ?_) (fun hc => ?_)
      · rw [if_neg (by rw [hc]; exact Bool.false_ne_true)] at hpt
        have hpt := Option.some.inj hpt
        walk_at "wk"
        rw [hpt]
        refine e_lcM1 q Dt.int (fun x => .int (-x)) rfl (by rw [← hpt, hl2]; dsimp only; omega) rfl (by walk_at "set") (fun y hy K1 h1 => ?_) ?_
        · walk_at "wk"
          exact h1 _ rfl
        walk_at "wk"
        refine e_fin rfl ?_
        have ed : intsD (q.map fun x => -x) = .tup (q.map fun x => Dt.int (-x)) := by
          unfold intsD
          rw [List.map_map]
          rfl
        rw [ed] at hp
        exact hp
      · rw [if_pos hc] at hpt
        walk_at "wk"
        exact ⟨_, rfl, by rw [hl2]; exact hlt, by rw [show n - (t + 1) = n - t - 1 by omega]; exact hpt⟩
  · obtain ⟨told, rfl, hlt, hpt⟩ := hI
    rw [rngD_len, Nat.sub_self] at hpt
    cases hpt
theorem ok_lwhole (D : Df K mg "_law_whole" s_law_whole) (B : Bi mg) : Cal P w K mg base 1 "_law_whole" 1 fsWhole.sp := by
  refine cal_of D sc_law_whole bi_law_whole fun f cdv A outer s H E hr => ⟨_, _, (ps_one' (ps_ret' (pd_and (pd_isi (T := "int") B.isinstance (pv_name 0) B.int (by decide +kernel)) (pd_one (pd_not (pd_isi (T := "bool") B.isinstance (pv_name 0) B.bool (by decide +kernel))))))), ?_⟩
  rintro es P' Ex ρ0 hl ⟨d, rfl, hd, hp⟩ rfl
  dsimp only [fsWhole] at hd hp
  dsimp only [fsWhole]
  obtain ⟨b, h1, h2, c, h3, h4⟩ := kit_int hd
  walk_at "wk0"
  walk_at "wk"
  refine e_kisi rfl hd h1 ?_
  walk_at "wk"
  refine e_ifb (fun hb => ?_) (fun hb => ?_)
  · walk_at "wk"
    refine e_kisi rfl hd h3 ?_
    walk_at "wk"
    refine e_fin rfl ?_
    rw [← h4 hb]
    exact hp
  · walk_at "wk"
    refine e_fin rfl ?_
    rw [← h2 hb]
    exact hp
theorem ok_nums (D : Df K mg "_law_numbers" s_law_numbers) (B : Bi mg) (c_law_whole : Cal P w K mg base 1 "_law_whole" 1 fsWhole.sp) : Cal P w K mg base 2 "_law_numbers" 1 fsNums.sp := by
  refine cal_of D sc_law_numbers bi_law_numbers fun f cdv A outer s H E hr => ⟨_, _, (ps_one' (ps_ret' (pd_and (pd_isi (T := "tuple") B.isinstance (pv_name 0) B.tuple (by decide +kernel)) (pd_one (PCm.pd (c_eqI (pd_len B.len (PD.pv (PF.pd (pf_lc [("one", 1)] rfl sc_law_numbers.nd (pi_tup' (pd_var 0)) (blkOk_by (N := n_law_numbers) (sc := defScope s_law_numbers) (by decide +kernel)) (fun _ _ _ _ _ => (pg_name' 1 sc_law_numbers.nd)) own_name (fun _ _ _ _ _ => (pt_one' (pdt_not (pdt_val (pd_cal c_law_whole (hr.mono (by decide)) (pa_cons' (pd_var 1) pa_nil')))))) (fun _ _ _ _ _ => (pd_var 1)))))) pd_int)))))), ?_⟩
  rintro es P' Ex ρ0 hl ⟨(d : Dt), rfl, ⟨hd, hx⟩, hp⟩ rfl
  dsimp only [fsNums] at hd hx hp
  dsimp only [fsNums]
  walk_at "wk0"
  walk_at "wk"
  refine e_kisi rfl hd (kit_tup hd) ?_
  walk_at "wk"
  refine e_ifb (fun ht => ?_) (fun ht => ?_)
  · obtain ⟨xs, rfl⟩ : ∃ xs, d = .tup xs := by
      cases d <;> first | exact ⟨_, rfl⟩ | cases ht
    obtain ⟨hxl, hxs⟩ := hx xs rfl
    walk_at "wk"
    refine e_lcK1 xs id (fun x => !isI x) id (List.map_id _).symm hxl rfl (by walk_at "set") (fun x hxm K1 K2 k1 k2 => ?_) ?_
    · dsimp only [id]
      walk_at "wk"
      refine call_whole rfl rfl (hxs x hxm) rfl ?_
      walk_at "wk"
      refine e_ifnb (fun hb => ?_) (fun hb => ?_)
      · walk_at "wk"
        exact k1 (by rw [hb]; rfl) _ rfl
      · exact k2 (by rw [hb]; rfl) _ rfl
    walk_at "wk"
    refine e_fin rfl ?_
    have e : numsB (.tup xs) = decide (((List.map id (xs.filter fun x => !isI x)).length : Int) = 0) := by
      show xs.all isI = _
      rw [List.map_id]
      by_cases h : xs.all isI = true
      · rw [h, eq_comm, decide_eq_true_eq]
        have : xs.filter (fun x => !isI x) = [] := List.filter_eq_nil_iff.mpr fun x hx => by
          rw [List.all_eq_true.mp h x hx]
          exact Bool.false_ne_true
        rw [this]
        rfl
      · rw [Bool.not_eq_true] at h
        rw [h, eq_comm, decide_eq_false_iff_not]
        intro z
        have z : xs.filter (fun x => !isI x) = [] := List.length_eq_zero_iff.mp (by omega)
        have : xs.all isI = true := List.all_eq_true.mpr fun x hx => by
          have := List.filter_eq_nil_iff.mp z x hx
          cases q : isI x with
          | true => rfl
          | false => rw [q] at this; exact absurd rfl this
        rw [this] at h
        cases h
    rw [← e]
    exact hp
  · walk_at "wk"
    refine e_fin rfl ?_
    have e : numsB d = false := by
      cases d <;> first | rfl | cases ht
    rw [e] at hp
    exact hp
end
end K85
namespace K85
open PySem PySem.Spec PyProof.Rows L2 Wk
local macro_rules | `(tactic| walk_at "wk") => `(tactic| repeat (first
  | apply_rules -symm -exfalso (transparency := .reducible) (maxDepth := 100000) only [@e_seq, @e_c, @e_ix, @e_set, @e_op, @e_I2, @e_fI0, @e_ifS, @e_tst, @e_ktst, @e_ift, @e_iff, @e_ifnt, @e_ifnf, @e_ret, @e_retF, @e_acons, @e_anil, @e_alend, @e_tup, @e_int, @e_kint, @e_vd, @e_setIx, @e_toL, @e_toT, @e_callD, @e_toD, @e_toDo, @e_callF, @e_kown, @e_frz, @e_len, @e_setF, @e_lst, @e_and, @e_or, @e_not, @e_andV, @e_orV, @e_notV, @e_kandV, @e_korV, @e_knotV, @e_ifE, @e_is, @e_isnot, @e_neg, @e_kneg, @e_par, @e_asg, @e_gnil, @e_gcons, @e_slT, @e_slL, @e_nopart, @e_part, @e_kpart, @e_sum, @e_min, @e_max, @e_abs, @e_kabs, @e_MM, @e_kMM, @e_tupOf, @e_lstOf, @e_isi, @e_inI, @e_dget, @e_din, @e_dnew, @e_catT, @e_catL, @e_index, @e_eq, @e_chain, @e_kchain, @e_kchain2, @e_drop, @e_next, @e_brk, @e_cnt, @e_retnon, @e_setK, @e_iL, @e_kL, @e_iT, @e_kT, @e_iR1, @e_iR2, @e_for, @e_yes, @e_lc, @e_raise, @e_try, @e_isX, @e_xf]
  | ((with_reducible refine' e_var ?k1 ?_); (case k1 => exact rfl))
  | ((with_reducible refine' e_kset ?k1 ?k2 ?_); (case k1 => exact rfl); (case k2 => (with_reducible (first | exact st0 | exact st1 | exact st2 | exact st3 | exact st4 | exact st5 | exact st6 | exact st7 | exact st8 | exact st9 | exact st10 | exact st11 | exact st12 | exact st13 | exact st14 | exact st15 | exact st16 | exact st17 | exact st18 | exact st19 | exact st20))))
  | ((with_reducible refine' e_ktup ?k1 ?k2 ?_); (case k1 => exact rfl); (case k2 => exact rfl))
  | ((with_reducible refine' e_kix ?k1 ?k2 ?k3 ?_); (case k1 => exact rfl); (case k2 => exact rfl); (case k3 => exact rfl))
  | ((with_reducible refine' e_vn ?k1 ?_); (case k1 => exact rfl))
  | ((with_reducible refine' e_varL ?k1 ?k2 ?_); (case k1 => exact rfl); (case k2 => (with_reducible (first | exact st0 | exact st1 | exact st2 | exact st3 | exact st4 | exact st5 | exact st6 | exact st7 | exact st8 | exact st9 | exact st10 | exact st11 | exact st12 | exact st13 | exact st14 | exact st15 | exact st16 | exact st17 | exact st18 | exact st19 | exact st20))))
  | ((with_reducible refine' e_app ?k1 ?_); (case k1 => exact rfl))
  | ((with_reducible refine' e_kapp ?k1 ?k2 ?k3 ?_); (case k1 => exact rfl); (case k2 => (simp only [List.length_append, List.length_map, List.length_cons, List.length_nil]; omega)); (case k3 => (with_reducible (first | exact st0 | exact st1 | exact st2 | exact st3 | exact st4 | exact st5 | exact st6 | exact st7 | exact st8 | exact st9 | exact st10 | exact st11 | exact st12 | exact st13 | exact st14 | exact st15 | exact st16 | exact st17 | exact st18 | exact st19 | exact st20))))
  | ((with_reducible refine' e_ksetF ?k1 ?k2 ?_); (case k1 => exact rfl); (case k2 => (with_reducible (first | exact st0 | exact st1 | exact st2 | exact st3 | exact st4 | exact st5 | exact st6 | exact st7 | exact st8 | exact st9 | exact st10 | exact st11 | exact st12 | exact st13 | exact st14 | exact st15 | exact st16 | exact st17 | exact st18 | exact st19 | exact st20))))
  | ((with_reducible refine' e_klen ?k1 ?k2 ?_); (case k1 => exact rfl); (case k2 => exact rfl))
  | ((with_reducible refine' e_klst ?k1 ?k2 ?_); (case k1 => exact rfl); (case k2 => exact rfl))
  | ((with_reducible refine' e_gtup ?k1 ?_); (case k1 => exact rfl))
  | ((with_reducible refine' e_gN ?k1 ?k2 ?_); (case k1 => exact rfl); (case k2 => (with_reducible (first | exact st0 | exact st1 | exact st2 | exact st3 | exact st4 | exact st5 | exact st6 | exact st7 | exact st8 | exact st9 | exact st10 | exact st11 | exact st12 | exact st13 | exact st14 | exact st15 | exact st16 | exact st17 | exact st18 | exact st19 | exact st20))))
  | ((with_reducible refine' e_varT ?k1 ?k2 ?_); (case k1 => exact rfl); (case k2 => (with_reducible (first | exact st0 | exact st1 | exact st2 | exact st3 | exact st4 | exact st5 | exact st6 | exact st7 | exact st8 | exact st9 | exact st10 | exact st11 | exact st12 | exact st13 | exact st14 | exact st15 | exact st16 | exact st17 | exact st18 | exact st19 | exact st20))))
  | ((with_reducible refine' e_mulR ?k1 ?k2 ?_); (case k1 => omega); (case k2 => omega))
  | ((with_reducible refine' e_mulL ?k1 ?k2 ?_); (case k1 => omega); (case k2 => omega))
  | ((with_reducible refine' e_div ?k1 ?k2 ?_); (case k1 => omega); (case k2 => omega))
  | ((with_reducible refine' e_mod ?k1 ?_); (case k1 => omega))
  | ((with_reducible refine' e_retN ?k1 ?_); (case k1 => exact rfl))
  | ((with_reducible refine' e_retNO ?k1 ?k2 ?_); (case k1 => exact rfl); (case k2 => (with_reducible (first | exact st0 | exact st1 | exact st2 | exact st3 | exact st4 | exact st5 | exact st6 | exact st7 | exact st8 | exact st9 | exact st10 | exact st11 | exact st12 | exact st13 | exact st14 | exact st15 | exact st16 | exact st17 | exact st18 | exact st19 | exact st20))))
  | ((with_reducible refine' e_setIx1 ?k1 ?_); (case k1 => exact rfl))
  | ((with_reducible refine' e_ksetIx ?k1 ?k2 ?k3 ?_); (case k1 => exact rfl); (case k2 => exact rfl); (case k3 => (with_reducible (first | exact st0 | exact st1 | exact st2 | exact st3 | exact st4 | exact st5 | exact st6 | exact st7 | exact st8 | exact st9 | exact st10 | exact st11 | exact st12 | exact st13 | exact st14 | exact st15 | exact st16 | exact st17 | exact st18 | exact st19 | exact st20))))
  | ((with_reducible refine' e_kpar ?k1 ?k2 ?k3 ?_); (case k1 => exact rfl); (case k2 => exact rfl); (case k3 => (repeat (first | exact set_0 | apply set_s))))
  | ((with_reducible refine' e_aug ?k1 ?_); (case k1 => exact rfl))
  | ((with_reducible refine' e_kaug ?k1 ?k2 ?_); (case k1 => exact rfl); (case k2 => (with_reducible (first | exact st0 | exact st1 | exact st2 | exact st3 | exact st4 | exact st5 | exact st6 | exact st7 | exact st8 | exact st9 | exact st10 | exact st11 | exact st12 | exact st13 | exact st14 | exact st15 | exact st16 | exact st17 | exact st18 | exact st19 | exact st20))))
  | ((with_reducible refine' e_kslT ?k1 ?_); (case k1 => exact rfl))
  | ((with_reducible refine' e_kslL ?k1 ?_); (case k1 => exact rfl))
  | ((with_reducible refine' e_ksum ?k1 ?_); (case k1 => exact rfl))
  | ((with_reducible refine' e_ktupOf ?k1 ?k2 ?_); (case k1 => exact rfl); (case k2 => exact rfl))
  | ((with_reducible refine' e_klstOf ?k1 ?k2 ?_); (case k1 => exact rfl); (case k2 => exact rfl))
  | ((with_reducible refine' e_kisi ?k1 ?k2 ?k3 ?_); (case k1 => exact rfl); (case k2 => exact rfl); (case k3 => (first | exact ks_ii | exact ks_ib | exact ks_bi | exact ks_bb | exact ks_ni | exact ks_nb | exact ks_tt | exact ks_lt | exact ks_it | exact ks_nt | exact ks_ti | exact ks_si)))
  | ((with_reducible refine' e_kR1 ?k1 ?k2 ?_); (case k1 => omega); (case k2 => omega))
  | ((with_reducible refine' e_kR2 ?k1 ?_); (case k1 => omega))
  ))
local macro_rules | `(tactic| walk_at "wk0") => `(tactic| (unfold endsF; (with_reducible refine' st_rho ?k1 ?_); (case k1 => repeat (first | exact rh_0 | (with_reducible apply rh_m) | (with_reducible apply rh_n) | apply rh_s))))
local macro_rules | `(tactic| walk_at "set") => `(tactic| with_reducible (first | exact st0 | exact st1 | exact st2 | exact st3 | exact st4 | exact st5 | exact st6 | exact st7 | exact st8 | exact st9 | exact st10 | exact st11 | exact st12 | exact st13 | exact st14 | exact st15 | exact st16 | exact st17 | exact st18 | exact st19 | exact st20))
abbrev s_law_judge : Stmt := topS 33
abbrev n_law_judge : List Str := ["many", "arcs", "paper", "arc", "told", "total", "at", "mean", "heights", "walk", "pair"]
theorem sc_law_judge : FnScope ["many", "arcs", "paper", "arc", "told", "total", "at", "mean", "heights", "walk", "pair"] ["many", "arcs", "paper"] (defScope s_law_judge) := ⟨rfl, rfl, rfl, by decide +kernel, rfl, by decide +kernel, by decide +kernel⟩
theorem bi_law_judge : BindOk "_law_judge" s_law_judge ["many", "arcs", "paper"] := fun _ _ _ _ _ _ us hl => match us, hl with | [_, _, _], _ => rfl
abbrev s_law_is_paper : Stmt := topS 35
abbrev n_law_is_paper : List Str := ["many", "paper", "row", "one"]
theorem sc_law_is_paper : FnScope ["many", "paper", "row", "one"] ["many", "paper"] (defScope s_law_is_paper) := ⟨rfl, rfl, rfl, by decide +kernel, rfl, by decide +kernel, by decide +kernel⟩
theorem bi_law_is_paper : BindOk "_law_is_paper" s_law_is_paper ["many", "paper"] := fun _ _ _ _ _ _ us hl => match us, hl with | [_, _], _ => rfl
abbrev s_law_judged : Stmt := topS 39
abbrev n_law_judged : List Str := ["many", "arcs", "paper", "due", "answer"]
theorem sc_law_judged : FnScope ["many", "arcs", "paper", "due", "answer"] ["many", "arcs", "paper", "due"] (defScope s_law_judged) := ⟨rfl, rfl, rfl, by decide +kernel, rfl, by decide +kernel, by decide +kernel⟩
theorem bi_law_judged : BindOk "_law_judged" s_law_judged ["many", "arcs", "paper", "due"] := fun _ _ _ _ _ _ us hl => match us, hl with | [_, _, _, _], _ => rfl
/-- the sum of the least costs along a walk -/
def sumC (arcs : List Arc) : List Nat → Option Int
  | u :: v :: r => match cheap arcs u v, sumC arcs (v :: r) with
    | some c, some t => some (c + t)
    | _, _ => none
  | _ => some 0
theorem sumW_sumC {arcs : List Arc} {m : Fc} : ∀ (w : List Nat), sumW arcs m w = (sumC arcs w).map fun t => t * m.2 - m.1 * ((w.length - 1 : Nat) : Int)
  | [] => by simp [sumW, sumC]
  | [u] => by simp [sumW, sumC]
  | u :: v :: r => by
    have ih := sumW_sumC (arcs := arcs) (m := m) (v :: r)
    unfold sumW sumC cheap
    rw [ih]
    by_cases h : costsUV arcs u v = []
    · rw [if_pos h, if_pos h]
      rfl
    · rw [if_neg h, if_neg h]
      cases sumC arcs (v :: r) with
      | none => rfl
      | some t =>
        refine congrArg some ?_
        show lmin (costsUV arcs u v) * m.2 - m.1 + (t * m.2 - m.1 * (((v :: r).length - 1 : Nat) : Int)) = (lmin (costsUV arcs u v) + t) * m.2 - m.1 * (((u :: v :: r).length - 1 : Nat) : Int)
        have e : (((u :: v :: r).length - 1 : Nat) : Int) = (((v :: r).length - 1 : Nat) : Int) + 1 := by
          simp only [List.length_cons]
          omega
        rw [e, Int.add_mul, Int.mul_add, Int.mul_one]
        omega
theorem sumC_step {arcs : List Arc} {w : List Nat} {i u v : Nat} (hu : w[i]? = some u) (hv : w[i + 1]? = some v) : sumC arcs (w.drop i) = match cheap arcs u v, sumC arcs (w.drop (i + 1)) with
    | some c, some t => some (c + t)
    | _, _ => none := by
  have e1 : w.drop i = u :: v :: w.drop (i + 2) := by
    rw [List.drop_eq_getElem_cons (List.getElem?_eq_some_iff.mp hu).1, (List.getElem?_eq_some_iff.mp hu).2, List.drop_eq_getElem_cons (List.getElem?_eq_some_iff.mp hv).1, (List.getElem?_eq_some_iff.mp hv).2]
  have e2 : w.drop (i + 1) = v :: w.drop (i + 2) := by
    rw [List.drop_eq_getElem_cons (List.getElem?_eq_some_iff.mp hv).1, (List.getElem?_eq_some_iff.mp hv).2]
  rw [e1, e2]
  rfl
def fsJudge : FS := ⟨(Nat × List Arc) × Pap, fun a => [.dat (.int a.1.1), .dat (arcsD a.1.2), .dat (papD a.2)], fun a => okA a.1.1 a.1.2 ∧ a.1.2.length ≤ 4000 ∧ small a.2, fun a => .dat (.bl (judgeP a.1.1 a.1.2 a.2)), fun _ => []⟩
theorem call_cheap {ρ : Rho} {ws : List Vw} {PR : Rs → Rho → Prop} {ex : Addr → List (Str × Dt) → Prop} {arcs : List Arc} (h1 : resv ρ ws = some [.dat (arcsD arcs)]) (h3 : slotsOf ws = []) (hl : arcs.length ≤ 4000) (q : ∀ kvs, IsCheap arcs kvs → PR (.own (.dT kvs)) ρ) : kCall 1 frCheap.sp ex ws ρ PR := by
  refine e_callR0 frCheap arcs h1 rfl h3 hl fun r os h => ?_
  obtain ⟨rfl, kvs, rfl, hk⟩ := h
  exact ⟨rfl, q kvs hk⟩
section
variable {P : Program} {w : World} {K : PySem.W.Frag} {mg : Str → Option Value} {base : Heap}
theorem ok_judge (D : Df K mg "_law_judge" s_law_judge) (B : Bi mg) (c_law_cheapest : Cal P w K mg base 1 "_law_cheapest" 1 frCheap.sp) : Cal P w K mg base 2 "_law_judge" 3 fsJudge.sp := by
  refine cal_of D sc_law_judge bi_law_judge fun f cdv A outer s H E hr => ⟨_, _, (ps_cons' (ps_asg' (pd_var 2) (pg_tup' 3 rfl (pgs_cons' (pg_name' 7 sc_law_judge.nd) (pgs_cons' (pg_name' 8 sc_law_judge.nd) (pgs_cons' (pg_name' 9 sc_law_judge.nd) pgs_nil')))))
      (ps_cons' (ps_if' (PDW.pdt (pdw_or (PCm.pdt (c_neI (pd_len B.len (pv_name 8)) (pd_var 0))) (pdw_or (PCm.pdt (c_lt (pd_ix (pv_name 7) pd_int) pd_int)) (pdw_or (PCm.pdt (c_lt (pd_len B.len (pv_name 9)) pd_int)) (pdw_or1 (PCm.pdt (c_neI (pd_ix (pv_name 9) pd_int) (pd_ix (pv_name 9) (pd_sub (pd_len B.len (pv_name 9)) pd_int)))))))))
       (ps_one' (ps_ret' pd_bl))
       ps_nil')
      (ps_cons' (ps_for' PassesOwn.never rfl (pi_tup' (pd_var 1)) (pg_name' 3 sc_law_judge.nd)
       (ps_one' (ps_if' (PCm.pdt (c_gt (pd_sub (pd_ix (pv_name 8) (pd_ix (pv_name 3) pd_int)) (pd_ix (pv_name 8) (pd_ix (pv_name 3) pd_int))) (pd_sub (pd_mul (pd_ix (pv_name 3) pd_int) (pd_ix (pv_name 7) pd_int)) (pd_ix (pv_name 7) pd_int))))
         (ps_one' (ps_ret' pd_bl))
         ps_nil')))
      (ps_cons' (ps_set' 4 sc_law_judge.nd (PF.pd (pf_cal c_law_cheapest (hr.mono (by decide)) (pa_cons' (pd_var 1) pa_nil'))))
      (ps_cons' (ps_set' 5 sc_law_judge.nd pd_int)
      (ps_cons' (ps_for' PassesOwn.never rfl (pi_range1' B.range (pd_sub (pd_len B.len (pv_name 9)) pd_int)) (pg_name' 6 sc_law_judge.nd)
       (ps_cons' (ps_set' 10 sc_law_judge.nd (pd_tup (pa_cons' (pd_ix (pv_name 9) (pd_var 6)) (pa_cons' (pd_ix (pv_name 9) (pd_add (pd_var 6) pd_int)) pa_nil'))))
        (ps_cons' (ps_if' (PCm.pdt (c_dnotin (hu_of hr) (pd_var 10) (pv_name 4)))
         (ps_one' (ps_ret' pd_bl))
         ps_nil')
        (ps_one' (ps_set' 5 sc_law_judge.nd (pd_add (pd_var 5) (pd_dget (hu_of hr) (pv_name 4) (pd_var 10))))))))
      (ps_one' (ps_ret' (PCm.pd (c_eqI (pd_mul (pd_var 5) (pd_ix (pv_name 7) pd_int)) (pd_mul (pd_ix (pv_name 7) pd_int) (pd_sub (pd_len B.len (pv_name 9)) pd_int)))))))))))), ?_⟩
  rintro es P' Ex ρ0 hl ⟨⟨⟨n, arcs⟩, ⟨m, p, wk⟩⟩, rfl, ⟨hok, hn3, hm, hp5, hw5⟩, hp⟩ rfl
  dsimp only [fsJudge] at hp hok hn3 hm hp5 hw5
  dsimp only [fsJudge]
  have hp2 : P' (.dat (.bl (judge n arcs m p wk))) [] := hp
  clear hp
  have ep : papD (m, p, wk) = .tup [fracD m, intsD p, nodesD wk] := rfl
  rw [ep]
  have hbad : ¬ (p.length = n ∧ 1 ≤ m.2 ∧ 2 ≤ wk.length ∧ wk.head? = wk.getLast? ∧ (∀ a ∈ arcs, p.getD a.2.1 0 ≤ p.getD a.1 0 + spareF a m) ∧ sumW arcs m wk = some 0) → P' (.dat (.bl false)) [] := fun h => by
    rw [judge_no h] at hp2
    exact hp2
  obtain ⟨hm1, hm2⟩ := id hm
  walk_at "wk0"
  walk_at "wk"
  rw [List.length_map]
  refine e_ifnd (fun h1 => ?_) (fun h1 => ?_)
  · walk_at "wk"
    exact e_fin rfl (hbad fun z => h1 (by rw [z.1]))
  have hpl : p.length = n := by omega
  walk_at "wk"
  refine e_ifd (fun h2 => ?_) (fun h2 => ?_)
  · walk_at "wk"
    exact e_fin rfl (hbad fun z => by omega)
  walk_at "wk"
  have lw : ((intsN wk).map Dt.int).length = wk.length := by unfold intsN; simp
  rw [lw]
  refine e_ifd (fun h3 => ?_) (fun h3 => ?_)
  · walk_at "wk"
    exact e_fin rfl (hbad fun z => by omega)
  obtain ⟨x0, hx0⟩ : ∃ x0, wk[0]? = some x0 := ⟨_, List.getElem?_eq_getElem (show 0 < wk.length by omega)⟩
  have hw0 : wk ≠ [] := by
    intro e
    rw [e] at h3
    exact h3 (by decide)
  have hhd : wk.head? = wk.getLast? ↔ x0 = wk.getLastD 0 := by
    rw [List.head?_eq_getElem?, hx0, List.getLastD_eq_getLast?]
    cases q : wk.getLast? with
    | none => exact absurd (List.getLast?_eq_none_iff.mp q) hw0
    | some y => exact ⟨fun e => Option.some.inj e, fun e => congrArg some e⟩
  walk_at "wk"
  refine e_kix rfl rfl (at0 hx0) ?_
  walk_at "wk"
  refine e_kix rfl rfl (at_last hw0) ?_
  walk_at "wk"
  refine e_ifnd (fun h4 => ?_) (fun h4 => ?_)
  · walk_at "wk"
    exact e_fin rfl (hbad fun z => h4 (by rw [hhd.mp z.2.2.2.1]))
  have h4' : wk.head? = wk.getLast? := hhd.mpr (by omega)
  walk_at "wk"
  refine e_kT (xs := arcs.map arcD) ?_
  walk_at "wk"
  refine e_forI [3] (fun i ρ => ρ = [some (.dat (.int n)), some (.dat (arcsD arcs)), some (.dat (.tup [fracD m, intsD p, nodesD wk])), none, none, none, none, some (.dat (fracD m)), some (.dat (intsD p)), some (.dat (nodesD wk)), none] ∧ ∀ a ∈ arcs.take i, p.getD a.2.1 0 ≤ p.getD a.1 0 + spareF a m) ⟨rfl, by simp⟩ (fun i x ρ2 hi hI => ?_) (fun ρ2 hI => ?_)
  · obtain ⟨rfl, hI⟩ := hI
    obtain ⟨a, hai, rfl⟩ := map_get hi
    have ham := List.mem_of_getElem? hai
    obtain ⟨hu, hv⟩ := hok _ ham
    have es : spareF a m = a.2.2 * m.2 - m.1 := rfl
    walk_at "wk"
    refine e_kix (d := intsD p) rfl rfl (atI_nat (geti (i := a.2.1) (by omega))) ?_
    walk_at "wk"
    refine e_kix (d := intsD p) rfl rfl (atI_nat (geti (i := a.1) (by omega))) ?_
    walk_at "wk"
    refine e_ifd (fun hc => ?_) (fun hc => ?_)
    · walk_at "wk"
      exact e_fin rfl (hbad fun z => by have := z.2.2.2.2.1 a ham; omega)
    · walk_at "wk"
      refine ⟨rfl, fun b hb => ?_⟩
      rw [List.take_add_one, hai, List.mem_append] at hb
      rcases hb with hb | hb
      · exact hI b hb
      · have : b = a := by simpa using hb
        rw [this]
        omega
  obtain ⟨rfl, hI⟩ := hI
  rw [List.length_map, List.take_length] at hI
  walk_at "wk"
  refine call_cheap rfl rfl hn3 fun kvs hk => ?_
  walk_at "wk"
  rw [lw]
  walk_at "wk"
  rw [show ((wk.length : Int) - 1).toNat = wk.length - 1 by omega]
  refine e_forI [6, 10] (fun i ρ => ∃ t : Int, ρ = [some (.dat (.int n)), some (.dat (arcsD arcs)), some (.dat (.tup [fracD m, intsD p, nodesD wk])), none, some (.dat (.dT kvs)), some (.dat (.int t)), none, some (.dat (fracD m)), some (.dat (intsD p)), some (.dat (nodesD wk)), none] ∧ sumC arcs wk = (sumC arcs (wk.drop i)).map (t + ·)) ⟨0, rfl, ?_⟩ (fun i x ρ2 hi hJ => ?_) (fun ρ2 hJ => ?_)
  · rw [List.drop_zero]
    cases sumC arcs wk with
    | none => rfl
    | some s => exact congrArg some (Int.zero_add s).symm
  · obtain ⟨t, rfl, hJ⟩ := hJ
    obtain ⟨hil, rfl⟩ := rng_get hi
    obtain ⟨u, hu⟩ : ∃ u, wk[i]? = some u := ⟨_, List.getElem?_eq_getElem (show i < wk.length by omega)⟩
    obtain ⟨v, hv⟩ : ∃ v, wk[i + 1]? = some v := ⟨_, List.getElem?_eq_getElem (show i + 1 < wk.length by omega)⟩
    rw [sumC_step hu hv] at hJ
    walk_at "wk"
    refine e_kix (d := nodesD wk) rfl rfl (atN hu) ?_
    walk_at "wk"
    refine e_kix (d := nodesD wk) rfl rfl (atN1 hv) ?_
    walk_at "wk"
    refine e_kdnotin rfl (k := kUV u v) rfl ?_
    rw [hk.1]
    walk_at "wk"
    refine e_ifnSo (fun hc => ?_) (fun c hc => ?_)
    · rw [hc] at hJ
      walk_at "wk"
      refine e_fin rfl (hbad fun z => ?_)
      have z2 := z.2.2.2.2.2
      rw [sumW_sumC, hJ] at z2
      cases z2
    · rw [hc] at hJ
      walk_at "wk"
      refine e_kdget rfl (k := kUV u v) rfl (by rw [hk.1, hc]; rfl) ?_
      walk_at "wk"
      refine ⟨t + c, rfl, ?_⟩
      rw [hJ]
      cases sumC arcs (wk.drop (i + 1)) with
      | none => rfl
      | some s =>
        refine congrArg some ?_
        dsimp only
        omega
  · obtain ⟨t, rfl, hJ⟩ := hJ
    rw [rngD_len] at hJ
    have hlast : wk.drop (wk.length - 1) = [wk.getLastD 0] := by
      rw [List.drop_eq_getElem_cons (show wk.length - 1 < wk.length by omega), List.drop_of_length_le (by omega), List.getLastD_eq_getLast?, List.getLast?_eq_getElem?, List.getElem?_eq_getElem (show wk.length - 1 < wk.length by omega)]
      rfl
    rw [hlast] at hJ
    have hJ : sumC arcs wk = some (t + 0) := hJ
    rw [Int.add_zero] at hJ
    walk_at "wk"
    rw [lw]
    walk_at "wk"
    refine e_fin rfl ?_
    have hs : sumW arcs m wk = some (t * m.2 - m.1 * ((wk.length : Int) - 1)) := by
      rw [sumW_sumC, hJ, show ((wk.length : Int) - 1) = ((wk.length - 1 : Nat) : Int) by omega]
      rfl
    have ej : judge n arcs m p wk = decide (t * m.2 = m.1 * ((wk.length : Int) - 1)) := by
      by_cases ht : t * m.2 = m.1 * ((wk.length : Int) - 1)
      · rw [decide_eq_true ht]
        refine judge_eq.mpr ⟨hpl, by omega, by omega, h4', hI, ?_⟩
        rw [hs, ht, Int.sub_self]
      · rw [decide_eq_false ht]
        refine judge_no fun z => ht ?_
        have z2 := z.2.2.2.2.2
        rw [hs] at z2
        have := Option.some.inj z2
        omega
    rw [ej] at hp2
    exact hp2
def isPap (n : Nat) (x : Pap) : Bool := decide (x.2.1.length = n) && x.2.2.all fun k => decide (k < n)
def fsIsPap : FS := ⟨Nat × Pap, fun a => [.dat (.int a.1), .dat (papD a.2)], fun a => small a.2, fun a => .dat (.bl (isPap a.1 a.2)), fun _ => []⟩
theorem nums_ints (xs : List Int) : numsB (intsD xs) = true ∧ isScr (intsD xs) = false ∧ ∀ ys, intsD xs = .tup ys → ys.length = xs.length ∧ ∀ y ∈ ys, isScr y = false := by
  refine ⟨?_, rfl, fun ys h => ?_⟩
  · show (xs.map Dt.int).all isI = true
    rw [List.all_map]
    exact List.all_eq_true.mpr fun _ _ => rfl
  · cases h
    refine ⟨List.length_map _, fun y hy => ?_⟩
    obtain ⟨z, _, rfl⟩ := List.mem_map.mp hy
    rfl
theorem call_nums {ρ : Rho} {ws : List Vw} {PR : Rs → Rho → Prop} {ex : Addr → List (Str × Dt) → Prop} {xs : List Int} (h1 : resv ρ ws = some [.dat (intsD xs)]) (h3 : slotsOf ws = []) (hl : xs.length ≤ 1000000) (q : PR (.dat (.bl true)) ρ) : kCall 1 fsNums.sp ex ws ρ PR := by
  obtain ⟨a, b, c⟩ := nums_ints xs
  refine e_call0 fsNums (intsD xs) h1 rfl h3 ⟨b, fun ys h => ⟨by rw [(c ys h).1]; exact hl, (c ys h).2⟩⟩ rfl ?_
  dsimp only [fsNums]
  rw [a]
  exact q
theorem ok_isPap (D : Df K mg "_law_is_paper" s_law_is_paper) (B : Bi mg) (c_law_numbers : Cal P w K mg base 2 "_law_numbers" 1 fsNums.sp) : Cal P w K mg base 3 "_law_is_paper" 2 fsIsPap.sp := by
  refine cal_of D sc_law_is_paper bi_law_is_paper fun f cdv A outer s H E hr => ⟨_, _, (ps_cons' (ps_if' (PDW.pdt (pdw_or (pdt_not (pdt_val (pd_isi (T := "tuple") B.isinstance (pv_name 1) B.tuple (by decide +kernel)))) (pdw_or1 (PCm.pdt (c_neI (pd_len B.len (pv_name 1)) pd_int)))))
       (ps_one' (ps_ret' pd_bl))
       ps_nil')
      (ps_cons' (ps_if' (PCm.pdt (c_gt (pd_len B.len (PD.pv (PF.pd (pf_lc [("row", 2)] rfl sc_law_is_paper.nd (pi_tup' (pd_var 1)) (blkOk_by (N := n_law_is_paper) (sc := defScope s_law_is_paper) (by decide +kernel)) (fun _ _ _ _ _ => (pg_name' 2 sc_law_is_paper.nd)) own_name (fun _ _ _ _ _ => (pt_one' (pdt_not (pdt_val (pd_cal c_law_numbers (hr.mono (by decide)) (pa_cons' (pd_var 2) pa_nil')))))) (fun _ _ _ _ _ => (pd_var 2)))))) pd_int))
       (ps_one' (ps_ret' pd_bl))
       ps_nil')
      (ps_one' (ps_ret' (pd_and (PCm.pd (c_eqI (pd_len B.len (PD.pv (pd_ix (pv_name 1) pd_int))) pd_int)) (pd_and (PCm.pd (c_eqI (pd_len B.len (PD.pv (pd_ix (pv_name 1) pd_int))) (pd_var 0))) (pd_one (PCm.pd (c_eqI (pd_len B.len (PD.pv (PF.pd (pf_lc [("one", 3)] rfl sc_law_is_paper.nd (pi_tup' (pd_ix (pv_name 1) pd_int)) (blkOk_by (N := n_law_is_paper) (sc := defScope s_law_is_paper) (by decide +kernel)) (fun _ _ _ _ _ => (pg_name' 3 sc_law_is_paper.nd)) own_name (fun _ _ _ _ _ => (pt_one' (pdt_not (pdt_chain op_le op_lt pd_int (pd_var 3) (pd_var 0))))) (fun _ _ _ _ _ => (pd_var 3)))))) pd_int))))))))), ?_⟩
  rintro es P' Ex ρ0 hl ⟨⟨n, ⟨m, p, wk⟩⟩, rfl, ⟨hm, hp5, hw5⟩, hp⟩ rfl
  dsimp only [fsIsPap] at hp hm hp5 hw5
  dsimp only [fsIsPap]
  have ep : papD (m, p, wk) = .tup [intsD [m.1, m.2], intsD p, intsD (intsN wk)] := rfl
  rw [ep]
  walk_at "wk0"
  walk_at "wk"
  refine e_ifnd (fun h => absurd rfl h) (fun _ => ?_)
  walk_at "wk"
  refine e_lcK1 [[m.1, m.2], p, intsN wk] intsD (fun _ => false) intsD rfl (show 3 ≤ 1000000 by decide) rfl (by walk_at "set") (fun xs hx K1 K2 k1 k2 => ?_) ?_
  · have hxl : xs.length ≤ 1000000 := by
      simp only [List.mem_cons, List.not_mem_nil, or_false] at hx
      rcases hx with rfl | rfl | rfl
      · exact (show 2 ≤ 1000000 by decide)
      · omega
      · unfold intsN
        rw [List.length_map]
        omega
    walk_at "wk"
    refine call_nums rfl rfl hxl ?_
    walk_at "wk"
    exact k2 rfl _ rfl
  have ef : ([[m.1, m.2], p, intsN wk].filter fun _ => false) = [] := rfl
  rw [ef]
  walk_at "wk"
  refine e_ifd (fun h => absurd h (by decide)) (fun _ => ?_)
  walk_at "wk"
  refine e_ifd (fun _ => ?_) (fun h => absurd rfl h)
  walk_at "wk"
  rw [List.length_map]
  refine e_ifd (fun h1 => ?_) (fun h1 => ?_)
  · have h1 : p.length = n := by omega
    walk_at "wk"
    refine e_kT (xs := (intsN wk).map Dt.int) ?_
    walk_at "wk"
    refine e_lcK1 wk (fun k : Nat => .int (k : Int)) (fun k => !decide (k < n)) (fun k : Nat => .int (k : Int)) (by unfold intsN; rw [List.map_map]; rfl) (by omega) rfl (by walk_at "set") (fun k hk K1 K2 k1 k2 => ?_) ?_
    · walk_at "wk"
      refine e_ifd (fun _ => ?_) (fun h => absurd (Int.natCast_nonneg k) h)
      walk_at "wk"
      refine e_ifnd (fun h2 => ?_) (fun h2 => ?_)
      · have h2 : ¬ k < n := by omega
        walk_at "wk"
        exact k1 (by rw [decide_eq_false h2]; rfl) _ rfl
      · have h2 : k < n := by omega
        exact k2 (by rw [decide_eq_true h2]; rfl) _ rfl
    walk_at "wk"
    refine e_fin rfl ?_
    have e : isPap n (m, p, wk) = decide ((((wk.filter fun k => !decide (k < n)).map fun k : Nat => Dt.int (k : Int)).length : Int) = 0) := by
      unfold isPap
      rw [decide_eq_true h1, Bool.true_and, List.length_map]
      dsimp only
      by_cases h : (wk.all fun k => decide (k < n)) = true
      · rw [h, eq_comm, decide_eq_true_eq]
        have : wk.filter (fun k => !decide (k < n)) = [] := List.filter_eq_nil_iff.mpr fun x hx => by
          rw [List.all_eq_true.mp h x hx]
          exact Bool.false_ne_true
        rw [this]
        rfl
      · rw [Bool.not_eq_true] at h
        rw [h, eq_comm, decide_eq_false_iff_not]
        intro z
        have z : wk.filter (fun k => !decide (k < n)) = [] := List.length_eq_zero_iff.mp (by omega)
        have : (wk.all fun k => decide (k < n)) = true := List.all_eq_true.mpr fun x hx => by
          have := List.filter_eq_nil_iff.mp z x hx
          cases q : decide (x < n) with
          | true => rfl
          | false => rw [q] at this; exact absurd rfl this
        rw [this] at h
        cases h
    rw [← e]
    exact hp
  · walk_at "wk"
    refine e_fin rfl ?_
    have e : isPap n (m, p, wk) = false := by
      unfold isPap
      rw [decide_eq_false (show ¬ (m, p, wk).2.1.length = n by dsimp only; omega)]
      rfl
    rw [e] at hp
    exact hp
/-- a graph that the check lets through -/
def fine (n : Nat) (arcs : List Arc) : Prop := 1 ≤ n ∧ n ≤ 200 ∧ arcs.length ≤ 4000 ∧ okA n arcs
theorem pre_arcs {n : Int} {arcs : List Arc} (h : arcs.length ≤ 4000) : preA (n, arcsD arcs) := by
  refine ⟨rfl, fun xs e => ?_⟩
  cases e
  refine ⟨by rw [List.length_map]; omega, fun x hx => ?_⟩
  obtain ⟨a, _, rfl⟩ := List.mem_map.mp hx
  refine ⟨rfl, fun ys e y hy => ?_⟩
  cases e
  simp only [List.mem_cons, List.not_mem_nil, or_false] at hy
  rcases hy with rfl | rfl | rfl <;> rfl
theorem chk_fine {cN cT : Addr} {n : Nat} {arcs : List Arc} (h : fine n arcs) : chkR cN cT n (arcsD arcs) = .ok (.dat .non) := by
  obtain ⟨h1, h2, h3, h4⟩ := h
  unfold chkR
  rw [if_neg (by omega)]
  have hall : (arcs.map arcD).any (badA n) = false := by
    rw [List.any_eq_false]
    intro x hx
    obtain ⟨a, ha, rfl⟩ := List.mem_map.mp hx
    have := h4 a ha
    show ¬ (decide (min (a.1 : Int) (a.2.1 : Int) < 0) || decide ((n : Int) ≤ max (a.1 : Int) (a.2.1 : Int))) = true
    rw [Bool.or_eq_true, decide_eq_true_eq, decide_eq_true_eq]
    omega
  show (if ((arcs.map arcD).any (badA n)) = true then _ else _) = _
  rw [hall, if_neg Bool.false_ne_true, if_neg (by rw [List.length_map]; omega)]
theorem arcsOf_D (arcs : List Arc) : arcsOf (arcsD arcs) = arcs := by
  show (arcs.map arcD).map deA = arcs
  rw [List.map_map]
  conv => rhs; rw [← List.map_id arcs]
  exact List.map_congr_left fun a _ => rfl
theorem behind_fine {cN cT : Addr} {n : Nat} {arcs : List Arc} (h : fine n arcs) (r : Nat → List Arc → Except (Addr × List (Str × Dt)) Rs) : behind cN cT ((n : Int), arcsD arcs) r = r n arcs := by
  rw [behind_ok (chk_fine h), arcsOf_D, Int.toNat_natCast]
def fsJudged : FS := ⟨((Nat × List Arc) × Pap) × Bool, fun a => [.dat (.int a.1.1.1), .dat (arcsD a.1.1.2), .dat (papD a.1.2), .dat (.bl a.2)], fun a => fine a.1.1.1 a.1.1.2 ∧ small a.1.2, fun a => .dat (.bl (judgeP a.1.1.1 a.1.1.2 a.1.2 == a.2)), fun _ => []⟩
theorem ok_judged {cN cT : Addr} (D : Df K mg "_law_judged" s_law_judged) (B : Bi mg) (cshows_mean : CalX P w K mg base 4 "shows_mean" 3 (fxShows cN cT).sp) : Cal P w K mg base 5 "_law_judged" 4 fsJudged.sp := by
  refine cal_of D sc_law_judged bi_law_judged fun f cdv A outer s H E hr => ⟨_, _, (ps_cons' (ps_set' 4 sc_law_judged.nd (pd_calX cshows_mean (hr.mono (by decide)) passL (pa_cons' (pd_var 0) (pa_cons' (pd_var 1) (pa_cons' (pd_var 2) pa_nil')))))
      (ps_one' (ps_ret' (pd_and (pd_isi (T := "bool") B.isinstance (pv_name 4) B.bool (by decide +kernel)) (pd_one (PCm.pd (c_eq (by exact hr.units) (pv_name 4) (pv_name 3)))))))), ?_⟩
  rintro es P' Ex ρ0 hl ⟨⟨⟨⟨n, arcs⟩, x⟩, due⟩, rfl, ⟨hf, hs⟩, hp⟩ rfl
  dsimp only [fsJudged] at hp hf hs
  dsimp only [fsJudged]
  walk_at "wk0"
  walk_at "wk"
  refine e_callXok (fxShows cN cT) (((n : Int), arcsD arcs), x) rfl rfl rfl ⟨pre_arcs hf.2.2.1, hs⟩ rfl (show behind cN cT ((n : Int), arcsD arcs) (fun n arcs => .ok (.dat (.bl (judgeP n arcs x)))) = _ from behind_fine hf _) ?_
  walk_at "wk"
  refine e_keq rfl rfl (okn_bl _ _) (okn_bl _ _) (eqbn_bl _ _ _) ?_
  walk_at "wk"
  exact e_fin rfl hp
end
end K85
namespace K85
open PySem PySem.Spec PyProof.Rows L2 Wk
local macro_rules | `(tactic| walk_at "wk") => `(tactic| repeat (first
  | apply_rules -symm -exfalso (transparency := .reducible) (maxDepth := 100000) only [@e_seq, @e_c, @e_ix, @e_set, @e_op, @e_I2, @e_fI0, @e_ifS, @e_tst, @e_ktst, @e_ift, @e_iff, @e_ifnt, @e_ifnf, @e_ret, @e_retF, @e_acons, @e_anil, @e_alend, @e_tup, @e_int, @e_kint, @e_vd, @e_setIx, @e_toL, @e_toT, @e_callD, @e_toD, @e_toDo, @e_callF, @e_kown, @e_frz, @e_len, @e_setF, @e_lst, @e_and, @e_or, @e_not, @e_andV, @e_orV, @e_notV, @e_kandV, @e_korV, @e_knotV, @e_ifE, @e_is, @e_isnot, @e_neg, @e_kneg, @e_par, @e_asg, @e_gnil, @e_gcons, @e_slT, @e_slL, @e_nopart, @e_part, @e_kpart, @e_sum, @e_min, @e_max, @e_abs, @e_kabs, @e_MM, @e_kMM, @e_tupOf, @e_lstOf, @e_isi, @e_inI, @e_dget, @e_din, @e_dnew, @e_catT, @e_catL, @e_index, @e_eq, @e_chain, @e_kchain, @e_kchain2, @e_drop, @e_next, @e_brk, @e_cnt, @e_retnon, @e_setK, @e_iL, @e_kL, @e_iT, @e_kT, @e_iR1, @e_iR2, @e_for, @e_yes, @e_lc, @e_raise, @e_try, @e_isX, @e_xf]
  | ((with_reducible refine' e_var ?k1 ?_); (case k1 => exact rfl))
  | ((with_reducible refine' e_kset ?k1 ?k2 ?_); (case k1 => exact rfl); (case k2 => (with_reducible (first | exact st0 | exact st1 | exact st2 | exact st3 | exact st4 | exact st5 | exact st6 | exact st7 | exact st8 | exact st9 | exact st10 | exact st11 | exact st12 | exact st13 | exact st14 | exact st15 | exact st16 | exact st17 | exact st18 | exact st19 | exact st20))))
  | ((with_reducible refine' e_ktup ?k1 ?k2 ?_); (case k1 => exact rfl); (case k2 => exact rfl))
  | ((with_reducible refine' e_kix ?k1 ?k2 ?k3 ?_); (case k1 => exact rfl); (case k2 => exact rfl); (case k3 => exact rfl))
  | ((with_reducible refine' e_vn ?k1 ?_); (case k1 => exact rfl))
  | ((with_reducible refine' e_varL ?k1 ?k2 ?_); (case k1 => exact rfl); (case k2 => (with_reducible (first | exact st0 | exact st1 | exact st2 | exact st3 | exact st4 | exact st5 | exact st6 | exact st7 | exact st8 | exact st9 | exact st10 | exact st11 | exact st12 | exact st13 | exact st14 | exact st15 | exact st16 | exact st17 | exact st18 | exact st19 | exact st20))))
  | ((with_reducible refine' e_app ?k1 ?_); (case k1 => exact rfl))
  | ((with_reducible refine' e_kapp ?k1 ?k2 ?k3 ?_); (case k1 => exact rfl); (case k2 => (simp only [List.length_append, List.length_map, List.length_cons, List.length_nil]; omega)); (case k3 => (with_reducible (first | exact st0 | exact st1 | exact st2 | exact st3 | exact st4 | exact st5 | exact st6 | exact st7 | exact st8 | exact st9 | exact st10 | exact st11 | exact st12 | exact st13 | exact st14 | exact st15 | exact st16 | exact st17 | exact st18 | exact st19 | exact st20))))
  | ((with_reducible refine' e_ksetF ?k1 ?k2 ?_); (case k1 => exact rfl); (case k2 => (with_reducible (first | exact st0 | exact st1 | exact st2 | exact st3 | exact st4 | exact st5 | exact st6 | exact st7 | exact st8 | exact st9 | exact st10 | exact st11 | exact st12 | exact st13 | exact st14 | exact st15 | exact st16 | exact st17 | exact st18 | exact st19 | exact st20))))
  | ((with_reducible refine' e_klen ?k1 ?k2 ?_); (case k1 => exact rfl); (case k2 => exact rfl))
  | ((with_reducible refine' e_klst ?k1 ?k2 ?_); (case k1 => exact rfl); (case k2 => exact rfl))
  | ((with_reducible refine' e_gtup ?k1 ?_); (case k1 => exact rfl))
  | ((with_reducible refine' e_gN ?k1 ?k2 ?_); (case k1 => exact rfl); (case k2 => (with_reducible (first | exact st0 | exact st1 | exact st2 | exact st3 | exact st4 | exact st5 | exact st6 | exact st7 | exact st8 | exact st9 | exact st10 | exact st11 | exact st12 | exact st13 | exact st14 | exact st15 | exact st16 | exact st17 | exact st18 | exact st19 | exact st20))))
  | ((with_reducible refine' e_varT ?k1 ?k2 ?_); (case k1 => exact rfl); (case k2 => (with_reducible (first | exact st0 | exact st1 | exact st2 | exact st3 | exact st4 | exact st5 | exact st6 | exact st7 | exact st8 | exact st9 | exact st10 | exact st11 | exact st12 | exact st13 | exact st14 | exact st15 | exact st16 | exact st17 | exact st18 | exact st19 | exact st20))))
  | ((with_reducible refine' e_mulR ?k1 ?k2 ?_); (case k1 => omega); (case k2 => omega))
  | ((with_reducible refine' e_mulL ?k1 ?k2 ?_); (case k1 => omega); (case k2 => omega))
  | ((with_reducible refine' e_div ?k1 ?k2 ?_); (case k1 => omega); (case k2 => omega))
  | ((with_reducible refine' e_mod ?k1 ?_); (case k1 => omega))
  | ((with_reducible refine' e_retN ?k1 ?_); (case k1 => exact rfl))
  | ((with_reducible refine' e_retNO ?k1 ?k2 ?_); (case k1 => exact rfl); (case k2 => (with_reducible (first | exact st0 | exact st1 | exact st2 | exact st3 | exact st4 | exact st5 | exact st6 | exact st7 | exact st8 | exact st9 | exact st10 | exact st11 | exact st12 | exact st13 | exact st14 | exact st15 | exact st16 | exact st17 | exact st18 | exact st19 | exact st20))))
  | ((with_reducible refine' e_setIx1 ?k1 ?_); (case k1 => exact rfl))
  | ((with_reducible refine' e_ksetIx ?k1 ?k2 ?k3 ?_); (case k1 => exact rfl); (case k2 => exact rfl); (case k3 => (with_reducible (first | exact st0 | exact st1 | exact st2 | exact st3 | exact st4 | exact st5 | exact st6 | exact st7 | exact st8 | exact st9 | exact st10 | exact st11 | exact st12 | exact st13 | exact st14 | exact st15 | exact st16 | exact st17 | exact st18 | exact st19 | exact st20))))
  | ((with_reducible refine' e_kpar ?k1 ?k2 ?k3 ?_); (case k1 => exact rfl); (case k2 => exact rfl); (case k3 => (repeat (first | exact set_0 | apply set_s))))
  | ((with_reducible refine' e_aug ?k1 ?_); (case k1 => exact rfl))
  | ((with_reducible refine' e_kaug ?k1 ?k2 ?_); (case k1 => exact rfl); (case k2 => (with_reducible (first | exact st0 | exact st1 | exact st2 | exact st3 | exact st4 | exact st5 | exact st6 | exact st7 | exact st8 | exact st9 | exact st10 | exact st11 | exact st12 | exact st13 | exact st14 | exact st15 | exact st16 | exact st17 | exact st18 | exact st19 | exact st20))))
  | ((with_reducible refine' e_kslT ?k1 ?_); (case k1 => exact rfl))
  | ((with_reducible refine' e_kslL ?k1 ?_); (case k1 => exact rfl))
  | ((with_reducible refine' e_ksum ?k1 ?_); (case k1 => exact rfl))
  | ((with_reducible refine' e_ktupOf ?k1 ?k2 ?_); (case k1 => exact rfl); (case k2 => exact rfl))
  | ((with_reducible refine' e_klstOf ?k1 ?k2 ?_); (case k1 => exact rfl); (case k2 => exact rfl))
  | ((with_reducible refine' e_kisi ?k1 ?k2 ?k3 ?_); (case k1 => exact rfl); (case k2 => exact rfl); (case k3 => (first | exact ks_ii | exact ks_ib | exact ks_bi | exact ks_bb | exact ks_ni | exact ks_nb | exact ks_tt | exact ks_lt | exact ks_it | exact ks_nt | exact ks_ti | exact ks_si)))
  | ((with_reducible refine' e_kR1 ?k1 ?k2 ?_); (case k1 => omega); (case k2 => omega))
  | ((with_reducible refine' e_kR2 ?k1 ?_); (case k1 => omega))
  ))
local macro_rules | `(tactic| walk_at "wk0") => `(tactic| (unfold endsF; (with_reducible refine' st_rho ?k1 ?_); (case k1 => repeat (first | exact rh_0 | (with_reducible apply rh_m) | (with_reducible apply rh_n) | apply rh_s))))
local macro_rules | `(tactic| walk_at "set") => `(tactic| with_reducible (first | exact st0 | exact st1 | exact st2 | exact st3 | exact st4 | exact st5 | exact st6 | exact st7 | exact st8 | exact st9 | exact st10 | exact st11 | exact st12 | exact st13 | exact st14 | exact st15 | exact st16 | exact st17 | exact st18 | exact st19 | exact st20))
abbrev s_law_bag : Stmt := topS 21
abbrev n_law_bag : List Str := ["script", "at", "number", "cell"]
theorem sc_law_bag : FnScope ["script", "at", "number", "cell"] ["script", "at"] (defScope s_law_bag) := ⟨rfl, rfl, rfl, by decide +kernel, rfl, by decide +kernel, by decide +kernel⟩
theorem bi_law_bag : BindOk "_law_bag" s_law_bag ["script", "at"] := fun _ _ _ _ _ _ us hl => match us, hl with | [_, _], _ => rfl
def frDraw : FR := ⟨Bag × Int, fun a => [.own true (.lst (bagD a.1)), .dat (.int a.2)], fun a => 0 < a.2 ∧ a.2 < 1073741824, fun a r os => ∃ (x : Nat) (b : Bag), r = .dat (.int (x : Int)) ∧ (x : Int) < a.2 ∧ os = [.lst (bagD b)]⟩
def frPick : FR := ⟨Bag × Dt × List Dt, fun a => [.own true (.lst (bagD a.1)), .dat a.2.1], fun a => seqOf a.2.1 = some a.2.2 ∧ a.2.2 ≠ [] ∧ a.2.2.length < 1000000, fun a r os => ∃ (y : Dt) (b : Bag), y ∈ a.2.2 ∧ r = .dat y ∧ os = [.lst (bagD b)]⟩
def frBag : FR := ⟨List Int × Nat, fun a => [.dat (.scr a.1), .dat (.int (a.2 : Int))], fun a => a.1.length ≤ 1000000 ∧ a.2 ≤ 1000, fun a r os => os = [] ∧ ∃ b : Bag, r = .own (.lst (bagD b))⟩
theorem cut_map {α β : Type} (f : α → β) (xs : List α) (lo hi : Option Int) : cut (xs.map f) lo hi = (cut xs lo hi).map f := by
  unfold cut
  rw [List.length_map, List.map_take, List.map_drop]
section
variable {P : Program} {w : World} {K : PySem.W.Frag} {mg : Str → Option Value} {base : Heap}
theorem cal_imp {k n : Nat} {x : Str} {s s' : FSpec} (c : Cal P w K mg base k x n s) (h : ∀ es PP Ex, s' es PP Ex → s es PP Ex) : Cal P w K mg base k x n s' := by
  obtain ⟨f, fd, ps, G, h1, h2, h3⟩ := c.ex
  refine ⟨f, fd, ps, G.imp fun vs H Q E q => ?_, h1, h2, h3⟩
  obtain ⟨F, es, as, PP, Ex, a1, a2, a3, a4, a5, a6, a7⟩ := q
  exact ⟨F, es, as, PP, Ex, a1, a2, a3, a4, h _ _ _ a5, a6, a7⟩
theorem drawR {k : Nat} (c : Cal P w K mg base k "_law_draw" 2 fsDraw.sp) : Cal P w K mg base k "_law_draw" 2 frDraw.sp := cal_imp c fun es PP Ex h => by
  obtain ⟨⟨b, m⟩, rfl, hp, q⟩ := h
  have hd := draw_lt (b := b) hp.1
  exact ⟨(b, m), rfl, hp, q _ _ ⟨(draw b m).1.toNat, (draw b m).2, by rw [Int.toNat_of_nonneg hd.1]; rfl, by rw [Int.toNat_of_nonneg hd.1]; exact hd.2, rfl⟩⟩
theorem pickR {k : Nat} (c : Cal P w K mg base k "_law_pick" 2 fsPick.sp) : Cal P w K mg base k "_law_pick" 2 frPick.sp := cal_imp c fun es PP Ex h => by
  obtain ⟨⟨b, d, xs⟩, rfl, ⟨h1, h2, h3⟩, q⟩ := h
  dsimp only at h1 h2 h3
  have hpos : 0 < xs.length := List.length_pos_iff.mpr h2
  have hd := draw_lt (b := b) (m := xs.length) (by omega)
  have hlt : (draw b xs.length).1.toNat < xs.length := by omega
  refine ⟨(b, d, xs), rfl, ⟨h1, h2, h3⟩, q _ _ ⟨xs.getD (draw b xs.length).1.toNat .non, (draw b xs.length).2, ?_, rfl, rfl⟩⟩
  rw [List.getD_eq_getElem?_getD, List.getElem?_eq_getElem hlt]
  exact List.getElem_mem hlt
theorem call_dr {ρ : Rho} {ws : List Vw} {PR : Rs → Rho → Prop} {ex : Addr → List (Str × Dt) → Prop} {i : Nat} {io : Bool} {o0 : Ow} {b : Bag} {m : Int} (h1 : resv ρ ws = some [.own true (.lst (bagD b)), .dat (.int m)]) (h3 : slotsOf ws = [i]) (h4 : ρ[i]? = some (some (.own io o0)))
    (hm : 0 < m) (hm2 : m < 1073741824) (q : ∀ (x : Nat) (b' : Bag), (x : Int) < m → ∀ ρ', ρ.set i (some (.own io (.lst (bagD b')))) = ρ' → PR (.dat (.int (x : Int))) ρ') : kCall 2 frDraw.sp ex ws ρ PR := by
  refine e_callR1 frDraw (b, m) h1 rfl h3 h4 ⟨hm, hm2⟩ fun r os h => ?_
  obtain ⟨x, b', rfl, hx, rfl⟩ := h
  exact ⟨_, rfl, fun ρ' e => q x b' hx ρ' e⟩
theorem call_pk {ρ : Rho} {ws : List Vw} {PR : Rs → Rho → Prop} {ex : Addr → List (Str × Dt) → Prop} {i : Nat} {io : Bool} {o0 : Ow} {b : Bag} {d : Dt} {xs : List Dt} (h1 : resv ρ ws = some [.own true (.lst (bagD b)), .dat d]) (h3 : slotsOf ws = [i]) (h4 : ρ[i]? = some (some (.own io o0)))
    (hd : seqOf d = some xs) (hx : xs ≠ []) (hl : xs.length < 1000000) (q : ∀ (y : Dt) (b' : Bag), y ∈ xs → ∀ ρ', ρ.set i (some (.own io (.lst (bagD b')))) = ρ' → PR (.dat y) ρ') : kCall 2 frPick.sp ex ws ρ PR := by
  refine e_callR1 frPick (b, d, xs) h1 rfl h3 h4 ⟨hd, hx, hl⟩ fun r os h => ?_
  obtain ⟨y, b', hy, rfl, rfl⟩ := h
  exact ⟨_, rfl, fun ρ' e => q y b' hy ρ' e⟩
theorem ok_bag (D : Df K mg "_law_bag" s_law_bag) (B : Bi mg) : Cal P w K mg base 1 "_law_bag" 2 frBag.sp := by
  refine cal_of D sc_law_bag bi_law_bag fun f cdv A outer s H E hr => ⟨_, _, (ps_cons' (ps_if' (PCm.pdt (c_lt (pd_var 1) (pd_len B.len (pv_name 0))))
       (ps_one' (ps_set' 3 sc_law_bag.nd (pd_ix (pv_name 0) (pd_var 1))))
       (ps_one' (ps_set' 3 sc_law_bag.nd (pd_add (pd_mul pd_int (pd_add (pd_var 1) pd_int)) (pd_mod (pd_toint B.int (pd_sum B.sum (PD.pv (PF.pd (pf_slL (pv_name 0) po_none' (po_some' pd_int)))))) pd_int)))))
      (ps_cons' (ps_set' 2 sc_law_bag.nd (pd_ifE (PCm.pdt (c_ge (pd_var 3) pd_int)) (pd_var 3) (pd_sub pd_int (pd_var 3))))
      (ps_one' (ps_retF' (pf_lst (pa_cons' (pd_ifE (PCm.pdt (c_ge (pd_var 2) (pd_pow pd_int pd_int))) (pd_var 2) pd_int) (pa_cons' (pd_add (pd_mod (pd_toint B.int (pd_var 2)) pd_int) (pd_var 1)) (pa_cons' pd_int pa_nil')))))))), ?_⟩
  rintro es P' Ex ρ0 hl ⟨⟨ns, k⟩, rfl, ⟨hn, hk⟩, hp⟩ rfl
  dsimp only [frBag] at hn hk hp
  dsimp only [frBag]
  walk_at "wk0"
  walk_at "wk"
  refine e_ifd (fun hc => ?_) (fun hc => ?_)
  · rw [List.length_map] at hc
    have hk2 : k < ns.length := by omega
    walk_at "wk"
    refine e_kix (d := .scr ns) rfl rfl (z := .int ns[k]) (atI_nat (by rw [List.getElem?_map, List.getElem?_eq_getElem hk2]; rfl)) ?_
    walk_at "wk"
    refine e_ifd (fun h1 => ?_) (fun h1 => ?_)
    · walk_at "wk"
      refine e_pow (by unfold CPow; decide) ?_
      walk_at "wk"
      refine e_ifd (fun h2 => ?_) (fun h2 => ?_)
      · walk_at "wk"
        exact e_fin rfl (hp _ _ ⟨rfl, (_, _, _), rfl⟩)
      · walk_at "wk"
        exact e_fin rfl (hp _ _ ⟨rfl, (_, _, _), rfl⟩)
    · walk_at "wk"
      refine e_pow (by unfold CPow; decide) ?_
      walk_at "wk"
      refine e_ifd (fun h2 => ?_) (fun h2 => ?_)
      · walk_at "wk"
        exact e_fin rfl (hp _ _ ⟨rfl, (_, _, _), rfl⟩)
      · walk_at "wk"
        exact e_fin rfl (hp _ _ ⟨rfl, (_, _, _), rfl⟩)
  · walk_at "wk"
    refine e_kslS rfl ?_
    rw [cut_map]
    walk_at "wk"
    refine e_ifd (fun h1 => ?_) (fun h1 => ?_)
    · walk_at "wk"
      refine e_pow (by unfold CPow; decide) ?_
      walk_at "wk"
      refine e_ifd (fun h2 => ?_) (fun h2 => ?_)
      · walk_at "wk"
        exact e_fin rfl (hp _ _ ⟨rfl, (_, _, _), rfl⟩)
      · walk_at "wk"
        exact e_fin rfl (hp _ _ ⟨rfl, (_, _, _), rfl⟩)
    · walk_at "wk"
      refine e_pow (by unfold CPow; decide) ?_
      walk_at "wk"
      refine e_ifd (fun h2 => ?_) (fun h2 => ?_)
      · walk_at "wk"
        exact e_fin rfl (hp _ _ ⟨rfl, (_, _, _), rfl⟩)
      · walk_at "wk"
        exact e_fin rfl (hp _ _ ⟨rfl, (_, _, _), rfl⟩)
end
end K85
namespace K85
open PySem PySem.Spec PyProof.Rows L2 Wk
local macro_rules | `(tactic| walk_at "wk") => `(tactic| repeat (first
  | apply_rules -symm -exfalso (transparency := .reducible) (maxDepth := 100000) only [@e_seq, @e_c, @e_ix, @e_set, @e_op, @e_I2, @e_fI0, @e_ifS, @e_tst, @e_ktst, @e_ift, @e_iff, @e_ifnt, @e_ifnf, @e_ret, @e_retF, @e_acons, @e_anil, @e_alend, @e_tup, @e_int, @e_kint, @e_vd, @e_setIx, @e_toL, @e_toT, @e_callD, @e_toD, @e_toDo, @e_callF, @e_kown, @e_frz, @e_len, @e_setF, @e_lst, @e_and, @e_or, @e_not, @e_andV, @e_orV, @e_notV, @e_kandV, @e_korV, @e_knotV, @e_ifE, @e_is, @e_isnot, @e_neg, @e_kneg, @e_par, @e_asg, @e_gnil, @e_gcons, @e_slT, @e_slL, @e_nopart, @e_part, @e_kpart, @e_sum, @e_min, @e_max, @e_abs, @e_kabs, @e_MM, @e_kMM, @e_tupOf, @e_lstOf, @e_isi, @e_inI, @e_dget, @e_din, @e_dnew, @e_catT, @e_catL, @e_index, @e_eq, @e_chain, @e_kchain, @e_kchain2, @e_drop, @e_next, @e_brk, @e_cnt, @e_retnon, @e_setK, @e_iL, @e_kL, @e_iT, @e_kT, @e_iR1, @e_iR2, @e_for, @e_yes, @e_lc, @e_raise, @e_try, @e_isX, @e_xf]
  | ((with_reducible refine' e_var ?k1 ?_); (case k1 => exact rfl))
  | ((with_reducible refine' e_kset ?k1 ?k2 ?_); (case k1 => exact rfl); (case k2 => (with_reducible (first | exact st0 | exact st1 | exact st2 | exact st3 | exact st4 | exact st5 | exact st6 | exact st7 | exact st8 | exact st9 | exact st10 | exact st11 | exact st12 | exact st13 | exact st14 | exact st15 | exact st16 | exact st17 | exact st18 | exact st19 | exact st20))))
  | ((with_reducible refine' e_ktup ?k1 ?k2 ?_); (case k1 => exact rfl); (case k2 => exact rfl))
  | ((with_reducible refine' e_kix ?k1 ?k2 ?k3 ?_); (case k1 => exact rfl); (case k2 => exact rfl); (case k3 => exact rfl))
  | ((with_reducible refine' e_vn ?k1 ?_); (case k1 => exact rfl))
  | ((with_reducible refine' e_varL ?k1 ?k2 ?_); (case k1 => exact rfl); (case k2 => (with_reducible (first | exact st0 | exact st1 | exact st2 | exact st3 | exact st4 | exact st5 | exact st6 | exact st7 | exact st8 | exact st9 | exact st10 | exact st11 | exact st12 | exact st13 | exact st14 | exact st15 | exact st16 | exact st17 | exact st18 | exact st19 | exact st20))))
  | ((with_reducible refine' e_app ?k1 ?_); (case k1 => exact rfl))
  | ((with_reducible refine' e_kapp ?k1 ?k2 ?k3 ?_); (case k1 => exact rfl); (case k2 => (simp only [List.length_append, List.length_map, List.length_cons, List.length_nil]; omega)); (case k3 => (with_reducible (first | exact st0 | exact st1 | exact st2 | exact st3 | exact st4 | exact st5 | exact st6 | exact st7 | exact st8 | exact st9 | exact st10 | exact st11 | exact st12 | exact st13 | exact st14 | exact st15 | exact st16 | exact st17 | exact st18 | exact st19 | exact st20))))
  | ((with_reducible refine' e_ksetF ?k1 ?k2 ?_); (case k1 => exact rfl); (case k2 => (with_reducible (first | exact st0 | exact st1 | exact st2 | exact st3 | exact st4 | exact st5 | exact st6 | exact st7 | exact st8 | exact st9 | exact st10 | exact st11 | exact st12 | exact st13 | exact st14 | exact st15 | exact st16 | exact st17 | exact st18 | exact st19 | exact st20))))
  | ((with_reducible refine' e_klen ?k1 ?k2 ?_); (case k1 => exact rfl); (case k2 => exact rfl))
  | ((with_reducible refine' e_klst ?k1 ?k2 ?_); (case k1 => exact rfl); (case k2 => exact rfl))
  | ((with_reducible refine' e_gtup ?k1 ?_); (case k1 => exact rfl))
  | ((with_reducible refine' e_gN ?k1 ?k2 ?_); (case k1 => exact rfl); (case k2 => (with_reducible (first | exact st0 | exact st1 | exact st2 | exact st3 | exact st4 | exact st5 | exact st6 | exact st7 | exact st8 | exact st9 | exact st10 | exact st11 | exact st12 | exact st13 | exact st14 | exact st15 | exact st16 | exact st17 | exact st18 | exact st19 | exact st20))))
  | ((with_reducible refine' e_varT ?k1 ?k2 ?_); (case k1 => exact rfl); (case k2 => (with_reducible (first | exact st0 | exact st1 | exact st2 | exact st3 | exact st4 | exact st5 | exact st6 | exact st7 | exact st8 | exact st9 | exact st10 | exact st11 | exact st12 | exact st13 | exact st14 | exact st15 | exact st16 | exact st17 | exact st18 | exact st19 | exact st20))))
  | ((with_reducible refine' e_mulR ?k1 ?k2 ?_); (case k1 => omega); (case k2 => omega))
  | ((with_reducible refine' e_mulL ?k1 ?k2 ?_); (case k1 => omega); (case k2 => omega))
  | ((with_reducible refine' e_div ?k1 ?k2 ?_); (case k1 => omega); (case k2 => omega))
  | ((with_reducible refine' e_mod ?k1 ?_); (case k1 => omega))
  | ((with_reducible refine' e_retN ?k1 ?_); (case k1 => exact rfl))
  | ((with_reducible refine' e_retNO ?k1 ?k2 ?_); (case k1 => exact rfl); (case k2 => (with_reducible (first | exact st0 | exact st1 | exact st2 | exact st3 | exact st4 | exact st5 | exact st6 | exact st7 | exact st8 | exact st9 | exact st10 | exact st11 | exact st12 | exact st13 | exact st14 | exact st15 | exact st16 | exact st17 | exact st18 | exact st19 | exact st20))))
  | ((with_reducible refine' e_setIx1 ?k1 ?_); (case k1 => exact rfl))
  | ((with_reducible refine' e_ksetIx ?k1 ?k2 ?k3 ?_); (case k1 => exact rfl); (case k2 => exact rfl); (case k3 => (with_reducible (first | exact st0 | exact st1 | exact st2 | exact st3 | exact st4 | exact st5 | exact st6 | exact st7 | exact st8 | exact st9 | exact st10 | exact st11 | exact st12 | exact st13 | exact st14 | exact st15 | exact st16 | exact st17 | exact st18 | exact st19 | exact st20))))
  | ((with_reducible refine' e_kpar ?k1 ?k2 ?k3 ?_); (case k1 => exact rfl); (case k2 => exact rfl); (case k3 => (repeat (first | exact set_0 | apply set_s))))
  | ((with_reducible refine' e_aug ?k1 ?_); (case k1 => exact rfl))
  | ((with_reducible refine' e_kaug ?k1 ?k2 ?_); (case k1 => exact rfl); (case k2 => (with_reducible (first | exact st0 | exact st1 | exact st2 | exact st3 | exact st4 | exact st5 | exact st6 | exact st7 | exact st8 | exact st9 | exact st10 | exact st11 | exact st12 | exact st13 | exact st14 | exact st15 | exact st16 | exact st17 | exact st18 | exact st19 | exact st20))))
  | ((with_reducible refine' e_kslT ?k1 ?_); (case k1 => exact rfl))
  | ((with_reducible refine' e_kslL ?k1 ?_); (case k1 => exact rfl))
  | ((with_reducible refine' e_ksum ?k1 ?_); (case k1 => exact rfl))
  | ((with_reducible refine' e_ktupOf ?k1 ?k2 ?_); (case k1 => exact rfl); (case k2 => exact rfl))
  | ((with_reducible refine' e_klstOf ?k1 ?k2 ?_); (case k1 => exact rfl); (case k2 => exact rfl))
  | ((with_reducible refine' e_kisi ?k1 ?k2 ?k3 ?_); (case k1 => exact rfl); (case k2 => exact rfl); (case k3 => (first | exact ks_ii | exact ks_ib | exact ks_bi | exact ks_bb | exact ks_ni | exact ks_nb | exact ks_tt | exact ks_lt | exact ks_it | exact ks_nt | exact ks_ti | exact ks_si)))
  | ((with_reducible refine' e_kR1 ?k1 ?k2 ?_); (case k1 => omega); (case k2 => omega))
  | ((with_reducible refine' e_kR2 ?k1 ?_); (case k1 => omega))
  ))
local macro_rules | `(tactic| walk_at "wk0") => `(tactic| (unfold endsF; (with_reducible refine' st_rho ?k1 ?_); (case k1 => repeat (first | exact rh_0 | (with_reducible apply rh_m) | (with_reducible apply rh_n) | apply rh_s))))
local macro_rules | `(tactic| walk_at "set") => `(tactic| with_reducible (first | exact st0 | exact st1 | exact st2 | exact st3 | exact st4 | exact st5 | exact st6 | exact st7 | exact st8 | exact st9 | exact st10 | exact st11 | exact st12 | exact st13 | exact st14 | exact st15 | exact st16 | exact st17 | exact st18 | exact st19 | exact st20))
abbrev s_law_rounds : Stmt := topS 26
abbrev n_law_rounds : List Str := ["many", "arcs", "told", "found", "start", "paths", "turn", "longer", "path", "last", "node"]
theorem sc_law_rounds : FnScope ["many", "arcs", "told", "found", "start", "paths", "turn", "longer", "path", "last", "node"] ["many", "arcs"] (defScope s_law_rounds) := ⟨rfl, rfl, rfl, by decide +kernel, rfl, by decide +kernel, by decide +kernel⟩
theorem bi_law_rounds : BindOk "_law_rounds" s_law_rounds ["many", "arcs"] := fun _ _ _ _ _ _ us hl => match us, hl with | [_, _], _ => rfl
def arcsL (arcs : List Arc) : Dt := .lst (arcs.map arcD)
def frCheapL : FR := ⟨List Arc, fun a => [.dat (arcsL a)], fun a => a.length ≤ 4000, fun a r os => os = [] ∧ ∃ kvs, r = .own (.dT kvs) ∧ IsCheap a kvs⟩
theorem call_cheapL {ρ : Rho} {ws : List Vw} {PR : Rs → Rho → Prop} {ex : Addr → List (Str × Dt) → Prop} {arcs : List Arc} (h1 : resv ρ ws = some [.dat (arcsL arcs)]) (h3 : slotsOf ws = []) (hl : arcs.length ≤ 4000) (q : ∀ kvs, IsCheap arcs kvs → PR (.own (.dT kvs)) ρ) : kCall 1 frCheapL.sp ex ws ρ PR := by
  refine e_callR0 frCheapL arcs h1 rfl h3 hl fun r os h => ?_
  obtain ⟨rfl, kvs, rfl, hk⟩ := h
  exact ⟨rfl, q kvs hk⟩
abbrev Path := List Nat × Int
def pathD (p : Path) : Dt := .tup [nodesD p.1, .int p.2]
def ext1 (arcs : List Arc) (p : Path) (v : Nat) : Option Path := if v ∈ p.1 then none else (cheap arcs (p.1.getLastD 0) v).map fun c => (p.1 ++ [v], p.2 + c)
def nodesFrom (n s : Nat) : List Nat := (List.range (n - (s + 1))).map fun k => s + 1 + k
def extP (n : Nat) (arcs : List Arc) (s : Nat) (p : Path) : List Path := (nodesFrom n s).filterMap (ext1 arcs p)
def closeP (arcs : List Arc) (s : Nat) (p : Path) : Option Rnd := (cheap arcs (p.1.getLastD 0) s).map fun c => (p.2 + c, p.1.length, p.1)
def pathsN (n : Nat) (arcs : List Arc) (s : Nat) : Nat → List Path
  | 0 => [([s], 0)]
  | t + 1 => (pathsN n arcs s t).flatMap (extP n arcs s)
def roundsT (n : Nat) (arcs : List Arc) (s t : Nat) : List Rnd := (pathsN n arcs s t).filterMap (closeP arcs s)
def roundsS (n : Nat) (arcs : List Arc) (s : Nat) : List Rnd := (List.range (n - s)).flatMap (roundsT n arcs s)
def roundsN (n : Nat) (arcs : List Arc) : List Rnd := (List.range n).flatMap (roundsS n arcs)
def fsRounds : FS := ⟨Nat × List Arc, fun a => [.dat (.int a.1), .dat (arcsL a.2)], fun a => a.1 ≤ 5 ∧ a.2.length ≤ 4000, fun a => .own (.lst ((roundsN a.1 a.2).map rndD)), fun _ => []⟩
theorem paths_len {n : Nat} {arcs : List Arc} {s : Nat} (hn : n ≤ 5) : ∀ t, (pathsN n arcs s t).length ≤ 5 ^ t
  | 0 => Nat.le_refl _
  | t + 1 => by
    have ih := paths_len (arcs := arcs) (s := s) hn t
    have key : ∀ l : List Path, (l.flatMap (extP n arcs s)).length ≤ 5 * l.length := by
      intro l
      induction l with
      | nil => exact Nat.le_refl _
      | cons p l ih =>
        rw [List.flatMap_cons, List.length_append, List.length_cons]
        have h1 : (extP n arcs s p).length ≤ n - (s + 1) := by
          unfold extP nodesFrom
          refine Nat.le_trans (List.length_filterMap_le _ _) ?_
          rw [List.length_map, List.length_range]
          exact Nat.le_refl _
        omega
    have := key (pathsN n arcs s t)
    unfold pathsN
    rw [Nat.pow_succ]
    omega
theorem paths_ok {n : Nat} {arcs : List Arc} {s : Nat} : ∀ t, ∀ p ∈ pathsN n arcs s t, p.1 ≠ [] ∧ p.1.length = t + 1
  | 0, p, h => by
    unfold pathsN at h
    rw [List.mem_singleton] at h
    subst h
    exact ⟨by simp, rfl⟩
  | t + 1, p, h => by
    unfold pathsN at h
    obtain ⟨q, hq, hp⟩ := List.mem_flatMap.mp h
    have ih := paths_ok t q hq
    unfold extP at hp
    obtain ⟨v, _, hv⟩ := List.mem_filterMap.mp hp
    unfold ext1 at hv
    split at hv
    · cases hv
    · cases hc : cheap arcs (q.1.getLastD 0) v with
      | none => rw [hc] at hv; cases hv
      | some c =>
        rw [hc] at hv
        cases hv
        refine ⟨by simp, ?_⟩
        rw [List.length_append, ih.2]
        rfl
theorem flatMap_len {α β : Type} {f : α → List β} {B : Nat} : ∀ (l : List α), (∀ x ∈ l, (f x).length ≤ B) → (l.flatMap f).length ≤ l.length * B
  | [], _ => Nat.zero_le _
  | a :: l, h => by
    have h1 := h a List.mem_cons_self
    have h2 := flatMap_len (f := f) l fun x hx => h x (List.mem_cons_of_mem _ hx)
    rw [List.flatMap_cons, List.length_append, List.length_cons, Nat.add_mul, Nat.one_mul]
    omega
theorem pow5 {t : Nat} (h : t ≤ 5) : 5 ^ t ≤ 3125 := Nat.le_trans (Nat.pow_le_pow_right (by decide) h) (by decide)
theorem roundsT_len {n : Nat} {arcs : List Arc} {s t : Nat} (hn : n ≤ 5) (ht : t ≤ 5) : (roundsT n arcs s t).length ≤ 3125 :=
  Nat.le_trans (List.length_filterMap_le _ _) (Nat.le_trans (paths_len hn t) (pow5 ht))
theorem roundsS_len {n : Nat} {arcs : List Arc} {s : Nat} (hn : n ≤ 5) : (roundsS n arcs s).length ≤ 15625 := by
  have := flatMap_len (f := roundsT n arcs s) (B := 3125) (List.range (n - s)) fun t ht => roundsT_len hn (by rw [List.mem_range] at ht; omega)
  rw [List.length_range] at this
  have h2 : (n - s) * 3125 ≤ 5 * 3125 := Nat.mul_le_mul_right _ (by omega)
  unfold roundsS
  omega
theorem flat_take {α β : Type} {f : α → List β} {l : List α} {i : Nat} {a : α} (h : l[i]? = some a) : (l.take (i + 1)).flatMap f = (l.take i).flatMap f ++ f a := by
  rw [List.take_add_one, h, List.flatMap_append]
  simp
theorem filt_take {α β : Type} {f : α → Option β} {l : List α} {i : Nat} {a : α} (h : l[i]? = some a) : (l.take (i + 1)).filterMap f = (l.take i).filterMap f ++ (f a).toList := by
  rw [List.take_add_one, h, List.filterMap_append]
  cases q : f a <;> simp [q]
section
variable {P : Program} {w : World} {K : PySem.W.Frag} {mg : Str → Option Value} {base : Heap}
theorem ok_cheapL (D : Df K mg "_law_cheapest" s_law_cheapest) (B : Bi mg) : Cal P w K mg base 1 "_law_cheapest" 1 frCheapL.sp := by
  refine cal_of D sc_law_cheapest bi_law_cheapest fun f cdv A outer s H E hr => ⟨_, _, (ps_cons' (ps_setF' 1 sc_law_cheapest.nd pf_dnew)
      (ps_cons' (ps_for' PassesOwn.never rfl (pi_list' (pd_var 0)) (pg_name' 2 sc_law_cheapest.nd)
       (ps_cons' (ps_set' 3 sc_law_cheapest.nd (pd_tup (pa_cons' (pd_ix (pv_name 2) pd_int) (pa_cons' (pd_ix (pv_name 2) pd_int) pa_nil'))))
        (ps_one' (ps_if' (PDW.pdt (pdw_or (PCm.pdt (c_dnotin (hu_of hr) (pd_var 3) (pv_name 1))) (pdw_or1 (PCm.pdt (c_lt (pd_ix (pv_name 2) pd_int) (pd_dget (hu_of hr) (pv_name 1) (pd_var 3)))))))
         (ps_one' (ps_setKey 1 (hu_of hr) (pd_ix (pv_name 2) pd_int) (pd_var 3)))
         ps_nil'))))
      (ps_one' (ps_retN' 1)))), ?_⟩
  rintro es P' Ex ρ0 hl ⟨(arcs : List Arc), rfl, hn, hp⟩ rfl
  dsimp only [frCheapL] at hn hp
  dsimp only [frCheapL]
  walk_at "wk0"
  walk_at "wk"
  refine e_kL (xs := arcs.map arcD) ?_
  walk_at "wk"
  refine e_forI [2, 3] (fun i ρ => ∃ kvs, ρ = [some (.dat (arcsL arcs)), some (.own false (.dT kvs)), none, none] ∧ IsCheap (arcs.take i) kvs) ⟨[], rfl, fun u v => rfl, Nat.le_refl _⟩ (fun i x ρ2 hi hI => ?_) (fun ρ2 hI => ?_)
  · obtain ⟨kvs, rfl, hI⟩ := hI
    obtain ⟨⟨u, v, c⟩, ha, rfl⟩ := map_get hi
    have et : arcs.take (i + 1) = arcs.take i ++ [(u, v, c)] := by rw [List.take_add_one, ha]; rfl
    have hkl : kvs.length ≤ 4000 := by
      have := hI.2
      rw [List.length_take] at this
      omega
    rw [et]
    walk_at "wk"
    refine e_kdnotin rfl (k := kUV u v) rfl ?_
    rw [hI.1]
    walk_at "wk"
    refine e_ifnSo (fun hc => ?_) (fun w0 hc => ?_)
    · walk_at "wk"
      refine e_ksetK rfl (k := kUV u v) rfl (by omega) (by walk_at "set") ?_
      refine ⟨_, rfl, cheap_put hI ?_⟩
      rw [cheap_app, if_pos ⟨rfl, rfl⟩, hc]
    · walk_at "wk"
      refine e_kdget rfl (k := kUV u v) rfl (by rw [hI.1, hc]; rfl) ?_
      walk_at "wk"
      refine e_ifd (fun h1 => ?_) (fun h1 => ?_)
      · walk_at "wk"
        refine e_ksetK rfl (k := kUV u v) rfl (by omega) (by walk_at "set") ?_
        refine ⟨_, rfl, cheap_put hI ?_⟩
        rw [cheap_app, if_pos ⟨rfl, rfl⟩, hc]
        dsimp only
        rw [if_pos h1]
      · walk_at "wk"
        refine ⟨_, rfl, cheap_keep hI ?_⟩
        rw [cheap_app, if_pos ⟨rfl, rfl⟩, hc]
        dsimp only
        rw [if_neg h1]
  · obtain ⟨kvs, rfl, hI⟩ := hI
    rw [List.length_map, List.take_length] at hI
    walk_at "wk"
    exact e_fin rfl (hp _ _ ⟨rfl, kvs, rfl, hI⟩)
theorem ok_rounds (D : Df K mg "_law_rounds" s_law_rounds) (B : Bi mg) (c_law_cheapest : Cal P w K mg base 1 "_law_cheapest" 1 frCheapL.sp) : Cal P w K mg base 2 "_law_rounds" 2 fsRounds.sp := by
  refine cal_of D sc_law_rounds bi_law_rounds fun f cdv A outer s H E hr => ⟨_, _, (ps_cons' (ps_set' 2 sc_law_rounds.nd (PF.pd (pf_cal c_law_cheapest (hr.mono (by decide)) (pa_cons' (pd_var 1) pa_nil'))))
      (ps_cons' (ps_setF' 3 sc_law_rounds.nd (pf_lst pa_nil'))
      (ps_cons' (ps_for' PassesOwn.never rfl (pi_range1' B.range (pd_var 0)) (pg_name' 4 sc_law_rounds.nd)
       (ps_cons' (ps_set' 5 sc_law_rounds.nd (PF.pd (pf_lst (pa_cons' (pd_tup (pa_cons' (pd_tup (pa_cons' (pd_var 4) pa_nil')) (pa_cons' pd_int pa_nil'))) pa_nil'))))
        (ps_one' (ps_for' PassesOwn.never rfl (pi_range1' B.range (pd_sub (pd_var 0) (pd_var 4))) (pg_name' 6 sc_law_rounds.nd)
         (ps_cons' (ps_setF' 7 sc_law_rounds.nd (pf_lst pa_nil'))
          (ps_cons' (ps_for' PassesOwn.never rfl (pi_list' (pd_var 5)) (pg_name' 8 sc_law_rounds.nd)
           (ps_cons' (ps_set' 9 sc_law_rounds.nd (pd_ix (PD.pv (pd_ix (pv_name 8) pd_int)) (pd_sub (pd_len B.len (PD.pv (pd_ix (pv_name 8) pd_int))) pd_int)))
            (ps_cons' (ps_if' (PCm.pdt (c_din (hu_of hr) (pd_tup (pa_cons' (pd_var 9) (pa_cons' (pd_var 4) pa_nil'))) (pv_name 2)))
             (ps_one' (ps_app' 3 (pd_tup (pa_cons' (pd_add (pd_ix (pv_name 8) pd_int) (pd_dget (hu_of hr) (pv_name 2) (pd_tup (pa_cons' (pd_var 9) (pa_cons' (pd_var 4) pa_nil'))))) (pa_cons' (pd_len B.len (PD.pv (pd_ix (pv_name 8) pd_int))) (pa_cons' (pd_ix (pv_name 8) pd_int) pa_nil'))))))
             ps_nil')
            (ps_one' (ps_for' PassesOwn.never rfl (pi_range2' B.range (pd_add (pd_var 4) pd_int) (pd_var 0)) (pg_name' 10 sc_law_rounds.nd)
             (ps_one' (ps_if' (PDW.pdt (pdw_and (PCm.pdt (c_notin (pd_var 10) (PD.pv (pd_ix (pv_name 8) pd_int)))) (pdw_and1 (PCm.pdt (c_din (hu_of hr) (pd_tup (pa_cons' (pd_var 9) (pa_cons' (pd_var 10) pa_nil'))) (pv_name 2))))))
               (ps_one' (ps_app' 7 (pd_tup (pa_cons' (pd_catT (PD.pv (pd_ix (pv_name 8) pd_int)) (PD.pv (pd_tup (pa_cons' (pd_var 10) pa_nil')))) (pa_cons' (pd_add (pd_ix (pv_name 8) pd_int) (pd_dget (hu_of hr) (pv_name 2) (pd_tup (pa_cons' (pd_var 9) (pa_cons' (pd_var 10) pa_nil'))))) pa_nil')))))
               ps_nil')))))))
          (ps_one' (ps_set' 5 sc_law_rounds.nd (pd_var 7)))))))))
      (ps_one' (ps_retN' 3))))), ?_⟩
  rintro es P' Ex ρ0 hl ⟨⟨n, arcs⟩, rfl, ⟨hn, ha⟩, hp⟩ rfl
  dsimp only [fsRounds] at hn ha hp
  dsimp only [fsRounds]
  walk_at "wk0"
  walk_at "wk"
  refine call_cheapL rfl rfl ha fun kvs hk => ?_
  walk_at "wk"
  rw [Int.toNat_natCast]
  let S : Nat → Rho := fun i => [some (.dat (.int n)), some (.dat (arcsL arcs)), some (.dat (.dT kvs)), some (.own false (.lst ((((List.range n).take i).flatMap (roundsS n arcs)).map rndD))), none, none, none, none, none, none, none]
  refine e_forS [4, 5, 6, 7, 8, 9, 10] S rfl (fun i x hx => ?_) ?_
  · obtain ⟨hi, rfl⟩ := rng_get hx
    dsimp only [S]
    rw [flat_take (List.getElem?_range hi)]
    have hF : (((List.range n).take i).flatMap (roundsS n arcs)).length ≤ 100000 := by
      have := flatMap_len (f := roundsS n arcs) (B := 15625) ((List.range n).take i) fun t _ => roundsS_len hn
      rw [List.length_take] at this
      have h2 : (min i (List.range n).length) * 15625 ≤ 5 * 15625 := Nat.mul_le_mul_right _ (by omega)
      omega
    generalize ((List.range n).take i).flatMap (roundsS n arcs) = F1 at hF ⊢
    walk_at "wk"
    rw [show ((n : Int) - (i : Int)).toNat = n - i by omega]
    let S2 : Nat → Rho := fun t => [some (.dat (.int n)), some (.dat (arcsL arcs)), some (.dat (.dT kvs)), some (.own false (.lst ((F1 ++ ((List.range (n - i)).take t).flatMap (roundsT n arcs i)).map rndD))), some (.dat (.int i)), some (.dat (.lst ((pathsN n arcs i t).map pathD))), none, none, none, none, none]
    refine e_forS [6, 7, 8, 9, 10] S2 ?_ (fun t x hx => ?_) ?_
    · dsimp only [S2]
      rw [List.take_zero, List.flatMap_nil, List.append_nil]
      rfl
    · obtain ⟨ht, rfl⟩ := rng_get hx
      dsimp only [S2]
      rw [flat_take (List.getElem?_range ht)]
      have hG : (F1 ++ ((List.range (n - i)).take t).flatMap (roundsT n arcs i)).length ≤ 120000 := by
        have := flatMap_len (f := roundsT n arcs i) (B := 3125) ((List.range (n - i)).take t) fun t ht => roundsT_len hn (by have := List.mem_range.mp (List.mem_of_mem_take ht); omega)
        rw [List.length_take] at this
        have h2 : (min t (List.range (n - i)).length) * 3125 ≤ 5 * 3125 := Nat.mul_le_mul_right _ (by omega)
        rw [List.length_append]
        omega
      rw [← List.append_assoc]
      generalize F1 ++ ((List.range (n - i)).take t).flatMap (roundsT n arcs i) = F2 at hG ⊢
      have hPl := paths_len (arcs := arcs) (s := i) hn t
      have hP5 := pow5 (t := t) (by omega)
      have hPk := paths_ok (n := n) (arcs := arcs) (s := i) t
      have eT : roundsT n arcs i t = (pathsN n arcs i t).filterMap (closeP arcs i) := rfl
      have eP : pathsN n arcs i (t + 1) = (pathsN n arcs i t).flatMap (extP n arcs i) := rfl
      rw [eT, eP]
      generalize pathsN n arcs i t = PS at hPl hPk ⊢
      walk_at "wk"
      let S3 : Nat → Rho := fun j => [some (.dat (.int n)), some (.dat (arcsL arcs)), some (.dat (.dT kvs)), some (.own false (.lst ((F2 ++ (PS.take j).filterMap (closeP arcs i)).map rndD))), some (.dat (.int i)), some (.dat (.lst (PS.map pathD))), some (.dat (.int t)), some (.own false (.lst (((PS.take j).flatMap (extP n arcs i)).map pathD))), none, none, none]
      refine e_forS [8, 9, 10] S3 ?_ (fun j x hx => ?_) ?_
      · dsimp only [S3]
        rw [List.take_zero, List.filterMap_nil, List.append_nil]
        rfl
      · obtain ⟨p, hp1, rfl⟩ := map_get hx
        obtain ⟨hp0, hpl⟩ := hPk p (List.mem_of_getElem? hp1)
        dsimp only [S3]
        rw [filt_take hp1, flat_take hp1]
        have hH : (F2 ++ (PS.take j).filterMap (closeP arcs i)).length ≤ 130000 := by
          have := List.length_filterMap_le (closeP arcs i) (PS.take j)
          rw [List.length_take] at this
          rw [List.length_append]
          omega
        have hLn : ((PS.take j).flatMap (extP n arcs i)).length ≤ 20000 := by
          have := flatMap_len (f := extP n arcs i) (B := 5) (PS.take j) fun p _ => by
            unfold extP nodesFrom
            refine Nat.le_trans (List.length_filterMap_le _ _) ?_
            rw [List.length_map, List.length_range]
            omega
          rw [List.length_take] at this
          omega
        rw [← List.append_assoc]
        generalize F2 ++ (PS.take j).filterMap (closeP arcs i) = F3 at hH ⊢
        generalize (PS.take j).flatMap (extP n arcs i) = L1 at hLn ⊢
        walk_at "wk"
        refine e_kix (d := nodesD p.1) rfl rfl (at_last hp0) ?_
        walk_at "wk"
        refine e_kdin rfl (k := kUV (p.1.getLastD 0) i) rfl ?_
        rw [hk.1]
        walk_at "wk"
        refine e_ifSo (fun c hc => ?_) (fun hc => ?_)
        · have e : closeP arcs i p = some (p.2 + c, p.1.length, p.1) := by
            unfold closeP
            rw [hc]
            rfl
          rw [e]
          walk_at "wk"
          refine e_kdget rfl (k := kUV (p.1.getLastD 0) i) rfl (by rw [hk.1, hc]; rfl) ?_
          walk_at "wk"
          have ed : (F3 ++ (some (p.2 + c, p.1.length, p.1)).toList).map rndD = F3.map rndD ++ [.tup [.int (p.2 + c), .int (((intsN p.1).map Dt.int).length : Int), nodesD p.1]] := by
            rw [List.map_append]
            refine congrArg (F3.map rndD ++ ·) ?_
            show [Dt.tup [Dt.int (p.2 + c), Dt.int (p.1.length : Int), nodesD p.1]] = _
            unfold intsN
            simp
          walk_at "wk"
          rw [show ((n : Int) - ((i : Int) + 1)).toNat = n - (i + 1) by omega]
          let S4 : Nat → Rho := fun k => [some (.dat (.int n)), some (.dat (arcsL arcs)), some (.dat (.dT kvs)), some (.own false (.lst (F3.map rndD ++ [.tup [.int (p.2 + c), .int (((intsN p.1).map Dt.int).length : Int), nodesD p.1]]))), some (.dat (.int i)), some (.dat (.lst (PS.map pathD))), some (.dat (.int t)), some (.own false (.lst ((L1 ++ ((nodesFrom n i).take k).filterMap (ext1 arcs p)).map pathD))), some (.dat (pathD p)), some (.dat (.int (p.1.getLastD 0 : Nat))), none]
          refine e_forS [10] S4 ?_ (fun k x hx => ?_) ?_
          · dsimp only [S4]
            rw [List.take_zero, List.filterMap_nil, List.append_nil]
            rfl
          · obtain ⟨hk4, rfl⟩ := rng2_get hx
            dsimp only [S4]
            have hnk : (nodesFrom n i)[k]? = some (i + 1 + k) := by
              unfold nodesFrom
              rw [List.getElem?_map, List.getElem?_range hk4]
              rfl
            rw [filt_take hnk, ← List.append_assoc]
            have hM : (L1 ++ ((nodesFrom n i).take k).filterMap (ext1 arcs p)).length ≤ 30000 := by
              have := List.length_filterMap_le (ext1 arcs p) ((nodesFrom n i).take k)
              rw [List.length_take] at this
              rw [List.length_append]
              omega
            generalize L1 ++ ((nodesFrom n i).take k).filterMap (ext1 arcs p) = L2 at hM ⊢
            rw [show (i : Int) + 1 + (k : Int) = ((i + 1 + k : Nat) : Int) by omega]
            generalize i + 1 + k = v
            walk_at "wk"
            refine e_knotin (z := nodesD p.1) rfl rfl ?_
            walk_at "wk"
            refine e_ifnd (fun hm => ?_) (fun hm => ?_)
            · have hm : v ∉ p.1 := fun z => hm (mem_ints.mpr z)
              walk_at "wk"
              refine e_kdin rfl (k := kUV (p.1.getLastD 0) v) rfl ?_
              rw [hk.1]
              walk_at "wk"
              refine e_ifSo (fun c hc => ?_) (fun hc => ?_)
              · have e : ext1 arcs p v = some (p.1 ++ [v], p.2 + c) := by
                  unfold ext1
                  rw [if_neg hm, hc]
                  rfl
                rw [e]
                walk_at "wk"
                refine e_kcatT (xs := (intsN p.1).map Dt.int) rfl rfl (by unfold intsN; rw [List.length_map, List.length_map]; simp only [List.length_cons, List.length_nil]; omega) ?_
                walk_at "wk"
                refine e_kdget rfl (k := kUV (p.1.getLastD 0) v) rfl (by rw [hk.1, hc]; rfl) ?_
                walk_at "wk"
                have ed : (L2 ++ (some (p.1 ++ [v], p.2 + c)).toList).map pathD = L2.map pathD ++ [.tup [.tup ((intsN p.1).map Dt.int ++ [.int (v : Int)]), .int (p.2 + c)]] := by
                  rw [List.map_append]
                  refine congrArg (L2.map pathD ++ ·) ?_
                  show [Dt.tup [intsD (intsN (p.1 ++ [v])), .int (p.2 + c)]] = _
                  unfold intsD intsN
                  simp
                rw [ed]
                rfl
              · have e : ext1 arcs p v = none := by
                  unfold ext1
                  rw [if_neg hm, hc]
                  rfl
                rw [e, Option.toList_none, List.append_nil]
                walk_at "wk"
                rfl
            · have hm : v ∈ p.1 := mem_ints.mp hm
              have e : ext1 arcs p v = none := by
                unfold ext1
                rw [if_pos hm]
              rw [e, Option.toList_none, List.append_nil]
              walk_at "wk"
              rfl
          · dsimp only [S4]
            rw [rngD_len, List.take_of_length_le (by unfold nodesFrom; rw [List.length_map, List.length_range]; exact Nat.le_refl _)]
            rw [ed]
            rfl
        · have e : closeP arcs i p = none := by
            unfold closeP
            rw [hc]
            rfl
          rw [e, Option.toList_none, List.append_nil]
          walk_at "wk"
          rw [show ((n : Int) - ((i : Int) + 1)).toNat = n - (i + 1) by omega]
          let S4 : Nat → Rho := fun k => [some (.dat (.int n)), some (.dat (arcsL arcs)), some (.dat (.dT kvs)), some (.own false (.lst (F3.map rndD))), some (.dat (.int i)), some (.dat (.lst (PS.map pathD))), some (.dat (.int t)), some (.own false (.lst ((L1 ++ ((nodesFrom n i).take k).filterMap (ext1 arcs p)).map pathD))), some (.dat (pathD p)), some (.dat (.int (p.1.getLastD 0 : Nat))), none]
          refine e_forS [10] S4 ?_ (fun k x hx => ?_) ?_
          · dsimp only [S4]
            rw [List.take_zero, List.filterMap_nil, List.append_nil]
            rfl
          · obtain ⟨hk4, rfl⟩ := rng2_get hx
            dsimp only [S4]
            have hnk : (nodesFrom n i)[k]? = some (i + 1 + k) := by
              unfold nodesFrom
              rw [List.getElem?_map, List.getElem?_range hk4]
              rfl
            rw [filt_take hnk, ← List.append_assoc]
            have hM : (L1 ++ ((nodesFrom n i).take k).filterMap (ext1 arcs p)).length ≤ 30000 := by
              have := List.length_filterMap_le (ext1 arcs p) ((nodesFrom n i).take k)
              rw [List.length_take] at this
              rw [List.length_append]
              omega
            generalize L1 ++ ((nodesFrom n i).take k).filterMap (ext1 arcs p) = L2 at hM ⊢
            rw [show (i : Int) + 1 + (k : Int) = ((i + 1 + k : Nat) : Int) by omega]
            generalize i + 1 + k = v
            walk_at "wk"
            refine e_knotin (z := nodesD p.1) rfl rfl ?_
            walk_at "wk"
            refine e_ifnd (fun hm => ?_) (fun hm => ?_)
            · have hm : v ∉ p.1 := fun z => hm (mem_ints.mpr z)
              walk_at "wk"
              refine e_kdin rfl (k := kUV (p.1.getLastD 0) v) rfl ?_
              rw [hk.1]
              walk_at "wk"
              refine e_ifSo (fun c hc => ?_) (fun hc => ?_)
              · have e : ext1 arcs p v = some (p.1 ++ [v], p.2 + c) := by
                  unfold ext1
                  rw [if_neg hm, hc]
                  rfl
                rw [e]
                walk_at "wk"
                refine e_kcatT (xs := (intsN p.1).map Dt.int) rfl rfl (by unfold intsN; rw [List.length_map, List.length_map]; simp only [List.length_cons, List.length_nil]; omega) ?_
                walk_at "wk"
                refine e_kdget rfl (k := kUV (p.1.getLastD 0) v) rfl (by rw [hk.1, hc]; rfl) ?_
                walk_at "wk"
                have ed : (L2 ++ (some (p.1 ++ [v], p.2 + c)).toList).map pathD = L2.map pathD ++ [.tup [.tup ((intsN p.1).map Dt.int ++ [.int (v : Int)]), .int (p.2 + c)]] := by
                  rw [List.map_append]
                  refine congrArg (L2.map pathD ++ ·) ?_
                  show [Dt.tup [intsD (intsN (p.1 ++ [v])), .int (p.2 + c)]] = _
                  unfold intsD intsN
                  simp
                rw [ed]
                rfl
              · have e : ext1 arcs p v = none := by
                  unfold ext1
                  rw [if_neg hm, hc]
                  rfl
                rw [e, Option.toList_none, List.append_nil]
                walk_at "wk"
                rfl
            · have hm : v ∈ p.1 := mem_ints.mp hm
              have e : ext1 arcs p v = none := by
                unfold ext1
                rw [if_pos hm]
              rw [e, Option.toList_none, List.append_nil]
              walk_at "wk"
              rfl
          · dsimp only [S4]
            rw [rngD_len, List.take_of_length_le (by unfold nodesFrom; rw [List.length_map, List.length_range]; exact Nat.le_refl _)]
            skip
            rfl
      · dsimp only [S3]
        rw [List.length_map, List.take_of_length_le (Nat.le_refl _)]
        walk_at "wk"
        rfl
    · dsimp only [S2]
      rw [rngD_len, List.take_of_length_le (by rw [List.length_range]; exact Nat.le_refl _)]
      rfl
  · dsimp only [S]
    rw [rngD_len, List.take_of_length_le (by rw [List.length_range]; exact Nat.le_refl _)]
    walk_at "wk"
    exact e_fin rfl hp
end
end K85
namespace K85
open PySem PySem.Spec PyProof.Rows L2 Wk
local macro_rules | `(tactic| walk_at "wk") => `(tactic| repeat (first
  | apply_rules -symm -exfalso (transparency := .reducible) (maxDepth := 100000) only [@e_seq, @e_c, @e_ix, @e_set, @e_op, @e_I2, @e_fI0, @e_ifS, @e_tst, @e_ktst, @e_ift, @e_iff, @e_ifnt, @e_ifnf, @e_ret, @e_retF, @e_acons, @e_anil, @e_alend, @e_tup, @e_int, @e_kint, @e_vd, @e_setIx, @e_toL, @e_toT, @e_callD, @e_toD, @e_toDo, @e_callF, @e_kown, @e_frz, @e_len, @e_setF, @e_lst, @e_and, @e_or, @e_not, @e_andV, @e_orV, @e_notV, @e_kandV, @e_korV, @e_knotV, @e_ifE, @e_is, @e_isnot, @e_neg, @e_kneg, @e_par, @e_asg, @e_gnil, @e_gcons, @e_slT, @e_slL, @e_nopart, @e_part, @e_kpart, @e_sum, @e_min, @e_max, @e_abs, @e_kabs, @e_MM, @e_kMM, @e_tupOf, @e_lstOf, @e_isi, @e_inI, @e_dget, @e_din, @e_dnew, @e_catT, @e_catL, @e_index, @e_eq, @e_chain, @e_kchain, @e_kchain2, @e_drop, @e_next, @e_brk, @e_cnt, @e_retnon, @e_setK, @e_iL, @e_kL, @e_iT, @e_kT, @e_iR1, @e_iR2, @e_for, @e_yes, @e_lc, @e_raise, @e_try, @e_isX, @e_xf]
  | ((with_reducible refine' e_var ?k1 ?_); (case k1 => exact rfl))
  | ((with_reducible refine' e_kset ?k1 ?k2 ?_); (case k1 => exact rfl); (case k2 => (with_reducible (first | exact st0 | exact st1 | exact st2 | exact st3 | exact st4 | exact st5 | exact st6 | exact st7 | exact st8 | exact st9 | exact st10 | exact st11 | exact st12 | exact st13 | exact st14 | exact st15 | exact st16 | exact st17 | exact st18 | exact st19 | exact st20))))
  | ((with_reducible refine' e_ktup ?k1 ?k2 ?_); (case k1 => exact rfl); (case k2 => exact rfl))
  | ((with_reducible refine' e_kix ?k1 ?k2 ?k3 ?_); (case k1 => exact rfl); (case k2 => exact rfl); (case k3 => exact rfl))
  | ((with_reducible refine' e_vn ?k1 ?_); (case k1 => exact rfl))
  | ((with_reducible refine' e_varL ?k1 ?k2 ?_); (case k1 => exact rfl); (case k2 => (with_reducible (first | exact st0 | exact st1 | exact st2 | exact st3 | exact st4 | exact st5 | exact st6 | exact st7 | exact st8 | exact st9 | exact st10 | exact st11 | exact st12 | exact st13 | exact st14 | exact st15 | exact st16 | exact st17 | exact st18 | exact st19 | exact st20))))
  | ((with_reducible refine' e_app ?k1 ?_); (case k1 => exact rfl))
  | ((with_reducible refine' e_kapp ?k1 ?k2 ?k3 ?_); (case k1 => exact rfl); (case k2 => (simp only [List.length_append, List.length_map, List.length_cons, List.length_nil]; omega)); (case k3 => (with_reducible (first | exact st0 | exact st1 | exact st2 | exact st3 | exact st4 | exact st5 | exact st6 | exact st7 | exact st8 | exact st9 | exact st10 | exact st11 | exact st12 | exact st13 | exact st14 | exact st15 | exact st16 | exact st17 | exact st18 | exact st19 | exact st20))))
  | ((with_reducible refine' e_ksetF ?k1 ?k2 ?_); (case k1 => exact rfl); (case k2 => (with_reducible (first | exact st0 | exact st1 | exact st2 | exact st3 | exact st4 | exact st5 | exact st6 | exact st7 | exact st8 | exact st9 | exact st10 | exact st11 | exact st12 | exact st13 | exact st14 | exact st15 | exact st16 | exact st17 | exact st18 | exact st19 | exact st20))))
  | ((with_reducible refine' e_klen ?k1 ?k2 ?_); (case k1 => exact rfl); (case k2 => exact rfl))
  | ((with_reducible refine' e_klst ?k1 ?k2 ?_); (case k1 => exact rfl); (case k2 => exact rfl))
  | ((with_reducible refine' e_gtup ?k1 ?_); (case k1 => exact rfl))
  | ((with_reducible refine' e_gN ?k1 ?k2 ?_); (case k1 => exact rfl); (case k2 => (with_reducible (first | exact st0 | exact st1 | exact st2 | exact st3 | exact st4 | exact st5 | exact st6 | exact st7 | exact st8 | exact st9 | exact st10 | exact st11 | exact st12 | exact st13 | exact st14 | exact st15 | exact st16 | exact st17 | exact st18 | exact st19 | exact st20))))
  | ((with_reducible refine' e_varT ?k1 ?k2 ?_); (case k1 => exact rfl); (case k2 => (with_reducible (first | exact st0 | exact st1 | exact st2 | exact st3 | exact st4 | exact st5 | exact st6 | exact st7 | exact st8 | exact st9 | exact st10 | exact st11 | exact st12 | exact st13 | exact st14 | exact st15 | exact st16 | exact st17 | exact st18 | exact st19 | exact st20))))
  | ((with_reducible refine' e_mulR ?k1 ?k2 ?_); (case k1 => omega); (case k2 => omega))
  | ((with_reducible refine' e_mulL ?k1 ?k2 ?_); (case k1 => omega); (case k2 => omega))
  | ((with_reducible refine' e_div ?k1 ?k2 ?_); (case k1 => omega); (case k2 => omega))
  | ((with_reducible refine' e_mod ?k1 ?_); (case k1 => omega))
  | ((with_reducible refine' e_retN ?k1 ?_); (case k1 => exact rfl))
  | ((with_reducible refine' e_retNO ?k1 ?k2 ?_); (case k1 => exact rfl); (case k2 => (with_reducible (first | exact st0 | exact st1 | exact st2 | exact st3 | exact st4 | exact st5 | exact st6 | exact st7 | exact st8 | exact st9 | exact st10 | exact st11 | exact st12 | exact st13 | exact st14 | exact st15 | exact st16 | exact st17 | exact st18 | exact st19 | exact st20))))
  | ((with_reducible refine' e_setIx1 ?k1 ?_); (case k1 => exact rfl))
  | ((with_reducible refine' e_ksetIx ?k1 ?k2 ?k3 ?_); (case k1 => exact rfl); (case k2 => exact rfl); (case k3 => (with_reducible (first | exact st0 | exact st1 | exact st2 | exact st3 | exact st4 | exact st5 | exact st6 | exact st7 | exact st8 | exact st9 | exact st10 | exact st11 | exact st12 | exact st13 | exact st14 | exact st15 | exact st16 | exact st17 | exact st18 | exact st19 | exact st20))))
  | ((with_reducible refine' e_kpar ?k1 ?k2 ?k3 ?_); (case k1 => exact rfl); (case k2 => exact rfl); (case k3 => (repeat (first | exact set_0 | apply set_s))))
  | ((with_reducible refine' e_aug ?k1 ?_); (case k1 => exact rfl))
  | ((with_reducible refine' e_kaug ?k1 ?k2 ?_); (case k1 => exact rfl); (case k2 => (with_reducible (first | exact st0 | exact st1 | exact st2 | exact st3 | exact st4 | exact st5 | exact st6 | exact st7 | exact st8 | exact st9 | exact st10 | exact st11 | exact st12 | exact st13 | exact st14 | exact st15 | exact st16 | exact st17 | exact st18 | exact st19 | exact st20))))
  | ((with_reducible refine' e_kslT ?k1 ?_); (case k1 => exact rfl))
  | ((with_reducible refine' e_kslL ?k1 ?_); (case k1 => exact rfl))
  | ((with_reducible refine' e_ksum ?k1 ?_); (case k1 => exact rfl))
  | ((with_reducible refine' e_ktupOf ?k1 ?k2 ?_); (case k1 => exact rfl); (case k2 => exact rfl))
  | ((with_reducible refine' e_klstOf ?k1 ?k2 ?_); (case k1 => exact rfl); (case k2 => exact rfl))
  | ((with_reducible refine' e_kisi ?k1 ?k2 ?k3 ?_); (case k1 => exact rfl); (case k2 => exact rfl); (case k3 => (first | exact ks_ii | exact ks_ib | exact ks_bi | exact ks_bb | exact ks_ni | exact ks_nb | exact ks_tt | exact ks_lt | exact ks_it | exact ks_nt | exact ks_ti | exact ks_si)))
  | ((with_reducible refine' e_kR1 ?k1 ?k2 ?_); (case k1 => omega); (case k2 => omega))
  | ((with_reducible refine' e_kR2 ?k1 ?_); (case k1 => omega))
  ))
local macro_rules | `(tactic| walk_at "wk0") => `(tactic| (unfold endsF; (with_reducible refine' st_rho ?k1 ?_); (case k1 => repeat (first | exact rh_0 | (with_reducible apply rh_m) | (with_reducible apply rh_n) | apply rh_s))))
local macro_rules | `(tactic| walk_at "set") => `(tactic| with_reducible (first | exact st0 | exact st1 | exact st2 | exact st3 | exact st4 | exact st5 | exact st6 | exact st7 | exact st8 | exact st9 | exact st10 | exact st11 | exact st12 | exact st13 | exact st14 | exact st15 | exact st16 | exact st17 | exact st18 | exact st19 | exact st20))
abbrev s_law_small : Stmt := topS 27
abbrev n_law_small : List Str := ["bag", "many", "scale", "rising", "arcs", "turn", "start", "end", "cost"]
theorem sc_law_small : FnScope ["bag", "many", "scale", "rising", "arcs", "turn", "start", "end", "cost"] ["bag"] (defScope s_law_small) := ⟨rfl, rfl, rfl, by decide +kernel, rfl, by decide +kernel, by decide +kernel⟩
theorem bi_law_small : BindOk "_law_small" s_law_small ["bag"] := fun _ _ _ _ _ _ us hl => match us, hl with | [_], _ => rfl
def graphD (n : Nat) (arcs : List Arc) (R : List Rnd) : Dt := .tup [.int (n : Int), arcsD arcs, rndsD R]
def frSmall : FR := ⟨Bag, fun b => [.own true (.lst (bagD b))], fun _ => True, fun _ r os => ∃ (n : Nat) (arcs : List Arc) (b : Bag), r = .dat (graphD n arcs (roundsN n arcs)) ∧ os = [.lst (bagD b)] ∧ 1 ≤ n ∧ n ≤ 5 ∧ okA n arcs ∧ arcs.length ≤ 18⟩
section
variable {P : Program} {w : World} {K : PySem.W.Frag} {mg : Str → Option Value} {base : Heap}
theorem ok_small (D : Df K mg "_law_small" s_law_small) (B : Bi mg) (c_law_draw : Cal P w K mg base 1 "_law_draw" 2 frDraw.sp) (c_law_pick : Cal P w K mg base 2 "_law_pick" 2 frPick.sp) (c_law_rounds : Cal P w K mg base 2 "_law_rounds" 2 fsRounds.sp) : Cal P w K mg base 3 "_law_small" 1 frSmall.sp := by
  refine cal_of D sc_law_small bi_law_small fun f cdv A outer s H E hr => ⟨_, _, (ps_cons' (ps_set' 1 sc_law_small.nd (pd_add pd_int (pd_cal c_law_draw (hr.mono (by decide)) (pa_lend (pv_name 0) (pa_cons' pd_int pa_nil')))))
      (ps_cons' (ps_set' 2 sc_law_small.nd (pd_cal c_law_pick (hr.mono (by decide)) (pa_lend (pv_name 0) (pa_cons' (PF.pd (pf_lst (pa_cons' pd_int (pa_cons' pd_int (pa_cons' pd_int (pa_cons' pd_int (pa_cons' pd_int pa_nil'))))))) pa_nil'))))
      (ps_cons' (ps_set' 3 sc_law_small.nd (PCm.pd (c_eqI (pd_cal c_law_draw (hr.mono (by decide)) (pa_lend (pv_name 0) (pa_cons' pd_int pa_nil'))) pd_int)))
      (ps_cons' (ps_setF' 4 sc_law_small.nd (pf_lst pa_nil'))
      (ps_cons' (ps_for' PassesOwn.never rfl (pi_range1' B.range (pd_cal c_law_draw (hr.mono (by decide)) (pa_lend (pv_name 0) (pa_cons' (pd_add (pd_mul pd_int (pd_var 1)) pd_int) pa_nil')))) (pg_name' 5 sc_law_small.nd)
       (ps_cons' (ps_set' 6 sc_law_small.nd (pd_cal c_law_draw (hr.mono (by decide)) (pa_lend (pv_name 0) (pa_cons' (pd_var 1) pa_nil'))))
        (ps_cons' (ps_set' 7 sc_law_small.nd (pd_cal c_law_draw (hr.mono (by decide)) (pa_lend (pv_name 0) (pa_cons' (pd_var 1) pa_nil'))))
        (ps_cons' (ps_set' 8 sc_law_small.nd (pd_sub (pd_cal c_law_draw (hr.mono (by decide)) (pa_lend (pv_name 0) (pa_cons' (pd_var 2) pa_nil'))) (pd_fdiv (pd_var 2) pd_int)))
        (ps_one' (ps_if' (PDW.pdt (pdw_or (pdt_not (pdt_val (pd_var 3))) (pdw_or1 (PCm.pdt (c_lt (pd_var 6) (pd_var 7))))))
         (ps_one' (ps_app' 4 (pd_tup (pa_cons' (pd_var 6) (pa_cons' (pd_var 7) (pa_cons' (pd_var 8) pa_nil'))))))
         ps_nil'))))))
      (ps_one' (ps_ret' (pd_tup (pa_cons' (pd_var 1) (pa_cons' (pd_tupOf B.tuple (pv_name 4)) (pa_cons' (PF.pd (pf_cal c_law_rounds (hr.mono (by decide)) (pa_cons' (pd_var 1) (pa_cons' (pd_var 4) pa_nil')))) pa_nil'))))))))))), ?_⟩
  rintro es P' Ex ρ0 hl ⟨(b : Bag), rfl, _, hp⟩ rfl
  dsimp only [frSmall] at hp
  dsimp only [frSmall]
  walk_at "wk0"
  walk_at "wk"
  refine call_dr rfl rfl rfl (by decide) (by decide) fun x1 b hx1 ρ e => ?_
  rw [List.set_cons_zero] at e
  subst e
  walk_at "wk"
  rw [show (1 : Int) + (x1 : Int) = ((x1 + 1 : Nat) : Int) by omega]
  obtain ⟨n, hn⟩ : ∃ n, n = x1 + 1 := ⟨_, rfl⟩
  rw [← hn]
  have hn1 : 1 ≤ n := by omega
  have hn5 : n ≤ 5 := by omega
  walk_at "wk"
  refine call_pk rfl rfl rfl rfl (by simp) (by simp) fun y b hy ρ e => ?_
  rw [List.set_cons_zero] at e
  subst e
  obtain ⟨sc, rfl, hs1, hs2⟩ : ∃ sc : Int, y = .int sc ∧ 2 ≤ sc ∧ sc ≤ 400000001 := by
    simp only [List.mem_cons, List.not_mem_nil, or_false] at hy
    rcases hy with rfl | rfl | rfl | rfl | rfl <;> exact ⟨_, rfl, by decide, by decide⟩
  walk_at "wk"
  refine call_dr rfl rfl rfl (by decide) (by decide) fun x2 b hx2 ρ e => ?_
  rw [List.set_cons_zero] at e
  subst e
  walk_at "wk"
  refine call_dr rfl rfl rfl (by omega) (by omega) fun x3 b hx3 ρ e => ?_
  rw [List.set_cons_zero] at e
  subst e
  walk_at "wk"
  rw [Int.toNat_natCast]
  generalize decide ((x2 : Int) = 0) = rs
  refine e_forI [5, 6, 7, 8] (fun i ρ => ∃ (b : Bag) (arcs : List Arc), ρ = [some (.own true (.lst (bagD b))), some (.dat (.int n)), some (.dat (.int sc)), some (.dat (.bl rs)), some (.own false (.lst (arcs.map arcD))), none, none, none, none] ∧ okA n arcs ∧ arcs.length ≤ i) ⟨b, [], rfl, (fun a h => nomatch h), Nat.le_refl _⟩ (fun i x ρ2 hi hI => ?_) (fun ρ2 hI => ?_)
  · obtain ⟨b, arcs, rfl, hok, hal⟩ := hI
    obtain ⟨hi3, rfl⟩ := rng_get hi
    walk_at "wk"
    refine call_dr rfl rfl rfl (by omega) (by omega) fun u b hu ρ e => ?_
    rw [List.set_cons_zero] at e
    subst e
    walk_at "wk"
    refine call_dr rfl rfl rfl (by omega) (by omega) fun v b hv ρ e => ?_
    rw [List.set_cons_zero] at e
    subst e
    walk_at "wk"
    refine call_dr rfl rfl rfl (by omega) (by omega) fun c b hc ρ e => ?_
    rw [List.set_cons_zero] at e
    subst e
    walk_at "wk"
    have hadd : okA n (arcs ++ [(u, v, (c : Int) - sc / 2)]) := fun a ha => by
      rcases List.mem_append.mp ha with ha | ha
      · exact hok a ha
      · rw [List.mem_singleton] at ha
        subst ha
        exact ⟨by dsimp only; omega, by dsimp only; omega⟩
    have hadl : (arcs ++ [(u, v, (c : Int) - sc / 2)]).length ≤ i + 1 := by
      rw [List.length_append, List.length_singleton]
      omega
    have happ : (arcs ++ [(u, v, (c : Int) - sc / 2)]).map arcD = arcs.map arcD ++ [.tup [.int (u : Int), .int (v : Int), .int ((c : Int) - sc / 2)]] := by
      rw [List.map_append]
      rfl
    refine e_ifnb (fun h1 => ?_) (fun h1 => ?_)
    · walk_at "wk"
      refine ⟨b, _, ?_, hadd, hadl⟩
      rw [happ]
      rfl
    · walk_at "wk"
      refine e_ifd (fun h2 => ?_) (fun h2 => ?_)
      · walk_at "wk"
        refine ⟨b, _, ?_, hadd, hadl⟩
        rw [happ]
        rfl
      · walk_at "wk"
        exact ⟨b, arcs, rfl, hok, by omega⟩
  · obtain ⟨b, arcs, rfl, hok, hal⟩ := hI
    rw [rngD_len] at hal
    walk_at "wk"
    refine e_call0 fsRounds (n, arcs) rfl rfl rfl ⟨hn5, by dsimp only; omega⟩ rfl ?_
    dsimp only [fsRounds]
    walk_at "wk"
    exact e_fin rfl (hp _ _ ⟨n, arcs, b, rfl, rfl, hn1, hn5, hok, by omega⟩)
end
end K85
namespace K85
open PySem PySem.Spec PyProof.Rows L2 Wk
local macro_rules | `(tactic| walk_at "wk") => `(tactic| repeat (first
  | apply_rules -symm -exfalso (transparency := .reducible) (maxDepth := 100000) only [@e_seq, @e_c, @e_ix, @e_set, @e_op, @e_I2, @e_fI0, @e_ifS, @e_tst, @e_ktst, @e_ift, @e_iff, @e_ifnt, @e_ifnf, @e_ret, @e_retF, @e_acons, @e_anil, @e_alend, @e_tup, @e_int, @e_kint, @e_vd, @e_setIx, @e_toL, @e_toT, @e_callD, @e_toD, @e_toDo, @e_callF, @e_kown, @e_frz, @e_len, @e_setF, @e_lst, @e_and, @e_or, @e_not, @e_andV, @e_orV, @e_notV, @e_kandV, @e_korV, @e_knotV, @e_ifE, @e_is, @e_isnot, @e_neg, @e_kneg, @e_par, @e_asg, @e_gnil, @e_gcons, @e_slT, @e_slL, @e_nopart, @e_part, @e_kpart, @e_sum, @e_min, @e_max, @e_abs, @e_kabs, @e_MM, @e_kMM, @e_tupOf, @e_lstOf, @e_isi, @e_inI, @e_dget, @e_din, @e_dnew, @e_catT, @e_catL, @e_index, @e_eq, @e_chain, @e_kchain, @e_kchain2, @e_drop, @e_next, @e_brk, @e_cnt, @e_retnon, @e_setK, @e_iL, @e_kL, @e_iT, @e_kT, @e_iR1, @e_iR2, @e_for, @e_yes, @e_lc, @e_raise, @e_try, @e_isX, @e_xf]
  | ((with_reducible refine' e_var ?k1 ?_); (case k1 => exact rfl))
  | ((with_reducible refine' e_kset ?k1 ?k2 ?_); (case k1 => exact rfl); (case k2 => (with_reducible (first | exact st0 | exact st1 | exact st2 | exact st3 | exact st4 | exact st5 | exact st6 | exact st7 | exact st8 | exact st9 | exact st10 | exact st11 | exact st12 | exact st13 | exact st14 | exact st15 | exact st16 | exact st17 | exact st18 | exact st19 | exact st20))))
  | ((with_reducible refine' e_ktup ?k1 ?k2 ?_); (case k1 => exact rfl); (case k2 => exact rfl))
  | ((with_reducible refine' e_kix ?k1 ?k2 ?k3 ?_); (case k1 => exact rfl); (case k2 => exact rfl); (case k3 => exact rfl))
  | ((with_reducible refine' e_vn ?k1 ?_); (case k1 => exact rfl))
  | ((with_reducible refine' e_varL ?k1 ?k2 ?_); (case k1 => exact rfl); (case k2 => (with_reducible (first | exact st0 | exact st1 | exact st2 | exact st3 | exact st4 | exact st5 | exact st6 | exact st7 | exact st8 | exact st9 | exact st10 | exact st11 | exact st12 | exact st13 | exact st14 | exact st15 | exact st16 | exact st17 | exact st18 | exact st19 | exact st20))))
  | ((with_reducible refine' e_app ?k1 ?_); (case k1 => exact rfl))
  | ((with_reducible refine' e_kapp ?k1 ?k2 ?k3 ?_); (case k1 => exact rfl); (case k2 => (simp only [List.length_append, List.length_map, List.length_cons, List.length_nil]; omega)); (case k3 => (with_reducible (first | exact st0 | exact st1 | exact st2 | exact st3 | exact st4 | exact st5 | exact st6 | exact st7 | exact st8 | exact st9 | exact st10 | exact st11 | exact st12 | exact st13 | exact st14 | exact st15 | exact st16 | exact st17 | exact st18 | exact st19 | exact st20))))
  | ((with_reducible refine' e_ksetF ?k1 ?k2 ?_); (case k1 => exact rfl); (case k2 => (with_reducible (first | exact st0 | exact st1 | exact st2 | exact st3 | exact st4 | exact st5 | exact st6 | exact st7 | exact st8 | exact st9 | exact st10 | exact st11 | exact st12 | exact st13 | exact st14 | exact st15 | exact st16 | exact st17 | exact st18 | exact st19 | exact st20))))
  | ((with_reducible refine' e_klen ?k1 ?k2 ?_); (case k1 => exact rfl); (case k2 => exact rfl))
  | ((with_reducible refine' e_klst ?k1 ?k2 ?_); (case k1 => exact rfl); (case k2 => exact rfl))
  | ((with_reducible refine' e_gtup ?k1 ?_); (case k1 => exact rfl))
  | ((with_reducible refine' e_gN ?k1 ?k2 ?_); (case k1 => exact rfl); (case k2 => (with_reducible (first | exact st0 | exact st1 | exact st2 | exact st3 | exact st4 | exact st5 | exact st6 | exact st7 | exact st8 | exact st9 | exact st10 | exact st11 | exact st12 | exact st13 | exact st14 | exact st15 | exact st16 | exact st17 | exact st18 | exact st19 | exact st20))))
  | ((with_reducible refine' e_varT ?k1 ?k2 ?_); (case k1 => exact rfl); (case k2 => (with_reducible (first | exact st0 | exact st1 | exact st2 | exact st3 | exact st4 | exact st5 | exact st6 | exact st7 | exact st8 | exact st9 | exact st10 | exact st11 | exact st12 | exact st13 | exact st14 | exact st15 | exact st16 | exact st17 | exact st18 | exact st19 | exact st20))))
  | ((with_reducible refine' e_mulR ?k1 ?k2 ?_); (case k1 => omega); (case k2 => omega))
  | ((with_reducible refine' e_mulL ?k1 ?k2 ?_); (case k1 => omega); (case k2 => omega))
  | ((with_reducible refine' e_div ?k1 ?k2 ?_); (case k1 => omega); (case k2 => omega))
  | ((with_reducible refine' e_mod ?k1 ?_); (case k1 => omega))
  | ((with_reducible refine' e_retN ?k1 ?_); (case k1 => exact rfl))
  | ((with_reducible refine' e_retNO ?k1 ?k2 ?_); (case k1 => exact rfl); (case k2 => (with_reducible (first | exact st0 | exact st1 | exact st2 | exact st3 | exact st4 | exact st5 | exact st6 | exact st7 | exact st8 | exact st9 | exact st10 | exact st11 | exact st12 | exact st13 | exact st14 | exact st15 | exact st16 | exact st17 | exact st18 | exact st19 | exact st20))))
  | ((with_reducible refine' e_setIx1 ?k1 ?_); (case k1 => exact rfl))
  | ((with_reducible refine' e_ksetIx ?k1 ?k2 ?k3 ?_); (case k1 => exact rfl); (case k2 => exact rfl); (case k3 => (with_reducible (first | exact st0 | exact st1 | exact st2 | exact st3 | exact st4 | exact st5 | exact st6 | exact st7 | exact st8 | exact st9 | exact st10 | exact st11 | exact st12 | exact st13 | exact st14 | exact st15 | exact st16 | exact st17 | exact st18 | exact st19 | exact st20))))
  | ((with_reducible refine' e_kpar ?k1 ?k2 ?k3 ?_); (case k1 => exact rfl); (case k2 => exact rfl); (case k3 => (repeat (first | exact set_0 | apply set_s))))
  | ((with_reducible refine' e_aug ?k1 ?_); (case k1 => exact rfl))
  | ((with_reducible refine' e_kaug ?k1 ?k2 ?_); (case k1 => exact rfl); (case k2 => (with_reducible (first | exact st0 | exact st1 | exact st2 | exact st3 | exact st4 | exact st5 | exact st6 | exact st7 | exact st8 | exact st9 | exact st10 | exact st11 | exact st12 | exact st13 | exact st14 | exact st15 | exact st16 | exact st17 | exact st18 | exact st19 | exact st20))))
  | ((with_reducible refine' e_kslT ?k1 ?_); (case k1 => exact rfl))
  | ((with_reducible refine' e_kslL ?k1 ?_); (case k1 => exact rfl))
  | ((with_reducible refine' e_ksum ?k1 ?_); (case k1 => exact rfl))
  | ((with_reducible refine' e_ktupOf ?k1 ?k2 ?_); (case k1 => exact rfl); (case k2 => exact rfl))
  | ((with_reducible refine' e_klstOf ?k1 ?k2 ?_); (case k1 => exact rfl); (case k2 => exact rfl))
  | ((with_reducible refine' e_kisi ?k1 ?k2 ?k3 ?_); (case k1 => exact rfl); (case k2 => exact rfl); (case k3 => (first | exact ks_ii | exact ks_ib | exact ks_bi | exact ks_bb | exact ks_ni | exact ks_nb | exact ks_tt | exact ks_lt | exact ks_it | exact ks_nt | exact ks_ti | exact ks_si)))
  | ((with_reducible refine' e_kR1 ?k1 ?k2 ?_); (case k1 => omega); (case k2 => omega))
  | ((with_reducible refine' e_kR2 ?k1 ?_); (case k1 => omega))
  ))
local macro_rules | `(tactic| walk_at "wk0") => `(tactic| (unfold endsF; (with_reducible refine' st_rho ?k1 ?_); (case k1 => repeat (first | exact rh_0 | (with_reducible apply rh_m) | (with_reducible apply rh_n) | apply rh_s))))
local macro_rules | `(tactic| walk_at "set") => `(tactic| with_reducible (first | exact st0 | exact st1 | exact st2 | exact st3 | exact st4 | exact st5 | exact st6 | exact st7 | exact st8 | exact st9 | exact st10 | exact st11 | exact st12 | exact st13 | exact st14 | exact st15 | exact st16 | exact st17 | exact st18 | exact st19 | exact st20))
abbrev s_law_asked : Stmt := topS 38
abbrev n_law_asked : List Str := ["which", "many", "arcs", "paper", "raised", "marks"]
theorem sc_law_asked : FnScope ["which", "many", "arcs", "paper", "raised", "marks"] ["which", "many", "arcs", "paper"] (defScope s_law_asked) := ⟨rfl, rfl, rfl, by decide +kernel, rfl, by decide +kernel, by decide +kernel⟩
theorem bi_law_asked : BindOk "_law_asked" s_law_asked ["which", "many", "arcs", "paper"] := fun _ _ _ _ _ _ us hl => match us, hl with | [_, _, _, _], _ => rfl
theorem pd_calT {X : Cx} {xk : XK} {ex : Addr → List (Str × Dt) → Prop} {e : Expr} {es : List Expr} {pos : Pos} {tr : TA} {pr : PTA} {k n : Nat} {spec : FSpec} {x : Str} {p : Pos} (c : Wk.CalX X.prog X.w X.K X.mg X.base k x n spec) (hr : Room k X.A) (hx : Passes (L2.CX X.prog X.w) X xk) (ha : PAr X ⟨xk, ex⟩ (e :: es) tr pr)
    (hg : Gl X x := by rfl) (hdb : (x == ("__debug__" : Str)) = false := by decide) (he : starEach (e :: es) X.env = (false, eval e X.env) :: starEach es X.env := by rfl) (hpl : (backTo pos (starEach es X.env)).any (·.1) = false := by rfl) :
    PD X ⟨xk, ex⟩ (.Call (.Name x p) (e :: es) [] pos) (tCall (spF X.K n spec) [] xk tr) (pCallD n spec ex pr) := pd_calX (W := ⟨xk, ex⟩) c hr hx ha hg hdb he hpl
inductive Tag where
  | v | m
def chkT (m : Int) (d : Dt) : Option Tag :=
  if m < 1 then some .v else match d with
    | .tup xs => if xs.any (badA m) = true then some .v else if 200 < m ∨ 4000 < xs.length then some .m else none
    | _ => some .v
theorem chk_tag (cN cT : Addr) (m : Int) (d : Dt) : chkR cN cT m d = match chkT m d with
    | none => .ok (.dat .non)
    | some .v => .error (errV cN)
    | some .m => .error (errM cT) := by
  unfold chkR chkT
  by_cases h1 : m < 1
  · rw [if_pos h1, if_pos h1]
  · rw [if_neg h1, if_neg h1]
    cases d with
    | tup xs =>
      dsimp only
      by_cases h2 : xs.any (badA m) = true
      · rw [if_pos h2, if_pos h2]
      · rw [if_neg h2, if_neg h2]
        by_cases h3 : 200 < m ∨ 4000 < xs.length
        · rw [if_pos h3, if_pos h3]
        · rw [if_neg h3, if_neg h3]
    | _ => rfl
def optP : Option Pap → Dt
  | none => .non
  | some x => papD x
def tagD (t : Str) (x : Dt) : Dt := .tup [.str t, x]
def askOut (which : Nat) (m : Int) (d : Dt) (x : Option Pap) : Dt := match chkT m d with
  | some .v => tagD "value" (.str "arcs")
  | some .m => tagD "many" (.str "arcs")
  | none => if which = 0 then tagD "told" (optF (leastMean m.toNat (arcsOf d))) else if which = 1 then (match leastMean m.toNat (arcsOf d) with
      | none => tagD "paper" (.str "round")
      | some q => tagD "told" (paperD q (potOf m.toNat (arcsOf d) q) (tightRound m.toNat (arcsOf d) q (potOf m.toNat (arcsOf d) q))))
    else tagD "told" (.bl (match x with | some x => judgeP m.toNat (arcsOf d) x | none => false))
def fsAsked : FS := ⟨Nat × Int × Dt × Option Pap, fun a => [.dat (.int a.1), .dat (.int a.2.1), .dat a.2.2.1, .dat (optP a.2.2.2)], fun a => preA (a.2.1, a.2.2.1) ∧ (2 ≤ a.1 → ∃ x, a.2.2.2 = some x ∧ small x), fun a => .dat (askOut a.1 a.2.1 a.2.2.1 a.2.2.2), fun _ => []⟩
/-- what the written part says of the three classes -/
structure ExF (K : PySem.W.Frag) (cW cP cN cT : Addr) : Prop where
  eP : PySem.W.exmOne K (.ref cP) (.ref cW) = some true
  eN : PySem.W.exmOne K (.ref cN) (.ref cW) = some true
  eT : PySem.W.exmOne K (.ref cT) (.ref cW) = some true
  xP : ExcC K cP
  xN : ExcC K cN
  xT : ExcC K cT
  fP : XfC K cP
  fN : XfC K cN
  fT : XfC K cT
  nP : PySem.W.findIn K (.ref cP) "reason" = some none
  nN : PySem.W.findIn K (.ref cN) "reason" = some none
  nT : PySem.W.findIn K (.ref cT) "what" = some none
  PP : PySem.W.kitOne K (.ref cP) (.ref cP) = some true
  PN : PySem.W.kitOne K (.ref cP) (.ref cN) = some false
  PT : PySem.W.kitOne K (.ref cP) (.ref cT) = some false
  PV : PySem.W.kitOne K (.ref cP) (.type "ValueError") = some true
  NP : PySem.W.kitOne K (.ref cN) (.ref cP) = some false
  NN : PySem.W.kitOne K (.ref cN) (.ref cN) = some true
  NT : PySem.W.kitOne K (.ref cN) (.ref cT) = some false
  NV : PySem.W.kitOne K (.ref cN) (.type "ValueError") = some true
  TP : PySem.W.kitOne K (.ref cT) (.ref cP) = some false
  TN : PySem.W.kitOne K (.ref cT) (.ref cN) = some false
  TT : PySem.W.kitOne K (.ref cT) (.ref cT) = some true
  TV : PySem.W.kitOne K (.ref cT) (.type "ValueError") = some true
section
variable {P : Program} {w : World} {K : PySem.W.Frag} {mg : Str → Option Value} {base : Heap}
theorem ok_asked {cWedgeError cNoPaper cNoValue cTooMany : Addr} (X : ExF K cWedgeError cNoPaper cNoValue cTooMany) (gWedgeError : mg "WedgeError" = some (.ref cWedgeError)) (gNoPaper : mg "NoPaper" = some (.ref cNoPaper)) (gNoValue : mg "NoValue" = some (.ref cNoValue)) (gTooMany : mg "TooMany" = some (.ref cTooMany))
    (D : Df K mg "_law_asked" s_law_asked) (B : Bi mg) (cleast_mean : CalX P w K mg base 4 "least_mean" 2 (fxLeast cNoValue cTooMany).sp) (cmean_paper : CalX P w K mg base 5 "mean_paper" 2 (fxPaper cNoValue cTooMany cNoPaper).sp) (cshows_mean : CalX P w K mg base 4 "shows_mean" 3 (fxShows cNoValue cTooMany).sp) : Cal P w K mg base 6 "_law_asked" 4 fsAsked.sp := by
  refine cal_of D sc_law_asked bi_law_asked fun f cdv A outer s H E hr => ⟨_, _, (ps_one' (ps_try' (i := 4) (c := .ref cWedgeError) rfl rfl rfl sc_law_asked.nd rfl rfl ⟨rfl, by decide, .inl gWedgeError⟩
       (fun xk ex pn xe tk po => (ps_cons' (ps_if' (PCm.pdt (c_eqI (pd_var 0) pd_int))
         (ps_one' (ps_ret' (pd_tup (pa_cons' pd_str (pa_cons' (pd_calT cleast_mean (hr.mono (by decide)) (passes_call tk fun _ _ _ _ h => h) (pa_cons' (pd_var 1) (pa_cons' (pd_var 2) pa_nil'))) pa_nil')))))
         ps_nil')
        (ps_cons' (ps_if' (PCm.pdt (c_eqI (pd_var 0) pd_int))
         (ps_one' (ps_ret' (pd_tup (pa_cons' pd_str (pa_cons' (pd_calT cmean_paper (hr.mono (by decide)) (passes_call tk fun _ _ _ _ h => h) (pa_cons' (pd_var 1) (pa_cons' (pd_var 2) pa_nil'))) pa_nil')))))
         ps_nil')
        (ps_one' (ps_ret' (pd_tup (pa_cons' pd_str (pa_cons' (pd_calT cshows_mean (hr.mono (by decide)) (passes_call tk fun _ _ _ _ h => h) (pa_cons' (pd_var 1) (pa_cons' (pd_var 2) (pa_cons' (pd_var 3) pa_nil')))) pa_nil'))))))))
       (fun a oe cls d pn hz hf => (ps_cons' (ps_set' 5 sc_law_asked.nd (PF.pd (pf_lst (pa_cons' (pd_isX (cls := cls) (d := d) hz hf B.isinstance gNoPaper (pd_var 4)) (pa_cons' (pd_isX (cls := cls) (d := d) hz hf B.isinstance gNoValue (pd_var 4)) (pa_cons' (pd_isX (cls := cls) (d := d) hz hf B.isinstance gTooMany (pd_var 4)) pa_nil'))))))
        (ps_cons' (ps_if' (pdt_not (pdt_val (pd_isXb (cls := cls) (d := d) (T := "ValueError") hz hf B.isinstance B.ValueError (pd_var 4) (by decide +kernel))))
         (ps_one' (ps_ret' (pd_tup (pa_cons' pd_str (pa_cons' pd_non pa_nil')))))
         ps_nil')
        (ps_cons' (ps_if' (PCm.pdt (c_eq (by exact hr.units) (pv_name 5) (PD.pv (PF.pd (pf_lst (pa_cons' pd_bl (pa_cons' pd_bl (pa_cons' pd_bl pa_nil'))))))))
         (ps_one' (ps_ret' (pd_tup (pa_cons' pd_str (pa_cons' (pd_xf (cls := cls) (d := d) hz hf (pd_var 4)) pa_nil')))))
         ps_nil')
        (ps_cons' (ps_if' (PCm.pdt (c_eq (by exact hr.units) (pv_name 5) (PD.pv (PF.pd (pf_lst (pa_cons' pd_bl (pa_cons' pd_bl (pa_cons' pd_bl pa_nil'))))))))
         (ps_one' (ps_ret' (pd_tup (pa_cons' pd_str (pa_cons' (pd_xf (cls := cls) (d := d) hz hf (pd_var 4)) pa_nil')))))
         ps_nil')
        (ps_cons' (ps_if' (PCm.pdt (c_eq (by exact hr.units) (pv_name 5) (PD.pv (PF.pd (pf_lst (pa_cons' pd_bl (pa_cons' pd_bl (pa_cons' pd_bl pa_nil'))))))))
         (ps_one' (ps_ret' (pd_tup (pa_cons' pd_str (pa_cons' (pd_xf (cls := cls) (d := d) hz hf (pd_var 4)) pa_nil')))))
         ps_nil')
        (ps_one' (ps_ret' (pd_tup (pa_cons' pd_str (pa_cons' pd_non pa_nil'))))))))))))), ?_⟩
  rintro es P' Ex ρ0 hl ⟨⟨q, m, d, x⟩, rfl, ⟨hpre, hq⟩, hp⟩ rfl
  dsimp only [fsAsked] at hpre hq hp
  dsimp only [fsAsked]
  walk_at "wk0"
  refine e_try ?_
  generalize hEx : exTry _ _ _ _ _ _ = EX
  have eP : P' (.dat (tagD "paper" (.str "round"))) [] → EX (errP cNoPaper).1 (errP cNoPaper).2 := fun h => by
    rw [← hEx]
    refine e_exc X.eP fun a dd => ?_
    refine st_rho (ρ' := [none, none, none, none, some (.dat (.exc a cNoPaper dd [("reason", .str "round")])), none]) rfl ?_
    dsimp only [errP]
    walk_at "wk"
    refine e_kisX X.xP X.PP ?_
    walk_at "wk"
    refine e_kisX X.xP X.PN ?_
    walk_at "wk"
    refine e_kisX X.xP X.PT ?_
    walk_at "wk"
    refine e_kisX X.xP X.PV ?_
    walk_at "wk"
    refine e_keq (b := true) rfl rfl rfl rfl rfl ?_
    walk_at "wk"
    refine e_kxf X.fP X.nP (z := .str "round") (by simp [List.lookup]) ?_
    walk_at "wk"
    exact e_fin rfl h
  have eN : P' (.dat (tagD "value" (.str "arcs"))) [] → EX (errV cNoValue).1 (errV cNoValue).2 := fun h => by
    rw [← hEx]
    refine e_exc X.eN fun a dd => ?_
    refine st_rho (ρ' := [none, none, none, none, some (.dat (.exc a cNoValue dd [("reason", .str "arcs")])), none]) rfl ?_
    dsimp only [errV]
    walk_at "wk"
    refine e_kisX X.xN X.NP ?_
    walk_at "wk"
    refine e_kisX X.xN X.NN ?_
    walk_at "wk"
    refine e_kisX X.xN X.NT ?_
    walk_at "wk"
    refine e_kisX X.xN X.NV ?_
    walk_at "wk"
    refine e_keq (b := false) rfl rfl rfl rfl rfl ?_
    walk_at "wk"
    refine e_keq (b := true) rfl rfl rfl rfl rfl ?_
    walk_at "wk"
    refine e_kxf X.fN X.nN (z := .str "arcs") (by simp [List.lookup]) ?_
    walk_at "wk"
    exact e_fin rfl h
  have eT : P' (.dat (tagD "many" (.str "arcs"))) [] → EX (errM cTooMany).1 (errM cTooMany).2 := fun h => by
    rw [← hEx]
    refine e_exc X.eT fun a dd => ?_
    refine st_rho (ρ' := [none, none, none, none, some (.dat (.exc a cTooMany dd [("what", .str "arcs")])), none]) rfl ?_
    dsimp only [errM]
    walk_at "wk"
    refine e_kisX X.xT X.TP ?_
    walk_at "wk"
    refine e_kisX X.xT X.TN ?_
    walk_at "wk"
    refine e_kisX X.xT X.TT ?_
    walk_at "wk"
    refine e_kisX X.xT X.TV ?_
    walk_at "wk"
    refine e_keq (b := false) rfl rfl rfl rfl rfl ?_
    walk_at "wk"
    refine e_keq (b := false) rfl rfl rfl rfl rfl ?_
    walk_at "wk"
    refine e_keq (b := true) rfl rfl rfl rfl rfl ?_
    walk_at "wk"
    refine e_kxf X.fT X.nT (z := .str "arcs") (by simp [List.lookup]) ?_
    walk_at "wk"
    exact e_fin rfl h
  walk_at "wk"
  cases hc : chkT m d with
  | some t =>
   cases t with
   | v =>
    have hp' : P' (.dat (tagD "value" (.str "arcs"))) [] := by
      unfold askOut at hp
      rw [hc] at hp
      exact hp
    have hch : chkR cNoValue cTooMany m d = .error (errV cNoValue) := by rw [chk_tag, hc]
    refine e_ifd (fun h0 => ?_) (fun h0 => ?_)
    · walk_at "wk"
      refine e_callX (fxLeast cNoValue cTooMany) (m, d) rfl rfl rfl hpre rfl ?_
      dsimp only [fxLeast]
      rw [behind_err hch]
      exact eN hp'
    · walk_at "wk"
      refine e_ifd (fun h1 => ?_) (fun h1 => ?_)
      · walk_at "wk"
        refine e_callX (fxPaper cNoValue cTooMany cNoPaper) (m, d) rfl rfl rfl hpre rfl ?_
        dsimp only [fxPaper]
        rw [behind_err hch]
        exact eN hp'
      · obtain ⟨x0, rfl, hx0⟩ := hq (by omega)
        walk_at "wk"
        refine e_callX (fxShows cNoValue cTooMany) ((m, d), x0) rfl rfl rfl ⟨hpre, hx0⟩ rfl ?_
        dsimp only [fxShows]
        rw [behind_err hch]
        exact eN hp'
   | m =>
    have hp' : P' (.dat (tagD "many" (.str "arcs"))) [] := by
      unfold askOut at hp
      rw [hc] at hp
      exact hp
    have hch : chkR cNoValue cTooMany m d = .error (errM cTooMany) := by rw [chk_tag, hc]
    refine e_ifd (fun h0 => ?_) (fun h0 => ?_)
    · walk_at "wk"
      refine e_callX (fxLeast cNoValue cTooMany) (m, d) rfl rfl rfl hpre rfl ?_
      dsimp only [fxLeast]
      rw [behind_err hch]
      exact eT hp'
    · walk_at "wk"
      refine e_ifd (fun h1 => ?_) (fun h1 => ?_)
      · walk_at "wk"
        refine e_callX (fxPaper cNoValue cTooMany cNoPaper) (m, d) rfl rfl rfl hpre rfl ?_
        dsimp only [fxPaper]
        rw [behind_err hch]
        exact eT hp'
      · obtain ⟨x0, rfl, hx0⟩ := hq (by omega)
        walk_at "wk"
        refine e_callX (fxShows cNoValue cTooMany) ((m, d), x0) rfl rfl rfl ⟨hpre, hx0⟩ rfl ?_
        dsimp only [fxShows]
        rw [behind_err hch]
        exact eT hp'
  | none =>
    have hch : chkR cNoValue cTooMany m d = .ok (.dat .non) := by rw [chk_tag, hc]
    unfold askOut at hp
    rw [hc] at hp
    dsimp only at hp
    refine e_ifd (fun h0 => ?_) (fun h0 => ?_)
    · rw [if_pos (by omega)] at hp
      walk_at "wk"
      refine e_callX (fxLeast cNoValue cTooMany) (m, d) rfl rfl rfl hpre rfl ?_
      dsimp only [fxLeast]
      rw [behind_ok hch]
      dsimp only [outX]
      walk_at "wk"
      exact e_fin rfl hp
    · rw [if_neg (by omega)] at hp
      walk_at "wk"
      refine e_ifd (fun h1 => ?_) (fun h1 => ?_)
      · rw [if_pos (by omega)] at hp
        walk_at "wk"
        refine e_callX (fxPaper cNoValue cTooMany cNoPaper) (m, d) rfl rfl rfl hpre rfl ?_
        dsimp only [fxPaper]
        rw [behind_ok hch]
        unfold paperR
        cases hm : leastMean m.toNat (arcsOf d) with
        | none =>
          rw [hm] at hp
          exact eP hp
        | some mm =>
          rw [hm] at hp
          dsimp only [outX]
          walk_at "wk"
          exact e_fin rfl hp
      · rw [if_neg (by omega)] at hp
        obtain ⟨x0, rfl, hx0⟩ := hq (by omega)
        walk_at "wk"
        refine e_callX (fxShows cNoValue cTooMany) ((m, d), x0) rfl rfl rfl ⟨hpre, hx0⟩ rfl ?_
        dsimp only [fxShows]
        rw [behind_ok hch]
        dsimp only [outX]
        walk_at "wk"
        exact e_fin rfl hp
end
end K85
namespace K85
/-! ### walks -/
/-- l is a walk from u to v along arcs of G -/
def IsW (G : List Arc) : Nat → List Arc → Nat → Prop
  | u, [], v => u = v
  | u, a :: l, v => a ∈ G ∧ a.1 = u ∧ IsW G a.2.1 l v
/-- its cost above the mean -/
def costW (m : Fc) : List Arc → Int
  | [] => 0
  | a :: l => spareF a m + costW m l
def NoNeg (G : List Arc) (m : Fc) : Prop := ∀ x l, IsW G x l x → 0 ≤ costW m l
/-- potentials: they rise along no arc by more than its cost above the mean -/
def Feas (G : List Arc) (m : Fc) (p : List Int) : Prop := ∀ a ∈ G, p.getD a.2.1 0 ≤ p.getD a.1 0 + spareF a m
section
variable {G : List Arc} {m : Fc}
theorem isW_app : ∀ {l l' : List Arc} {u v w : Nat}, IsW G u l v → IsW G v l' w → IsW G u (l ++ l') w
  | [], _, _, _, _, h, h' => by
    have h : _ = _ := h
    subst h
    exact h'
  | a :: l, _, _, _, _, h, h' => ⟨h.1, h.2.1, isW_app h.2.2 h'⟩
theorem costW_app : ∀ (l l' : List Arc), costW m (l ++ l') = costW m l + costW m l'
  | [], l' => (Int.zero_add _).symm
  | a :: l, l' => by
    show spareF a m + costW m (l ++ l') = spareF a m + costW m l + costW m l'
    rw [costW_app l l']
    omega
theorem feas_tele {p : List Int} (h : Feas G m p) : ∀ {l : List Arc} {u v : Nat}, IsW G u l v → p.getD v 0 ≤ p.getD u 0 + costW m l
  | [], u, v, hw => by
    have hw : u = v := hw
    subst hw
    show _ ≤ _ + (0 : Int)
    omega
  | a :: l, u, v, hw => by
    obtain ⟨h1, h2, h3⟩ := hw
    have ih := feas_tele h h3
    have := h a h1
    rw [h2] at this
    show _ ≤ _ + (spareF a m + costW m l)
    omega
theorem feas_noneg {p : List Int} (h : Feas G m p) : NoNeg G m := fun x l hw => by
  have := feas_tele h hw
  omega
/-- the nodes of a walk behind its start -/
def tgts (l : List Arc) : List Nat := l.map fun a => a.2.1
/-- a node on the way: the walk is split there -/
theorem split_at : ∀ {l : List Arc} {u v x : Nat}, IsW G u l v → x ∈ tgts l → ∃ l1 l2, l = l1 ++ l2 ∧ l1 ≠ [] ∧ IsW G u l1 x ∧ IsW G x l2 v
  | [], _, _, _, _, h => by simp [tgts] at h
  | a :: l, u, v, x, hw, h => by
    obtain ⟨h1, h2, h3⟩ := hw
    by_cases e : a.2.1 = x
    · subst e
      exact ⟨[a], l, rfl, by simp, ⟨h1, h2, rfl⟩, h3⟩
    · have h' : x ∈ tgts l := by
        rcases List.mem_cons.mp h with z | z
        · exact absurd z.symm e
        · exact z
      obtain ⟨l1, l2, rfl, hn, w1, w2⟩ := split_at h3 h'
      exact ⟨a :: l1, l2, rfl, by simp, ⟨h1, h2, w1⟩, w2⟩
/-- a node met twice: the walk has a closed part -/
theorem closed_part : ∀ {l : List Arc} {u v : Nat}, IsW G u l v → ¬ (u :: tgts l).Nodup → ∃ l1 l2 l3 x, l = l1 ++ (l2 ++ l3) ∧ l2 ≠ [] ∧ IsW G u l1 x ∧ IsW G x l2 x ∧ IsW G x l3 v
  | [], u, v, _, h => absurd (by simp [tgts]) h
  | a :: l, u, v, hw, h => by
    by_cases hu : u ∈ tgts (a :: l)
    · obtain ⟨l1, l2, e, hn, w1, w2⟩ := split_at hw hu
      exact ⟨[], l1, l2, u, by rw [e]; rfl, hn, rfl, w1, w2⟩
    · obtain ⟨h1, h2, h3⟩ := hw
      have h' : ¬ (a.2.1 :: tgts l).Nodup := fun z => h (List.nodup_cons.mpr ⟨hu, z⟩)
      obtain ⟨l1, l2, l3, x, e, hn, w1, w2, w3⟩ := closed_part h3 h'
      exact ⟨a :: l1, l2, l3, x, by rw [e]; rfl, hn, ⟨h1, h2, w1⟩, w2, w3⟩
theorem tgts_lt {n : Nat} (hG : okA n G) : ∀ {l : List Arc} {u v : Nat}, IsW G u l v → ∀ x ∈ tgts l, x < n
  | [], _, _, _, x, h => by simp [tgts] at h
  | a :: l, u, v, hw, x, h => by
    rcases List.mem_cons.mp h with z | z
    · rw [z]; exact (hG a hw.1).2
    · exact tgts_lt hG hw.2.2 x z
/-- a walk of n arcs has a closed part -/
theorem long_closed {n : Nat} (hG : okA n G) {l : List Arc} {u v : Nat} (hw : IsW G u l v) (hl : n ≤ l.length) (hn : 0 < l.length) : ∃ l1 l2 l3 x, l = l1 ++ (l2 ++ l3) ∧ l2 ≠ [] ∧ IsW G u l1 x ∧ IsW G x l2 x ∧ IsW G x l3 v := by
  refine closed_part hw fun hd => ?_
  have hu : u < n := by
    cases l with
    | nil => simp at hn
    | cons a l => rw [← hw.2.1]; exact (hG a hw.1).1
  have := nodup_le n (u :: tgts l) hd fun x hx => by
    rcases List.mem_cons.mp hx with z | z
    · rw [z]; exact hu
    · exact tgts_lt hG hw x z
  unfold tgts at this
  rw [List.length_cons, List.length_map] at this
  omega
/-- where no round is negative, a walk of fewer than n arcs is as cheap -/
theorem short_walk {n : Nat} (hG : okA n G) (hN : NoNeg G m) (hn : 0 < n) : ∀ (k : Nat) {l : List Arc} {u v : Nat}, l.length ≤ k → IsW G u l v → ∃ l', IsW G u l' v ∧ l'.length < n ∧ costW m l' ≤ costW m l
  | 0, l, u, v, hk, hw => ⟨l, hw, by omega, Int.le_refl _⟩
  | k + 1, l, u, v, hk, hw => by
    by_cases hl : l.length < n
    · exact ⟨l, hw, hl, Int.le_refl _⟩
    · obtain ⟨l1, l2, l3, x, rfl, h2, w1, w2, w3⟩ := long_closed hG hw (by omega) (by omega)
      have hp : 0 < l2.length := List.length_pos_iff.mpr h2
      rw [List.length_append, List.length_append] at hk
      obtain ⟨l', w', a1, a2⟩ := short_walk hG hN hn k (l := l1 ++ l3) (by rw [List.length_append]; omega) (isW_app w1 w3)
      refine ⟨l', w', a1, Int.le_trans a2 ?_⟩
      have := hN x l2 w2
      rw [costW_app, costW_app, costW_app]
      omega
end
end K85
namespace K85
/-! ### Bellman and Ford, in place -/
section
variable {G : List Arc} {m : Fc} {n : Nat}
theorem getD_set {l : List Int} {i j : Nat} {x : Int} (hi : i < l.length) : (l.set i x).getD j 0 = if j = i then x else l.getD j 0 := by
  rw [List.getD_eq_getElem?_getD, List.getD_eq_getElem?_getD]
  by_cases h : j = i
  · subst h
    rw [if_pos rfl, List.getElem?_set_self hi]
    rfl
  · rw [if_neg h, List.getElem?_set_ne (Ne.symm h)]
/-- each entry is some walk's cost -/
def Tells (G : List Arc) (m : Fc) (n : Nat) (p : List Int) : Prop := p.length = n ∧ ∀ v, v < n → ∃ u l, IsW G u l v ∧ p.getD v 0 = costW m l
theorem bf1_tells {a : Arc} (hG : okA n G) (ha : a ∈ G) {st : List Int × Bool} (h : Tells G m n st.1) : Tells G m n (bf1 m st a).1 := by
  unfold bf1
  split
  · have hv := (hG a ha).2
    refine ⟨by rw [List.length_set]; exact h.1, fun v hvn => ?_⟩
    rw [getD_set (by rw [h.1]; exact hv)]
    by_cases e : v = a.2.1
    · subst e
      rw [if_pos rfl]
      obtain ⟨u, l, w, c⟩ := h.2 a.1 (hG a ha).1
      refine ⟨u, l ++ [a], isW_app w ⟨ha, rfl, rfl⟩, ?_⟩
      rw [costW_app, c]
      show _ = _ + (spareF a m + 0)
      omega
    · rw [if_neg e]
      exact h.2 v hvn
  · exact h
theorem bf1_le {a : Arc} (hG : okA n G) (ha : a ∈ G) {st : List Int × Bool} (hl : st.1.length = n) : (bf1 m st a).1.length = n ∧ (∀ v, (bf1 m st a).1.getD v 0 ≤ st.1.getD v 0) ∧ (bf1 m st a).1.getD a.2.1 0 ≤ st.1.getD a.1 0 + spareF a m ∧ (st.2 = true → (bf1 m st a).2 = true) ∧
    ((bf1 m st a).2 = true → st.2 = true ∨ ∃ v, v < n ∧ (bf1 m st a).1.getD v 0 < st.1.getD v 0) ∧ ((bf1 m st a).2 = false → bf1 m st a = st ∧ st.1.getD a.2.1 0 ≤ st.1.getD a.1 0 + spareF a m) := by
  have hv := (hG a ha).2
  unfold bf1
  split
  · rename_i hc
    refine ⟨by rw [List.length_set]; exact hl, fun v => ?_, ?_, fun _ => rfl, fun _ => .inr ⟨a.2.1, hv, ?_⟩, fun h => nomatch h⟩
    · rw [getD_set (by omega)]
      split
      · rename_i e; subst e; omega
      · exact Int.le_refl _
    · rw [getD_set (by omega), if_pos rfl]
      exact Int.le_refl _
    · rw [getD_set (by omega), if_pos rfl]
      exact hc
  · rename_i hc
    exact ⟨hl, fun v => Int.le_refl _, by omega, id, fun h => .inl h, fun h => ⟨rfl, by omega⟩⟩
theorem bf_fold (hG : okA n G) : ∀ (L : List Arc), (∀ a ∈ L, a ∈ G) → ∀ st : List Int × Bool, st.1.length = n → (L.foldl (bf1 m) st).1.length = n ∧ (∀ v, (L.foldl (bf1 m) st).1.getD v 0 ≤ st.1.getD v 0) ∧ (∀ a ∈ L, (L.foldl (bf1 m) st).1.getD a.2.1 0 ≤ st.1.getD a.1 0 + spareF a m) ∧
    ((L.foldl (bf1 m) st).2 = true → st.2 = true ∨ ∃ v, v < n ∧ (L.foldl (bf1 m) st).1.getD v 0 < st.1.getD v 0) ∧ ((L.foldl (bf1 m) st).2 = false → L.foldl (bf1 m) st = st ∧ ∀ a ∈ L, st.1.getD a.2.1 0 ≤ st.1.getD a.1 0 + spareF a m) ∧ (Tells G m n st.1 → Tells G m n (L.foldl (bf1 m) st).1)
  | [], _, st, hl => ⟨hl, fun _ => Int.le_refl _, (fun _ h => nomatch h), fun h => .inl h, fun _ => ⟨rfl, (fun _ h => nomatch h)⟩, id⟩
  | a :: L, hL, st, hl => by
    have ha := hL a List.mem_cons_self
    obtain ⟨b1, b2, b3, b4, b5, b6⟩ := bf1_le (m := m) hG ha hl
    obtain ⟨c1, c2, c3, c4, c5, c6⟩ := bf_fold hG L (fun x hx => hL x (List.mem_cons_of_mem _ hx)) (bf1 m st a) b1
    rw [List.foldl_cons]
    refine ⟨c1, fun v => Int.le_trans (c2 v) (b2 v), fun x hx => ?_, fun h => ?_, fun h => ?_, fun h => c6 (bf1_tells hG ha h)⟩
    · rcases List.mem_cons.mp hx with e | e
      · subst e
        exact Int.le_trans (c2 _) b3
      · have h1 := c3 x e
        have h2 := b2 x.1
        omega
    · rcases c4 h with h1 | ⟨v, hv, h1⟩
      · rcases b5 h1 with h2 | ⟨v, hv, h2⟩
        · exact .inl h2
        · have := c2 v
          exact .inr ⟨v, hv, by omega⟩
      · have := b2 v
        exact .inr ⟨v, hv, by omega⟩
    · obtain ⟨d1, d2⟩ := c5 h
      rw [d1] at h
      obtain ⟨e1, e2⟩ := b6 h
      rw [e1] at d1 d2
      rw [e1]
      refine ⟨d1, fun x hx => ?_⟩
      rcases List.mem_cons.mp hx with e | e
      · subst e; exact e2
      · exact d2 x e
theorem last_arc : ∀ {l : List Arc} {a : Arc} {u v : Nat}, IsW G u (l ++ [a]) v → a ∈ G ∧ IsW G u l a.1 ∧ a.2.1 = v
  | [], a, u, v, h => ⟨h.1, h.2.1.symm, h.2.2⟩
  | b :: l, a, u, v, h => by
    obtain ⟨h1, h2, h3⟩ := h
    obtain ⟨x1, x2, x3⟩ := last_arc h3
    exact ⟨x1, ⟨h1, h2, x2⟩, x3⟩
theorem potF_ok (hG : okA n G) (hN : NoNeg G m) (hn : 0 < n) : ∀ (f k : Nat) (told : List Int), Tells G m n told → (∀ u l v, v < n → IsW G u l v → l.length ≤ k → told.getD v 0 ≤ costW m l) → n ≤ k + f → 0 < f → ∃ p, potF m G f told = some p ∧ p.length = n ∧ Feas G m p
  | 0, _, _, _, _, _, hf => absurd hf (by omega)
  | f + 1, k, told, hT, hk, hkf, _ => by
    obtain ⟨c1, c2, c3, c4, c5, c6⟩ := bf_fold (m := m) hG G (fun _ h => h) (told, false) hT.1
    have hT2 := c6 hT
    have ep : G.foldl (bf1 m) (told, false) = bfPass m G told := rfl
    rw [ep] at c1 c2 c3 c4 c5 hT2
    unfold potF
    cases q : (bfPass m G told).2 with
    | false =>
      rw [if_neg Bool.false_ne_true]
      obtain ⟨d1, d2⟩ := c5 q
      exact ⟨_, rfl, c1, fun a ha => by rw [d1]; exact d2 a ha⟩
    | true =>
      rw [if_pos rfl]
      have hkn : k + 1 < n := by
        by_cases h : k + 1 < n
        · exact h
        · exfalso
          rcases c4 q with z | ⟨v, hv, z⟩
          · cases z
          · obtain ⟨u, l, w, e⟩ := hT2.2 v hv
            obtain ⟨l', w', a1, a2⟩ := short_walk hG hN hn l.length (Nat.le_refl _) w
            have := hk u l' v hv w' (by omega)
            dsimp only at z
            omega
      refine potF_ok hG hN hn f (k + 1) _ hT2 (fun u l v hv w hl => ?_) (by omega) (by omega)
      rcases List.eq_nil_or_concat l with e | ⟨l', a, e⟩
      · subst e
        exact Int.le_trans (c2 v) (hk u [] v hv w (Nat.zero_le _))
      · rw [List.concat_eq_append] at e
        subst e
        obtain ⟨x1, x2, x3⟩ := last_arc w
        subst x3
        rw [List.length_append, List.length_singleton] at hl
        have h1 := c3 a x1
        have h2 := hk u l' a.1 (hG a x1).1 x2 (by omega)
        rw [costW_app]
        show _ ≤ costW m l' + (spareF a m + 0)
        dsimp only at h1
        omega
theorem zeros_tell : Tells G m n (List.replicate n 0) ∧ ∀ u l v, v < n → IsW G u l v → l.length ≤ 0 → (List.replicate n (0 : Int)).getD v 0 ≤ costW m l := by
  have hz : ∀ v, (List.replicate n (0 : Int)).getD v 0 = 0 := fun v => by
    rw [List.getD_eq_getElem?_getD, List.getElem?_replicate]
    split <;> rfl
  refine ⟨⟨List.length_replicate, fun v hv => ⟨v, [], rfl, hz v⟩⟩, fun u l v hv w hl => ?_⟩
  obtain rfl := List.length_eq_zero_iff.mp (by omega : l.length = 0)
  rw [hz]
  exact Int.le_refl _
/-- where no round is negative, n turns and n + 1 turns are enough -/
theorem bf_ok (hG : okA n G) (hN : NoNeg G m) (hn : 0 < n) (f : Nat) (hf : n ≤ f) : ∃ p, potF m G f (List.replicate n 0) = some p ∧ p.length = n ∧ Feas G m p :=
  potF_ok hG hN hn f 0 _ zeros_tell.1 zeros_tell.2 (by omega) (by omega)
end
end K85
namespace K85
/-! ### the rows of least costs -/
def costP : List Arc → Int
  | [] => 0
  | a :: l => a.2.2 + costP l
theorem costP_app : ∀ (l l' : List Arc), costP (l ++ l') = costP l + costP l'
  | [], l' => (Int.zero_add _).symm
  | a :: l, l' => by
    show a.2.2 + costP (l ++ l') = a.2.2 + costP l + costP l'
    rw [costP_app l l']
    omega
theorem costW_eq (m : Fc) : ∀ l : List Arc, costW m l = costP l * m.2 - m.1 * (l.length : Int)
  | [] => by simp [costW, costP]
  | a :: l => by
    show spareF a m + costW m l = (a.2.2 + costP l) * m.2 - m.1 * ((l.length + 1 : Nat) : Int)
    rw [costW_eq m l, Int.add_mul, show ((l.length + 1 : Nat) : Int) = (l.length : Int) + 1 by omega, Int.mul_add, Int.mul_one]
    unfold spareF
    omega
/-- the least cost of walks of k arcs to v -/
def LeastK (G : List Arc) (k v : Nat) : Option Int → Prop
  | none => ∀ u l, IsW G u l v → l.length = k → False
  | some c => (∃ u l, IsW G u l v ∧ l.length = k ∧ costP l = c) ∧ ∀ u l, IsW G u l v → l.length = k → c ≤ costP l
theorem getD_setO {l : Row} {i j : Nat} {x : Option Int} (hi : i < l.length) : (l.set i x).getD j none = if j = i then x else l.getD j none := by
  rw [List.getD_eq_getElem?_getD, List.getD_eq_getElem?_getD]
  by_cases h : j = i
  · subst h
    rw [if_pos rfl, List.getElem?_set_self hi]
    rfl
  · rw [if_neg h, List.getElem?_set_ne (Ne.symm h)]
/-- what one entry tells of the arcs that were looked at -/
def Ent (bf : Row) (L : List Arc) (v : Nat) : Option Int → Prop
  | none => ∀ a ∈ L, a.2.1 = v → bf.getD a.1 none = none
  | some w => (∃ a ∈ L, a.2.1 = v ∧ ∃ c, bf.getD a.1 none = some c ∧ w = c + a.2.2) ∧ ∀ a ∈ L, a.2.1 = v → ∀ c, bf.getD a.1 none = some c → w ≤ c + a.2.2
theorem ent_step {bf af : Row} {L : List Arc} {a : Arc} (hv : a.2.1 < af.length) (h : ∀ v, Ent bf L v (af.getD v none)) : ∀ v, Ent bf (L ++ [a]) v ((relax1 bf af a).getD v none) := by
  intro v
  have hh := h v
  have keepN : ∀ {o : Option Int}, Ent bf L v o → (a.2.1 = v → bf.getD a.1 none = none) → Ent bf (L ++ [a]) v o := fun {o} h1 h2 => by
    cases o with
    | none =>
      intro x hx e
      rcases List.mem_append.mp hx with z | z
      · exact h1 x z e
      · rw [List.mem_singleton] at z; subst z; exact h2 e
    | some w =>
      obtain ⟨⟨x, hx, y⟩, h3⟩ := h1
      refine ⟨⟨x, List.mem_append_left _ hx, y⟩, fun x hx e c hc => ?_⟩
      rcases List.mem_append.mp hx with z | z
      · exact h3 x z e c hc
      · rw [List.mem_singleton] at z; subst z; rw [h2 e] at hc; cases hc
  unfold relax1
  cases hc : bf.getD a.1 none with
  | none => exact keepN hh fun _ => hc
  | some c =>
    dsimp only
    cases hw : af.getD a.2.1 none with
    | none =>
      dsimp only
      rw [getD_setO hv]
      by_cases e : v = a.2.1
      · subst e
        rw [if_pos rfl]
        rw [hw] at hh
        refine ⟨⟨a, by simp, rfl, c, hc, rfl⟩, fun x hx e c' hc' => ?_⟩
        rcases List.mem_append.mp hx with z | z
        · rw [hh x z e] at hc'; cases hc'
        · rw [List.mem_singleton] at z; subst z; rw [hc] at hc'; cases hc'; exact Int.le_refl _
      · rw [if_neg e]
        exact keepN hh fun z => absurd z.symm e
    | some w =>
      dsimp only
      by_cases hlt : c + a.2.2 < w
      · rw [if_pos hlt, getD_setO hv]
        by_cases e : v = a.2.1
        · subst e
          rw [if_pos rfl]
          rw [hw] at hh
          refine ⟨⟨a, by simp, rfl, c, hc, rfl⟩, fun x hx e c' hc' => ?_⟩
          rcases List.mem_append.mp hx with z | z
          · have := hh.2 x z e c' hc'; omega
          · rw [List.mem_singleton] at z; subst z; rw [hc] at hc'; cases hc'; exact Int.le_refl _
        · rw [if_neg e]
          exact keepN hh fun z => absurd z.symm e
      · rw [if_neg hlt]
        by_cases e : v = a.2.1
        · subst e
          rw [hw] at hh ⊢
          obtain ⟨⟨x, hx, y⟩, h3⟩ := hh
          refine ⟨⟨x, List.mem_append_left _ hx, y⟩, fun x hx e c' hc' => ?_⟩
          rcases List.mem_append.mp hx with z | z
          · exact h3 x z e c' hc'
          · rw [List.mem_singleton] at z; subst z; rw [hc] at hc'; cases hc'; omega
        · exact keepN hh fun z => absurd z.symm e
theorem ent_fold {bf : Row} {n : Nat} : ∀ (L2 L1 : List Arc) (af : Row), (∀ a ∈ L2, a.2.1 < n) → af.length = n → (∀ v, Ent bf L1 v (af.getD v none)) → ∀ v, Ent bf (L1 ++ L2) v ((L2.foldl (relax1 bf) af).getD v none)
  | [], L1, af, _, _, h => by rw [List.append_nil]; exact h
  | a :: L2, L1, af, hL, hl, h => by
    rw [List.foldl_cons, show L1 ++ a :: L2 = (L1 ++ [a]) ++ L2 by simp]
    refine ent_fold L2 (L1 ++ [a]) _ (fun x hx => hL x (List.mem_cons_of_mem _ hx)) ?_ (ent_step (by rw [hl]; exact hL a List.mem_cons_self) h)
    have := row_len (bf := bf) [a] af
    rw [← hl]
    exact this
theorem row_spec {G : List Arc} {n : Nat} (hG : okA n G) : ∀ (k v : Nat), v < n → LeastK G k v ((rowN n G k).getD v none)
  | 0, v, hv => by
    unfold rowN
    rw [List.getD_eq_getElem?_getD, List.getElem?_replicate, if_pos hv]
    refine ⟨⟨v, [], rfl, rfl, rfl⟩, fun u l w hl => ?_⟩
    obtain rfl := List.length_eq_zero_iff.mp hl
    exact Int.le_refl _
  | k + 1, v, hv => by
    have ih := row_spec hG k
    have he := ent_fold (bf := rowN n G k) (n := n) G [] (List.replicate n none) (fun a ha => (hG a ha).2) List.length_replicate (fun v => by
      rw [List.getD_eq_getElem?_getD, List.getElem?_replicate]
      split <;> exact fun a ha => nomatch ha) v
    rw [List.nil_append] at he
    have er : rowN n G (k + 1) = G.foldl (relax1 (rowN n G k)) (List.replicate n none) := rfl
    rw [← er] at he
    have lastN : ∀ {l : List Arc} {u : Nat}, IsW G u l v → l.length = k + 1 → ∃ l' a, l = l' ++ [a] ∧ l'.length = k ∧ a ∈ G ∧ IsW G u l' a.1 ∧ a.2.1 = v := fun {l u} w hl => by
      rcases List.eq_nil_or_concat l with e | ⟨l', a, e⟩
      · subst e; cases hl
      · rw [List.concat_eq_append] at e
        subst e
        obtain ⟨x1, x2, x3⟩ := last_arc w
        rw [List.length_append, List.length_singleton] at hl
        exact ⟨l', a, rfl, by omega, x1, x2, x3⟩
    cases q : (rowN n G (k + 1)).getD v none with
    | none =>
      rw [q] at he
      intro u l w hl
      obtain ⟨l', a, rfl, h1, h2, h3, h4⟩ := lastN w hl
      have h5 := ih a.1 (hG a h2).1
      rw [he a h2 h4] at h5
      exact h5 u l' h3 h1
    | some c =>
      rw [q] at he
      obtain ⟨⟨a, ha, hav, c0, hc0, rfl⟩, hm⟩ := he
      refine ⟨?_, fun u l w hl => ?_⟩
      · have h5 := ih a.1 (hG a ha).1
        rw [hc0] at h5
        obtain ⟨⟨u, l, w, hl, hc⟩, _⟩ := h5
        refine ⟨u, l ++ [a], isW_app w ⟨ha, rfl, hav⟩, by rw [List.length_append, hl]; rfl, ?_⟩
        rw [costP_app, hc]
        show c0 + (a.2.2 + 0) = _
        omega
      · obtain ⟨l', b, rfl, h1, h2, h3, h4⟩ := lastN w hl
        have h5 := ih b.1 (hG b h2).1
        cases qb : (rowN n G k).getD b.1 none with
        | none => rw [qb] at h5; exact (h5 u l' h3 h1).elim
        | some cb =>
          rw [qb] at h5
          have h6 := h5.2 u l' h3 h1
          have h7 := hm b h2 h4 cb qb
          rw [costP_app]
          show _ ≤ costP l' + (b.2.2 + 0)
          omega
end K85
namespace K85
/-! ### fractions -/
def leF (p q : Fc) : Prop := p.1 * q.2 ≤ q.1 * p.2
theorem leF_refl (p : Fc) : leF p p := Int.le_refl _
theorem leF_trans {p q r : Fc} (hp : 0 < p.2) (hq : 0 < q.2) (hr : 0 < r.2) (h1 : leF p q) (h2 : leF q r) : leF p r := by
  unfold leF at *
  refine Int.le_of_mul_le_mul_right (a := q.2) ?_ hq
  have a1 := Int.mul_le_mul_of_nonneg_right h1 (Int.le_of_lt hr)
  have a2 := Int.mul_le_mul_of_nonneg_right h2 (Int.le_of_lt hp)
  rw [Int.mul_right_comm p.1, Int.mul_right_comm r.1]
  refine Int.le_trans a1 ?_
  rw [Int.mul_right_comm]
  exact a2
theorem leF_of_not {p q : Fc} (h : ¬ lessB p q = true) : leF q p := by
  unfold lessB at h
  rw [decide_eq_true_eq] at h
  unfold leF
  omega
theorem leF_of {p q : Fc} (h : lessB p q = true) : leF p q := by
  unfold lessB at h
  rw [decide_eq_true_eq] at h
  unfold leF
  omega
section
variable {G : List Arc} {n : Nat}
theorem worst_is {v : Nat} {cn : Int} : ∀ {i : Nat} {w : Fc}, worstN n G v cn i = some w → ∃ k c, k < i ∧ (rowN n G k).getD v none = some c ∧ w = (cn - c, (n : Int) - (k : Int))
  | 0, w, h => nomatch h
  | i + 1, w, h => by
    unfold worstN at h
    cases q : (rowN n G i).getD v none with
    | none =>
      rw [q] at h
      obtain ⟨k, c, h1, h2, h3⟩ := worst_is h
      exact ⟨k, c, by omega, h2, h3⟩
    | some c =>
      rw [q] at h
      dsimp only at h
      unfold worst1 at h
      cases q2 : worstN n G v cn i with
      | none =>
        rw [q2] at h
        exact ⟨i, c, by omega, q, (Option.some.inj h).symm⟩
      | some w0 =>
        rw [q2] at h
        dsimp only at h
        split at h
        · exact ⟨i, c, by omega, q, (Option.some.inj h).symm⟩
        · obtain rfl := Option.some.inj h
          obtain ⟨k, c, h1, h2, h3⟩ := worst_is q2
          exact ⟨k, c, by omega, h2, h3⟩
theorem worst_ge {v : Nat} {cn : Int} : ∀ {i : Nat} {w : Fc}, i ≤ n → worstN n G v cn i = some w → ∀ k c, k < i → (rowN n G k).getD v none = some c → leF (cn - c, (n : Int) - (k : Int)) w
  | 0, w, _, h => nomatch h
  | i + 1, w, hi, h => by
    intro k c hk hc
    have hw : 0 < w.2 := (worst_bd hi h).1
    unfold worstN at h
    cases q : (rowN n G i).getD v none with
    | none =>
      rw [q] at h
      by_cases e : k = i
      · subst e; rw [q] at hc; cases hc
      · exact worst_ge (by omega) h k c (by omega) hc
    | some c0 =>
      rw [q] at h
      dsimp only at h
      unfold worst1 at h
      cases q2 : worstN n G v cn i with
      | none =>
        rw [q2] at h
        by_cases e : k = i
        · subst e
          rw [q] at hc
          cases hc
          rw [← Option.some.inj h]
          exact leF_refl _
        · exfalso
          have : ∀ j, k < j → worstN n G v cn j ≠ none := by
            intro j
            induction j with
            | zero => intro hj; omega
            | succ j ih =>
              intro hj hn
              unfold worstN at hn
              cases q3 : (rowN n G j).getD v none with
              | none =>
                rw [q3] at hn
                by_cases e2 : k = j
                · subst e2; rw [q3] at hc; cases hc
                · exact ih (by omega) hn
              | some c3 =>
                rw [q3] at hn
                dsimp only at hn
                unfold worst1 at hn
                cases q4 : worstN n G v cn j with
                | none => rw [q4] at hn; cases hn
                | some x => rw [q4] at hn; dsimp only at hn; split at hn <;> cases hn
          exact this i (by omega) q2
      | some w0 =>
        rw [q2] at h
        dsimp only at h
        have hw0 := (worst_bd (by omega) q2).1
        have ih := worst_ge (by omega) q2
        split at h
        · rename_i hl
          obtain rfl := Option.some.inj h
          by_cases e : k = i
          · subst e
            rw [q] at hc
            cases hc
            exact leF_refl _
          · exact leF_trans (by dsimp only; omega) hw0 hw (ih k c (by omega) hc) (leF_of hl)
        · rename_i hl
          obtain rfl := Option.some.inj h
          by_cases e : k = i
          · subst e
            rw [q] at hc
            cases hc
            exact leF_of_not hl
          · exact ih k c (by omega) hc
theorem best_is {i : Nat} {b : Fc} (hn : 0 < n) (hi : i ≤ n) (h : bestN n G i = some b) : ∃ v cn, v < i ∧ (rowN n G n).getD v none = some cn ∧ worstN n G v cn n = some b := by
  induction i with
  | zero => cases h
  | succ i ih =>
    unfold bestN at h
    cases q : (rowN n G n).getD i none with
    | none =>
      rw [q] at h
      obtain ⟨v, cn, h1, h2, h3⟩ := ih (by omega) h
      exact ⟨v, cn, by omega, h2, h3⟩
    | some cn =>
      rw [q] at h
      dsimp only at h
      obtain ⟨w, hw⟩ := worst_some (arcs := G) (cn := cn) (show i < n by omega) hn
      rw [hw] at h
      unfold best1 at h
      cases q2 : bestN n G i with
      | none =>
        rw [q2] at h
        obtain rfl := Option.some.inj h
        exact ⟨i, cn, by omega, q, hw⟩
      | some b0 =>
        rw [q2] at h
        dsimp only at h
        split at h
        · obtain rfl := Option.some.inj h
          exact ⟨i, cn, by omega, q, hw⟩
        · obtain rfl := Option.some.inj h
          obtain ⟨v, cn, h1, h2, h3⟩ := ih (by omega) q2
          exact ⟨v, cn, by omega, h2, h3⟩
theorem best_none {i : Nat} (h : bestN n G i = none) : ∀ v, v < i → (rowN n G n).getD v none = none := by
  induction i with
  | zero => intro v hv; omega
  | succ i ih =>
    unfold bestN at h
    intro v hv
    cases q : (rowN n G n).getD i none with
    | none =>
      rw [q] at h
      by_cases e : v = i
      · subst e; exact q
      · exact ih h v (by omega)
    | some cn =>
      rw [q] at h
      dsimp only at h
      unfold best1 at h
      split at h
      · cases h
      · split at h <;> cases h
theorem best_le {i : Nat} {b : Fc} (hn : 0 < n) (hi : i ≤ n) (h : bestN n G i = some b) : ∀ v cn w, v < i → (rowN n G n).getD v none = some cn → worstN n G v cn n = some w → leF b w := by
  induction i generalizing b with
  | zero => cases h
  | succ i ih =>
    intro v cn w hv hr hw
    have hb := (best_bd hn hi h).1
    have hwp := (worst_bd (Nat.le_refl n) hw).1
    unfold bestN at h
    cases q : (rowN n G n).getD i none with
    | none =>
      rw [q] at h
      by_cases e : v = i
      · subst e; rw [q] at hr; cases hr
      · exact ih (by omega) h v cn w (by omega) hr hw
    | some cn0 =>
      rw [q] at h
      dsimp only at h
      obtain ⟨w0, hw0⟩ := worst_some (arcs := G) (cn := cn0) (show i < n by omega) hn
      rw [hw0] at h
      unfold best1 at h
      cases q2 : bestN n G i with
      | none =>
        rw [q2] at h
        obtain rfl := Option.some.inj h
        by_cases e : v = i
        · subst e
          rw [q] at hr
          cases hr
          rw [hw] at hw0
          obtain rfl := Option.some.inj hw0
          exact leF_refl _
        · rw [best_none q2 v (by omega)] at hr
          cases hr
      | some b0 =>
        rw [q2] at h
        dsimp only at h
        have hb0 := (best_bd hn (by omega) q2).1
        split at h
        · rename_i hl
          obtain rfl := Option.some.inj h
          by_cases e : v = i
          · subst e
            rw [q] at hr
            cases hr
            rw [hw] at hw0
            obtain rfl := Option.some.inj hw0
            exact leF_refl _
          · exact leF_trans hb hb0 hwp (leF_of hl) (ih (by omega) q2 v cn w (by omega) hr hw)
        · rename_i hl
          obtain rfl := Option.some.inj h
          by_cases e : v = i
          · subst e
            rw [q] at hr
            cases hr
            rw [hw] at hw0
            obtain rfl := Option.some.inj hw0
            exact leF_of_not hl
          · exact ih (by omega) q2 v cn w (by omega) hr hw
/-! ### along a tight round, as far as one likes -/
theorem go_round {m : Fc} {x : Nat} {l0 : List Arc} (hw : IsW G x l0 x) (h0 : costW m l0 = 0) (hl : l0 ≠ []) : ∀ N : Nat, ∃ r s y, IsW G x r y ∧ IsW G y s x ∧ r.length = N ∧ costW m r + costW m s = 0
  | 0 => ⟨[], [], x, rfl, rfl, rfl, rfl⟩
  | N + 1 => by
    obtain ⟨r, s, y, h1, h2, h3, h4⟩ := go_round hw h0 hl N
    have key : ∃ s', s' ≠ [] ∧ IsW G y s' x ∧ costW m r + costW m s' = 0 := by
      cases s with
      | nil =>
        have h2 : y = x := h2
        subst h2
        refine ⟨l0, hl, hw, ?_⟩
        rw [h0]
        exact h4
      | cons a s => exact ⟨a :: s, by simp, h2, h4⟩
    obtain ⟨s', hs, h5, h6⟩ := key
    cases s' with
    | nil => exact absurd rfl hs
    | cons a s =>
      refine ⟨r ++ [a], s, a.2.1, isW_app h1 ⟨h5.1, h5.2.1, rfl⟩, h5.2.2, by rw [List.length_append, h3]; rfl, ?_⟩
      rw [costW_app]
      have : costW m (a :: s) = spareF a m + costW m s := rfl
      rw [this] at h6
      show costW m r + (spareF a m + 0) + _ = 0
      omega
theorem end_lt (hG : okA n G) {l : List Arc} {u v : Nat} (hw : IsW G u l v) (hl : l ≠ []) : v < n := by
  rcases List.eq_nil_or_concat l with e | ⟨l', a, e⟩
  · exact absurd e hl
  · rw [List.concat_eq_append] at e
    subst e
    obtain ⟨x1, x2, x3⟩ := last_arc hw
    rw [← x3]
    exact (hG a x1).2
theorem min_opt (f : Nat → Option Int) : ∀ N : Nat, (∃ k c, k < N ∧ f k = some c) → ∃ k c, k < N ∧ f k = some c ∧ ∀ k' c', k' < N → f k' = some c' → c ≤ c'
  | 0, ⟨k, c, h, _⟩ => absurd h (by omega)
  | N + 1, ⟨k, c, h, hf⟩ => by
    by_cases q : ∃ k c, k < N ∧ f k = some c
    · obtain ⟨k1, c1, h1, h2, h3⟩ := min_opt f N q
      cases qN : f N with
      | none =>
        refine ⟨k1, c1, by omega, h2, fun k' c' hk' hc' => ?_⟩
        by_cases e : k' = N
        · subst e; rw [qN] at hc'; cases hc'
        · exact h3 k' c' (by omega) hc'
      | some cN =>
        by_cases hlt : cN < c1
        · refine ⟨N, cN, by omega, qN, fun k' c' hk' hc' => ?_⟩
          by_cases e : k' = N
          · subst e; rw [qN] at hc'; cases hc'; exact Int.le_refl _
          · have := h3 k' c' (by omega) hc'; omega
        · refine ⟨k1, c1, by omega, h2, fun k' c' hk' hc' => ?_⟩
          by_cases e : k' = N
          · subst e; rw [qN] at hc'; cases hc'; omega
          · exact h3 k' c' (by omega) hc'
    · have ek : k = N := by
        by_cases e : k = N
        · exact e
        · exact absurd ⟨k, c, by omega, hf⟩ q
      subst ek
      refine ⟨k, c, by omega, hf, fun k' c' hk' hc' => ?_⟩
      by_cases e : k' = k
      · subst e; rw [hf] at hc'; cases hc'; exact Int.le_refl _
      · exact absurd ⟨k', c', by omega, hc'⟩ q
/-- a cheapest walk to x, above the mean -/
theorem min_walk {m : Fc} (hG : okA n G) (hN : NoNeg G m) (hn : 0 < n) (hm : 0 ≤ m.2) {x : Nat} (hx : x < n) : ∃ u l, IsW G u l x ∧ l.length < n ∧ ∀ u' l', IsW G u' l' x → costW m l ≤ costW m l' := by
  obtain ⟨k, c, h1, h2, h3⟩ := min_opt (fun k => ((rowN n G k).getD x none).map fun c => c * m.2 - m.1 * (k : Int)) n (by
    have h0 := row_spec hG 0 x hx
    cases q : (rowN n G 0).getD x none with
    | none => rw [q] at h0; exact (h0 x [] rfl rfl).elim
    | some c => exact ⟨0, _, hn, by rw [q]; rfl⟩)
  have hs := row_spec hG k x hx
  cases q : (rowN n G k).getD x none with
  | none => rw [q] at h2; cases h2
  | some c0 =>
    rw [q] at h2 hs
    obtain rfl := Option.some.inj h2
    obtain ⟨⟨u, l, w, hl, hc⟩, _⟩ := hs
    refine ⟨u, l, w, by omega, fun u' l' w' => ?_⟩
    obtain ⟨l2, w2, g1, g2⟩ := short_walk hG hN hn l'.length (Nat.le_refl _) w'
    have hs2 := row_spec hG l2.length x hx
    cases q2 : (rowN n G l2.length).getD x none with
    | none => rw [q2] at hs2; exact (hs2 u' l2 w2 rfl).elim
    | some c2 =>
      rw [q2] at hs2
      have a0 : c0 * m.2 - m.1 * (k : Int) ≤ c2 * m.2 - m.1 * (l2.length : Int) := h3 l2.length _ g1 (by rw [q2]; rfl)
      have a := hs2.2 u' l2 w2 rfl
      rw [costW_eq m l2] at g2
      rw [costW_eq m l, hl, hc]
      have := Int.mul_le_mul_of_nonneg_right a hm
      omega
/-- Karp: the least of the greatest is the mean of a tight round -/
theorem karp {m : Fc} (hG : okA n G) (hn : 0 < n) (hm : 0 < m.2) (hN : NoNeg G m) {x : Nat} {l0 : List Arc} (hw : IsW G x l0 x) (h0 : costW m l0 = 0) (hl : l0 ≠ []) : ∃ q, bestN n G n = some q ∧ 0 < q.2 ∧ q.1 * m.2 = m.1 * q.2 := by
  have hx := end_lt hG hw hl
  -- from below
  have low : ∀ v cn w, v < n → (rowN n G n).getD v none = some cn → worstN n G v cn n = some w → leF m w := by
    intro v cn w hv hr hwo
    have hs := row_spec hG n v hv
    rw [hr] at hs
    obtain ⟨⟨u, l, wl, hll, hc⟩, _⟩ := hs
    obtain ⟨l1, l2, l3, y, rfl, g2, w1, w2, w3⟩ := long_closed hG wl (by omega) (by omega)
    have hp : 0 < l2.length := List.length_pos_iff.mpr g2
    rw [List.length_append, List.length_append] at hll
    have hk : (l1 ++ l3).length < n := by rw [List.length_append]; omega
    have hs2 := row_spec hG (l1 ++ l3).length v hv
    cases q2 : (rowN n G (l1 ++ l3).length).getD v none with
    | none => rw [q2] at hs2; exact (hs2 u _ (isW_app w1 w3) rfl).elim
    | some c =>
      rw [q2] at hs2
      have a := hs2.2 u _ (isW_app w1 w3) rfl
      have hwp := (worst_bd (Nat.le_refl n) hwo).1
      refine leF_trans (q := (cn - c, (n : Int) - ((l1 ++ l3).length : Int))) hm (by dsimp only; omega) hwp ?_ (worst_ge (Nat.le_refl n) hwo _ c hk q2)
      have b := hN y l2 w2
      rw [costW_eq] at b
      rw [costP_app] at a
      rw [costP_app, costP_app] at hc
      unfold leF
      dsimp only
      have e : (n : Int) - ((l1 ++ l3).length : Int) = (l2.length : Int) := by rw [List.length_append]; omega
      rw [e]
      have d : costP l2 ≤ cn - c := by omega
      have := Int.mul_le_mul_of_nonneg_right d (Int.le_of_lt hm)
      omega
  -- from above
  obtain ⟨u0, w0, g1, g2, g3⟩ := min_walk hG hN hn (Int.le_of_lt hm) hx
  obtain ⟨r, s, y, k1, k2, k3, k4⟩ := go_round hw h0 hl (n - w0.length)
  have hr0 : r ≠ [] := by
    intro e
    subst e
    simp at k3
    omega
  have hy := end_lt hG k1 hr0
  have hwn : (w0 ++ r).length = n := by rw [List.length_append, k3]; omega
  have hs := row_spec hG n y hy
  cases qy : (rowN n G n).getD y none with
  | none => rw [qy] at hs; exact (hs u0 _ (isW_app g1 k1) hwn).elim
  | some cn =>
    rw [qy] at hs
    have acn := hs.2 u0 _ (isW_app g1 k1) hwn
    obtain ⟨w, hwo⟩ := worst_some (arcs := G) (cn := cn) hy hn
    have hwp := (worst_bd (Nat.le_refl n) hwo).1
    have up : leF w m := by
      obtain ⟨k, c, j1, j2, j3⟩ := worst_is hwo
      have hs2 := row_spec hG k y hy
      rw [j2] at hs2
      obtain ⟨⟨u', w', z1, z2, z3⟩, _⟩ := hs2
      have b := g3 u' _ (isW_app z1 k2)
      rw [costW_app, costW_eq m w', z2, z3] at b
      have d := costW_eq m (w0 ++ r)
      rw [hwn, costW_app] at d
      have := Int.mul_le_mul_of_nonneg_right acn (Int.le_of_lt hm)
      subst j3
      unfold leF
      dsimp only
      rw [Int.sub_mul, Int.mul_sub]
      omega
    cases qb : bestN n G n with
    | none => rw [best_none qb y hy] at qy; cases qy
    | some q =>
      have hq := (best_bd hn (Nat.le_refl n) qb).1
      refine ⟨q, rfl, hq, ?_⟩
      have a1 := leF_trans hq hwp hm (best_le hn (Nat.le_refl n) qb y cn w hy qy hwo) up
      obtain ⟨v, cv, b1, b2, b3⟩ := best_is hn (Nat.le_refl n) qb
      have a2 := low v cv q b1 b2 b3
      unfold leF at a1 a2
      omega
/-- without a round there is no least mean -/
theorem no_round {n : Nat} (hG : okA n G) (hn : 0 < n) (h : ∀ x l, IsW G x l x → l = []) : bestN n G n = none := by
  cases q : bestN n G n with
  | none => rfl
  | some b =>
    exfalso
    obtain ⟨v, cv, b1, b2, b3⟩ := best_is hn (Nat.le_refl n) q
    have hs := row_spec hG n v b1
    rw [b2] at hs
    obtain ⟨⟨u, l, w, hl, _⟩, _⟩ := hs
    obtain ⟨l1, l2, l3, y, _, g2, _, w2, _⟩ := long_closed hG w (by omega) (by omega)
    exact g2 (h y l2 w2)
theorem best_round (hG : okA n G) (hn : 0 < n) {b : Fc} (h : bestN n G n = some b) : ∃ x l, IsW G x l x ∧ l ≠ [] := by
  obtain ⟨v, cv, b1, b2, b3⟩ := best_is hn (Nat.le_refl n) h
  have hs := row_spec hG n v b1
  rw [b2] at hs
  obtain ⟨⟨u, l, w, hl, _⟩, _⟩ := hs
  obtain ⟨l1, l2, l3, y, _, g2, _, w2, _⟩ := long_closed hG w (by omega) (by omega)
  exact ⟨y, l2, w2, g2⟩
/-! ### some round has the least mean -/
def allL (G : List Arc) : Nat → List (List Arc)
  | 0 => [[]]
  | k + 1 => G.flatMap fun a => (allL G k).map (a :: ·)
theorem mem_allL : ∀ {l : List Arc}, (∀ a ∈ l, a ∈ G) → l ∈ allL G l.length
  | [], _ => List.mem_singleton.mpr rfl
  | a :: l, h => by
    show a :: l ∈ G.flatMap fun a => (allL G l.length).map (a :: ·)
    exact List.mem_flatMap.mpr ⟨a, h a List.mem_cons_self, List.mem_map.mpr ⟨l, mem_allL fun b hb => h b (List.mem_cons_of_mem _ hb), rfl⟩⟩
theorem isW_mem : ∀ {l : List Arc} {u v : Nat}, IsW G u l v → ∀ a ∈ l, a ∈ G
  | [], _, _, _, _, h => nomatch h
  | b :: l, _, _, hw, a, h => by
    rcases List.mem_cons.mp h with e | e
    · rw [e]; exact hw.1
    · exact isW_mem hw.2.2 a e
theorem min_list {α : Type} (P : α → Prop) (f : α → Fc) (hf : ∀ a, P a → 0 < (f a).2) : ∀ L : List α, (∃ a ∈ L, P a) → ∃ a ∈ L, P a ∧ ∀ b ∈ L, P b → leF (f a) (f b)
  | [], ⟨_, h, _⟩ => nomatch h
  | c :: L, hex => by
    by_cases q : ∃ a ∈ L, P a
    · obtain ⟨a, h1, h2, h3⟩ := min_list P f hf L q
      by_cases hc : P c
      · rcases Int.le_total ((f c).1 * (f a).2) ((f a).1 * (f c).2) with z | z
        · refine ⟨c, List.mem_cons_self, hc, fun b hb pb => ?_⟩
          rcases List.mem_cons.mp hb with e | e
          · rw [e]; exact leF_refl _
          · exact leF_trans (hf c hc) (hf a h2) (hf b pb) z (h3 b e pb)
        · refine ⟨a, List.mem_cons_of_mem _ h1, h2, fun b hb pb => ?_⟩
          rcases List.mem_cons.mp hb with e | e
          · rw [e]; exact z
          · exact h3 b e pb
      · refine ⟨a, List.mem_cons_of_mem _ h1, h2, fun b hb pb => ?_⟩
        rcases List.mem_cons.mp hb with e | e
        · rw [e] at pb; exact absurd pb hc
        · exact h3 b e pb
    · obtain ⟨a, h1, h2⟩ := hex
      have e : a = c := by
        rcases List.mem_cons.mp h1 with e | e
        · exact e
        · exact absurd ⟨a, e, h2⟩ q
      subst e
      refine ⟨a, List.mem_cons_self, h2, fun b hb pb => ?_⟩
      rcases List.mem_cons.mp hb with e | e
      · rw [e]; exact leF_refl _
      · exact absurd ⟨b, e, pb⟩ q
theorem isW_split : ∀ {l l' : List Arc} {u v : Nat}, IsW G u (l ++ l') v → ∃ y, IsW G u l y ∧ IsW G y l' v
  | [], _, u, _, h => ⟨u, rfl, h⟩
  | a :: l, _, _, _, h => by
    obtain ⟨y, h1, h2⟩ := isW_split h.2.2
    exact ⟨y, ⟨h.1, h.2.1, h1⟩, h2⟩
/-- short rounds are enough -/
theorem short_noneg {m : Fc} (hG : okA n G) (hn : 0 < n) (h : ∀ x l, IsW G x l x → l.length ≤ n → 0 ≤ costW m l) : NoNeg G m := by
  have key : ∀ k x l, l.length ≤ k → IsW G x l x → 0 ≤ costW m l := by
    intro k
    induction k with
    | zero => intro x l hl hw; exact h x l hw (by omega)
    | succ k ih =>
      intro x l hl hw
      by_cases hle : l.length ≤ n
      · exact h x l hw hle
      · have e : l = l.take n ++ l.drop n := (List.take_append_drop n l).symm
        rw [e] at hw
        obtain ⟨y, w1, w2⟩ := isW_split hw
        have ht : (l.take n).length = n := by rw [List.length_take]; omega
        obtain ⟨l1, l2, l3, z, e2, g2, v1, v2, v3⟩ := long_closed hG w1 (by omega) (by omega)
        have hp : 0 < l2.length := List.length_pos_iff.mpr g2
        have hlen : l1.length + (l2.length + l3.length) = n := by rw [← ht, e2, List.length_append, List.length_append]
        have hd : (l.drop n).length = l.length - n := List.length_drop
        have c1 := h z l2 v2 (by omega)
        have c2 := ih x (l1 ++ (l3 ++ l.drop n)) (by rw [List.length_append, List.length_append, hd]; omega) (isW_app v1 (isW_app v3 w2))
        rw [e, e2]
        rw [costW_app, costW_app] at c2
        rw [costW_app, costW_app, costW_app]
        omega
  exact fun x l hw => key l.length x l (Nat.le_refl _) hw
theorem has_min (hG : okA n G) (hn : 0 < n) (hc : ∃ x l, IsW G x l x ∧ l ≠ []) : ∃ (m : Fc) (x : Nat) (l : List Arc), 0 < m.2 ∧ NoNeg G m ∧ IsW G x l x ∧ l ≠ [] ∧ costW m l = 0 := by
  have hc2 : ∃ x l, IsW G x l x ∧ l ≠ [] ∧ l.length ≤ n := by
    obtain ⟨x, l, hw, hl⟩ := hc
    by_cases hle : l.length ≤ n
    · exact ⟨x, l, hw, hl, hle⟩
    · rw [← List.take_append_drop n l] at hw
      obtain ⟨y, w1, w2⟩ := isW_split hw
      have ht : (l.take n).length = n := by rw [List.length_take]; omega
      obtain ⟨l1, l2, l3, z, e2, g2, v1, v2, v3⟩ := long_closed hG w1 (by omega) (by omega)
      have hlen : l1.length + (l2.length + l3.length) = n := by rw [← ht, e2, List.length_append, List.length_append]
      exact ⟨z, l2, v2, g2, by omega⟩
  obtain ⟨l, h1, ⟨h2, x, h3⟩, h4⟩ := min_list (fun l : List Arc => l ≠ [] ∧ ∃ x, IsW G x l x) (fun l => (costP l, (l.length : Int))) (fun l h => by
    have := List.length_pos_iff.mpr h.1
    dsimp only
    omega) ((List.range (n + 1)).flatMap (allL G)) (by
    obtain ⟨x, l, hw, hl, hle⟩ := hc2
    exact ⟨l, List.mem_flatMap.mpr ⟨l.length, List.mem_range.mpr (by omega), mem_allL (isW_mem hw)⟩, hl, x, hw⟩)
  have hp := List.length_pos_iff.mpr h2
  refine ⟨(costP l, (l.length : Int)), x, l, by dsimp only; omega, ?_, h3, h2, ?_⟩
  · refine short_noneg hG hn fun x' l' hw' hl' => ?_
    cases l' with
    | nil => exact Int.le_refl _
    | cons a l' =>
      have := h4 (a :: l') (List.mem_flatMap.mpr ⟨_, List.mem_range.mpr (by omega), mem_allL (isW_mem hw')⟩) ⟨by simp, x', hw'⟩
      unfold leF at this
      rw [costW_eq]
      dsimp only at this ⊢
      omega
  · rw [costW_eq]
    dsimp only
    omega
end
end K85
namespace K85
/-! ### lowest terms -/
theorem low_rat {p : Fc} (h : 0 < p.2) : lowF p = ((mkRat p.1 p.2.toNat).num, ((mkRat p.1 p.2.toNat).den : Int)) := by
  obtain ⟨a, b⟩ := p
  dsimp only at h ⊢
  obtain ⟨d, rfl⟩ := Int.eq_ofNat_of_zero_le (Int.le_of_lt h)
  have hd : d ≠ 0 := by omega
  rw [Int.toNat_natCast]
  unfold mkRat lowF
  rw [dif_neg hd, Rat.normalize_eq hd]
  dsimp only
  have e : Int.gcd a (d : Int) = a.natAbs.gcd d := rfl
  rw [e]
  rfl
theorem low_eq {p q : Fc} (hp : 0 < p.2) (hq : 0 < q.2) (e : p.1 * q.2 = q.1 * p.2) : lowF p = lowF q := by
  rw [low_rat hp, low_rat hq]
  have : mkRat p.1 p.2.toNat = mkRat q.1 q.2.toNat := (Rat.mkRat_eq_iff (by omega) (by omega)).mpr (by
    rw [Int.toNat_of_nonneg (Int.le_of_lt hp), Int.toNat_of_nonneg (Int.le_of_lt hq)]
    exact e)
  rw [this]
theorem low_mul {p : Fc} (hp : 0 < p.2) : ∃ g, 0 < g ∧ p.1 = (lowF p).1 * g ∧ p.2 = (lowF p).2 * g ∧ 0 < (lowF p).2 := by
  have h0 := gcd_pos (p := p.1) hp
  have e2 : (lowF p).2 * (Int.gcd p.1 p.2 : Int) = p.2 := Int.ediv_mul_cancel (Int.gcd_dvd_right _ _)
  refine ⟨(Int.gcd p.1 p.2 : Int), h0, (Int.ediv_mul_cancel (Int.gcd_dvd_left _ _)).symm, e2.symm, ?_⟩
  exact Int.ediv_pos_of_pos_of_dvd hp (Int.le_of_lt h0) (Int.gcd_dvd_right _ _)
theorem low_one (c : Int) : lowF (c, 1) = (c, 1) := by
  unfold lowF
  dsimp only
  rw [Int.gcd_one]
  simp
section
variable {G : List Arc} {n : Nat}
theorem cost_scale {m m' : Fc} {g : Int} (h1 : m'.1 = m.1 * g) (h2 : m'.2 = m.2 * g) : ∀ l, costW m' l = costW m l * g := fun l => by
  rw [costW_eq, costW_eq, h1, h2, Int.sub_mul, Int.mul_assoc (costP l) m.2 g, Int.mul_right_comm m.1]
theorem noneg_low {m : Fc} (hm : 0 < m.2) : (NoNeg G (lowF m) ↔ NoNeg G m) ∧ ∀ l, costW (lowF m) l = 0 ↔ costW m l = 0 := by
  obtain ⟨g, g0, g1, g2, _⟩ := low_mul hm
  have hs := cost_scale g1 g2
  refine ⟨⟨fun h x l hw => ?_, fun h x l hw => ?_⟩, fun l => ⟨fun h => ?_, fun h => ?_⟩⟩
  · rw [hs]
    exact Int.mul_nonneg (h x l hw) (Int.le_of_lt g0)
  · have := h x l hw
    rw [hs] at this
    exact Int.nonneg_of_mul_nonneg_left this g0
  · rw [hs, h, Int.zero_mul]
  · rw [hs] at h
    rcases Int.mul_eq_zero.mp h with z | z
    · exact z
    · omega
theorem least_is {m : Fc} (hG : okA n G) (hn : 0 < n) (hm : 0 < m.2) (hN : NoNeg G m) {x : Nat} {l0 : List Arc} (hw : IsW G x l0 x) (h0 : costW m l0 = 0) (hl : l0 ≠ []) : leastMean n G = some (lowF m) := by
  obtain ⟨q, h1, h2, h3⟩ := karp hG hn hm hN hw h0 hl
  unfold leastMean
  rw [h1]
  exact congrArg some (low_eq h2 hm h3)
theorem least_facts {m : Fc} (hG : okA n G) (hn : 0 < n) (h : leastMean n G = some m) : 0 < m.2 ∧ NoNeg G m ∧ ∃ x l, IsW G x l x ∧ l ≠ [] ∧ costW m l = 0 := by
  cases q : bestN n G n with
  | none => unfold leastMean at h; rw [q] at h; cases h
  | some b =>
    obtain ⟨m0, x, l, a1, a2, a3, a4, a5⟩ := has_min hG hn (best_round hG hn q)
    rw [least_is hG hn a1 a2 a3 a5 a4] at h
    obtain rfl := Option.some.inj h
    obtain ⟨g, g0, g1, g2, g3⟩ := low_mul a1
    obtain ⟨b1, b2⟩ := noneg_low (G := G) a1
    exact ⟨g3, b1.mpr a2, x, l, a3, a4, (b2 l).mpr a5⟩
/-! ### the program's paper -/
/-- a round without loss is tight -/
theorem tight_of {m : Fc} {p : List Int} (h : Feas G m p) : ∀ {l : List Arc} {u v : Nat}, IsW G u l v → p.getD v 0 = p.getD u 0 + costW m l → ∀ a ∈ l, a ∈ tightL m p G
  | [], _, _, _, _, a, ha => nomatch ha
  | b :: l, u, v, hw, e, a, ha => by
    obtain ⟨h1, h2, h3⟩ := hw
    have t := feas_tele h h3
    have f := h b h1
    rw [h2] at f
    have e : p.getD v 0 = p.getD u 0 + (spareF b m + costW m l) := e
    rcases List.mem_cons.mp ha with z | z
    · subst z
      unfold tightL
      rw [List.mem_filter]
      refine ⟨h1, ?_⟩
      unfold isTight
      rw [decide_eq_true_eq, h2]
      omega
    · exact tight_of h h3 (by omega) a z
/-- the nodes of a round -/
def srcs (l : List Arc) : List Nat := l.map fun a => a.1
/-- each node of the row stays -/
def Stay (al : List Bool) (S : List Nat) : Prop := ∀ v ∈ S, al.getD v false = true
theorem getD_setB {l : List Bool} {i j : Nat} {x : Bool} : i ≠ j → (l.set i x).getD j false = l.getD j false := fun h => by
  rw [List.getD_eq_getElem?_getD, List.getD_eq_getElem?_getD, List.getElem?_set_ne h]
theorem el1_stay {tight : List Arc} {S : List Nat} (hS : ∀ v ∈ S, ∃ a ∈ tight, a.1 = v ∧ a.2.1 ∈ S) {st : List Bool × Bool} (h : Stay st.1 S) (v : Nat) : Stay (el1 tight st v).1 S := by
  unfold el1
  split
  · rename_i hc
    rw [Bool.and_eq_true, decide_eq_true_eq] at hc
    intro x hx
    by_cases e : v = x
    · subst e
      obtain ⟨a, h1, h2, h3⟩ := hS v hx
      have : a ∈ nextOf tight st.1 v := mem_next.mpr ⟨h1, h2, h _ h3⟩
      rw [List.length_eq_zero_iff.mp hc.2] at this
      cases this
    · rw [getD_setB e]
      exact h x hx
  · exact h
theorem fold_stay {tight : List Arc} {S : List Nat} (hS : ∀ v ∈ S, ∃ a ∈ tight, a.1 = v ∧ a.2.1 ∈ S) : ∀ (vs : List Nat) (st : List Bool × Bool), Stay st.1 S → Stay (vs.foldl (el1 tight) st).1 S
  | [], _, h => h
  | v :: vs, st, h => fold_stay hS vs _ (el1_stay hS h v)
theorem fold_still {tight : List Arc} : ∀ (vs : List Nat) (al : List Bool), (vs.foldl (el1 tight) (al, false)).2 = false → ∀ v ∈ vs, al.getD v false = true → nextOf tight al v ≠ []
  | [], _, _, _, h => nomatch h
  | w :: vs, al, h, v, hv => by
    rw [List.foldl_cons] at h
    have key : el1 tight (al, false) w = (al, false) ∨ el1 tight (al, false) w = (al.set w false, true) := by
      unfold el1
      split
      · exact .inr rfl
      · exact .inl rfl
    have e : el1 tight (al, false) w = (al, false) := by
      rcases key with e | e
      · exact e
      · exfalso
        rw [e] at h
        have := (el_fold (tight := tight) vs (al.set w false, true)).2.2.2 h
        rw [this] at h
        cases h
    rw [e] at h
    rcases List.mem_cons.mp hv with z | z
    · subst z
      intro h1 h2
      unfold el1 at e
      rw [if_pos (by rw [Bool.and_eq_true, decide_eq_true_eq, h2]; exact ⟨h1, rfl⟩)] at e
      have := congrArg Prod.snd e
      cases this
    · exact fold_still vs al h v z
theorem elF_ok {tight : List Arc} {S : List Nat} (hS : ∀ v ∈ S, ∃ a ∈ tight, a.1 = v ∧ a.2.1 ∈ S) : ∀ (f : Nat) (al : List Bool), al.length = n → trues al < f → Stay al S → Alive n tight (elF n tight f al) ∧ Stay (elF n tight f al) S
  | 0, _, _, h, _ => absurd h (by omega)
  | f + 1, al, hl, ht, hs => by
    obtain ⟨a1, a2, a3, a4⟩ := el_fold (tight := tight) (List.range n) (al, false)
    have b := fold_stay hS (List.range n) (al, false) hs
    have c := fold_still (tight := tight) (List.range n) al
    have ep : (List.range n).foldl (el1 tight) (al, false) = elPass n tight al := rfl
    rw [ep] at a1 a2 a3 a4 b c
    unfold elF
    cases q : (elPass n tight al).2 with
    | true =>
      rw [if_pos rfl]
      rcases a3 q with z | z
      · cases z
      · dsimp only at z a1
        exact elF_ok hS f _ (by rw [a1]; exact hl) (by omega) b
    | false =>
      rw [if_neg Bool.false_ne_true]
      have e := a4 q
      have e1 : (elPass n tight al).1 = al := by rw [e]
      rw [e1]
      refine ⟨⟨hl, fun v hv => c q v ?_ hv⟩, hs⟩
      rw [List.mem_range, ← hl]
      by_cases hlt : v < al.length
      · exact hlt
      · rw [List.getD_eq_getElem?_getD, List.getElem?_eq_none (by omega)] at hv
        cases hv
theorem srcs_next {m : Fc} : ∀ {l : List Arc} {u v : Nat}, IsW G u l v → ∀ x ∈ srcs l, ∃ a ∈ l, a.1 = x ∧ (a.2.1 ∈ srcs l ∨ a.2.1 = v)
  | [], _, _, _, _, h => nomatch h
  | a :: l, u, v, hw, x, hx => by
    obtain ⟨h1, h2, h3⟩ := hw
    rcases List.mem_cons.mp hx with e | e
    · refine ⟨a, List.mem_cons_self, e.symm, ?_⟩
      cases l with
      | nil => exact .inr h3
      | cons b l =>
        left
        rw [← h3.2.1]
        exact List.mem_cons_of_mem _ List.mem_cons_self
    · obtain ⟨b, g1, g2, g3⟩ := srcs_next (m := m) h3 x e
      exact ⟨b, List.mem_cons_of_mem _ g1, g2, g3.imp (List.mem_cons_of_mem _) id⟩
theorem srcs_head {l : List Arc} {u v : Nat} (hw : IsW G u l v) (hl : l ≠ []) : u ∈ srcs l := by
  cases l with
  | nil => exact absurd rfl hl
  | cons a l => rw [← hw.2.1]; exact List.mem_cons_self
/-- what stands behind a least mean -/
theorem paper_facts {m : Fc} (hn : 1 ≤ n) (hG : okA n G) (h : leastMean n G = some m) : ∃ p, potentials n G m = some p ∧ p.length = n ∧ Feas G m p ∧ startsN n (aliveN n (tightL m p G)) ≠ [] ∧ Alive n (tightL m p G) (aliveN n (tightL m p G)) := by
  obtain ⟨hm, hN, x, l, hw, hl, h0⟩ := least_facts hG hn h
  obtain ⟨p, h1, h2, h3⟩ := bf_ok hG hN hn (n + 1) (by omega)
  have ht := tight_of h3 hw (by rw [h0]; omega)
  have hx := srcs_head hw hl
  have hS : ∀ v ∈ srcs l, ∃ a ∈ tightL m p G, a.1 = v ∧ a.2.1 ∈ srcs l := fun v hv => by
    obtain ⟨a, g1, g2, g3⟩ := srcs_next (m := m) hw v hv
    refine ⟨a, ht a g1, g2, g3.elim id fun e => ?_⟩
    rw [e]
    exact hx
  have hxn : ∀ v ∈ srcs l, v < n := fun v hv => by
    obtain ⟨a, g1, g2, _⟩ := srcs_next (m := m) hw v hv
    rw [← g2]
    exact (hG a (isW_mem hw a g1)).1
  have htr : trues (List.replicate n true) < n + 1 := by
    have := List.countP_le_length (p := id) (l := List.replicate n true)
    rw [List.length_replicate] at this
    unfold trues
    omega
  obtain ⟨k1, k2⟩ := elF_ok (n := n) hS (n + 1) (List.replicate n true) List.length_replicate htr fun v hv => by
    rw [List.getD_eq_getElem?_getD, List.getElem?_replicate, if_pos (hxn v hv)]
    rfl
  refine ⟨p, h1, h2, h3, ?_, k1⟩
  intro e
  have : x ∈ startsN n (aliveN n (tightL m p G)) := List.mem_filter.mpr ⟨List.mem_range.mpr (hxn x hx), k2 x hx⟩
  rw [e] at this
  cases this
theorem paperOk : PaperOk := fun n arcs m hn hG h => by
  obtain ⟨p, h1, h2, _, h4, h5⟩ := paper_facts hn hG h
  exact ⟨p, h1, h2, h4, h5⟩
end
end K85
namespace K85
open Wk
/-! ### rounds that are tight -/
def Ch (T : List Arc) : List Nat → Prop
  | u :: v :: r => (∃ a ∈ T, a.1 = u ∧ a.2.1 = v) ∧ Ch T (v :: r)
  | _ => True
section
variable {G T : List Arc} {n : Nat} {m : Fc} {p : List Int}
theorem ch_snoc : ∀ {w : List Nat} {v : Nat}, w ≠ [] → Ch T w → (∃ a ∈ T, a.1 = w.getLastD 0 ∧ a.2.1 = v) → Ch T (w ++ [v])
  | [], _, h, _, _ => absurd rfl h
  | [u], v, _, _, h => ⟨h, trivial⟩
  | u :: x :: r, v, _, h, h2 => ⟨h.1, ch_snoc (w := x :: r) (by simp) h.2 h2⟩
theorem ch_drop : ∀ {w : List Nat} (k : Nat), Ch T w → Ch T (w.drop k)
  | _, 0, h => h
  | [], _ + 1, _ => trivial
  | [u], k + 1, _ => by rw [List.drop_succ_cons, List.drop_nil]; trivial
  | u :: v :: r, k + 1, h => by rw [List.drop_succ_cons]; exact ch_drop k h.2
theorem costs_mem {a : Arc} (h : a ∈ G) : a.2.2 ∈ costsUV G a.1 a.2.1 := by
  unfold costsUV
  exact List.mem_map.mpr ⟨a, List.mem_filter.mpr ⟨h, by simp⟩, rfl⟩
theorem mem_costs {u v : Nat} {c : Int} (h : c ∈ costsUV G u v) : ∃ a ∈ G, a.1 = u ∧ a.2.1 = v ∧ a.2.2 = c := by
  unfold costsUV at h
  obtain ⟨a, h1, h2⟩ := List.mem_map.mp h
  rw [List.mem_filter, Bool.and_eq_true, decide_eq_true_eq, decide_eq_true_eq] at h1
  exact ⟨a, h1.1, h1.2.1, h1.2.2, h2⟩
theorem tight_min (hF : Feas G m p) (hm : 0 ≤ m.2) {a : Arc} (h : a ∈ tightL m p G) : costsUV G a.1 a.2.1 ≠ [] ∧ lmin (costsUV G a.1 a.2.1) * m.2 - m.1 = p.getD a.2.1 0 - p.getD a.1 0 := by
  unfold tightL at h
  obtain ⟨h1, h2⟩ := List.mem_filter.mp h
  unfold isTight at h2
  rw [decide_eq_true_eq] at h2
  have hc := costs_mem h1
  have hne : costsUV G a.1 a.2.1 ≠ [] := fun e => by rw [e] at hc; cases hc
  refine ⟨hne, ?_⟩
  obtain ⟨b, b1, b2, b3, b4⟩ := mem_costs (lmin_mem hne)
  have f := hF b b1
  have l := Int.mul_le_mul_of_nonneg_right (lmin_le hc) hm
  rw [b2, b3] at f
  unfold spareF at f h2
  rw [b4] at f
  omega
theorem sum_ch (hF : Feas G m p) (hm : 0 ≤ m.2) : ∀ {w : List Nat} {u : Nat}, Ch (tightL m p G) (u :: w) → sumW G m (u :: w) = some (p.getD ((u :: w).getLastD 0) 0 - p.getD u 0)
  | [], u, _ => by
    show some 0 = some (p.getD u 0 - p.getD u 0)
    rw [Int.sub_self]
  | v :: r, u, h => by
    obtain ⟨⟨a, h1, h2, h3⟩, h4⟩ := h
    obtain ⟨e1, e2⟩ := tight_min hF hm h1
    rw [h2, h3] at e1 e2
    have ih := sum_ch hF hm h4
    unfold sumW
    rw [if_neg e1, ih, e2]
    dsimp only
    refine congrArg some ?_
    have : (u :: v :: r).getLastD 0 = (v :: r).getLastD 0 := rfl
    rw [this]
    omega
theorem judge_ch (hF : Feas G m p) (hm : 0 < m.2) (hp : p.length = n) {w : List Nat} (hw : 2 ≤ w.length) (he : w.head? = w.getLast?) (hc : Ch (tightL m p G) w) : judge n G m p w = true := by
  refine judge_eq.mpr ⟨hp, by omega, hw, he, hF, ?_⟩
  cases w with
  | nil => simp at hw
  | cons u w =>
    rw [sum_ch hF (Int.le_of_lt hm) hc]
    have : (u :: w).getLastD 0 = u := by
      rw [List.getLastD_eq_getLast?, ← he]
      rfl
    rw [this, Int.sub_self]
theorem getLastD_app {w : List Nat} {v : Nat} : (w ++ [v]).getLastD 0 = v := by
  rw [List.getLastD_eq_getLast?, List.getLast?_append]
  rfl
theorem goF_ok {al : List Bool} (hal : ∀ v, al.getD v false = true → nextOf T al v ≠ []) (hb : ∀ a ∈ T, a.2.1 < n) : ∀ (f : Nat) (w : List Nat), w ≠ [] → w.Nodup → (∀ x ∈ w, x < n) → Ch T w → al.getD (w.getLastD 0) false = true → n < w.length + f →
    2 ≤ (goF T al f w).length ∧ (goF T al f w).head? = (goF T al f w).getLast? ∧ Ch T (goF T al f w) ∧ (∀ x ∈ goF T al f w, x < n) ∧ (goF T al f w).length ≤ n + 1
  | 0, w, _, hd, hx, _, _, hf => by
    have := nodup_le n w hd hx
    omega
  | f + 1, w, h0, hd, hx, hc, hl, hf => by
    obtain ⟨_, a, ha, e⟩ := step_int (hal _ hl)
    obtain ⟨a1, a2, a3⟩ := mem_next.mp ha
    rw [e] at a3
    have hs : stepOf T al (w.getLastD 0) < n := by rw [← e]; exact hb a a1
    have hwn := nodup_le n w hd hx
    unfold goF
    generalize stepOf T al (w.getLastD 0) = s at e a3 hs
    by_cases hm : s ∈ w
    · rw [if_pos hm]
      have hi : w.idxOf s < w.length := List.idxOf_lt_length_iff.mpr hm
      have hg : w[w.idxOf s] = s := List.getElem_idxOf hi
      have hdr : w.drop (w.idxOf s) = s :: w.drop (w.idxOf s + 1) := by rw [List.drop_eq_getElem_cons hi, hg]
      have hlast : (w.drop (w.idxOf s)).getLastD 0 = w.getLastD 0 := by
        rw [List.getLastD_eq_getLast?, List.getLastD_eq_getLast?, List.getLast?_drop, if_neg (by omega)]
      refine ⟨?_, ?_, ?_, fun x hx' => ?_, ?_⟩
      · rw [hdr, List.length_append, List.length_cons, List.length_singleton]
        omega
      · rw [List.getLast?_append, hdr]
        rfl
      · refine ch_snoc (by rw [hdr]; simp) (ch_drop _ hc) ⟨a, a1, ?_, e⟩
        rw [hlast]
        exact a2
      · rcases List.mem_append.mp hx' with z | z
        · exact hx x (List.mem_of_mem_drop z)
        · rw [List.mem_singleton] at z
          rw [z]
          exact hs
      · rw [List.length_append, List.length_drop, List.length_singleton]
        omega
    · rw [if_neg hm]
      refine goF_ok hal hb f (w ++ [s]) (by simp) ?_ (fun x hx' => ?_) (ch_snoc h0 hc ⟨a, a1, a2, e⟩) ?_ ?_
      · rw [List.nodup_append]
        refine ⟨hd, by simp, fun x h1 y h2 e3 => ?_⟩
        rw [List.mem_singleton] at h2
        subst h2
        subst e3
        exact hm h1
      · rcases List.mem_append.mp hx' with z | z
        · exact hx x z
        · rw [List.mem_singleton] at z
          rw [z]
          exact hs
      · rw [getLastD_app]
        exact a3
      · rw [List.length_append, List.length_singleton]
        omega
/-- the program's paper is right -/
theorem paper_right (hn : 1 ≤ n) (hG : okA n G) (h : leastMean n G = some m) : 0 < m.2 ∧ judge n G m (potOf n G m) (tightRound n G m (potOf n G m)) = true ∧ (potOf n G m).length = n ∧ (∀ x ∈ tightRound n G m (potOf n G m), x < n) ∧ (tightRound n G m (potOf n G m)).length ≤ n + 1 := by
  obtain ⟨p, h1, h2, h3, h4, h5⟩ := paper_facts hn hG h
  obtain ⟨hm, _⟩ := least_facts hG hn h
  have hpo : potOf n G m = p := by unfold potOf; rw [h1]; rfl
  rw [hpo, tightRound_eq]
  have hb : ∀ a ∈ tightL m p G, a.2.1 < n := fun a ha => (hG a (List.mem_filter.mp ha).1).2
  generalize hS : startsN n (aliveN n (tightL m p G)) = S at h4
  cases S with
  | nil => exact absurd rfl h4
  | cons x S =>
    have hx : x ∈ startsN n (aliveN n (tightL m p G)) := by rw [hS]; exact List.mem_cons_self
    obtain ⟨x1, x2⟩ := List.mem_filter.mp hx
    rw [List.mem_range] at x1
    obtain ⟨a1, a2, a3, a4, a5⟩ := goF_ok (T := tightL m p G) h5.2 hb (n + 1) [x] (by simp) (by simp) (fun y hy => by rw [List.mem_singleton] at hy; rw [hy]; exact x1) trivial x2 (by rw [List.length_singleton]; omega)
    exact ⟨hm, judge_ch h3 hm h2 a1 a2 a3, h2, a4, a5⟩
/-! ### the law's own paper -/
theorem rev_walk : ∀ {l : List Arc} {u v : Nat}, IsW (G.map swp) u l v → ∃ l', IsW G v l' u ∧ costW m l' = costW m l
  | [], u, v, h => ⟨[], (show u = v from h).symm, rfl⟩
  | a :: l, u, v, h => by
    obtain ⟨h1, h2, h3⟩ := h
    obtain ⟨l', w, c⟩ := rev_walk h3
    obtain ⟨b, hb, e⟩ := List.mem_map.mp h1
    refine ⟨l' ++ [b], isW_app w ⟨hb, ?_, ?_⟩, ?_⟩
    · rw [← e]; rfl
    · rw [← h2, ← e]; rfl
    · rw [costW_app, c, ← e]
      show _ + (spareF b m + 0) = spareF (swp b) m + _
      have : spareF (swp b) m = spareF b m := rfl
      omega
theorem noneg_swp (h : NoNeg G m) : NoNeg (G.map swp) m := fun x l hw => by
  obtain ⟨l', w, c⟩ := rev_walk (m := m) hw
  rw [← c]
  exact h x l' w
theorem getD_neg {q : List Int} {i : Nat} : (q.map fun x => -x).getD i 0 = -(q.getD i 0) := by
  rw [List.getD_eq_getElem?_getD, List.getD_eq_getElem?_getD, List.getElem?_map]
  cases q[i]? with
  | none => rfl
  | some x => rfl
/-- potentials of the law's own -/
theorem law_pot (hn : 0 < n) (hG : okA n G) (hN : NoNeg G m) : ∃ q, potF m (G.map swp) n (List.replicate n 0) = some q ∧ q.length = n ∧ Feas G m (q.map fun x => -x) := by
  have hGs : okA n (G.map swp) := fun a ha => by
    obtain ⟨b, hb, rfl⟩ := List.mem_map.mp ha
    exact ⟨(hG b hb).2, (hG b hb).1⟩
  obtain ⟨q, h1, h2, h3⟩ := bf_ok hGs (noneg_swp hN) hn n (Nat.le_refl _)
  refine ⟨q, h1, h2, fun a ha => ?_⟩
  have := h3 (swp a) (List.mem_map.mpr ⟨a, ha, rfl⟩)
  have e1 : (swp a).2.1 = a.1 := rfl
  have e2 : (swp a).1 = a.2.1 := rfl
  have e3 : spareF (swp a) m = spareF a m := rfl
  rw [e1, e2, e3] at this
  rw [getD_neg, getD_neg]
  omega
theorem walk_ch : ∀ {l : List Arc} {u v : Nat}, IsW G u l v → (∀ a ∈ l, a ∈ T) → Ch T (srcs l ++ [v])
  | [], _, _, _, _ => trivial
  | [a], u, v, hw, h => ⟨⟨a, h a List.mem_cons_self, rfl, hw.2.2⟩, trivial⟩
  | a :: b :: l, u, v, hw, h => by
    obtain ⟨h1, h2, h3⟩ := hw
    have ih := walk_ch h3 fun c hc => h c (List.mem_cons_of_mem _ hc)
    exact ⟨⟨a, h a List.mem_cons_self, rfl, h3.2.1.symm⟩, ih⟩
/-- a round that is known: its walk -/
def RoundOk (G : List Arc) (r : Int × Nat × List Nat) : Prop := ∃ x l, IsW G x l x ∧ l ≠ [] ∧ l.length = r.2.1 ∧ costP l = r.1 ∧ srcs l = r.2.2
theorem own_right (hm : 0 < m.2) {q : List Int} (hq : q.length = n) (hF : Feas G m q) {r : Int × Nat × List Nat} (hr : RoundOk G r) (h0 : r.1 * m.2 = m.1 * (r.2.1 : Int)) : judge n G m q (r.2.2 ++ r.2.2.take 1) = true := by
  obtain ⟨x, l, hw, hl, e1, e2, e3⟩ := hr
  rw [← e3]
  have ht : (srcs l).take 1 = [x] := by
    cases l with
    | nil => exact absurd rfl hl
    | cons a l =>
      rw [← hw.2.1]
      rfl
  rw [ht]
  have hc : costW m l = 0 := by rw [costW_eq, e1, e2]; omega
  have htt := tight_of hF hw (by rw [hc]; omega)
  have hlen : 0 < (srcs l).length := by
    unfold srcs
    rw [List.length_map]
    exact List.length_pos_iff.mpr hl
  refine judge_ch hF hm hq (by rw [List.length_append, List.length_singleton]; omega) ?_ (walk_ch hw htt)
  rw [List.getLast?_append]
  cases l with
  | nil => exact absurd rfl hl
  | cons a l =>
    rw [← hw.2.1]
    rfl
/-! ### another paper -/
theorem sum_cc (u v : Nat) (y : List Nat) : sumW G m (u :: v :: y) = if costsUV G u v = [] then none else match sumW G m (v :: y) with
      | none => none
      | some t => some (lmin (costsUV G u v) * m.2 - m.1 + t) := by
  rw [sumW] <;> rfl
theorem sum_one (x : Nat) : sumW G m [x] = some 0 := by rw [sumW]; intro u v r e; cases e
theorem sum_app : ∀ (l1 l2 : List Nat) (x : Nat), sumW G m (l1 ++ x :: l2) = (sumW G m (l1 ++ [x])).bind fun a => (sumW G m (x :: l2)).map (a + ·)
  | [], l2, x => by
    rw [List.nil_append, List.nil_append, sum_one]
    cases sumW G m (x :: l2) with
    | none => rfl
    | some t => exact congrArg some (Int.zero_add t).symm
  | [u], l2, x => by
    show sumW G m (u :: x :: l2) = (sumW G m (u :: [x])).bind fun a => (sumW G m (x :: l2)).map (a + ·)
    rw [sum_cc, sum_cc, sum_one]
    split
    · rfl
    · cases sumW G m (x :: l2) with
      | none => rfl
      | some t =>
        refine congrArg some ?_
        dsimp only
        omega
  | u :: v :: l1, l2, x => by
    have ih := sum_app (v :: l1) l2 x
    show sumW G m (u :: v :: (l1 ++ x :: l2)) = (sumW G m (u :: v :: (l1 ++ [x]))).bind fun a => (sumW G m (x :: l2)).map (a + ·)
    have e1 : v :: l1 ++ x :: l2 = v :: (l1 ++ x :: l2) := rfl
    have e2 : v :: l1 ++ [x] = v :: (l1 ++ [x]) := rfl
    rw [e1, e2] at ih
    rw [sum_cc, sum_cc, ih]
    split
    · rfl
    · cases sumW G m (v :: (l1 ++ [x])) with
      | none => rfl
      | some s =>
        cases sumW G m (x :: l2) with
        | none => rfl
        | some t =>
          refine congrArg some ?_
          dsimp only
          omega
/-- the open round, begun elsewhere -/
def turned (w : List Nat) (t : Nat) : List Nat := (w.take (w.length - 1)).drop t ++ w.take t
theorem closed_sum {o : List Nat} {x : Nat} {r : List Nat} (e : o = x :: r) (t : Nat) (ht : t < o.length) (h : sumW G m (o ++ [x]) = some 0) : sumW G m (o.drop t ++ o.take t ++ (o.drop t ++ o.take t).take 1) = some 0 := by
  cases t with
  | zero =>
    rw [List.drop_zero, List.take_zero, List.append_nil]
    subst e
    exact h
  | succ t =>
    subst e
    obtain ⟨y, s, ey⟩ : ∃ y s, (x :: r).drop (t + 1) = y :: s := ⟨_, _, List.drop_eq_getElem_cons ht⟩
    have ea : (x :: r).take (t + 1) = x :: r.take t := rfl
    have ex : x :: r = (x :: r.take t) ++ (y :: s) := by rw [← ea, ← ey, List.take_append_drop]
    have h2 : sumW G m ((x :: r.take t) ++ y :: (s ++ [x])) = some 0 := by
      rw [ex] at h
      have : (x :: r.take t) ++ (y :: s) ++ [x] = (x :: r.take t) ++ y :: (s ++ [x]) := by simp
      rw [this] at h
      exact h
    rw [sum_app] at h2
    rw [ey, ea]
    have e3 : y :: s ++ x :: List.take t r ++ List.take 1 (y :: s ++ x :: List.take t r) = (y :: s) ++ x :: (r.take t ++ [y]) := by simp
    rw [e3, sum_app]
    have e4 : x :: (List.take t r ++ [y]) = x :: List.take t r ++ [y] := rfl
    have e5 : y :: (s ++ [x]) = y :: s ++ [x] := rfl
    rw [e5] at h2
    rw [e4]
    cases qa : sumW G m (x :: List.take t r ++ [y]) with
    | none => rw [qa] at h2; cases h2
    | some a =>
      rw [qa] at h2
      cases qb : sumW G m (y :: s ++ [x]) with
      | none => rw [qb] at h2; cases h2
      | some b =>
        rw [qb] at h2
        have h2 : a + b = 0 := Option.some.inj h2
        refine congrArg some ?_
        dsimp only
        omega
theorem twice_sum {o : List Nat} {x : Nat} {r : List Nat} (e : o = x :: r) (h : sumW G m (o ++ [x]) = some 0) : sumW G m (o ++ o ++ [x]) = some 0 := by
  subst e
  have e1 : x :: r ++ (x :: r) ++ [x] = (x :: r) ++ x :: (r ++ [x]) := by simp
  rw [e1, sum_app, h]
  have e2 : x :: (r ++ [x]) = x :: r ++ [x] := rfl
  rw [e2, h]
  rfl
theorem getD_lift {q : List Int} {i : Nat} {d : Int} (h : i < q.length) : (q.map fun x => x + d).getD i 0 = q.getD i 0 + d := by
  rw [List.getD_eq_getElem?_getD, List.getD_eq_getElem?_getD, List.getElem?_map, List.getElem?_eq_getElem h]
  rfl
theorem another_right (hG : okA n G) {w : List Nat} (h : judge n G m p w = true) (d : Int) (t : Nat) (ht : t < w.length - 1) (two : Bool) : judge n G m (p.map fun x => x + d) ((if two = true then turned w t ++ turned w t else turned w t) ++ (if two = true then turned w t ++ turned w t else turned w t).take 1) = true := by
  obtain ⟨h1, h2, h3, h4, h5, h6⟩ := judge_eq.mp h
  have hlen : (w.take (w.length - 1)).length = w.length - 1 := by rw [List.length_take]; omega
  have hw : w = w.take (w.length - 1) ++ [w.getLastD 0] := by
    have hl : w.drop (w.length - 1) = [w.getLastD 0] := by
      rw [List.drop_eq_getElem_cons (show w.length - 1 < w.length by omega), List.drop_of_length_le (by omega), List.getLastD_eq_getLast?, List.getLast?_eq_getElem?, List.getElem?_eq_getElem (show w.length - 1 < w.length by omega)]
      rfl
    rw [← hl, List.take_append_drop]
  have ht1 : w.take t = (w.take (w.length - 1)).take t := by rw [List.take_take, Nat.min_eq_left (by omega)]
  unfold turned
  rw [ht1]
  generalize ho : w.take (w.length - 1) = o at hw hlen ⊢
  cases o with
  | nil => rw [List.length_nil] at hlen; omega
  | cons x r =>
    have hx : w.getLastD 0 = x := by
      have : w.head? = some x := by rw [hw]; rfl
      rw [List.getLastD_eq_getLast?, ← h4, this]
      rfl
    rw [hx] at hw
    have hs : sumW G m (x :: r ++ [x]) = some 0 := by rw [← hw]; exact h6
    have hc := closed_sum (G := G) (m := m) rfl t (by omega) hs
    have hlen2 : ((x :: r).drop t ++ (x :: r).take t).length = w.length - 1 := by
      rw [List.length_append, List.length_drop, List.length_take, hlen]
      omega
    generalize (x :: r).drop t ++ (x :: r).take t = o2 at hc hlen2
    cases o2 with
    | nil => rw [List.length_nil] at hlen2; omega
    | cons y s =>
      have hc : sumW G m (y :: s ++ [y]) = some 0 := hc
      have hF : ∀ a ∈ G, (p.map fun x => x + d).getD a.2.1 0 ≤ (p.map fun x => x + d).getD a.1 0 + spareF a m := fun a ha => by
        have := h5 a ha
        have := hG a ha
        rw [getD_lift (by omega), getD_lift (by omega)]
        omega
      have lst : ∀ z : List Nat, (y :: z).head? = (y :: z ++ [y]).getLast? := fun z => by
        rw [List.getLast?_append]
        rfl
      cases two with
      | false =>
        rw [if_neg Bool.false_ne_true]
        exact judge_eq.mpr ⟨by rw [List.length_map]; exact h1, h2, by rw [List.length_append]; simp, lst s, hF, hc⟩
      | true =>
        rw [if_pos rfl]
        refine judge_eq.mpr ⟨by rw [List.length_map]; exact h1, h2, by rw [List.length_append]; simp, ?_, hF, ?_⟩
        · exact lst (s ++ y :: s)
        · exact twice_sum rfl hc
end
end K85
namespace K85
open Wk
/-- what the law knows of a graph: its rounds are rounds, and no other is cheaper -/
structure GraphOk (n : Nat) (G : List Arc) (R : List Rnd) : Prop where
  n1 : 1 ≤ n
  n2 : n ≤ 199
  al : G.length ≤ 3999
  ok : okA n G
  rd : ∀ r ∈ R, RoundOk G r
  rb : ∀ r ∈ R, r.2.1 ≤ 1000
  rl : R.length < 1000000
  du : ∀ m : Fc, 0 < m.2 → (∀ r ∈ R, m.1 * (r.2.1 : Int) ≤ r.1 * m.2) → NoNeg G m
section
variable {G : List Arc} {n : Nat} {m : Fc}
theorem cheap_arc {u v : Nat} {c : Int} (h : cheap G u v = some c) : ∃ a ∈ G, a.1 = u ∧ a.2.1 = v ∧ a.2.2 = c := by
  unfold cheap at h
  split at h
  · cases h
  · rename_i hne
    rw [← Option.some.inj h]
    exact mem_costs (lmin_mem hne)
theorem arc_cheap {a : Arc} (h : a ∈ G) : ∃ c, cheap G a.1 a.2.1 = some c ∧ c ≤ a.2.2 := by
  have hc := costs_mem h
  unfold cheap
  rw [if_neg (fun e => by rw [e] at hc; cases hc)]
  exact ⟨_, rfl, lmin_le hc⟩
theorem srcs_app (l l' : List Arc) : srcs (l ++ l') = srcs l ++ srcs l' := List.map_append
theorem nodes_eq : ∀ {l : List Arc} {u v : Nat}, IsW G u l v → u :: tgts l = srcs l ++ [v]
  | [], u, v, h => by rw [show u = v from h]; rfl
  | a :: l, u, v, h => by
    obtain ⟨h1, h2, h3⟩ := h
    have ih := nodes_eq h3
    show u :: a.2.1 :: tgts l = a.1 :: (srcs l ++ [v])
    rw [ih, h2]
/-- rounds without a node twice are enough -/
theorem simple_noneg (h : ∀ x l, IsW G x l x → l ≠ [] → (srcs l).Nodup → 0 ≤ costW m l) : NoNeg G m := by
  have key : ∀ k x l, l.length ≤ k → IsW G x l x → 0 ≤ costW m l := by
    intro k
    induction k with
    | zero =>
      intro x l hl hw
      obtain rfl := List.length_eq_zero_iff.mp (by omega : l.length = 0)
      exact Int.le_refl _
    | succ k ih =>
      intro x l hl hw
      rcases List.eq_nil_or_concat l with e | ⟨l', a, e⟩
      · subst e; exact Int.le_refl _
      · rw [List.concat_eq_append] at e
        subst e
        by_cases hd : (srcs (l' ++ [a])).Nodup
        · exact h x _ hw (by simp) hd
        · obtain ⟨x1, x2, x3⟩ := last_arc hw
          have e1 : x :: tgts l' = srcs (l' ++ [a]) := by
            rw [nodes_eq x2, srcs_app]
            rfl
          rw [← e1] at hd
          obtain ⟨l1, l2, l3, z, e2, g2, v1, v2, v3⟩ := closed_part x2 hd
          have hp : 0 < l2.length := List.length_pos_iff.mpr g2
          have hlen : l'.length = l1.length + (l2.length + l3.length) := by rw [e2, List.length_append, List.length_append]
          rw [List.length_append, List.length_singleton] at hl
          have c1 := ih z l2 (by omega) v2
          have c2 := ih x (l1 ++ (l3 ++ [a])) (by rw [List.length_append, List.length_append, List.length_singleton]; omega) (isW_app v1 (isW_app v3 ⟨x1, rfl, x3⟩))
          rw [e2]
          rw [costW_app, costW_app] at c2
          rw [costW_app, costW_app, costW_app]
          omega
  exact fun x l hw => key l.length x l (Nat.le_refl _) hw
theorem least_node : ∀ {w : List Nat}, w ≠ [] → ∃ s ∈ w, ∀ y ∈ w, s ≤ y
  | [], h => absurd rfl h
  | [x], _ => ⟨x, List.mem_cons_self, fun y hy => by rw [List.mem_singleton] at hy; omega⟩
  | x :: y :: r, _ => by
    obtain ⟨s, h1, h2⟩ := least_node (w := y :: r) (by simp)
    by_cases h : x ≤ s
    · refine ⟨x, List.mem_cons_self, fun z hz => ?_⟩
      rcases List.mem_cons.mp hz with e | e
      · omega
      · exact Nat.le_trans h (h2 z e)
    · refine ⟨s, List.mem_cons_of_mem _ h1, fun z hz => ?_⟩
      rcases List.mem_cons.mp hz with e | e
      · omega
      · exact h2 z e
theorem split_src : ∀ {l : List Arc} {u v x : Nat}, IsW G u l v → x ∈ srcs l → ∃ l1 l2, l = l1 ++ l2 ∧ IsW G u l1 x ∧ IsW G x l2 v ∧ l2 ≠ []
  | [], _, _, _, _, h => nomatch h
  | a :: l, u, v, x, hw, h => by
    by_cases e : x = a.1
    · refine ⟨[], a :: l, rfl, ?_, ?_, by simp⟩
      · show u = x
        rw [e]
        exact hw.2.1.symm
      · rw [e]
        exact ⟨hw.1, rfl, hw.2.2⟩
    · obtain ⟨l1, l2, rfl, w1, w2, h2⟩ := split_src hw.2.2 (List.mem_of_ne_of_mem e h)
      exact ⟨a :: l1, l2, rfl, ⟨hw.1, hw.2.1, w1⟩, w2, h2⟩
/-- each simple path from s is looked at -/
theorem path_there (hG : okA n G) {s : Nat} : ∀ (k : Nat) {l : List Arc} {y : Nat}, l.length = k → IsW G s l y → (srcs l ++ [y]).Nodup → (∀ z ∈ srcs l ++ [y], s ≤ z) → ∃ p ∈ pathsN n G s k, p.1 = srcs l ++ [y] ∧ p.2 ≤ costP l
  | 0, l, y, hl, hw, _, _ => by
    obtain rfl := List.length_eq_zero_iff.mp hl
    have hw : s = y := hw
    subst hw
    exact ⟨([s], 0), List.mem_singleton.mpr rfl, rfl, Int.le_refl _⟩
  | k + 1, l, y, hl, hw, hd, hs => by
    rcases List.eq_nil_or_concat l with e | ⟨l', a, e⟩
    · subst e; cases hl
    · rw [List.concat_eq_append] at e
      subst e
      obtain ⟨x1, x2, x3⟩ := last_arc hw
      have es : srcs (l' ++ [a]) = srcs l' ++ [a.1] := srcs_app _ _
      rw [es] at hd hs
      rw [List.length_append, List.length_singleton] at hl
      obtain ⟨p, p1, p2, p3⟩ := path_there hG k (by omega) x2 (List.nodup_append.mp hd).1 (fun z hz => hs z (List.mem_append_left _ hz))
      obtain ⟨c, c1, c2⟩ := arc_cheap x1
      have hy : y ∉ p.1 := by
        rw [p2]
        intro hm
        exact (List.nodup_append.mp hd).2.2 y hm y (List.mem_singleton.mpr rfl) rfl
      have hsy : s < y := by
        have h1 := hs y (by simp)
        have h2 : s ≠ y := by
          intro e
          subst e
          refine hy ?_
          rw [p2]
          cases l' with
          | nil =>
            have : s = a.1 := x2
            rw [this]
            simp [srcs]
          | cons b l' =>
            rw [← x2.2.1]
            exact List.mem_cons_self
        omega
      have hyn : y < n := by rw [← x3]; exact (hG a x1).2
      refine ⟨(p.1 ++ [y], p.2 + c), ?_, ?_, ?_⟩
      · show _ ∈ (pathsN n G s k).flatMap (extP n G s)
        refine List.mem_flatMap.mpr ⟨p, p1, ?_⟩
        unfold extP
        refine List.mem_filterMap.mpr ⟨y, ?_, ?_⟩
        · unfold nodesFrom
          exact List.mem_map.mpr ⟨y - (s + 1), List.mem_range.mpr (by omega), by omega⟩
        · unfold ext1
          rw [if_neg hy, p2, getLastD_app, ← x3, c1]
          rfl
      · rw [es, p2]
      · rw [costP_app]
        show p.2 + c ≤ costP l' + (a.2.2 + 0)
        omega
theorem path_walk {s : Nat} : ∀ (k : Nat) {p : Path}, p ∈ pathsN n G s k → ∃ l, IsW G s l (p.1.getLastD 0) ∧ costP l = p.2 ∧ srcs l ++ [p.1.getLastD 0] = p.1 ∧ l.length = k
  | 0, p, h => by
    obtain rfl := List.mem_singleton.mp (show p ∈ [([s], 0)] from h)
    exact ⟨[], rfl, rfl, rfl, rfl⟩
  | k + 1, p, h => by
    obtain ⟨q, hq, hp⟩ := List.mem_flatMap.mp (show p ∈ (pathsN n G s k).flatMap (extP n G s) from h)
    obtain ⟨l, h1, h2, h3, h4⟩ := path_walk k hq
    unfold extP at hp
    obtain ⟨v, _, hv⟩ := List.mem_filterMap.mp hp
    unfold ext1 at hv
    split at hv
    · cases hv
    · cases hc : cheap G (q.1.getLastD 0) v with
      | none => rw [hc] at hv; cases hv
      | some c =>
        rw [hc] at hv
        obtain rfl := Option.some.inj hv
        obtain ⟨a, a1, a2, a3, a4⟩ := cheap_arc hc
        refine ⟨l ++ [a], ?_, ?_, ?_, ?_⟩
        · rw [getLastD_app]
          exact isW_app h1 ⟨a1, a2, a3⟩
        · rw [costP_app, h2]
          show q.2 + (a.2.2 + 0) = q.2 + c
          omega
        · rw [srcs_app, getLastD_app]
          have : srcs [a] = [q.1.getLastD 0] := by rw [← a2]; rfl
          rw [this, h3]
        · rw [List.length_append, h4]
          rfl
theorem rounds_ok {r : Rnd} (h : r ∈ roundsN n G) : RoundOk G r ∧ r.2.1 ≤ n := by
  unfold roundsN at h
  obtain ⟨s, hs, h⟩ := List.mem_flatMap.mp h
  unfold roundsS at h
  obtain ⟨t, ht, h⟩ := List.mem_flatMap.mp h
  unfold roundsT at h
  obtain ⟨p, hp, h⟩ := List.mem_filterMap.mp h
  rw [List.mem_range] at hs ht
  unfold closeP at h
  cases hc : cheap G (p.1.getLastD 0) s with
  | none => rw [hc] at h; cases h
  | some c =>
    rw [hc] at h
    obtain rfl := Option.some.inj h
    obtain ⟨a, a1, a2, a3, a4⟩ := cheap_arc hc
    obtain ⟨l, h1, h2, h3, h4⟩ := path_walk t hp
    have hl : p.1.length = t + 1 := (paths_ok t p hp).2
    refine ⟨⟨s, l ++ [a], isW_app h1 ⟨a1, a2, a3⟩, by simp, ?_, ?_, ?_⟩, ?_⟩
    · rw [List.length_append, h4, List.length_singleton]
      exact hl.symm
    · rw [costP_app, h2]
      show p.2 + (a.2.2 + 0) = p.2 + c
      omega
    · rw [srcs_app]
      have : srcs [a] = [p.1.getLastD 0] := by rw [← a2]; rfl
      rw [this, h3]
    · show p.1.length ≤ n
      omega
theorem small_dual (hG : okA n G) (hm : 0 < m.2) (h : ∀ r ∈ roundsN n G, m.1 * (r.2.1 : Int) ≤ r.1 * m.2) : NoNeg G m := by
  have low : ∀ s l, IsW G s l s → l ≠ [] → (srcs l).Nodup → (∀ z ∈ srcs l, s ≤ z) → 0 ≤ costW m l := by
    intro s l hw hl hd hs
    rcases List.eq_nil_or_concat l with e | ⟨l', a, e⟩
    · exact absurd e hl
    · rw [List.concat_eq_append] at e
      subst e
      obtain ⟨x1, x2, x3⟩ := last_arc hw
      have es : srcs (l' ++ [a]) = srcs l' ++ [a.1] := srcs_app _ _
      rw [es] at hd hs
      obtain ⟨p, p1, p2, p3⟩ := path_there hG l'.length rfl x2 hd hs
      obtain ⟨c, c1, c2⟩ := arc_cheap x1
      have hlt : ∀ z ∈ srcs l' ++ [a.1], z < n := fun z hz => by
        rw [← es] at hz
        obtain ⟨b, b1, b2⟩ := List.mem_map.mp (show z ∈ (l' ++ [a]).map fun a => a.1 from hz)
        rw [← b2]
        exact (hG b (isW_mem hw b b1)).1
      have hcnt := nodup_le n (List.range s ++ (srcs l' ++ [a.1])) (List.nodup_append.mpr ⟨List.nodup_range, hd, fun x hx y hy e => by
        rw [List.mem_range] at hx
        have := hs y hy
        omega⟩) (fun x hx => by
        rcases List.mem_append.mp hx with z | z
        · rw [List.mem_range] at z
          have := hlt a.1 (by simp)
          have := hs a.1 (by simp)
          omega
        · exact hlt x z)
      have hsl : (srcs l').length = l'.length := List.length_map _
      rw [List.length_append, List.length_append, List.length_range, List.length_singleton, hsl] at hcnt
      have hr : (p.2 + c, p.1.length, p.1) ∈ roundsN n G := by
        unfold roundsN roundsS roundsT
        refine List.mem_flatMap.mpr ⟨s, List.mem_range.mpr (by omega), List.mem_flatMap.mpr ⟨l'.length, List.mem_range.mpr (by omega), List.mem_filterMap.mpr ⟨p, p1, ?_⟩⟩⟩
        unfold closeP
        rw [p2, getLastD_app, ← x3, c1]
        rfl
      have hh := h _ hr
      dsimp only at hh
      have hpl : p.1.length = (l' ++ [a]).length := by rw [p2, List.length_append, hsl, List.length_append]; rfl
      rw [hpl] at hh
      have hcp : costP (l' ++ [a]) = costP l' + (a.2.2 + 0) := costP_app _ _
      have hle : p.2 + c ≤ costP (l' ++ [a]) := by omega
      have := Int.mul_le_mul_of_nonneg_right hle (Int.le_of_lt hm)
      rw [costW_eq]
      omega
  refine simple_noneg fun x l hw hl hd => ?_
  have hne : srcs l ≠ [] := fun e => hl (List.map_eq_nil_iff.mp e)
  obtain ⟨s, s1, s2⟩ := least_node hne
  obtain ⟨l1, l2, rfl, w1, w2, h2⟩ := split_src hw s1
  rw [srcs_app] at hd s2
  have hc := low s (l2 ++ l1) (isW_app w2 w1) (by
    intro e
    exact h2 (List.append_eq_nil_iff.mp e).1) (by
    rw [srcs_app]
    obtain ⟨d1, d2, d3⟩ := List.nodup_append.mp hd
    exact List.nodup_append.mpr ⟨d2, d1, fun a ha b hb e => d3 b hb a ha e.symm⟩) (fun z hz => by
    rw [srcs_app] at hz
    exact s2 z (List.mem_append.mpr (List.mem_append.mp hz).symm))
  rw [costW_app] at hc ⊢
  omega
theorem small_ok (h1 : 1 ≤ n) (h5 : n ≤ 5) (hG : okA n G) (hl : G.length ≤ 18) : GraphOk n G (roundsN n G) where
  n1 := h1
  n2 := by omega
  al := by omega
  ok := hG
  rd := fun r hr => (rounds_ok hr).1
  rb := fun r hr => by have := (rounds_ok hr).2; omega
  rl := by
    have := flatMap_len (f := roundsS n G) (B := 15625) (List.range n) fun t _ => roundsS_len h5
    rw [List.length_range] at this
    have h2 : n * 15625 ≤ 5 * 15625 := Nat.mul_le_mul_right _ (by omega)
    unfold roundsN
    omega
  du := fun m hm h => small_dual hG hm h
end
end K85
namespace K85
open Wk
section
variable {G G0 G1 G2 : List Arc} {n : Nat} {m : Fc}
/-! ### potentials as a function -/
theorem fun_tele {φ : Nat → Int} (h : ∀ a ∈ G, φ a.2.1 ≤ φ a.1 + spareF a m) : ∀ {l : List Arc} {u v : Nat}, IsW G u l v → φ v ≤ φ u + costW m l
  | [], u, v, hw => by
    have hw : u = v := hw
    subst hw
    show _ ≤ _ + (0 : Int)
    omega
  | a :: l, u, v, hw => by
    obtain ⟨h1, h2, h3⟩ := hw
    have ih := fun_tele h h3
    have := h a h1
    rw [h2] at this
    show _ ≤ _ + (spareF a m + costW m l)
    omega
theorem fun_noneg {φ : Nat → Int} (h : ∀ a ∈ G, φ a.2.1 ≤ φ a.1 + spareF a m) : NoNeg G m := fun x l hw => by
  have := fun_tele h hw
  omega
/-! ### graphs put together -/
theorem isW_sub (h : ∀ a ∈ G, a ∈ G0) : ∀ {l : List Arc} {u v : Nat}, IsW G u l v → IsW G0 u l v
  | [], _, _, hw => hw
  | a :: l, _, _, hw => ⟨h a hw.1, hw.2.1, isW_sub h hw.2.2⟩
theorem round_sub (h : ∀ a ∈ G, a ∈ G0) {r : Rnd} (hr : RoundOk G r) : RoundOk G0 r := by
  obtain ⟨x, l, h1, h2⟩ := hr
  exact ⟨x, l, isW_sub h h1, h2⟩
def ren (g : Nat → Nat) (a : Arc) : Arc := (g a.1, g a.2.1, a.2.2)
theorem isW_ren {g : Nat → Nat} (h : ∀ a ∈ G, ren g a ∈ G0) : ∀ {l : List Arc} {u v : Nat}, IsW G u l v → IsW G0 (g u) (l.map (ren g)) (g v) ∧ costP (l.map (ren g)) = costP l ∧ costW m (l.map (ren g)) = costW m l ∧ srcs (l.map (ren g)) = (srcs l).map g
  | [], u, v, hw => ⟨congrArg g hw, rfl, rfl, rfl⟩
  | a :: l, u, v, hw => by
    obtain ⟨h1, h2, h3⟩ := hw
    obtain ⟨a1, a2, a3, a4⟩ := isW_ren h h3
    refine ⟨⟨h a h1, congrArg g h2, a1⟩, ?_, ?_, ?_⟩
    · show a.2.2 + costP (l.map (ren g)) = a.2.2 + costP l
      rw [a2]
    · show spareF a m + costW m (l.map (ren g)) = spareF a m + costW m l
      rw [a3]
    · show g a.1 :: srcs (l.map (ren g)) = g a.1 :: (srcs l).map g
      rw [a4]
theorem noneg_ren {g : Nat → Nat} (h : ∀ a ∈ G, ren g a ∈ G0) (hN : NoNeg G0 m) : NoNeg G m := fun x l hw => by
  obtain ⟨a1, _, a3, _⟩ := isW_ren (m := m) h hw
  rw [← a3]
  exact hN _ _ a1
theorem round_ren {g : Nat → Nat} (h : ∀ a ∈ G, ren g a ∈ G0) {r : Rnd} (hr : RoundOk G r) : RoundOk G0 (r.1, r.2.1, r.2.2.map g) := by
  obtain ⟨x, l, h1, h2, h3, h4, h5⟩ := hr
  obtain ⟨a1, a2, _, a4⟩ := isW_ren (m := (0, 1)) h h1
  refine ⟨g x, l.map (ren g), a1, fun e => h2 (List.map_eq_nil_iff.mp e), ?_, ?_, ?_⟩
  · rw [List.length_map]; exact h3
  · rw [a2]; exact h4
  · rw [a4, h5]
/-- steps of a height that never falls: a round stays at one height -/
theorem lvl_mono {f : Nat → Nat} (h : ∀ a ∈ G, f a.1 ≤ f a.2.1) : ∀ {l : List Arc} {u v : Nat}, IsW G u l v → f u ≤ f v ∧ (f v ≤ f u → ∀ a ∈ l, f a.1 = f u ∧ f a.2.1 = f u)
  | [], u, v, hw => by
    have hw : u = v := hw
    subst hw
    exact ⟨Nat.le_refl _, fun _ a ha => nomatch ha⟩
  | a :: l, u, v, hw => by
    obtain ⟨h1, h2, h3⟩ := hw
    obtain ⟨i1, i2⟩ := lvl_mono h h3
    have := h a h1
    rw [h2] at this
    refine ⟨Nat.le_trans this i1, fun hv b hb => ?_⟩
    rcases List.mem_cons.mp hb with e | e
    · subst e
      rw [h2]
      exact ⟨rfl, by omega⟩
    · have := i2 (by omega) b e
      omega
theorem isW_in (h : ∀ a ∈ G, a ∈ G0) : ∀ {l : List Arc} {u v : Nat}, IsW G u l v → True := fun _ => trivial
theorem isW_of : ∀ {l : List Arc} {u v : Nat}, IsW G u l v → (∀ a ∈ l, a ∈ G0) → IsW G0 u l v
  | [], _, _, hw, _ => hw
  | a :: l, _, _, hw, h => ⟨h a List.mem_cons_self, hw.2.1, isW_of hw.2.2 fun b hb => h b (List.mem_cons_of_mem _ hb)⟩
theorem noneg_join {f : Nat → Nat} (h : ∀ a ∈ G, (a ∈ G1 ∧ f a.1 = 0 ∧ f a.2.1 = 0) ∨ (a ∈ G2 ∧ f a.1 = 1 ∧ f a.2.1 = 1) ∨ (f a.1 = 0 ∧ f a.2.1 = 1)) (h1 : NoNeg G1 m) (h2 : NoNeg G2 m) : NoNeg G m := fun x l hw => by
  have hm : ∀ a ∈ G, f a.1 ≤ f a.2.1 := fun a ha => by rcases h a ha with z | z | z <;> omega
  have hl := (lvl_mono hm hw).2 (Nat.le_refl _)
  by_cases e : f x = 0
  · refine h1 x l (isW_of hw fun a ha => ?_)
    have := hl a ha
    rcases h a (isW_mem hw a ha) with z | z | z
    · exact z.1
    · omega
    · omega
  · by_cases e1 : f x = 1
    · refine h2 x l (isW_of hw fun a ha => ?_)
      have := hl a ha
      rcases h a (isW_mem hw a ha) with z | z | z
      · omega
      · exact z.1
      · omega
    · cases l with
      | nil => exact Int.le_refl _
      | cons a l =>
        exfalso
        have := hl a List.mem_cons_self
        rcases h a hw.1 with z | z | z <;> omega
/-! ### one ring -/
def md (n x : Nat) : Nat := if x < n then x else x - n
theorem md_eq {n x : Nat} (h : x < 2 * n) : x % n = md n x := by
  unfold md
  split
  · exact Nat.mod_eq_of_lt ‹_›
  · rw [Nat.mod_eq_sub_mod (by omega), Nat.mod_eq_of_lt (by omega)]
structure Ring where
  first : Nat
  cs : List Int
def Ring.sz (r : Ring) : Nat := r.cs.length
def Ring.at_ (r : Ring) (i : Nat) : Arc := (r.first + i % r.sz, r.first + (i + 1) % r.sz, r.cs.getD (i % r.sz) 0)
def Ring.seg (r : Ring) (i : Nat) : Nat → List Arc
  | 0 => []
  | k + 1 => r.at_ i :: r.seg (i + 1) k
def Ring.arcs (r : Ring) : List Arc := (List.range r.sz).map r.at_
variable {r : Ring}
theorem seg_eq : ∀ (k i : Nat), r.seg i k = (List.range k).map fun j => r.at_ (i + j)
  | 0, i => rfl
  | k + 1, i => by
    show r.at_ i :: r.seg (i + 1) k = _
    rw [seg_eq k (i + 1), List.range_succ_eq_map, List.map_cons, List.map_map]
    refine congrArg (r.at_ i :: ·) (List.map_congr_left fun j _ => ?_)
    show r.at_ (i + 1 + j) = r.at_ (i + (j + 1))
    rw [show i + 1 + j = i + (j + 1) by omega]
theorem at_per (i : Nat) : r.at_ (i + r.sz) = r.at_ i := by
  unfold Ring.at_
  rw [Nat.add_mod_right, show i + r.sz + 1 = i + 1 + r.sz by omega, Nat.add_mod_right]
theorem seg_per : ∀ (k i : Nat), r.seg (i + r.sz) k = r.seg i k
  | 0, _ => rfl
  | k + 1, i => by
    show r.at_ (i + r.sz) :: r.seg (i + r.sz + 1) k = r.at_ i :: r.seg (i + 1) k
    rw [at_per, show i + r.sz + 1 = i + 1 + r.sz by omega, seg_per k (i + 1)]
theorem seg_app : ∀ (k k' i : Nat), r.seg i (k + k') = r.seg i k ++ r.seg (i + k) k'
  | 0, k', i => by rw [Nat.zero_add]; rfl
  | k + 1, k', i => by
    rw [show k + 1 + k' = (k + k') + 1 by omega]
    show r.at_ i :: r.seg (i + 1) (k + k') = r.at_ i :: (r.seg (i + 1) k ++ r.seg (i + (k + 1)) k')
    rw [seg_app k k' (i + 1), show i + 1 + k = i + (k + 1) by omega]
theorem seg_len : ∀ (k i : Nat), (r.seg i k).length = k
  | 0, _ => rfl
  | k + 1, i => congrArg (· + 1) (seg_len k (i + 1))
theorem at_mem (h : 0 < r.sz) (i : Nat) : r.at_ i ∈ r.arcs := by
  have hi := Nat.mod_lt i h
  refine List.mem_map.mpr ⟨i % r.sz, List.mem_range.mpr hi, ?_⟩
  unfold Ring.at_
  rw [Nat.mod_mod, Nat.mod_add_mod]
theorem seg_walk (h : 0 < r.sz) (hs : ∀ a ∈ r.arcs, a ∈ G) : ∀ (k i : Nat), IsW G (r.first + i % r.sz) (r.seg i k) (r.first + (i + k) % r.sz)
  | 0, i => rfl
  | k + 1, i => by
    refine ⟨hs _ (at_mem h i), rfl, ?_⟩
    have := seg_walk h hs k (i + 1)
    rw [show i + 1 + k = i + (k + 1) by omega] at this
    exact this
theorem seg_turn (h : 0 < r.sz) {s : Nat} (hs : s ≤ r.sz) : costW m (r.seg s r.sz) = costW m (r.seg 0 r.sz) := by
  have e1 : r.seg s r.sz = r.seg s (r.sz - s) ++ r.seg 0 s := by
    have := seg_app (r := r) (r.sz - s) s s
    rw [show r.sz - s + s = r.sz by omega, show s + (r.sz - s) = 0 + r.sz by omega, seg_per] at this
    exact this
  have e2 : r.seg 0 r.sz = r.seg 0 s ++ r.seg s (r.sz - s) := by
    have := seg_app (r := r) s (r.sz - s) 0
    rw [show s + (r.sz - s) = r.sz by omega, Nat.zero_add] at this
    exact this
  rw [e1, e2, costW_app, costW_app]
  omega
/-- heights along the ring, from s on -/
def Ring.ht (r : Ring) (m : Fc) (s : Nat) (v : Nat) : Int := costW m (r.seg s (if s ≤ v - r.first then v - r.first - s else v - r.first + r.sz - s))
theorem ht_arc {s : Nat} (hs : s < r.sz) (h0 : 0 ≤ costW m (r.seg 0 r.sz)) {i : Nat} (hi : i < r.sz) : r.ht m s (r.at_ i).2.1 ≤ r.ht m s (r.at_ i).1 + spareF (r.at_ i) m := by
  have e1 : (r.at_ i).1 - r.first = i := by
    show r.first + i % r.sz - r.first = i
    rw [Nat.mod_eq_of_lt hi]
    omega
  have e2 : (r.at_ i).2.1 - r.first = md r.sz (i + 1) := by
    show r.first + (i + 1) % r.sz - r.first = _
    rw [md_eq (by omega)]
    omega
  unfold Ring.ht
  rw [e1, e2]
  have step : ∀ k, (s + k) % r.sz = i → costW m (r.seg s (k + 1)) = costW m (r.seg s k) + spareF (r.at_ i) m := fun k hk => by
    rw [seg_app, costW_app]
    have : r.at_ (s + k) = r.at_ i := by
      unfold Ring.at_
      rw [← hk, Nat.mod_mod, Nat.mod_add_mod]
    show _ + costW m [r.at_ (s + k)] = _
    rw [this]
    show _ + (spareF (r.at_ i) m + 0) = _
    omega
  unfold md
  by_cases h1 : i + 1 < r.sz
  · rw [if_pos h1]
    by_cases h2 : s ≤ i
    · rw [if_pos h2, if_pos (by omega), show i + 1 - s = (i - s) + 1 by omega, step (i - s) (by rw [show s + (i - s) = i by omega]; exact Nat.mod_eq_of_lt hi)]
      exact Int.le_refl _
    · rw [if_neg h2]
      have st := step (i + r.sz - s) (by rw [show s + (i + r.sz - s) = i + r.sz by omega, Nat.add_mod_right]; exact Nat.mod_eq_of_lt hi)
      by_cases h3 : s ≤ i + 1
      · rw [if_pos h3, show i + 1 - s = 0 by omega, ← st, show i + r.sz - s + 1 = r.sz by omega, seg_turn (by omega) (by omega)]
        exact h0
      · rw [if_neg h3, show i + 1 + r.sz - s = i + r.sz - s + 1 by omega, st]
        exact Int.le_refl _
  · rw [if_neg h1, show i + 1 - r.sz = 0 by omega]
    have st := step (i - s) (by rw [show s + (i - s) = i by omega]; exact Nat.mod_eq_of_lt hi)
    rw [if_pos (show s ≤ i by omega), ← st]
    by_cases h3 : s ≤ 0
    · rw [if_pos h3, show 0 - s = 0 by omega, show i - s + 1 = r.sz by omega, seg_turn (by omega) (by omega)]
      exact h0
    · rw [if_neg h3, show 0 + r.sz - s = i - s + 1 by omega]
      exact Int.le_refl _
theorem seg_costs : ∀ (k i : Nat), costP (r.seg i k) = ((List.range k).map fun j => r.cs.getD ((i + j) % r.sz) 0).sum
  | 0, i => rfl
  | k + 1, i => by
    show r.cs.getD (i % r.sz) 0 + costP (r.seg (i + 1) k) = _
    rw [seg_costs k (i + 1), List.range_succ_eq_map, List.map_cons, List.map_map, List.sum_cons]
    refine congrArg (r.cs.getD (i % r.sz) 0 + ·) (congrArg List.sum (List.map_congr_left fun j _ => ?_))
    show r.cs.getD ((i + 1 + j) % r.sz) 0 = r.cs.getD ((i + (j + 1)) % r.sz) 0
    rw [show i + 1 + j = i + (j + 1) by omega]
theorem getD_range (cs : List Int) : (List.range cs.length).map (fun j => cs.getD j 0) = cs := by
  refine List.ext_getElem (by rw [List.length_map, List.length_range]) fun i h1 h2 => ?_
  rw [List.getElem_map, List.getElem_range, List.getD_eq_getElem?_getD, List.getElem?_eq_getElem h2]
  rfl
theorem ring_cost : costP (r.seg 0 r.sz) = r.cs.sum := by
  rw [seg_costs]
  refine congrArg List.sum ?_
  have := getD_range r.cs
  conv => rhs; rw [← this]
  refine List.map_congr_left fun j hj => ?_
  rw [List.mem_range] at hj
  rw [Nat.zero_add, Nat.mod_eq_of_lt hj]
theorem seg_srcs (k i : Nat) : srcs (r.seg i k) = (List.range k).map fun j => r.first + (i + j) % r.sz := by
  rw [seg_eq]
  unfold srcs
  rw [List.map_map]
  rfl
/-- what the law's rings keep to -/
structure RingOk (first size : Nat) (A : List Arc) (R : List Rnd) : Prop where
  s1 : 1 ≤ size
  s2 : size ≤ 12
  inn : ∀ a ∈ A, first ≤ a.1 ∧ a.1 < first + size ∧ first ≤ a.2.1 ∧ a.2.1 < first + size
  al : A.length ≤ 14
  rl : R.length ≤ 2
  rn : R ≠ []
  rd : ∀ r ∈ R, RoundOk A r
  rb : ∀ r ∈ R, r.2.1 ≤ 12
  du : ∀ m : Fc, 0 < m.2 → (∀ r ∈ R, m.1 * (r.2.1 : Int) ≤ r.1 * m.2) → NoNeg A m
def Ring.rnd (r : Ring) : Rnd := (r.cs.sum, r.sz, (List.range r.sz).map fun j => r.first + j)
/-- the chord's round -/
def Ring.rnd2 (r : Ring) (at_ skip : Nat) (chord : Int) : Rnd := (chord + ((List.range (r.sz - skip)).map fun j => r.cs.getD ((at_ + skip + j) % r.sz) 0).sum, r.sz - skip + 1, (List.range (r.sz - skip + 1)).map fun j => r.first + (at_ + skip + j) % r.sz)
def Ring.chord (r : Ring) (at_ skip : Nat) (c : Int) : Arc := (r.first + at_, r.first + (at_ + skip) % r.sz, c)
def Ring.par (r : Ring) (c : Int) : Arc := ((r.at_ 0).1, (r.at_ 0).2.1, r.cs.getD 0 0 + c)
theorem rnd_ok (h : 0 < r.sz) (hs : ∀ a ∈ r.arcs, a ∈ G) : RoundOk G r.rnd := by
  have hw := seg_walk h hs r.sz 0
  rw [Nat.zero_add, Nat.mod_self, Nat.zero_mod] at hw
  refine ⟨r.first + 0, r.seg 0 r.sz, hw, ?_, seg_len _ _, ring_cost, ?_⟩
  · intro e
    have := seg_len (r := r) r.sz 0
    rw [e, List.length_nil] at this
    omega
  · rw [seg_srcs]
    refine List.map_congr_left fun j hj => ?_
    rw [List.mem_range] at hj
    rw [Nat.zero_add, Nat.mod_eq_of_lt hj]
theorem rnd2_ok (h : 0 < r.sz) (hs : ∀ a ∈ r.arcs, a ∈ G) {p skip : Nat} {c : Int} (hp : p < r.sz) (hk : skip ≤ r.sz) (hc : r.chord p skip c ∈ G) : RoundOk G (r.rnd2 p skip c) := by
  have hw := seg_walk h hs (r.sz - skip) (p + skip)
  rw [show p + skip + (r.sz - skip) = p + r.sz by omega, Nat.add_mod_right, Nat.mod_eq_of_lt hp] at hw
  refine ⟨_, r.seg (p + skip) (r.sz - skip) ++ [r.chord p skip c], isW_app hw ⟨hc, rfl, rfl⟩, by simp, ?_, ?_, ?_⟩
  · rw [List.length_append, seg_len]
    rfl
  · rw [costP_app, seg_costs]
    show _ + (c + 0) = c + _
    omega
  · rw [srcs_app, seg_srcs]
    show _ = (List.range (r.sz - skip + 1)).map fun j => r.first + (p + skip + j) % r.sz
    rw [List.range_succ, List.map_append]
    refine congrArg (((List.range (r.sz - skip)).map fun j => r.first + (p + skip + j) % r.sz) ++ ·) ?_
    show [r.first + p] = [r.first + (p + skip + (r.sz - skip)) % r.sz]
    rw [show p + skip + (r.sz - skip) = p + r.sz by omega, Nat.add_mod_right, Nat.mod_eq_of_lt hp]
/-- arcs of the ring, perhaps a dearer parallel one -/
def baseOk (r : Ring) (A : List Arc) : Prop := ∃ c : Int, 0 ≤ c ∧ (A = r.arcs ∨ A = r.arcs ++ [r.par c])
theorem base_sub {A : List Arc} (h : baseOk r A) : ∀ a ∈ r.arcs, a ∈ A := fun a ha => by
  obtain ⟨c, _, e | e⟩ := h
  · rw [e]; exact ha
  · rw [e]; exact List.mem_append_left _ ha
theorem base_ht (h0 : 0 < r.sz) {A : List Arc} (h : baseOk r A) (hm : 0 ≤ m.2) {s : Nat} (hs : s < r.sz) (hc : 0 ≤ costW m (r.seg 0 r.sz)) : ∀ a ∈ A, r.ht m s a.2.1 ≤ r.ht m s a.1 + spareF a m := by
  have key : ∀ a ∈ r.arcs, r.ht m s a.2.1 ≤ r.ht m s a.1 + spareF a m := fun a ha => by
    obtain ⟨i, hi, rfl⟩ := List.mem_map.mp ha
    exact ht_arc hs hc (List.mem_range.mp hi)
  obtain ⟨c, hc0, e | e⟩ := h
  · rw [e]; exact key
  · rw [e]
    intro a ha
    rcases List.mem_append.mp ha with z | z
    · exact key a z
    · rw [List.mem_singleton] at z
      subst z
      have := ht_arc hs hc (i := 0) h0
      have e3 : spareF (r.at_ 0) m ≤ spareF (r.par c) m := by
        show r.cs.getD (0 % r.sz) 0 * m.2 - m.1 ≤ (r.cs.getD 0 0 + c) * m.2 - m.1
        rw [Nat.zero_mod, Int.add_mul]
        have := Int.mul_nonneg hc0 hm
        omega
      exact Int.le_trans this (by show r.ht m s (r.at_ 0).1 + _ ≤ r.ht m s (r.at_ 0).1 + _; omega)
theorem base_in (h0 : 0 < r.sz) {A : List Arc} (h : baseOk r A) : (∀ a ∈ A, r.first ≤ a.1 ∧ a.1 < r.first + r.sz ∧ r.first ≤ a.2.1 ∧ a.2.1 < r.first + r.sz) ∧ A.length ≤ r.sz + 1 := by
  have k : ∀ i, r.first ≤ (r.at_ i).1 ∧ (r.at_ i).1 < r.first + r.sz ∧ r.first ≤ (r.at_ i).2.1 ∧ (r.at_ i).2.1 < r.first + r.sz := fun i => by
    have := Nat.mod_lt i h0
    have := Nat.mod_lt (i + 1) h0
    unfold Ring.at_
    dsimp only
    omega
  have key : ∀ a ∈ r.arcs, r.first ≤ a.1 ∧ a.1 < r.first + r.sz ∧ r.first ≤ a.2.1 ∧ a.2.1 < r.first + r.sz := fun a ha => by
    obtain ⟨i, hi, rfl⟩ := List.mem_map.mp ha
    exact k i
  have hl : r.arcs.length = r.sz := by unfold Ring.arcs; rw [List.length_map, List.length_range]
  obtain ⟨c, hc0, e | e⟩ := h
  · rw [e]; exact ⟨key, by omega⟩
  · rw [e]
    refine ⟨fun a ha => ?_, by rw [List.length_append, List.length_singleton]; omega⟩
    rcases List.mem_append.mp ha with z | z
    · exact key a z
    · rw [List.mem_singleton] at z
      subst z
      exact k 0
theorem rnd_cost {m : Fc} (h : m.1 * (r.sz : Int) ≤ r.cs.sum * m.2) : 0 ≤ costW m (r.seg 0 r.sz) := by
  rw [costW_eq, ring_cost, seg_len]
  omega
theorem ring_plain (h0 : 0 < r.sz) (h1 : r.sz ≤ 12) {A : List Arc} (h : baseOk r A) : RingOk r.first r.sz A [r.rnd] where
  s1 := h0
  s2 := h1
  inn := (base_in h0 h).1
  al := by have := (base_in h0 h).2; omega
  rl := by rw [List.length_singleton]; omega
  rn := by simp
  rd := fun x hx => by rw [List.mem_singleton] at hx; subst hx; exact rnd_ok h0 (base_sub h)
  rb := fun x hx => by rw [List.mem_singleton] at hx; subst hx; exact h1
  du := fun m hm hh => by
    have := hh r.rnd (by simp)
    exact fun_noneg (φ := r.ht m 0) (base_ht h0 h (Int.le_of_lt hm) h0 (rnd_cost this))
theorem ring_chord (h0 : 0 < r.sz) (h1 : r.sz ≤ 12) {A : List Arc} (h : baseOk r A) {p skip : Nat} {c : Int} (hp : p < r.sz) (hk1 : 1 ≤ skip) (hk : skip ≤ r.sz) : RingOk r.first r.sz (A ++ [r.chord p skip c]) [r.rnd, r.rnd2 p skip c] where
  s1 := h0
  s2 := h1
  inn := fun a ha => by
    rcases List.mem_append.mp ha with z | z
    · exact (base_in h0 h).1 a z
    · rw [List.mem_singleton] at z
      subst z
      have := Nat.mod_lt (p + skip) h0
      show r.first ≤ r.first + p ∧ r.first + p < r.first + r.sz ∧ r.first ≤ r.first + (p + skip) % r.sz ∧ r.first + (p + skip) % r.sz < r.first + r.sz
      omega
  al := by
    have := (base_in h0 h).2
    rw [List.length_append, List.length_singleton]
    omega
  rl := by simp
  rn := by simp
  rd := fun x hx => by
    have hsub : ∀ a ∈ r.arcs, a ∈ A ++ [r.chord p skip c] := fun a ha => List.mem_append_left _ (base_sub h a ha)
    simp only [List.mem_cons, List.not_mem_nil, or_false] at hx
    rcases hx with rfl | rfl
    · exact rnd_ok h0 hsub
    · exact rnd2_ok h0 hsub hp hk (by simp)
  rb := fun x hx => by
    simp only [List.mem_cons, List.not_mem_nil, or_false] at hx
    rcases hx with rfl | rfl
    · exact h1
    · show r.sz - skip + 1 ≤ 12
      omega
  du := fun m hm hh => by
    have a1 := hh r.rnd (by simp)
    have a2 := hh (r.rnd2 p skip c) (by simp)
    have hs : (p + skip) % r.sz < r.sz := Nat.mod_lt _ h0
    refine fun_noneg (φ := r.ht m ((p + skip) % r.sz)) fun a ha => ?_
    rcases List.mem_append.mp ha with z | z
    · exact base_ht h0 h (Int.le_of_lt hm) hs (rnd_cost a1) a z
    · rw [List.mem_singleton] at z
      subst z
      have e2 : r.ht m ((p + skip) % r.sz) (r.chord p skip c).2.1 = 0 := by
        unfold Ring.ht
        show costW m (r.seg _ (if _ ≤ r.first + (p + skip) % r.sz - r.first then r.first + (p + skip) % r.sz - r.first - (p + skip) % r.sz else _)) = 0
        rw [if_pos (by omega), show r.first + (p + skip) % r.sz - r.first - (p + skip) % r.sz = 0 by omega]
        rfl
      have hmd := md_eq (n := r.sz) (x := p + skip) (by omega)
      have e1 : r.ht m ((p + skip) % r.sz) (r.chord p skip c).1 = costW m (r.seg (p + skip) (r.sz - skip)) := by
        unfold Ring.ht
        have ed : (r.chord p skip c).1 - r.first = p := by
          show r.first + p - r.first = p
          omega
        rw [ed]
        have es : ∀ k, r.seg ((p + skip) % r.sz) k = r.seg (p + skip) k := fun k => by
          rw [seg_eq, seg_eq]
          refine List.map_congr_left fun j _ => ?_
          unfold Ring.at_
          rw [Nat.mod_add_mod, Nat.add_assoc ((p + skip) % r.sz), Nat.mod_add_mod, Nat.add_assoc (p + skip)]
        rw [es]
        have : (if (p + skip) % r.sz ≤ p then p - (p + skip) % r.sz else p + r.sz - (p + skip) % r.sz) = r.sz - skip := by
          rw [hmd]
          unfold md
          split <;> split <;> omega
        rw [this]
      rw [e1, e2, costW_eq, seg_len, seg_costs]
      have a2 : m.1 * ((r.sz - skip + 1 : Nat) : Int) ≤ (c + ((List.range (r.sz - skip)).map fun j => r.cs.getD ((p + skip + j) % r.sz) 0).sum) * m.2 := a2
      rw [show ((r.sz - skip + 1 : Nat) : Int) = ((r.sz - skip : Nat) : Int) + 1 by omega, Int.mul_add, Int.mul_one, Int.add_mul] at a2
      show 0 ≤ _ + (c * m.2 - m.1)
      omega
end
end K85
namespace K85
open Wk
/-- rings joined one way, with tails: j bounds -/
structure PreOk (t : Nat) (A : List Arc) (R : List Rnd) (j : Nat) : Prop where
  t2 : t ≤ 12 * j
  al : A.length ≤ 15 * j
  rl : R.length ≤ 2 * j
  ok : okA t A
  rd : ∀ r ∈ R, RoundOk A r
  rb : ∀ r ∈ R, r.2.1 ≤ 12
  du : ∀ m : Fc, 0 < m.2 → (∀ r ∈ R, m.1 * (r.2.1 : Int) ≤ r.1 * m.2) → NoNeg A m
theorem pre_nil : PreOk 0 [] [] 0 where
  t2 := by omega
  al := by simp
  rl := by simp
  ok := fun a ha => nomatch ha
  rd := fun r hr => nomatch hr
  rb := fun r hr => nomatch hr
  du := fun m _ _ x l hw => by
    cases l with
    | nil => exact Int.le_refl _
    | cons a l => cases hw.1
section
variable {t j size : Nat} {A A2 : List Arc} {R R2 : List Rnd}
theorem add_ring (h : PreOk t A R j) (h2 : RingOk t size A2 R2) (X : List Arc) (hX : X.length ≤ 1) (hx : ∀ a ∈ X, a.1 < t ∧ t ≤ a.2.1 ∧ a.2.1 < t + size) : PreOk (t + size) (A ++ X ++ A2) (R ++ R2) (j + 1) where
  t2 := by have := h.t2; have := h2.s2; omega
  al := by
    have := h.al; have := h2.al
    rw [List.length_append, List.length_append]
    omega
  rl := by
    have := h.rl; have := h2.rl
    rw [List.length_append]
    omega
  ok := fun a ha => by
    rcases List.mem_append.mp ha with z | z
    · rcases List.mem_append.mp z with z | z
      · have := h.ok a z; omega
      · have := hx a z; omega
    · have := h2.inn a z; omega
  rd := fun r hr => by
    rcases List.mem_append.mp hr with z | z
    · exact round_sub (fun a ha => List.mem_append_left _ (List.mem_append_left _ ha)) (h.rd r z)
    · exact round_sub (fun a ha => List.mem_append_right _ ha) (h2.rd r z)
  rb := fun r hr => by
    rcases List.mem_append.mp hr with z | z
    · exact h.rb r z
    · exact h2.rb r z
  du := fun m hm hh => by
    refine noneg_join (f := fun v => if v < t then 0 else 1) (fun a ha => ?_) (h.du m hm fun r hr => hh r (List.mem_append_left _ hr)) (h2.du m hm fun r hr => hh r (List.mem_append_right _ hr))
    rcases List.mem_append.mp ha with z | z
    · rcases List.mem_append.mp z with z | z
      · have := h.ok a z
        exact .inl ⟨z, if_pos this.1, if_pos this.2⟩
      · have := hx a z
        exact .inr (.inr ⟨if_pos this.1, if_neg (by omega)⟩)
    · have := h2.inn a z
      exact .inr (.inl ⟨z, if_neg (by omega), if_neg (by omega)⟩)
theorem add_tail (h : PreOk t A R j) {u : Nat} {c : Int} (hu : u < t) (a : Arc) (ha : a = (u, t, c) ∨ a = (t, u, c)) : PreOk (t + 1) (A ++ [a]) R (j + 1) where
  t2 := by have := h.t2; omega
  al := by
    have := h.al
    rw [List.length_append, List.length_singleton]
    omega
  rl := by have := h.rl; omega
  ok := fun b hb => by
    rcases List.mem_append.mp hb with z | z
    · have := h.ok b z; omega
    · rw [List.mem_singleton] at z
      subst z
      rcases ha with rfl | rfl <;> dsimp only <;> omega
  rd := fun r hr => round_sub (fun a ha => List.mem_append_left _ ha) (h.rd r hr)
  rb := h.rb
  du := fun m hm hh => by
    have hN := h.du m hm hh
    have h0 : NoNeg ([] : List Arc) m := fun x l hw => by
      cases l with
      | nil => exact Int.le_refl _
      | cons a l => cases hw.1
    rcases ha with rfl | rfl
    · refine noneg_join (G1 := A) (G2 := []) (f := fun v => if v < t then 0 else 1) (fun b hb => ?_) hN h0
      rcases List.mem_append.mp hb with z | z
      · have := h.ok b z
        exact .inl ⟨z, if_pos this.1, if_pos this.2⟩
      · rw [List.mem_singleton] at z
        subst z
        exact .inr (.inr ⟨if_pos hu, if_neg (Nat.lt_irrefl t)⟩)
    · refine noneg_join (G1 := []) (G2 := A) (f := fun v => if v < t then 1 else 0) (fun b hb => ?_) h0 hN
      rcases List.mem_append.mp hb with z | z
      · have := h.ok b z
        exact .inr (.inl ⟨z, if_pos this.1, if_pos this.2⟩)
      · rw [List.mem_singleton] at z
        subst z
        exact .inr (.inr ⟨if_neg (Nat.lt_irrefl t), if_pos hu⟩)
def renR (ν : Nat → Nat) (r : Rnd) : Rnd := (r.1, r.2.1, r.2.2.map ν)
theorem pre_graph (h : PreOk t A R j) (hj : j ≤ 7) (ht : 1 ≤ t) {ν g : Nat → Nat} (h1 : ∀ v, v < t → ν v < t ∧ g (ν v) = v) : GraphOk t (A.map (ren ν)) (R.map (renR ν)) where
  n1 := ht
  n2 := by have := h.t2; omega
  al := by have := h.al; rw [List.length_map]; omega
  ok := fun a ha => by
    obtain ⟨b, hb, rfl⟩ := List.mem_map.mp ha
    have := h.ok b hb
    exact ⟨(h1 _ this.1).1, (h1 _ this.2).1⟩
  rd := fun r hr => by
    obtain ⟨s, hs, rfl⟩ := List.mem_map.mp hr
    exact round_ren (fun a ha => List.mem_map.mpr ⟨a, ha, rfl⟩) (h.rd s hs)
  rb := fun r hr => by
    obtain ⟨s, hs, rfl⟩ := List.mem_map.mp hr
    have := h.rb s hs
    show s.2.1 ≤ 1000
    omega
  rl := by have := h.rl; rw [List.length_map]; omega
  du := fun m hm hh => by
    refine noneg_ren (g := g) (G0 := A) (fun a ha => ?_) (h.du m hm fun r hr => hh (renR ν r) (List.mem_map.mpr ⟨r, hr, rfl⟩))
    obtain ⟨b, hb, rfl⟩ := List.mem_map.mp ha
    have := h.ok b hb
    have e : ren g (ren ν b) = b := by
      show (g (ν b.1), g (ν b.2.1), b.2.2) = b
      rw [(h1 _ this.1).2, (h1 _ this.2).2]
    rw [e]
    exact hb
end
/-- the two ways to name -/
def nu (t s : Nat) (b : Bool) (v : Nat) : Nat := if b = true then t - 1 - (v + s) % t else (v + s) % t
theorem nu_ok {t s : Nat} {b : Bool} (hs : s < t) : ∃ g : Nat → Nat, ∀ v, v < t → nu t s b v < t ∧ g (nu t s b v) = v := by
  have e : ∀ v, v < t → (v + s) % t < t ∧ md t ((v + s) % t + (t - s)) = v := fun v hv => by
    have h1 := md_eq (n := t) (x := v + s) (by omega)
    refine ⟨Nat.mod_lt _ (by omega), ?_⟩
    rw [h1]
    unfold md
    split <;> split <;> omega
  cases b with
  | false => exact ⟨fun w => md t (w + (t - s)), fun v hv => ⟨(e v hv).1, (e v hv).2⟩⟩
  | true =>
    refine ⟨fun w => md t (t - 1 - w + (t - s)), fun v hv => ?_⟩
    obtain ⟨e1, e2⟩ := e v hv
    unfold nu
    rw [if_pos rfl]
    refine ⟨by omega, ?_⟩
    show md t (t - 1 - (t - 1 - (v + s) % t) + (t - s)) = v
    rw [show t - 1 - (t - 1 - (v + s) % t) = (v + s) % t by omega]
    exact e2
end K85
namespace K85
open PySem PySem.Spec PyProof.Rows L2 Wk
local macro_rules | `(tactic| walk_at "wk") => `(tactic| repeat (first
  | apply_rules -symm -exfalso (transparency := .reducible) (maxDepth := 100000) only [@e_seq, @e_c, @e_ix, @e_set, @e_op, @e_I2, @e_fI0, @e_ifS, @e_tst, @e_ktst, @e_ift, @e_iff, @e_ifnt, @e_ifnf, @e_ret, @e_retF, @e_acons, @e_anil, @e_alend, @e_tup, @e_int, @e_kint, @e_vd, @e_setIx, @e_toL, @e_toT, @e_callD, @e_toD, @e_toDo, @e_callF, @e_kown, @e_frz, @e_len, @e_setF, @e_lst, @e_and, @e_or, @e_not, @e_andV, @e_orV, @e_notV, @e_kandV, @e_korV, @e_knotV, @e_ifE, @e_is, @e_isnot, @e_neg, @e_kneg, @e_par, @e_asg, @e_gnil, @e_gcons, @e_slT, @e_slL, @e_nopart, @e_part, @e_kpart, @e_sum, @e_min, @e_max, @e_abs, @e_kabs, @e_MM, @e_kMM, @e_tupOf, @e_lstOf, @e_isi, @e_inI, @e_dget, @e_din, @e_dnew, @e_catT, @e_catL, @e_index, @e_eq, @e_chain, @e_kchain, @e_kchain2, @e_drop, @e_next, @e_brk, @e_cnt, @e_retnon, @e_setK, @e_iL, @e_kL, @e_iT, @e_kT, @e_iR1, @e_iR2, @e_for, @e_yes, @e_lc, @e_raise, @e_try, @e_isX, @e_xf]
  | ((with_reducible refine' e_var ?k1 ?_); (case k1 => exact rfl))
  | ((with_reducible refine' e_kset ?k1 ?k2 ?_); (case k1 => exact rfl); (case k2 => (with_reducible (first | exact st0 | exact st1 | exact st2 | exact st3 | exact st4 | exact st5 | exact st6 | exact st7 | exact st8 | exact st9 | exact st10 | exact st11 | exact st12 | exact st13 | exact st14 | exact st15 | exact st16 | exact st17 | exact st18 | exact st19 | exact st20))))
  | ((with_reducible refine' e_ktup ?k1 ?k2 ?_); (case k1 => exact rfl); (case k2 => exact rfl))
  | ((with_reducible refine' e_kix ?k1 ?k2 ?k3 ?_); (case k1 => exact rfl); (case k2 => exact rfl); (case k3 => exact rfl))
  | ((with_reducible refine' e_vn ?k1 ?_); (case k1 => exact rfl))
  | ((with_reducible refine' e_varL ?k1 ?k2 ?_); (case k1 => exact rfl); (case k2 => (with_reducible (first | exact st0 | exact st1 | exact st2 | exact st3 | exact st4 | exact st5 | exact st6 | exact st7 | exact st8 | exact st9 | exact st10 | exact st11 | exact st12 | exact st13 | exact st14 | exact st15 | exact st16 | exact st17 | exact st18 | exact st19 | exact st20))))
  | ((with_reducible refine' e_app ?k1 ?_); (case k1 => exact rfl))
  | ((with_reducible refine' e_kapp ?k1 ?k2 ?k3 ?_); (case k1 => exact rfl); (case k2 => (simp only [List.length_append, List.length_map, List.length_cons, List.length_nil]; omega)); (case k3 => (with_reducible (first | exact st0 | exact st1 | exact st2 | exact st3 | exact st4 | exact st5 | exact st6 | exact st7 | exact st8 | exact st9 | exact st10 | exact st11 | exact st12 | exact st13 | exact st14 | exact st15 | exact st16 | exact st17 | exact st18 | exact st19 | exact st20))))
  | ((with_reducible refine' e_ksetF ?k1 ?k2 ?_); (case k1 => exact rfl); (case k2 => (with_reducible (first | exact st0 | exact st1 | exact st2 | exact st3 | exact st4 | exact st5 | exact st6 | exact st7 | exact st8 | exact st9 | exact st10 | exact st11 | exact st12 | exact st13 | exact st14 | exact st15 | exact st16 | exact st17 | exact st18 | exact st19 | exact st20))))
  | ((with_reducible refine' e_klen ?k1 ?k2 ?_); (case k1 => exact rfl); (case k2 => exact rfl))
  | ((with_reducible refine' e_klst ?k1 ?k2 ?_); (case k1 => exact rfl); (case k2 => exact rfl))
  | ((with_reducible refine' e_gtup ?k1 ?_); (case k1 => exact rfl))
  | ((with_reducible refine' e_gN ?k1 ?k2 ?_); (case k1 => exact rfl); (case k2 => (with_reducible (first | exact st0 | exact st1 | exact st2 | exact st3 | exact st4 | exact st5 | exact st6 | exact st7 | exact st8 | exact st9 | exact st10 | exact st11 | exact st12 | exact st13 | exact st14 | exact st15 | exact st16 | exact st17 | exact st18 | exact st19 | exact st20))))
  | ((with_reducible refine' e_varT ?k1 ?k2 ?_); (case k1 => exact rfl); (case k2 => (with_reducible (first | exact st0 | exact st1 | exact st2 | exact st3 | exact st4 | exact st5 | exact st6 | exact st7 | exact st8 | exact st9 | exact st10 | exact st11 | exact st12 | exact st13 | exact st14 | exact st15 | exact st16 | exact st17 | exact st18 | exact st19 | exact st20))))
  | ((with_reducible refine' e_mulR ?k1 ?k2 ?_); (case k1 => omega); (case k2 => omega))
  | ((with_reducible refine' e_mulL ?k1 ?k2 ?_); (case k1 => omega); (case k2 => omega))
  | ((with_reducible refine' e_div ?k1 ?k2 ?_); (case k1 => omega); (case k2 => omega))
  | ((with_reducible refine' e_mod ?k1 ?_); (case k1 => omega))
  | ((with_reducible refine' e_retN ?k1 ?_); (case k1 => exact rfl))
  | ((with_reducible refine' e_retNO ?k1 ?k2 ?_); (case k1 => exact rfl); (case k2 => (with_reducible (first | exact st0 | exact st1 | exact st2 | exact st3 | exact st4 | exact st5 | exact st6 | exact st7 | exact st8 | exact st9 | exact st10 | exact st11 | exact st12 | exact st13 | exact st14 | exact st15 | exact st16 | exact st17 | exact st18 | exact st19 | exact st20))))
  | ((with_reducible refine' e_setIx1 ?k1 ?_); (case k1 => exact rfl))
  | ((with_reducible refine' e_ksetIx ?k1 ?k2 ?k3 ?_); (case k1 => exact rfl); (case k2 => exact rfl); (case k3 => (with_reducible (first | exact st0 | exact st1 | exact st2 | exact st3 | exact st4 | exact st5 | exact st6 | exact st7 | exact st8 | exact st9 | exact st10 | exact st11 | exact st12 | exact st13 | exact st14 | exact st15 | exact st16 | exact st17 | exact st18 | exact st19 | exact st20))))
  | ((with_reducible refine' e_kpar ?k1 ?k2 ?k3 ?_); (case k1 => exact rfl); (case k2 => exact rfl); (case k3 => (repeat (first | exact set_0 | apply set_s))))
  | ((with_reducible refine' e_aug ?k1 ?_); (case k1 => exact rfl))
  | ((with_reducible refine' e_kaug ?k1 ?k2 ?_); (case k1 => exact rfl); (case k2 => (with_reducible (first | exact st0 | exact st1 | exact st2 | exact st3 | exact st4 | exact st5 | exact st6 | exact st7 | exact st8 | exact st9 | exact st10 | exact st11 | exact st12 | exact st13 | exact st14 | exact st15 | exact st16 | exact st17 | exact st18 | exact st19 | exact st20))))
  | ((with_reducible refine' e_kslT ?k1 ?_); (case k1 => exact rfl))
  | ((with_reducible refine' e_kslL ?k1 ?_); (case k1 => exact rfl))
  | ((with_reducible refine' e_ksum ?k1 ?_); (case k1 => exact rfl))
  | ((with_reducible refine' e_ktupOf ?k1 ?k2 ?_); (case k1 => exact rfl); (case k2 => exact rfl))
  | ((with_reducible refine' e_klstOf ?k1 ?k2 ?_); (case k1 => exact rfl); (case k2 => exact rfl))
  | ((with_reducible refine' e_kisi ?k1 ?k2 ?k3 ?_); (case k1 => exact rfl); (case k2 => exact rfl); (case k3 => (first | exact ks_ii | exact ks_ib | exact ks_bi | exact ks_bb | exact ks_ni | exact ks_nb | exact ks_tt | exact ks_lt | exact ks_it | exact ks_nt | exact ks_ti | exact ks_si)))
  | ((with_reducible refine' e_kR1 ?k1 ?k2 ?_); (case k1 => omega); (case k2 => omega))
  | ((with_reducible refine' e_kR2 ?k1 ?_); (case k1 => omega))
  ))
local macro_rules | `(tactic| walk_at "wk0") => `(tactic| (unfold endsF; (with_reducible refine' st_rho ?k1 ?_); (case k1 => repeat (first | exact rh_0 | (with_reducible apply rh_m) | (with_reducible apply rh_n) | apply rh_s))))
local macro_rules | `(tactic| walk_at "set") => `(tactic| with_reducible (first | exact st0 | exact st1 | exact st2 | exact st3 | exact st4 | exact st5 | exact st6 | exact st7 | exact st8 | exact st9 | exact st10 | exact st11 | exact st12 | exact st13 | exact st14 | exact st15 | exact st16 | exact st17 | exact st18 | exact st19 | exact st20))
abbrev s_law_another : Stmt := topS 36
abbrev n_law_another : List Str := ["bag", "paper", "lift", "turn", "row", "mean", "heights", "walk", "one"]
theorem sc_law_another : FnScope ["bag", "paper", "lift", "turn", "row", "mean", "heights", "walk", "one"] ["bag", "paper"] (defScope s_law_another) := ⟨rfl, rfl, rfl, by decide +kernel, rfl, by decide +kernel, by decide +kernel⟩
theorem bi_law_another : BindOk "_law_another" s_law_another ["bag", "paper"] := fun _ _ _ _ _ _ us hl => match us, hl with | [_, _], _ => rfl
abbrev s_law_changed : Stmt := topS 37
abbrev n_law_changed : List Str := ["bag", "graph", "paper", "kind", "at", "by", "place", "arc", "fresh", "many", "arcs", "rounds", "mean", "heights", "walk", "other", "nodes"]
theorem sc_law_changed : FnScope ["bag", "graph", "paper", "kind", "at", "by", "place", "arc", "fresh", "many", "arcs", "rounds", "mean", "heights", "walk", "other", "nodes"] ["bag", "graph", "paper"] (defScope s_law_changed) := ⟨rfl, rfl, rfl, by decide +kernel, rfl, by decide +kernel, by decide +kernel⟩
theorem bi_law_changed : BindOk "_law_changed" s_law_changed ["bag", "graph", "paper"] := fun _ _ _ _ _ _ us hl => match us, hl with | [_, _, _], _ => rfl
theorem cut_in {α : Type} {xs : List α} {t n : Nat} (hn : n = xs.length) (h : t < n) : cut xs (some (t : Int)) (some ((n : Int) - 1)) = (xs.take (n - 1)).drop t := by
  subst hn
  unfold cut
  rw [show ((xs.length : Int) - 1) = ((xs.length - 1 : Nat) : Int) by omega, HT.sIx_nat, HT.sIx_nat, Nat.min_eq_left (by omega), Nat.min_eq_left (by omega), List.drop_take]
theorem cut_to {α : Type} {xs : List α} {t : Nat} : cut xs none (some (t : Int)) = xs.take t := by
  unfold cut
  rw [HT.sIx_none, HT.sIx_nat, List.drop_zero, Nat.sub_zero]
  rcases Nat.le_total t xs.length with h | h
  · rw [Nat.min_eq_left h]
  · rw [Nat.min_eq_right h, List.take_of_length_le (Nat.le_refl _), List.take_of_length_le h]
theorem cut_le {α : Type} (xs : List α) (lo hi : Option Int) : (cut xs lo hi).length ≤ xs.length := by
  unfold cut
  rw [List.length_take, List.length_drop]
  omega
abbrev nodesL (w : List Nat) : List Dt := (intsN w).map Dt.int
theorem nodesL_app (a b : List Nat) : nodesL a ++ nodesL b = nodesL (a ++ b) := by
  unfold nodesL intsN
  rw [List.map_append, List.map_append]
theorem nodesL_cut (w : List Nat) (lo hi : Option Int) : cut (nodesL w) lo hi = nodesL (cut w lo hi) := by
  unfold nodesL intsN
  rw [cut_map, cut_map]
theorem nodesL_len (w : List Nat) : (nodesL w).length = w.length := by
  unfold nodesL intsN
  rw [List.length_map, List.length_map]
def frAnother : FR := ⟨Bag × (Nat × List Arc) × Pap, fun a => [.own true (.lst (bagD a.1)), .dat (papD a.2.2)], fun a => okA a.2.1.1 a.2.1.2 ∧ judgeP a.2.1.1 a.2.1.2 a.2.2 = true ∧ a.2.2.2.1.length ≤ 200 ∧ a.2.2.2.2.length ≤ 2000,
  fun a r os => ∃ (y : Pap) (b : Bag), r = .dat (papD y) ∧ os = [.lst (bagD b)] ∧ judgeP a.2.1.1 a.2.1.2 y = true ∧ y.1 = a.2.2.1 ∧ y.2.2.length ≤ 2 * a.2.2.2.2.length⟩
section
variable {P : Program} {w : World} {K : PySem.W.Frag} {mg : Str → Option Value} {base : Heap}
theorem ok_another (D : Df K mg "_law_another" s_law_another) (B : Bi mg) (c_law_draw : Cal P w K mg base 1 "_law_draw" 2 frDraw.sp) : Cal P w K mg base 2 "_law_another" 2 frAnother.sp := by
  refine cal_of D sc_law_another bi_law_another fun f cdv A outer s H E hr => ⟨_, _, (ps_cons' (ps_asg' (pd_var 1) (pg_tup' 3 rfl (pgs_cons' (pg_name' 5 sc_law_another.nd) (pgs_cons' (pg_name' 6 sc_law_another.nd) (pgs_cons' (pg_name' 7 sc_law_another.nd) pgs_nil')))))
      (ps_cons' (ps_set' 2 sc_law_another.nd (pd_sub (pd_cal c_law_draw (hr.mono (by decide)) (pa_lend (pv_name 0) (pa_cons' pd_int pa_nil'))) pd_int))
      (ps_cons' (ps_set' 3 sc_law_another.nd (pd_cal c_law_draw (hr.mono (by decide)) (pa_lend (pv_name 0) (pa_cons' (pd_sub (pd_len B.len (pv_name 7)) pd_int) pa_nil'))))
      (ps_cons' (ps_set' 4 sc_law_another.nd (pd_catT (PD.pv (pd_slT (pv_name 7) (po_some' (pd_var 3)) (po_some' (pd_sub (pd_len B.len (pv_name 7)) pd_int)))) (PD.pv (pd_slT (pv_name 7) po_none' (po_some' (pd_var 3))))))
      (ps_cons' (ps_if' (PCm.pdt (c_eqI (pd_cal c_law_draw (hr.mono (by decide)) (pa_lend (pv_name 0) (pa_cons' pd_int pa_nil'))) pd_int))
       (ps_one' (ps_set' 4 sc_law_another.nd (pd_catT (pv_name 4) (pv_name 4))))
       ps_nil')
      (ps_one' (ps_ret' (pd_tup (pa_cons' (pd_var 5) (pa_cons' (pd_tupOf B.tuple (PD.pv (PF.pd (pf_lc [("one", 8)] rfl sc_law_another.nd (pi_tup' (pd_var 6)) (blkOk_by (N := n_law_another) (sc := defScope s_law_another) (by decide +kernel)) (fun _ _ _ _ _ => (pg_name' 8 sc_law_another.nd)) own_name (fun _ _ _ _ _ => pt_nil') (fun _ _ _ _ _ => (pd_add (pd_var 8) (pd_var 2))))))) (pa_cons' (pd_catT (pv_name 4) (PD.pv (pd_slT (pv_name 4) po_none' (po_some' pd_int)))) pa_nil'))))))))))), ?_⟩
  rintro es P' Ex ρ0 hl ⟨⟨b, ⟨n, G⟩, ⟨m, p, wk⟩⟩, rfl, ⟨hok, hj, hpl, hwl⟩, hp⟩ rfl
  dsimp only [frAnother] at hok hj hpl hwl hp
  dsimp only [frAnother]
  have hj : judge n G m p wk = true := hj
  obtain ⟨j1, j2, j3, j4, j5, j6⟩ := judge_eq.mp hj
  have ep : papD (m, p, wk) = .tup [fracD m, intsD p, .tup (nodesL wk)] := rfl
  rw [ep]
  walk_at "wk0"
  walk_at "wk"
  refine call_dr rfl rfl rfl (by decide) (by decide) fun x1 b hx1 ρ e => ?_
  rw [List.set_cons_zero] at e
  subst e
  walk_at "wk"
  rw [nodesL_len]
  refine call_dr rfl rfl rfl (by omega) (by omega) fun t b ht ρ e => ?_
  rw [List.set_cons_zero] at e
  subst e
  walk_at "wk"
  rw [nodesL_len, cut_in (nodesL_len wk).symm (by omega), cut_to]
  have e1 : ((nodesL wk).take (wk.length - 1)).drop t ++ (nodesL wk).take t = nodesL (turned wk t) := by
    unfold nodesL intsN turned
    rw [List.map_append, List.map_append, List.map_drop, List.map_drop, List.map_take, List.map_take, List.map_take, List.map_take]
  have hla : (((nodesL wk).take (wk.length - 1)).drop t).length ≤ 2000 := by
    rw [List.length_drop, List.length_take, nodesL_len]
    omega
  have hlb : ((nodesL wk).take t).length ≤ 2000 := by
    rw [List.length_take, nodesL_len]
    omega
  refine e_kcatT rfl rfl (by omega) ?_
  rw [e1]
  have htl : (turned wk t).length ≤ wk.length := by
    unfold turned
    rw [List.length_append, List.length_drop, List.length_take, List.length_take]
    omega
  have htt : ∀ r : List Nat, cut (nodesL r) none (some (1 : Int)) = nodesL (r.take 1) := fun r => by
    rw [nodesL_cut]
    exact congrArg nodesL (cut_to (t := 1))
  walk_at "wk"
  refine call_dr rfl rfl rfl (by decide) (by decide) fun x2 b hx2 ρ e => ?_
  rw [List.set_cons_zero] at e
  subst e
  walk_at "wk"
  have hfin : ∀ two : Bool, P' (.dat (.tup [fracD m, .tup (p.map fun x => Dt.int (x + ((x1 : Int) - 3))), .tup (nodesL ((if two = true then turned wk t ++ turned wk t else turned wk t) ++ (if two = true then turned wk t ++ turned wk t else turned wk t).take 1))])) [.lst (bagD b)] := fun two => by
    refine hp _ _ ⟨(m, p.map fun x => x + ((x1 : Int) - 3), _), b, ?_, rfl, another_right hok hj ((x1 : Int) - 3) t (by omega) two, rfl, ?_⟩
    · show _ = Rs.dat (.tup [fracD m, .tup ((p.map fun x => x + ((x1 : Int) - 3)).map Dt.int), .tup (nodesL _)])
      rw [List.map_map]
      rfl
    · have hl2 : 2 ≤ wk.length := j3
      have : (turned wk t).length = wk.length - 1 := by
        unfold turned
        rw [List.length_append, List.length_drop, List.length_take, List.length_take]
        omega
      dsimp only
      rw [List.length_append, List.length_take]
      cases two with
      | true =>
        rw [if_pos rfl, List.length_append]
        omega
      | false =>
        rw [if_neg Bool.false_ne_true]
        omega
  refine e_ifd (fun h1 => ?_) (fun h1 => ?_)
  · walk_at "wk"
    refine e_kcatT rfl rfl (by rw [nodesL_len]; omega) ?_
    rw [nodesL_app]
    walk_at "wk"
    refine e_kT (xs := p.map Dt.int) ?_
    refine e_lcM1 p Dt.int (fun x => .int (x + ((x1 : Int) - 3))) rfl (by omega) rfl (by walk_at "set") (fun y hy K1 h1 => ?_) ?_
    · walk_at "wk"
      exact h1 _ rfl
    walk_at "wk"
    rw [htt]
    refine e_kcatT rfl rfl (by rw [nodesL_len, nodesL_len, List.length_append, List.length_take]; omega) ?_
    rw [nodesL_app]
    walk_at "wk"
    exact e_fin rfl (hfin true)
  · walk_at "wk"
    refine e_kT (xs := p.map Dt.int) ?_
    refine e_lcM1 p Dt.int (fun x => .int (x + ((x1 : Int) - 3))) rfl (by omega) rfl (by walk_at "set") (fun y hy K1 h1 => ?_) ?_
    · walk_at "wk"
      exact h1 _ rfl
    walk_at "wk"
    rw [htt]
    refine e_kcatT rfl rfl (by rw [nodesL_len, nodesL_len, List.length_take]; omega) ?_
    rw [nodesL_app]
    walk_at "wk"
    exact e_fin rfl (hfin false)
end
end K85
namespace K85
open PySem PySem.Spec PyProof.Rows L2 Wk
local macro_rules | `(tactic| walk_at "wk") => `(tactic| repeat (first
  | apply_rules -symm -exfalso (transparency := .reducible) (maxDepth := 100000) only [@e_seq, @e_c, @e_ix, @e_set, @e_op, @e_I2, @e_fI0, @e_ifS, @e_tst, @e_ktst, @e_ift, @e_iff, @e_ifnt, @e_ifnf, @e_ret, @e_retF, @e_acons, @e_anil, @e_alend, @e_tup, @e_int, @e_kint, @e_vd, @e_setIx, @e_toL, @e_toT, @e_callD, @e_toD, @e_toDo, @e_callF, @e_kown, @e_frz, @e_len, @e_setF, @e_lst, @e_and, @e_or, @e_not, @e_andV, @e_orV, @e_notV, @e_kandV, @e_korV, @e_knotV, @e_ifE, @e_is, @e_isnot, @e_neg, @e_kneg, @e_par, @e_asg, @e_gnil, @e_gcons, @e_slT, @e_slL, @e_nopart, @e_part, @e_kpart, @e_sum, @e_min, @e_max, @e_abs, @e_kabs, @e_MM, @e_kMM, @e_tupOf, @e_lstOf, @e_isi, @e_inI, @e_dget, @e_din, @e_dnew, @e_catT, @e_catL, @e_index, @e_eq, @e_chain, @e_kchain, @e_kchain2, @e_drop, @e_next, @e_brk, @e_cnt, @e_retnon, @e_setK, @e_iL, @e_kL, @e_iT, @e_kT, @e_iR1, @e_iR2, @e_for, @e_yes, @e_lc, @e_raise, @e_try, @e_isX, @e_xf]
  | ((with_reducible refine' e_var ?k1 ?_); (case k1 => exact rfl))
  | ((with_reducible refine' e_kset ?k1 ?k2 ?_); (case k1 => exact rfl); (case k2 => (with_reducible (first | exact st0 | exact st1 | exact st2 | exact st3 | exact st4 | exact st5 | exact st6 | exact st7 | exact st8 | exact st9 | exact st10 | exact st11 | exact st12 | exact st13 | exact st14 | exact st15 | exact st16 | exact st17 | exact st18 | exact st19 | exact st20))))
  | ((with_reducible refine' e_ktup ?k1 ?k2 ?_); (case k1 => exact rfl); (case k2 => exact rfl))
  | ((with_reducible refine' e_kix ?k1 ?k2 ?k3 ?_); (case k1 => exact rfl); (case k2 => exact rfl); (case k3 => exact rfl))
  | ((with_reducible refine' e_vn ?k1 ?_); (case k1 => exact rfl))
  | ((with_reducible refine' e_varL ?k1 ?k2 ?_); (case k1 => exact rfl); (case k2 => (with_reducible (first | exact st0 | exact st1 | exact st2 | exact st3 | exact st4 | exact st5 | exact st6 | exact st7 | exact st8 | exact st9 | exact st10 | exact st11 | exact st12 | exact st13 | exact st14 | exact st15 | exact st16 | exact st17 | exact st18 | exact st19 | exact st20))))
  | ((with_reducible refine' e_app ?k1 ?_); (case k1 => exact rfl))
  | ((with_reducible refine' e_kapp ?k1 ?k2 ?k3 ?_); (case k1 => exact rfl); (case k2 => (simp only [List.length_append, List.length_map, List.length_cons, List.length_nil]; omega)); (case k3 => (with_reducible (first | exact st0 | exact st1 | exact st2 | exact st3 | exact st4 | exact st5 | exact st6 | exact st7 | exact st8 | exact st9 | exact st10 | exact st11 | exact st12 | exact st13 | exact st14 | exact st15 | exact st16 | exact st17 | exact st18 | exact st19 | exact st20))))
  | ((with_reducible refine' e_ksetF ?k1 ?k2 ?_); (case k1 => exact rfl); (case k2 => (with_reducible (first | exact st0 | exact st1 | exact st2 | exact st3 | exact st4 | exact st5 | exact st6 | exact st7 | exact st8 | exact st9 | exact st10 | exact st11 | exact st12 | exact st13 | exact st14 | exact st15 | exact st16 | exact st17 | exact st18 | exact st19 | exact st20))))
  | ((with_reducible refine' e_klen ?k1 ?k2 ?_); (case k1 => exact rfl); (case k2 => exact rfl))
  | ((with_reducible refine' e_klst ?k1 ?k2 ?_); (case k1 => exact rfl); (case k2 => exact rfl))
  | ((with_reducible refine' e_gtup ?k1 ?_); (case k1 => exact rfl))
  | ((with_reducible refine' e_gN ?k1 ?k2 ?_); (case k1 => exact rfl); (case k2 => (with_reducible (first | exact st0 | exact st1 | exact st2 | exact st3 | exact st4 | exact st5 | exact st6 | exact st7 | exact st8 | exact st9 | exact st10 | exact st11 | exact st12 | exact st13 | exact st14 | exact st15 | exact st16 | exact st17 | exact st18 | exact st19 | exact st20))))
  | ((with_reducible refine' e_varT ?k1 ?k2 ?_); (case k1 => exact rfl); (case k2 => (with_reducible (first | exact st0 | exact st1 | exact st2 | exact st3 | exact st4 | exact st5 | exact st6 | exact st7 | exact st8 | exact st9 | exact st10 | exact st11 | exact st12 | exact st13 | exact st14 | exact st15 | exact st16 | exact st17 | exact st18 | exact st19 | exact st20))))
  | ((with_reducible refine' e_mulR ?k1 ?k2 ?_); (case k1 => omega); (case k2 => omega))
  | ((with_reducible refine' e_mulL ?k1 ?k2 ?_); (case k1 => omega); (case k2 => omega))
  | ((with_reducible refine' e_div ?k1 ?k2 ?_); (case k1 => omega); (case k2 => omega))
  | ((with_reducible refine' e_mod ?k1 ?_); (case k1 => omega))
  | ((with_reducible refine' e_retN ?k1 ?_); (case k1 => exact rfl))
  | ((with_reducible refine' e_retNO ?k1 ?k2 ?_); (case k1 => exact rfl); (case k2 => (with_reducible (first | exact st0 | exact st1 | exact st2 | exact st3 | exact st4 | exact st5 | exact st6 | exact st7 | exact st8 | exact st9 | exact st10 | exact st11 | exact st12 | exact st13 | exact st14 | exact st15 | exact st16 | exact st17 | exact st18 | exact st19 | exact st20))))
  | ((with_reducible refine' e_setIx1 ?k1 ?_); (case k1 => exact rfl))
  | ((with_reducible refine' e_ksetIx ?k1 ?k2 ?k3 ?_); (case k1 => exact rfl); (case k2 => exact rfl); (case k3 => (with_reducible (first | exact st0 | exact st1 | exact st2 | exact st3 | exact st4 | exact st5 | exact st6 | exact st7 | exact st8 | exact st9 | exact st10 | exact st11 | exact st12 | exact st13 | exact st14 | exact st15 | exact st16 | exact st17 | exact st18 | exact st19 | exact st20))))
  | ((with_reducible refine' e_kpar ?k1 ?k2 ?k3 ?_); (case k1 => exact rfl); (case k2 => exact rfl); (case k3 => (repeat (first | exact set_0 | apply set_s))))
  | ((with_reducible refine' e_aug ?k1 ?_); (case k1 => exact rfl))
  | ((with_reducible refine' e_kaug ?k1 ?k2 ?_); (case k1 => exact rfl); (case k2 => (with_reducible (first | exact st0 | exact st1 | exact st2 | exact st3 | exact st4 | exact st5 | exact st6 | exact st7 | exact st8 | exact st9 | exact st10 | exact st11 | exact st12 | exact st13 | exact st14 | exact st15 | exact st16 | exact st17 | exact st18 | exact st19 | exact st20))))
  | ((with_reducible refine' e_kslT ?k1 ?_); (case k1 => exact rfl))
  | ((with_reducible refine' e_kslL ?k1 ?_); (case k1 => exact rfl))
  | ((with_reducible refine' e_ksum ?k1 ?_); (case k1 => exact rfl))
  | ((with_reducible refine' e_ktupOf ?k1 ?k2 ?_); (case k1 => exact rfl); (case k2 => exact rfl))
  | ((with_reducible refine' e_klstOf ?k1 ?k2 ?_); (case k1 => exact rfl); (case k2 => exact rfl))
  | ((with_reducible refine' e_kisi ?k1 ?k2 ?k3 ?_); (case k1 => exact rfl); (case k2 => exact rfl); (case k3 => (first | exact ks_ii | exact ks_ib | exact ks_bi | exact ks_bb | exact ks_ni | exact ks_nb | exact ks_tt | exact ks_lt | exact ks_it | exact ks_nt | exact ks_ti | exact ks_si)))
  | ((with_reducible refine' e_kR1 ?k1 ?k2 ?_); (case k1 => omega); (case k2 => omega))
  | ((with_reducible refine' e_kR2 ?k1 ?_); (case k1 => omega))
  ))
local macro_rules | `(tactic| walk_at "wk0") => `(tactic| (unfold endsF; (with_reducible refine' st_rho ?k1 ?_); (case k1 => repeat (first | exact rh_0 | (with_reducible apply rh_m) | (with_reducible apply rh_n) | apply rh_s))))
local macro_rules | `(tactic| walk_at "set") => `(tactic| with_reducible (first | exact st0 | exact st1 | exact st2 | exact st3 | exact st4 | exact st5 | exact st6 | exact st7 | exact st8 | exact st9 | exact st10 | exact st11 | exact st12 | exact st13 | exact st14 | exact st15 | exact st16 | exact st17 | exact st18 | exact st19 | exact st20))
theorem intsD_tup (q : List Int) : intsD q = .tup (q.map Dt.int) := rfl
theorem arcsD_tup (q : List Arc) : arcsD q = .tup (q.map arcD) := rfl
theorem papD_tup (m : Fc) (p : List Int) (w : List Nat) : papD (m, p, w) = .tup [.tup [.int m.1, .int m.2], .tup (p.map Dt.int), .tup (nodesL w)] := rfl
theorem rnd_len {G : List Arc} {r : Rnd} (h : RoundOk G r) : r.2.2 ≠ [] ∧ r.2.2.length = r.2.1 := by
  obtain ⟨x, l, _, h2, h3, _, h5⟩ := h
  rw [← h5]
  refine ⟨fun e => h2 (List.map_eq_nil_iff.mp e), ?_⟩
  unfold srcs
  rw [List.length_map]
  exact h3
def frChanged : FR := ⟨Bag × (Nat × List Arc × List Rnd) × Pap, fun a => [.own true (.lst (bagD a.1)), .dat (graphD a.2.1.1 a.2.1.2.1 a.2.1.2.2), .dat (papD a.2.2)], fun a => GraphOk a.2.1.1 a.2.1.2.1 a.2.1.2.2 ∧ a.2.1.2.2 ≠ [] ∧ a.2.1.2.1 ≠ [] ∧ a.2.2.2.1.length = a.2.1.1 ∧ 1 ≤ a.2.2.2.2.length ∧ a.2.2.2.2.length ≤ 9000 ∧ 0 < a.2.2.1.2 ∧ a.2.2.1.2 ≤ 100000,
  fun a r os => ∃ (G' : List Arc) (y : Pap) (b : Bag), r = .dat (.tup [arcsD G', papD y]) ∧ os = [.lst (bagD b)] ∧ okA a.2.1.1 G' ∧ G'.length ≤ 4000 ∧ small y⟩
section
variable {P : Program} {w : World} {K : PySem.W.Frag} {mg : Str → Option Value} {base : Heap}
theorem ok_changed (D : Df K mg "_law_changed" s_law_changed) (B : Bi mg) (c_law_draw : Cal P w K mg base 1 "_law_draw" 2 frDraw.sp) (c_law_pick : Cal P w K mg base 2 "_law_pick" 2 frPick.sp) : Cal P w K mg base 3 "_law_changed" 3 frChanged.sp := by
  refine cal_of D sc_law_changed bi_law_changed fun f cdv A outer s H E hr => ⟨_, _, (ps_cons' (ps_asg' (pd_var 1) (pg_tup' 3 rfl (pgs_cons' (pg_name' 9 sc_law_changed.nd) (pgs_cons' (pg_name' 10 sc_law_changed.nd) (pgs_cons' (pg_name' 11 sc_law_changed.nd) pgs_nil')))))
      (ps_cons' (ps_asg' (pd_var 2) (pg_tup' 3 rfl (pgs_cons' (pg_name' 12 sc_law_changed.nd) (pgs_cons' (pg_name' 13 sc_law_changed.nd) (pgs_cons' (pg_name' 14 sc_law_changed.nd) pgs_nil')))))
      (ps_cons' (ps_set' 3 sc_law_changed.nd (pd_cal c_law_draw (hr.mono (by decide)) (pa_lend (pv_name 0) (pa_cons' pd_int pa_nil'))))
      (ps_cons' (ps_set' 4 sc_law_changed.nd (pd_cal c_law_draw (hr.mono (by decide)) (pa_lend (pv_name 0) (pa_cons' (pd_var 9) pa_nil'))))
      (ps_cons' (ps_set' 5 sc_law_changed.nd (pd_add pd_int (pd_cal c_law_draw (hr.mono (by decide)) (pa_lend (pv_name 0) (pa_cons' pd_int pa_nil')))))
      (ps_cons' (ps_if' (PCm.pdt (c_lt (pd_var 3) pd_int))
       (ps_one' (ps_ret' (pd_tup (pa_cons' (pd_var 10) (pa_cons' (pd_tup (pa_cons' (pd_tup (pa_cons' (pd_sub (pd_add (pd_ix (pv_name 12) pd_int) (pd_var 5)) (pd_mul pd_int (pd_var 3))) (pa_cons' (pd_ix (pv_name 12) pd_int) pa_nil'))) (pa_cons' (pd_var 13) (pa_cons' (pd_var 14) pa_nil')))) pa_nil')))))
       ps_nil')
      (ps_cons' (ps_if' (PCm.pdt (c_eqI (pd_var 3) pd_int))
       (ps_one' (ps_ret' (pd_tup (pa_cons' (pd_var 10) (pa_cons' (pd_tup (pa_cons' (pd_tup (pa_cons' (pd_ix (pv_name 12) pd_int) (pa_cons' (pd_sub (pd_add (pd_ix (pv_name 12) pd_int) (pd_var 5)) pd_int) pa_nil'))) (pa_cons' (pd_var 13) (pa_cons' (pd_var 14) pa_nil')))) pa_nil')))))
       ps_nil')
      (ps_cons' (ps_if' (PDW.pdt (pdw_or (PCm.pdt (c_eqI (pd_var 3) pd_int)) (pdw_or1 (PCm.pdt (c_eqI (pd_var 3) pd_int)))))
       (ps_cons' (ps_set' 15 sc_law_changed.nd (pd_ifE (PCm.pdt (c_eqI (pd_var 3) pd_int)) (pd_add (pd_ix (pv_name 13) (pd_var 4)) (pd_var 5)) (pd_sub (pd_ix (pv_name 13) (pd_var 4)) (pd_var 5))))
        (ps_one' (ps_ret' (pd_tup (pa_cons' (pd_var 10) (pa_cons' (pd_tup (pa_cons' (pd_var 12) (pa_cons' (pd_catT (PD.pv (pd_catT (PD.pv (pd_slT (pv_name 13) po_none' (po_some' (pd_var 4)))) (PD.pv (pd_tup (pa_cons' (pd_var 15) pa_nil'))))) (PD.pv (pd_slT (pv_name 13) (po_some' (pd_add (pd_var 4) pd_int)) po_none'))) (pa_cons' (pd_var 14) pa_nil')))) pa_nil'))))))
       ps_nil')
      (ps_cons' (ps_if' (PCm.pdt (c_eqI (pd_var 3) pd_int))
       (ps_cons' (ps_set' 6 sc_law_changed.nd (pd_cal c_law_draw (hr.mono (by decide)) (pa_lend (pv_name 0) (pa_cons' (pd_len B.len (pv_name 14)) pa_nil'))))
        (ps_one' (ps_ret' (pd_tup (pa_cons' (pd_var 10) (pa_cons' (pd_tup (pa_cons' (pd_var 12) (pa_cons' (pd_var 13) (pa_cons' (pd_catT (PD.pv (pd_catT (PD.pv (pd_slT (pv_name 14) po_none' (po_some' (pd_var 6)))) (PD.pv (pd_tup (pa_cons' (pd_var 4) pa_nil'))))) (PD.pv (pd_slT (pv_name 14) (po_some' (pd_add (pd_var 6) pd_int)) po_none'))) pa_nil')))) pa_nil'))))))
       ps_nil')
      (ps_cons' (ps_if' (PCm.pdt (c_eqI (pd_var 3) pd_int))
       (ps_one' (ps_ret' (pd_tup (pa_cons' (pd_var 10) (pa_cons' (pd_tup (pa_cons' (pd_var 12) (pa_cons' (pd_var 13) (pa_cons' (pd_slT (pv_name 14) po_none' (po_some' (pd_sub (pd_len B.len (pv_name 14)) pd_int))) pa_nil')))) pa_nil')))))
       ps_nil')
      (ps_cons' (ps_if' (PCm.pdt (c_eqI (pd_var 3) pd_int))
       (ps_cons' (ps_set' 16 sc_law_changed.nd (pd_ix (PD.pv (pd_cal c_law_pick (hr.mono (by decide)) (pa_lend (pv_name 0) (pa_cons' (pd_var 11) pa_nil')))) pd_int))
        (ps_one' (ps_ret' (pd_tup (pa_cons' (pd_var 10) (pa_cons' (pd_tup (pa_cons' (pd_var 12) (pa_cons' (pd_var 13) (pa_cons' (pd_catT (pv_name 16) (PD.pv (pd_slT (pv_name 16) po_none' (po_some' pd_int)))) pa_nil')))) pa_nil'))))))
       ps_nil')
      (ps_cons' (ps_if' (PCm.pdt (c_eqI (pd_var 3) pd_int))
       (ps_one' (ps_ret' (pd_tup (pa_cons' (pd_var 10) (pa_cons' (pd_tup (pa_cons' (pd_var 12) (pa_cons' (pd_ifE (PCm.pdt (c_eqI (pd_var 5) pd_int)) (pd_slT (pv_name 13) po_none' (po_some' (pd_sub (pd_var 9) pd_int))) (pd_catT (pv_name 13) (PD.pv (pd_tup (pa_cons' (pd_ix (pv_name 13) (pd_var 4)) pa_nil'))))) (pa_cons' (pd_var 14) pa_nil')))) pa_nil')))))
       ps_nil')
      (ps_cons' (ps_set' 6 sc_law_changed.nd (pd_cal c_law_draw (hr.mono (by decide)) (pa_lend (pv_name 0) (pa_cons' (pd_len B.len (pv_name 10)) pa_nil'))))
      (ps_cons' (ps_set' 7 sc_law_changed.nd (pd_ix (pv_name 10) (pd_var 6)))
      (ps_cons' (ps_set' 8 sc_law_changed.nd (pd_ifE (PCm.pdt (c_eqI (pd_var 5) pd_int)) (pd_tup pa_nil') (pd_tup (pa_cons' (pd_tup (pa_cons' (pd_ix (pv_name 7) pd_int) (pa_cons' (pd_ix (pv_name 7) pd_int) (pa_cons' (pd_sub (pd_add (pd_ix (pv_name 7) pd_int) pd_int) (pd_mul pd_int (pd_var 5))) pa_nil')))) pa_nil'))))
      (ps_one' (ps_ret' (pd_tup (pa_cons' (pd_catT (PD.pv (pd_catT (PD.pv (pd_slT (pv_name 10) po_none' (po_some' (pd_var 6)))) (pv_name 8))) (PD.pv (pd_slT (pv_name 10) (po_some' (pd_add (pd_var 6) pd_int)) po_none'))) (pa_cons' (pd_var 2) pa_nil')))))))))))))))))))), ?_⟩
  rintro es P' Ex ρ0 hl ⟨⟨b, ⟨n, G, R⟩, ⟨m, p, wk⟩⟩, rfl, ⟨hg, hR, hG, hpl, hw1, hwl, hm0, hm1⟩, hp⟩ rfl
  dsimp only [frChanged] at hg hR hG hpl hw1 hwl hm0 hm1 hp
  dsimp only [frChanged]
  have hgn := hg.n1
  have hgn2 := hg.n2
  have hgal := hg.al
  have hmap : (G.map arcD).length = G.length := List.length_map _
  have hGp : 0 < G.length := List.length_pos_iff.mpr hG
  have fin : ∀ {bb : Bag} {ds : Dt} (G' : List Arc) (y : Pap), ds = .tup [arcsD G', papD y] → okA n G' → G'.length ≤ 4000 → small y → P' (.dat ds) [.lst (bagD bb)] := fun {bb} {ds} G' y h1 h2 h3 h4 => hp _ _ ⟨G', y, bb, by rw [h1], rfl, h2, h3, h4⟩
  have hG4 : G.length ≤ 4000 := by omega
  have sm0 : small (m, p, wk) := ⟨⟨by dsimp only; omega, by dsimp only; omega⟩, by dsimp only; omega, by dsimp only; omega⟩
  rw [papD_tup]
  have egr : graphD n G R = .tup [.int (n : Int), .tup (G.map arcD), .lst (R.map rndD)] := rfl
  rw [egr]
  walk_at "wk0"
  walk_at "wk"
  refine call_dr rfl rfl rfl (by decide) (by decide) fun kind b hkind ρ e => ?_
  rw [List.set_cons_zero] at e
  subst e
  walk_at "wk"
  refine call_dr rfl rfl rfl (by omega) (by omega) fun at_ b hat ρ e => ?_
  rw [List.set_cons_zero] at e
  subst e
  walk_at "wk"
  refine call_dr rfl rfl rfl (by decide) (by decide) fun by0 b hby ρ e => ?_
  rw [List.set_cons_zero] at e
  subst e
  have hatp : at_ < p.length := by omega
  walk_at "wk"
  refine e_ifd (fun h => ?_) (fun _ => ?_)
  · walk_at "wk"
    exact e_fin rfl (fin G ((_, _), p, wk) rfl hg.ok hG4 sm0)
  walk_at "wk"
  refine e_ifd (fun h => ?_) (fun _ => ?_)
  · walk_at "wk"
    exact e_fin rfl (fin G ((m.1, m.2 + (1 + (by0 : Int)) - 2), p, wk) rfl hg.ok hG4 ⟨⟨by dsimp only; omega, by dsimp only; omega⟩, sm0.2⟩)
  walk_at "wk"
  have hcl : (cut (p.map Dt.int) none (some (at_ : Int))).length ≤ 200 := Nat.le_trans (cut_le _ _ _) (by rw [List.length_map]; omega)
  have hcl2 : (cut (p.map Dt.int) (some ((at_ : Int) + 1)) none).length ≤ 200 := Nat.le_trans (cut_le _ _ _) (by rw [List.length_map]; omega)
  have hfin3 : ∀ {bb : Bag} (z : Int), P' (.dat (.tup [.tup (G.map arcD), .tup [.tup [.int m.1, .int m.2], .tup (cut (p.map Dt.int) none (some (at_ : Int)) ++ [.int z] ++ cut (p.map Dt.int) (some ((at_ : Int) + 1)) none), .tup (nodesL wk)]])) [.lst (bagD bb)] := fun z => by
    refine fin G (m, cut p none (some (at_ : Int)) ++ [z] ++ cut p (some ((at_ : Int) + 1)) none, wk) ?_ hg.ok hG4 ⟨sm0.1, ?_, sm0.2.2⟩
    · rw [papD_tup, List.map_append, List.map_append, cut_map, cut_map]
      rfl
    · dsimp only
      have := cut_le p none (some (at_ : Int))
      have := cut_le p (some ((at_ : Int) + 1)) none
      rw [List.length_append, List.length_append, List.length_singleton]
      omega
  have two34 : ∀ {q1 q2 : Prop}, ((kind : Int) = 3 ∨ (kind : Int) = 4 → q1) → (¬ ((kind : Int) = 3 ∨ (kind : Int) = 4) → q2) → (if decide ((kind : Int) = 3) = true then q1 else if decide ((kind : Int) = 4) = true then q1 else q2) := fun {q1 q2} a c => by
    refine e_ifd (fun h => a (.inl h)) (fun h => e_ifd (fun h2 => a (.inr h2)) (fun h2 => c (fun z => z.elim h h2)))
  refine e_ifd (fun h => ?_) (fun h => ?_)
  · walk_at "wk"
    refine e_ifd (fun _ => ?_) (fun h2 => absurd h h2)
    walk_at "wk"
    refine e_kix (d := .tup (p.map Dt.int)) rfl rfl (atI_nat (geti (i := at_) hatp)) ?_
    walk_at "wk"
    refine e_kcatT rfl rfl (by rw [List.length_singleton]; omega) ?_
    walk_at "wk"
    refine e_kcatT rfl rfl (by rw [List.length_append, List.length_singleton]; omega) ?_
    walk_at "wk"
    exact e_fin rfl (hfin3 _)
  walk_at "wk"
  refine e_ifd (fun h4 => ?_) (fun h4 => ?_)
  · walk_at "wk"
    refine e_ifd (fun h2 => absurd h2 h) (fun _ => ?_)
    walk_at "wk"
    refine e_kix (d := .tup (p.map Dt.int)) rfl rfl (atI_nat (geti (i := at_) hatp)) ?_
    walk_at "wk"
    refine e_kcatT rfl rfl (by rw [List.length_singleton]; omega) ?_
    walk_at "wk"
    refine e_kcatT rfl rfl (by rw [List.length_append, List.length_singleton]; omega) ?_
    walk_at "wk"
    exact e_fin rfl (hfin3 _)
  walk_at "wk"
  refine e_ifd (fun h => ?_) (fun _ => ?_)
  · walk_at "wk"
    rw [nodesL_len]
    refine call_dr rfl rfl rfl (by omega) (by omega) fun pl b hpl ρ e => ?_
    rw [List.set_cons_zero] at e
    subst e
    walk_at "wk"
    rw [nodesL_cut]
    have h1 := cut_le wk none (some (pl : Int))
    have h2 := cut_le wk (some ((pl : Int) + 1)) none
    refine e_kcatT (ys := nodesL [at_]) rfl rfl (by rw [nodesL_len, nodesL_len, List.length_singleton]; omega) ?_
    rw [nodesL_app]
    walk_at "wk"
    rw [nodesL_cut]
    refine e_kcatT rfl rfl (by rw [nodesL_len, nodesL_len, List.length_append, List.length_singleton]; omega) ?_
    rw [nodesL_app]
    walk_at "wk"
    refine e_fin rfl (fin G (m, p, _) rfl hg.ok hG4 ⟨sm0.1, sm0.2.1, ?_⟩)
    dsimp only
    rw [List.length_append, List.length_append, List.length_singleton]
    omega
  walk_at "wk"
  refine e_ifd (fun h => ?_) (fun _ => ?_)
  · walk_at "wk"
    rw [nodesL_len, nodesL_cut]
    refine e_fin rfl (fin G (m, p, cut wk none (some ((wk.length : Int) - 1))) rfl hg.ok hG4 ⟨sm0.1, sm0.2.1, ?_⟩)
    have := cut_le wk none (some ((wk.length : Int) - 1))
    dsimp only
    omega
  walk_at "wk"
  refine e_ifd (fun h => ?_) (fun _ => ?_)
  · walk_at "wk"
    refine call_pk rfl rfl rfl rfl (fun e => hR (List.map_eq_nil_iff.mp e)) (by rw [List.length_map]; exact hg.rl) fun y b hy ρ e => ?_
    rw [List.set_cons_zero] at e
    subst e
    obtain ⟨r, hr, rfl⟩ := List.mem_map.mp hy
    obtain ⟨q1, q2⟩ := rnd_len (hg.rd r hr)
    have q3 := hg.rb r hr
    have erd : rndD r = .tup [.int r.1, .int (r.2.1 : Int), .tup (nodesL r.2.2)] := rfl
    rw [erd]
    walk_at "wk"
    rw [nodesL_cut]
    have h2 := cut_le r.2.2 none (some (1 : Int))
    refine e_kcatT rfl rfl (by rw [nodesL_len, nodesL_len]; omega) ?_
    rw [nodesL_app]
    walk_at "wk"
    refine e_fin rfl (fin G (m, p, _) rfl hg.ok hG4 ⟨sm0.1, sm0.2.1, ?_⟩)
    dsimp only
    rw [List.length_append]
    omega
  walk_at "wk"
  refine e_ifd (fun h => ?_) (fun _ => ?_)
  · walk_at "wk"
    refine e_ifd (fun h2 => ?_) (fun h2 => ?_)
    · walk_at "wk"
      rw [cut_map]
      refine e_fin rfl (fin G (m, cut p none (some ((n : Int) - 1)), wk) rfl hg.ok hG4 ⟨sm0.1, ?_, sm0.2.2⟩)
      have := cut_le p none (some ((n : Int) - 1))
      dsimp only
      omega
    · walk_at "wk"
      refine e_kix (d := .tup (p.map Dt.int)) rfl rfl (atI_nat (geti (i := at_) hatp)) ?_
      walk_at "wk"
      refine e_kcatT (ys := [p.getD at_ 0].map Dt.int) rfl rfl (by rw [List.length_map, List.length_map, List.length_singleton]; omega) ?_
      rw [← List.map_append]
      walk_at "wk"
      refine e_fin rfl (fin G (m, _, wk) rfl hg.ok hG4 ⟨sm0.1, ?_, sm0.2.2⟩)
      dsimp only
      rw [List.length_append, List.length_singleton]
      omega
  walk_at "wk"
  rw [hmap]
  refine call_dr rfl rfl rfl (by omega) (by omega) fun pl b hpl ρ e => ?_
  rw [List.set_cons_zero] at e
  subst e
  have hplt : pl < G.length := by omega
  walk_at "wk"
  refine e_kix (d := .tup (G.map arcD)) rfl rfl (atI_nat (j := pl) (v := arcD G[pl]) (by rw [List.getElem?_map, List.getElem?_eq_getElem hplt]; rfl)) ?_
  walk_at "wk"
  have harc := hg.ok G[pl] (List.getElem_mem hplt)
  generalize G[pl] = a at harc ⊢
  have hsub : ∀ lo hi, ∀ x ∈ cut G lo hi, x ∈ G := fun lo hi x hx => by
    unfold cut at hx
    exact List.mem_of_mem_drop (List.mem_of_mem_take hx)
  have hfin9 : ∀ {bb : Bag} (X : List Arc), X.length ≤ 1 → okA n X → P' (.dat (.tup [.tup ((cut G none (some (pl : Int)) ++ X ++ cut G (some ((pl : Int) + 1)) none).map arcD), .tup [.tup [.int m.1, .int m.2], .tup (p.map Dt.int), .tup (nodesL wk)]])) [.lst (bagD bb)] := fun X hX hXo => by
    refine fin (cut G none (some (pl : Int)) ++ X ++ cut G (some ((pl : Int) + 1)) none) (m, p, wk) rfl (fun x hx => ?_) ?_ sm0
    · rcases List.mem_append.mp hx with z | z
      · rcases List.mem_append.mp z with z | z
        · exact hg.ok x (hsub _ _ x z)
        · exact hXo x z
      · exact hg.ok x (hsub _ _ x z)
    · rw [show ((pl : Int) + 1) = ((pl + 1 : Nat) : Int) by omega, cut_to, cut_from (by omega), List.length_append, List.length_append, List.length_take, List.length_drop]
      omega
  have hc1 := cut_le G none (some (pl : Int))
  have hc2 := cut_le G (some ((pl : Int) + 1)) none
  refine e_ifd (fun h2 => ?_) (fun h2 => ?_)
  · walk_at "wk"
    rw [cut_map]
    refine e_kcatT (ys := ([] : List Arc).map arcD) rfl rfl (by rw [List.length_map, List.length_map, List.length_nil]; omega) ?_
    rw [← List.map_append]
    walk_at "wk"
    rw [cut_map]
    refine e_kcatT rfl rfl (by rw [List.length_map, List.length_map, List.length_append, List.length_nil]; omega) ?_
    rw [← List.map_append]
    walk_at "wk"
    exact e_fin rfl (hfin9 [] (by simp) (fun x hx => nomatch hx))
  · walk_at "wk"
    rw [cut_map]
    refine e_kcatT (ys := [((a.1, a.2.1, a.2.2 + 5 - 2 * ((1 : Int) + (by0 : Int))) : Arc)].map arcD) rfl rfl (by rw [List.length_map, List.length_map, List.length_singleton]; omega) ?_
    rw [← List.map_append]
    walk_at "wk"
    rw [cut_map]
    refine e_kcatT rfl rfl (by rw [List.length_map, List.length_map, List.length_append, List.length_singleton]; omega) ?_
    rw [← List.map_append]
    walk_at "wk"
    exact e_fin rfl (hfin9 [_] (by simp) (fun x hx => by rw [List.mem_singleton] at hx; subst hx; exact harc))
end
end K85
namespace K85
open PySem PySem.Spec PyProof.Rows L2 Wk
local macro_rules | `(tactic| walk_at "wk") => `(tactic| repeat (first
  | apply_rules -symm -exfalso (transparency := .reducible) (maxDepth := 100000) only [@e_seq, @e_c, @e_ix, @e_set, @e_op, @e_I2, @e_fI0, @e_ifS, @e_tst, @e_ktst, @e_ift, @e_iff, @e_ifnt, @e_ifnf, @e_ret, @e_retF, @e_acons, @e_anil, @e_alend, @e_tup, @e_int, @e_kint, @e_vd, @e_setIx, @e_toL, @e_toT, @e_callD, @e_toD, @e_toDo, @e_callF, @e_kown, @e_frz, @e_len, @e_setF, @e_lst, @e_and, @e_or, @e_not, @e_andV, @e_orV, @e_notV, @e_kandV, @e_korV, @e_knotV, @e_ifE, @e_is, @e_isnot, @e_neg, @e_kneg, @e_par, @e_asg, @e_gnil, @e_gcons, @e_slT, @e_slL, @e_nopart, @e_part, @e_kpart, @e_sum, @e_min, @e_max, @e_abs, @e_kabs, @e_MM, @e_kMM, @e_tupOf, @e_lstOf, @e_isi, @e_inI, @e_dget, @e_din, @e_dnew, @e_catT, @e_catL, @e_index, @e_eq, @e_chain, @e_kchain, @e_kchain2, @e_drop, @e_next, @e_brk, @e_cnt, @e_retnon, @e_setK, @e_iL, @e_kL, @e_iT, @e_kT, @e_iR1, @e_iR2, @e_for, @e_yes, @e_lc, @e_raise, @e_try, @e_isX, @e_xf]
  | ((with_reducible refine' e_var ?k1 ?_); (case k1 => exact rfl))
  | ((with_reducible refine' e_kset ?k1 ?k2 ?_); (case k1 => exact rfl); (case k2 => (with_reducible (first | exact st0 | exact st1 | exact st2 | exact st3 | exact st4 | exact st5 | exact st6 | exact st7 | exact st8 | exact st9 | exact st10 | exact st11 | exact st12 | exact st13 | exact st14 | exact st15 | exact st16 | exact st17 | exact st18 | exact st19 | exact st20))))
  | ((with_reducible refine' e_ktup ?k1 ?k2 ?_); (case k1 => exact rfl); (case k2 => exact rfl))
  | ((with_reducible refine' e_kix ?k1 ?k2 ?k3 ?_); (case k1 => exact rfl); (case k2 => exact rfl); (case k3 => exact rfl))
  | ((with_reducible refine' e_vn ?k1 ?_); (case k1 => exact rfl))
  | ((with_reducible refine' e_varL ?k1 ?k2 ?_); (case k1 => exact rfl); (case k2 => (with_reducible (first | exact st0 | exact st1 | exact st2 | exact st3 | exact st4 | exact st5 | exact st6 | exact st7 | exact st8 | exact st9 | exact st10 | exact st11 | exact st12 | exact st13 | exact st14 | exact st15 | exact st16 | exact st17 | exact st18 | exact st19 | exact st20))))
  | ((with_reducible refine' e_app ?k1 ?_); (case k1 => exact rfl))
  | ((with_reducible refine' e_kapp ?k1 ?k2 ?k3 ?_); (case k1 => exact rfl); (case k2 => (simp only [List.length_append, List.length_map, List.length_cons, List.length_nil]; omega)); (case k3 => (with_reducible (first | exact st0 | exact st1 | exact st2 | exact st3 | exact st4 | exact st5 | exact st6 | exact st7 | exact st8 | exact st9 | exact st10 | exact st11 | exact st12 | exact st13 | exact st14 | exact st15 | exact st16 | exact st17 | exact st18 | exact st19 | exact st20))))
  | ((with_reducible refine' e_ksetF ?k1 ?k2 ?_); (case k1 => exact rfl); (case k2 => (with_reducible (first | exact st0 | exact st1 | exact st2 | exact st3 | exact st4 | exact st5 | exact st6 | exact st7 | exact st8 | exact st9 | exact st10 | exact st11 | exact st12 | exact st13 | exact st14 | exact st15 | exact st16 | exact st17 | exact st18 | exact st19 | exact st20))))
  | ((with_reducible refine' e_klen ?k1 ?k2 ?_); (case k1 => exact rfl); (case k2 => exact rfl))
  | ((with_reducible refine' e_klst ?k1 ?k2 ?_); (case k1 => exact rfl); (case k2 => exact rfl))
  | ((with_reducible refine' e_gtup ?k1 ?_); (case k1 => exact rfl))
  | ((with_reducible refine' e_gN ?k1 ?k2 ?_); (case k1 => exact rfl); (case k2 => (with_reducible (first | exact st0 | exact st1 | exact st2 | exact st3 | exact st4 | exact st5 | exact st6 | exact st7 | exact st8 | exact st9 | exact st10 | exact st11 | exact st12 | exact st13 | exact st14 | exact st15 | exact st16 | exact st17 | exact st18 | exact st19 | exact st20))))
  | ((with_reducible refine' e_varT ?k1 ?k2 ?_); (case k1 => exact rfl); (case k2 => (with_reducible (first | exact st0 | exact st1 | exact st2 | exact st3 | exact st4 | exact st5 | exact st6 | exact st7 | exact st8 | exact st9 | exact st10 | exact st11 | exact st12 | exact st13 | exact st14 | exact st15 | exact st16 | exact st17 | exact st18 | exact st19 | exact st20))))
  | ((with_reducible refine' e_mulR ?k1 ?k2 ?_); (case k1 => omega); (case k2 => omega))
  | ((with_reducible refine' e_mulL ?k1 ?k2 ?_); (case k1 => omega); (case k2 => omega))
  | ((with_reducible refine' e_div ?k1 ?k2 ?_); (case k1 => omega); (case k2 => omega))
  | ((with_reducible refine' e_mod ?k1 ?_); (case k1 => omega))
  | ((with_reducible refine' e_retN ?k1 ?_); (case k1 => exact rfl))
  | ((with_reducible refine' e_retNO ?k1 ?k2 ?_); (case k1 => exact rfl); (case k2 => (with_reducible (first | exact st0 | exact st1 | exact st2 | exact st3 | exact st4 | exact st5 | exact st6 | exact st7 | exact st8 | exact st9 | exact st10 | exact st11 | exact st12 | exact st13 | exact st14 | exact st15 | exact st16 | exact st17 | exact st18 | exact st19 | exact st20))))
  | ((with_reducible refine' e_setIx1 ?k1 ?_); (case k1 => exact rfl))
  | ((with_reducible refine' e_ksetIx ?k1 ?k2 ?k3 ?_); (case k1 => exact rfl); (case k2 => exact rfl); (case k3 => (with_reducible (first | exact st0 | exact st1 | exact st2 | exact st3 | exact st4 | exact st5 | exact st6 | exact st7 | exact st8 | exact st9 | exact st10 | exact st11 | exact st12 | exact st13 | exact st14 | exact st15 | exact st16 | exact st17 | exact st18 | exact st19 | exact st20))))
  | ((with_reducible refine' e_kpar ?k1 ?k2 ?k3 ?_); (case k1 => exact rfl); (case k2 => exact rfl); (case k3 => (repeat (first | exact set_0 | apply set_s))))
  | ((with_reducible refine' e_aug ?k1 ?_); (case k1 => exact rfl))
  | ((with_reducible refine' e_kaug ?k1 ?k2 ?_); (case k1 => exact rfl); (case k2 => (with_reducible (first | exact st0 | exact st1 | exact st2 | exact st3 | exact st4 | exact st5 | exact st6 | exact st7 | exact st8 | exact st9 | exact st10 | exact st11 | exact st12 | exact st13 | exact st14 | exact st15 | exact st16 | exact st17 | exact st18 | exact st19 | exact st20))))
  | ((with_reducible refine' e_kslT ?k1 ?_); (case k1 => exact rfl))
  | ((with_reducible refine' e_kslL ?k1 ?_); (case k1 => exact rfl))
  | ((with_reducible refine' e_ksum ?k1 ?_); (case k1 => exact rfl))
  | ((with_reducible refine' e_ktupOf ?k1 ?k2 ?_); (case k1 => exact rfl); (case k2 => exact rfl))
  | ((with_reducible refine' e_klstOf ?k1 ?k2 ?_); (case k1 => exact rfl); (case k2 => exact rfl))
  | ((with_reducible refine' e_kisi ?k1 ?k2 ?k3 ?_); (case k1 => exact rfl); (case k2 => exact rfl); (case k3 => (first | exact ks_ii | exact ks_ib | exact ks_bi | exact ks_bb | exact ks_ni | exact ks_nb | exact ks_tt | exact ks_lt | exact ks_it | exact ks_nt | exact ks_ti | exact ks_si)))
  | ((with_reducible refine' e_kR1 ?k1 ?k2 ?_); (case k1 => omega); (case k2 => omega))
  | ((with_reducible refine' e_kR2 ?k1 ?_); (case k1 => omega))
  ))
local macro_rules | `(tactic| walk_at "wk0") => `(tactic| (unfold endsF; (with_reducible refine' st_rho ?k1 ?_); (case k1 => repeat (first | exact rh_0 | (with_reducible apply rh_m) | (with_reducible apply rh_n) | apply rh_s))))
local macro_rules | `(tactic| walk_at "set") => `(tactic| with_reducible (first | exact st0 | exact st1 | exact st2 | exact st3 | exact st4 | exact st5 | exact st6 | exact st7 | exact st8 | exact st9 | exact st10 | exact st11 | exact st12 | exact st13 | exact st14 | exact st15 | exact st16 | exact st17 | exact st18 | exact st19 | exact st20))
abbrev s_law_ring : Stmt := topS 28
abbrev n_law_ring : List Str := ["bag", "first", "scale", "wide", "size", "costs", "arcs", "rounds", "at", "skip", "chord", "row", "cost", "step", "place"]
theorem sc_law_ring : FnScope ["bag", "first", "scale", "wide", "size", "costs", "arcs", "rounds", "at", "skip", "chord", "row", "cost", "step", "place"] ["bag", "first", "scale", "wide"] (defScope s_law_ring) := ⟨rfl, rfl, rfl, by decide +kernel, rfl, by decide +kernel, by decide +kernel⟩
theorem bi_law_ring : BindOk "_law_ring" s_law_ring ["bag", "first", "scale", "wide"] := fun _ _ _ _ _ _ us hl => match us, hl with | [_, _, _, _], _ => rfl
theorem e_lcI1 {ρ ρw : Rho} {g : PTG} {pt : PTT} {te : PTE} {PO : Ow → Rho → Prop} {xs : List Dt} {v : Nat} (I : Nat → List Dt → Rho → Prop) (hn : ρ[v]? = some none) (hw : ρ.set v none = ρw) (h0 : I 0 [] ρw)
    (hs : ∀ i x acc ρ2, xs[i]? = some x → I i acc ρ2 → g x ρ2 fun ρ3 => pt ρ3 fun b ρ4 => if b = true then te ρ4 (fun d ρ5 => acc.length < 1000000 ∧ I (i + 1) (acc ++ [d]) (ρ5.set v none)) else I (i + 1) acc (ρ4.set v none))
    (hd : ∀ acc ρ2, I xs.length acc ρ2 → PO (.lst acc) ρ2) : kLc g pt te [v] PO xs ρ := by
  refine e_lcI I hw h0 hs fun acc ρ2 h => ?_
  have e : backR ρ ρ2 [v] = ρ2 := by
    unfold backR
    rw [hn]
    rfl
  rw [e]
  exact hd acc ρ2 h
theorem getiL {l : List Int} {i : Nat} (h : i < l.length) : (l.map Dt.int)[i]? = some (.int (l.getD i 0)) := geti h
def frRing : FR := ⟨Bag × Nat × Int × Nat, fun a => [.own true (.lst (bagD a.1)), .dat (.int (a.2.1 : Int)), .dat (.int a.2.2.1), .dat (.int (a.2.2.2 : Int))], fun a => a.2.1 ≤ 1000 ∧ 1 ≤ a.2.2.1 ∧ a.2.2.1 ≤ 400000001 ∧ 1 ≤ a.2.2.2 ∧ a.2.2.2 ≤ 12,
  fun a r os => ∃ (size : Nat) (A : List Arc) (R : List Rnd) (b : Bag), r = .dat (.tup [.int (size : Int), .lst (A.map arcD), .lst (R.map rndD)]) ∧ os = [.lst (bagD b)] ∧ RingOk a.2.1 size A R⟩
section
variable {P : Program} {w : World} {K : PySem.W.Frag} {mg : Str → Option Value} {base : Heap}
theorem ok_ring (D : Df K mg "_law_ring" s_law_ring) (B : Bi mg) (c_law_draw : Cal P w K mg base 1 "_law_draw" 2 frDraw.sp) : Cal P w K mg base 2 "_law_ring" 4 frRing.sp := by
  refine cal_of D sc_law_ring bi_law_ring fun f cdv A outer s H E hr => ⟨_, _, (ps_cons' (ps_set' 4 sc_law_ring.nd (pd_add pd_int (pd_cal c_law_draw (hr.mono (by decide)) (pa_lend (pv_name 0) (pa_cons' (pd_var 3) pa_nil')))))
      (ps_cons' (ps_set' 5 sc_law_ring.nd (PF.pd (pf_lc [("at", 8)] rfl sc_law_ring.nd (pi_range1' B.range (pd_var 4)) (blkOk_by (N := n_law_ring) (sc := defScope s_law_ring) (by decide +kernel)) (fun _ _ _ _ _ => (pg_name' 8 sc_law_ring.nd)) own_name (fun _ _ _ _ _ => pt_nil') (fun _ _ _ _ _ => (pd_sub (pd_cal c_law_draw (hr.mono (by decide)) (pa_lend (pv_name 0) (pa_cons' (pd_var 2) pa_nil'))) (pd_fdiv (pd_var 2) pd_int))))))
      (ps_cons' (ps_setLc' 6 [("at", 8)] rfl sc_law_ring.nd (pi_range1' B.range (pd_var 4)) (blkOk_by (N := n_law_ring) (sc := defScope s_law_ring) (by decide +kernel)) (fun _ _ _ _ _ => (pg_name' 8 sc_law_ring.nd)) own_name (fun _ _ _ _ _ => pt_nil') (fun _ _ _ _ _ => (pd_tup (pa_cons' (pd_add (pd_var 1) (pd_var 8)) (pa_cons' (pd_add (pd_var 1) (pd_mod (pd_toint B.int (pd_add (pd_var 8) pd_int)) (pd_var 4))) (pa_cons' (pd_ix (pv_name 5) (pd_var 8)) pa_nil'))))))
      (ps_cons' (ps_setF' 7 sc_law_ring.nd (pf_lst (pa_cons' (pd_tup (pa_cons' (pd_sum B.sum (pv_name 5)) (pa_cons' (pd_var 4) (pa_cons' (pd_tupOf B.tuple (PD.pv (PF.pd (pf_lc [("at", 8)] rfl sc_law_ring.nd (pi_range1' B.range (pd_var 4)) (blkOk_by (N := n_law_ring) (sc := defScope s_law_ring) (by decide +kernel)) (fun _ _ _ _ _ => (pg_name' 8 sc_law_ring.nd)) own_name (fun _ _ _ _ _ => pt_nil') (fun _ _ _ _ _ => (pd_add (pd_var 1) (pd_var 8))))))) pa_nil')))) pa_nil')))
      (ps_cons' (ps_if' (PCm.pdt (c_eqI (pd_cal c_law_draw (hr.mono (by decide)) (pa_lend (pv_name 0) (pa_cons' pd_int pa_nil'))) pd_int))
       (ps_one' (ps_app' 6 (pd_tup (pa_cons' (pd_ix (PD.pv (pd_ix (pv_name 6) pd_int)) pd_int) (pa_cons' (pd_ix (PD.pv (pd_ix (pv_name 6) pd_int)) pd_int) (pa_cons' (pd_add (pd_add (pd_ix (pv_name 5) pd_int) pd_int) (pd_cal c_law_draw (hr.mono (by decide)) (pa_lend (pv_name 0) (pa_cons' pd_int pa_nil')))) pa_nil'))))))
       ps_nil')
      (ps_cons' (ps_if' (PDW.pdt (pdw_and (PCm.pdt (c_gt (pd_var 4) pd_int)) (pdw_and1 (PCm.pdt (c_eqI (pd_cal c_law_draw (hr.mono (by decide)) (pa_lend (pv_name 0) (pa_cons' pd_int pa_nil'))) pd_int)))))
       (ps_cons' (ps_set' 8 sc_law_ring.nd (pd_cal c_law_draw (hr.mono (by decide)) (pa_lend (pv_name 0) (pa_cons' (pd_var 4) pa_nil'))))
        (ps_cons' (ps_set' 9 sc_law_ring.nd (pd_add pd_int (pd_cal c_law_draw (hr.mono (by decide)) (pa_lend (pv_name 0) (pa_cons' (pd_sub (pd_var 4) pd_int) pa_nil')))))
        (ps_cons' (ps_set' 10 sc_law_ring.nd (pd_sub (pd_cal c_law_draw (hr.mono (by decide)) (pa_lend (pv_name 0) (pa_cons' (pd_var 2) pa_nil'))) (pd_fdiv (pd_var 2) pd_int)))
        (ps_cons' (ps_setLcD' 11 [("step", 13)] rfl sc_law_ring.nd (pi_range1' B.range (pd_add (pd_sub (pd_var 4) (pd_var 9)) pd_int)) (blkOk_by (N := n_law_ring) (sc := defScope s_law_ring) (by decide +kernel)) (fun _ _ _ _ _ => (pg_name' 13 sc_law_ring.nd)) own_name (fun _ _ _ _ _ => pt_nil') (fun _ _ _ _ _ => (pd_mod (pd_toint B.int (pd_add (pd_add (pd_var 8) (pd_var 9)) (pd_var 13))) (pd_var 4))))
        (ps_cons' (ps_app' 6 (pd_tup (pa_cons' (pd_add (pd_var 1) (pd_var 8)) (pa_cons' (pd_add (pd_var 1) (pd_ix (pv_name 11) pd_int)) (pa_cons' (pd_var 10) pa_nil')))))
        (ps_cons' (ps_set' 12 sc_law_ring.nd (pd_add (pd_var 10) (pd_sum B.sum (PD.pv (PF.pd (pf_lc [("place", 14)] rfl sc_law_ring.nd (pi_list' (PF.pd (pf_slL (pv_name 11) po_none' (po_some' (pd_sub (pd_var 4) (pd_var 9)))))) (blkOk_by (N := n_law_ring) (sc := defScope s_law_ring) (by decide +kernel)) (fun _ _ _ _ _ => (pg_name' 14 sc_law_ring.nd)) own_name (fun _ _ _ _ _ => pt_nil') (fun _ _ _ _ _ => (pd_ix (pv_name 5) (pd_var 14)))))))))
        (ps_one' (ps_app' 7 (pd_tup (pa_cons' (pd_var 12) (pa_cons' (pd_add (pd_sub (pd_var 4) (pd_var 9)) pd_int) (pa_cons' (pd_tupOf B.tuple (PD.pv (PF.pd (pf_lc [("place", 14)] rfl sc_law_ring.nd (pi_list' (pd_var 11)) (blkOk_by (N := n_law_ring) (sc := defScope s_law_ring) (by decide +kernel)) (fun _ _ _ _ _ => (pg_name' 14 sc_law_ring.nd)) own_name (fun _ _ _ _ _ => pt_nil') (fun _ _ _ _ _ => (pd_add (pd_var 1) (pd_var 14))))))) pa_nil'))))))))))))
       ps_nil')
      (ps_one' (ps_ret' (pd_tup (pa_cons' (pd_var 4) (pa_cons' (pd_var 6) (pa_cons' (pd_var 7) pa_nil')))))))))))), ?_⟩
  rintro es P' Ex ρ0 hl ⟨⟨b, fi, sc, wd⟩, rfl, ⟨hfi, hs1, hs2, hw1, hw2⟩, hp⟩ rfl
  dsimp only [frRing] at hfi hs1 hs2 hw1 hw2 hp
  dsimp only [frRing]
  walk_at "wk0"
  walk_at "wk"
  refine call_dr rfl rfl rfl (by omega) (by omega) fun x1 b hx1 ρ e => ?_
  rw [List.set_cons_zero] at e
  subst e
  walk_at "wk"
  rw [show (1 : Int) + (x1 : Int) = ((x1 + 1 : Nat) : Int) by omega]
  obtain ⟨n, hn⟩ : ∃ n, n = x1 + 1 := ⟨_, rfl⟩
  rw [← hn]
  have hn0 : 0 < n := by omega
  have hn12 : n ≤ 12 := by omega
  walk_at "wk"
  rw [Int.toNat_natCast]
  refine e_lcI1 (fun i acc ρ => ∃ (b : Bag) (cs : List Int), acc = cs.map Dt.int ∧ cs.length = i ∧ ρ = [some (.own true (.lst (bagD b))), some (.dat (.int (fi : Int))), some (.dat (.int sc)), some (.dat (.int (wd : Int))), some (.dat (.int (n : Int))), none, none, none, none, none, none, none, none, none, none]) rfl (by walk_at "set") ⟨b, [], rfl, rfl, rfl⟩ (fun i x acc ρ2 hx hI => ?_) (fun acc ρ2 hI => ?_)
  · obtain ⟨b, cs, rfl, hcl, rfl⟩ := hI
    obtain ⟨hi, rfl⟩ := rng_get hx
    walk_at "wk"
    refine call_dr rfl rfl rfl (by omega) (by omega) fun x2 b hx2 ρ e => ?_
    rw [List.set_cons_zero] at e
    subst e
    walk_at "wk"
    refine ⟨by rw [List.length_map]; omega, b, cs ++ [(x2 : Int) - sc / 2], ?_, by rw [List.length_append, hcl]; rfl, rfl⟩
    rw [List.map_append]
    rfl
  obtain ⟨b, cs, rfl, hcl, rfl⟩ := hI
  rw [rngD_len] at hcl
  subst hcl
  walk_at "wk"
  rw [Int.toNat_natCast]
  have harc : ∀ k : Nat, k < cs.length → Dt.tup [.int ((fi : Int) + (k : Int)), .int ((fi : Int) + ((k : Int) + 1) % (cs.length : Int)), .int (cs.getD k 0)] = arcD ((Ring.mk fi cs).at_ k) := fun k hk => by
    have e : k % (Ring.mk fi cs).sz = k := Nat.mod_eq_of_lt hk
    have e2 : ((fi : Int) + ((k : Int) + 1) % (cs.length : Int)) = ((fi + (k + 1) % cs.length : Nat) : Int) := by
      have : ((k + 1) % cs.length : Nat) = (((k : Int) + 1) % (cs.length : Int)) := by rw [Int.natCast_emod]; rfl
      omega
    unfold Ring.at_
    rw [e, e2]
    show _ = Dt.tup [.int ((fi + k : Nat) : Int), .int ((fi + (k + 1) % cs.length : Nat) : Int), .int (cs.getD k 0)]
    rw [show ((fi + k : Nat) : Int) = (fi : Int) + (k : Int) by omega]
  refine e_lcM1 (List.range cs.length) (fun k => .int (k : Int)) (fun k => arcD ((Ring.mk fi cs).at_ k)) (rngD_eq _) (by rw [List.length_range]; omega) rfl (by walk_at "set") (fun k hk K1 k1 => ?_) ?_
  · rw [List.mem_range] at hk
    walk_at "wk"
    refine e_kix (d := .lst (cs.map Dt.int)) rfl rfl (atI_nat (j := k) (geti hk)) ?_
    walk_at "wk"
    rw [harc k hk]
    exact k1 _ rfl
  have eA0 : (List.range cs.length).map (fun k => arcD ((Ring.mk fi cs).at_ k)) = (Ring.mk fi cs).arcs.map arcD := by
    unfold Ring.arcs
    rw [List.map_map]
    rfl
  rw [eA0]
  walk_at "wk"
  rw [Int.toNat_natCast]
  refine e_lcM1 (List.range cs.length) (fun k => .int (k : Int)) (fun k => .int ((fi + k : Nat) : Int)) (rngD_eq _) (by rw [List.length_range]; omega) rfl (by walk_at "set") (fun k hk K1 k1 => ?_) ?_
  · walk_at "wk"
    rw [show (fi : Int) + (k : Int) = ((fi + k : Nat) : Int) by omega]
    exact k1 _ rfl
  walk_at "wk"
  have eR0 : Dt.tup [.int cs.sum, .int (cs.length : Int), .tup ((List.range cs.length).map fun k => .int ((fi + k : Nat) : Int))] = rndD (Ring.mk fi cs).rnd := by
    unfold rndD Ring.rnd nodesD intsD intsN
    rw [List.map_map, List.map_map]
    rfl
  rw [eR0]
  have hat0 : ((Ring.mk fi cs).arcs.map arcD)[0]? = some (arcD ((Ring.mk fi cs).at_ 0)) := by
    unfold Ring.arcs
    rw [List.map_map, List.getElem?_map, List.getElem?_range (show 0 < (Ring.mk fi cs).sz from hn0)]
    rfl
  walk_at "wk"
  refine call_dr rfl rfl rfl (by decide) (by decide) fun x2 b hx2 ρ e => ?_
  rw [List.set_cons_zero] at e
  subst e
  walk_at "wk"
  have hArl : (Ring.mk fi cs).arcs.length ≤ 12 := by
    unfold Ring.arcs
    rw [List.length_map, List.length_range]
    exact hn12
  refine e_ifd (fun h1 => ?_) (fun h1 => ?_)
  · walk_at "wk"
    refine e_kix (d := .lst ((Ring.mk fi cs).arcs.map arcD)) rfl rfl (atI_nat (j := 0) hat0) ?_
    walk_at "wk"
    refine e_kix (d := .lst ((Ring.mk fi cs).arcs.map arcD)) rfl rfl (atI_nat (j := 0) hat0) ?_
    walk_at "wk"
    refine e_kix (d := .lst (cs.map Dt.int)) rfl rfl (atI_nat (j := 0) (geti hn0)) ?_
    walk_at "wk"
    refine call_dr rfl rfl rfl (by decide) (by decide) fun x3 b hx3 ρ e => ?_
    rw [List.set_cons_zero] at e
    subst e
    walk_at "wk"
    have eA : (Ring.mk fi cs).arcs.map arcD ++ [.tup [.int (((Ring.mk fi cs).at_ 0).1 : Int), .int (((Ring.mk fi cs).at_ 0).2.1 : Int), .int (cs.getD 0 0 + 1 + (x3 : Int))]] = ((Ring.mk fi cs).arcs ++ [(Ring.mk fi cs).par (1 + (x3 : Int))]).map arcD := by
      rw [List.map_append, Int.add_assoc]
      rfl
    rw [eA]
    have hA : baseOk (Ring.mk fi cs) ((Ring.mk fi cs).arcs ++ [(Ring.mk fi cs).par (1 + (x3 : Int))]) := ⟨1 + (x3 : Int), by omega, .inr rfl⟩
    generalize (Ring.mk fi cs).arcs ++ [(Ring.mk fi cs).par (1 + (x3 : Int))] = A at hA ⊢
    have hA12 : A.length ≤ 13 := by have h := (base_in (r := Ring.mk fi cs) hn0 hA).2; have h2 : (Ring.mk fi cs).sz = cs.length := rfl; omega
    walk_at "wk"
    refine e_ifd (fun h2 => ?_) (fun h2 => ?_)
    · walk_at "wk"
      refine call_dr rfl rfl rfl (by decide) (by decide) fun x4 b hx4 ρ e => ?_
      rw [List.set_cons_zero] at e
      subst e
      walk_at "wk"
      refine e_ifd (fun h3 => ?_) (fun h3 => ?_)
      · walk_at "wk"
        refine call_dr rfl rfl rfl (by omega) (by omega) fun at_ b hat ρ e => ?_
        rw [List.set_cons_zero] at e
        subst e
        walk_at "wk"
        refine call_dr rfl rfl rfl (by omega) (by omega) fun x5 b hx5 ρ e => ?_
        rw [List.set_cons_zero] at e
        subst e
        walk_at "wk"
        obtain ⟨sk, hsk⟩ : ∃ sk, sk = 2 + x5 := ⟨_, rfl⟩
        rw [show (2 : Int) + (x5 : Int) = (sk : Int) by omega]
        have hsk2 : sk < cs.length := by omega
        have hat2 : at_ < cs.length := by omega
        walk_at "wk"
        refine call_dr rfl rfl rfl (by omega) (by omega) fun x6 b hx6 ρ e => ?_
        rw [List.set_cons_zero] at e
        subst e
        walk_at "wk"
        generalize (x6 : Int) - sc / 2 = ch
        rw [show ((cs.length : Int) - (sk : Int) + 1).toNat = cs.length - sk + 1 by omega]
        have hrow : ∀ j : Nat, ((at_ : Int) + (sk : Int) + (j : Int)) % (cs.length : Int) = (((at_ + sk + j) % cs.length : Nat) : Int) := fun j => by
          rw [Int.natCast_emod]
          rfl
        refine e_lcM1 (List.range (cs.length - sk + 1)) (fun k => .int (k : Int)) (fun k => .int (((at_ + sk + k) % cs.length : Nat) : Int)) (rngD_eq _) (by rw [List.length_range]; omega) rfl (by walk_at "set") (fun j hj K1 k1 => ?_) ?_
        · walk_at "wk"
          rw [hrow]
          exact k1 _ rfl
        walk_at "wk"
        refine e_kix (d := .lst ((List.range (cs.length - sk + 1)).map fun k => Dt.int (((at_ + sk + k) % cs.length : Nat) : Int))) rfl rfl (atI_nat (j := 0) (v := .int (((at_ + sk) % cs.length : Nat) : Int)) (by rw [List.getElem?_map, List.getElem?_range (by omega)]; rfl)) ?_
        walk_at "wk"
        have eA : A.map arcD ++ [.tup [.int ((fi : Int) + (at_ : Int)), .int ((fi : Int) + (((at_ + sk) % cs.length : Nat) : Int)), .int ch]] = (A ++ [(Ring.mk fi cs).chord at_ sk ch]).map arcD := by
          rw [List.map_append]
          refine congrArg (A.map arcD ++ ·) ?_
          show _ = [Dt.tup [.int ((fi + at_ : Nat) : Int), .int ((fi + (at_ + sk) % cs.length : Nat) : Int), .int ch]]
          rw [show ((fi + at_ : Nat) : Int) = (fi : Int) + (at_ : Int) by omega, show ((fi + (at_ + sk) % cs.length : Nat) : Int) = (fi : Int) + (((at_ + sk) % cs.length : Nat) : Int) by omega]
        rw [eA]
        walk_at "wk"
        have ecut : cut ((List.range (cs.length - sk + 1)).map fun k => Dt.int (((at_ + sk + k) % cs.length : Nat) : Int)) none (some ((cs.length : Int) - (sk : Int))) = (List.range (cs.length - sk)).map fun k => Dt.int (((at_ + sk + k) % cs.length : Nat) : Int) := by
          rw [show ((cs.length : Int) - (sk : Int)) = ((cs.length - sk : Nat) : Int) by omega, cut_to, ← List.map_take, List.take_range, Nat.min_eq_left (by omega)]
        rw [ecut]
        refine e_lcM1 (List.range (cs.length - sk)) (fun k => Dt.int (((at_ + sk + k) % cs.length : Nat) : Int)) (fun k => .int (cs.getD ((at_ + sk + k) % cs.length) 0)) rfl (by rw [List.length_range]; omega) rfl (by walk_at "set") (fun j hj K1 k1 => ?_) ?_
        · have hml : (at_ + sk + j) % cs.length < cs.length := Nat.mod_lt _ (by omega)
          walk_at "wk"
          refine e_kix (d := .lst (cs.map Dt.int)) rfl rfl (atI_nat (j := (at_ + sk + j) % cs.length) (geti hml)) ?_
          exact k1 _ rfl
        walk_at "wk"
        refine e_ksum (ns := (List.range (cs.length - sk)).map fun k => cs.getD ((at_ + sk + k) % cs.length) 0) (by rw [List.map_map]; rfl) ?_
        walk_at "wk"
        refine e_lcM1 (List.range (cs.length - sk + 1)) (fun k => Dt.int (((at_ + sk + k) % cs.length : Nat) : Int)) (fun k => .int ((fi + (at_ + sk + k) % cs.length : Nat) : Int)) rfl (by rw [List.length_range]; omega) rfl (by walk_at "set") (fun j hj K1 k1 => ?_) ?_
        · walk_at "wk"
          rw [show (fi : Int) + (((at_ + sk + j) % cs.length : Nat) : Int) = ((fi + (at_ + sk + j) % cs.length : Nat) : Int) by omega]
          exact k1 _ rfl
        walk_at "wk"
        refine e_fin rfl (hp _ _ ⟨cs.length, _, [(Ring.mk fi cs).rnd, (Ring.mk fi cs).rnd2 at_ sk ch], b, ?_, rfl, ring_chord (r := Ring.mk fi cs) hn0 hn12 hA hat2 (by omega) (Nat.le_of_lt hsk2)⟩)
        refine congrArg (fun z => Rs.dat (.tup [.int (cs.length : Int), .lst ((A ++ [(Ring.mk fi cs).chord at_ sk ch]).map arcD), .lst z])) ?_
        show [rndD (Ring.mk fi cs).rnd, _] = [rndD (Ring.mk fi cs).rnd, rndD ((Ring.mk fi cs).rnd2 at_ sk ch)]
        refine congrArg (fun z => [rndD (Ring.mk fi cs).rnd, z]) ?_
        unfold rndD Ring.rnd2
        dsimp only
        have e1 : ((Ring.mk fi cs).sz - sk + 1 : Nat) = cs.length - sk + 1 := rfl
        rw [e1, show ((cs.length - sk + 1 : Nat) : Int) = (cs.length : Int) - (sk : Int) + 1 by omega]
        refine congrArg (fun z => Dt.tup [_, _, z]) ?_
        unfold nodesD intsD intsN
        rw [List.map_map, List.map_map]
        rfl
      · walk_at "wk"
        exact e_fin rfl (hp _ _ ⟨cs.length, A, [(Ring.mk fi cs).rnd], b, rfl, rfl, ring_plain (r := Ring.mk fi cs) hn0 hn12 hA⟩)
    · walk_at "wk"
      exact e_fin rfl (hp _ _ ⟨cs.length, A, [(Ring.mk fi cs).rnd], b, rfl, rfl, ring_plain (r := Ring.mk fi cs) hn0 hn12 hA⟩)
  · have hA : baseOk (Ring.mk fi cs) (Ring.mk fi cs).arcs := ⟨0, Int.le_refl 0, .inl rfl⟩
    generalize (Ring.mk fi cs).arcs = A at hA ⊢
    have hA12 : A.length ≤ 13 := by have h := (base_in (r := Ring.mk fi cs) hn0 hA).2; have h2 : (Ring.mk fi cs).sz = cs.length := rfl; omega
    walk_at "wk"
    refine e_ifd (fun h2 => ?_) (fun h2 => ?_)
    · walk_at "wk"
      refine call_dr rfl rfl rfl (by decide) (by decide) fun x4 b hx4 ρ e => ?_
      rw [List.set_cons_zero] at e
      subst e
      walk_at "wk"
      refine e_ifd (fun h3 => ?_) (fun h3 => ?_)
      · walk_at "wk"
        refine call_dr rfl rfl rfl (by omega) (by omega) fun at_ b hat ρ e => ?_
        rw [List.set_cons_zero] at e
        subst e
        walk_at "wk"
        refine call_dr rfl rfl rfl (by omega) (by omega) fun x5 b hx5 ρ e => ?_
        rw [List.set_cons_zero] at e
        subst e
        walk_at "wk"
        obtain ⟨sk, hsk⟩ : ∃ sk, sk = 2 + x5 := ⟨_, rfl⟩
        rw [show (2 : Int) + (x5 : Int) = (sk : Int) by omega]
        have hsk2 : sk < cs.length := by omega
        have hat2 : at_ < cs.length := by omega
        walk_at "wk"
        refine call_dr rfl rfl rfl (by omega) (by omega) fun x6 b hx6 ρ e => ?_
        rw [List.set_cons_zero] at e
        subst e
        walk_at "wk"
        generalize (x6 : Int) - sc / 2 = ch
        rw [show ((cs.length : Int) - (sk : Int) + 1).toNat = cs.length - sk + 1 by omega]
        have hrow : ∀ j : Nat, ((at_ : Int) + (sk : Int) + (j : Int)) % (cs.length : Int) = (((at_ + sk + j) % cs.length : Nat) : Int) := fun j => by
          rw [Int.natCast_emod]
          rfl
        refine e_lcM1 (List.range (cs.length - sk + 1)) (fun k => .int (k : Int)) (fun k => .int (((at_ + sk + k) % cs.length : Nat) : Int)) (rngD_eq _) (by rw [List.length_range]; omega) rfl (by walk_at "set") (fun j hj K1 k1 => ?_) ?_
        · walk_at "wk"
          rw [hrow]
          exact k1 _ rfl
        walk_at "wk"
        refine e_kix (d := .lst ((List.range (cs.length - sk + 1)).map fun k => Dt.int (((at_ + sk + k) % cs.length : Nat) : Int))) rfl rfl (atI_nat (j := 0) (v := .int (((at_ + sk) % cs.length : Nat) : Int)) (by rw [List.getElem?_map, List.getElem?_range (by omega)]; rfl)) ?_
        walk_at "wk"
        have eA : A.map arcD ++ [.tup [.int ((fi : Int) + (at_ : Int)), .int ((fi : Int) + (((at_ + sk) % cs.length : Nat) : Int)), .int ch]] = (A ++ [(Ring.mk fi cs).chord at_ sk ch]).map arcD := by
          rw [List.map_append]
          refine congrArg (A.map arcD ++ ·) ?_
          show _ = [Dt.tup [.int ((fi + at_ : Nat) : Int), .int ((fi + (at_ + sk) % cs.length : Nat) : Int), .int ch]]
          rw [show ((fi + at_ : Nat) : Int) = (fi : Int) + (at_ : Int) by omega, show ((fi + (at_ + sk) % cs.length : Nat) : Int) = (fi : Int) + (((at_ + sk) % cs.length : Nat) : Int) by omega]
        rw [eA]
        walk_at "wk"
        have ecut : cut ((List.range (cs.length - sk + 1)).map fun k => Dt.int (((at_ + sk + k) % cs.length : Nat) : Int)) none (some ((cs.length : Int) - (sk : Int))) = (List.range (cs.length - sk)).map fun k => Dt.int (((at_ + sk + k) % cs.length : Nat) : Int) := by
          rw [show ((cs.length : Int) - (sk : Int)) = ((cs.length - sk : Nat) : Int) by omega, cut_to, ← List.map_take, List.take_range, Nat.min_eq_left (by omega)]
        rw [ecut]
        refine e_lcM1 (List.range (cs.length - sk)) (fun k => Dt.int (((at_ + sk + k) % cs.length : Nat) : Int)) (fun k => .int (cs.getD ((at_ + sk + k) % cs.length) 0)) rfl (by rw [List.length_range]; omega) rfl (by walk_at "set") (fun j hj K1 k1 => ?_) ?_
        · have hml : (at_ + sk + j) % cs.length < cs.length := Nat.mod_lt _ (by omega)
          walk_at "wk"
          refine e_kix (d := .lst (cs.map Dt.int)) rfl rfl (atI_nat (j := (at_ + sk + j) % cs.length) (geti hml)) ?_
          exact k1 _ rfl
        walk_at "wk"
        refine e_ksum (ns := (List.range (cs.length - sk)).map fun k => cs.getD ((at_ + sk + k) % cs.length) 0) (by rw [List.map_map]; rfl) ?_
        walk_at "wk"
        refine e_lcM1 (List.range (cs.length - sk + 1)) (fun k => Dt.int (((at_ + sk + k) % cs.length : Nat) : Int)) (fun k => .int ((fi + (at_ + sk + k) % cs.length : Nat) : Int)) rfl (by rw [List.length_range]; omega) rfl (by walk_at "set") (fun j hj K1 k1 => ?_) ?_
        · walk_at "wk"
          rw [show (fi : Int) + (((at_ + sk + j) % cs.length : Nat) : Int) = ((fi + (at_ + sk + j) % cs.length : Nat) : Int) by omega]
          exact k1 _ rfl
        walk_at "wk"
        refine e_fin rfl (hp _ _ ⟨cs.length, _, [(Ring.mk fi cs).rnd, (Ring.mk fi cs).rnd2 at_ sk ch], b, ?_, rfl, ring_chord (r := Ring.mk fi cs) hn0 hn12 hA hat2 (by omega) (Nat.le_of_lt hsk2)⟩)
        refine congrArg (fun z => Rs.dat (.tup [.int (cs.length : Int), .lst ((A ++ [(Ring.mk fi cs).chord at_ sk ch]).map arcD), .lst z])) ?_
        show [rndD (Ring.mk fi cs).rnd, _] = [rndD (Ring.mk fi cs).rnd, rndD ((Ring.mk fi cs).rnd2 at_ sk ch)]
        refine congrArg (fun z => [rndD (Ring.mk fi cs).rnd, z]) ?_
        unfold rndD Ring.rnd2
        dsimp only
        have e1 : ((Ring.mk fi cs).sz - sk + 1 : Nat) = cs.length - sk + 1 := rfl
        rw [e1, show ((cs.length - sk + 1 : Nat) : Int) = (cs.length : Int) - (sk : Int) + 1 by omega]
        refine congrArg (fun z => Dt.tup [_, _, z]) ?_
        unfold nodesD intsD intsN
        rw [List.map_map, List.map_map]
        rfl
      · walk_at "wk"
        exact e_fin rfl (hp _ _ ⟨cs.length, A, [(Ring.mk fi cs).rnd], b, rfl, rfl, ring_plain (r := Ring.mk fi cs) hn0 hn12 hA⟩)
    · walk_at "wk"
      exact e_fin rfl (hp _ _ ⟨cs.length, A, [(Ring.mk fi cs).rnd], b, rfl, rfl, ring_plain (r := Ring.mk fi cs) hn0 hn12 hA⟩)
end
end K85
namespace K85
open PySem PySem.Spec PyProof.Rows L2 Wk
local macro_rules | `(tactic| walk_at "wk") => `(tactic| repeat (first
  | apply_rules -symm -exfalso (transparency := .reducible) (maxDepth := 100000) only [@e_seq, @e_c, @e_ix, @e_set, @e_op, @e_I2, @e_fI0, @e_ifS, @e_tst, @e_ktst, @e_ift, @e_iff, @e_ifnt, @e_ifnf, @e_ret, @e_retF, @e_acons, @e_anil, @e_alend, @e_tup, @e_int, @e_kint, @e_vd, @e_setIx, @e_toL, @e_toT, @e_callD, @e_toD, @e_toDo, @e_callF, @e_kown, @e_frz, @e_len, @e_setF, @e_lst, @e_and, @e_or, @e_not, @e_andV, @e_orV, @e_notV, @e_kandV, @e_korV, @e_knotV, @e_ifE, @e_is, @e_isnot, @e_neg, @e_kneg, @e_par, @e_asg, @e_gnil, @e_gcons, @e_slT, @e_slL, @e_nopart, @e_part, @e_kpart, @e_sum, @e_min, @e_max, @e_abs, @e_kabs, @e_MM, @e_kMM, @e_tupOf, @e_lstOf, @e_isi, @e_inI, @e_dget, @e_din, @e_dnew, @e_catT, @e_catL, @e_index, @e_eq, @e_chain, @e_kchain, @e_kchain2, @e_drop, @e_next, @e_brk, @e_cnt, @e_retnon, @e_setK, @e_iL, @e_kL, @e_iT, @e_kT, @e_iR1, @e_iR2, @e_for, @e_yes, @e_lc, @e_raise, @e_try, @e_isX, @e_xf]
  | ((with_reducible refine' e_var ?k1 ?_); (case k1 => exact rfl))
  | ((with_reducible refine' e_kset ?k1 ?k2 ?_); (case k1 => exact rfl); (case k2 => (with_reducible (first | exact st0 | exact st1 | exact st2 | exact st3 | exact st4 | exact st5 | exact st6 | exact st7 | exact st8 | exact st9 | exact st10 | exact st11 | exact st12 | exact st13 | exact st14 | exact st15 | exact st16 | exact st17 | exact st18 | exact st19 | exact st20))))
  | ((with_reducible refine' e_ktup ?k1 ?k2 ?_); (case k1 => exact rfl); (case k2 => exact rfl))
  | ((with_reducible refine' e_kix ?k1 ?k2 ?k3 ?_); (case k1 => exact rfl); (case k2 => exact rfl); (case k3 => exact rfl))
  | ((with_reducible refine' e_vn ?k1 ?_); (case k1 => exact rfl))
  | ((with_reducible refine' e_varL ?k1 ?k2 ?_); (case k1 => exact rfl); (case k2 => (with_reducible (first | exact st0 | exact st1 | exact st2 | exact st3 | exact st4 | exact st5 | exact st6 | exact st7 | exact st8 | exact st9 | exact st10 | exact st11 | exact st12 | exact st13 | exact st14 | exact st15 | exact st16 | exact st17 | exact st18 | exact st19 | exact st20))))
  | ((with_reducible refine' e_app ?k1 ?_); (case k1 => exact rfl))
  | ((with_reducible refine' e_kapp ?k1 ?k2 ?k3 ?_); (case k1 => exact rfl); (case k2 => (simp only [List.length_append, List.length_map, List.length_cons, List.length_nil]; omega)); (case k3 => (with_reducible (first | exact st0 | exact st1 | exact st2 | exact st3 | exact st4 | exact st5 | exact st6 | exact st7 | exact st8 | exact st9 | exact st10 | exact st11 | exact st12 | exact st13 | exact st14 | exact st15 | exact st16 | exact st17 | exact st18 | exact st19 | exact st20))))
  | ((with_reducible refine' e_ksetF ?k1 ?k2 ?_); (case k1 => exact rfl); (case k2 => (with_reducible (first | exact st0 | exact st1 | exact st2 | exact st3 | exact st4 | exact st5 | exact st6 | exact st7 | exact st8 | exact st9 | exact st10 | exact st11 | exact st12 | exact st13 | exact st14 | exact st15 | exact st16 | exact st17 | exact st18 | exact st19 | exact st20))))
  | ((with_reducible refine' e_klen ?k1 ?k2 ?_); (case k1 => exact rfl); (case k2 => exact rfl))
  | ((with_reducible refine' e_klst ?k1 ?k2 ?_); (case k1 => exact rfl); (case k2 => exact rfl))
  | ((with_reducible refine' e_gtup ?k1 ?_); (case k1 => exact rfl))
  | ((with_reducible refine' e_gN ?k1 ?k2 ?_); (case k1 => exact rfl); (case k2 => (with_reducible (first | exact st0 | exact st1 | exact st2 | exact st3 | exact st4 | exact st5 | exact st6 | exact st7 | exact st8 | exact st9 | exact st10 | exact st11 | exact st12 | exact st13 | exact st14 | exact st15 | exact st16 | exact st17 | exact st18 | exact st19 | exact st20))))
  | ((with_reducible refine' e_varT ?k1 ?k2 ?_); (case k1 => exact rfl); (case k2 => (with_reducible (first | exact st0 | exact st1 | exact st2 | exact st3 | exact st4 | exact st5 | exact st6 | exact st7 | exact st8 | exact st9 | exact st10 | exact st11 | exact st12 | exact st13 | exact st14 | exact st15 | exact st16 | exact st17 | exact st18 | exact st19 | exact st20))))
  | ((with_reducible refine' e_mulR ?k1 ?k2 ?_); (case k1 => omega); (case k2 => omega))
  | ((with_reducible refine' e_mulL ?k1 ?k2 ?_); (case k1 => omega); (case k2 => omega))
  | ((with_reducible refine' e_div ?k1 ?k2 ?_); (case k1 => omega); (case k2 => omega))
  | ((with_reducible refine' e_mod ?k1 ?_); (case k1 => omega))
  | ((with_reducible refine' e_retN ?k1 ?_); (case k1 => exact rfl))
  | ((with_reducible refine' e_retNO ?k1 ?k2 ?_); (case k1 => exact rfl); (case k2 => (with_reducible (first | exact st0 | exact st1 | exact st2 | exact st3 | exact st4 | exact st5 | exact st6 | exact st7 | exact st8 | exact st9 | exact st10 | exact st11 | exact st12 | exact st13 | exact st14 | exact st15 | exact st16 | exact st17 | exact st18 | exact st19 | exact st20))))
  | ((with_reducible refine' e_setIx1 ?k1 ?_); (case k1 => exact rfl))
  | ((with_reducible refine' e_ksetIx ?k1 ?k2 ?k3 ?_); (case k1 => exact rfl); (case k2 => exact rfl); (case k3 => (with_reducible (first | exact st0 | exact st1 | exact st2 | exact st3 | exact st4 | exact st5 | exact st6 | exact st7 | exact st8 | exact st9 | exact st10 | exact st11 | exact st12 | exact st13 | exact st14 | exact st15 | exact st16 | exact st17 | exact st18 | exact st19 | exact st20))))
  | ((with_reducible refine' e_kpar ?k1 ?k2 ?k3 ?_); (case k1 => exact rfl); (case k2 => exact rfl); (case k3 => (repeat (first | exact set_0 | apply set_s))))
  | ((with_reducible refine' e_aug ?k1 ?_); (case k1 => exact rfl))
  | ((with_reducible refine' e_kaug ?k1 ?k2 ?_); (case k1 => exact rfl); (case k2 => (with_reducible (first | exact st0 | exact st1 | exact st2 | exact st3 | exact st4 | exact st5 | exact st6 | exact st7 | exact st8 | exact st9 | exact st10 | exact st11 | exact st12 | exact st13 | exact st14 | exact st15 | exact st16 | exact st17 | exact st18 | exact st19 | exact st20))))
  | ((with_reducible refine' e_kslT ?k1 ?_); (case k1 => exact rfl))
  | ((with_reducible refine' e_kslL ?k1 ?_); (case k1 => exact rfl))
  | ((with_reducible refine' e_ksum ?k1 ?_); (case k1 => exact rfl))
  | ((with_reducible refine' e_ktupOf ?k1 ?k2 ?_); (case k1 => exact rfl); (case k2 => exact rfl))
  | ((with_reducible refine' e_klstOf ?k1 ?k2 ?_); (case k1 => exact rfl); (case k2 => exact rfl))
  | ((with_reducible refine' e_kisi ?k1 ?k2 ?k3 ?_); (case k1 => exact rfl); (case k2 => exact rfl); (case k3 => (first | exact ks_ii | exact ks_ib | exact ks_bi | exact ks_bb | exact ks_ni | exact ks_nb | exact ks_tt | exact ks_lt | exact ks_it | exact ks_nt | exact ks_ti | exact ks_si)))
  | ((with_reducible refine' e_kR1 ?k1 ?k2 ?_); (case k1 => omega); (case k2 => omega))
  | ((with_reducible refine' e_kR2 ?k1 ?_); (case k1 => omega))
  ))
local macro_rules | `(tactic| walk_at "wk0") => `(tactic| (unfold endsF; (with_reducible refine' st_rho ?k1 ?_); (case k1 => repeat (first | exact rh_0 | (with_reducible apply rh_m) | (with_reducible apply rh_n) | apply rh_s))))
local macro_rules | `(tactic| walk_at "set") => `(tactic| with_reducible (first | exact st0 | exact st1 | exact st2 | exact st3 | exact st4 | exact st5 | exact st6 | exact st7 | exact st8 | exact st9 | exact st10 | exact st11 | exact st12 | exact st13 | exact st14 | exact st15 | exact st16 | exact st17 | exact st18 | exact st19 | exact st20))
abbrev s_law_rings : Stmt := topS 29
abbrev n_law_rings : List Str := ["bag", "scale", "wide", "arcs", "rounds", "total", "turn", "shift", "name", "ends", "size", "ring_arcs", "ring_rounds", "at", "arc", "one", "node"]
theorem sc_law_rings : FnScope ["bag", "scale", "wide", "arcs", "rounds", "total", "turn", "shift", "name", "ends", "size", "ring_arcs", "ring_rounds", "at", "arc", "one", "node"] ["bag"] (defScope s_law_rings) := ⟨rfl, rfl, rfl, by decide +kernel, rfl, by decide +kernel, by decide +kernel⟩
theorem bi_law_rings : BindOk "_law_rings" s_law_rings ["bag"] := fun _ _ _ _ _ _ us hl => match us, hl with | [_], _ => rfl
theorem lk_fc (c : Str × NameKind → Bool) : ∀ (l : List (Str × NameKind)) (x : Str), (l.lookup x = some .cell ∨ l.lookup x = some .free) → (l.map fun p => if c p = true then (p.1, NameKind.cell) else p).lookup x = some .cell ∨ (l.map fun p => if c p = true then (p.1, NameKind.cell) else p).lookup x = some .free
  | [], _, h => by simp at h
  | (n, k) :: r, x, h => by
    rw [List.map_cons]
    cases hx : x == n with
    | true =>
      simp only [List.lookup_cons, hx] at h
      by_cases hc : c (n, k) = true
      · rw [if_pos hc]
        left
        simp only [List.lookup_cons, hx]
      · rw [if_neg hc]
        simp only [List.lookup_cons, hx]
        exact h
    | false =>
      simp only [List.lookup_cons, hx] at h
      have ih := lk_fc c r x h
      by_cases hc : c (n, k) = true
      · rw [if_pos hc]
        simp only [List.lookup_cons, hx]
        exact ih
      · rw [if_neg hc]
        simp only [List.lookup_cons, hx]
        exact ih
theorem blkOk_in {N : List Str} {sc scope : Scope} {env : Env} {own : List (Str × Nat)} (h : blkC N sc scope own = true) : BlkOk N (relabel sc env) scope own := by
  obtain ⟨a, b, c, d, e⟩ := blkOk_by h
  exact ⟨a, b, c, fun y hy hf => lk_fc (fun p => (p.2 == .free && env.scope.kind == .function && env.kindOf p.1 == some .cell)) _ _ (d y hy hf), e⟩
theorem round_lt {G : List Arc} {n : Nat} (hG : okA n G) {r : Rnd} (h : RoundOk G r) : ∀ x ∈ r.2.2, x < n := by
  obtain ⟨x, l, hw, _, _, _, e⟩ := h
  intro y hy
  rw [← e] at hy
  obtain ⟨a, ha, rfl⟩ := List.mem_map.mp hy
  exact (hG a (isW_mem hw a ha)).1
theorem e_ifI {ρ : Rho} {P : Dt → Rho → Prop} {c : Bool} {a b : Int} (q : ∀ z : Int, z = a ∨ z = b → P (.int z) ρ) : if c = true then pC (.int a) ρ P else pC (.int b) ρ P := by
  cases c with
  | true => exact q a (.inl rfl)
  | false => exact q b (.inr rfl)
def frRings : FR := ⟨Bag, fun b => [.own true (.lst (bagD b))], fun _ => True, fun _ r os => ∃ (n : Nat) (G : List Arc) (R : List Rnd) (b : Bag), r = .dat (graphD n G R) ∧ os = [.lst (bagD b)] ∧ GraphOk n G R⟩
section
variable {P : Program} {w : World} {K : PySem.W.Frag} {mg : Str → Option Value} {base : Heap}
theorem call_ring {ρ : Rho} {ws : List Vw} {PR : Rs → Rho → Prop} {ex : Addr → List (Str × Dt) → Prop} {i : Nat} {io : Bool} {o0 : Ow} {b : Bag} {fi wd : Nat} {sc : Int} (h1 : resv ρ ws = some [.own true (.lst (bagD b)), .dat (.int (fi : Int)), .dat (.int sc), .dat (.int (wd : Int))]) (h3 : slotsOf ws = [i]) (h4 : ρ[i]? = some (some (.own io o0)))
    (p1 : fi ≤ 1000) (p2 : 1 ≤ sc) (p3 : sc ≤ 400000001) (p4 : 1 ≤ wd) (p5 : wd ≤ 12) (q : ∀ size A R (b' : Bag), RingOk fi size A R → ∀ ρ', ρ.set i (some (.own io (.lst (bagD b')))) = ρ' → PR (.dat (.tup [.int (size : Int), .lst (A.map arcD), .lst (R.map rndD)])) ρ') : kCall 4 frRing.sp ex ws ρ PR := by
  refine e_callR1 frRing (b, fi, sc, wd) h1 rfl h3 h4 ⟨p1, p2, p3, p4, p5⟩ fun r os h => ?_
  obtain ⟨size, A, R, b', rfl, rfl, hR⟩ := h
  exact ⟨_, rfl, fun ρ' e => q size A R b' hR ρ' e⟩
theorem ok_rings (D : Df K mg "_law_rings" s_law_rings) (B : Bi mg) (c_law_draw : Cal P w K mg base 1 "_law_draw" 2 frDraw.sp) (c_law_pick : Cal P w K mg base 2 "_law_pick" 2 frPick.sp) (c_law_ring : Cal P w K mg base 2 "_law_ring" 4 frRing.sp) : Cal P w K mg base 3 "_law_rings" 1 frRings.sp := by
  refine cal_of D sc_law_rings bi_law_rings fun f cdv A outer s H E hr => ⟨_, _, (ps_cons' (ps_set' 1 sc_law_rings.nd (pd_cal c_law_pick (hr.mono (by decide)) (pa_lend (pv_name 0) (pa_cons' (PF.pd (pf_lst (pa_cons' pd_int (pa_cons' pd_int (pa_cons' pd_int (pa_cons' pd_int (pa_cons' pd_int pa_nil'))))))) pa_nil'))))
      (ps_cons' (ps_set' 2 sc_law_rings.nd (pd_ifE (PCm.pdt (c_eqI (pd_cal c_law_draw (hr.mono (by decide)) (pa_lend (pv_name 0) (pa_cons' pd_int pa_nil'))) pd_int)) pd_int pd_int))
      (ps_cons' (ps_setF' 3 sc_law_rings.nd (pf_lst pa_nil'))
      (ps_cons' (ps_set' 4 sc_law_rings.nd (PF.pd (pf_lst pa_nil')))
      (ps_cons' (ps_set' 5 sc_law_rings.nd pd_int)
      (ps_cons' (ps_for' PassesOwn.never rfl (pi_range1' B.range (pd_add pd_int (pd_cal c_law_draw (hr.mono (by decide)) (pa_lend (pv_name 0) (pa_cons' pd_int pa_nil'))))) (pg_name' 6 sc_law_rings.nd)
       (ps_cons' (ps_asg' (pd_cal c_law_ring (hr.mono (by decide)) (pa_lend (pv_name 0) (pa_cons' (pd_var 5) (pa_cons' (pd_var 1) (pa_cons' (pd_var 2) pa_nil'))))) (pg_tup' 3 rfl (pgs_cons' (pg_name' 10 sc_law_rings.nd) (pgs_cons' (pg_name' 11 sc_law_rings.nd) (pgs_cons' (pg_name' 12 sc_law_rings.nd) pgs_nil')))))
        (ps_cons' (ps_if' (PDW.pdt (pdw_and (PCm.pdt (c_gt (pd_var 5) pd_int)) (pdw_and1 (PCm.pdt (c_gt (pd_cal c_law_draw (hr.mono (by decide)) (pa_lend (pv_name 0) (pa_cons' pd_int pa_nil'))) pd_int)))))
         (ps_one' (ps_app' 3 (pd_tup (pa_cons' (pd_cal c_law_draw (hr.mono (by decide)) (pa_lend (pv_name 0) (pa_cons' (pd_var 5) pa_nil'))) (pa_cons' (pd_add (pd_var 5) (pd_cal c_law_draw (hr.mono (by decide)) (pa_lend (pv_name 0) (pa_cons' (pd_var 10) pa_nil')))) (pa_cons' (pd_sub (pd_cal c_law_draw (hr.mono (by decide)) (pa_lend (pv_name 0) (pa_cons' (pd_var 1) pa_nil'))) (pd_fdiv (pd_var 1) pd_int)) pa_nil'))))))
         ps_nil')
        (ps_cons' (ps_setF' 3 sc_law_rings.nd (pf_catL (pv_name 3) (pv_name 11)))
        (ps_cons' (ps_set' 4 sc_law_rings.nd (PF.pd (pf_catL (pv_name 4) (pv_name 12))))
        (ps_one' (ps_set' 5 sc_law_rings.nd (pd_add (pd_var 5) (pd_var 10)))))))))
      (ps_cons' (ps_for' PassesOwn.never rfl (pi_range1' B.range (pd_cal c_law_draw (hr.mono (by decide)) (pa_lend (pv_name 0) (pa_cons' pd_int pa_nil')))) (pg_name' 6 sc_law_rings.nd)
       (ps_cons' (ps_set' 9 sc_law_rings.nd (pd_ifE (PCm.pdt (c_eqI (pd_cal c_law_draw (hr.mono (by decide)) (pa_lend (pv_name 0) (pa_cons' pd_int pa_nil'))) pd_int)) (pd_tup (pa_cons' (pd_cal c_law_draw (hr.mono (by decide)) (pa_lend (pv_name 0) (pa_cons' (pd_var 5) pa_nil'))) (pa_cons' (pd_var 5) pa_nil'))) (pd_tup (pa_cons' (pd_var 5) (pa_cons' (pd_cal c_law_draw (hr.mono (by decide)) (pa_lend (pv_name 0) (pa_cons' (pd_var 5) pa_nil'))) pa_nil')))))
        (ps_cons' (ps_app' 3 (pd_tup (pa_cons' (pd_ix (pv_name 9) pd_int) (pa_cons' (pd_ix (pv_name 9) pd_int) (pa_cons' (pd_sub (pd_cal c_law_draw (hr.mono (by decide)) (pa_lend (pv_name 0) (pa_cons' (pd_var 1) pa_nil'))) (pd_fdiv (pd_var 1) pd_int)) pa_nil')))))
        (ps_one' (ps_set' 5 sc_law_rings.nd (pd_add (pd_var 5) pd_int))))))
      (ps_cons' (ps_set' 7 sc_law_rings.nd (pd_cal c_law_draw (hr.mono (by decide)) (pa_lend (pv_name 0) (pa_cons' (pd_var 5) pa_nil'))))
      (ps_cons' (ps_set' 8 sc_law_rings.nd (PF.pd (pf_lc [("at", 13)] rfl sc_law_rings.nd (pi_range1' B.range (pd_var 5)) (blkOk_by (N := n_law_rings) (sc := defScope s_law_rings) (by decide +kernel)) (fun _ _ _ _ _ => (pg_name' 13 sc_law_rings.nd)) own_name (fun _ _ _ _ _ => pt_nil') (fun _ _ _ _ _ => (pd_mod (pd_toint B.int (pd_add (pd_var 13) (pd_var 7))) (pd_var 5))))))
      (ps_cons' (ps_if' (PCm.pdt (c_eqI (pd_cal c_law_draw (hr.mono (by decide)) (pa_lend (pv_name 0) (pa_cons' pd_int pa_nil'))) pd_int))
       (ps_one' (ps_set' 8 sc_law_rings.nd (PF.pd (pf_lc [("one", 15)] rfl sc_law_rings.nd (pi_list' (pd_var 8)) (blkOk_by (N := n_law_rings) (sc := defScope s_law_rings) (by decide +kernel)) (fun _ _ _ _ _ => (pg_name' 15 sc_law_rings.nd)) own_name (fun _ _ _ _ _ => pt_nil') (fun _ _ _ _ _ => (pd_sub (pd_sub (pd_var 5) pd_int) (pd_var 15)))))))
       ps_nil')
      (ps_cons' (ps_setLc' 3 [("arc", 14)] rfl sc_law_rings.nd (pi_list' (pd_var 3)) (blkOk_by (N := n_law_rings) (sc := defScope s_law_rings) (by decide +kernel)) (fun _ _ _ _ _ => (pg_name' 14 sc_law_rings.nd)) own_name (fun _ _ _ _ _ => pt_nil') (fun _ _ _ _ _ => (pd_tup (pa_cons' (pd_ix (pv_name 8) (pd_ix (pv_name 14) pd_int)) (pa_cons' (pd_ix (pv_name 8) (pd_ix (pv_name 14) pd_int)) (pa_cons' (pd_ix (pv_name 14) pd_int) pa_nil'))))))
      (ps_cons' (ps_setLcD' 4 [("one", 15)] rfl sc_law_rings.nd (pi_list' (pd_var 4)) (blkOk_by (N := n_law_rings) (sc := defScope s_law_rings) (by decide +kernel)) (fun _ _ _ _ _ => (pg_name' 15 sc_law_rings.nd)) own_name (fun _ _ _ _ _ => pt_nil') (fun _ _ _ _ _ => (pd_tup (pa_cons' (pd_ix (pv_name 15) pd_int) (pa_cons' (pd_ix (pv_name 15) pd_int) (pa_cons' (pd_tupOf B.tuple (PD.pv (PF.pd (pf_lc [("node", 16)] rfl sc_law_rings.nd (pi_tup' (pd_ix (pv_name 15) pd_int)) (blkOk_in (N := n_law_rings) (sc := { kind := .function, names := [(".0", .local), ("one", .local), ("tuple", .globalImplicit), ("name", .free)], isGenerator := false, isCoroutine := false }) (by decide +kernel)) (fun _ _ _ _ _ => (pg_name' 16 sc_law_rings.nd)) own_name (fun _ _ _ _ _ => pt_nil') (fun _ _ _ _ _ => (pd_ix (pv_name 8) (pd_var 16))))))) pa_nil'))))))
      (ps_one' (ps_ret' (pd_tup (pa_cons' (pd_var 5) (pa_cons' (pd_tupOf B.tuple (pv_name 3)) (pa_cons' (pd_var 4) pa_nil')))))))))))))))))), ?_⟩
  rintro es P' Ex ρ0 hl ⟨(b : Bag), rfl, _, hp⟩ rfl
  dsimp only [frRings] at hp
  dsimp only [frRings]
  walk_at "wk0"
  walk_at "wk"
  refine call_pk rfl rfl rfl rfl (by simp) (by simp) fun y b hy ρ e => ?_
  rw [List.set_cons_zero] at e
  subst e
  obtain ⟨sc, rfl, hs1, hs2⟩ : ∃ sc : Int, y = .int sc ∧ 2 ≤ sc ∧ sc ≤ 400000001 := by
    simp only [List.mem_cons, List.not_mem_nil, or_false] at hy
    rcases hy with rfl | rfl | rfl | rfl | rfl <;> exact ⟨_, rfl, by decide, by decide⟩
  walk_at "wk"
  refine call_dr rfl rfl rfl (by decide) (by decide) fun x2 b hx2 ρ e => ?_
  rw [List.set_cons_zero] at e
  subst e
  walk_at "wk"
  refine e_ifI fun wd0 hwd0 => ?_
  obtain ⟨wd, rfl, hw1, hw2⟩ : ∃ wd : Nat, wd0 = (wd : Int) ∧ 1 ≤ wd ∧ wd ≤ 12 := ⟨wd0.toNat, by omega, by omega, by omega⟩
  walk_at "wk"
  refine call_dr rfl rfl rfl (by decide) (by decide) fun x3 b hx3 ρ e => ?_
  rw [List.set_cons_zero] at e
  subst e
  walk_at "wk"
  rw [show ((1 : Int) + (x3 : Int)).toNat = x3 + 1 by omega]
  refine e_forI [6, 10, 11, 12] (fun i ρ => ∃ (b : Bag) (t : Nat) (A : List Arc) (R : List Rnd), ρ = [some (.own true (.lst (bagD b))), some (.dat (.int sc)), some (.dat (.int (wd : Int))), some (.own false (.lst (A.map arcD))), some (.dat (.lst (R.map rndD))), some (.dat (.int (t : Int))), none, none, none, none, none, none, none, none, none, none, none] ∧ PreOk t A R i ∧ (0 < i → 1 ≤ t)) ⟨b, 0, [], [], rfl, pre_nil, fun h => absurd h (Nat.lt_irrefl 0)⟩ (fun i x ρ2 hi hI => ?_) (fun ρ2 hI => ?_)
  · obtain ⟨b, t, A, R, rfl, hA, ht⟩ := hI
    obtain ⟨hi4, rfl⟩ := rng_get hi
    have ht2 := hA.t2
    have hal := hA.al
    have hrl := hA.rl
    walk_at "wk"
    refine call_ring rfl rfl rfl (by omega) (by omega) hs2 hw1 hw2 fun size A2 R2 b h2 ρ e => ?_
    rw [List.set_cons_zero] at e
    subst e
    have hz1 := h2.s1
    have hz2 := h2.s2
    have hal2 := h2.al
    have hrl2 := h2.rl
    walk_at "wk"
    refine e_ifd (fun h => ?_) (fun h => ?_)
    · walk_at "wk"
      refine call_dr rfl rfl rfl (by decide) (by decide) fun x4 b hx4 ρ e => ?_
      rw [List.set_cons_zero] at e
      subst e
      walk_at "wk"
      refine e_ifd (fun h5 => ?_) (fun h5 => ?_)
      · walk_at "wk"
        refine call_dr rfl rfl rfl (by omega) (by omega) fun u b hu ρ e => ?_
        rw [List.set_cons_zero] at e
        subst e
        walk_at "wk"
        refine call_dr rfl rfl rfl (by omega) (by omega) fun v b hv ρ e => ?_
        rw [List.set_cons_zero] at e
        subst e
        walk_at "wk"
        refine call_dr rfl rfl rfl (by omega) (by omega) fun c b hc ρ e => ?_
        rw [List.set_cons_zero] at e
        subst e
        walk_at "wk"
        have eA : A.map arcD ++ [.tup [.int (u : Int), .int ((t : Int) + (v : Int)), .int ((c : Int) - sc / 2)]] = (A ++ [(u, t + v, (c : Int) - sc / 2)]).map arcD := by
          rw [List.map_append, show (t : Int) + (v : Int) = ((t + v : Nat) : Int) by omega]
          rfl
        rw [eA]
        walk_at "wk"
        refine e_kcatL (xs := (A ++ [(u, t + v, (c : Int) - sc / 2)]).map arcD) (ys := A2.map arcD) rfl rfl (by rw [List.length_map, List.length_map, List.length_append, List.length_singleton]; omega) ?_
        rw [← List.map_append]
        walk_at "wk"
        refine e_kcatL (xs := R.map rndD) (ys := R2.map rndD) rfl rfl (by rw [List.length_map, List.length_map]; omega) ?_
        rw [← List.map_append]
        walk_at "wk"
        rw [show (t : Int) + (size : Int) = ((t + size : Nat) : Int) by omega]
        exact ⟨b, _, _, _, rfl, add_ring hA h2 [(u, t + v, (c : Int) - sc / 2)] (Nat.le_refl _) (fun a ha => by rw [List.mem_singleton] at ha; subst ha; dsimp only; omega), fun _ => by omega⟩
      · walk_at "wk"
        refine e_kcatL (xs := (A).map arcD) (ys := A2.map arcD) rfl rfl (by rw [List.length_map, List.length_map]; omega) ?_
        rw [← List.map_append]
        walk_at "wk"
        refine e_kcatL (xs := R.map rndD) (ys := R2.map rndD) rfl rfl (by rw [List.length_map, List.length_map]; omega) ?_
        rw [← List.map_append]
        walk_at "wk"
        rw [show (t : Int) + (size : Int) = ((t + size : Nat) : Int) by omega]
        exact ⟨b, t + size, A ++ [] ++ A2, R ++ R2, by rw [List.append_nil]; rfl, add_ring hA h2 [] (Nat.zero_le _) (fun a ha => nomatch ha), fun _ => by omega⟩
    · walk_at "wk"
      refine e_kcatL (xs := (A).map arcD) (ys := A2.map arcD) rfl rfl (by rw [List.length_map, List.length_map]; omega) ?_
      rw [← List.map_append]
      walk_at "wk"
      refine e_kcatL (xs := R.map rndD) (ys := R2.map rndD) rfl rfl (by rw [List.length_map, List.length_map]; omega) ?_
      rw [← List.map_append]
      walk_at "wk"
      rw [show (t : Int) + (size : Int) = ((t + size : Nat) : Int) by omega]
      exact ⟨b, t + size, A ++ [] ++ A2, R ++ R2, by rw [List.append_nil]; rfl, add_ring hA h2 [] (Nat.zero_le _) (fun a ha => nomatch ha), fun _ => by omega⟩
  obtain ⟨b, t, A, R, rfl, hA, ht⟩ := hI
  rw [rngD_len] at hA ht
  have ht := ht (by omega)
  walk_at "wk"
  refine call_dr rfl rfl rfl (by decide) (by decide) fun x4 b hx4 ρ e => ?_
  rw [List.set_cons_zero] at e
  subst e
  walk_at "wk"
  rw [Int.toNat_natCast]
  refine e_forI [6, 9] (fun i ρ => ∃ (b : Bag) (t : Nat) (A : List Arc), ρ = [some (.own true (.lst (bagD b))), some (.dat (.int sc)), some (.dat (.int (wd : Int))), some (.own false (.lst (A.map arcD))), some (.dat (.lst (R.map rndD))), some (.dat (.int (t : Int))), none, none, none, none, none, none, none, none, none, none, none] ∧ PreOk t A R (x3 + 1 + i) ∧ 1 ≤ t) ⟨b, t, A, rfl, hA, ht⟩ (fun i x ρ2 hi hI => ?_) (fun ρ2 hI => ?_)
  · clear hA ht
    obtain ⟨b, t, A, rfl, hA, ht⟩ := hI
    obtain ⟨hi4, rfl⟩ := rng_get hi
    have ht2 := hA.t2
    have hal := hA.al
    have tail : ∀ (u : Nat) (a : Arc), u < t → (a = (u, t, a.2.2) ∨ a = (t, u, a.2.2)) → PreOk (t + 1) (A ++ [a]) R (x3 + 1 + (i + 1)) := fun u a hu ha => add_tail hA hu a ha
    walk_at "wk"
    refine call_dr rfl rfl rfl (by decide) (by decide) fun x5 b hx5 ρ e => ?_
    rw [List.set_cons_zero] at e
    subst e
    walk_at "wk"
    refine e_ifd (fun h => ?_) (fun h => ?_)
    · walk_at "wk"
      refine call_dr rfl rfl rfl (by omega) (by omega) fun u b hu ρ e => ?_
      rw [List.set_cons_zero] at e
      subst e
      walk_at "wk"
      refine call_dr rfl rfl rfl (by omega) (by omega) fun c b hc ρ e => ?_
      rw [List.set_cons_zero] at e
      subst e
      walk_at "wk"
      rw [show (t : Int) + 1 = ((t + 1 : Nat) : Int) by omega]
      refine ⟨b, t + 1, A ++ [(u, t, (c : Int) - sc / 2)], ?_, tail u _ (by omega) (.inl rfl), by omega⟩
      rw [List.map_append]
      rfl
    · walk_at "wk"
      refine call_dr rfl rfl rfl (by omega) (by omega) fun u b hu ρ e => ?_
      rw [List.set_cons_zero] at e
      subst e
      walk_at "wk"
      refine call_dr rfl rfl rfl (by omega) (by omega) fun c b hc ρ e => ?_
      rw [List.set_cons_zero] at e
      subst e
      walk_at "wk"
      rw [show (t : Int) + 1 = ((t + 1 : Nat) : Int) by omega]
      refine ⟨b, t + 1, A ++ [(t, u, (c : Int) - sc / 2)], ?_, tail u _ (by omega) (.inr rfl), by omega⟩
      rw [List.map_append]
      rfl
  clear hA ht
  obtain ⟨b, t, A, rfl, hA, ht⟩ := hI
  rw [rngD_len] at hA
  have ht2 := hA.t2
  have hal := hA.al
  have hrl := hA.rl
  walk_at "wk"
  refine call_dr rfl rfl rfl (by omega) (by omega) fun s b hs ρ e => ?_
  rw [List.set_cons_zero] at e
  subst e
  have hst : s < t := by omega
  walk_at "wk"
  rw [Int.toNat_natCast]
  refine e_lcM1 (List.range t) (fun k => .int (k : Int)) (fun k => .int (((k + s) % t : Nat) : Int)) (rngD_eq _) (by rw [List.length_range]; omega) rfl (by walk_at "set") (fun k hk K1 k1 => ?_) ?_
  · walk_at "wk"
    rw [show ((k : Int) + (s : Int)) % (t : Int) = (((k + s) % t : Nat) : Int) by rw [Int.natCast_emod]; rfl]
    exact k1 _ rfl
  have hname : ∀ {ν : Nat → Nat} (x : Nat), x < t → ((List.range t).map fun k => Dt.int (ν k : Nat))[x]? = some (.int (ν x : Nat)) := fun {ν} x hx => by
    rw [List.getElem?_map, List.getElem?_range hx]
    rfl
  walk_at "wk"
  refine call_dr rfl rfl rfl (by decide) (by decide) fun x5 b hx5 ρ e => ?_
  rw [List.set_cons_zero] at e
  subst e
  walk_at "wk"
  refine e_ifd (fun h => ?_) (fun h => ?_)
  · obtain ⟨g, hg1⟩ := nu_ok (b := true) hst
    walk_at "wk"
    refine e_lcM1 (List.range t) (fun k => .int (((k + s) % t : Nat) : Int)) (fun k => .int (nu t s true k : Nat)) rfl (by rw [List.length_range]; omega) rfl (by walk_at "set") (fun k hk K1 k1 => ?_) ?_
    · have hm : (k + s) % t < t := Nat.mod_lt _ (by omega)
      walk_at "wk"
      have e : (t : Int) - 1 - (((k + s) % t : Nat) : Int) = (nu t s true k : Nat) := by
        unfold nu
        rw [if_pos rfl]
        omega
      rw [e]
      exact k1 _ rfl
    generalize hν : nu t s true = ν at hg1
    walk_at "wk"
    refine e_lcM1 A arcD (fun a => arcD (ren ν a)) rfl (by omega) rfl (by walk_at "set") (fun a ha K1 k1 => ?_) ?_
    · obtain ⟨q1, q2⟩ := hA.ok a ha
      walk_at "wk"
      refine e_kix (d := .lst ((List.range t).map fun k => Dt.int (ν k : Nat))) rfl rfl (atI_nat (hname a.1 q1)) ?_
      walk_at "wk"
      refine e_kix (d := .lst ((List.range t).map fun k => Dt.int (ν k : Nat))) rfl rfl (atI_nat (hname a.2.1 q2)) ?_
      walk_at "wk"
      exact k1 _ rfl
    have eG : A.map (fun a => arcD (ren ν a)) = (A.map (ren ν)).map arcD := by rw [List.map_map]; rfl
    rw [eG]
    walk_at "wk"
    refine e_lcM1 R rndD (fun r => rndD (renR ν r)) rfl (by omega) rfl (by walk_at "set") (fun r hr K1 k1 => ?_) ?_
    · have hrl := round_lt hA.ok (hA.rd r hr)
      have hrb := hA.rb r hr
      obtain ⟨_, hrn⟩ := rnd_len (hA.rd r hr)
      have erd : rndD r = .tup [.int r.1, .int (r.2.1 : Int), .tup (nodesL r.2.2)] := rfl
      rw [erd]
      walk_at "wk"
      refine e_lcM1 r.2.2 (fun k : Nat => .int (k : Int)) (fun k => .int (ν k : Nat)) (by unfold nodesL intsN; rw [List.map_map]; rfl) (by omega) rfl (by walk_at "set") (fun x hx K2 k2 => ?_) ?_
      · walk_at "wk"
        refine e_kix (d := .lst ((List.range t).map fun k => Dt.int (ν k : Nat))) rfl rfl (atI_nat (hname x (hrl x hx))) ?_
        exact k2 _ rfl
      walk_at "wk"
      have erd2 : Dt.tup [.int r.1, .int (r.2.1 : Int), .tup (r.2.2.map fun k => .int (ν k : Nat))] = rndD (renR ν r) := by
        unfold rndD renR nodesD intsD intsN
        dsimp only
        rw [List.map_map, List.map_map]
        rfl
      rw [← erd2] at k1
      exact k1 _ rfl
    have eR : R.map (fun r => rndD (renR ν r)) = (R.map (renR ν)).map rndD := by rw [List.map_map]; rfl
    rw [eR]
    walk_at "wk"
    exact e_fin rfl (hp _ _ ⟨t, A.map (ren ν), R.map (renR ν), b, rfl, rfl, pre_graph hA (by omega) ht hg1⟩)
  · obtain ⟨g, hg1⟩ := nu_ok (b := false) hst
    have eN : (List.range t).map (fun k => Dt.int (((k + s) % t : Nat) : Int)) = (List.range t).map fun k => Dt.int (nu t s false k : Nat) := rfl
    rw [eN]
    generalize hν : nu t s false = ν at hg1
    walk_at "wk"
    refine e_lcM1 A arcD (fun a => arcD (ren ν a)) rfl (by omega) rfl (by walk_at "set") (fun a ha K1 k1 => ?_) ?_
    · obtain ⟨q1, q2⟩ := hA.ok a ha
      walk_at "wk"
      refine e_kix (d := .lst ((List.range t).map fun k => Dt.int (ν k : Nat))) rfl rfl (atI_nat (hname a.1 q1)) ?_
      walk_at "wk"
      refine e_kix (d := .lst ((List.range t).map fun k => Dt.int (ν k : Nat))) rfl rfl (atI_nat (hname a.2.1 q2)) ?_
      walk_at "wk"
      exact k1 _ rfl
    have eG : A.map (fun a => arcD (ren ν a)) = (A.map (ren ν)).map arcD := by rw [List.map_map]; rfl
    rw [eG]
    walk_at "wk"
    refine e_lcM1 R rndD (fun r => rndD (renR ν r)) rfl (by omega) rfl (by walk_at "set") (fun r hr K1 k1 => ?_) ?_
    · have hrl := round_lt hA.ok (hA.rd r hr)
      have hrb := hA.rb r hr
      obtain ⟨_, hrn⟩ := rnd_len (hA.rd r hr)
      have erd : rndD r = .tup [.int r.1, .int (r.2.1 : Int), .tup (nodesL r.2.2)] := rfl
      rw [erd]
      walk_at "wk"
      refine e_lcM1 r.2.2 (fun k : Nat => .int (k : Int)) (fun k => .int (ν k : Nat)) (by unfold nodesL intsN; rw [List.map_map]; rfl) (by omega) rfl (by walk_at "set") (fun x hx K2 k2 => ?_) ?_
      · walk_at "wk"
        refine e_kix (d := .lst ((List.range t).map fun k => Dt.int (ν k : Nat))) rfl rfl (atI_nat (hname x (hrl x hx))) ?_
        exact k2 _ rfl
      walk_at "wk"
      have erd2 : Dt.tup [.int r.1, .int (r.2.1 : Int), .tup (r.2.2.map fun k => .int (ν k : Nat))] = rndD (renR ν r) := by
        unfold rndD renR nodesD intsD intsN
        dsimp only
        rw [List.map_map, List.map_map]
        rfl
      rw [← erd2] at k1
      exact k1 _ rfl
    have eR : R.map (fun r => rndD (renR ν r)) = (R.map (renR ν)).map rndD := by rw [List.map_map]; rfl
    rw [eR]
    walk_at "wk"
    exact e_fin rfl (hp _ _ ⟨t, A.map (ren ν), R.map (renR ν), b, rfl, rfl, pre_graph hA (by omega) ht hg1⟩)
end
end K85
namespace K85
open Wk
section
variable {G : List Arc} {n : Nat} {R : List Rnd}
theorem fold_some : ∀ (l : List Rnd) (b : Rnd), l.foldl least1 (some b) ≠ none
  | [], b, h => nomatch h
  | r :: l, b, h => by
    rw [List.foldl_cons] at h
    unfold least1 at h
    dsimp only at h
    split at h
    · exact fold_some l _ h
    · exact fold_some l _ h
theorem least_none (h : leastR R = none) : R = [] := by
  cases R with
  | nil => rfl
  | cons r l => exact absurd h (fold_some l r)
theorem fold_min : ∀ (l : List Rnd) (b c : Rnd), (∀ r ∈ l, 0 < r.2.1) → 0 < b.2.1 → l.foldl least1 (some b) = some c → leF (c.1, (c.2.1 : Int)) (b.1, (b.2.1 : Int)) ∧ ∀ r ∈ l, leF (c.1, (c.2.1 : Int)) (r.1, (r.2.1 : Int))
  | [], b, c, _, _, h => by
    cases h
    exact ⟨leF_refl _, fun r hr => nomatch hr⟩
  | x :: l, b, c, hp, hb, h => by
    rw [List.foldl_cons] at h
    have hx := hp x List.mem_cons_self
    have hpl := fun r hr => hp r (List.mem_cons_of_mem _ hr)
    have hc : 0 < c.2.1 := by
      have : ∀ (l : List Rnd) (o : Option Rnd), (∀ r ∈ l, 0 < r.2.1) → (∀ r, o = some r → 0 < r.2.1) → ∀ c, l.foldl least1 o = some c → 0 < c.2.1 := by
        intro l
        induction l with
        | nil => intro o _ ho c e; exact ho c e
        | cons y l ih =>
          intro o hl ho c e
          rw [List.foldl_cons] at e
          refine ih _ (fun r hr => hl r (List.mem_cons_of_mem _ hr)) (fun r hr => ?_) c e
          unfold least1 at hr
          split at hr
          · cases hr; exact hl _ List.mem_cons_self
          · split at hr
            · cases hr; exact hl _ List.mem_cons_self
            · exact ho r hr
      refine this l _ hpl (fun r hr => ?_) c h
      unfold least1 at hr
      dsimp only at hr
      split at hr
      · cases hr; exact hx
      · cases hr; exact hb
    unfold least1 at h
    dsimp only at h
    split at h
    · rename_i hlt
      obtain ⟨h1, h2⟩ := fold_min l x c hpl hx h
      refine ⟨leF_trans (q := (x.1, (x.2.1 : Int))) (by dsimp only; omega) (by dsimp only; omega) (by dsimp only; omega) h1 (by unfold leF; dsimp only; omega), fun r hr => ?_⟩
      rcases List.mem_cons.mp hr with e | e
      · rw [e]; exact h1
      · exact h2 r e
    · rename_i hlt
      obtain ⟨h1, h2⟩ := fold_min l b c hpl hb h
      refine ⟨h1, fun r hr => ?_⟩
      rcases List.mem_cons.mp hr with e | e
      · rw [e]
        exact leF_trans (q := (b.1, (b.2.1 : Int))) (by dsimp only; omega) (by dsimp only; omega) (by dsimp only; omega) h1 (by unfold leF; dsimp only; omega)
      · exact h2 r e
theorem round_pos {r : Rnd} (h : RoundOk G r) : 0 < r.2.1 := by
  obtain ⟨x, l, _, h2, h3, _⟩ := h
  rw [← h3]
  exact List.length_pos_iff.mpr h2
theorem least_min (hR : ∀ r ∈ R, RoundOk G r) {b : Rnd} (h : leastR R = some b) : ∀ r ∈ R, b.1 * (r.2.1 : Int) ≤ r.1 * (b.2.1 : Int) := by
  cases R with
  | nil => cases h
  | cons x l =>
    have h : l.foldl least1 (some x) = some b := h
    obtain ⟨h1, h2⟩ := fold_min l x b (fun r hr => round_pos (hR r (List.mem_cons_of_mem _ hr))) (round_pos (hR x List.mem_cons_self)) h
    intro r hr
    rcases List.mem_cons.mp hr with e | e
    · rw [e]; exact h1
    · exact h2 r e
/-- no round: no least mean, no paper -/
theorem graph_none (h : GraphOk n G R) (hR : leastR R = none) : leastMean n G = none ∧ ∀ (m : Fc) (p : List Int), judge n G m p [0, 0] = false := by
  have hR := least_none hR
  have hno : ∀ x l, IsW G x l x → l = [] := by
    intro x l hw
    cases l with
    | nil => rfl
    | cons a l =>
      exfalso
      have hN := h.du (((costP (a :: l)).natAbs : Int) + 1, 1) Int.one_pos (fun r hr => by rw [hR] at hr; cases hr)
      have := hN x _ hw
      rw [costW_eq] at this
      dsimp only at this
      rw [List.length_cons] at this
      have e : (((costP (a :: l)).natAbs : Int) + 1) * ((l.length + 1 : Nat) : Int) = (((costP (a :: l)).natAbs : Int) + 1) * (l.length : Int) + (((costP (a :: l)).natAbs : Int) + 1) := by
        rw [show ((l.length + 1 : Nat) : Int) = (l.length : Int) + 1 by omega, Int.mul_add, Int.mul_one]
      rw [e] at this
      have h3 : 0 ≤ (((costP (a :: l)).natAbs : Int) + 1) * (l.length : Int) := Int.mul_nonneg (by omega) (by omega)
      omega
  refine ⟨?_, fun m p => ?_⟩
  · unfold leastMean
    rw [no_round h.ok h.n1 hno]
    rfl
  · refine judge_no fun z => ?_
    have hs := z.2.2.2.2.2
    rw [sum_cc] at hs
    split at hs
    · cases hs
    · rename_i hne
      obtain ⟨a, a1, a2, a3, _⟩ := mem_costs (lmin_mem hne)
      have := hno 0 [a] ⟨a1, a2, a3⟩
      cases this
/-- a least round: the least mean, the law's own paper -/
theorem graph_some (h : GraphOk n G R) {b : Rnd} (hb : leastR R = some b) : 0 < (lowF (b.1, (b.2.1 : Int))).2 ∧ (lowF (b.1, (b.2.1 : Int))).2 ≤ 1000 ∧ leastMean n G = some (lowF (b.1, (b.2.1 : Int))) ∧ RoundOk G b ∧ 0 < b.2.1 ∧ b.2.1 ≤ 1000 ∧ b.2.2.length = b.2.1 ∧
    ∃ q, potF (lowF (b.1, (b.2.1 : Int))) (G.map swp) n (List.replicate n 0) = some q ∧ q.length = n ∧ judge n G (lowF (b.1, (b.2.1 : Int))) (q.map fun x => -x) (b.2.2 ++ b.2.2.take 1) = true := by
  have hbm := least_mem hb
  have hr := h.rd b hbm
  have hbp := round_pos hr
  have hbb := h.rb b hbm
  have hm0 : 0 < ((b.1, (b.2.1 : Int)) : Fc).2 := by dsimp only; omega
  have hN := h.du (b.1, (b.2.1 : Int)) hm0 fun r hr => least_min h.rd hb r hr
  obtain ⟨n1, n2⟩ := noneg_low (G := G) hm0
  have hN2 := n1.mpr hN
  obtain ⟨x, l, hw, hl, e1, e2, e3⟩ := hr
  have h0 : costW (b.1, (b.2.1 : Int)) l = 0 := by
    rw [costW_eq, e1, e2]
    dsimp only
    omega
  have h02 := (n2 l).mpr h0
  obtain ⟨l1, l2⟩ := low_bd (b := (b.1, (b.2.1 : Int))) (n := 1000) ⟨hm0, by dsimp only; omega⟩
  obtain ⟨q, q1, q2, q3⟩ := law_pot h.n1 h.ok hN2
  have hr : RoundOk G b := ⟨x, l, hw, hl, e1, e2, e3⟩
  refine ⟨l1, l2, least_is h.ok h.n1 hm0 hN hw h0 hl, hr, hbp, hbb, ?_, q, q1, q2, ?_⟩
  · rw [← e3]
    unfold srcs
    rw [List.length_map]
    exact e1
  · refine own_right l1 (by rw [List.length_map]; exact q2) q3 hr ?_
    rw [costW_eq, e1, e2] at h02
    omega
end
/-! ### data that is equal to itself -/
theorem eqls_ints : ∀ (k : Nat) (xs : List Int), eqls (eqbn k) (xs.map Dt.int) (xs.map Dt.int) = true
  | _, [] => rfl
  | k, x :: xs => by
    show (eqbn k (.int x) (.int x) && eqls (eqbn k) (xs.map Dt.int) (xs.map Dt.int)) = true
    rw [eqls_ints k xs, eqbn_int, decide_eq_true rfl]
    rfl
theorem eq_ints (k : Nat) (xs : List Int) : eqbn (k + 1) (intsD xs) (intsD xs) = true := eqls_ints k xs
theorem ok_ints (k : Nat) (xs : List Int) : okn (k + 1) (intsD xs) = true := by
  show (xs.map Dt.int).all (okn k) = true
  rw [List.all_map]
  exact List.all_eq_true.mpr fun x _ => okn_int k x
theorem eq_pap (x : Pap) : eqbn 60 (papD x) (papD x) = true := by
  show (eqbn 59 (intsD [x.1.1, x.1.2]) (intsD [x.1.1, x.1.2]) && (eqbn 59 (intsD x.2.1) (intsD x.2.1) && (eqbn 59 (intsD (intsN x.2.2)) (intsD (intsN x.2.2)) && true))) = true
  rw [eq_ints 58, eq_ints 58, eq_ints 58]
  rfl
theorem ok_pap (x : Pap) : okn 60 (papD x) = true := by
  show (okn 59 (intsD [x.1.1, x.1.2]) && (okn 59 (intsD x.2.1) && (okn 59 (intsD (intsN x.2.2)) && true))) = true
  rw [ok_ints 58, ok_ints 58, ok_ints 58]
  rfl
theorem eq_frac (m : Fc) : eqbn 60 (fracD m) (fracD m) = true := eq_ints 59 [m.1, m.2]
theorem ok_frac (m : Fc) : okn 60 (fracD m) = true := ok_ints 59 [m.1, m.2]
theorem eq_optF (o : Option Fc) : eqbn 60 (optF o) (optF o) = true := by
  cases o with
  | none => rfl
  | some m => exact eq_frac m
theorem ok_optF (o : Option Fc) : okn 60 (optF o) = true := by
  cases o with
  | none => rfl
  | some m => exact ok_frac m
end K85
namespace K85
open PySem PySem.Spec PyProof.Rows L2 Wk
local macro_rules | `(tactic| walk_at "wk") => `(tactic| repeat (first
  | apply_rules -symm -exfalso (transparency := .reducible) (maxDepth := 100000) only [@e_seq, @e_c, @e_ix, @e_set, @e_op, @e_I2, @e_fI0, @e_ifS, @e_tst, @e_ktst, @e_ift, @e_iff, @e_ifnt, @e_ifnf, @e_ret, @e_retF, @e_acons, @e_anil, @e_alend, @e_tup, @e_int, @e_kint, @e_vd, @e_setIx, @e_toL, @e_toT, @e_callD, @e_toD, @e_toDo, @e_callF, @e_kown, @e_frz, @e_len, @e_setF, @e_lst, @e_and, @e_or, @e_not, @e_andV, @e_orV, @e_notV, @e_kandV, @e_korV, @e_knotV, @e_ifE, @e_is, @e_isnot, @e_neg, @e_kneg, @e_par, @e_asg, @e_gnil, @e_gcons, @e_slT, @e_slL, @e_nopart, @e_part, @e_kpart, @e_sum, @e_min, @e_max, @e_abs, @e_kabs, @e_MM, @e_kMM, @e_tupOf, @e_lstOf, @e_isi, @e_inI, @e_dget, @e_din, @e_dnew, @e_catT, @e_catL, @e_index, @e_eq, @e_chain, @e_kchain, @e_kchain2, @e_drop, @e_next, @e_brk, @e_cnt, @e_retnon, @e_setK, @e_iL, @e_kL, @e_iT, @e_kT, @e_iR1, @e_iR2, @e_for, @e_yes, @e_lc, @e_raise, @e_try, @e_isX, @e_xf]
  | ((with_reducible refine' e_var ?k1 ?_); (case k1 => exact rfl))
  | ((with_reducible refine' e_kset ?k1 ?k2 ?_); (case k1 => exact rfl); (case k2 => (with_reducible (first | exact st0 | exact st1 | exact st2 | exact st3 | exact st4 | exact st5 | exact st6 | exact st7 | exact st8 | exact st9 | exact st10 | exact st11 | exact st12 | exact st13 | exact st14 | exact st15 | exact st16 | exact st17 | exact st18 | exact st19 | exact st20))))
  | ((with_reducible refine' e_ktup ?k1 ?k2 ?_); (case k1 => exact rfl); (case k2 => exact rfl))
  | ((with_reducible refine' e_kix ?k1 ?k2 ?k3 ?_); (case k1 => exact rfl); (case k2 => exact rfl); (case k3 => exact rfl))
  | ((with_reducible refine' e_vn ?k1 ?_); (case k1 => exact rfl))
  | ((with_reducible refine' e_varL ?k1 ?k2 ?_); (case k1 => exact rfl); (case k2 => (with_reducible (first | exact st0 | exact st1 | exact st2 | exact st3 | exact st4 | exact st5 | exact st6 | exact st7 | exact st8 | exact st9 | exact st10 | exact st11 | exact st12 | exact st13 | exact st14 | exact st15 | exact st16 | exact st17 | exact st18 | exact st19 | exact st20))))
  | ((with_reducible refine' e_app ?k1 ?_); (case k1 => exact rfl))
  | ((with_reducible refine' e_kapp ?k1 ?k2 ?k3 ?_); (case k1 => exact rfl); (case k2 => (simp only [List.length_append, List.length_map, List.length_cons, List.length_nil]; omega)); (case k3 => (with_reducible (first | exact st0 | exact st1 | exact st2 | exact st3 | exact st4 | exact st5 | exact st6 | exact st7 | exact st8 | exact st9 | exact st10 | exact st11 | exact st12 | exact st13 | exact st14 | exact st15 | exact st16 | exact st17 | exact st18 | exact st19 | exact st20))))
  | ((with_reducible refine' e_ksetF ?k1 ?k2 ?_); (case k1 => exact rfl); (case k2 => (with_reducible (first | exact st0 | exact st1 | exact st2 | exact st3 | exact st4 | exact st5 | exact st6 | exact st7 | exact st8 | exact st9 | exact st10 | exact st11 | exact st12 | exact st13 | exact st14 | exact st15 | exact st16 | exact st17 | exact st18 | exact st19 | exact st20))))
  | ((with_reducible refine' e_klen ?k1 ?k2 ?_); (case k1 => exact rfl); (case k2 => exact rfl))
  | ((with_reducible refine' e_klst ?k1 ?k2 ?_); (case k1 => exact rfl); (case k2 => exact rfl))
  | ((with_reducible refine' e_gtup ?k1 ?_); (case k1 => exact rfl))
  | ((with_reducible refine' e_gN ?k1 ?k2 ?_); (case k1 => exact rfl); (case k2 => (with_reducible (first | exact st0 | exact st1 | exact st2 | exact st3 | exact st4 | exact st5 | exact st6 | exact st7 | exact st8 | exact st9 | exact st10 | exact st11 | exact st12 | exact st13 | exact st14 | exact st15 | exact st16 | exact st17 | exact st18 | exact st19 | exact st20))))
  | ((with_reducible refine' e_varT ?k1 ?k2 ?_); (case k1 => exact rfl); (case k2 => (with_reducible (first | exact st0 | exact st1 | exact st2 | exact st3 | exact st4 | exact st5 | exact st6 | exact st7 | exact st8 | exact st9 | exact st10 | exact st11 | exact st12 | exact st13 | exact st14 | exact st15 | exact st16 | exact st17 | exact st18 | exact st19 | exact st20))))
  | ((with_reducible refine' e_mulR ?k1 ?k2 ?_); (case k1 => omega); (case k2 => omega))
  | ((with_reducible refine' e_mulL ?k1 ?k2 ?_); (case k1 => omega); (case k2 => omega))
  | ((with_reducible refine' e_div ?k1 ?k2 ?_); (case k1 => omega); (case k2 => omega))
  | ((with_reducible refine' e_mod ?k1 ?_); (case k1 => omega))
  | ((with_reducible refine' e_retN ?k1 ?_); (case k1 => exact rfl))
  | ((with_reducible refine' e_retNO ?k1 ?k2 ?_); (case k1 => exact rfl); (case k2 => (with_reducible (first | exact st0 | exact st1 | exact st2 | exact st3 | exact st4 | exact st5 | exact st6 | exact st7 | exact st8 | exact st9 | exact st10 | exact st11 | exact st12 | exact st13 | exact st14 | exact st15 | exact st16 | exact st17 | exact st18 | exact st19 | exact st20))))
  | ((with_reducible refine' e_setIx1 ?k1 ?_); (case k1 => exact rfl))
  | ((with_reducible refine' e_ksetIx ?k1 ?k2 ?k3 ?_); (case k1 => exact rfl); (case k2 => exact rfl); (case k3 => (with_reducible (first | exact st0 | exact st1 | exact st2 | exact st3 | exact st4 | exact st5 | exact st6 | exact st7 | exact st8 | exact st9 | exact st10 | exact st11 | exact st12 | exact st13 | exact st14 | exact st15 | exact st16 | exact st17 | exact st18 | exact st19 | exact st20))))
  | ((with_reducible refine' e_kpar ?k1 ?k2 ?k3 ?_); (case k1 => exact rfl); (case k2 => exact rfl); (case k3 => (repeat (first | exact set_0 | apply set_s))))
  | ((with_reducible refine' e_aug ?k1 ?_); (case k1 => exact rfl))
  | ((with_reducible refine' e_kaug ?k1 ?k2 ?_); (case k1 => exact rfl); (case k2 => (with_reducible (first | exact st0 | exact st1 | exact st2 | exact st3 | exact st4 | exact st5 | exact st6 | exact st7 | exact st8 | exact st9 | exact st10 | exact st11 | exact st12 | exact st13 | exact st14 | exact st15 | exact st16 | exact st17 | exact st18 | exact st19 | exact st20))))
  | ((with_reducible refine' e_kslT ?k1 ?_); (case k1 => exact rfl))
  | ((with_reducible refine' e_kslL ?k1 ?_); (case k1 => exact rfl))
  | ((with_reducible refine' e_ksum ?k1 ?_); (case k1 => exact rfl))
  | ((with_reducible refine' e_ktupOf ?k1 ?k2 ?_); (case k1 => exact rfl); (case k2 => exact rfl))
  | ((with_reducible refine' e_klstOf ?k1 ?k2 ?_); (case k1 => exact rfl); (case k2 => exact rfl))
  | ((with_reducible refine' e_kisi ?k1 ?k2 ?k3 ?_); (case k1 => exact rfl); (case k2 => exact rfl); (case k3 => (first | exact ks_ii | exact ks_ib | exact ks_bi | exact ks_bb | exact ks_ni | exact ks_nb | exact ks_tt | exact ks_lt | exact ks_it | exact ks_nt | exact ks_ti | exact ks_si)))
  | ((with_reducible refine' e_kR1 ?k1 ?k2 ?_); (case k1 => omega); (case k2 => omega))
  | ((with_reducible refine' e_kR2 ?k1 ?_); (case k1 => omega))
  ))
local macro_rules | `(tactic| walk_at "wk0") => `(tactic| (unfold endsF; (with_reducible refine' st_rho ?k1 ?_); (case k1 => repeat (first | exact rh_0 | (with_reducible apply rh_m) | (with_reducible apply rh_n) | apply rh_s))))
local macro_rules | `(tactic| walk_at "set") => `(tactic| with_reducible (first | exact st0 | exact st1 | exact st2 | exact st3 | exact st4 | exact st5 | exact st6 | exact st7 | exact st8 | exact st9 | exact st10 | exact st11 | exact st12 | exact st13 | exact st14 | exact st15 | exact st16 | exact st17 | exact st18 | exact st19 | exact st20))
abbrev s_law_graph_right : Stmt := topS 40
abbrev n_law_graph_right : List Str := ["bag", "graph", "best", "mean", "own", "told", "paper", "turn", "many", "arcs", "rounds", "fake", "right", "row", "changed", "node"]
theorem sc_law_graph_right : FnScope ["bag", "graph", "best", "mean", "own", "told", "paper", "turn", "many", "arcs", "rounds", "fake", "right", "row", "changed", "node"] ["bag", "graph"] (defScope s_law_graph_right) := ⟨rfl, rfl, rfl, by decide +kernel, rfl, by decide +kernel, by decide +kernel⟩
theorem bi_law_graph_right : BindOk "_law_graph_right" s_law_graph_right ["bag", "graph"] := fun _ _ _ _ _ _ us hl => match us, hl with | [_, _], _ => rfl
theorem fine_of {n : Nat} {G : List Arc} {R : List Rnd} (h : GraphOk n G R) : fine n G := ⟨h.n1, by have := h.n2; omega, by have := h.al; omega, h.ok⟩
theorem call_lm {cN cT : Addr} {ρ : Rho} {ws : List Vw} {PR : Rs → Rho → Prop} {ex : Addr → List (Str × Dt) → Prop} {n : Nat} {G : List Arc} (h1 : resv ρ ws = some [.dat (.int (n : Int)), .dat (arcsD G)]) (h3 : slotsOf ws = []) (hf : fine n G) (q : PR (.dat (optF (leastMean n G))) ρ) : kCall 2 (fxLeast cN cT).sp ex ws ρ PR :=
  e_callXok (fxLeast cN cT) ((n : Int), arcsD G) h1 rfl h3 (pre_arcs hf.2.2.1) rfl (show behind cN cT ((n : Int), arcsD G) (fun n arcs => .ok (.dat (optF (leastMean n arcs)))) = _ from behind_fine hf _) q
theorem call_mp {cN cT cP : Addr} {ρ : Rho} {ws : List Vw} {PR : Rs → Rho → Prop} {ex : Addr → List (Str × Dt) → Prop} {n : Nat} {G : List Arc} {m : Fc} (h1 : resv ρ ws = some [.dat (.int (n : Int)), .dat (arcsD G)]) (h3 : slotsOf ws = []) (hf : fine n G) (hm : leastMean n G = some m) (q : PR (.dat (papD (m, potOf n G m, tightRound n G m (potOf n G m)))) ρ) : kCall 2 (fxPaper cN cT cP).sp ex ws ρ PR :=
  e_callXok (fxPaper cN cT cP) ((n : Int), arcsD G) h1 rfl h3 (pre_arcs hf.2.2.1) rfl (show behind cN cT ((n : Int), arcsD G) (paperR cP) = .ok (.dat (papD (m, potOf n G m, tightRound n G m (potOf n G m)))) from by
    rw [behind_fine hf]
    unfold paperR
    rw [hm]
    rfl) q
theorem call_judged {ρ : Rho} {ws : List Vw} {PR : Rs → Rho → Prop} {ex : Addr → List (Str × Dt) → Prop} {n : Nat} {G : List Arc} {x : Pap} {d : Bool} (h1 : resv ρ ws = some [.dat (.int (n : Int)), .dat (arcsD G), .dat (papD x), .dat (.bl d)]) (h3 : slotsOf ws = []) (hf : fine n G) (hs : small x) (hj : judgeP n G x = d) (q : PR (.dat (.bl true)) ρ) : kCall 4 fsJudged.sp ex ws ρ PR := by
  refine e_call0 fsJudged (((n, G), x), d) h1 rfl h3 ⟨hf, hs⟩ rfl ?_
  have e : fsJudged.rs (((n, G), x), d) = .dat (.bl true) := by
    show Rs.dat (.bl (judgeP n G x == d)) = _
    rw [hj]
    cases d <;> rfl
  rw [e]
  exact q
theorem chkT_fine {n : Nat} {G : List Arc} (h : fine n G) : chkT (n : Int) (arcsD G) = none := by
  have h1 := chk_tag 0 0 (n : Int) (arcsD G)
  rw [chk_fine h] at h1
  cases q : chkT (n : Int) (arcsD G) with
  | none => rfl
  | some t => cases t <;> (rw [q] at h1; cases h1)
theorem asked_fine {n : Nat} {G : List Arc} (h : fine n G) (k : Nat) (x : Option Pap) : askOut k (n : Int) (arcsD G) x = if k = 0 then tagD "told" (optF (leastMean n G)) else if k = 1 then (match leastMean n G with
      | none => tagD "paper" (.str "round")
      | some q => tagD "told" (papD (q, potOf n G q, tightRound n G q (potOf n G q))))
    else tagD "told" (.bl (match x with | some x => judgeP n G x | none => false)) := by
  unfold askOut
  rw [chkT_fine h, arcsOf_D, Int.toNat_natCast]
  rfl
def frGraph : FR := ⟨Bag × (Nat × List Arc × List Rnd), fun a => [.own true (.lst (bagD a.1)), .dat (graphD a.2.1 a.2.2.1 a.2.2.2)], fun a => GraphOk a.2.1 a.2.2.1 a.2.2.2, fun a r os => ∃ b : Bag, r = .dat (.bl true) ∧ os = [.lst (bagD b)]⟩
section
variable {P : Program} {w : World} {K : PySem.W.Frag} {mg : Str → Option Value} {base : Heap}
theorem ok_graph {cN cT cP : Addr} (D : Df K mg "_law_graph_right" s_law_graph_right) (B : Bi mg) (c_law_draw : Cal P w K mg base 1 "_law_draw" 2 frDraw.sp) (c_law_pick : Cal P w K mg base 2 "_law_pick" 2 frPick.sp) (c_law_least : Cal P w K mg base 1 "_law_least" 1 fsLeastR.sp) (c_law_lowest : Cal P w K mg base 1 "_law_lowest" 2 fsLowL.sp)
    (c_law_potentials : Cal P w K mg base 1 "_law_potentials" 3 fsPotL.sp) (c_law_judge : Cal P w K mg base 2 "_law_judge" 3 fsJudge.sp) (c_law_numbers : Cal P w K mg base 2 "_law_numbers" 1 fsNums.sp) (c_law_is_paper : Cal P w K mg base 3 "_law_is_paper" 2 fsIsPap.sp) (c_law_another : Cal P w K mg base 2 "_law_another" 2 frAnother.sp) (c_law_changed : Cal P w K mg base 3 "_law_changed" 3 frChanged.sp)
    (c_law_judged : Cal P w K mg base 5 "_law_judged" 4 fsJudged.sp) (c_law_asked : Cal P w K mg base 6 "_law_asked" 4 fsAsked.sp) (cleast_mean : CalX P w K mg base 4 "least_mean" 2 (fxLeast cN cT).sp) (cmean_paper : CalX P w K mg base 5 "mean_paper" 2 (fxPaper cN cT cP).sp) : Cal P w K mg base 7 "_law_graph_right" 2 frGraph.sp := by
  refine cal_of D sc_law_graph_right bi_law_graph_right fun f cdv A outer s H E hr => ⟨_, _, (ps_cons' (ps_asg' (pd_var 1) (pg_tup' 3 rfl (pgs_cons' (pg_name' 8 sc_law_graph_right.nd) (pgs_cons' (pg_name' 9 sc_law_graph_right.nd) (pgs_cons' (pg_name' 10 sc_law_graph_right.nd) pgs_nil')))))
      (ps_cons' (ps_set' 2 sc_law_graph_right.nd (pd_cal c_law_least (hr.mono (by decide)) (pa_cons' (pd_var 10) pa_nil')))
      (ps_cons' (ps_if' (PCm.pdt (c_is (pd_var 2) pd_non))
       (ps_cons' (ps_set' 11 sc_law_graph_right.nd (pd_tup (pa_cons' (pd_tup (pa_cons' (pd_sub (pd_cal c_law_draw (hr.mono (by decide)) (pa_lend (pv_name 0) (pa_cons' pd_int pa_nil'))) pd_int) (pa_cons' pd_int pa_nil'))) (pa_cons' (pd_tupOf B.tuple (PD.pv (PF.pd (pf_lc [("node", 15)] rfl sc_law_graph_right.nd (pi_range1' B.range (pd_var 8)) (blkOk_by (N := n_law_graph_right) (sc := defScope s_law_graph_right) (by decide +kernel)) (fun _ _ _ _ _ => (pg_name' 15 sc_law_graph_right.nd)) own_name (fun _ _ _ _ _ => pt_nil') (fun _ _ _ _ _ => pd_int))))) (pa_cons' (pd_tup (pa_cons' pd_int (pa_cons' pd_int pa_nil'))) pa_nil')))))
        (ps_cons' (ps_if' (PDW.pdt (pdw_or (PCm.pdt (c_isnot (pd_calX cleast_mean (hr.mono (by decide)) passL (pa_cons' (pd_var 8) (pa_cons' (pd_var 9) pa_nil'))) pd_non)) (pdw_or1 (pdt_not (pdt_val (pd_cal c_law_judged (hr.mono (by decide)) (pa_cons' (pd_var 8) (pa_cons' (pd_var 9) (pa_cons' (pd_var 11) (pa_cons' pd_bl pa_nil'))))))))))
         (ps_one' (ps_ret' pd_bl))
         ps_nil')
        (ps_one' (ps_ret' (PCm.pd (c_eq (by exact hr.units) (PD.pv (pd_cal c_law_asked (hr.mono (by decide)) (pa_cons' pd_int (pa_cons' (pd_var 8) (pa_cons' (pd_var 9) (pa_cons' (pd_var 11) pa_nil')))))) (PD.pv (pd_tup (pa_cons' pd_str (pa_cons' pd_str pa_nil'))))))))))
       ps_nil')
      (ps_cons' (ps_set' 3 sc_law_graph_right.nd (pd_cal c_law_lowest (hr.mono (by decide)) (pa_cons' (pd_ix (pv_name 2) pd_int) (pa_cons' (pd_ix (pv_name 2) pd_int) pa_nil'))))
      (ps_cons' (ps_set' 4 sc_law_graph_right.nd (pd_tup (pa_cons' (pd_var 3) (pa_cons' (pd_cal c_law_potentials (hr.mono (by decide)) (pa_cons' (pd_var 8) (pa_cons' (pd_var 9) (pa_cons' (pd_var 3) pa_nil')))) (pa_cons' (pd_catT (PD.pv (pd_ix (pv_name 2) pd_int)) (PD.pv (pd_slT (PD.pv (pd_ix (pv_name 2) pd_int)) po_none' (po_some' pd_int)))) pa_nil')))))
      (ps_cons' (ps_set' 5 sc_law_graph_right.nd (pd_calX cleast_mean (hr.mono (by decide)) passL (pa_cons' (pd_var 8) (pa_cons' (pd_var 9) pa_nil'))))
      (ps_cons' (ps_if' (PDW.pdt (pdw_or (pdt_not (pdt_val (pd_cal c_law_judged (hr.mono (by decide)) (pa_cons' (pd_var 8) (pa_cons' (pd_var 9) (pa_cons' (pd_var 4) (pa_cons' pd_bl pa_nil'))))))) (pdw_or (pdt_not (pdt_val (pd_cal c_law_numbers (hr.mono (by decide)) (pa_cons' (pd_var 5) pa_nil')))) (pdw_or1 (PCm.pdt (c_ne (by exact hr.units) (pv_name 5) (pv_name 3)))))))
       (ps_one' (ps_ret' pd_bl))
       ps_nil')
      (ps_cons' (ps_set' 6 sc_law_graph_right.nd (pd_calX cmean_paper (hr.mono (by decide)) passL (pa_cons' (pd_var 8) (pa_cons' (pd_var 9) pa_nil'))))
      (ps_cons' (ps_if' (PDW.pdt (pdw_or (pdt_not (pdt_val (pd_cal c_law_is_paper (hr.mono (by decide)) (pa_cons' (pd_var 8) (pa_cons' (pd_var 6) pa_nil'))))) (pdw_or (PCm.pdt (c_ne (by exact hr.units) (PD.pv (pd_ix (pv_name 6) pd_int)) (pv_name 3))) (pdw_or1 (pdt_not (pdt_val (pd_cal c_law_judge (hr.mono (by decide)) (pa_cons' (pd_var 8) (pa_cons' (pd_var 9) (pa_cons' (pd_var 6) pa_nil'))))))))))
       (ps_one' (ps_ret' pd_bl))
       ps_nil')
      (ps_cons' (ps_for' PassesOwn.never rfl (pi_range1' B.range pd_int) (pg_name' 7 sc_law_graph_right.nd)
       (ps_cons' (ps_set' 12 sc_law_graph_right.nd (pd_cal c_law_another (hr.mono (by decide)) (pa_lend (pv_name 0) (pa_cons' (pd_cal c_law_pick (hr.mono (by decide)) (pa_lend (pv_name 0) (pa_cons' (PF.pd (pf_lst (pa_cons' (pd_var 4) (pa_cons' (pd_var 6) pa_nil')))) pa_nil'))) pa_nil'))))
        (ps_cons' (ps_if' (pdt_not (pdt_val (pd_cal c_law_judged (hr.mono (by decide)) (pa_cons' (pd_var 8) (pa_cons' (pd_var 9) (pa_cons' (pd_var 12) (pa_cons' pd_bl pa_nil')))))))
         (ps_one' (ps_ret' pd_bl))
         ps_nil')
        (ps_cons' (ps_asg' (pd_cal c_law_changed (hr.mono (by decide)) (pa_lend (pv_name 0) (pa_cons' (pd_var 1) (pa_cons' (pd_cal c_law_pick (hr.mono (by decide)) (pa_lend (pv_name 0) (pa_cons' (PF.pd (pf_lst (pa_cons' (pd_var 4) (pa_cons' (pd_var 6) (pa_cons' (pd_var 12) pa_nil'))))) pa_nil'))) pa_nil')))) (pg_tup' 2 rfl (pgs_cons' (pg_name' 13 sc_law_graph_right.nd) (pgs_cons' (pg_name' 14 sc_law_graph_right.nd) pgs_nil'))))
        (ps_one' (ps_if' (pdt_not (pdt_val (pd_cal c_law_judged (hr.mono (by decide)) (pa_cons' (pd_var 8) (pa_cons' (pd_var 13) (pa_cons' (pd_var 14) (pa_cons' (pd_cal c_law_judge (hr.mono (by decide)) (pa_cons' (pd_var 8) (pa_cons' (pd_var 13) (pa_cons' (pd_var 14) pa_nil')))) pa_nil')))))))
         (ps_one' (ps_ret' pd_bl))
         ps_nil'))))))
      (ps_one' (ps_ret' (PCm.pd (c_eq (by exact hr.units) (PD.pv (pd_calX cmean_paper (hr.mono (by decide)) passL (pa_cons' (pd_var 8) (pa_cons' (pd_var 9) pa_nil')))) (pv_name 6))))))))))))))), ?_⟩
  rintro es P' Ex ρ0 hl ⟨⟨b, n, G, R⟩, rfl, (hg : GraphOk n G R), hp⟩ rfl
  dsimp only [frGraph] at hp
  dsimp only [frGraph]
  have hf := fine_of hg
  have hgn := hg.n1
  have hgn2 := hg.n2
  have fin : ∀ {b : Bag}, P' (.dat (.bl true)) [.lst (bagD b)] := fun {b} => hp _ _ ⟨b, rfl, rfl⟩
  have egr : graphD n G R = .tup [.int (n : Int), arcsD G, rndsD R] := rfl
  rw [egr]
  walk_at "wk0"
  walk_at "wk"
  refine e_call0 fsLeastR R rfl rfl rfl (fun r hr => by have := hg.rb r hr; omega) rfl ?_
  dsimp only [fsLeastR]
  walk_at "wk"
  refine isN_optR (leastR R) (fun hb => ?_) (fun rb hb => ?_)
  · obtain ⟨g1, g2⟩ := graph_none hg hb
    rw [hb]
    walk_at "wk"
    refine call_dr rfl rfl rfl (by decide) (by decide) fun x1 b hx1 ρ e => ?_
    rw [List.set_cons_zero] at e
    subst e
    walk_at "wk"
    rw [Int.toNat_natCast]
    refine e_lcM1 (List.range n) (fun k => .int (k : Int)) (fun _ => .int 0) (rngD_eq n) (by rw [List.length_range]; omega) rfl (by walk_at "set") (fun y hy K1 h1 => ?_) ?_
    · walk_at "wk"
      exact h1 _ rfl
    walk_at "wk"
    have efk : Dt.tup [.tup [.int ((x1 : Int) - 2), .int 1], .tup ((List.range n).map fun _ => Dt.int 0), .tup [.int 0, .int 0]] = papD (((x1 : Int) - 2, 1), List.replicate n 0, [0, 0]) := by
      have : (List.range n).map (fun _ => Dt.int 0) = (List.replicate n (0 : Int)).map Dt.int := by
        rw [List.map_replicate, List.map_const', List.length_range]
      rw [this]
      rfl
    rw [efk]
    have hsm : small (((x1 : Int) - 2, 1), List.replicate n 0, [0, 0]) := ⟨⟨by dsimp only; omega, by dsimp only; omega⟩, by dsimp only; rw [List.length_replicate]; omega, by simp⟩
    walk_at "wk"
    refine call_lm rfl rfl hf ?_
    rw [g1]
    have eo : optF none = .non := rfl
    rw [eo]
    walk_at "wk"
    have e1 : (!isN Dt.non) = false := rfl
    rw [e1]
    walk_at "wk"
    refine call_judged rfl rfl hf hsm (g2 _ _) ?_
    walk_at "wk"
    refine e_call0 fsAsked (1, (n : Int), arcsD G, some (((x1 : Int) - 2, 1), List.replicate n 0, [0, 0])) rfl rfl rfl ⟨pre_arcs hf.2.2.1, fun _ => ⟨_, rfl, hsm⟩⟩ rfl ?_
    dsimp only [fsAsked]
    rw [asked_fine hf, if_neg (by decide), if_pos rfl, g1]
    dsimp only
    walk_at "wk"
    refine e_keq (b := true) rfl rfl (by decide +kernel) (by decide +kernel) (by decide +kernel) ?_
    walk_at "wk"
    exact e_fin rfl fin
  · obtain ⟨g1, g2, g3, g4, g5, g6, g7, q, g8, g9, g10⟩ := graph_some hg hb
    rw [hb]
    have erd : optR (some rb) = .tup [.int rb.1, .int (rb.2.1 : Int), .tup (nodesL rb.2.2)] := rfl
    rw [erd]
    walk_at "wk"
    refine e_call0 fsLowL (rb.1, (rb.2.1 : Int)) rfl rfl rfl ⟨by dsimp only; omega, by dsimp only; omega⟩ rfl ?_
    dsimp only [fsLowL]
    generalize hm : lowF (rb.1, (rb.2.1 : Int)) = m at g1 g2 g3 g8 g10 ⊢
    have hsm : sm m.2 := ⟨by omega, by omega⟩
    walk_at "wk"
    refine e_call0 fsPotL ((n, G, m), q) rfl rfl rfl ⟨hg.ok, by dsimp only; omega, hsm, g8⟩ rfl ?_
    dsimp only [fsPotL]
    walk_at "wk"
    rw [nodesL_cut]
    have ht1 : cut rb.2.2 none (some (1 : Int)) = rb.2.2.take 1 := cut_to (t := 1)
    rw [ht1]
    have htl : (rb.2.2.take 1).length ≤ 1 := by rw [List.length_take]; omega
    refine e_kcatT (xs := nodesL rb.2.2) (ys := nodesL (rb.2.2.take 1)) rfl rfl (by rw [nodesL_len, nodesL_len]; omega) ?_
    rw [nodesL_app]
    walk_at "wk"
    obtain ⟨own, hown⟩ : ∃ own : Pap, own = (m, q.map fun x => -x, rb.2.2 ++ rb.2.2.take 1) := ⟨_, rfl⟩
    have eown : Dt.tup [fracD m, intsD (q.map fun x => -x), .tup (nodesL (rb.2.2 ++ rb.2.2.take 1))] = papD own := by rw [hown]; rfl
    rw [eown]
    have ho1 : judgeP n G own = true := by rw [hown]; exact g10
    have ho2 : own.1 = m ∧ own.2.1.length = n ∧ own.2.2.length ≤ 2000 := by
      rw [hown]
      refine ⟨rfl, by dsimp only; rw [List.length_map]; exact g9, ?_⟩
      dsimp only
      rw [List.length_append]
      omega
    clear hown eown
    refine call_lm rfl rfl hf ?_
    rw [g3]
    have eo : optF (some m) = fracD m := rfl
    rw [eo]
    walk_at "wk"
    have smo : ∀ x : Pap, x.1 = m → x.2.1.length = n → x.2.2.length ≤ 9000 → small x := fun x h1 h2 h3 => ⟨by rw [h1]; exact hsm, by omega, by omega⟩
    refine call_judged rfl rfl hf (smo own ho2.1 ho2.2.1 (by omega)) ho1 ?_
    walk_at "wk"
    refine call_nums (xs := [m.1, m.2]) rfl rfl (by simp) ?_
    walk_at "wk"
    refine e_kne (b := true) rfl rfl (ok_frac m) (ok_frac m) (eq_frac m) ?_
    walk_at "wk"
    refine call_mp rfl rfl hf g3 ?_
    obtain ⟨p1, p2, p3, p4, p5⟩ := paper_right hg.n1 hg.ok g3
    obtain ⟨pap, hpap⟩ : ∃ pap : Pap, pap = (m, potOf n G m, tightRound n G m (potOf n G m)) := ⟨_, rfl⟩
    rw [← hpap]
    have hq1 : judgeP n G pap = true := by rw [hpap]; exact p2
    have hq2 : pap.1 = m ∧ pap.2.1.length = n ∧ pap.2.2.length ≤ 2000 := by
      rw [hpap]
      exact ⟨rfl, p3, by dsimp only; omega⟩
    have hq3 : isPap n pap = true := by
      rw [hpap]
      unfold isPap
      rw [Bool.and_eq_true, decide_eq_true_eq, List.all_eq_true]
      exact ⟨p3, fun x hx => decide_eq_true (p4 x hx)⟩
    walk_at "wk"
    refine e_call0 fsIsPap (n, pap) rfl rfl rfl (smo pap hq2.1 hq2.2.1 (by omega)) rfl ?_
    dsimp only [fsIsPap]
    rw [hq3]
    walk_at "wk"
    rw [hq2.1]
    refine e_kne (b := true) rfl rfl (ok_frac m) (ok_frac m) (eq_frac m) ?_
    walk_at "wk"
    refine e_call0 fsJudge ((n, G), pap) rfl rfl rfl ⟨hg.ok, hf.2.2.1, smo pap hq2.1 hq2.2.1 (by omega)⟩ rfl ?_
    dsimp only [fsJudge]
    rw [hq1]
    walk_at "wk"
    refine e_forI [7, 12, 13, 14] (fun i ρ => ∃ b : Bag, ρ = [some (.own true (.lst (bagD b))), some (.dat (.tup [.int (n : Int), arcsD G, rndsD R])), some (.dat (.tup [.int rb.1, .int (rb.2.1 : Int), .tup (nodesL rb.2.2)])), some (.dat (fracD m)), some (.dat (papD own)), some (.dat (fracD m)), some (.dat (papD pap)), none, some (.dat (.int (n : Int))), some (.dat (arcsD G)), some (.dat (rndsD R)), none, none, none, none, none]) ⟨b, rfl⟩ (fun i x ρ2 hi hI => ?_) (fun ρ2 hI => ?_)
    · obtain ⟨b, rfl⟩ := hI
      obtain ⟨hi5, rfl⟩ := rng_get hi
      walk_at "wk"
      refine call_pk rfl rfl rfl rfl (by simp) (by simp) fun y b hy ρ e => ?_
      rw [List.set_cons_zero] at e
      subst e
      obtain ⟨z, rfl, z1, z2, z3, z4⟩ : ∃ z : Pap, y = papD z ∧ judgeP n G z = true ∧ z.1 = m ∧ z.2.1.length = n ∧ z.2.2.length ≤ 2000 := by
        simp only [List.mem_cons, List.not_mem_nil, or_false] at hy
        rcases hy with rfl | rfl
        · exact ⟨own, rfl, ho1, ho2⟩
        · exact ⟨pap, rfl, hq1, hq2⟩
      walk_at "wk"
      refine e_callR1 frAnother (b, (n, G), z) rfl rfl rfl rfl ⟨hg.ok, z1, by dsimp only; omega, z4⟩ fun r os h => ?_
      obtain ⟨y, b, rfl, rfl, y1, y2, y3⟩ := h
      dsimp only at y1 y2 y3
      refine ⟨_, rfl, fun ρ e => ?_⟩
      rw [List.set_cons_zero] at e
      subst e
      have y4 : y.2.1.length = n := by
        obtain ⟨h1, _⟩ := judge_eq.mp y1
        exact h1
      have smy := smo y (y2.trans z2) y4 (by omega)
      walk_at "wk"
      refine call_judged rfl rfl hf smy y1 ?_
      walk_at "wk"
      refine call_pk rfl rfl rfl rfl (by simp) (by simp) fun u b hu ρ e => ?_
      rw [List.set_cons_zero] at e
      subst e
      obtain ⟨v, rfl, v1, v2, v3, v4⟩ : ∃ v : Pap, u = papD v ∧ judgeP n G v = true ∧ v.1 = m ∧ v.2.1.length = n ∧ v.2.2.length ≤ 9000 := by
        simp only [List.mem_cons, List.not_mem_nil, or_false] at hu
        rcases hu with rfl | rfl | rfl
        · exact ⟨own, rfl, ho1, ho2.1, ho2.2.1, by omega⟩
        · exact ⟨pap, rfl, hq1, hq2.1, hq2.2.1, by omega⟩
        · exact ⟨y, rfl, y1, y2.trans z2, y4, by omega⟩
      have v5 : 2 ≤ v.2.2.length := (judge_eq.mp v1).2.2.1
      walk_at "wk"
      have hRn : R ≠ [] := fun e => by rw [e] at hb; cases hb
      have hGn : G ≠ [] := fun e => by
        obtain ⟨x, l, hw, hl, _⟩ := g4
        cases l with
        | nil => exact hl rfl
        | cons a l => have := hw.1; rw [e] at this; cases this
      refine e_callR1 frChanged (b, (n, G, R), v) rfl rfl rfl rfl ⟨hg, hRn, hGn, v3, by dsimp only; omega, v4, by dsimp only; rw [v2]; exact g1, by dsimp only; rw [v2]; omega⟩ fun r os h => ?_
      obtain ⟨G', y', b, rfl, rfl, c1, c2, c3⟩ := h
      dsimp only at c1
      refine ⟨_, rfl, fun ρ e => ?_⟩
      rw [List.set_cons_zero] at e
      subst e
      walk_at "wk"
      refine e_call0 fsJudge ((n, G'), y') rfl rfl rfl ⟨c1, c2, c3⟩ rfl ?_
      dsimp only [fsJudge]
      walk_at "wk"
      refine call_judged rfl rfl ⟨hgn, by omega, c2, c1⟩ c3 rfl ?_
      walk_at "wk"
      exact ⟨b, rfl⟩
    obtain ⟨b, rfl⟩ := hI
    walk_at "wk"
    refine call_mp rfl rfl hf g3 ?_
    rw [← hpap]
    walk_at "wk"
    refine e_keq (b := true) rfl rfl (ok_pap pap) (ok_pap pap) (eq_pap pap) ?_
    walk_at "wk"
    exact e_fin rfl fin
end
end K85
namespace K85
open PySem PySem.Spec PyProof.Rows L2 Wk
local macro_rules | `(tactic| walk_at "wk") => `(tactic| repeat (first
  | apply_rules -symm -exfalso (transparency := .reducible) (maxDepth := 100000) only [@e_seq, @e_c, @e_ix, @e_set, @e_op, @e_I2, @e_fI0, @e_ifS, @e_tst, @e_ktst, @e_ift, @e_iff, @e_ifnt, @e_ifnf, @e_ret, @e_retF, @e_acons, @e_anil, @e_alend, @e_tup, @e_int, @e_kint, @e_vd, @e_setIx, @e_toL, @e_toT, @e_callD, @e_toD, @e_toDo, @e_callF, @e_kown, @e_frz, @e_len, @e_setF, @e_lst, @e_and, @e_or, @e_not, @e_andV, @e_orV, @e_notV, @e_kandV, @e_korV, @e_knotV, @e_ifE, @e_is, @e_isnot, @e_neg, @e_kneg, @e_par, @e_asg, @e_gnil, @e_gcons, @e_slT, @e_slL, @e_nopart, @e_part, @e_kpart, @e_sum, @e_min, @e_max, @e_abs, @e_kabs, @e_MM, @e_kMM, @e_tupOf, @e_lstOf, @e_isi, @e_inI, @e_dget, @e_din, @e_dnew, @e_catT, @e_catL, @e_index, @e_eq, @e_chain, @e_kchain, @e_kchain2, @e_drop, @e_next, @e_brk, @e_cnt, @e_retnon, @e_setK, @e_iL, @e_kL, @e_iT, @e_kT, @e_iR1, @e_iR2, @e_for, @e_yes, @e_lc, @e_raise, @e_try, @e_isX, @e_xf]
  | ((with_reducible refine' e_var ?k1 ?_); (case k1 => exact rfl))
  | ((with_reducible refine' e_kset ?k1 ?k2 ?_); (case k1 => exact rfl); (case k2 => (with_reducible (first | exact st0 | exact st1 | exact st2 | exact st3 | exact st4 | exact st5 | exact st6 | exact st7 | exact st8 | exact st9 | exact st10 | exact st11 | exact st12 | exact st13 | exact st14 | exact st15 | exact st16 | exact st17 | exact st18 | exact st19 | exact st20))))
  | ((with_reducible refine' e_ktup ?k1 ?k2 ?_); (case k1 => exact rfl); (case k2 => exact rfl))
  | ((with_reducible refine' e_kix ?k1 ?k2 ?k3 ?_); (case k1 => exact rfl); (case k2 => exact rfl); (case k3 => exact rfl))
  | ((with_reducible refine' e_vn ?k1 ?_); (case k1 => exact rfl))
  | ((with_reducible refine' e_varL ?k1 ?k2 ?_); (case k1 => exact rfl); (case k2 => (with_reducible (first | exact st0 | exact st1 | exact st2 | exact st3 | exact st4 | exact st5 | exact st6 | exact st7 | exact st8 | exact st9 | exact st10 | exact st11 | exact st12 | exact st13 | exact st14 | exact st15 | exact st16 | exact st17 | exact st18 | exact st19 | exact st20))))
  | ((with_reducible refine' e_app ?k1 ?_); (case k1 => exact rfl))
  | ((with_reducible refine' e_kapp ?k1 ?k2 ?k3 ?_); (case k1 => exact rfl); (case k2 => (simp only [List.length_append, List.length_map, List.length_cons, List.length_nil]; omega)); (case k3 => (with_reducible (first | exact st0 | exact st1 | exact st2 | exact st3 | exact st4 | exact st5 | exact st6 | exact st7 | exact st8 | exact st9 | exact st10 | exact st11 | exact st12 | exact st13 | exact st14 | exact st15 | exact st16 | exact st17 | exact st18 | exact st19 | exact st20))))
  | ((with_reducible refine' e_ksetF ?k1 ?k2 ?_); (case k1 => exact rfl); (case k2 => (with_reducible (first | exact st0 | exact st1 | exact st2 | exact st3 | exact st4 | exact st5 | exact st6 | exact st7 | exact st8 | exact st9 | exact st10 | exact st11 | exact st12 | exact st13 | exact st14 | exact st15 | exact st16 | exact st17 | exact st18 | exact st19 | exact st20))))
  | ((with_reducible refine' e_klen ?k1 ?k2 ?_); (case k1 => exact rfl); (case k2 => exact rfl))
  | ((with_reducible refine' e_klst ?k1 ?k2 ?_); (case k1 => exact rfl); (case k2 => exact rfl))
  | ((with_reducible refine' e_gtup ?k1 ?_); (case k1 => exact rfl))
  | ((with_reducible refine' e_gN ?k1 ?k2 ?_); (case k1 => exact rfl); (case k2 => (with_reducible (first | exact st0 | exact st1 | exact st2 | exact st3 | exact st4 | exact st5 | exact st6 | exact st7 | exact st8 | exact st9 | exact st10 | exact st11 | exact st12 | exact st13 | exact st14 | exact st15 | exact st16 | exact st17 | exact st18 | exact st19 | exact st20))))
  | ((with_reducible refine' e_varT ?k1 ?k2 ?_); (case k1 => exact rfl); (case k2 => (with_reducible (first | exact st0 | exact st1 | exact st2 | exact st3 | exact st4 | exact st5 | exact st6 | exact st7 | exact st8 | exact st9 | exact st10 | exact st11 | exact st12 | exact st13 | exact st14 | exact st15 | exact st16 | exact st17 | exact st18 | exact st19 | exact st20))))
  | ((with_reducible refine' e_mulR ?k1 ?k2 ?_); (case k1 => omega); (case k2 => omega))
  | ((with_reducible refine' e_mulL ?k1 ?k2 ?_); (case k1 => omega); (case k2 => omega))
  | ((with_reducible refine' e_div ?k1 ?k2 ?_); (case k1 => omega); (case k2 => omega))
  | ((with_reducible refine' e_mod ?k1 ?_); (case k1 => omega))
  | ((with_reducible refine' e_retN ?k1 ?_); (case k1 => exact rfl))
  | ((with_reducible refine' e_retNO ?k1 ?k2 ?_); (case k1 => exact rfl); (case k2 => (with_reducible (first | exact st0 | exact st1 | exact st2 | exact st3 | exact st4 | exact st5 | exact st6 | exact st7 | exact st8 | exact st9 | exact st10 | exact st11 | exact st12 | exact st13 | exact st14 | exact st15 | exact st16 | exact st17 | exact st18 | exact st19 | exact st20))))
  | ((with_reducible refine' e_setIx1 ?k1 ?_); (case k1 => exact rfl))
  | ((with_reducible refine' e_ksetIx ?k1 ?k2 ?k3 ?_); (case k1 => exact rfl); (case k2 => exact rfl); (case k3 => (with_reducible (first | exact st0 | exact st1 | exact st2 | exact st3 | exact st4 | exact st5 | exact st6 | exact st7 | exact st8 | exact st9 | exact st10 | exact st11 | exact st12 | exact st13 | exact st14 | exact st15 | exact st16 | exact st17 | exact st18 | exact st19 | exact st20))))
  | ((with_reducible refine' e_kpar ?k1 ?k2 ?k3 ?_); (case k1 => exact rfl); (case k2 => exact rfl); (case k3 => (repeat (first | exact set_0 | apply set_s))))
  | ((with_reducible refine' e_aug ?k1 ?_); (case k1 => exact rfl))
  | ((with_reducible refine' e_kaug ?k1 ?k2 ?_); (case k1 => exact rfl); (case k2 => (with_reducible (first | exact st0 | exact st1 | exact st2 | exact st3 | exact st4 | exact st5 | exact st6 | exact st7 | exact st8 | exact st9 | exact st10 | exact st11 | exact st12 | exact st13 | exact st14 | exact st15 | exact st16 | exact st17 | exact st18 | exact st19 | exact st20))))
  | ((with_reducible refine' e_kslT ?k1 ?_); (case k1 => exact rfl))
  | ((with_reducible refine' e_kslL ?k1 ?_); (case k1 => exact rfl))
  | ((with_reducible refine' e_ksum ?k1 ?_); (case k1 => exact rfl))
  | ((with_reducible refine' e_ktupOf ?k1 ?k2 ?_); (case k1 => exact rfl); (case k2 => exact rfl))
  | ((with_reducible refine' e_klstOf ?k1 ?k2 ?_); (case k1 => exact rfl); (case k2 => exact rfl))
  | ((with_reducible refine' e_kisi ?k1 ?k2 ?k3 ?_); (case k1 => exact rfl); (case k2 => exact rfl); (case k3 => (first | exact ks_ii | exact ks_ib | exact ks_bi | exact ks_bb | exact ks_ni | exact ks_nb | exact ks_tt | exact ks_lt | exact ks_it | exact ks_nt | exact ks_ti | exact ks_si)))
  | ((with_reducible refine' e_kR1 ?k1 ?k2 ?_); (case k1 => omega); (case k2 => omega))
  | ((with_reducible refine' e_kR2 ?k1 ?_); (case k1 => omega))
  ))
local macro_rules | `(tactic| walk_at "wk0") => `(tactic| (unfold endsF; (with_reducible refine' st_rho ?k1 ?_); (case k1 => repeat (first | exact rh_0 | (with_reducible apply rh_m) | (with_reducible apply rh_n) | apply rh_s))))
local macro_rules | `(tactic| walk_at "set") => `(tactic| with_reducible (first | exact st0 | exact st1 | exact st2 | exact st3 | exact st4 | exact st5 | exact st6 | exact st7 | exact st8 | exact st9 | exact st10 | exact st11 | exact st12 | exact st13 | exact st14 | exact st15 | exact st16 | exact st17 | exact st18 | exact st19 | exact st20))
abbrev s_law_refused : Stmt := topS 41
abbrev n_law_refused : List Str := ["bag", "kind", "cost", "beyond", "many", "arcs", "due", "paper", "which", "wrong", "place", "good", "answer", "at", "node"]
theorem sc_law_refused : FnScope ["bag", "kind", "cost", "beyond", "many", "arcs", "due", "paper", "which", "wrong", "place", "good", "answer", "at", "node"] ["bag"] (defScope s_law_refused) := ⟨rfl, rfl, rfl, by decide +kernel, rfl, by decide +kernel, by decide +kernel⟩
theorem bi_law_refused : BindOk "_law_refused" s_law_refused ["bag"] := fun _ _ _ _ _ _ us hl => match us, hl with | [_], _ => rfl
def g2 (n : Nat) (c : Int) : List Arc := [(n - 1, n - 1, c), (0, n - 1, c + 3)]
def g7 (n : Nat) (c : Int) (k : Nat) : List Arc := (List.range k).map fun i : Nat => (n - 1, n - 1, c + (i : Int) % 7)
theorem g7_len {n : Nat} {c : Int} {k : Nat} : (g7 n c k).length = k := by unfold g7; rw [List.length_map, List.length_range]
theorem g2_ok {n : Nat} {c : Int} (hn : 1 ≤ n) : okA n (g2 n c) := fun a ha => by
  simp only [g2, List.mem_cons, List.not_mem_nil, or_false] at ha
  rcases ha with rfl | rfl <;> dsimp only <;> omega
theorem g2_least {n : Nat} {c : Int} : ∀ a ∈ g2 n c, c ≤ a.2.2 := fun a ha => by
  simp only [g2, List.mem_cons, List.not_mem_nil, or_false] at ha
  rcases ha with rfl | rfl <;> dsimp only <;> omega
theorem g7_ok {n : Nat} {c : Int} {k : Nat} (hn : 1 ≤ n) : okA n (g7 n c k) := fun a ha => by
  obtain ⟨i, _, rfl⟩ := List.mem_map.mp ha
  dsimp only
  omega
theorem g7_least {n : Nat} {c : Int} {k : Nat} : ∀ a ∈ g7 n c k, c ≤ a.2.2 := fun a ha => by
  obtain ⟨i, _, rfl⟩ := List.mem_map.mp ha
  dsimp only
  omega
theorem g7_loop {n : Nat} {c : Int} {k : Nat} (hk : 1 ≤ k) : (n - 1, n - 1, c) ∈ g7 n c k := List.mem_map.mpr ⟨0, List.mem_range.mpr (by omega), by
  have : c + ((0 : Nat) : Int) % 7 = c := by omega
  rw [this]⟩
theorem loopy {n : Nat} {G : List Arc} {c : Int} (hn : 1 ≤ n) (hG : okA n G) (h1 : (n - 1, n - 1, c) ∈ G) (h2 : ∀ a ∈ G, c ≤ a.2.2) : leastMean n G = some (c, 1) ∧ judgeP n G ((c, 1), List.replicate n 0, [n - 1, n - 1]) = true := by
  have hz : ∀ v, (List.replicate n (0 : Int)).getD v 0 = 0 := fun v => by
    rw [List.getD_eq_getElem?_getD, List.getElem?_replicate]
    split <;> rfl
  have hF : Feas G (c, 1) (List.replicate n 0) := fun a ha => by
    rw [hz, hz]
    have := h2 a ha
    unfold spareF
    dsimp only
    omega
  have hN := feas_noneg hF
  have hw : IsW G (n - 1) [(n - 1, n - 1, c)] (n - 1) := ⟨h1, rfl, rfl⟩
  have h0 : costW (c, 1) [((n - 1, n - 1, c) : Arc)] = 0 := by
    show c * 1 - c + 0 = 0
    omega
  refine ⟨?_, ?_⟩
  · rw [least_is hG hn Int.one_pos hN hw h0 (by simp), low_one]
  · refine judge_ch hF Int.one_pos List.length_replicate (by simp) rfl ⟨⟨(n - 1, n - 1, c), ?_, rfl, rfl⟩, trivial⟩
    unfold tightL
    refine List.mem_filter.mpr ⟨h1, ?_⟩
    unfold isTight
    rw [decide_eq_true_eq, hz]
    show (0 : Int) = 0 + (c * 1 - c)
    omega
theorem pap_facts {n : Nat} {G : List Arc} {c : Int} (hf : fine n G) (h : leastMean n G = some (c, 1)) : judgeP n G ((c, 1), potOf n G (c, 1), tightRound n G (c, 1) (potOf n G (c, 1))) = true ∧ isPap n ((c, 1), potOf n G (c, 1), tightRound n G (c, 1) (potOf n G (c, 1))) = true ∧ small ((c, 1), potOf n G (c, 1), tightRound n G (c, 1) (potOf n G (c, 1))) := by
  obtain ⟨f1, f2, f3, f4⟩ := hf
  obtain ⟨p1, p2, p3, p4, p5⟩ := paper_right f1 f4 h
  refine ⟨p2, ?_, ⟨by dsimp only; omega, by dsimp only; omega⟩, by dsimp only; omega, by dsimp only; omega⟩
  unfold isPap
  rw [Bool.and_eq_true, decide_eq_true_eq, List.all_eq_true]
  exact ⟨p3, fun x hx => decide_eq_true (p4 x hx)⟩
theorem pap_eq {n : Nat} {c : Int} (hn : 1 ≤ n) : Dt.tup [.tup [.int c, .int 1], .tup ((List.range n).map fun _ => Dt.int 0), .tup [.int ((n : Int) - 1), .int ((n : Int) - 1)]] = papD ((c, 1), List.replicate n 0, [n - 1, n - 1]) := by
  have e1 : (List.range n).map (fun _ => Dt.int 0) = (List.replicate n (0 : Int)).map Dt.int := by
    rw [List.map_replicate, List.map_const', List.length_range]
  rw [e1, show (n : Int) - 1 = ((n - 1 : Nat) : Int) by omega]
  rfl
theorem pap_small {n : Nat} {c : Int} (h1 : 1 ≤ n) (h2 : n ≤ 201) : small ((c, 1), List.replicate n 0, [n - 1, n - 1]) := ⟨⟨by dsimp only; omega, by dsimp only; omega⟩, by dsimp only; rw [List.length_replicate]; omega, by simp⟩
theorem g2_eq {n : Nat} {c : Int} (hn : 1 ≤ n) : Dt.tup [.tup [.int ((n : Int) - 1), .int ((n : Int) - 1), .int c], .tup [.int 0, .int ((n : Int) - 1), .int (c + 3)]] = arcsD (g2 n c) := by
  rw [show (n : Int) - 1 = ((n - 1 : Nat) : Int) by omega]
  rfl
theorem arc7_eq {n : Nat} {x : Int} (hn : 1 ≤ n) : Dt.tup [.int ((n : Int) - 1), .int ((n : Int) - 1), .int x] = arcD (n - 1, n - 1, x) := by
  rw [show (n : Int) - 1 = ((n - 1 : Nat) : Int) by omega]
  rfl
theorem ok_told (c : Int) : okn 60 (.tup [.str "told", .tup [.int c, .int 1]]) = true := by
  show (okn 59 (.str "told") && (okn 59 (intsD [c, 1]) && true)) = true
  have h : okn 59 (.str "told") = true := by decide +kernel
  rw [h, ok_ints 58 [c, 1]]
  rfl
theorem eq_told (c : Int) : eqbn 60 (.tup [.str "told", .tup [.int c, .int 1]]) (.tup [.str "told", .tup [.int c, .int 1]]) = true := by
  show (eqbn 59 (.str "told") (.str "told") && (eqbn 59 (intsD [c, 1]) (intsD [c, 1]) && true)) = true
  have h : eqbn 59 (.str "told") (.str "told") = true := by decide +kernel
  rw [h, eq_ints 58 [c, 1]]
  rfl
theorem chk_any {N : Nat} {xs : List Dt} (hN : 1 ≤ N) (h : xs.any (badA (N : Int)) = true) : chkT (N : Int) (.tup xs) = some .v := by
  unfold chkT
  rw [if_neg (by omega)]
  dsimp only
  rw [if_pos h]
theorem ask_bad {N : Nat} {xs : List Dt} {w : Dt} (hN : 1 ≤ N) (hw : w ∈ xs) (hb : badA (N : Int) w = true) (i : Nat) (x : Option Pap) : askOut i (N : Int) (.tup xs) x = tagD "value" (.str "arcs") := by
  unfold askOut
  rw [chk_any hN (List.any_eq_true.mpr ⟨w, hw, hb⟩)]
theorem ask_lst {N : Nat} {xs : List Dt} (hN : 1 ≤ N) (i : Nat) (x : Option Pap) : askOut i (N : Int) (.lst xs) x = tagD "value" (.str "arcs") := by
  unfold askOut chkT
  rw [if_neg (by omega)]
theorem ask_many {N : Nat} {G : List Arc} (hN : 1 ≤ N) (hG : okA N G) (h : 200 < N ∨ 4000 < G.length) (i : Nat) (x : Option Pap) : askOut i (N : Int) (arcsD G) x = tagD "many" (.str "arcs") := by
  have hall : (G.map arcD).any (badA N) = false := by
    rw [List.any_eq_false]
    intro x hx
    obtain ⟨a, ha, rfl⟩ := List.mem_map.mp hx
    have := hG a ha
    show ¬ (decide (min (a.1 : Int) (a.2.1 : Int) < 0) || decide ((N : Int) ≤ max (a.1 : Int) (a.2.1 : Int))) = true
    rw [Bool.or_eq_true, decide_eq_true_eq, decide_eq_true_eq]
    omega
  have e : chkT (N : Int) (arcsD G) = some .m := by
    unfold chkT
    rw [if_neg (by omega)]
    show (if ((G.map arcD).any (badA N)) = true then _ else if 200 < (N : Int) ∨ 4000 < (G.map arcD).length then _ else _) = _
    rw [hall, if_neg Bool.false_ne_true, if_pos (by rw [List.length_map]; omega)]
  unfold askOut
  rw [e]
theorem tame_arc (a : Arc) : tame (arcD a) := ⟨rfl, fun ys e y hy => by
  cases e
  simp only [List.mem_cons, List.not_mem_nil, or_false] at hy
  rcases hy with rfl | rfl | rfl <;> rfl⟩
theorem pre_arcs7 {n : Int} {arcs : List Arc} (h : arcs.length ≤ 4001) : preA (n, arcsD arcs) := by
  refine ⟨rfl, fun xs e => ?_⟩
  cases e
  refine ⟨by rw [List.length_map]; omega, fun x hx => ?_⟩
  obtain ⟨a, _, rfl⟩ := List.mem_map.mp hx
  exact tame_arc a
theorem tame_t {xs : List Dt} (h : ∀ y ∈ xs, isScr y = false) : tame (.tup xs) := ⟨rfl, fun ys e => by cases e; exact h⟩
theorem bad_of {N u v c : Int} (h : u < 0 ∨ v < 0 ∨ N ≤ u ∨ N ≤ v) : badA N (.tup [.int u, .int v, .int c]) = true := by
  show (decide (min u v < 0) || decide (N ≤ max u v)) = true
  rw [Bool.or_eq_true, decide_eq_true_eq, decide_eq_true_eq]
  omega
theorem cut_mem {α : Type} {xs : List α} {lo hi : Option Int} {x : α} (h : x ∈ cut xs lo hi) : x ∈ xs := by
  unfold cut at h
  exact List.mem_of_mem_drop (List.mem_of_mem_take h)
theorem pre_mix {m : Int} (N : Nat) (c : Int) (pl : Nat) {w : Dt} (hw : tame w) : preA (m, .tup (cut ((g2 N c).map arcD) none (some (pl : Int)) ++ [w] ++ cut ((g2 N c).map arcD) (some (pl : Int)) none)) := by
  refine ⟨rfl, fun xs e => ?_⟩
  cases e
  refine ⟨?_, fun x hx => ?_⟩
  · have h1 := cut_le ((g2 N c).map arcD) none (some (pl : Int))
    have h2 := cut_le ((g2 N c).map arcD) (some (pl : Int)) none
    have h3 : ((g2 N c).map arcD).length = 2 := rfl
    rw [List.length_append, List.length_append, List.length_singleton]
    omega
  · rcases List.mem_append.mp hx with z | z
    · rcases List.mem_append.mp z with z | z
      · obtain ⟨a, _, rfl⟩ := List.mem_map.mp (cut_mem z)
        exact tame_arc a
      · rw [List.mem_singleton] at z
        rw [z]
        exact hw
    · obtain ⟨a, _, rfl⟩ := List.mem_map.mp (cut_mem z)
      exact tame_arc a
theorem pre_two {m : Int} (G : List Arc) (hG : G.length ≤ 1000 := by decide) : preA (m, .tup (G.map arcD ++ [.tup [.int 0, .int 0], .tup [.int 0, .int 0, .int 1]])) := by
  refine ⟨rfl, fun xs e => ?_⟩
  cases e
  refine ⟨by rw [List.length_append, List.length_map]; simp only [List.length_cons, List.length_nil]; omega, fun x hx => ?_⟩
  rcases List.mem_append.mp hx with z | z
  · obtain ⟨a, _, rfl⟩ := List.mem_map.mp z
    exact tame_arc a
  · simp only [List.mem_cons, List.not_mem_nil, or_false] at z
    rcases z with rfl | rfl
    · exact tame_t (by simp [isScr])
    · exact tame_t (by simp [isScr])
def frRefused : FR := ⟨Bag, fun b => [.own true (.lst (bagD b))], fun _ => True, fun _ r os => ∃ b : Bag, r = .dat (.bl true) ∧ os = [.lst (bagD b)]⟩
section
variable {P : Program} {w : World} {K : PySem.W.Frag} {mg : Str → Option Value} {base : Heap}
theorem ok_refused (D : Df K mg "_law_refused" s_law_refused) (B : Bi mg) (c_law_draw : Cal P w K mg base 1 "_law_draw" 2 frDraw.sp) (c_law_pick : Cal P w K mg base 2 "_law_pick" 2 frPick.sp) (c_law_judge : Cal P w K mg base 2 "_law_judge" 3 fsJudge.sp) (c_law_is_paper : Cal P w K mg base 3 "_law_is_paper" 2 fsIsPap.sp) (c_law_asked : Cal P w K mg base 6 "_law_asked" 4 fsAsked.sp) : Cal P w K mg base 7 "_law_refused" 1 frRefused.sp := by
  refine cal_of D sc_law_refused bi_law_refused fun f cdv A outer s H E hr => ⟨_, _, (ps_cons' (ps_set' 1 sc_law_refused.nd (pd_cal c_law_draw (hr.mono (by decide)) (pa_lend (pv_name 0) (pa_cons' pd_int pa_nil'))))
      (ps_cons' (ps_set' 2 sc_law_refused.nd (pd_sub (pd_cal c_law_draw (hr.mono (by decide)) (pa_lend (pv_name 0) (pa_cons' pd_int pa_nil'))) pd_int))
      (ps_cons' (ps_set' 3 sc_law_refused.nd (pd_cal c_law_draw (hr.mono (by decide)) (pa_lend (pv_name 0) (pa_cons' pd_int pa_nil'))))
      (ps_cons' (ps_set' 4 sc_law_refused.nd (pd_ifE (PCm.pdt (c_eqI (pd_var 1) pd_int)) (pd_add pd_int (pd_var 3)) (pd_add pd_int (pd_cal c_law_draw (hr.mono (by decide)) (pa_lend (pv_name 0) (pa_cons' pd_int pa_nil'))))))
      (ps_cons' (ps_set' 5 sc_law_refused.nd (pd_tup (pa_cons' (pd_tup (pa_cons' (pd_sub (pd_var 4) pd_int) (pa_cons' (pd_sub (pd_var 4) pd_int) (pa_cons' (pd_var 2) pa_nil')))) (pa_cons' (pd_tup (pa_cons' pd_int (pa_cons' (pd_sub (pd_var 4) pd_int) (pa_cons' (pd_add (pd_var 2) pd_int) pa_nil')))) pa_nil'))))
      (ps_cons' (ps_if' (PCm.pdt (c_eqI (pd_var 1) pd_int))
       (ps_one' (ps_set' 5 sc_law_refused.nd (pd_tupOf B.tuple (PD.pv (PF.pd (pf_lc [("at", 13)] rfl sc_law_refused.nd (pi_range1' B.range (pd_add pd_int (pd_var 3))) (blkOk_by (N := n_law_refused) (sc := defScope s_law_refused) (by decide +kernel)) (fun _ _ _ _ _ => (pg_name' 13 sc_law_refused.nd)) own_name (fun _ _ _ _ _ => pt_nil') (fun _ _ _ _ _ => (pd_tup (pa_cons' (pd_sub (pd_var 4) pd_int) (pa_cons' (pd_sub (pd_var 4) pd_int) (pa_cons' (pd_add (pd_var 2) (pd_mod (pd_toint B.int (pd_var 13)) pd_int)) pa_nil')))))))))))
       ps_nil')
      (ps_cons' (ps_set' 6 sc_law_refused.nd (pd_ifE (PCm.pdt (c_eqI (pd_var 3) pd_int)) (pd_tup (pa_cons' pd_str (pa_cons' pd_str pa_nil'))) (pd_tup (pa_cons' pd_str (pa_cons' (pd_tup (pa_cons' (pd_var 2) (pa_cons' pd_int pa_nil'))) pa_nil')))))
      (ps_cons' (ps_if' (PCm.pdt (c_gt (pd_var 1) pd_int))
       (ps_cons' (ps_set' 9 sc_law_refused.nd (pd_cal c_law_pick (hr.mono (by decide)) (pa_lend (pv_name 0) (pa_cons' (PF.pd (pf_lst (pa_cons' (pd_tup (pa_cons' pd_int (pa_cons' pd_int pa_nil'))) (pa_cons' (PF.pd (pf_lst (pa_cons' pd_int (pa_cons' pd_int (pa_cons' pd_int pa_nil'))))) (pa_cons' (pd_tup (pa_cons' pd_int (pa_cons' (pd_var 4) (pa_cons' pd_int pa_nil')))) (pa_cons' (pd_tup (pa_cons' (pd_var 4) (pa_cons' pd_int (pa_cons' pd_int pa_nil')))) (pa_cons' (pd_tup (pa_cons' (pd_neg pd_int) (pa_cons' pd_int (pa_cons' pd_int pa_nil')))) (pa_cons' (pd_tup (pa_cons' pd_int (pa_cons' pd_int (pa_cons' pd_bl pa_nil')))) (pa_cons' (pd_tup (pa_cons' pd_int (pa_cons' pd_int (pa_cons' pd_non pa_nil')))) pa_nil'))))))))) pa_nil'))))
        (ps_cons' (ps_set' 10 sc_law_refused.nd (pd_cal c_law_draw (hr.mono (by decide)) (pa_lend (pv_name 0) (pa_cons' pd_int pa_nil'))))
        (ps_cons' (ps_set' 11 sc_law_refused.nd (pd_var 5))
        (ps_cons' (ps_set' 5 sc_law_refused.nd (pd_catT (PD.pv (pd_catT (PD.pv (pd_slT (pv_name 11) po_none' (po_some' (pd_var 10)))) (PD.pv (pd_tup (pa_cons' (pd_var 9) pa_nil'))))) (PD.pv (pd_slT (pv_name 11) (po_some' (pd_var 10)) po_none'))))
        (ps_cons' (ps_set' 6 sc_law_refused.nd (pd_tup (pa_cons' pd_str (pa_cons' pd_str pa_nil'))))
        (ps_cons' (ps_if' (PDW.pdt (pdw_and (PCm.pdt (c_eqI (pd_var 1) pd_int)) (pdw_and1 (PCm.pdt (c_eqI (pd_var 3) pd_int)))))
         (ps_one' (ps_set' 5 sc_law_refused.nd (PF.pd (pf_lstOf B.list (pv_name 11)))))
         ps_nil')
        (ps_cons' (ps_if' (PCm.pdt (c_ne (by exact hr.units) (PD.pv (pd_cal c_law_asked (hr.mono (by decide)) (pa_cons' pd_int (pa_cons' (pd_var 4) (pa_cons' (pd_var 11) (pa_cons' pd_non pa_nil')))))) (PD.pv (pd_tup (pa_cons' pd_str (pa_cons' (pd_tup (pa_cons' (pd_var 2) (pa_cons' pd_int pa_nil'))) pa_nil'))))))
         (ps_one' (ps_ret' pd_bl))
         ps_nil')
        (ps_one' (ps_if' (PDW.pdt (pdw_and (PCm.pdt (c_eqI (pd_var 3) pd_int)) (pdw_and1 (PCm.pdt (c_ne (by exact hr.units) (PD.pv (pd_cal c_law_asked (hr.mono (by decide)) (pa_cons' pd_int (pa_cons' pd_int (pa_cons' (pd_catT (pv_name 11) (PD.pv (pd_tup (pa_cons' (pd_tup (pa_cons' pd_int (pa_cons' pd_int pa_nil'))) (pa_cons' (pd_tup (pa_cons' pd_int (pa_cons' pd_int (pa_cons' pd_int pa_nil')))) pa_nil'))))) (pa_cons' pd_non pa_nil')))))) (pv_name 6))))))
         (ps_one' (ps_ret' pd_bl))
         ps_nil')))))))))
       ps_nil')
      (ps_cons' (ps_set' 7 sc_law_refused.nd (pd_tup (pa_cons' (pd_tup (pa_cons' (pd_var 2) (pa_cons' pd_int pa_nil'))) (pa_cons' (pd_tupOf B.tuple (PD.pv (PF.pd (pf_lc [("node", 14)] rfl sc_law_refused.nd (pi_range1' B.range (pd_var 4)) (blkOk_by (N := n_law_refused) (sc := defScope s_law_refused) (by decide +kernel)) (fun _ _ _ _ _ => (pg_name' 14 sc_law_refused.nd)) own_name (fun _ _ _ _ _ => pt_nil') (fun _ _ _ _ _ => pd_int))))) (pa_cons' (pd_tup (pa_cons' (pd_sub (pd_var 4) pd_int) (pa_cons' (pd_sub (pd_var 4) pd_int) pa_nil'))) pa_nil')))))
      (ps_cons' (ps_for' PassesOwn.never rfl (pi_range1' B.range pd_int) (pg_name' 8 sc_law_refused.nd)
       (ps_cons' (ps_set' 12 sc_law_refused.nd (pd_cal c_law_asked (hr.mono (by decide)) (pa_cons' (pd_var 8) (pa_cons' (pd_var 4) (pa_cons' (pd_var 5) (pa_cons' (pd_var 7) pa_nil'))))))
        (ps_one' (ps_if' (PDW.pdt (pdw_and (PCm.pdt (c_eq (by exact hr.units) (PD.pv (pd_ix (pv_name 6) pd_int)) (PD.pv pd_str))) (pdw_and1 (PCm.pdt (c_gt (pd_var 8) pd_int)))))
         (ps_cons' (ps_if' (PDW.pdt (pdw_and (PCm.pdt (c_eqI (pd_var 8) pd_int)) (pdw_and1 (PCm.pdt (c_ne (by exact hr.units) (pv_name 12) (PD.pv (pd_tup (pa_cons' pd_str (pa_cons' pd_bl pa_nil')))))))))
           (ps_one' (ps_ret' pd_bl))
           ps_nil')
          (ps_cons' (ps_if' (PDW.pdt (pdw_and (PCm.pdt (c_eqI (pd_var 8) pd_int)) (pdw_and1 (PDW.pdt (pdw_or (PCm.pdt (c_ne (by exact hr.units) (PD.pv (pd_ix (pv_name 12) pd_int)) (PD.pv pd_str))) (pdw_or1 (pdt_not (pdt_val (pd_cal c_law_is_paper (hr.mono (by decide)) (pa_cons' (pd_var 4) (pa_cons' (pd_ix (pv_name 12) pd_int) pa_nil')))))))))))
           (ps_one' (ps_ret' pd_bl))
           ps_nil')
          (ps_one' (ps_if' (PDW.pdt (pdw_and (PCm.pdt (c_eqI (pd_var 8) pd_int)) (pdw_and1 (pdt_not (pdt_val (pd_cal c_law_judge (hr.mono (by decide)) (pa_cons' (pd_var 4) (pa_cons' (pd_var 5) (pa_cons' (pd_ix (pv_name 12) pd_int) pa_nil')))))))))
           (ps_one' (ps_ret' pd_bl))
           ps_nil'))))
         (ps_one' (ps_if' (PCm.pdt (c_ne (by exact hr.units) (pv_name 12) (pv_name 6)))
           (ps_one' (ps_ret' pd_bl))
           ps_nil'))))))
      (ps_one' (ps_ret' pd_bl)))))))))))), ?_⟩
  rintro es P' Ex ρ0 hl ⟨(b : Bag), rfl, _, hp⟩ rfl
  dsimp only [frRefused] at hp
  dsimp only [frRefused]
  have fin : ∀ {b : Bag}, P' (.dat (.bl true)) [.lst (bagD b)] := fun {b} => hp _ _ ⟨b, rfl, rfl⟩
  walk_at "wk0"
  walk_at "wk"
  refine call_dr rfl rfl rfl (by omega) (by omega) fun kind b hkind ρ e => ?_
  rw [List.set_cons_zero] at e
  subst e
  walk_at "wk"
  refine call_dr rfl rfl rfl (by omega) (by omega) fun c0 b hc0 ρ e => ?_
  rw [List.set_cons_zero] at e
  subst e
  walk_at "wk"
  generalize (c0 : Int) - 1000 = c
  refine call_dr rfl rfl rfl (by omega) (by omega) fun bey b hbey ρ e => ?_
  rw [List.set_cons_zero] at e
  subst e
  walk_at "wk"
  have hk4 : kind = 0 ∨ kind = 1 ∨ kind = 2 ∨ kind = 3 := by omega
  have hb2 : bey = 0 ∨ bey = 1 := by omega
  rcases hk4 with hk | hk | hk | hk
  · rcases hb2 with hb | hb
    · refine e_ifd (fun _ => ?_) (fun h => absurd (by omega) h)
      walk_at "wk"
      obtain ⟨N, hN⟩ : ∃ N : Nat, (N : Int) = 200 + (bey : Int) := ⟨200 + bey, by omega⟩
      rw [← hN]
      have hN1 : 1 ≤ N := by omega
      have hN2 : N ≤ 201 := by omega
      have epap := pap_eq (c := c) hN1
      have hsm := pap_small (c := c) hN1 hN2
      walk_at "wk"
      rw [g2_eq hN1]
      walk_at "wk"
      refine e_ifd (fun h => absurd h (by omega)) (fun _ => ?_)
      walk_at "wk"
      refine e_ifd (fun h => absurd h (by omega)) (fun _ => ?_)
      walk_at "wk"
      refine e_ifd (fun h => absurd h (by omega)) (fun _ => ?_)
      walk_at "wk"
      have hfin : fine N (g2 N c) := ⟨hN1, by omega, (show 2 ≤ 4000 by decide), g2_ok hN1⟩
      have hloop : (N - 1, N - 1, c) ∈ g2 N c := List.mem_cons_self
      have hleast : ∀ a ∈ g2 N c, c ≤ a.2.2 := g2_least
      generalize g2 N c = G at hfin hloop hleast ⊢
      obtain ⟨hlm, hju⟩ := loopy hN1 hfin.2.2.2 hloop hleast
      obtain ⟨hpj, hpip, hpsm⟩ := pap_facts hfin hlm
      rw [Int.toNat_natCast]
      refine e_lcM1 (List.range N) (fun k => .int (k : Int)) (fun _ => .int 0) (rngD_eq N) (by rw [List.length_range]; omega) rfl (by walk_at "set") (fun y hy K1 h1 => ?_) ?_
      · walk_at "wk"
        exact h1 _ rfl
      walk_at "wk"
      rw [epap]
      walk_at "wk"
      refine e_forS [8, 12] (fun _ => [some (.own true (.lst (bagD b))), some (.dat (.int (kind : Int))), some (.dat (.int c)), some (.dat (.int (bey : Int))), some (.dat (.int (N : Int))), some (.dat (arcsD G)), some (.dat (.tup [.str "told", .tup [.int c, .int 1]])), some (.dat (papD ((c, 1), List.replicate N 0, [N - 1, N - 1]))), none, none, none, none, none, none, none]) rfl (fun i x hx => ?_) ?_
      · obtain ⟨hi, rfl⟩ := rng_get hx
        walk_at "wk"
        refine e_call0 fsAsked (i, (N : Int), arcsD G, some ((c, 1), List.replicate N 0, [N - 1, N - 1])) rfl rfl rfl ⟨pre_arcs hfin.2.2.1, fun _ => ⟨_, rfl, hsm⟩⟩ rfl ?_
        dsimp only [fsAsked]
        rw [asked_fine hfin, hlm]
        have h3 : i = 0 ∨ i = 1 ∨ i = 2 := by omega
        rcases h3 with h3 | h3 | h3
        · rw [if_pos h3]
          walk_at "wk"
          refine e_keq (b := true) rfl rfl (by decide +kernel) (by decide +kernel) (by decide +kernel) ?_
          walk_at "wk"
          refine e_ifd (fun h => absurd h (by omega)) (fun _ => ?_)
          walk_at "wk"
          refine e_kne (b := true) rfl rfl (ok_told c) (ok_told c) (eq_told c) ?_
          walk_at "wk"
          rfl
        · rw [if_neg (by omega), if_pos h3]
          dsimp only
          walk_at "wk"
          refine e_keq (b := true) rfl rfl (by decide +kernel) (by decide +kernel) (by decide +kernel) ?_
          walk_at "wk"
          refine e_ifd (fun _ => ?_) (fun h => absurd (by omega) h)
          walk_at "wk"
          refine e_ifd (fun h => absurd h (by omega)) (fun _ => ?_)
          walk_at "wk"
          refine e_ifd (fun _ => ?_) (fun h => absurd (by omega) h)
          walk_at "wk"
          refine e_kne (b := true) rfl rfl (by decide +kernel) (by decide +kernel) (by decide +kernel) ?_
          walk_at "wk"
          refine e_call0 fsIsPap (N, (((c, 1), potOf N G (c, 1), tightRound N G (c, 1) (potOf N G (c, 1))) : Pap)) rfl rfl rfl hpsm rfl ?_
          dsimp only [fsIsPap]
          rw [hpip]
          walk_at "wk"
          refine e_ifd (fun _ => ?_) (fun h => absurd (by omega) h)
          walk_at "wk"
          refine e_call0 fsJudge ((N, G), (((c, 1), potOf N G (c, 1), tightRound N G (c, 1) (potOf N G (c, 1))) : Pap)) rfl rfl rfl ⟨hfin.2.2.2, hfin.2.2.1, hpsm⟩ rfl ?_
          dsimp only [fsJudge]
          rw [hpj]
          walk_at "wk"
          rfl
        · rw [if_neg (by omega), if_neg (by omega)]
          dsimp only
          rw [hju]
          walk_at "wk"
          refine e_keq (b := true) rfl rfl (by decide +kernel) (by decide +kernel) (by decide +kernel) ?_
          walk_at "wk"
          refine e_ifd (fun _ => ?_) (fun h => absurd (by omega) h)
          walk_at "wk"
          refine e_ifd (fun _ => ?_) (fun h => absurd (by omega) h)
          walk_at "wk"
          refine e_kne (b := true) rfl rfl (by decide +kernel) (by decide +kernel) (by decide +kernel) ?_
          walk_at "wk"
          refine e_ifd (fun h => absurd h (by omega)) (fun _ => ?_)
          walk_at "wk"
          refine e_ifd (fun h => absurd h (by omega)) (fun _ => ?_)
          walk_at "wk"
          rfl
      walk_at "wk"
      exact e_fin rfl fin
    · refine e_ifd (fun _ => ?_) (fun h => absurd (by omega) h)
      walk_at "wk"
      obtain ⟨N, hN⟩ : ∃ N : Nat, (N : Int) = 200 + (bey : Int) := ⟨200 + bey, by omega⟩
      rw [← hN]
      have hN1 : 1 ≤ N := by omega
      have hN2 : N ≤ 201 := by omega
      have epap := pap_eq (c := c) hN1
      have hsm := pap_small (c := c) hN1 hN2
      walk_at "wk"
      rw [g2_eq hN1]
      walk_at "wk"
      refine e_ifd (fun h => absurd h (by omega)) (fun _ => ?_)
      walk_at "wk"
      refine e_ifd (fun _ => ?_) (fun h => absurd (by omega) h)
      walk_at "wk"
      refine e_ifd (fun h => absurd h (by omega)) (fun _ => ?_)
      walk_at "wk"
      have hask : ∀ i x, askOut i (N : Int) (arcsD (g2 N c)) x = tagD "many" (.str "arcs") := fun i x => ask_many hN1 (g2_ok hN1) (.inl (by omega)) i x
      have hpre : preA ((N : Int), arcsD (g2 N c)) := pre_arcs (show 2 ≤ 4000 by decide)
      rw [Int.toNat_natCast]
      refine e_lcM1 (List.range N) (fun k => .int (k : Int)) (fun _ => .int 0) (rngD_eq N) (by rw [List.length_range]; omega) rfl (by walk_at "set") (fun y hy K1 h1 => ?_) ?_
      · walk_at "wk"
        exact h1 _ rfl
      walk_at "wk"
      rw [epap]
      walk_at "wk"
      refine e_forS [8, 12] (fun _ => [some (.own true (.lst (bagD b))), some (.dat (.int (kind : Int))), some (.dat (.int c)), some (.dat (.int (bey : Int))), some (.dat (.int (N : Int))), some (.dat (arcsD (g2 N c))), some (.dat (.tup [.str "many", .str "arcs"])), some (.dat (papD ((c, 1), List.replicate N 0, [N - 1, N - 1]))), none, none, none, none, none, none, none]) rfl (fun i x hx => ?_) ?_
      · obtain ⟨hi, rfl⟩ := rng_get hx
        walk_at "wk"
        refine e_call0 fsAsked (i, (N : Int), arcsD (g2 N c), some ((c, 1), List.replicate N 0, [N - 1, N - 1])) rfl rfl rfl ⟨hpre, fun _ => ⟨_, rfl, hsm⟩⟩ rfl ?_
        dsimp only [fsAsked]
        rw [hask]
        walk_at "wk"
        refine e_keq (b := false) rfl rfl (by decide +kernel) (by decide +kernel) (by decide +kernel) ?_
        walk_at "wk"
        refine e_kne (b := true) rfl rfl (by decide +kernel) (by decide +kernel) (by decide +kernel) ?_
        walk_at "wk"
        rfl
      walk_at "wk"
      exact e_fin rfl fin
  · rcases hb2 with hb | hb
    · refine e_ifd (fun h => absurd h (by omega)) (fun _ => ?_)
      walk_at "wk"
      refine call_dr rfl rfl rfl (by omega) (by omega) fun mx b hmx ρ e => ?_
      rw [List.set_cons_zero] at e
      subst e
      walk_at "wk"
      obtain ⟨N, hN⟩ : ∃ N : Nat, (N : Int) = 1 + (mx : Int) := ⟨1 + mx, by omega⟩
      rw [← hN]
      have hN1 : 1 ≤ N := by omega
      have hN2 : N ≤ 201 := by omega
      have epap := pap_eq (c := c) hN1
      have hsm := pap_small (c := c) hN1 hN2
      walk_at "wk"
      rw [g2_eq hN1]
      walk_at "wk"
      refine e_ifd (fun _ => ?_) (fun h => absurd (by omega) h)
      walk_at "wk"
      rw [show ((4000 : Int) + (bey : Int)).toNat = 4000 + bey by omega]
      refine e_lcM1 (List.range (4000 + bey)) (fun k => .int (k : Int)) (fun k => arcD (N - 1, N - 1, c + (k : Int) % 7)) (rngD_eq _) (by rw [List.length_range]; omega) rfl (by walk_at "set") (fun k hk K1 h1 => ?_) ?_
      · walk_at "wk"
        rw [arc7_eq hN1]
        exact h1 _ rfl
      rw [show (List.range (4000 + bey)).map (fun k : Nat => arcD (N - 1, N - 1, c + (k : Int) % 7)) = (g7 N c (4000 + bey)).map arcD by unfold g7; rw [List.map_map]; rfl]
      walk_at "wk"
      rw [show Dt.tup ((g7 N c (4000 + bey)).map arcD) = arcsD (g7 N c (4000 + bey)) from rfl]
      walk_at "wk"
      refine e_ifd (fun h => absurd h (by omega)) (fun _ => ?_)
      walk_at "wk"
      refine e_ifd (fun h => absurd h (by omega)) (fun _ => ?_)
      walk_at "wk"
      have hfin : fine N (g7 N c (4000 + bey)) := ⟨hN1, by omega, by rw [g7_len]; omega, g7_ok hN1⟩
      have hloop : (N - 1, N - 1, c) ∈ g7 N c (4000 + bey) := g7_loop (by omega)
      have hleast : ∀ a ∈ g7 N c (4000 + bey), c ≤ a.2.2 := g7_least
      generalize g7 N c (4000 + bey) = G at hfin hloop hleast ⊢
      obtain ⟨hlm, hju⟩ := loopy hN1 hfin.2.2.2 hloop hleast
      obtain ⟨hpj, hpip, hpsm⟩ := pap_facts hfin hlm
      rw [Int.toNat_natCast]
      refine e_lcM1 (List.range N) (fun k => .int (k : Int)) (fun _ => .int 0) (rngD_eq N) (by rw [List.length_range]; omega) rfl (by walk_at "set") (fun y hy K1 h1 => ?_) ?_
      · walk_at "wk"
        exact h1 _ rfl
      walk_at "wk"
      rw [epap]
      walk_at "wk"
      refine e_forS [8, 12] (fun _ => [some (.own true (.lst (bagD b))), some (.dat (.int (kind : Int))), some (.dat (.int c)), some (.dat (.int (bey : Int))), some (.dat (.int (N : Int))), some (.dat (arcsD G)), some (.dat (.tup [.str "told", .tup [.int c, .int 1]])), some (.dat (papD ((c, 1), List.replicate N 0, [N - 1, N - 1]))), none, none, none, none, none, none, none]) rfl (fun i x hx => ?_) ?_
      · obtain ⟨hi, rfl⟩ := rng_get hx
        walk_at "wk"
        refine e_call0 fsAsked (i, (N : Int), arcsD G, some ((c, 1), List.replicate N 0, [N - 1, N - 1])) rfl rfl rfl ⟨pre_arcs hfin.2.2.1, fun _ => ⟨_, rfl, hsm⟩⟩ rfl ?_
        dsimp only [fsAsked]
        rw [asked_fine hfin, hlm]
        have h3 : i = 0 ∨ i = 1 ∨ i = 2 := by omega
        rcases h3 with h3 | h3 | h3
        · rw [if_pos h3]
          walk_at "wk"
          refine e_keq (b := true) rfl rfl (by decide +kernel) (by decide +kernel) (by decide +kernel) ?_
          walk_at "wk"
          refine e_ifd (fun h => absurd h (by omega)) (fun _ => ?_)
          walk_at "wk"
          refine e_kne (b := true) rfl rfl (ok_told c) (ok_told c) (eq_told c) ?_
          walk_at "wk"
          rfl
        · rw [if_neg (by omega), if_pos h3]
          dsimp only
          walk_at "wk"
          refine e_keq (b := true) rfl rfl (by decide +kernel) (by decide +kernel) (by decide +kernel) ?_
          walk_at "wk"
          refine e_ifd (fun _ => ?_) (fun h => absurd (by omega) h)
          walk_at "wk"
          refine e_ifd (fun h => absurd h (by omega)) (fun _ => ?_)
          walk_at "wk"
          refine e_ifd (fun _ => ?_) (fun h => absurd (by omega) h)
          walk_at "wk"
          refine e_kne (b := true) rfl rfl (by decide +kernel) (by decide +kernel) (by decide +kernel) ?_
          walk_at "wk"
          refine e_call0 fsIsPap (N, (((c, 1), potOf N G (c, 1), tightRound N G (c, 1) (potOf N G (c, 1))) : Pap)) rfl rfl rfl hpsm rfl ?_
          dsimp only [fsIsPap]
          rw [hpip]
          walk_at "wk"
          refine e_ifd (fun _ => ?_) (fun h => absurd (by omega) h)
          walk_at "wk"
          refine e_call0 fsJudge ((N, G), (((c, 1), potOf N G (c, 1), tightRound N G (c, 1) (potOf N G (c, 1))) : Pap)) rfl rfl rfl ⟨hfin.2.2.2, hfin.2.2.1, hpsm⟩ rfl ?_
          dsimp only [fsJudge]
          rw [hpj]
          walk_at "wk"
          rfl
        · rw [if_neg (by omega), if_neg (by omega)]
          dsimp only
          rw [hju]
          walk_at "wk"
          refine e_keq (b := true) rfl rfl (by decide +kernel) (by decide +kernel) (by decide +kernel) ?_
          walk_at "wk"
          refine e_ifd (fun _ => ?_) (fun h => absurd (by omega) h)
          walk_at "wk"
          refine e_ifd (fun _ => ?_) (fun h => absurd (by omega) h)
          walk_at "wk"
          refine e_kne (b := true) rfl rfl (by decide +kernel) (by decide +kernel) (by decide +kernel) ?_
          walk_at "wk"
          refine e_ifd (fun h => absurd h (by omega)) (fun _ => ?_)
          walk_at "wk"
          refine e_ifd (fun h => absurd h (by omega)) (fun _ => ?_)
          walk_at "wk"
          rfl
      walk_at "wk"
      exact e_fin rfl fin
    · refine e_ifd (fun h => absurd h (by omega)) (fun _ => ?_)
      walk_at "wk"
      refine call_dr rfl rfl rfl (by omega) (by omega) fun mx b hmx ρ e => ?_
      rw [List.set_cons_zero] at e
      subst e
      walk_at "wk"
      obtain ⟨N, hN⟩ : ∃ N : Nat, (N : Int) = 1 + (mx : Int) := ⟨1 + mx, by omega⟩
      rw [← hN]
      have hN1 : 1 ≤ N := by omega
      have hN2 : N ≤ 201 := by omega
      have epap := pap_eq (c := c) hN1
      have hsm := pap_small (c := c) hN1 hN2
      walk_at "wk"
      rw [g2_eq hN1]
      walk_at "wk"
      refine e_ifd (fun _ => ?_) (fun h => absurd (by omega) h)
      walk_at "wk"
      rw [show ((4000 : Int) + (bey : Int)).toNat = 4000 + bey by omega]
      refine e_lcM1 (List.range (4000 + bey)) (fun k => .int (k : Int)) (fun k => arcD (N - 1, N - 1, c + (k : Int) % 7)) (rngD_eq _) (by rw [List.length_range]; omega) rfl (by walk_at "set") (fun k hk K1 h1 => ?_) ?_
      · walk_at "wk"
        rw [arc7_eq hN1]
        exact h1 _ rfl
      rw [show (List.range (4000 + bey)).map (fun k : Nat => arcD (N - 1, N - 1, c + (k : Int) % 7)) = (g7 N c (4000 + bey)).map arcD by unfold g7; rw [List.map_map]; rfl]
      walk_at "wk"
      rw [show Dt.tup ((g7 N c (4000 + bey)).map arcD) = arcsD (g7 N c (4000 + bey)) from rfl]
      walk_at "wk"
      refine e_ifd (fun _ => ?_) (fun h => absurd (by omega) h)
      walk_at "wk"
      refine e_ifd (fun h => absurd h (by omega)) (fun _ => ?_)
      walk_at "wk"
      have hask : ∀ i x, askOut i (N : Int) (arcsD (g7 N c (4000 + bey))) x = tagD "many" (.str "arcs") := fun i x => ask_many hN1 (g7_ok hN1) (.inr (by rw [g7_len]; omega)) i x
      have hpre : preA ((N : Int), arcsD (g7 N c (4000 + bey))) := pre_arcs7 (by rw [g7_len]; omega)
      generalize g7 N c (4000 + bey) = G at hask hpre ⊢
      rw [Int.toNat_natCast]
      refine e_lcM1 (List.range N) (fun k => .int (k : Int)) (fun _ => .int 0) (rngD_eq N) (by rw [List.length_range]; omega) rfl (by walk_at "set") (fun y hy K1 h1 => ?_) ?_
      · walk_at "wk"
        exact h1 _ rfl
      walk_at "wk"
      rw [epap]
      walk_at "wk"
      refine e_forS [8, 12] (fun _ => [some (.own true (.lst (bagD b))), some (.dat (.int (kind : Int))), some (.dat (.int c)), some (.dat (.int (bey : Int))), some (.dat (.int (N : Int))), some (.dat (arcsD G)), some (.dat (.tup [.str "many", .str "arcs"])), some (.dat (papD ((c, 1), List.replicate N 0, [N - 1, N - 1]))), none, none, none, none, none, none, none]) rfl (fun i x hx => ?_) ?_
      · obtain ⟨hi, rfl⟩ := rng_get hx
        walk_at "wk"
        refine e_call0 fsAsked (i, (N : Int), arcsD G, some ((c, 1), List.replicate N 0, [N - 1, N - 1])) rfl rfl rfl ⟨hpre, fun _ => ⟨_, rfl, hsm⟩⟩ rfl ?_
        dsimp only [fsAsked]
        rw [hask]
        walk_at "wk"
        refine e_keq (b := false) rfl rfl (by decide +kernel) (by decide +kernel) (by decide +kernel) ?_
        walk_at "wk"
        refine e_kne (b := true) rfl rfl (by decide +kernel) (by decide +kernel) (by decide +kernel) ?_
        walk_at "wk"
        rfl
      walk_at "wk"
      exact e_fin rfl fin
  · rcases hb2 with hb | hb
    · refine e_ifd (fun h => absurd h (by omega)) (fun _ => ?_)
      walk_at "wk"
      refine call_dr rfl rfl rfl (by omega) (by omega) fun mx b hmx ρ e => ?_
      rw [List.set_cons_zero] at e
      subst e
      walk_at "wk"
      obtain ⟨N, hN⟩ : ∃ N : Nat, (N : Int) = 1 + (mx : Int) := ⟨1 + mx, by omega⟩
      rw [← hN]
      have hN1 : 1 ≤ N := by omega
      have hN2 : N ≤ 201 := by omega
      have epap := pap_eq (c := c) hN1
      have hsm := pap_small (c := c) hN1 hN2
      walk_at "wk"
      rw [g2_eq hN1]
      walk_at "wk"
      refine e_ifd (fun h => absurd h (by omega)) (fun _ => ?_)
      walk_at "wk"
      refine e_ifd (fun h => absurd h (by omega)) (fun _ => ?_)
      walk_at "wk"
      refine e_ifd (fun _ => ?_) (fun h => absurd (by omega) h)
      walk_at "wk"
      refine call_pk rfl rfl rfl rfl (by simp) (by simp) fun wr b hwr ρ e => ?_
      rw [List.set_cons_zero] at e
      subst e
      have hbad : badA (N : Int) wr = true ∧ tame wr := by
        simp only [List.mem_cons, List.not_mem_nil, or_false] at hwr
        rcases hwr with rfl | rfl | rfl | rfl | rfl | rfl | rfl
        · exact ⟨rfl, tame_t (by simp [isScr])⟩
        · exact ⟨rfl, rfl, fun ys e => nomatch e⟩
        · exact ⟨bad_of (by omega), tame_t (by simp [isScr])⟩
        · exact ⟨bad_of (by omega), tame_t (by simp [isScr])⟩
        · exact ⟨bad_of (by omega), tame_t (by simp [isScr])⟩
        · exact ⟨rfl, tame_t (by simp [isScr])⟩
        · exact ⟨rfl, tame_t (by simp [isScr])⟩
      obtain ⟨hbad, htame⟩ := hbad
      clear hwr
      walk_at "wk"
      refine call_dr rfl rfl rfl (by omega) (by omega) fun pl b hpl ρ e => ?_
      rw [List.set_cons_zero] at e
      subst e
      walk_at "wk"
      rw [show arcsD (g2 N c) = .tup ((g2 N c).map arcD) from rfl]
      have hc1 : (cut ((g2 N c).map arcD) none (some (pl : Int))).length ≤ 2 := cut_le _ _ _
      have hc2 : (cut ((g2 N c).map arcD) (some (pl : Int)) none).length ≤ 2 := cut_le _ _ _
      walk_at "wk"
      refine e_kcatT (xs := cut ((g2 N c).map arcD) none (some (pl : Int))) (ys := [wr]) rfl rfl (by rw [List.length_singleton]; omega) ?_
      walk_at "wk"
      refine e_kcatT (xs := cut ((g2 N c).map arcD) none (some (pl : Int)) ++ [wr]) (ys := cut ((g2 N c).map arcD) (some (pl : Int)) none) rfl rfl (by rw [List.length_append, List.length_singleton]; omega) ?_
      walk_at "wk"
      refine e_ifd (fun h => absurd h (by omega)) (fun _ => ?_)
      walk_at "wk"
      have hask : ∀ i x, askOut i (N : Int) (.tup (cut ((g2 N c).map arcD) none (some (pl : Int)) ++ [wr] ++ cut ((g2 N c).map arcD) (some (pl : Int)) none)) x = tagD "value" (.str "arcs") := fun i x => ask_bad hN1 (by simp) hbad i x
      have hpre : preA ((N : Int), .tup (cut ((g2 N c).map arcD) none (some (pl : Int)) ++ [wr] ++ cut ((g2 N c).map arcD) (some (pl : Int)) none)) := pre_mix _ _ _ htame
      have hfin : fine N (g2 N c) := ⟨hN1, by omega, (show 2 ≤ 4000 by decide), g2_ok hN1⟩
      obtain ⟨hlm, _⟩ := loopy hN1 hfin.2.2.2 (show (N - 1, N - 1, c) ∈ g2 N c from List.mem_cons_self) g2_least
      refine e_call0 fsAsked (0, (N : Int), arcsD (g2 N c), none) rfl rfl rfl ⟨pre_arcs (show 2 ≤ 4000 by decide), fun h => absurd h (show ¬ 2 ≤ 0 by decide)⟩ rfl ?_
      dsimp only [fsAsked]
      rw [asked_fine hfin, hlm, if_pos rfl]
      walk_at "wk"
      refine e_kne (b := true) rfl rfl (ok_told c) (ok_told c) (eq_told c) ?_
      walk_at "wk"
      refine e_ifd (fun h => absurd h (by omega)) (fun _ => ?_)
      walk_at "wk"
      rw [Int.toNat_natCast]
      refine e_lcM1 (List.range N) (fun k => .int (k : Int)) (fun _ => .int 0) (rngD_eq N) (by rw [List.length_range]; omega) rfl (by walk_at "set") (fun y hy K1 h1 => ?_) ?_
      · walk_at "wk"
        exact h1 _ rfl
      walk_at "wk"
      rw [epap]
      walk_at "wk"
      refine e_forS [8, 12] (fun _ => [some (.own true (.lst (bagD b))), some (.dat (.int (kind : Int))), some (.dat (.int c)), some (.dat (.int (bey : Int))), some (.dat (.int (N : Int))), some (.dat (.tup (cut ((g2 N c).map arcD) none (some (pl : Int)) ++ [wr] ++ cut ((g2 N c).map arcD) (some (pl : Int)) none))), some (.dat (.tup [.str "value", .str "arcs"])), some (.dat (papD ((c, 1), List.replicate N 0, [N - 1, N - 1]))), none, some (.dat wr), some (.dat (.int (pl : Int))), some (.dat (.tup ((g2 N c).map arcD))), none, none, none]) rfl (fun i x hx => ?_) ?_
      · obtain ⟨hi, rfl⟩ := rng_get hx
        walk_at "wk"
        refine e_call0 fsAsked (i, (N : Int), .tup (cut ((g2 N c).map arcD) none (some (pl : Int)) ++ [wr] ++ cut ((g2 N c).map arcD) (some (pl : Int)) none), some ((c, 1), List.replicate N 0, [N - 1, N - 1])) rfl rfl rfl ⟨hpre, fun _ => ⟨_, rfl, hsm⟩⟩ rfl ?_
        dsimp only [fsAsked]
        rw [hask]
        walk_at "wk"
        refine e_keq (b := false) rfl rfl (by decide +kernel) (by decide +kernel) (by decide +kernel) ?_
        walk_at "wk"
        refine e_kne (b := true) rfl rfl (by decide +kernel) (by decide +kernel) (by decide +kernel) ?_
        walk_at "wk"
        rfl
      walk_at "wk"
      exact e_fin rfl fin
    · refine e_ifd (fun h => absurd h (by omega)) (fun _ => ?_)
      walk_at "wk"
      refine call_dr rfl rfl rfl (by omega) (by omega) fun mx b hmx ρ e => ?_
      rw [List.set_cons_zero] at e
      subst e
      walk_at "wk"
      obtain ⟨N, hN⟩ : ∃ N : Nat, (N : Int) = 1 + (mx : Int) := ⟨1 + mx, by omega⟩
      rw [← hN]
      have hN1 : 1 ≤ N := by omega
      have hN2 : N ≤ 201 := by omega
      have epap := pap_eq (c := c) hN1
      have hsm := pap_small (c := c) hN1 hN2
      walk_at "wk"
      rw [g2_eq hN1]
      walk_at "wk"
      refine e_ifd (fun h => absurd h (by omega)) (fun _ => ?_)
      walk_at "wk"
      refine e_ifd (fun _ => ?_) (fun h => absurd (by omega) h)
      walk_at "wk"
      refine e_ifd (fun _ => ?_) (fun h => absurd (by omega) h)
      walk_at "wk"
      refine call_pk rfl rfl rfl rfl (by simp) (by simp) fun wr b hwr ρ e => ?_
      rw [List.set_cons_zero] at e
      subst e
      have hbad : badA (N : Int) wr = true ∧ tame wr := by
        simp only [List.mem_cons, List.not_mem_nil, or_false] at hwr
        rcases hwr with rfl | rfl | rfl | rfl | rfl | rfl | rfl
        · exact ⟨rfl, tame_t (by simp [isScr])⟩
        · exact ⟨rfl, rfl, fun ys e => nomatch e⟩
        · exact ⟨bad_of (by omega), tame_t (by simp [isScr])⟩
        · exact ⟨bad_of (by omega), tame_t (by simp [isScr])⟩
        · exact ⟨bad_of (by omega), tame_t (by simp [isScr])⟩
        · exact ⟨rfl, tame_t (by simp [isScr])⟩
        · exact ⟨rfl, tame_t (by simp [isScr])⟩
      obtain ⟨hbad, htame⟩ := hbad
      clear hwr
      walk_at "wk"
      refine call_dr rfl rfl rfl (by omega) (by omega) fun pl b hpl ρ e => ?_
      rw [List.set_cons_zero] at e
      subst e
      walk_at "wk"
      rw [show arcsD (g2 N c) = .tup ((g2 N c).map arcD) from rfl]
      have hc1 : (cut ((g2 N c).map arcD) none (some (pl : Int))).length ≤ 2 := cut_le _ _ _
      have hc2 : (cut ((g2 N c).map arcD) (some (pl : Int)) none).length ≤ 2 := cut_le _ _ _
      walk_at "wk"
      refine e_kcatT (xs := cut ((g2 N c).map arcD) none (some (pl : Int))) (ys := [wr]) rfl rfl (by rw [List.length_singleton]; omega) ?_
      walk_at "wk"
      refine e_kcatT (xs := cut ((g2 N c).map arcD) none (some (pl : Int)) ++ [wr]) (ys := cut ((g2 N c).map arcD) (some (pl : Int)) none) rfl rfl (by rw [List.length_append, List.length_singleton]; omega) ?_
      walk_at "wk"
      refine e_ifd (fun h => absurd h (by omega)) (fun _ => ?_)
      walk_at "wk"
      have hask : ∀ i x, askOut i (N : Int) (.tup (cut ((g2 N c).map arcD) none (some (pl : Int)) ++ [wr] ++ cut ((g2 N c).map arcD) (some (pl : Int)) none)) x = tagD "value" (.str "arcs") := fun i x => ask_bad hN1 (by simp) hbad i x
      have hpre : preA ((N : Int), .tup (cut ((g2 N c).map arcD) none (some (pl : Int)) ++ [wr] ++ cut ((g2 N c).map arcD) (some (pl : Int)) none)) := pre_mix _ _ _ htame
      have hfin : fine N (g2 N c) := ⟨hN1, by omega, (show 2 ≤ 4000 by decide), g2_ok hN1⟩
      obtain ⟨hlm, _⟩ := loopy hN1 hfin.2.2.2 (show (N - 1, N - 1, c) ∈ g2 N c from List.mem_cons_self) g2_least
      refine e_call0 fsAsked (0, (N : Int), arcsD (g2 N c), none) rfl rfl rfl ⟨pre_arcs (show 2 ≤ 4000 by decide), fun h => absurd h (show ¬ 2 ≤ 0 by decide)⟩ rfl ?_
      dsimp only [fsAsked]
      rw [asked_fine hfin, hlm, if_pos rfl]
      walk_at "wk"
      refine e_kne (b := true) rfl rfl (ok_told c) (ok_told c) (eq_told c) ?_
      walk_at "wk"
      refine e_ifd (fun _ => ?_) (fun h => absurd (by omega) h)
      walk_at "wk"
      refine e_kcatT (xs := (g2 N c).map arcD) (ys := [.tup [.int 0, .int 0], .tup [.int 0, .int 0, .int 1]]) rfl rfl (show 2 + 2 ≤ 1000000 by decide) ?_
      walk_at "wk"
      refine e_call0 fsAsked (0, 201, .tup ((g2 N c).map arcD ++ [.tup [.int 0, .int 0], .tup [.int 0, .int 0, .int 1]]), none) rfl rfl rfl ⟨pre_two (g2 N c) (show 2 ≤ 1000 by decide), fun h => absurd h (show ¬ 2 ≤ 0 by decide)⟩ rfl ?_
      dsimp only [fsAsked]
      rw [show askOut 0 (201 : Int) (.tup ((g2 N c).map arcD ++ [.tup [.int 0, .int 0], .tup [.int 0, .int 0, .int 1]])) none = tagD "value" (.str "arcs") from ask_bad (N := 201) (w := .tup [.int 0, .int 0]) (by decide) (by simp) rfl 0 none]
      walk_at "wk"
      refine e_kne (b := true) rfl rfl (by decide +kernel) (by decide +kernel) (by decide +kernel) ?_
      walk_at "wk"
      rw [Int.toNat_natCast]
      refine e_lcM1 (List.range N) (fun k => .int (k : Int)) (fun _ => .int 0) (rngD_eq N) (by rw [List.length_range]; omega) rfl (by walk_at "set") (fun y hy K1 h1 => ?_) ?_
      · walk_at "wk"
        exact h1 _ rfl
      walk_at "wk"
      rw [epap]
      walk_at "wk"
      refine e_forS [8, 12] (fun _ => [some (.own true (.lst (bagD b))), some (.dat (.int (kind : Int))), some (.dat (.int c)), some (.dat (.int (bey : Int))), some (.dat (.int (N : Int))), some (.dat (.tup (cut ((g2 N c).map arcD) none (some (pl : Int)) ++ [wr] ++ cut ((g2 N c).map arcD) (some (pl : Int)) none))), some (.dat (.tup [.str "value", .str "arcs"])), some (.dat (papD ((c, 1), List.replicate N 0, [N - 1, N - 1]))), none, some (.dat wr), some (.dat (.int (pl : Int))), some (.dat (.tup ((g2 N c).map arcD))), none, none, none]) rfl (fun i x hx => ?_) ?_
      · obtain ⟨hi, rfl⟩ := rng_get hx
        walk_at "wk"
        refine e_call0 fsAsked (i, (N : Int), .tup (cut ((g2 N c).map arcD) none (some (pl : Int)) ++ [wr] ++ cut ((g2 N c).map arcD) (some (pl : Int)) none), some ((c, 1), List.replicate N 0, [N - 1, N - 1])) rfl rfl rfl ⟨hpre, fun _ => ⟨_, rfl, hsm⟩⟩ rfl ?_
        dsimp only [fsAsked]
        rw [hask]
        walk_at "wk"
        refine e_keq (b := false) rfl rfl (by decide +kernel) (by decide +kernel) (by decide +kernel) ?_
        walk_at "wk"
        refine e_kne (b := true) rfl rfl (by decide +kernel) (by decide +kernel) (by decide +kernel) ?_
        walk_at "wk"
        rfl
      walk_at "wk"
      exact e_fin rfl fin
  · rcases hb2 with hb | hb
    · refine e_ifd (fun h => absurd h (by omega)) (fun _ => ?_)
      walk_at "wk"
      refine call_dr rfl rfl rfl (by omega) (by omega) fun mx b hmx ρ e => ?_
      rw [List.set_cons_zero] at e
      subst e
      walk_at "wk"
      obtain ⟨N, hN⟩ : ∃ N : Nat, (N : Int) = 1 + (mx : Int) := ⟨1 + mx, by omega⟩
      rw [← hN]
      have hN1 : 1 ≤ N := by omega
      have hN2 : N ≤ 201 := by omega
      have epap := pap_eq (c := c) hN1
      have hsm := pap_small (c := c) hN1 hN2
      walk_at "wk"
      rw [g2_eq hN1]
      walk_at "wk"
      refine e_ifd (fun h => absurd h (by omega)) (fun _ => ?_)
      walk_at "wk"
      refine e_ifd (fun h => absurd h (by omega)) (fun _ => ?_)
      walk_at "wk"
      refine e_ifd (fun _ => ?_) (fun h => absurd (by omega) h)
      walk_at "wk"
      refine call_pk rfl rfl rfl rfl (by simp) (by simp) fun wr b hwr ρ e => ?_
      rw [List.set_cons_zero] at e
      subst e
      have hbad : badA (N : Int) wr = true ∧ tame wr := by
        simp only [List.mem_cons, List.not_mem_nil, or_false] at hwr
        rcases hwr with rfl | rfl | rfl | rfl | rfl | rfl | rfl
        · exact ⟨rfl, tame_t (by simp [isScr])⟩
        · exact ⟨rfl, rfl, fun ys e => nomatch e⟩
        · exact ⟨bad_of (by omega), tame_t (by simp [isScr])⟩
        · exact ⟨bad_of (by omega), tame_t (by simp [isScr])⟩
        · exact ⟨bad_of (by omega), tame_t (by simp [isScr])⟩
        · exact ⟨rfl, tame_t (by simp [isScr])⟩
        · exact ⟨rfl, tame_t (by simp [isScr])⟩
      obtain ⟨hbad, htame⟩ := hbad
      clear hwr
      walk_at "wk"
      refine call_dr rfl rfl rfl (by omega) (by omega) fun pl b hpl ρ e => ?_
      rw [List.set_cons_zero] at e
      subst e
      walk_at "wk"
      rw [show arcsD (g2 N c) = .tup ((g2 N c).map arcD) from rfl]
      have hc1 : (cut ((g2 N c).map arcD) none (some (pl : Int))).length ≤ 2 := cut_le _ _ _
      have hc2 : (cut ((g2 N c).map arcD) (some (pl : Int)) none).length ≤ 2 := cut_le _ _ _
      walk_at "wk"
      refine e_kcatT (xs := cut ((g2 N c).map arcD) none (some (pl : Int))) (ys := [wr]) rfl rfl (by rw [List.length_singleton]; omega) ?_
      walk_at "wk"
      refine e_kcatT (xs := cut ((g2 N c).map arcD) none (some (pl : Int)) ++ [wr]) (ys := cut ((g2 N c).map arcD) (some (pl : Int)) none) rfl rfl (by rw [List.length_append, List.length_singleton]; omega) ?_
      walk_at "wk"
      refine e_ifd (fun _ => ?_) (fun h => absurd (by omega) h)
      walk_at "wk"
      refine e_ifd (fun h => absurd h (by omega)) (fun _ => ?_)
      walk_at "wk"
      have hask : ∀ i x, askOut i (N : Int) (.tup (cut ((g2 N c).map arcD) none (some (pl : Int)) ++ [wr] ++ cut ((g2 N c).map arcD) (some (pl : Int)) none)) x = tagD "value" (.str "arcs") := fun i x => ask_bad hN1 (by simp) hbad i x
      have hpre : preA ((N : Int), .tup (cut ((g2 N c).map arcD) none (some (pl : Int)) ++ [wr] ++ cut ((g2 N c).map arcD) (some (pl : Int)) none)) := pre_mix _ _ _ htame
      have hfin : fine N (g2 N c) := ⟨hN1, by omega, (show 2 ≤ 4000 by decide), g2_ok hN1⟩
      obtain ⟨hlm, _⟩ := loopy hN1 hfin.2.2.2 (show (N - 1, N - 1, c) ∈ g2 N c from List.mem_cons_self) g2_least
      refine e_call0 fsAsked (0, (N : Int), arcsD (g2 N c), none) rfl rfl rfl ⟨pre_arcs (show 2 ≤ 4000 by decide), fun h => absurd h (show ¬ 2 ≤ 0 by decide)⟩ rfl ?_
      dsimp only [fsAsked]
      rw [asked_fine hfin, hlm, if_pos rfl]
      walk_at "wk"
      refine e_kne (b := true) rfl rfl (ok_told c) (ok_told c) (eq_told c) ?_
      walk_at "wk"
      refine e_ifd (fun h => absurd h (by omega)) (fun _ => ?_)
      walk_at "wk"
      rw [Int.toNat_natCast]
      refine e_lcM1 (List.range N) (fun k => .int (k : Int)) (fun _ => .int 0) (rngD_eq N) (by rw [List.length_range]; omega) rfl (by walk_at "set") (fun y hy K1 h1 => ?_) ?_
      · walk_at "wk"
        exact h1 _ rfl
      walk_at "wk"
      rw [epap]
      walk_at "wk"
      refine e_forS [8, 12] (fun _ => [some (.own true (.lst (bagD b))), some (.dat (.int (kind : Int))), some (.dat (.int c)), some (.dat (.int (bey : Int))), some (.dat (.int (N : Int))), some (.dat (.tup (cut ((g2 N c).map arcD) none (some (pl : Int)) ++ [wr] ++ cut ((g2 N c).map arcD) (some (pl : Int)) none))), some (.dat (.tup [.str "value", .str "arcs"])), some (.dat (papD ((c, 1), List.replicate N 0, [N - 1, N - 1]))), none, some (.dat wr), some (.dat (.int (pl : Int))), some (.dat (.tup ((g2 N c).map arcD))), none, none, none]) rfl (fun i x hx => ?_) ?_
      · obtain ⟨hi, rfl⟩ := rng_get hx
        walk_at "wk"
        refine e_call0 fsAsked (i, (N : Int), .tup (cut ((g2 N c).map arcD) none (some (pl : Int)) ++ [wr] ++ cut ((g2 N c).map arcD) (some (pl : Int)) none), some ((c, 1), List.replicate N 0, [N - 1, N - 1])) rfl rfl rfl ⟨hpre, fun _ => ⟨_, rfl, hsm⟩⟩ rfl ?_
        dsimp only [fsAsked]
        rw [hask]
        walk_at "wk"
        refine e_keq (b := false) rfl rfl (by decide +kernel) (by decide +kernel) (by decide +kernel) ?_
        walk_at "wk"
        refine e_kne (b := true) rfl rfl (by decide +kernel) (by decide +kernel) (by decide +kernel) ?_
        walk_at "wk"
        rfl
      walk_at "wk"
      exact e_fin rfl fin
    · refine e_ifd (fun h => absurd h (by omega)) (fun _ => ?_)
      walk_at "wk"
      refine call_dr rfl rfl rfl (by omega) (by omega) fun mx b hmx ρ e => ?_
      rw [List.set_cons_zero] at e
      subst e
      walk_at "wk"
      obtain ⟨N, hN⟩ : ∃ N : Nat, (N : Int) = 1 + (mx : Int) := ⟨1 + mx, by omega⟩
      rw [← hN]
      have hN1 : 1 ≤ N := by omega
      have hN2 : N ≤ 201 := by omega
      have epap := pap_eq (c := c) hN1
      have hsm := pap_small (c := c) hN1 hN2
      walk_at "wk"
      rw [g2_eq hN1]
      walk_at "wk"
      refine e_ifd (fun h => absurd h (by omega)) (fun _ => ?_)
      walk_at "wk"
      refine e_ifd (fun _ => ?_) (fun h => absurd (by omega) h)
      walk_at "wk"
      refine e_ifd (fun _ => ?_) (fun h => absurd (by omega) h)
      walk_at "wk"
      refine call_pk rfl rfl rfl rfl (by simp) (by simp) fun wr b hwr ρ e => ?_
      rw [List.set_cons_zero] at e
      subst e
      have hbad : badA (N : Int) wr = true ∧ tame wr := by
        simp only [List.mem_cons, List.not_mem_nil, or_false] at hwr
        rcases hwr with rfl | rfl | rfl | rfl | rfl | rfl | rfl
        · exact ⟨rfl, tame_t (by simp [isScr])⟩
        · exact ⟨rfl, rfl, fun ys e => nomatch e⟩
        · exact ⟨bad_of (by omega), tame_t (by simp [isScr])⟩
        · exact ⟨bad_of (by omega), tame_t (by simp [isScr])⟩
        · exact ⟨bad_of (by omega), tame_t (by simp [isScr])⟩
        · exact ⟨rfl, tame_t (by simp [isScr])⟩
        · exact ⟨rfl, tame_t (by simp [isScr])⟩
      obtain ⟨hbad, htame⟩ := hbad
      clear hwr
      walk_at "wk"
      refine call_dr rfl rfl rfl (by omega) (by omega) fun pl b hpl ρ e => ?_
      rw [List.set_cons_zero] at e
      subst e
      walk_at "wk"
      rw [show arcsD (g2 N c) = .tup ((g2 N c).map arcD) from rfl]
      have hc1 : (cut ((g2 N c).map arcD) none (some (pl : Int))).length ≤ 2 := cut_le _ _ _
      have hc2 : (cut ((g2 N c).map arcD) (some (pl : Int)) none).length ≤ 2 := cut_le _ _ _
      walk_at "wk"
      refine e_kcatT (xs := cut ((g2 N c).map arcD) none (some (pl : Int))) (ys := [wr]) rfl rfl (by rw [List.length_singleton]; omega) ?_
      walk_at "wk"
      refine e_kcatT (xs := cut ((g2 N c).map arcD) none (some (pl : Int)) ++ [wr]) (ys := cut ((g2 N c).map arcD) (some (pl : Int)) none) rfl rfl (by rw [List.length_append, List.length_singleton]; omega) ?_
      walk_at "wk"
      refine e_ifd (fun _ => ?_) (fun h => absurd (by omega) h)
      walk_at "wk"
      refine e_ifd (fun _ => ?_) (fun h => absurd (by omega) h)
      walk_at "wk"
      have hask : ∀ i x, askOut i (N : Int) (.lst ((g2 N c).map arcD)) x = tagD "value" (.str "arcs") := fun i x => ask_lst hN1 i x
      have hpre : preA ((N : Int), .lst ((g2 N c).map arcD)) := ⟨rfl, fun xs e => nomatch e⟩
      have hfin : fine N (g2 N c) := ⟨hN1, by omega, (show 2 ≤ 4000 by decide), g2_ok hN1⟩
      obtain ⟨hlm, _⟩ := loopy hN1 hfin.2.2.2 (show (N - 1, N - 1, c) ∈ g2 N c from List.mem_cons_self) g2_least
      refine e_call0 fsAsked (0, (N : Int), arcsD (g2 N c), none) rfl rfl rfl ⟨pre_arcs (show 2 ≤ 4000 by decide), fun h => absurd h (show ¬ 2 ≤ 0 by decide)⟩ rfl ?_
      dsimp only [fsAsked]
      rw [asked_fine hfin, hlm, if_pos rfl]
      walk_at "wk"
      refine e_kne (b := true) rfl rfl (ok_told c) (ok_told c) (eq_told c) ?_
      walk_at "wk"
      refine e_ifd (fun _ => ?_) (fun h => absurd (by omega) h)
      walk_at "wk"
      refine e_kcatT (xs := (g2 N c).map arcD) (ys := [.tup [.int 0, .int 0], .tup [.int 0, .int 0, .int 1]]) rfl rfl (show 2 + 2 ≤ 1000000 by decide) ?_
      walk_at "wk"
      refine e_call0 fsAsked (0, 201, .tup ((g2 N c).map arcD ++ [.tup [.int 0, .int 0], .tup [.int 0, .int 0, .int 1]]), none) rfl rfl rfl ⟨pre_two (g2 N c) (show 2 ≤ 1000 by decide), fun h => absurd h (show ¬ 2 ≤ 0 by decide)⟩ rfl ?_
      dsimp only [fsAsked]
      rw [show askOut 0 (201 : Int) (.tup ((g2 N c).map arcD ++ [.tup [.int 0, .int 0], .tup [.int 0, .int 0, .int 1]])) none = tagD "value" (.str "arcs") from ask_bad (N := 201) (w := .tup [.int 0, .int 0]) (by decide) (by simp) rfl 0 none]
      walk_at "wk"
      refine e_kne (b := true) rfl rfl (by decide +kernel) (by decide +kernel) (by decide +kernel) ?_
      walk_at "wk"
      rw [Int.toNat_natCast]
      refine e_lcM1 (List.range N) (fun k => .int (k : Int)) (fun _ => .int 0) (rngD_eq N) (by rw [List.length_range]; omega) rfl (by walk_at "set") (fun y hy K1 h1 => ?_) ?_
      · walk_at "wk"
        exact h1 _ rfl
      walk_at "wk"
      rw [epap]
      walk_at "wk"
      refine e_forS [8, 12] (fun _ => [some (.own true (.lst (bagD b))), some (.dat (.int (kind : Int))), some (.dat (.int c)), some (.dat (.int (bey : Int))), some (.dat (.int (N : Int))), some (.dat (.lst ((g2 N c).map arcD))), some (.dat (.tup [.str "value", .str "arcs"])), some (.dat (papD ((c, 1), List.replicate N 0, [N - 1, N - 1]))), none, some (.dat wr), some (.dat (.int (pl : Int))), some (.dat (.tup ((g2 N c).map arcD))), none, none, none]) rfl (fun i x hx => ?_) ?_
      · obtain ⟨hi, rfl⟩ := rng_get hx
        walk_at "wk"
        refine e_call0 fsAsked (i, (N : Int), .lst ((g2 N c).map arcD), some ((c, 1), List.replicate N 0, [N - 1, N - 1])) rfl rfl rfl ⟨hpre, fun _ => ⟨_, rfl, hsm⟩⟩ rfl ?_
        dsimp only [fsAsked]
        rw [hask]
        walk_at "wk"
        refine e_keq (b := false) rfl rfl (by decide +kernel) (by decide +kernel) (by decide +kernel) ?_
        walk_at "wk"
        refine e_kne (b := true) rfl rfl (by decide +kernel) (by decide +kernel) (by decide +kernel) ?_
        walk_at "wk"
        rfl
      walk_at "wk"
      exact e_fin rfl fin
end
end K85
namespace Wk
open PySem L2
theorem Hd.elsewhere {K : Fr} {C : PC} {F : Hp} {ρ : Rho} {σ : L2.St} {H H' : Hp} (h : Hd K C F ρ σ H) {a : Addr} (fa : F a = none) (ca : C.H0 a = none) (sl : ∀ (i : Nat) (b1 : Bool) (o1 : Ow), ρ[i]? = some (some (En.own b1 o1)) → σ[i]? ≠ some (some (V.ref a))) (kp : ∀ w, (a, w) ∉ C.keep) (e : ∀ b, b ≠ a → H' b = H b) : Hd K C F ρ σ H' where
  len := h.len
  sub := fun b o q => by
    have ne : b ≠ a := fun z => by subst z; rw [fa] at q; cases q
    rw [e b ne]
    exact h.sub b o q
  f0 := h.f0
  new := h.new
  old := fun b o q => by
    have ne : b ≠ a := fun z => by subst z; rw [ca] at q; cases q
    obtain ⟨o', h1, h2⟩ := h.old b o q
    exact ⟨o', by rw [e b ne]; exact h1, h2⟩
  slot := fun i en q => by
    obtain ⟨v, h1, h2⟩ := h.slot i en q
    refine ⟨v, h1, ?_⟩
    cases en with
    | dat d => exact h2
    | own io o =>
      obtain ⟨b, g3, g4, g5, g6⟩ := h2
      subst g3
      have ne : b ≠ a := fun z => sl i _ _ q (z ▸ h1)
      exact ⟨b, rfl, g4, g5.mono (Ext.refl F) (e b ne), g6⟩
  sep := h.sep
  kept := fun b w q => by
    obtain ⟨k1, k2, k3, k4⟩ := h.kept b w q
    have ne : b ≠ a := fun z => kp w (z ▸ q)
    exact ⟨by rw [e b ne]; exact k1, k2, k3, k4⟩
/-- a call with one thing that nobody else holds -/
def pCall1F (spec : FSpec) (t : PTF) : PTE := fun ρ P => t ρ fun o ρ1 => spec [.own true o] (fun r os => ∃ d o', r = .dat d ∧ os = [o'] ∧ P d ρ1) exNo
theorem simCall1F {K : Fr} {W : Wx} {spec : FSpec} {te : TE} {pf : PTF} (ha : SimF K W te pf) : SimE K W (tCall (spF K 1 spec) [] E0 (tCons te tNil)) (pCall1F spec pf) := fun C ok ρ P h F σ H hd Q q => by
  refine ha C ok ρ _ h F σ H hd _ fun o ρ1 a F1 H1 h1 e1 hd1 f => ?_
  obtain ⟨f1, f2, f3, f4, f5⟩ := f
  show spF K 1 spec ([V.ref a] ++ []) H1 Q E0
  refine ⟨F1, [.own true o], [a], _, exNo, rfl, hd1.sub, .own f1 f3 .nil, by simp, h1, fun r os v F' H' hP x1 x2 x3 x4 x5 x6 => ?_, fun c dd fs xs F' H' hE _ _ _ _ _ _ _ => hE.elim⟩
  obtain ⟨d, o', rfl, rfl, hP⟩ := hP
  have fa : F' a = none := by
    cases x5 with
    | cons r _ => exact r.1
  have hm : Hd K C F' ρ1 σ (mixH [a] H1 H') := by
    refine hd1.grow x1 (fun b u z => ?_) x3 (fun b u z => ?_)
    · unfold mixH
      by_cases hb : b ∈ [a]
      · rw [List.mem_singleton] at hb
        subst hb
        rw [fa] at z; cases z
      · rw [if_neg hb]; exact x2 b u z
    · unfold mixH
      by_cases hb : b ∈ [a]
      · rw [if_pos hb]; exact z
      · rw [if_neg hb]
        obtain ⟨u', w1, w2⟩ := x4 b u z
        rw [w1, w2 hb]
  refine q d ρ1 v F' H' hP (e1.trans x1) (hm.elsewhere fa f2 f4 f5 fun b hb => ?_) x6
  unfold mixH
  rw [if_neg (by rw [List.mem_singleton]; exact hb)]
theorem pd_cal1F {X : Cx} {W : Wx} {e : Expr} {pos : Pos} {te : TE} {pf : PTF} {k : Nat} {spec : FSpec} {x : Str} {p : Pos} (c : Cal X.prog X.w X.K X.mg X.base k x 1 spec) (hr : Room k X.A) (ha : PF X W e te pf)
    (hg : Gl X x := by rfl) (hdb : (x == ("__debug__" : Str)) = false := by decide) (he : starEach [e] X.env = (false, eval e X.env) :: starEach [] X.env := by rfl) (hpl : (backTo pos (starEach [] X.env)).any (·.1) = false := by rfl) :
    PD X W (.Call (.Name x p) [e] [] pos) (tCall (spF X.K 1 spec) [] E0 (tCons te tNil)) (pCall1F spec pf) := by
  obtain ⟨f, fd, ps, G, hm, hk, hb⟩ := c.ex
  exact ⟨L2.pe_call G hr hg hm hk hb .nil pass0 (L2.pa_cons ha.pe L2.pa_nil he) hdb he hpl, simCall1F ha.sim⟩
def kCall1F (spec : FSpec) (o : Ow) (ρ : Rho) (P : Dt → Rho → Prop) : Prop := spec [.own true o] (fun r os => ∃ d o', r = .dat d ∧ os = [o'] ∧ P d ρ) exNo
theorem e_call1F {spec : FSpec} {tf : PTF} {ρ : Rho} {P : Dt → Rho → Prop} (q : tf ρ fun o ρ1 => kCall1F spec o ρ1 P) : pCall1F spec tf ρ P := q
end Wk
namespace K85
open PySem PySem.Spec PyProof.Rows L2 Wk
local macro_rules | `(tactic| walk_at "wk") => `(tactic| repeat (first
  | apply_rules -symm -exfalso (transparency := .reducible) (maxDepth := 100000) only [@e_seq, @e_c, @e_ix, @e_set, @e_op, @e_I2, @e_fI0, @e_ifS, @e_tst, @e_ktst, @e_ift, @e_iff, @e_ifnt, @e_ifnf, @e_ret, @e_retF, @e_acons, @e_anil, @e_alend, @e_tup, @e_int, @e_kint, @e_vd, @e_setIx, @e_toL, @e_toT, @e_callD, @e_toD, @e_toDo, @e_callF, @e_kown, @e_frz, @e_len, @e_setF, @e_lst, @e_and, @e_or, @e_not, @e_andV, @e_orV, @e_notV, @e_kandV, @e_korV, @e_knotV, @e_ifE, @e_is, @e_isnot, @e_neg, @e_kneg, @e_par, @e_asg, @e_gnil, @e_gcons, @e_slT, @e_slL, @e_nopart, @e_part, @e_kpart, @e_sum, @e_min, @e_max, @e_abs, @e_kabs, @e_MM, @e_kMM, @e_tupOf, @e_lstOf, @e_isi, @e_inI, @e_dget, @e_din, @e_dnew, @e_catT, @e_catL, @e_index, @e_eq, @e_chain, @e_kchain, @e_kchain2, @e_drop, @e_next, @e_brk, @e_cnt, @e_retnon, @e_setK, @e_iL, @e_kL, @e_iT, @e_kT, @e_iR1, @e_iR2, @e_for, @e_yes, @e_lc, @e_raise, @e_try, @e_isX, @e_xf]
  | ((with_reducible refine' e_var ?k1 ?_); (case k1 => exact rfl))
  | ((with_reducible refine' e_kset ?k1 ?k2 ?_); (case k1 => exact rfl); (case k2 => (with_reducible (first | exact st0 | exact st1 | exact st2 | exact st3 | exact st4 | exact st5 | exact st6 | exact st7 | exact st8 | exact st9 | exact st10 | exact st11 | exact st12 | exact st13 | exact st14 | exact st15 | exact st16 | exact st17 | exact st18 | exact st19 | exact st20))))
  | ((with_reducible refine' e_ktup ?k1 ?k2 ?_); (case k1 => exact rfl); (case k2 => exact rfl))
  | ((with_reducible refine' e_kix ?k1 ?k2 ?k3 ?_); (case k1 => exact rfl); (case k2 => exact rfl); (case k3 => exact rfl))
  | ((with_reducible refine' e_vn ?k1 ?_); (case k1 => exact rfl))
  | ((with_reducible refine' e_varL ?k1 ?k2 ?_); (case k1 => exact rfl); (case k2 => (with_reducible (first | exact st0 | exact st1 | exact st2 | exact st3 | exact st4 | exact st5 | exact st6 | exact st7 | exact st8 | exact st9 | exact st10 | exact st11 | exact st12 | exact st13 | exact st14 | exact st15 | exact st16 | exact st17 | exact st18 | exact st19 | exact st20))))
  | ((with_reducible refine' e_app ?k1 ?_); (case k1 => exact rfl))
  | ((with_reducible refine' e_kapp ?k1 ?k2 ?k3 ?_); (case k1 => exact rfl); (case k2 => (simp only [List.length_append, List.length_map, List.length_cons, List.length_nil]; omega)); (case k3 => (with_reducible (first | exact st0 | exact st1 | exact st2 | exact st3 | exact st4 | exact st5 | exact st6 | exact st7 | exact st8 | exact st9 | exact st10 | exact st11 | exact st12 | exact st13 | exact st14 | exact st15 | exact st16 | exact st17 | exact st18 | exact st19 | exact st20))))
  | ((with_reducible refine' e_ksetF ?k1 ?k2 ?_); (case k1 => exact rfl); (case k2 => (with_reducible (first | exact st0 | exact st1 | exact st2 | exact st3 | exact st4 | exact st5 | exact st6 | exact st7 | exact st8 | exact st9 | exact st10 | exact st11 | exact st12 | exact st13 | exact st14 | exact st15 | exact st16 | exact st17 | exact st18 | exact st19 | exact st20))))
  | ((with_reducible refine' e_klen ?k1 ?k2 ?_); (case k1 => exact rfl); (case k2 => exact rfl))
  | ((with_reducible refine' e_klst ?k1 ?k2 ?_); (case k1 => exact rfl); (case k2 => exact rfl))
  | ((with_reducible refine' e_gtup ?k1 ?_); (case k1 => exact rfl))
  | ((with_reducible refine' e_gN ?k1 ?k2 ?_); (case k1 => exact rfl); (case k2 => (with_reducible (first | exact st0 | exact st1 | exact st2 | exact st3 | exact st4 | exact st5 | exact st6 | exact st7 | exact st8 | exact st9 | exact st10 | exact st11 | exact st12 | exact st13 | exact st14 | exact st15 | exact st16 | exact st17 | exact st18 | exact st19 | exact st20))))
  | ((with_reducible refine' e_varT ?k1 ?k2 ?_); (case k1 => exact rfl); (case k2 => (with_reducible (first | exact st0 | exact st1 | exact st2 | exact st3 | exact st4 | exact st5 | exact st6 | exact st7 | exact st8 | exact st9 | exact st10 | exact st11 | exact st12 | exact st13 | exact st14 | exact st15 | exact st16 | exact st17 | exact st18 | exact st19 | exact st20))))
  | ((with_reducible refine' e_mulR ?k1 ?k2 ?_); (case k1 => omega); (case k2 => omega))
  | ((with_reducible refine' e_mulL ?k1 ?k2 ?_); (case k1 => omega); (case k2 => omega))
  | ((with_reducible refine' e_div ?k1 ?k2 ?_); (case k1 => omega); (case k2 => omega))
  | ((with_reducible refine' e_mod ?k1 ?_); (case k1 => omega))
  | ((with_reducible refine' e_retN ?k1 ?_); (case k1 => exact rfl))
  | ((with_reducible refine' e_retNO ?k1 ?k2 ?_); (case k1 => exact rfl); (case k2 => (with_reducible (first | exact st0 | exact st1 | exact st2 | exact st3 | exact st4 | exact st5 | exact st6 | exact st7 | exact st8 | exact st9 | exact st10 | exact st11 | exact st12 | exact st13 | exact st14 | exact st15 | exact st16 | exact st17 | exact st18 | exact st19 | exact st20))))
  | ((with_reducible refine' e_setIx1 ?k1 ?_); (case k1 => exact rfl))
  | ((with_reducible refine' e_ksetIx ?k1 ?k2 ?k3 ?_); (case k1 => exact rfl); (case k2 => exact rfl); (case k3 => (with_reducible (first | exact st0 | exact st1 | exact st2 | exact st3 | exact st4 | exact st5 | exact st6 | exact st7 | exact st8 | exact st9 | exact st10 | exact st11 | exact st12 | exact st13 | exact st14 | exact st15 | exact st16 | exact st17 | exact st18 | exact st19 | exact st20))))
  | ((with_reducible refine' e_kpar ?k1 ?k2 ?k3 ?_); (case k1 => exact rfl); (case k2 => exact rfl); (case k3 => (repeat (first | exact set_0 | apply set_s))))
  | ((with_reducible refine' e_aug ?k1 ?_); (case k1 => exact rfl))
  | ((with_reducible refine' e_kaug ?k1 ?k2 ?_); (case k1 => exact rfl); (case k2 => (with_reducible (first | exact st0 | exact st1 | exact st2 | exact st3 | exact st4 | exact st5 | exact st6 | exact st7 | exact st8 | exact st9 | exact st10 | exact st11 | exact st12 | exact st13 | exact st14 | exact st15 | exact st16 | exact st17 | exact st18 | exact st19 | exact st20))))
  | ((with_reducible refine' e_kslT ?k1 ?_); (case k1 => exact rfl))
  | ((with_reducible refine' e_kslL ?k1 ?_); (case k1 => exact rfl))
  | ((with_reducible refine' e_ksum ?k1 ?_); (case k1 => exact rfl))
  | ((with_reducible refine' e_ktupOf ?k1 ?k2 ?_); (case k1 => exact rfl); (case k2 => exact rfl))
  | ((with_reducible refine' e_klstOf ?k1 ?k2 ?_); (case k1 => exact rfl); (case k2 => exact rfl))
  | ((with_reducible refine' e_kisi ?k1 ?k2 ?k3 ?_); (case k1 => exact rfl); (case k2 => exact rfl); (case k3 => (first | exact ks_ii | exact ks_ib | exact ks_bi | exact ks_bb | exact ks_ni | exact ks_nb | exact ks_tt | exact ks_lt | exact ks_it | exact ks_nt | exact ks_ti | exact ks_si)))
  | ((with_reducible refine' e_kR1 ?k1 ?k2 ?_); (case k1 => omega); (case k2 => omega))
  | ((with_reducible refine' e_kR2 ?k1 ?_); (case k1 => omega))
  ))
local macro_rules | `(tactic| walk_at "wk0") => `(tactic| (unfold endsF; (with_reducible refine' st_rho ?k1 ?_); (case k1 => repeat (first | exact rh_0 | (with_reducible apply rh_m) | (with_reducible apply rh_n) | apply rh_s))))
local macro_rules | `(tactic| walk_at "set") => `(tactic| with_reducible (first | exact st0 | exact st1 | exact st2 | exact st3 | exact st4 | exact st5 | exact st6 | exact st7 | exact st8 | exact st9 | exact st10 | exact st11 | exact st12 | exact st13 | exact st14 | exact st15 | exact st16 | exact st17 | exact st18 | exact st19 | exact st20))
abbrev slaw : Stmt := topS 42
abbrev nlaw : List Str := ["script", "draws", "graphs", "at", "first", "graph", "bag"]
theorem sclaw : FnScope ["script", "draws", "graphs", "at", "first", "graph", "bag"] ["script"] (defScope slaw) := ⟨rfl, rfl, rfl, by decide +kernel, rfl, by decide +kernel, by decide +kernel⟩
theorem bilaw : BindOk "law" slaw ["script"] := fun _ _ _ _ _ _ us hl => match us, hl with | [_], _ => rfl
def frLaw : FR := ⟨List Int, fun a => [.dat (.scr a)], fun a => a.length ≤ 1000000, fun _ r os => r = .dat (.bl true) ∧ os = []⟩
section
variable {P : Program} {w : World} {K : PySem.W.Frag} {mg : Str → Option Value} {base : Heap}
theorem call_bag {ρ : Rho} {ws : List Vw} {PR : Rs → Rho → Prop} {ex : Addr → List (Str × Dt) → Prop} {ns : List Int} {k : Nat} (h1 : resv ρ ws = some [.dat (.scr ns), .dat (.int (k : Int))]) (h3 : slotsOf ws = []) (hn : ns.length ≤ 1000000) (hk : k ≤ 1000) (q : ∀ b : Bag, PR (.own (.lst (bagD b))) ρ) : kCall 2 frBag.sp ex ws ρ PR := by
  refine e_callR0 frBag (ns, k) h1 rfl h3 ⟨hn, hk⟩ fun r os h => ?_
  obtain ⟨rfl, b, rfl⟩ := h
  exact ⟨rfl, q b⟩
theorem ok_law {cN cT fL : Addr} {fdL : FuncData} (FL : Fun K "law" "law" slaw fL fdL) (B : Bi mg) (c_law_bag : Cal P w K mg base 1 "_law_bag" 2 frBag.sp) (c_law_draw : Cal P w K mg base 1 "_law_draw" 2 frDraw.sp) (c_law_rings : Cal P w K mg base 3 "_law_rings" 1 frRings.sp) (c_law_small : Cal P w K mg base 3 "_law_small" 1 frSmall.sp) (cleast_mean : CalX P w K mg base 4 "least_mean" 2 (fxLeast cN cT).sp) (c_law_graph_right : Cal P w K mg base 7 "_law_graph_right" 2 frGraph.sp) (c_law_refused : Cal P w K mg base 7 "_law_refused" 1 frRefused.sp) : FnOk P w K mg base CX0 8 fL fdL ["script"] (spF K (["script"] : List Str).length frLaw.sp) := by
  refine okP FL sclaw fun cdv A outer s H E hr => ⟨_, _, (ps_cons' (ps_setF' 1 sclaw.nd (pf_cal c_law_bag (hr.mono (by decide)) (pa_cons' (pd_var 0) (pa_cons' pd_int pa_nil'))))
      (ps_cons' (ps_setF' 2 sclaw.nd (pf_lst pa_nil'))
      (ps_cons' (ps_for' PassesOwn.never rfl (pi_range1' B.range pd_int) (pg_name' 3 sclaw.nd)
       (ps_cons' (ps_setF' 6 sclaw.nd (pf_cal c_law_bag (hr.mono (by decide)) (pa_cons' (pd_var 0) (pa_cons' (pd_var 3) pa_nil'))))
        (ps_one' (ps_app' 2 (pd_ifE (PCm.pdt (c_eqI (pd_cal c_law_draw (hr.mono (by decide)) (pa_lend (pv_name 6) (pa_cons' pd_int pa_nil'))) pd_int)) (pd_cal c_law_rings (hr.mono (by decide)) (pa_lend (pv_name 6) pa_nil')) (pd_cal c_law_small (hr.mono (by decide)) (pa_lend (pv_name 6) pa_nil')))))))
      (ps_cons' (ps_set' 4 sclaw.nd (pd_calX cleast_mean (hr.mono (by decide)) passL (pa_cons' (pd_ix (PD.pv (pd_ix (pv_name 2) pd_int)) pd_int) (pa_cons' (pd_ix (PD.pv (pd_ix (pv_name 2) pd_int)) pd_int) pa_nil'))))
      (ps_cons' (ps_for' PassesOwn.never rfl (pi_list' (pd_var 2)) (pg_name' 5 sclaw.nd)
       (ps_one' (ps_if' (pdt_not (pdt_val (pd_cal c_law_graph_right (hr.mono (by decide)) (pa_lend (pv_name 1) (pa_cons' (pd_var 5) pa_nil')))))
         (ps_one' (ps_ret' pd_bl))
         ps_nil')))
      (ps_cons' (ps_if' (PCm.pdt (c_ne (by exact hr.units) (PD.pv (pd_calX cleast_mean (hr.mono (by decide)) passL (pa_cons' (pd_ix (PD.pv (pd_ix (pv_name 2) pd_int)) pd_int) (pa_cons' (pd_ix (PD.pv (pd_ix (pv_name 2) pd_int)) pd_int) pa_nil')))) (pv_name 4)))
       (ps_one' (ps_ret' pd_bl))
       ps_nil')
      (ps_one' (ps_ret' (pd_or (PCm.pd (c_gt (pd_cal c_law_draw (hr.mono (by decide)) (pa_lend (pv_name 1) (pa_cons' pd_int pa_nil'))) pd_int)) (pd_one (pd_cal1F c_law_refused (hr.mono (by decide)) (pf_cal c_law_bag (hr.mono (by decide)) (pa_cons' (pd_var 0) (pa_cons' pd_int pa_nil')))))))))))))), ?_⟩
  rintro es P' Ex ρ0 hl ⟨(ns : List Int), rfl, (hns : ns.length ≤ 1000000), hp⟩ rfl
  dsimp only [frLaw] at hp
  dsimp only [frLaw]
  have fin : P' (.dat (.bl true)) [] := hp _ _ ⟨rfl, rfl⟩
  walk_at "wk0"
  walk_at "wk"
  refine call_bag (k := 2) rfl rfl hns (by decide) fun db => ?_
  walk_at "wk"
  refine e_forI [3, 6] (fun i ρ => ∃ gs : List (Nat × List Arc × List Rnd), ρ = [some (.dat (.scr ns)), some (.own false (.lst (bagD db))), some (.own false (.lst (gs.map fun g => graphD g.1 g.2.1 g.2.2))), none, none, none, none] ∧ gs.length = i ∧ ∀ g ∈ gs, GraphOk g.1 g.2.1 g.2.2) ⟨[], rfl, rfl, fun g hg => nomatch hg⟩ (fun i x ρ2 hi hI => ?_) (fun ρ2 hI => ?_)
  · obtain ⟨gs, rfl, hl, hg⟩ := hI
    obtain ⟨hi2, rfl⟩ := rng_get hi
    have add : ∀ n G R, GraphOk n G R → ∀ g ∈ gs ++ [(n, G, R)], GraphOk g.1 g.2.1 g.2.2 := fun n G R h g hgm => by
      rcases List.mem_append.mp hgm with z | z
      · exact hg g z
      · rw [List.mem_singleton] at z
        rw [z]
        exact h
    walk_at "wk"
    refine call_bag (k := i) rfl rfl hns (by omega) fun b => ?_
    walk_at "wk"
    refine call_dr rfl rfl rfl (by decide) (by decide) fun x1 b hx1 ρ e => ?_
    simp only [List.set_cons_succ, List.set_cons_zero] at e
    subst e
    walk_at "wk"
    refine e_ifd (fun h => ?_) (fun h => ?_)
    · walk_at "wk"
      refine e_callR1 frRings b rfl rfl rfl rfl trivial fun r os h => ?_
      obtain ⟨n, G, R, b, rfl, rfl, hG⟩ := h
      refine ⟨_, rfl, fun ρ e => ?_⟩
      simp only [List.set_cons_succ, List.set_cons_zero] at e
      subst e
      walk_at "wk"
      refine ⟨gs ++ [(n, G, R)], ?_, by rw [List.length_append, hl]; rfl, add n G R hG⟩
      rw [List.map_append]
      rfl
    · walk_at "wk"
      refine e_callR1 frSmall b rfl rfl rfl rfl trivial fun r os h => ?_
      obtain ⟨n, G, b, rfl, rfl, h1, h2, h3, h4⟩ := h
      refine ⟨_, rfl, fun ρ e => ?_⟩
      simp only [List.set_cons_succ, List.set_cons_zero] at e
      subst e
      walk_at "wk"
      refine ⟨gs ++ [(n, G, roundsN n G)], ?_, by rw [List.length_append, hl]; rfl, add n G _ (small_ok h1 h2 h3 h4)⟩
      rw [List.map_append]
      rfl
  obtain ⟨gs, rfl, hl, hg⟩ := hI
  rw [rngD_len] at hl
  obtain ⟨n1, G1, R1, n2, G2, R2, rfl⟩ : ∃ n1 G1 R1 n2 G2 R2, gs = [(n1, G1, R1), (n2, G2, R2)] := by
    match gs, hl with
    | [(n1, G1, R1), (n2, G2, R2)], _ => exact ⟨n1, G1, R1, n2, G2, R2, rfl⟩
  have g1 := hg (n1, G1, R1) List.mem_cons_self
  have g2 := hg (n2, G2, R2) (List.mem_cons_of_mem _ List.mem_cons_self)
  dsimp only at g1 g2
  clear hg
  have egs : ([(n1, G1, R1), (n2, G2, R2)].map fun g : Nat × List Arc × List Rnd => graphD g.1 g.2.1 g.2.2) = [.tup [.int (n1 : Int), arcsD G1, rndsD R1], graphD n2 G2 R2] := rfl
  rw [egs]
  walk_at "wk"
  refine call_lm rfl rfl (fine_of g1) ?_
  walk_at "wk"
  refine e_forI [5] (fun i ρ => ∃ db : Bag, ρ = [some (.dat (.scr ns)), some (.own false (.lst (bagD db))), some (.dat (.lst [.tup [.int (n1 : Int), arcsD G1, rndsD R1], graphD n2 G2 R2])), none, some (.dat (optF (leastMean n1 G1))), none, none]) ⟨db, rfl⟩ (fun i x ρ2 hi hI => ?_) (fun ρ2 hI => ?_)
  · obtain ⟨db, rfl⟩ := hI
    obtain ⟨n, G, R, rfl, hG⟩ : ∃ n G R, x = graphD n G R ∧ GraphOk n G R := by
      have := List.mem_of_getElem? hi
      simp only [List.mem_cons, List.not_mem_nil, or_false] at this
      rcases this with rfl | rfl
      · exact ⟨n1, G1, R1, rfl, g1⟩
      · exact ⟨n2, G2, R2, rfl, g2⟩
    walk_at "wk"
    refine e_callR1 frGraph (db, n, G, R) rfl rfl rfl rfl hG fun r os h => ?_
    obtain ⟨b, rfl, rfl⟩ := h
    refine ⟨_, rfl, fun ρ e => ?_⟩
    simp only [List.set_cons_succ, List.set_cons_zero] at e
    subst e
    walk_at "wk"
    exact ⟨b, rfl⟩
  obtain ⟨db, rfl⟩ := hI
  walk_at "wk"
  refine call_lm rfl rfl (fine_of g1) ?_
  walk_at "wk"
  refine e_kne (b := true) rfl rfl (ok_optF _) (ok_optF _) (eq_optF _) ?_
  walk_at "wk"
  refine call_dr rfl rfl rfl (by decide) (by decide) fun x1 b hx1 ρ e => ?_
  simp only [List.set_cons_succ, List.set_cons_zero] at e
  subst e
  walk_at "wk"
  refine e_ifd (fun h => ?_) (fun h => ?_)
  · walk_at "wk"
    exact e_fin rfl fin
  · walk_at "wk"
    refine e_call1F ?_
    walk_at "wk"
    refine call_bag (k := 3) rfl rfl hns (by decide) fun rb => ?_
    walk_at "wk"
    refine ⟨rb, rfl, trivial, fun r os h => ?_⟩
    obtain ⟨b', rfl, rfl⟩ := h
    refine ⟨_, _, rfl, rfl, ?_⟩
    exact e_fin rfl fin
end
end K85
namespace K85
open PySem PySem.Spec PyProof.Rows L2 Wk
def clsB : Stmt → List Stmt
  | .ClassDef _ _ _ b _ _ _ _ _ _ _ => b
  | _ => []
abbrev iNoPaper : Stmt := (clsB (topS 2)).getD 0 (.Pass ⟨0, 0, 0, 0⟩)
theorem shNoPaper : ShX iNoPaper "no paper: " "reason" := ⟨by refine ⟨_, _, _, _, _, _, _, _, _, _, _, _, _, ?_, rfl⟩; rfl, NdefX.nscope_by (by decide +kernel), ⟨_, rfl, rfl⟩, rfl, rfl, rfl, by decide, by decide, by decide +kernel, fun _ _ _ _ _ _ _ _ us hl => match us, hl with | [_, _], _ => rfl⟩
abbrev iNoValue : Stmt := (clsB (topS 3)).getD 0 (.Pass ⟨0, 0, 0, 0⟩)
theorem shNoValue : ShX iNoValue "wrong value: " "reason" := ⟨by refine ⟨_, _, _, _, _, _, _, _, _, _, _, _, _, ?_, rfl⟩; rfl, NdefX.nscope_by (by decide +kernel), ⟨_, rfl, rfl⟩, rfl, rfl, rfl, by decide, by decide, by decide +kernel, fun _ _ _ _ _ _ _ _ us hl => match us, hl with | [_, _], _ => rfl⟩
abbrev iTooMany : Stmt := (clsB (topS 4)).getD 0 (.Pass ⟨0, 0, 0, 0⟩)
theorem shTooMany : ShX iTooMany "too many " "what" := ⟨by refine ⟨_, _, _, _, _, _, _, _, _, _, _, _, _, ?_, rfl⟩; rfl, NdefX.nscope_by (by decide +kernel), ⟨_, rfl, rfl⟩, rfl, rfl, rfl, by decide, by decide, by decide +kernel, fun _ _ _ _ _ _ _ _ us hl => match us, hl with | [_, _], _ => rfl⟩
theorem df_mk {K : PySem.W.Frag} {h : Heap} {mg : Str → Option Value} {x : Str} {st : Stmt} {f : Addr} {oc : Value} {od an : Option Addr} {osl : Array (Option Value)} {kV doc pm cdv ct : Value} (X : K.In h) (G : h.Ns mainGlobals mg) (a : PySem.W.nsIn K mainGlobals x = some (some (.ref f))) (l : K.lookup f = some ⟨oc, od, .func (PySem.W.fnOf x x (defArgs st) (defBody st) (defScope st) .none kV doc pm an cdv ct), osl⟩) (c : PySem.W.codeIn K cdv x = true) (k : PySem.W.keepIn K (.ref f) = true) : Df K mg x st := ⟨⟨f, _, fun_mk (st := st) l c k, PySem.W.mg_of X G a⟩⟩
theorem all_mk {P : Program} {w : World} {K : PySem.W.Frag} {h : Heap} {mg : Str → Option Value} {fa : Addr} (X : K.In h) (G : h.Ns mainGlobals mg) (hfa : mg "law" = some (.ref fa))
    {cW : Addr}
    {cP fP ccP cdP : Addr}
    {nmP qnP : Str} {nnP : Addr} {bsP : List Value} {snP : List Str} {subP : List Value} {abP : Bool} {colP : Option Bool} {ddP : Option Addr} {m0P m1P m2P m3P m5P : Option Value}
    {odP anP : Option Addr} {slP : Array (Option Value)} {ocP kvP dcP pmP ctP : Value}
    {clP : Value} {cldP : Option Addr} {cslP : Array (Option Value)} {cclP : Value} {cddP : Option Addr} {ccsP : Array (Option Value)} {vsP : Array Value} {flP : Str} {tfP : Tok}
    {cN fN ccN cdN : Addr}
    {nmN qnN : Str} {nnN : Addr} {bsN : List Value} {snN : List Str} {subN : List Value} {abN : Bool} {colN : Option Bool} {ddN : Option Addr} {m0N m1N m2N m3N m5N : Option Value}
    {odN anN : Option Addr} {slN : Array (Option Value)} {ocN kvN dcN pmN ctN : Value}
    {clN : Value} {cldN : Option Addr} {cslN : Array (Option Value)} {cclN : Value} {cddN : Option Addr} {ccsN : Array (Option Value)} {vsN : Array Value} {flN : Str} {tfN : Tok}
    {cT fT ccT cdT : Addr}
    {nmT qnT : Str} {nnT : Addr} {bsT : List Value} {snT : List Str} {subT : List Value} {abT : Bool} {colT : Option Bool} {ddT : Option Addr} {m0T m1T m2T m3T m5T : Option Value}
    {odT anT : Option Addr} {slT : Array (Option Value)} {ocT kvT dcT pmT ctT : Value}
    {clT : Value} {cldT : Option Addr} {cslT : Array (Option Value)} {cclT : Value} {cddT : Option Addr} {ccsT : Array (Option Value)} {vsT : Array Value} {flT : Str} {tfT : Tok}
    {tN tA : Tok}
    {f_is_whole : Addr} {od_is_whole an_is_whole : Option Addr} {sl_is_whole : Array (Option Value)} {oc_is_whole kv_is_whole dc_is_whole pm_is_whole cd_is_whole ct_is_whole : Value}
    {f_check_arcs : Addr} {od_check_arcs an_check_arcs : Option Addr} {sl_check_arcs : Array (Option Value)} {oc_check_arcs kv_check_arcs dc_check_arcs pm_check_arcs cd_check_arcs ct_check_arcs : Value}
    {f_walk_costs : Addr} {od_walk_costs an_walk_costs : Option Addr} {sl_walk_costs : Array (Option Value)} {oc_walk_costs kv_walk_costs dc_walk_costs pm_walk_costs cd_walk_costs ct_walk_costs : Value}
    {f_less : Addr} {od_less an_less : Option Addr} {sl_less : Array (Option Value)} {oc_less kv_less dc_less pm_less cd_less ct_less : Value}
    {f_lowest : Addr} {od_lowest an_lowest : Option Addr} {sl_lowest : Array (Option Value)} {oc_lowest kv_lowest dc_lowest pm_lowest cd_lowest ct_lowest : Value}
    {f_least_mean : Addr} {od_least_mean an_least_mean : Option Addr} {sl_least_mean : Array (Option Value)} {oc_least_mean kv_least_mean dc_least_mean pm_least_mean cd_least_mean ct_least_mean : Value}
    {f_spare : Addr} {od_spare an_spare : Option Addr} {sl_spare : Array (Option Value)} {oc_spare kv_spare dc_spare pm_spare cd_spare ct_spare : Value}
    {f_potentials_for : Addr} {od_potentials_for an_potentials_for : Option Addr} {sl_potentials_for : Array (Option Value)} {oc_potentials_for kv_potentials_for dc_potentials_for pm_potentials_for cd_potentials_for ct_potentials_for : Value}
    {f_tight_round : Addr} {od_tight_round an_tight_round : Option Addr} {sl_tight_round : Array (Option Value)} {oc_tight_round kv_tight_round dc_tight_round pm_tight_round cd_tight_round ct_tight_round : Value}
    {f_mean_paper : Addr} {od_mean_paper an_mean_paper : Option Addr} {sl_mean_paper : Array (Option Value)} {oc_mean_paper kv_mean_paper dc_mean_paper pm_mean_paper cd_mean_paper ct_mean_paper : Value}
    {f_shows_mean : Addr} {od_shows_mean an_shows_mean : Option Addr} {sl_shows_mean : Array (Option Value)} {oc_shows_mean kv_shows_mean dc_shows_mean pm_shows_mean cd_shows_mean ct_shows_mean : Value}
    {f__law_bag : Addr} {od__law_bag an__law_bag : Option Addr} {sl__law_bag : Array (Option Value)} {oc__law_bag kv__law_bag dc__law_bag pm__law_bag cd__law_bag ct__law_bag : Value}
    {f__law_draw : Addr} {od__law_draw an__law_draw : Option Addr} {sl__law_draw : Array (Option Value)} {oc__law_draw kv__law_draw dc__law_draw pm__law_draw cd__law_draw ct__law_draw : Value}
    {f__law_pick : Addr} {od__law_pick an__law_pick : Option Addr} {sl__law_pick : Array (Option Value)} {oc__law_pick kv__law_pick dc__law_pick pm__law_pick cd__law_pick ct__law_pick : Value}
    {f__law_whole : Addr} {od__law_whole an__law_whole : Option Addr} {sl__law_whole : Array (Option Value)} {oc__law_whole kv__law_whole dc__law_whole pm__law_whole cd__law_whole ct__law_whole : Value}
    {f__law_cheapest : Addr} {od__law_cheapest an__law_cheapest : Option Addr} {sl__law_cheapest : Array (Option Value)} {oc__law_cheapest kv__law_cheapest dc__law_cheapest pm__law_cheapest cd__law_cheapest ct__law_cheapest : Value}
    {f__law_rounds : Addr} {od__law_rounds an__law_rounds : Option Addr} {sl__law_rounds : Array (Option Value)} {oc__law_rounds kv__law_rounds dc__law_rounds pm__law_rounds cd__law_rounds ct__law_rounds : Value}
    {f__law_small : Addr} {od__law_small an__law_small : Option Addr} {sl__law_small : Array (Option Value)} {oc__law_small kv__law_small dc__law_small pm__law_small cd__law_small ct__law_small : Value}
    {f__law_ring : Addr} {od__law_ring an__law_ring : Option Addr} {sl__law_ring : Array (Option Value)} {oc__law_ring kv__law_ring dc__law_ring pm__law_ring cd__law_ring ct__law_ring : Value}
    {f__law_rings : Addr} {od__law_rings an__law_rings : Option Addr} {sl__law_rings : Array (Option Value)} {oc__law_rings kv__law_rings dc__law_rings pm__law_rings cd__law_rings ct__law_rings : Value}
    {f__law_least : Addr} {od__law_least an__law_least : Option Addr} {sl__law_least : Array (Option Value)} {oc__law_least kv__law_least dc__law_least pm__law_least cd__law_least ct__law_least : Value}
    {f__law_lowest : Addr} {od__law_lowest an__law_lowest : Option Addr} {sl__law_lowest : Array (Option Value)} {oc__law_lowest kv__law_lowest dc__law_lowest pm__law_lowest cd__law_lowest ct__law_lowest : Value}
    {f__law_potentials : Addr} {od__law_potentials an__law_potentials : Option Addr} {sl__law_potentials : Array (Option Value)} {oc__law_potentials kv__law_potentials dc__law_potentials pm__law_potentials cd__law_potentials ct__law_potentials : Value}
    {f__law_judge : Addr} {od__law_judge an__law_judge : Option Addr} {sl__law_judge : Array (Option Value)} {oc__law_judge kv__law_judge dc__law_judge pm__law_judge cd__law_judge ct__law_judge : Value}
    {f__law_numbers : Addr} {od__law_numbers an__law_numbers : Option Addr} {sl__law_numbers : Array (Option Value)} {oc__law_numbers kv__law_numbers dc__law_numbers pm__law_numbers cd__law_numbers ct__law_numbers : Value}
    {f__law_is_paper : Addr} {od__law_is_paper an__law_is_paper : Option Addr} {sl__law_is_paper : Array (Option Value)} {oc__law_is_paper kv__law_is_paper dc__law_is_paper pm__law_is_paper cd__law_is_paper ct__law_is_paper : Value}
    {f__law_another : Addr} {od__law_another an__law_another : Option Addr} {sl__law_another : Array (Option Value)} {oc__law_another kv__law_another dc__law_another pm__law_another cd__law_another ct__law_another : Value}
    {f__law_changed : Addr} {od__law_changed an__law_changed : Option Addr} {sl__law_changed : Array (Option Value)} {oc__law_changed kv__law_changed dc__law_changed pm__law_changed cd__law_changed ct__law_changed : Value}
    {f__law_asked : Addr} {od__law_asked an__law_asked : Option Addr} {sl__law_asked : Array (Option Value)} {oc__law_asked kv__law_asked dc__law_asked pm__law_asked cd__law_asked ct__law_asked : Value}
    {f__law_judged : Addr} {od__law_judged an__law_judged : Option Addr} {sl__law_judged : Array (Option Value)} {oc__law_judged kv__law_judged dc__law_judged pm__law_judged cd__law_judged ct__law_judged : Value}
    {f__law_graph_right : Addr} {od__law_graph_right an__law_graph_right : Option Addr} {sl__law_graph_right : Array (Option Value)} {oc__law_graph_right kv__law_graph_right dc__law_graph_right pm__law_graph_right cd__law_graph_right ct__law_graph_right : Value}
    {f__law_refused : Addr} {od__law_refused an__law_refused : Option Addr} {sl__law_refused : Array (Option Value)} {oc__law_refused kv__law_refused dc__law_refused pm__law_refused cd__law_refused ct__law_refused : Value}
    {f_law : Addr} {od_law an_law : Option Addr} {sl_law : Array (Option Value)} {oc_law kv_law dc_law pm_law cd_law ct_law : Value}
    (aW : PySem.W.nsIn K mainGlobals "WedgeError" = some (some (.ref cW)))
    (aP : PySem.W.nsIn K mainGlobals "NoPaper" = some (some (.ref cP)))
    (xLP : K.lookup cP = some (excClassObj nmP qnP cP nnP bsP [.ref cW, .type "ValueError", .type "Exception", .type "BaseException", .type "object"] true snP subP abP colP ddP m0P m1P m2P m3P m5P "ValueError.__new__"))
    (saP : PySem.W.findIn K (.ref cP) "__setattr__" = some (some (.builtin "object.__setattr__")))
    (gaP : PySem.W.findIn K (.ref cP) "__getattribute__" = some (some (.builtin "BaseException.__getattribute__")))
    (ggP : PySem.W.findIn K (.ref cP) "__getattr__" = some none)
    (noP : PySem.W.findIn K (.ref cP) "reason" = some none)
    (icP : PySem.W.findIn K (.ref cP) "__class__" = some (some (.builtin "object.__class__")))
    (eCP : PySem.W.subIn K (.ref cP) (.type "BaseException") = some true)
    (eVP : PySem.W.subIn K (.ref cP) (.type "ValueError") = some true)
    (tyP : PySem.W.typeIn K (.ref cP) = some (.type "type"))
    (kCP : PySem.W.keepIn K (.ref cP) = true)
    (hdP : PySem.W.hasDictIn K cP = true)
    (moP : PySem.W.mroIn K cP (.type "object") = some true)
    (suP : PySem.W.ks_superIn K cP cP "__init__" = some (some (.builtin "ValueError.__init__")))
    (iCP : PySem.W.findIn K (.ref cP) "__init__" = some (some (.ref fP)))
    (tIP : PySem.W.typeIn K (.ref fP) = some (.type "function"))
    (lIP : K.lookup fP = some ⟨ocP, odP, .func (PySem.W.fnX "__init__" "NoPaper.__init__" (defArgs iNoPaper) (defBody iNoPaper) (defScope iNoPaper) [("__class__", ccP)] .none kvP dcP pmP anP (.ref cdP) ctP), slP⟩)
    (cIP : PySem.W.codeIn K (.ref cdP) "NoPaper.__init__" = true)
    (lcP : K.lookup ccP = some ⟨clP, cldP, .cell (some (.ref cP)), cslP⟩)
    (ldP : K.lookup cdP = some ⟨cclP, cddP, .fields vsP, ccsP⟩)
    (v2P : vsP[2]? = some (.str flP tfP))
    (feP : ((P.main.file : Str) == flP) = true)
    (emP : PySem.W.exmOne K (.ref cP) (.ref cW) = some true)
    (aN : PySem.W.nsIn K mainGlobals "NoValue" = some (some (.ref cN)))
    (xLN : K.lookup cN = some (excClassObj nmN qnN cN nnN bsN [.ref cW, .type "ValueError", .type "Exception", .type "BaseException", .type "object"] true snN subN abN colN ddN m0N m1N m2N m3N m5N "ValueError.__new__"))
    (saN : PySem.W.findIn K (.ref cN) "__setattr__" = some (some (.builtin "object.__setattr__")))
    (gaN : PySem.W.findIn K (.ref cN) "__getattribute__" = some (some (.builtin "BaseException.__getattribute__")))
    (ggN : PySem.W.findIn K (.ref cN) "__getattr__" = some none)
    (noN : PySem.W.findIn K (.ref cN) "reason" = some none)
    (icN : PySem.W.findIn K (.ref cN) "__class__" = some (some (.builtin "object.__class__")))
    (eCN : PySem.W.subIn K (.ref cN) (.type "BaseException") = some true)
    (eVN : PySem.W.subIn K (.ref cN) (.type "ValueError") = some true)
    (tyN : PySem.W.typeIn K (.ref cN) = some (.type "type"))
    (kCN : PySem.W.keepIn K (.ref cN) = true)
    (hdN : PySem.W.hasDictIn K cN = true)
    (moN : PySem.W.mroIn K cN (.type "object") = some true)
    (suN : PySem.W.ks_superIn K cN cN "__init__" = some (some (.builtin "ValueError.__init__")))
    (iCN : PySem.W.findIn K (.ref cN) "__init__" = some (some (.ref fN)))
    (tIN : PySem.W.typeIn K (.ref fN) = some (.type "function"))
    (lIN : K.lookup fN = some ⟨ocN, odN, .func (PySem.W.fnX "__init__" "NoValue.__init__" (defArgs iNoValue) (defBody iNoValue) (defScope iNoValue) [("__class__", ccN)] .none kvN dcN pmN anN (.ref cdN) ctN), slN⟩)
    (cIN : PySem.W.codeIn K (.ref cdN) "NoValue.__init__" = true)
    (lcN : K.lookup ccN = some ⟨clN, cldN, .cell (some (.ref cN)), cslN⟩)
    (ldN : K.lookup cdN = some ⟨cclN, cddN, .fields vsN, ccsN⟩)
    (v2N : vsN[2]? = some (.str flN tfN))
    (feN : ((P.main.file : Str) == flN) = true)
    (emN : PySem.W.exmOne K (.ref cN) (.ref cW) = some true)
    (aT : PySem.W.nsIn K mainGlobals "TooMany" = some (some (.ref cT)))
    (xLT : K.lookup cT = some (excClassObj nmT qnT cT nnT bsT [.ref cW, .type "ValueError", .type "Exception", .type "BaseException", .type "object"] true snT subT abT colT ddT m0T m1T m2T m3T m5T "ValueError.__new__"))
    (saT : PySem.W.findIn K (.ref cT) "__setattr__" = some (some (.builtin "object.__setattr__")))
    (gaT : PySem.W.findIn K (.ref cT) "__getattribute__" = some (some (.builtin "BaseException.__getattribute__")))
    (ggT : PySem.W.findIn K (.ref cT) "__getattr__" = some none)
    (noT : PySem.W.findIn K (.ref cT) "what" = some none)
    (icT : PySem.W.findIn K (.ref cT) "__class__" = some (some (.builtin "object.__class__")))
    (eCT : PySem.W.subIn K (.ref cT) (.type "BaseException") = some true)
    (eVT : PySem.W.subIn K (.ref cT) (.type "ValueError") = some true)
    (tyT : PySem.W.typeIn K (.ref cT) = some (.type "type"))
    (kCT : PySem.W.keepIn K (.ref cT) = true)
    (hdT : PySem.W.hasDictIn K cT = true)
    (moT : PySem.W.mroIn K cT (.type "object") = some true)
    (suT : PySem.W.ks_superIn K cT cT "__init__" = some (some (.builtin "ValueError.__init__")))
    (iCT : PySem.W.findIn K (.ref cT) "__init__" = some (some (.ref fT)))
    (tIT : PySem.W.typeIn K (.ref fT) = some (.type "function"))
    (lIT : K.lookup fT = some ⟨ocT, odT, .func (PySem.W.fnX "__init__" "TooMany.__init__" (defArgs iTooMany) (defBody iTooMany) (defScope iTooMany) [("__class__", ccT)] .none kvT dcT pmT anT (.ref cdT) ctT), slT⟩)
    (cIT : PySem.W.codeIn K (.ref cdT) "TooMany.__init__" = true)
    (lcT : K.lookup ccT = some ⟨clT, cldT, .cell (some (.ref cT)), cslT⟩)
    (ldT : K.lookup cdT = some ⟨cclT, cddT, .fields vsT, ccsT⟩)
    (v2T : vsT[2]? = some (.str flT tfT))
    (feT : ((P.main.file : Str) == flT) = true)
    (emT : PySem.W.exmOne K (.ref cT) (.ref cW) = some true)
    (kPP : PySem.W.kitOne K (.ref cP) (.ref cP) = some true)
    (kPN : PySem.W.kitOne K (.ref cP) (.ref cN) = some false)
    (kPT : PySem.W.kitOne K (.ref cP) (.ref cT) = some false)
    (kPV : PySem.W.kitOne K (.ref cP) (.type "ValueError") = some true)
    (kNP : PySem.W.kitOne K (.ref cN) (.ref cP) = some false)
    (kNN : PySem.W.kitOne K (.ref cN) (.ref cN) = some true)
    (kNT : PySem.W.kitOne K (.ref cN) (.ref cT) = some false)
    (kNV : PySem.W.kitOne K (.ref cN) (.type "ValueError") = some true)
    (kTP : PySem.W.kitOne K (.ref cT) (.ref cP) = some false)
    (kTN : PySem.W.kitOne K (.ref cT) (.ref cN) = some false)
    (kTT : PySem.W.kitOne K (.ref cT) (.ref cT) = some true)
    (kTV : PySem.W.kitOne K (.ref cT) (.type "ValueError") = some true)
    (hn : PySem.W.specialIn K (.builtin "object.__class__") "__get__" = some (some (.builtin "getset_descriptor.__get__")))
    (ht : PySem.W.takesIn K (.builtin "object.__class__") = some true)
    (opq : PySem.W.nsIn K cStatics "thirdparty.any" = some none)
    (tops : (P.main.scope.names.lookup ("super" : Str)).isSome = false)
    (zsuper : PySem.W.nsIn K mainGlobals "super" = some none)
    (zlen : PySem.W.nsIn K mainGlobals "len" = some none)
    (zrange : PySem.W.nsIn K mainGlobals "range" = some none)
    (ztuple : PySem.W.nsIn K mainGlobals "tuple" = some none)
    (zlist : PySem.W.nsIn K mainGlobals "list" = some none)
    (zint : PySem.W.nsIn K mainGlobals "int" = some none)
    (zbool : PySem.W.nsIn K mainGlobals "bool" = some none)
    (zsum : PySem.W.nsIn K mainGlobals "sum" = some none)
    (zmin : PySem.W.nsIn K mainGlobals "min" = some none)
    (zmax : PySem.W.nsIn K mainGlobals "max" = some none)
    (zabs : PySem.W.nsIn K mainGlobals "abs" = some none)
    (zisinstance : PySem.W.nsIn K mainGlobals "isinstance" = some none)
    (zValueError : PySem.W.nsIn K mainGlobals "ValueError" = some none)
    (gMN : PySem.W.nsIn K mainGlobals "MEAN_NODES" = some (some (.int 200 tN)))
    (gMA : PySem.W.nsIn K mainGlobals "MEAN_ARCS" = some (some (.int 4000 tA)))
    (a_is_whole : PySem.W.nsIn K mainGlobals "is_whole" = some (some (.ref f_is_whole)))
    (l_is_whole : K.lookup f_is_whole = some ⟨oc_is_whole, od_is_whole, .func (PySem.W.fnOf "is_whole" "is_whole" (defArgs sis_whole) (defBody sis_whole) (defScope sis_whole) .none kv_is_whole dc_is_whole pm_is_whole an_is_whole cd_is_whole ct_is_whole), sl_is_whole⟩)
    (c_is_whole : PySem.W.codeIn K cd_is_whole "is_whole" = true)
    (k_is_whole : PySem.W.keepIn K (.ref f_is_whole) = true)
    (a_check_arcs : PySem.W.nsIn K mainGlobals "check_arcs" = some (some (.ref f_check_arcs)))
    (l_check_arcs : K.lookup f_check_arcs = some ⟨oc_check_arcs, od_check_arcs, .func (PySem.W.fnOf "check_arcs" "check_arcs" (defArgs scheck_arcs) (defBody scheck_arcs) (defScope scheck_arcs) .none kv_check_arcs dc_check_arcs pm_check_arcs an_check_arcs cd_check_arcs ct_check_arcs), sl_check_arcs⟩)
    (c_check_arcs : PySem.W.codeIn K cd_check_arcs "check_arcs" = true)
    (k_check_arcs : PySem.W.keepIn K (.ref f_check_arcs) = true)
    (a_walk_costs : PySem.W.nsIn K mainGlobals "walk_costs" = some (some (.ref f_walk_costs)))
    (l_walk_costs : K.lookup f_walk_costs = some ⟨oc_walk_costs, od_walk_costs, .func (PySem.W.fnOf "walk_costs" "walk_costs" (defArgs swalk_costs) (defBody swalk_costs) (defScope swalk_costs) .none kv_walk_costs dc_walk_costs pm_walk_costs an_walk_costs cd_walk_costs ct_walk_costs), sl_walk_costs⟩)
    (c_walk_costs : PySem.W.codeIn K cd_walk_costs "walk_costs" = true)
    (k_walk_costs : PySem.W.keepIn K (.ref f_walk_costs) = true)
    (a_less : PySem.W.nsIn K mainGlobals "less" = some (some (.ref f_less)))
    (l_less : K.lookup f_less = some ⟨oc_less, od_less, .func (PySem.W.fnOf "less" "less" (defArgs sless) (defBody sless) (defScope sless) .none kv_less dc_less pm_less an_less cd_less ct_less), sl_less⟩)
    (c_less : PySem.W.codeIn K cd_less "less" = true)
    (k_less : PySem.W.keepIn K (.ref f_less) = true)
    (a_lowest : PySem.W.nsIn K mainGlobals "lowest" = some (some (.ref f_lowest)))
    (l_lowest : K.lookup f_lowest = some ⟨oc_lowest, od_lowest, .func (PySem.W.fnOf "lowest" "lowest" (defArgs slowest) (defBody slowest) (defScope slowest) .none kv_lowest dc_lowest pm_lowest an_lowest cd_lowest ct_lowest), sl_lowest⟩)
    (c_lowest : PySem.W.codeIn K cd_lowest "lowest" = true)
    (k_lowest : PySem.W.keepIn K (.ref f_lowest) = true)
    (a_least_mean : PySem.W.nsIn K mainGlobals "least_mean" = some (some (.ref f_least_mean)))
    (l_least_mean : K.lookup f_least_mean = some ⟨oc_least_mean, od_least_mean, .func (PySem.W.fnOf "least_mean" "least_mean" (defArgs sleast_mean) (defBody sleast_mean) (defScope sleast_mean) .none kv_least_mean dc_least_mean pm_least_mean an_least_mean cd_least_mean ct_least_mean), sl_least_mean⟩)
    (c_least_mean : PySem.W.codeIn K cd_least_mean "least_mean" = true)
    (k_least_mean : PySem.W.keepIn K (.ref f_least_mean) = true)
    (a_spare : PySem.W.nsIn K mainGlobals "spare" = some (some (.ref f_spare)))
    (l_spare : K.lookup f_spare = some ⟨oc_spare, od_spare, .func (PySem.W.fnOf "spare" "spare" (defArgs sspare) (defBody sspare) (defScope sspare) .none kv_spare dc_spare pm_spare an_spare cd_spare ct_spare), sl_spare⟩)
    (c_spare : PySem.W.codeIn K cd_spare "spare" = true)
    (k_spare : PySem.W.keepIn K (.ref f_spare) = true)
    (a_potentials_for : PySem.W.nsIn K mainGlobals "potentials_for" = some (some (.ref f_potentials_for)))
    (l_potentials_for : K.lookup f_potentials_for = some ⟨oc_potentials_for, od_potentials_for, .func (PySem.W.fnOf "potentials_for" "potentials_for" (defArgs spotentials_for) (defBody spotentials_for) (defScope spotentials_for) .none kv_potentials_for dc_potentials_for pm_potentials_for an_potentials_for cd_potentials_for ct_potentials_for), sl_potentials_for⟩)
    (c_potentials_for : PySem.W.codeIn K cd_potentials_for "potentials_for" = true)
    (k_potentials_for : PySem.W.keepIn K (.ref f_potentials_for) = true)
    (a_tight_round : PySem.W.nsIn K mainGlobals "tight_round" = some (some (.ref f_tight_round)))
    (l_tight_round : K.lookup f_tight_round = some ⟨oc_tight_round, od_tight_round, .func (PySem.W.fnOf "tight_round" "tight_round" (defArgs stight_round) (defBody stight_round) (defScope stight_round) .none kv_tight_round dc_tight_round pm_tight_round an_tight_round cd_tight_round ct_tight_round), sl_tight_round⟩)
    (c_tight_round : PySem.W.codeIn K cd_tight_round "tight_round" = true)
    (k_tight_round : PySem.W.keepIn K (.ref f_tight_round) = true)
    (a_mean_paper : PySem.W.nsIn K mainGlobals "mean_paper" = some (some (.ref f_mean_paper)))
    (l_mean_paper : K.lookup f_mean_paper = some ⟨oc_mean_paper, od_mean_paper, .func (PySem.W.fnOf "mean_paper" "mean_paper" (defArgs smean_paper) (defBody smean_paper) (defScope smean_paper) .none kv_mean_paper dc_mean_paper pm_mean_paper an_mean_paper cd_mean_paper ct_mean_paper), sl_mean_paper⟩)
    (c_mean_paper : PySem.W.codeIn K cd_mean_paper "mean_paper" = true)
    (k_mean_paper : PySem.W.keepIn K (.ref f_mean_paper) = true)
    (a_shows_mean : PySem.W.nsIn K mainGlobals "shows_mean" = some (some (.ref f_shows_mean)))
    (l_shows_mean : K.lookup f_shows_mean = some ⟨oc_shows_mean, od_shows_mean, .func (PySem.W.fnOf "shows_mean" "shows_mean" (defArgs sshows_mean) (defBody sshows_mean) (defScope sshows_mean) .none kv_shows_mean dc_shows_mean pm_shows_mean an_shows_mean cd_shows_mean ct_shows_mean), sl_shows_mean⟩)
    (c_shows_mean : PySem.W.codeIn K cd_shows_mean "shows_mean" = true)
    (k_shows_mean : PySem.W.keepIn K (.ref f_shows_mean) = true)
    (a__law_bag : PySem.W.nsIn K mainGlobals "_law_bag" = some (some (.ref f__law_bag)))
    (l__law_bag : K.lookup f__law_bag = some ⟨oc__law_bag, od__law_bag, .func (PySem.W.fnOf "_law_bag" "_law_bag" (defArgs s_law_bag) (defBody s_law_bag) (defScope s_law_bag) .none kv__law_bag dc__law_bag pm__law_bag an__law_bag cd__law_bag ct__law_bag), sl__law_bag⟩)
    (c__law_bag : PySem.W.codeIn K cd__law_bag "_law_bag" = true)
    (k__law_bag : PySem.W.keepIn K (.ref f__law_bag) = true)
    (a__law_draw : PySem.W.nsIn K mainGlobals "_law_draw" = some (some (.ref f__law_draw)))
    (l__law_draw : K.lookup f__law_draw = some ⟨oc__law_draw, od__law_draw, .func (PySem.W.fnOf "_law_draw" "_law_draw" (defArgs s_law_draw) (defBody s_law_draw) (defScope s_law_draw) .none kv__law_draw dc__law_draw pm__law_draw an__law_draw cd__law_draw ct__law_draw), sl__law_draw⟩)
    (c__law_draw : PySem.W.codeIn K cd__law_draw "_law_draw" = true)
    (k__law_draw : PySem.W.keepIn K (.ref f__law_draw) = true)
    (a__law_pick : PySem.W.nsIn K mainGlobals "_law_pick" = some (some (.ref f__law_pick)))
    (l__law_pick : K.lookup f__law_pick = some ⟨oc__law_pick, od__law_pick, .func (PySem.W.fnOf "_law_pick" "_law_pick" (defArgs s_law_pick) (defBody s_law_pick) (defScope s_law_pick) .none kv__law_pick dc__law_pick pm__law_pick an__law_pick cd__law_pick ct__law_pick), sl__law_pick⟩)
    (c__law_pick : PySem.W.codeIn K cd__law_pick "_law_pick" = true)
    (k__law_pick : PySem.W.keepIn K (.ref f__law_pick) = true)
    (a__law_whole : PySem.W.nsIn K mainGlobals "_law_whole" = some (some (.ref f__law_whole)))
    (l__law_whole : K.lookup f__law_whole = some ⟨oc__law_whole, od__law_whole, .func (PySem.W.fnOf "_law_whole" "_law_whole" (defArgs s_law_whole) (defBody s_law_whole) (defScope s_law_whole) .none kv__law_whole dc__law_whole pm__law_whole an__law_whole cd__law_whole ct__law_whole), sl__law_whole⟩)
    (c__law_whole : PySem.W.codeIn K cd__law_whole "_law_whole" = true)
    (k__law_whole : PySem.W.keepIn K (.ref f__law_whole) = true)
    (a__law_cheapest : PySem.W.nsIn K mainGlobals "_law_cheapest" = some (some (.ref f__law_cheapest)))
    (l__law_cheapest : K.lookup f__law_cheapest = some ⟨oc__law_cheapest, od__law_cheapest, .func (PySem.W.fnOf "_law_cheapest" "_law_cheapest" (defArgs s_law_cheapest) (defBody s_law_cheapest) (defScope s_law_cheapest) .none kv__law_cheapest dc__law_cheapest pm__law_cheapest an__law_cheapest cd__law_cheapest ct__law_cheapest), sl__law_cheapest⟩)
    (c__law_cheapest : PySem.W.codeIn K cd__law_cheapest "_law_cheapest" = true)
    (k__law_cheapest : PySem.W.keepIn K (.ref f__law_cheapest) = true)
    (a__law_rounds : PySem.W.nsIn K mainGlobals "_law_rounds" = some (some (.ref f__law_rounds)))
    (l__law_rounds : K.lookup f__law_rounds = some ⟨oc__law_rounds, od__law_rounds, .func (PySem.W.fnOf "_law_rounds" "_law_rounds" (defArgs s_law_rounds) (defBody s_law_rounds) (defScope s_law_rounds) .none kv__law_rounds dc__law_rounds pm__law_rounds an__law_rounds cd__law_rounds ct__law_rounds), sl__law_rounds⟩)
    (c__law_rounds : PySem.W.codeIn K cd__law_rounds "_law_rounds" = true)
    (k__law_rounds : PySem.W.keepIn K (.ref f__law_rounds) = true)
    (a__law_small : PySem.W.nsIn K mainGlobals "_law_small" = some (some (.ref f__law_small)))
    (l__law_small : K.lookup f__law_small = some ⟨oc__law_small, od__law_small, .func (PySem.W.fnOf "_law_small" "_law_small" (defArgs s_law_small) (defBody s_law_small) (defScope s_law_small) .none kv__law_small dc__law_small pm__law_small an__law_small cd__law_small ct__law_small), sl__law_small⟩)
    (c__law_small : PySem.W.codeIn K cd__law_small "_law_small" = true)
    (k__law_small : PySem.W.keepIn K (.ref f__law_small) = true)
    (a__law_ring : PySem.W.nsIn K mainGlobals "_law_ring" = some (some (.ref f__law_ring)))
    (l__law_ring : K.lookup f__law_ring = some ⟨oc__law_ring, od__law_ring, .func (PySem.W.fnOf "_law_ring" "_law_ring" (defArgs s_law_ring) (defBody s_law_ring) (defScope s_law_ring) .none kv__law_ring dc__law_ring pm__law_ring an__law_ring cd__law_ring ct__law_ring), sl__law_ring⟩)
    (c__law_ring : PySem.W.codeIn K cd__law_ring "_law_ring" = true)
    (k__law_ring : PySem.W.keepIn K (.ref f__law_ring) = true)
    (a__law_rings : PySem.W.nsIn K mainGlobals "_law_rings" = some (some (.ref f__law_rings)))
    (l__law_rings : K.lookup f__law_rings = some ⟨oc__law_rings, od__law_rings, .func (PySem.W.fnOf "_law_rings" "_law_rings" (defArgs s_law_rings) (defBody s_law_rings) (defScope s_law_rings) .none kv__law_rings dc__law_rings pm__law_rings an__law_rings cd__law_rings ct__law_rings), sl__law_rings⟩)
    (c__law_rings : PySem.W.codeIn K cd__law_rings "_law_rings" = true)
    (k__law_rings : PySem.W.keepIn K (.ref f__law_rings) = true)
    (a__law_least : PySem.W.nsIn K mainGlobals "_law_least" = some (some (.ref f__law_least)))
    (l__law_least : K.lookup f__law_least = some ⟨oc__law_least, od__law_least, .func (PySem.W.fnOf "_law_least" "_law_least" (defArgs s_law_least) (defBody s_law_least) (defScope s_law_least) .none kv__law_least dc__law_least pm__law_least an__law_least cd__law_least ct__law_least), sl__law_least⟩)
    (c__law_least : PySem.W.codeIn K cd__law_least "_law_least" = true)
    (k__law_least : PySem.W.keepIn K (.ref f__law_least) = true)
    (a__law_lowest : PySem.W.nsIn K mainGlobals "_law_lowest" = some (some (.ref f__law_lowest)))
    (l__law_lowest : K.lookup f__law_lowest = some ⟨oc__law_lowest, od__law_lowest, .func (PySem.W.fnOf "_law_lowest" "_law_lowest" (defArgs s_law_lowest) (defBody s_law_lowest) (defScope s_law_lowest) .none kv__law_lowest dc__law_lowest pm__law_lowest an__law_lowest cd__law_lowest ct__law_lowest), sl__law_lowest⟩)
    (c__law_lowest : PySem.W.codeIn K cd__law_lowest "_law_lowest" = true)
    (k__law_lowest : PySem.W.keepIn K (.ref f__law_lowest) = true)
    (a__law_potentials : PySem.W.nsIn K mainGlobals "_law_potentials" = some (some (.ref f__law_potentials)))
    (l__law_potentials : K.lookup f__law_potentials = some ⟨oc__law_potentials, od__law_potentials, .func (PySem.W.fnOf "_law_potentials" "_law_potentials" (defArgs s_law_potentials) (defBody s_law_potentials) (defScope s_law_potentials) .none kv__law_potentials dc__law_potentials pm__law_potentials an__law_potentials cd__law_potentials ct__law_potentials), sl__law_potentials⟩)
    (c__law_potentials : PySem.W.codeIn K cd__law_potentials "_law_potentials" = true)
    (k__law_potentials : PySem.W.keepIn K (.ref f__law_potentials) = true)
    (a__law_judge : PySem.W.nsIn K mainGlobals "_law_judge" = some (some (.ref f__law_judge)))
    (l__law_judge : K.lookup f__law_judge = some ⟨oc__law_judge, od__law_judge, .func (PySem.W.fnOf "_law_judge" "_law_judge" (defArgs s_law_judge) (defBody s_law_judge) (defScope s_law_judge) .none kv__law_judge dc__law_judge pm__law_judge an__law_judge cd__law_judge ct__law_judge), sl__law_judge⟩)
    (c__law_judge : PySem.W.codeIn K cd__law_judge "_law_judge" = true)
    (k__law_judge : PySem.W.keepIn K (.ref f__law_judge) = true)
    (a__law_numbers : PySem.W.nsIn K mainGlobals "_law_numbers" = some (some (.ref f__law_numbers)))
    (l__law_numbers : K.lookup f__law_numbers = some ⟨oc__law_numbers, od__law_numbers, .func (PySem.W.fnOf "_law_numbers" "_law_numbers" (defArgs s_law_numbers) (defBody s_law_numbers) (defScope s_law_numbers) .none kv__law_numbers dc__law_numbers pm__law_numbers an__law_numbers cd__law_numbers ct__law_numbers), sl__law_numbers⟩)
    (c__law_numbers : PySem.W.codeIn K cd__law_numbers "_law_numbers" = true)
    (k__law_numbers : PySem.W.keepIn K (.ref f__law_numbers) = true)
    (a__law_is_paper : PySem.W.nsIn K mainGlobals "_law_is_paper" = some (some (.ref f__law_is_paper)))
    (l__law_is_paper : K.lookup f__law_is_paper = some ⟨oc__law_is_paper, od__law_is_paper, .func (PySem.W.fnOf "_law_is_paper" "_law_is_paper" (defArgs s_law_is_paper) (defBody s_law_is_paper) (defScope s_law_is_paper) .none kv__law_is_paper dc__law_is_paper pm__law_is_paper an__law_is_paper cd__law_is_paper ct__law_is_paper), sl__law_is_paper⟩)
    (c__law_is_paper : PySem.W.codeIn K cd__law_is_paper "_law_is_paper" = true)
    (k__law_is_paper : PySem.W.keepIn K (.ref f__law_is_paper) = true)
    (a__law_another : PySem.W.nsIn K mainGlobals "_law_another" = some (some (.ref f__law_another)))
    (l__law_another : K.lookup f__law_another = some ⟨oc__law_another, od__law_another, .func (PySem.W.fnOf "_law_another" "_law_another" (defArgs s_law_another) (defBody s_law_another) (defScope s_law_another) .none kv__law_another dc__law_another pm__law_another an__law_another cd__law_another ct__law_another), sl__law_another⟩)
    (c__law_another : PySem.W.codeIn K cd__law_another "_law_another" = true)
    (k__law_another : PySem.W.keepIn K (.ref f__law_another) = true)
    (a__law_changed : PySem.W.nsIn K mainGlobals "_law_changed" = some (some (.ref f__law_changed)))
    (l__law_changed : K.lookup f__law_changed = some ⟨oc__law_changed, od__law_changed, .func (PySem.W.fnOf "_law_changed" "_law_changed" (defArgs s_law_changed) (defBody s_law_changed) (defScope s_law_changed) .none kv__law_changed dc__law_changed pm__law_changed an__law_changed cd__law_changed ct__law_changed), sl__law_changed⟩)
    (c__law_changed : PySem.W.codeIn K cd__law_changed "_law_changed" = true)
    (k__law_changed : PySem.W.keepIn K (.ref f__law_changed) = true)
    (a__law_asked : PySem.W.nsIn K mainGlobals "_law_asked" = some (some (.ref f__law_asked)))
    (l__law_asked : K.lookup f__law_asked = some ⟨oc__law_asked, od__law_asked, .func (PySem.W.fnOf "_law_asked" "_law_asked" (defArgs s_law_asked) (defBody s_law_asked) (defScope s_law_asked) .none kv__law_asked dc__law_asked pm__law_asked an__law_asked cd__law_asked ct__law_asked), sl__law_asked⟩)
    (c__law_asked : PySem.W.codeIn K cd__law_asked "_law_asked" = true)
    (k__law_asked : PySem.W.keepIn K (.ref f__law_asked) = true)
    (a__law_judged : PySem.W.nsIn K mainGlobals "_law_judged" = some (some (.ref f__law_judged)))
    (l__law_judged : K.lookup f__law_judged = some ⟨oc__law_judged, od__law_judged, .func (PySem.W.fnOf "_law_judged" "_law_judged" (defArgs s_law_judged) (defBody s_law_judged) (defScope s_law_judged) .none kv__law_judged dc__law_judged pm__law_judged an__law_judged cd__law_judged ct__law_judged), sl__law_judged⟩)
    (c__law_judged : PySem.W.codeIn K cd__law_judged "_law_judged" = true)
    (k__law_judged : PySem.W.keepIn K (.ref f__law_judged) = true)
    (a__law_graph_right : PySem.W.nsIn K mainGlobals "_law_graph_right" = some (some (.ref f__law_graph_right)))
    (l__law_graph_right : K.lookup f__law_graph_right = some ⟨oc__law_graph_right, od__law_graph_right, .func (PySem.W.fnOf "_law_graph_right" "_law_graph_right" (defArgs s_law_graph_right) (defBody s_law_graph_right) (defScope s_law_graph_right) .none kv__law_graph_right dc__law_graph_right pm__law_graph_right an__law_graph_right cd__law_graph_right ct__law_graph_right), sl__law_graph_right⟩)
    (c__law_graph_right : PySem.W.codeIn K cd__law_graph_right "_law_graph_right" = true)
    (k__law_graph_right : PySem.W.keepIn K (.ref f__law_graph_right) = true)
    (a__law_refused : PySem.W.nsIn K mainGlobals "_law_refused" = some (some (.ref f__law_refused)))
    (l__law_refused : K.lookup f__law_refused = some ⟨oc__law_refused, od__law_refused, .func (PySem.W.fnOf "_law_refused" "_law_refused" (defArgs s_law_refused) (defBody s_law_refused) (defScope s_law_refused) .none kv__law_refused dc__law_refused pm__law_refused an__law_refused cd__law_refused ct__law_refused), sl__law_refused⟩)
    (c__law_refused : PySem.W.codeIn K cd__law_refused "_law_refused" = true)
    (k__law_refused : PySem.W.keepIn K (.ref f__law_refused) = true)
    (a_law : PySem.W.nsIn K mainGlobals "law" = some (some (.ref f_law)))
    (l_law : K.lookup f_law = some ⟨oc_law, od_law, .func (PySem.W.fnOf "law" "law" (defArgs slaw) (defBody slaw) (defScope slaw) .none kv_law dc_law pm_law an_law cd_law ct_law), sl_law⟩)
    (c_law : PySem.W.codeIn K cd_law "law" = true)
    (k_law : PySem.W.keepIn K (.ref f_law) = true)
    : ∃ fd : FuncData, (∀ (s : Shared) (v : Value), BindsTo s fd ⟨[v], []⟩ [("script", v)]) ∧ ∀ base : Heap, K.In base → base.Ns mainGlobals mg → FnOk P w K mg base CX0 8 fa fd ["script"] (spF K (["script"] : List Str).length frLaw.sp) := by
  have e := hfa.symm.trans (PySem.W.mg_of X G a_law)
  cases e
  have B : Bi mg := ⟨PySem.W.mg_none_of X G zlen, PySem.W.mg_none_of X G zrange, PySem.W.mg_none_of X G ztuple, PySem.W.mg_none_of X G zlist, PySem.W.mg_none_of X G zint, PySem.W.mg_none_of X G zbool, PySem.W.mg_none_of X G zsum, PySem.W.mg_none_of X G zmin, PySem.W.mg_none_of X G zmax, PySem.W.mg_none_of X G zabs, PySem.W.mg_none_of X G zisinstance, PySem.W.mg_none_of X G zValueError⟩
  have xcP : ∀ base, Xc P w K mg base "NoPaper" "reason" cP := fun base => XTxt.xc (qual := "NoPaper.__init__") (cc := ccP) (cda := cdP) ⟨PySem.W.mg_of X G aP, ⟨⟨nmP, qnP, nnP, bsP, _, snP, subP, abP, colP, ddP, m0P, m1P, m2P, m3P, m5P, xLP, rfl⟩, saP, eCP, tyP, kCP⟩, ⟨⟨_, _, _, _, _, _, ldP, v2P, feP⟩, ⟨_, _, _, lcP⟩, PySem.W.mg_none_of X G zsuper, tops, suP, eVP, opq⟩, iCP, tIP, noP, ⟨_, _, _, _, _, _, _, _, lIP, cIP⟩⟩ shNoPaper
  have xxP : ExcC K cP := ⟨gaP, ggP, eCP, hdP, icP, hn, ht, moP⟩
  have xfP : XfC K cP := ⟨gaP, ggP, eCP, hdP⟩
  have xcN : ∀ base, Xc P w K mg base "NoValue" "reason" cN := fun base => XTxt.xc (qual := "NoValue.__init__") (cc := ccN) (cda := cdN) ⟨PySem.W.mg_of X G aN, ⟨⟨nmN, qnN, nnN, bsN, _, snN, subN, abN, colN, ddN, m0N, m1N, m2N, m3N, m5N, xLN, rfl⟩, saN, eCN, tyN, kCN⟩, ⟨⟨_, _, _, _, _, _, ldN, v2N, feN⟩, ⟨_, _, _, lcN⟩, PySem.W.mg_none_of X G zsuper, tops, suN, eVN, opq⟩, iCN, tIN, noN, ⟨_, _, _, _, _, _, _, _, lIN, cIN⟩⟩ shNoValue
  have xxN : ExcC K cN := ⟨gaN, ggN, eCN, hdN, icN, hn, ht, moN⟩
  have xfN : XfC K cN := ⟨gaN, ggN, eCN, hdN⟩
  have xcT : ∀ base, Xc P w K mg base "TooMany" "what" cT := fun base => XTxt.xc (qual := "TooMany.__init__") (cc := ccT) (cda := cdT) ⟨PySem.W.mg_of X G aT, ⟨⟨nmT, qnT, nnT, bsT, _, snT, subT, abT, colT, ddT, m0T, m1T, m2T, m3T, m5T, xLT, rfl⟩, saT, eCT, tyT, kCT⟩, ⟨⟨_, _, _, _, _, _, ldT, v2T, feT⟩, ⟨_, _, _, lcT⟩, PySem.W.mg_none_of X G zsuper, tops, suT, eVT, opq⟩, iCT, tIT, noT, ⟨_, _, _, _, _, _, _, _, lIT, cIT⟩⟩ shTooMany
  have xxT : ExcC K cT := ⟨gaT, ggT, eCT, hdT, icT, hn, ht, moT⟩
  have xfT : XfC K cT := ⟨gaT, ggT, eCT, hdT⟩
  have XF : ExF K cW cP cN cT := ⟨emP, emN, emT, xxP, xxN, xxT, xfP, xfN, xfT, noP, noN, noT, kPP, kPN, kPT, kPV, kNP, kNN, kNT, kNV, kTP, kTN, kTT, kTV⟩
  have D_is_whole : Df K mg "is_whole" sis_whole := df_mk X G a_is_whole l_is_whole c_is_whole k_is_whole
  have D_check_arcs : Df K mg "check_arcs" scheck_arcs := df_mk X G a_check_arcs l_check_arcs c_check_arcs k_check_arcs
  have D_walk_costs : Df K mg "walk_costs" swalk_costs := df_mk X G a_walk_costs l_walk_costs c_walk_costs k_walk_costs
  have D_less : Df K mg "less" sless := df_mk X G a_less l_less c_less k_less
  have D_lowest : Df K mg "lowest" slowest := df_mk X G a_lowest l_lowest c_lowest k_lowest
  have D_least_mean : Df K mg "least_mean" sleast_mean := df_mk X G a_least_mean l_least_mean c_least_mean k_least_mean
  have D_spare : Df K mg "spare" sspare := df_mk X G a_spare l_spare c_spare k_spare
  have D_potentials_for : Df K mg "potentials_for" spotentials_for := df_mk X G a_potentials_for l_potentials_for c_potentials_for k_potentials_for
  have D_tight_round : Df K mg "tight_round" stight_round := df_mk X G a_tight_round l_tight_round c_tight_round k_tight_round
  have D_mean_paper : Df K mg "mean_paper" smean_paper := df_mk X G a_mean_paper l_mean_paper c_mean_paper k_mean_paper
  have D_shows_mean : Df K mg "shows_mean" sshows_mean := df_mk X G a_shows_mean l_shows_mean c_shows_mean k_shows_mean
  have D__law_bag : Df K mg "_law_bag" s_law_bag := df_mk X G a__law_bag l__law_bag c__law_bag k__law_bag
  have D__law_draw : Df K mg "_law_draw" s_law_draw := df_mk X G a__law_draw l__law_draw c__law_draw k__law_draw
  have D__law_pick : Df K mg "_law_pick" s_law_pick := df_mk X G a__law_pick l__law_pick c__law_pick k__law_pick
  have D__law_whole : Df K mg "_law_whole" s_law_whole := df_mk X G a__law_whole l__law_whole c__law_whole k__law_whole
  have D__law_cheapest : Df K mg "_law_cheapest" s_law_cheapest := df_mk X G a__law_cheapest l__law_cheapest c__law_cheapest k__law_cheapest
  have D__law_rounds : Df K mg "_law_rounds" s_law_rounds := df_mk X G a__law_rounds l__law_rounds c__law_rounds k__law_rounds
  have D__law_small : Df K mg "_law_small" s_law_small := df_mk X G a__law_small l__law_small c__law_small k__law_small
  have D__law_ring : Df K mg "_law_ring" s_law_ring := df_mk X G a__law_ring l__law_ring c__law_ring k__law_ring
  have D__law_rings : Df K mg "_law_rings" s_law_rings := df_mk X G a__law_rings l__law_rings c__law_rings k__law_rings
  have D__law_least : Df K mg "_law_least" s_law_least := df_mk X G a__law_least l__law_least c__law_least k__law_least
  have D__law_lowest : Df K mg "_law_lowest" s_law_lowest := df_mk X G a__law_lowest l__law_lowest c__law_lowest k__law_lowest
  have D__law_potentials : Df K mg "_law_potentials" s_law_potentials := df_mk X G a__law_potentials l__law_potentials c__law_potentials k__law_potentials
  have D__law_judge : Df K mg "_law_judge" s_law_judge := df_mk X G a__law_judge l__law_judge c__law_judge k__law_judge
  have D__law_numbers : Df K mg "_law_numbers" s_law_numbers := df_mk X G a__law_numbers l__law_numbers c__law_numbers k__law_numbers
  have D__law_is_paper : Df K mg "_law_is_paper" s_law_is_paper := df_mk X G a__law_is_paper l__law_is_paper c__law_is_paper k__law_is_paper
  have D__law_another : Df K mg "_law_another" s_law_another := df_mk X G a__law_another l__law_another c__law_another k__law_another
  have D__law_changed : Df K mg "_law_changed" s_law_changed := df_mk X G a__law_changed l__law_changed c__law_changed k__law_changed
  have D__law_asked : Df K mg "_law_asked" s_law_asked := df_mk X G a__law_asked l__law_asked c__law_asked k__law_asked
  have D__law_judged : Df K mg "_law_judged" s_law_judged := df_mk X G a__law_judged l__law_judged c__law_judged k__law_judged
  have D__law_graph_right : Df K mg "_law_graph_right" s_law_graph_right := df_mk X G a__law_graph_right l__law_graph_right c__law_graph_right k__law_graph_right
  have D__law_refused : Df K mg "_law_refused" s_law_refused := df_mk X G a__law_refused l__law_refused c__law_refused k__law_refused
  refine ⟨PySem.W.fnOf "law" "law" (defArgs slaw) (defBody slaw) (defScope slaw) .none kv_law dc_law pm_law an_law cd_law ct_law, fun s v => .of_eq rfl, fun base _ _ => ?_⟩
  have FL := fun_mk (x := "law") (qual := "law") (st := slaw) l_law c_law k_law
  have cdraw := ok_draw (P := P) (w := w) (base := base) D__law_draw B
  have cpick := ok_pick D__law_pick B cdraw
  have rdraw := drawR cdraw
  have rpick := pickR cpick
  have cless := ok_less (P := P) (w := w) (base := base) D_less
  have cspare := ok_spare (P := P) (w := w) (base := base) D_spare
  have cwhole := ok_whole (P := P) (w := w) (base := base) D_is_whole B
  have cchk := ok_chk D_check_arcs B (xcN base) (xcT base) ⟨tN, PySem.W.mg_of X G gMN⟩ ⟨tA, PySem.W.mg_of X G gMA⟩ cwhole
  have crows := ok_rows (P := P) (w := w) (base := base) D_walk_costs B
  have clow := ok_low (P := P) (w := w) (base := base) D_lowest B
  have cleast := ok_least D_least_mean B cchk crows cless clow
  have cpot := ok_pot D_potentials_for B cspare
  have ctight := ok_tight D_tight_round B cspare
  have cpaper := ok_paper paperOk D_mean_paper B (xcP base) cleast cpot ctight
  have cshows := ok_shows D_shows_mean B cchk cspare
  have ccheap := ok_cheap (P := P) (w := w) (base := base) D__law_cheapest B
  have ccheapL := ok_cheapL (P := P) (w := w) (base := base) D__law_cheapest B
  have crounds := ok_rounds D__law_rounds B ccheapL
  have csmall := ok_small D__law_small B rdraw rpick crounds
  have cring := ok_ring D__law_ring B rdraw
  have crings := ok_rings D__law_rings B rdraw rpick cring
  have cleastR := ok_leastR (P := P) (w := w) (base := base) D__law_least B
  have clowL := ok_lowL (P := P) (w := w) (base := base) D__law_lowest B
  have cpotL := ok_potL (P := P) (w := w) (base := base) D__law_potentials B
  have clwhole := ok_lwhole (P := P) (w := w) (base := base) D__law_whole B
  have cnums := ok_nums D__law_numbers B clwhole
  have cjudge := ok_judge D__law_judge B ccheap
  have cisPap := ok_isPap D__law_is_paper B cnums
  have canother := ok_another D__law_another B rdraw
  have cchanged := ok_changed D__law_changed B rdraw rpick
  have cjudged := ok_judged D__law_judged B cshows
  have casked := ok_asked XF (PySem.W.mg_of X G aW) (PySem.W.mg_of X G aP) (PySem.W.mg_of X G aN) (PySem.W.mg_of X G aT) D__law_asked B cleast cpaper cshows
  have cgraph := ok_graph D__law_graph_right B rdraw rpick cleastR clowL cpotL cjudge cnums cisPap canother cchanged cjudged casked cleast cpaper
  have crefused := ok_refused D__law_refused B rdraw rpick cjudge cisPap casked
  have cbag := ok_bag (P := P) (w := w) (base := base) D__law_bag B
  exact ok_law FL B cbag rdraw crings csmall cleast cgraph crefused
theorem law_sp (K : PySem.W.Frag) (H : Hp) (a : Addr) (ns : List Int) (hn : ns.length ≤ 63) (hS : SqL K H a (ns.map V.int)) : spF K (["script"] : List Str).length frLaw.sp [.ref a] H (fun v _ => v = .bl true) fun _ _ _ => False := by
  refine ⟨H, [.dat (.scr ns)], [], fun r os => r = .dat (.bl true) ∧ os = [], fun _ _ => False, rfl, Ext.refl H, .dat (.scr hS) .nil, List.nodup_nil, ⟨ns, rfl, (by show ns.length ≤ 1000000; omega), fun r os h => h⟩, fun r os v F' H' hP _ _ _ _ _ hr => ?_, fun c dd fs xs F' H' hE _ _ _ _ _ _ _ => hE⟩
  obtain ⟨rfl, rfl⟩ := hP
  cases hr
  rfl
end K85
open PySem PySem.W PyProof.Rows
set_option maxRecDepth 100000 in
set_option maxHeartbeats 0 in
theorem PySem.Challenge.cw_wedgekin_k85_least_mean_whole_holds : PySem.Challenge.rw_wedgekin_k85_least_mean_whole.Holds := by
  w_on; o_law; k_head; (case hw => w_witness2)
  k_fill
  refine L2.walk_ofK (l := PySem.Challenge.rw_wedgekin_k85_least_mean_whole) (n := 63) (k := 8) (CX := L2.CX0) (x := "script") (sp := fun K => Wk.spF K (["script"] : List PySem.Str).length K85.frLaw.sp) rfl (by decide) rfl ⟨rfl, by decide, by decide⟩ (fun w h Y => PySem.W.kIn_of Y) ?F (fun K H a ns hl _ hS => K85.law_sp K H a ns hl hS) (fun _ _ _ _ z => z)
  case F =>
    intro w mg fa h KX G hmg
    refine' K85.all_mk KX G hmg ?aW ?aP ?xLP ?saP ?gaP ?ggP ?noP ?icP ?eCP ?eVP ?tyP ?kCP ?hdP ?moP ?suP ?iCP ?tIP ?lIP ?cIP ?lcP ?ldP ?v2P ?feP ?emP ?aN ?xLN ?saN ?gaN ?ggN ?noN ?icN ?eCN ?eVN ?tyN ?kCN ?hdN ?moN ?suN ?iCN ?tIN ?lIN ?cIN ?lcN ?ldN ?v2N ?feN ?emN ?aT ?xLT ?saT ?gaT ?ggT ?noT ?icT ?eCT ?eVT ?tyT ?kCT ?hdT ?moT ?suT ?iCT ?tIT ?lIT ?cIT ?lcT ?ldT ?v2T ?feT ?emT ?kPP ?kPN ?kPT ?kPV ?kNP ?kNN ?kNT ?kNV ?kTP ?kTN ?kTT ?kTV ?hn ?ht ?opq ?tops ?zsuper ?zlen ?zrange ?ztuple ?zlist ?zint ?zbool ?zsum ?zmin ?zmax ?zabs ?zisinstance ?zValueError ?gMN ?gMA ?a_is_whole ?l_is_whole ?c_is_whole ?k_is_whole ?a_check_arcs ?l_check_arcs ?c_check_arcs ?k_check_arcs ?a_walk_costs ?l_walk_costs ?c_walk_costs ?k_walk_costs ?a_less ?l_less ?c_less ?k_less ?a_lowest ?l_lowest ?c_lowest ?k_lowest ?a_least_mean ?l_least_mean ?c_least_mean ?k_least_mean ?a_spare ?l_spare ?c_spare ?k_spare ?a_potentials_for ?l_potentials_for ?c_potentials_for ?k_potentials_for ?a_tight_round ?l_tight_round ?c_tight_round ?k_tight_round ?a_mean_paper ?l_mean_paper ?c_mean_paper ?k_mean_paper ?a_shows_mean ?l_shows_mean ?c_shows_mean ?k_shows_mean ?a__law_bag ?l__law_bag ?c__law_bag ?k__law_bag ?a__law_draw ?l__law_draw ?c__law_draw ?k__law_draw ?a__law_pick ?l__law_pick ?c__law_pick ?k__law_pick ?a__law_whole ?l__law_whole ?c__law_whole ?k__law_whole ?a__law_cheapest ?l__law_cheapest ?c__law_cheapest ?k__law_cheapest ?a__law_rounds ?l__law_rounds ?c__law_rounds ?k__law_rounds ?a__law_small ?l__law_small ?c__law_small ?k__law_small ?a__law_ring ?l__law_ring ?c__law_ring ?k__law_ring ?a__law_rings ?l__law_rings ?c__law_rings ?k__law_rings ?a__law_least ?l__law_least ?c__law_least ?k__law_least ?a__law_lowest ?l__law_lowest ?c__law_lowest ?k__law_lowest ?a__law_potentials ?l__law_potentials ?c__law_potentials ?k__law_potentials ?a__law_judge ?l__law_judge ?c__law_judge ?k__law_judge ?a__law_numbers ?l__law_numbers ?c__law_numbers ?k__law_numbers ?a__law_is_paper ?l__law_is_paper ?c__law_is_paper ?k__law_is_paper ?a__law_another ?l__law_another ?c__law_another ?k__law_another ?a__law_changed ?l__law_changed ?c__law_changed ?k__law_changed ?a__law_asked ?l__law_asked ?c__law_asked ?k__law_asked ?a__law_judged ?l__law_judged ?c__law_judged ?k__law_judged ?a__law_graph_right ?l__law_graph_right ?c__law_graph_right ?k__law_graph_right ?a__law_refused ?l__law_refused ?c__law_refused ?k__law_refused ?a_law ?l_law ?c_law ?k_law
    (case aW => k_is)
    (case aP => k_is)
    (case xLP => k_is)
    (case saP => k_is)
    (case gaP => k_is)
    (case ggP => k_is)
    (case noP => k_is)
    (case icP => k_is)
    (case eCP => k_is)
    (case eVP => k_is)
    (case tyP => k_is)
    (case kCP => k_is)
    (case hdP => k_is)
    (case moP => k_is)
    (case suP => first | k_is | rfl | decide +kernel)
    (case iCP => k_is)
    (case tIP => k_is)
    (case lIP => k_is)
    (case cIP => k_is)
    (case lcP => k_is)
    (case ldP => k_is)
    (case v2P => first | rfl | decide +kernel)
    (case feP => first | rfl | decide +kernel)
    (case emP => first | k_is | rfl | decide +kernel)
    (case aN => k_is)
    (case xLN => k_is)
    (case saN => k_is)
    (case gaN => k_is)
    (case ggN => k_is)
    (case noN => k_is)
    (case icN => k_is)
    (case eCN => k_is)
    (case eVN => k_is)
    (case tyN => k_is)
    (case kCN => k_is)
    (case hdN => k_is)
    (case moN => k_is)
    (case suN => first | k_is | rfl | decide +kernel)
    (case iCN => k_is)
    (case tIN => k_is)
    (case lIN => k_is)
    (case cIN => k_is)
    (case lcN => k_is)
    (case ldN => k_is)
    (case v2N => first | rfl | decide +kernel)
    (case feN => first | rfl | decide +kernel)
    (case emN => first | k_is | rfl | decide +kernel)
    (case aT => k_is)
    (case xLT => k_is)
    (case saT => k_is)
    (case gaT => k_is)
    (case ggT => k_is)
    (case noT => k_is)
    (case icT => k_is)
    (case eCT => k_is)
    (case eVT => k_is)
    (case tyT => k_is)
    (case kCT => k_is)
    (case hdT => k_is)
    (case moT => k_is)
    (case suT => first | k_is | rfl | decide +kernel)
    (case iCT => k_is)
    (case tIT => k_is)
    (case lIT => k_is)
    (case cIT => k_is)
    (case lcT => k_is)
    (case ldT => k_is)
    (case v2T => first | rfl | decide +kernel)
    (case feT => first | rfl | decide +kernel)
    (case emT => first | k_is | rfl | decide +kernel)
    (case kPP => first | k_is | rfl | decide +kernel)
    (case kPN => first | k_is | rfl | decide +kernel)
    (case kPT => first | k_is | rfl | decide +kernel)
    (case kPV => first | k_is | rfl | decide +kernel)
    (case kNP => first | k_is | rfl | decide +kernel)
    (case kNN => first | k_is | rfl | decide +kernel)
    (case kNT => first | k_is | rfl | decide +kernel)
    (case kNV => first | k_is | rfl | decide +kernel)
    (case kTP => first | k_is | rfl | decide +kernel)
    (case kTN => first | k_is | rfl | decide +kernel)
    (case kTT => first | k_is | rfl | decide +kernel)
    (case kTV => first | k_is | rfl | decide +kernel)
    (case hn => k_is)
    (case ht => k_is)
    (case opq => k_is)
    (case tops => first | rfl | decide +kernel)
    (case zsuper => k_is)
    (case zlen => k_is)
    (case zrange => k_is)
    (case ztuple => k_is)
    (case zlist => k_is)
    (case zint => k_is)
    (case zbool => k_is)
    (case zsum => k_is)
    (case zmin => k_is)
    (case zmax => k_is)
    (case zabs => k_is)
    (case zisinstance => k_is)
    (case zValueError => k_is)
    (case gMN => k_is)
    (case gMA => k_is)
    (case a_is_whole => k_is)
    (case l_is_whole => k_is)
    (case c_is_whole => k_is)
    (case k_is_whole => k_is)
    (case a_check_arcs => k_is)
    (case l_check_arcs => k_is)
    (case c_check_arcs => k_is)
    (case k_check_arcs => k_is)
    (case a_walk_costs => k_is)
    (case l_walk_costs => k_is)
    (case c_walk_costs => k_is)
    (case k_walk_costs => k_is)
    (case a_less => k_is)
    (case l_less => k_is)
    (case c_less => k_is)
    (case k_less => k_is)
    (case a_lowest => k_is)
    (case l_lowest => k_is)
    (case c_lowest => k_is)
    (case k_lowest => k_is)
    (case a_least_mean => k_is)
    (case l_least_mean => k_is)
    (case c_least_mean => k_is)
    (case k_least_mean => k_is)
    (case a_spare => k_is)
    (case l_spare => k_is)
    (case c_spare => k_is)
    (case k_spare => k_is)
    (case a_potentials_for => k_is)
    (case l_potentials_for => k_is)
    (case c_potentials_for => k_is)
    (case k_potentials_for => k_is)
    (case a_tight_round => k_is)
    (case l_tight_round => k_is)
    (case c_tight_round => k_is)
    (case k_tight_round => k_is)
    (case a_mean_paper => k_is)
    (case l_mean_paper => k_is)
    (case c_mean_paper => k_is)
    (case k_mean_paper => k_is)
    (case a_shows_mean => k_is)
    (case l_shows_mean => k_is)
    (case c_shows_mean => k_is)
    (case k_shows_mean => k_is)
    (case a__law_bag => k_is)
    (case l__law_bag => k_is)
    (case c__law_bag => k_is)
    (case k__law_bag => k_is)
    (case a__law_draw => k_is)
    (case l__law_draw => k_is)
    (case c__law_draw => k_is)
    (case k__law_draw => k_is)
    (case a__law_pick => k_is)
    (case l__law_pick => k_is)
    (case c__law_pick => k_is)
    (case k__law_pick => k_is)
    (case a__law_whole => k_is)
    (case l__law_whole => k_is)
    (case c__law_whole => k_is)
    (case k__law_whole => k_is)
    (case a__law_cheapest => k_is)
    (case l__law_cheapest => k_is)
    (case c__law_cheapest => k_is)
    (case k__law_cheapest => k_is)
    (case a__law_rounds => k_is)
    (case l__law_rounds => k_is)
    (case c__law_rounds => k_is)
    (case k__law_rounds => k_is)
    (case a__law_small => k_is)
    (case l__law_small => k_is)
    (case c__law_small => k_is)
    (case k__law_small => k_is)
    (case a__law_ring => k_is)
    (case l__law_ring => k_is)
    (case c__law_ring => k_is)
    (case k__law_ring => k_is)
    (case a__law_rings => k_is)
    (case l__law_rings => k_is)
    (case c__law_rings => k_is)
    (case k__law_rings => k_is)
    (case a__law_least => k_is)
    (case l__law_least => k_is)
    (case c__law_least => k_is)
    (case k__law_least => k_is)
    (case a__law_lowest => k_is)
    (case l__law_lowest => k_is)
    (case c__law_lowest => k_is)
    (case k__law_lowest => k_is)
    (case a__law_potentials => k_is)
    (case l__law_potentials => k_is)
    (case c__law_potentials => k_is)
    (case k__law_potentials => k_is)
    (case a__law_judge => k_is)
    (case l__law_judge => k_is)
    (case c__law_judge => k_is)
    (case k__law_judge => k_is)
    (case a__law_numbers => k_is)
    (case l__law_numbers => k_is)
    (case c__law_numbers => k_is)
    (case k__law_numbers => k_is)
    (case a__law_is_paper => k_is)
    (case l__law_is_paper => k_is)
    (case c__law_is_paper => k_is)
    (case k__law_is_paper => k_is)
    (case a__law_another => k_is)
    (case l__law_another => k_is)
    (case c__law_another => k_is)
    (case k__law_another => k_is)
    (case a__law_changed => k_is)
    (case l__law_changed => k_is)
    (case c__law_changed => k_is)
    (case k__law_changed => k_is)
    (case a__law_asked => k_is)
    (case l__law_asked => k_is)
    (case c__law_asked => k_is)
    (case k__law_asked => k_is)
    (case a__law_judged => k_is)
    (case l__law_judged => k_is)
    (case c__law_judged => k_is)
    (case k__law_judged => k_is)
    (case a__law_graph_right => k_is)
    (case l__law_graph_right => k_is)
    (case c__law_graph_right => k_is)
    (case k__law_graph_right => k_is)
    (case a__law_refused => k_is)
    (case l__law_refused => k_is)
    (case c__law_refused => k_is)
    (case k__law_refused => k_is)
    (case a_law => k_is)
    (case l_law => k_is)
    (case c_law => k_is)
    (case k_law => k_is)
