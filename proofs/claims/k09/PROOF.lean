import PyProof.Rows.All
import Wide.All
import OpenK.AllK
import Wide.FinOn
import HandS.ForMost
import KE.DataEq
import HandS.TupAny
import HandS.TupLen
import HandS.IsInst
import HandS.Codes
import HandS.Conv
import PyProof.IsRules
import HandS.Iter
import KE.GoesMore
import KE.GoesEnum
import HandS.Deep
import HandS.Text
import PySem.Challenge.RW_everypiece_k09_whole_groups_hang_on_ten
set_option Elab.async false
set_option linter.all false
set_option maxRecDepth 100000
/-! A layer over the hand layer: what a def does, said of plain data (D). -/
namespace DL
open PySem PySem.Spec PyProof.Rows L2

/-! ### data, and how a heap bears it -/
inductive D where
  | non | bl (b : Bool) | int (i : Int) | str (l : List Nat) | lst (xs : List D) | tup (xs : List D)
  | dic (kvs : List (D × D)) | ins (C : Addr) (fs : List (Str × D))
def S (l : List Nat) : Str := ⟨l.toArray⟩
theorem S_toList (x : Str) : S x.cps.toList = x := by
  cases x; rfl
theorem S_cps (l : List Nat) : (S l).cps.toList = l := rfl
theorem S_length (l : List Nat) : (S l).length = l.length := rfl
def kD : Key → D
  | .inl i => .int i
  | .inr x => .str x.cps.toList
def tD (k : List Key) : D := .tup (k.map kD)
mutual
inductive Rep (F : Hp) : V → D → Prop
  | non : Rep F .non .non
  | bl (b : Bool) : Rep F (.bl b) (.bl b)
  | int (i : Int) : Rep F (.int i) (.int i)
  | str {l : List Nat} (h : l.length ≤ sizeLine) : Rep F (.str (S l)) (.str l)
  | lst {a : Addr} {vs : List V} {ds : List D} (h : F a = some (.lst vs)) (r : Reps F vs ds) (z : ds.length ≤ sizeLine) : Rep F (.ref a) (.lst ds)
  | tup {a : Addr} {vs : List V} {ds : List D} (h : F a = some (.tup vs)) (r : Reps F vs ds) (z : ds.length ≤ sizeLine) : Rep F (.ref a) (.tup ds)
  | dK {a : Addr} {ks : List (Key × V)} {ds : List (D × D)} (h : F a = some (.dK ks)) (r : RepK F ks ds) : Rep F (.ref a) (.dic ds)
  | dT {a : Addr} {ks : List (List Key × V)} {ds : List (D × D)} (h : F a = some (.dT ks)) (r : RepT F ks ds) : Rep F (.ref a) (.dic ds)
  | ins {a C dx : Addr} {fs : List (Str × V)} {ds : List (Str × D)} (h : F a = some (.ins C dx fs)) (r : RepF F fs ds) : Rep F (.ref a) (.ins C ds)
inductive Reps (F : Hp) : List V → List D → Prop
  | nil : Reps F [] []
  | cons {v : V} {d : D} {vs : List V} {ds : List D} (r : Rep F v d) (t : Reps F vs ds) : Reps F (v :: vs) (d :: ds)
inductive RepK (F : Hp) : List (Key × V) → List (D × D) → Prop
  | nil : RepK F [] []
  | cons {k : Key} {v : V} {d : D} {ks : List (Key × V)} {ds : List (D × D)} (r : Rep F v d) (t : RepK F ks ds) : RepK F ((k, v) :: ks) ((kD k, d) :: ds)
inductive RepT (F : Hp) : List (List Key × V) → List (D × D) → Prop
  | nil : RepT F [] []
  | cons {k : List Key} {v : V} {d : D} {ks : List (List Key × V)} {ds : List (D × D)} (r : Rep F v d) (t : RepT F ks ds) : RepT F ((k, v) :: ks) ((tD k, d) :: ds)
inductive RepF (F : Hp) : List (Str × V) → List (Str × D) → Prop
  | nil : RepF F [] []
  | cons {x : Str} {v : V} {d : D} {fs : List (Str × V)} {ds : List (Str × D)} (r : Rep F v d) (t : RepF F fs ds) : RepF F ((x, v) :: fs) ((x, d) :: ds)
end
def Ex (H H' : Hp) : Prop := ∀ a o, H a = some o → H' a = some o
theorem Ex.refl (H : Hp) : Ex H H := fun _ _ h => h
theorem Ex.trans {H H1 H2 : Hp} (a : Ex H H1) (b : Ex H1 H2) : Ex H H2 := fun x o h => b x o (a x o h)
theorem Ex.new {H : Hp} {p : Addr} {o : HO} (h : H p = none) : Ex H (upd H p o) := fun a u e => by
  rw [upd_ne (ne_of_none e h)]; exact e
theorem Ex.none {H H' : Hp} {p : Addr} (e : Ex H H') (h : H' p = none) : H p = none := by
  cases q : H p with
  | none => rfl
  | some o => rw [e p o q] at h; cases h
section
variable {F F' : Hp} (e : Ex F F')
include e
mutual
theorem Rep.mono : ∀ {v : V} {d : D}, Rep F v d → Rep F' v d
  | _, _, .non => .non
  | _, _, .bl b => .bl b
  | _, _, .int i => .int i
  | _, _, .str h => .str h
  | _, _, .lst h r z => .lst (e _ _ h) (Reps.mono r) z
  | _, _, .tup h r z => .tup (e _ _ h) (Reps.mono r) z
  | _, _, .dK h r => .dK (e _ _ h) (RepK.mono r)
  | _, _, .dT h r => .dT (e _ _ h) (RepT.mono r)
  | _, _, .ins h r => .ins (e _ _ h) (RepF.mono r)
theorem Reps.mono : ∀ {v : List V} {d : List D}, Reps F v d → Reps F' v d
  | _, _, .nil => .nil
  | _, _, .cons r t => .cons (Rep.mono r) (Reps.mono t)
theorem RepK.mono : ∀ {v : List (Key × V)} {d : List (D × D)}, RepK F v d → RepK F' v d
  | _, _, .nil => .nil
  | _, _, .cons r t => .cons (Rep.mono r) (RepK.mono t)
theorem RepT.mono : ∀ {v : List (List Key × V)} {d : List (D × D)}, RepT F v d → RepT F' v d
  | _, _, .nil => .nil
  | _, _, .cons r t => .cons (Rep.mono r) (RepT.mono t)
theorem RepF.mono : ∀ {v : List (Str × V)} {d : List (Str × D)}, RepF F v d → RepF F' v d
  | _, _, .nil => .nil
  | _, _, .cons r t => .cons (Rep.mono r) (RepF.mono t)
end
end
section
variable {F : Hp}
theorem Reps.length : ∀ {vs : List V} {ds : List D}, Reps F vs ds → vs.length = ds.length
  | _, _, .nil => rfl
  | _, _, .cons _ t => by rw [List.length_cons, List.length_cons, Reps.length t]
theorem Reps.get : ∀ {vs : List V} {ds : List D} {i : Nat} {d : D}, Reps F vs ds → ds[i]? = some d → ∃ v, vs[i]? = some v ∧ Rep F v d
  | _, _, _, _, .nil, h => by simp at h
  | _, _, 0, _, .cons r _, h => by simp at h; subst h; exact ⟨_, rfl, r⟩
  | _, _, i + 1, d, .cons _ t, h => by
    obtain ⟨v, h1, h2⟩ := Reps.get (i := i) (d := d) t (by simpa using h)
    exact ⟨v, by simpa using h1, h2⟩
theorem Reps.get2 : ∀ {vs : List V} {ds : List D} {i : Nat} {v : V}, Reps F vs ds → vs[i]? = some v → ∃ d, ds[i]? = some d ∧ Rep F v d
  | _, _, _, _, .nil, h => by simp at h
  | _, _, 0, _, .cons r _, h => by simp at h; subst h; exact ⟨_, rfl, r⟩
  | _, _, i + 1, d, .cons _ t, h => by
    obtain ⟨v, h1, h2⟩ := Reps.get2 (i := i) (v := d) t (by simpa using h)
    exact ⟨v, by simpa using h1, h2⟩
theorem Reps.append : ∀ {vs ws : List V} {ds es : List D}, Reps F vs ds → Reps F ws es → Reps F (vs ++ ws) (ds ++ es)
  | _, _, _, _, .nil, t => t
  | _, _, _, _, .cons r t, u => .cons r (Reps.append t u)
theorem Reps.take : ∀ {vs : List V} {ds : List D} (n : Nat), Reps F vs ds → Reps F (vs.take n) (ds.take n)
  | _, _, 0, _ => .nil
  | _, _, _ + 1, .nil => .nil
  | _, _, n + 1, .cons r t => .cons r (Reps.take n t)
theorem Reps.drop : ∀ {vs : List V} {ds : List D} (n : Nat), Reps F vs ds → Reps F (vs.drop n) (ds.drop n)
  | _, _, 0, r => r
  | _, _, _ + 1, .nil => .nil
  | _, _, n + 1, .cons _ t => Reps.drop n t
theorem Reps.set : ∀ {vs : List V} {ds : List D} (n : Nat) {v : V} {d : D}, Reps F vs ds → Rep F v d → Reps F (vs.set n v) (ds.set n d)
  | _, _, _, _, _, .nil, _ => .nil
  | _, _, 0, _, _, .cons _ t, q => .cons q t
  | _, _, n + 1, _, _, .cons r t, q => .cons r (Reps.set n t q)
theorem Reps.reverse : ∀ {vs : List V} {ds : List D}, Reps F vs ds → Reps F vs.reverse ds.reverse
  | _, _, .nil => .nil
  | _, _, .cons r t => by
    rw [List.reverse_cons, List.reverse_cons]
    exact (Reps.reverse t).append (.cons r .nil)
theorem Reps.dropLast : ∀ {vs : List V} {ds : List D}, Reps F vs ds → Reps F vs.dropLast ds.dropLast := fun {vs ds} r => by
  rw [List.dropLast_eq_take, List.dropLast_eq_take, r.length]
  exact r.take _
end

/-! ### what a def's slots hold -/
/-- nothing that is read; a value that stays; a list or dict of the def's own; one of the caller's that is written -/
inductive Cell where
  | un | fz (d : D) | ow (d : D) | io (d : D)
abbrev Env := List Cell
def Cell.own : Cell → Bool
  | .ow _ => true
  | .io _ => true
  | _ => false
def Cell.val : Cell → Option D
  | .un => none
  | .fz d => some d
  | .ow d => some d
  | .io d => some d
def Cell.up : Cell → D → Cell
  | .ow _, d => .ow d
  | .io _, d => .io d
  | c, _ => c
structure Gd where
  H0 : Hp
  F0 : Hp
  ios : List Addr
  iop : Nat → Option Addr
  pr : Hp
/-- an object of its own at a: its parts stay -/
def Own (F H : Hp) (a : Addr) : D → Prop
  | .lst ds => F a = none ∧ (∃ vs, H a = some (.lst vs) ∧ Reps F vs ds) ∧ ds.length ≤ sizeLine
  | .dic ds => F a = none ∧ ((∃ ks, H a = some (.dK ks) ∧ RepK F ks ds) ∨ ∃ ks, H a = some (.dT ks) ∧ RepT F ks ds)
  | _ => False
theorem Own.no {F H : Hp} {a : Addr} : ∀ {d : D}, Own F H a d → F a = none
  | .lst _, h => h.1
  | .dic _, h => h.1
theorem Own.there {F H : Hp} {a : Addr} : ∀ {d : D}, Own F H a d → ∃ o, H a = some o
  | .lst _, ⟨_, ⟨vs, h, _⟩, _⟩ => ⟨_, h⟩
  | .dic _, ⟨_, .inl ⟨ks, h, _⟩⟩ => ⟨_, h⟩
  | .dic _, ⟨_, .inr ⟨ks, h, _⟩⟩ => ⟨_, h⟩
theorem Own.mono {F H F' H' : Hp} {a : Addr} (e : Ex F F') (n : F' a = none) (h : ∀ o, H a = some o → H' a = some o) : ∀ {d : D}, Own F H a d → Own F' H' a d
  | .lst _, ⟨_, ⟨vs, q, r⟩, z⟩ => ⟨n, ⟨vs, h _ q, r.mono e⟩, z⟩
  | .dic _, ⟨_, .inl ⟨ks, q, r⟩⟩ => ⟨n, .inl ⟨ks, h _ q, r.mono e⟩⟩
  | .dic _, ⟨_, .inr ⟨ks, q, r⟩⟩ => ⟨n, .inr ⟨ks, h _ q, r.mono e⟩⟩
/-- it is kept from now on -/
theorem Own.freeze {F H : Hp} {a : Addr} {o : HO} (ho : H a = some o) : ∀ {d : D}, Own F H a d → Rep (upd F a o) (.ref a) d
  | .lst _, ⟨n, ⟨vs, q, r⟩, z⟩ => by
    rw [q] at ho; cases ho
    exact .lst upd_same (r.mono (Ex.new n)) z
  | .dic _, ⟨n, .inl ⟨ks, q, r⟩⟩ => by
    rw [q] at ho; cases ho
    exact .dK upd_same (r.mono (Ex.new n))
  | .dic _, ⟨n, .inr ⟨ks, q, r⟩⟩ => by
    rw [q] at ho; cases ho
    exact .dT upd_same (r.mono (Ex.new n))
def CellOk (g : Gd) (F H : Hp) (i : Nat) (v : Option V) : Cell → Prop
  | .un => True
  | .fz d => ∃ x, v = some x ∧ Rep F x d
  | .ow d => ∃ a, v = some (.ref a) ∧ Own F H a d ∧ g.H0 a = none
  | .io d => ∃ a, v = some (.ref a) ∧ Own F H a d ∧ a ∈ g.ios ∧ g.iop i = some a
structure EOk (g : Gd) (F : Hp) (σ : L2.St) (H : Hp) (ρ : Env) : Prop where
  len : σ.length = ρ.length
  cell : ∀ (i : Nat) (v : Option V) (c : Cell), σ[i]? = some v → ρ[i]? = some c → CellOk g F H i v c
  dist : ∀ (i j : Nat) (ci cj : Cell) (a : Addr), i ≠ j → ρ[i]? = some ci → ρ[j]? = some cj → ci.own = true → cj.own = true → σ[i]? = some (some (.ref a)) → σ[j]? = some (some (.ref a)) → False
  ex : Ex F H
  frame : ∀ b o, g.H0 b = some o → b ∉ g.ios → H b = some o
  new : ∀ b o, F b = some o → g.F0 b = some o ∨ g.H0 b = none
  iosH : ∀ a ∈ g.ios, ∃ o, H a = some o
  prot : ∀ b o, g.pr b = some o → H b = some o ∧ F b = none ∧ g.H0 b = none ∧ ∀ (i : Nat) (c : Cell), ρ[i]? = some c → c.own = true → σ[i]? ≠ some (some (.ref b))
/-- new things that stay: nothing else is turned -/
structure Grow (F H F' H' : Hp) : Prop where
  exF : Ex F F'
  ex : Ex F' H'
  keep : Ex H H'
  new : ∀ b o, F' b = some o → F b = some o ∨ H b = none
theorem Grow.refl {F H : Hp} (h : Ex F H) : Grow F H F H := ⟨Ex.refl _, h, Ex.refl _, fun _ _ h => .inl h⟩
theorem Grow.trans {F H F1 H1 F2 H2 : Hp} (a : Grow F H F1 H1) (b : Grow F1 H1 F2 H2) : Grow F H F2 H2 :=
  ⟨a.exF.trans b.exF, b.ex, a.keep.trans b.keep, fun c o h => (b.new c o h).elim (fun z => a.new c o z) fun z => .inr (a.keep.none z)⟩
theorem Grow.alloc {F H : Hp} {p : Addr} {o : HO} (e : Ex F H) (n : H p = none) : Grow F H (upd F p o) (upd H p o) :=
  ⟨Ex.new (e.none n), fun b u h => by
    by_cases hb : b = p
    · subst hb; rw [upd_same] at h ⊢; exact h
    · rw [upd_ne hb] at h ⊢; exact e b u h, Ex.new n, fun b u h => by
    by_cases hb : b = p
    · subst hb; exact .inr n
    · rw [upd_ne hb] at h; exact .inl h⟩
/-- laid, tracked, but of no one's yet: F as it was -/
theorem Grow.laid {F H : Hp} {p : Addr} {o : HO} (e : Ex F H) (n : H p = none) : Grow F H F (upd H p o) :=
  ⟨Ex.refl _, e.trans (Ex.new n), Ex.new n, fun _ _ h => .inl h⟩
section
variable {g : Gd} {F F' H H' : Hp} {σ : L2.St} {ρ : Env}
theorem EOk.h0 (k : EOk g F σ H ρ) {b : Addr} (n : H b = none) : g.H0 b = none := by
  cases q : g.H0 b with
  | none => rfl
  | some o =>
    by_cases hb : b ∈ g.ios
    · obtain ⟨u, hu⟩ := k.iosH b hb
      rw [hu] at n; cases n
    · rw [k.frame b o q hb] at n; cases n
theorem CellOk.grow (G : Grow F H F' H') {j : Nat} {v : Option V} : ∀ {c : Cell}, CellOk g F H j v c → CellOk g F' H' j v c
  | .un, _ => trivial
  | .fz _, ⟨x, e, r⟩ => ⟨x, e, r.mono G.exF⟩
  | .ow _, ⟨a, e, r, n⟩ => ⟨a, e, r.mono G.exF (by
      cases q : F' a with
      | none => rfl
      | some o =>
        rcases G.new a o q with z | z
        · rw [r.no] at z; cases z
        · obtain ⟨u, hu⟩ := r.there; rw [z] at hu; cases hu) (G.keep a), n⟩
  | .io _, ⟨a, e, r, n⟩ => ⟨a, e, r.mono G.exF (by
      cases q : F' a with
      | none => rfl
      | some o =>
        rcases G.new a o q with z | z
        · rw [r.no] at z; cases z
        · obtain ⟨u, hu⟩ := r.there; rw [z] at hu; cases hu) (G.keep a), n⟩
theorem Grow.noF (G : Grow F H F' H') {b : Addr} {o : HO} (n : F b = none) (h : H b = some o) : F' b = none := by
  cases q : F' b with
  | none => rfl
  | some u =>
    rcases G.new b u q with z | z
    · rw [n] at z; cases z
    · rw [h] at z; cases z
theorem EOk.grow (k : EOk g F σ H ρ) (G : Grow F H F' H') : EOk g F' σ H' ρ where
  len := k.len
  cell := fun i v c h1 h2 => (k.cell i v c h1 h2).grow G
  dist := k.dist
  ex := G.ex
  frame := fun b o h n => G.keep b o (k.frame b o h n)
  new := fun b o h => (G.new b o h).elim (fun z => k.new b o z) fun z => .inr (k.h0 z)
  iosH := fun a ha => let ⟨o, h⟩ := k.iosH a ha; ⟨o, G.keep a o h⟩
  prot := fun b o h => let ⟨h1, h2, h3, h4⟩ := k.prot b o h; ⟨G.keep b o h1, G.noF h2 h1, h3, h4⟩
theorem EOk.slot (k : EOk g F σ H ρ) {i : Nat} {c : Cell} (h : ρ[i]? = some c) : ∃ v, σ[i]? = some v ∧ CellOk g F H i v c := by
  have hi : i < ρ.length := (List.getElem?_eq_some_iff.mp h).1
  have hs : i < σ.length := by rw [k.len]; exact hi
  exact ⟨σ[i], List.getElem?_eq_getElem hs, k.cell i _ c (List.getElem?_eq_getElem hs) h⟩
theorem getElem?_set' {α : Type} {xs : List α} {i j : Nat} {x y : α} (h : (xs.set i x)[j]? = some y) : (j = i ∧ y = x ∧ i < xs.length) ∨ (j ≠ i ∧ xs[j]? = some y) := by
  by_cases e : i = j
  · subst e
    by_cases hl : i < xs.length
    · rw [List.getElem?_set_self hl] at h
      exact .inl ⟨rfl, (Option.some.inj h).symm, hl⟩
    · rw [List.getElem?_eq_none (by simpa using hl)] at h; cases h
  · rw [List.getElem?_set_ne e] at h
    exact .inr ⟨fun z => e z.symm, h⟩
/-- a slot takes a value that stays -/
theorem EOk.set (k : EOk g F σ H ρ) {i : Nat} {v : V} {d : D} (r : Rep F v d) : EOk g F (σ.set i (some v)) H (ρ.set i (.fz d)) where
  len := by rw [List.length_set, List.length_set, k.len]
  cell := fun j w c h1 h2 => by
    rcases getElem?_set' h1 with ⟨e, e2, _⟩ | ⟨e, h1⟩
    · subst e
      rcases getElem?_set' h2 with ⟨_, e3, _⟩ | ⟨ne, _⟩
      · subst e2 e3; exact ⟨v, rfl, r⟩
      · exact absurd rfl ne
    · rcases getElem?_set' h2 with ⟨e3, _, _⟩ | ⟨_, h2⟩
      · exact absurd e3 e
      · exact k.cell j w c h1 h2
  dist := fun i1 j1 ci cj a ne h1 h2 o1 o2 s1 s2 => by
    rcases getElem?_set' h1 with ⟨_, e, _⟩ | ⟨n1, h1⟩
    · subst e; cases o1
    rcases getElem?_set' h2 with ⟨_, e, _⟩ | ⟨n2, h2⟩
    · subst e; cases o2
    rw [List.getElem?_set_ne n1.symm] at s1
    rw [List.getElem?_set_ne n2.symm] at s2
    exact k.dist i1 j1 ci cj a ne h1 h2 o1 o2 s1 s2
  ex := k.ex
  frame := k.frame
  new := k.new
  iosH := k.iosH
  prot := fun b o h => by
    obtain ⟨h1, h2, h3, h4⟩ := k.prot b o h
    refine ⟨h1, h2, h3, fun j c hc ho => ?_⟩
    rcases getElem?_set' hc with ⟨_, e, _⟩ | ⟨n1, hc⟩
    · subst e; cases ho
    rw [List.getElem?_set_ne n1.symm]
    exact h4 j c hc ho
/-- a cell is forgotten -/
theorem EOk.forget (k : EOk g F σ H ρ) (i : Nat) (v : Option V) (hv : v = none ∨ σ[i]? = some v ∨ True) : EOk g F (σ.set i v) H (ρ.set i .un) where
  len := by rw [List.length_set, List.length_set, k.len]
  cell := fun j w c h1 h2 => by
    rcases getElem?_set' h2 with ⟨_, e3, _⟩ | ⟨ne, h2⟩
    · subst e3; trivial
    · rw [List.getElem?_set_ne ne.symm] at h1
      exact k.cell j w c h1 h2
  dist := fun i1 j1 ci cj a ne h1 h2 o1 o2 s1 s2 => by
    rcases getElem?_set' h1 with ⟨_, e, _⟩ | ⟨n1, h1⟩
    · subst e; cases o1
    rcases getElem?_set' h2 with ⟨_, e, _⟩ | ⟨n2, h2⟩
    · subst e; cases o2
    rw [List.getElem?_set_ne n1.symm] at s1
    rw [List.getElem?_set_ne n2.symm] at s2
    exact k.dist i1 j1 ci cj a ne h1 h2 o1 o2 s1 s2
  ex := k.ex
  frame := k.frame
  new := k.new
  iosH := k.iosH
  prot := fun b o h => by
    obtain ⟨h1, h2, h3, h4⟩ := k.prot b o h
    refine ⟨h1, h2, h3, fun j c hc ho => ?_⟩
    rcases getElem?_set' hc with ⟨_, e, _⟩ | ⟨n1, hc⟩
    · subst e; cases ho
    rw [List.getElem?_set_ne n1.symm]
    exact h4 j c hc ho
/-- a value at hand: it stays, or it is one's own (in no slot) -/
def Tmp (g : Gd) (F : Hp) (σ : L2.St) (H : Hp) (ρ : Env) (v : V) : Cell → Prop
  | .fz d => Rep F v d
  | .ow d => ∃ a, v = .ref a ∧ Own F H a d ∧ g.H0 a = none ∧ (∀ (i : Nat) (c : Cell), ρ[i]? = some c → c.own = true → σ[i]? ≠ some (some (.ref a))) ∧ g.pr a = none
  | _ => False
/-- a slot takes an object of one's own -/
theorem EOk.setOw (k : EOk g F σ H ρ) {i : Nat} {v : V} {d : D} (r : Tmp g F σ H ρ v (.ow d)) : EOk g F (σ.set i (some v)) H (ρ.set i (.ow d)) := by
  obtain ⟨a, rfl, own, h0, no, npr⟩ := r
  refine ⟨by rw [List.length_set, List.length_set, k.len], fun j w c h1 h2 => ?_, fun i1 j1 ci cj b ne h1 h2 o1 o2 s1 s2 => ?_, k.ex, k.frame, k.new, k.iosH, fun b o h => ?_⟩
  · rcases getElem?_set' h1 with ⟨e, e2, _⟩ | ⟨e, h1⟩
    · subst e
      rcases getElem?_set' h2 with ⟨_, e3, _⟩ | ⟨ne, _⟩
      · subst e2 e3; exact ⟨a, rfl, own, h0⟩
      · exact absurd rfl ne
    · rcases getElem?_set' h2 with ⟨e3, _, _⟩ | ⟨_, h2⟩
      · exact absurd e3 e
      · exact k.cell j w c h1 h2
  · rcases getElem?_set' h1 with ⟨e1, e, _⟩ | ⟨n1, h1⟩
    · rcases getElem?_set' h2 with ⟨e2, _, _⟩ | ⟨n2, h2⟩
      · exact ne (e1.trans e2.symm)
      · rw [List.getElem?_set_ne n2.symm] at s2
        rcases getElem?_set' s1 with ⟨_, e3, _⟩ | ⟨n3, _⟩
        · cases e3
          exact no j1 cj h2 o2 s2
        · exact n3 e1
    · rw [List.getElem?_set_ne n1.symm] at s1
      rcases getElem?_set' h2 with ⟨e2, _, _⟩ | ⟨n2, h2⟩
      · rcases getElem?_set' s2 with ⟨_, e3, _⟩ | ⟨n3, _⟩
        · cases e3
          exact no i1 ci h1 o1 s1
        · exact n3 e2
      · rw [List.getElem?_set_ne n2.symm] at s2
        exact k.dist i1 j1 ci cj b ne h1 h2 o1 o2 s1 s2
  · obtain ⟨h1, h2, h3, h4⟩ := k.prot b o h
    refine ⟨h1, h2, h3, fun j c hc ho => ?_⟩
    rcases getElem?_set' hc with ⟨e1, e, hl⟩ | ⟨n1, hc⟩
    · subst e1
      rw [List.getElem?_set_self (by rw [k.len]; exact hl)]
      intro z
      cases z
      rw [npr] at h; cases h
    · rw [List.getElem?_set_ne n1.symm]
      exact h4 j c hc ho
/-- what is at hand is kept from now on -/
theorem EOk.keepTmp (k : EOk g F σ H ρ) {v : V} {d : D} (r : Tmp g F σ H ρ v (.ow d)) : ∃ F', EOk g F' σ H ρ ∧ Ex F F' ∧ Rep F' v d := by
  obtain ⟨a, rfl, own, h0, no, npr⟩ := r
  obtain ⟨o, ho⟩ := own.there
  have nF := own.no
  have eF : Ex F (upd F a o) := Ex.new nF
  refine ⟨upd F a o, ⟨k.len, fun i v c h1 h2 => ?_, k.dist, fun b u hb => ?_, k.frame, fun b u hb => ?_, k.iosH, fun b u hb => ?_⟩, eF, own.freeze ho⟩
  · have q := k.cell i v c h1 h2
    cases c with
    | un => trivial
    | fz d => obtain ⟨x, e, r⟩ := q; exact ⟨x, e, r.mono eF⟩
    | ow d =>
      obtain ⟨b, e, r, n⟩ := q
      have hb : b ≠ a := fun z => no i _ h2 rfl (by rw [h1, e, z])
      exact ⟨b, e, r.mono eF (by rw [upd_ne hb]; exact r.no) fun _ z => z, n⟩
    | io d =>
      obtain ⟨b, e, r, n⟩ := q
      have hb : b ≠ a := fun z => no i _ h2 rfl (by rw [h1, e, z])
      exact ⟨b, e, r.mono eF (by rw [upd_ne hb]; exact r.no) fun _ z => z, n⟩
  · by_cases e : b = a
    · subst e; rw [upd_same] at hb; cases hb; exact ho
    · rw [upd_ne e] at hb; exact k.ex b u hb
  · by_cases e : b = a
    · subst e; exact .inr h0
    · rw [upd_ne e] at hb; exact k.new b u hb
  · obtain ⟨h1, h2, h3, h4⟩ := k.prot b u hb
    have e : b ≠ a := fun z => by subst z; rw [npr] at hb; cases hb
    exact ⟨h1, by rw [upd_ne e]; exact h2, h3, h4⟩
/-- a slot's own object is taken out of it -/
theorem EOk.move (k : EOk g F σ H ρ) {i : Nat} {d : D} (h : ρ[i]? = some (.ow d)) : ∃ v, σ[i]? = some (some v) ∧ EOk g F σ H (ρ.set i .un) ∧ Tmp g F σ H (ρ.set i .un) v (.ow d) := by
  obtain ⟨v, hv, a, rfl, own, h0⟩ := k.slot h
  have k' := k.forget i (some (.ref a)) (.inr (.inr trivial))
  have es : σ.set i (some (V.ref a)) = σ := by
    apply List.ext_getElem?
    intro j
    by_cases e : i = j
    · subst e; rw [List.getElem?_set_self (List.getElem?_eq_some_iff.mp hv).1, hv]
    · rw [List.getElem?_set_ne e]
  rw [es] at k'
  refine ⟨.ref a, hv, k', a, rfl, own, h0, fun j c hc ho => ?_, ?_⟩
  · rcases getElem?_set' hc with ⟨_, e, _⟩ | ⟨n1, hc⟩
    · subst e; cases ho
    · exact fun z => k.dist j i c _ a n1 hc h ho rfl z hv
  · cases q : g.pr a with
    | none => rfl
    | some o => exact absurd hv ((k.prot a o q).2.2.2 i _ h rfl)
/-- .. and stays in it, kept from now on -/
theorem EOk.fix (k : EOk g F σ H ρ) {i : Nat} {d : D} (h : ρ[i]? = some (.ow d)) : ∃ F' v, σ[i]? = some (some v) ∧ EOk g F' σ H (ρ.set i (.fz d)) ∧ Ex F F' ∧ Rep F' v d := by
  obtain ⟨v, hv, k1, t⟩ := k.move h
  obtain ⟨F', k2, e, r⟩ := k1.keepTmp t
  have k3 := k2.set (i := i) r
  have es : σ.set i (some v) = σ := by
    apply List.ext_getElem?
    intro j
    by_cases e : i = j
    · subst e; rw [List.getElem?_set_self (List.getElem?_eq_some_iff.mp hv).1, hv]
    · rw [List.getElem?_set_ne e]
  rw [es, List.set_set] at k3
  exact ⟨F', v, hv, k3, e, r⟩
/-- a slot's own object is turned; what else is new stays -/
theorem EOk.turn (k : EOk g F σ H ρ) {i : Nat} {c : Cell} {a : Addr} {d' : D} (h : ρ[i]? = some c) (hc : c.own = true) (hv : σ[i]? = some (some (.ref a)))
    (exF : Ex F F') (ex : Ex F' H') (keep : ∀ b o, H b = some o → b ≠ a → H' b = some o) (new : ∀ b o, F' b = some o → F b = some o ∨ H b = none) (own : Own F' H' a d') : EOk g F' σ H' (ρ.set i (c.up d')) := by
  have hl : i < ρ.length := (List.getElem?_eq_some_iff.mp h).1
  have q0 := k.cell i _ c hv h
  have hown0 : ∃ d, Own F H a d := by
    cases c with
    | un => cases hc
    | fz _ => cases hc
    | ow d => obtain ⟨b, e, r, _⟩ := q0; cases e; exact ⟨d, r⟩
    | io d => obtain ⟨b, e, r, _⟩ := q0; cases e; exact ⟨d, r⟩
  obtain ⟨d0, r0⟩ := hown0
  have noF : ∀ {b : Addr} {o : HO}, F b = none → H b = some o → F' b = none := fun {b o} n hb => by
    cases q : F' b with
    | none => rfl
    | some u =>
      rcases new b u q with z | z
      · rw [n] at z; cases z
      · rw [hb] at z; cases z
  refine ⟨by rw [List.length_set]; exact k.len, fun j v cj h1 h2 => ?_, fun i1 j1 ci cj b ne h1 h2 o1 o2 s1 s2 => ?_, ex, fun b o hb nb => ?_, fun b o hb => ?_, fun b hb => ?_, fun b o hb => ?_⟩
  · rcases getElem?_set' h2 with ⟨e, e2, _⟩ | ⟨ne, h2⟩
    · subst e e2
      rw [hv] at h1; cases h1
      cases c with
      | un => cases hc
      | fz _ => cases hc
      | ow d => obtain ⟨b, e, r, n⟩ := q0; cases e; exact ⟨a, rfl, own, n⟩
      | io d => obtain ⟨b, e, r, n⟩ := q0; cases e; exact ⟨a, rfl, own, n⟩
    · have q := k.cell j v cj h1 h2
      cases cj with
      | un => trivial
      | fz d => obtain ⟨x, e, r⟩ := q; exact ⟨x, e, r.mono exF⟩
      | ow d =>
        obtain ⟨b, e, r, n⟩ := q
        have hb : b ≠ a := fun z => k.dist j i _ _ a ne h2 h rfl hc (by rw [h1, e, z]) hv
        obtain ⟨o, ho⟩ := r.there
        exact ⟨b, e, r.mono exF (noF r.no ho) fun o z => keep b o z hb, n⟩
      | io d =>
        obtain ⟨b, e, r, n⟩ := q
        have hb : b ≠ a := fun z => k.dist j i _ _ a ne h2 h rfl hc (by rw [h1, e, z]) hv
        obtain ⟨o, ho⟩ := r.there
        exact ⟨b, e, r.mono exF (noF r.no ho) fun o z => keep b o z hb, n⟩
  · have back : ∀ {j : Nat} {cj : Cell}, (ρ.set i (c.up d'))[j]? = some cj → cj.own = true → ∃ cj', ρ[j]? = some cj' ∧ cj'.own = true := fun {j cj} hj ho => by
      rcases getElem?_set' hj with ⟨e, _, _⟩ | ⟨_, hj⟩
      · subst e; exact ⟨c, h, hc⟩
      · exact ⟨cj, hj, ho⟩
    obtain ⟨ci', x1, x2⟩ := back h1 o1
    obtain ⟨cj', y1, y2⟩ := back h2 o2
    exact k.dist i1 j1 ci' cj' b ne x1 y1 x2 y2 s1 s2
  · have hba : b ≠ a := fun z => by
      subst z
      cases c with
      | un => cases hc
      | fz _ => cases hc
      | ow d => obtain ⟨b', e, r, n⟩ := q0; cases e; rw [n] at hb; cases hb
      | io d => obtain ⟨b', e, r, n⟩ := q0; cases e; exact nb n.1
    exact keep b o (k.frame b o hb nb) hba
  · rcases new b o hb with z | z
    · exact k.new b o z
    · exact .inr (k.h0 z)
  · obtain ⟨o, ho⟩ := k.iosH b hb
    by_cases e : b = a
    · subst e; exact own.there
    · exact ⟨o, keep b o ho e⟩
  · obtain ⟨h1, h2, h3, h4⟩ := k.prot b o hb
    have e : b ≠ a := fun z => h4 i c h hc (by rw [hv, z])
    refine ⟨keep b o h1 e, noF h2 h1, h3, fun j cj hj ho => ?_⟩
    rcases getElem?_set' hj with ⟨e, _, _⟩ | ⟨_, hj⟩
    · subst e; exact h4 j c h hc
    · exact h4 j cj hj ho
end
end DL

namespace DL
open PySem PySem.Spec PyProof.Rows L2

/-! ### meanings over data -/
abbrev DTE := Env → (D → Env → Prop) → Prop
abbrev DTX := Env → (Cell → Env → Prop) → Prop
abbrev DTT := Env → (Bool → Env → Prop) → Prop
abbrev DTA := Env → (List D → Env → Prop) → Prop
structure DEnds where
  nx : Env → Prop
  rt : Cell → Env → Prop
  bk : Env → Prop
  ct : Env → Prop
abbrev DTS := DEnds → Env → Prop
def tE (de : DTE) : TE := fun σ H Q => ∃ g F ρ Qd, EOk g F σ H ρ ∧ de ρ Qd ∧ ∀ F' H' ρ' v d, EOk g F' σ H' ρ' → Ex F F' → Rep F' v d → Qd d ρ' → Q v H'
def tX (dx : DTX) : TE := fun σ H Q => ∃ g F ρ Qd, EOk g F σ H ρ ∧ dx ρ Qd ∧ ∀ F' H' ρ' v c, EOk g F' σ H' ρ' → Ex F F' → Tmp g F' σ H' ρ' v c → Qd c ρ' → Q v H'
def tT (dt : DTT) : TT := fun σ H Q => ∃ g F ρ Qd, EOk g F σ H ρ ∧ dt ρ Qd ∧ ∀ F' H' ρ' b, EOk g F' σ H' ρ' → Ex F F' → Qd b ρ' → Q b H'
def tA (da : DTA) : TA := fun σ H Q => ∃ g F ρ Qd, EOk g F σ H ρ ∧ da ρ Qd ∧ ∀ F' H' ρ' vs ds, EOk g F' σ H' ρ' → Ex F F' → Reps F' vs ds → Qd ds ρ' → Q vs H'
structure SimEnds (g : Gd) (F : Hp) (Dd : DEnds) (Dv : Ends) : Prop where
  nx : ∀ F' σ' H' ρ', EOk g F' σ' H' ρ' → Ex F F' → Dd.nx ρ' → Dv.nx σ' H'
  rt : ∀ F' σ' H' ρ' v c, EOk g F' σ' H' ρ' → Ex F F' → Tmp g F' σ' H' ρ' v c → Dd.rt c ρ' → Dv.rt v H'
  bk : ∀ F' σ' H' ρ', EOk g F' σ' H' ρ' → Ex F F' → Dd.bk ρ' → Dv.bk σ' H'
  ct : ∀ F' σ' H' ρ', EOk g F' σ' H' ρ' → Ex F F' → Dd.ct ρ' → Dv.ct σ' H'
theorem SimEnds.mono {g : Gd} {F F' : Hp} {Dd : DEnds} {Dv : Ends} (h : SimEnds g F Dd Dv) (e : Ex F F') : SimEnds g F' Dd Dv :=
  ⟨fun _ _ _ _ k x => h.nx _ _ _ _ k (e.trans x), fun _ _ _ _ _ _ k x => h.rt _ _ _ _ _ _ k (e.trans x), fun _ _ _ _ k x => h.bk _ _ _ _ k (e.trans x), fun _ _ _ _ k x => h.ct _ _ _ _ k (e.trans x)⟩
def tS (ds : DTS) : TS := fun Dv σ H => ∃ g F ρ Dd, EOk g F σ H ρ ∧ ds Dd ρ ∧ SimEnds g F Dd Dv

section
variable {X : Cx} {e a b c : Expr} {t t' : TE} {pos : Pos}
theorem pe_imp (h : PE X e t) (i : ∀ σ H Q, t' σ H Q → t σ H Q) : PE X e t' := ⟨fun pins s σ H Q I q => h.run pins s σ H Q I (i σ H Q q)⟩
theorem pt_imp {t t' : TT} (h : PT X e t) (i : ∀ σ H Q, t' σ H Q → t σ H Q) : PT X e t' := ⟨fun pins s σ H Q I q => h.run pins s σ H Q I (i σ H Q q)⟩
theorem pw_imp {t t' : TT} (h : PW X e t) (i : ∀ σ H Q, t' σ H Q → t σ H Q) : PW X e t' := ⟨fun wh pins s σ H Q I q => h.run wh pins s σ H Q I (i σ H Q q)⟩
theorem pa_imp {es : List Expr} {t t' : TA} (h : PA X es t) (i : ∀ σ H Q, t' σ H Q → t σ H Q) : PA X es t' := ⟨fun p pins s σ H Q I q => h.run p pins s σ H Q I (i σ H Q q)⟩
theorem ps_imp {st : Stmt} {t t' : TS} (h : PS X st t) (i : ∀ D σ H, t' D σ H → t D σ H) : PS X st t' := ⟨fun pins s σ H D I q => h.run pins s σ H D I (i D σ H q)⟩
theorem pss_imp {st : List Stmt} {t t' : TS} (h : PSs X st t) (i : ∀ D σ H, t' D σ H → t D σ H) : PSs X st t' := ⟨fun pins s σ H D I q => h.run pins s σ H D I (i D σ H q)⟩
theorem opr_imp {f : Value → Value → Sem Value} {r r' : R2} (h : OpR X f r) (i : ∀ x y H Q, r' x y H Q → r x y H Q) : OpR X f r' := fun pins s σ H x y v u Q I rx ry q => h pins s σ H x y v u Q I rx ry (i x y H Q q)

/-! ### names, constants -/
def dVar (i : Nat) : DTE := fun ρ Q => match ρ[i]? with
  | some (.fz d) => Q d ρ
  | some (.ow d) => Q d (ρ.set i (.fz d))
  | _ => False
theorem de_var (i : Nat) {x : Str} (h : PE X (.Name x pos) (tVar i)) : PE X (.Name x pos) (tE (dVar i)) := by
  refine pe_imp h fun σ H Q ⟨g, F, ρ, Qd, k, h, c⟩ => ?_
  unfold dVar at h
  split at h
  · rename_i d hd
    obtain ⟨v, hv, y, ey, r⟩ := k.slot hd
    subst ey
    exact ⟨y, hv, c F H ρ y d k (Ex.refl _) r h⟩
  · rename_i d hd
    obtain ⟨F', v, hv, k', ex, r⟩ := k.fix hd
    exact ⟨v, hv, c F' H _ v d k' ex r h⟩
  · exact h.elim
/-- a name that is handed on: what is one's own goes with it -/
def dMove (i : Nat) : DTX := fun ρ Q => match ρ[i]? with
  | some (.fz d) => Q (.fz d) ρ
  | some (.ow d) => Q (.ow d) (ρ.set i .un)
  | _ => False
theorem dx_move (i : Nat) {x : Str} (h : PE X (.Name x pos) (tVar i)) : PE X (.Name x pos) (tX (dMove i)) := by
  refine pe_imp h fun σ H Q ⟨g, F, ρ, Qd, k, h, c⟩ => ?_
  unfold dMove at h
  split at h
  · rename_i d hd
    obtain ⟨v, hv, y, ey, r⟩ := k.slot hd
    subst ey
    exact ⟨y, hv, c F H ρ y (.fz d) k (Ex.refl _) r h⟩
  · rename_i d hd
    obtain ⟨v, hv, k', r⟩ := k.move hd
    exact ⟨v, hv, c F H _ v (.ow d) k' (Ex.refl _) r h⟩
  · exact h.elim
def dC (d : D) : DTE := fun ρ Q => Q d ρ
theorem de_c {v : V} {d : D} (h : PE X e (tC v)) (r : ∀ F, Rep F v d) : PE X e (tE (dC d)) := by
  refine pe_imp h fun σ H Q ⟨g, F, ρ, Qd, k, h, c⟩ => ?_
  exact c F H ρ v d k (Ex.refl _) (r F) h
theorem de_int {i : Int} {j} : PE X (.Constant (.int i) j pos) (tE (dC (.int i))) := de_c pe_int fun _ => .int i
theorem de_bl {i : Bool} {j} : PE X (.Constant (.bool i) j pos) (tE (dC (.bl i))) := de_c pe_bl fun _ => .bl i
theorem de_non {j} : PE X (.Constant .none j pos) (tE (dC .non)) := de_c pe_non fun _ => .non
theorem de_str {x : Str} {j} (l : List Nat) (h : x.cps.toList = l := by rfl) (z : l.length ≤ sizeLine := by decide) : PE X (.Constant (.str x) j pos) (tE (dC (.str l))) := by
  subst h
  exact de_c pe_str fun F => by
    have q := Rep.str (F := F) z
    rw [S_toList] at q
    exact q
/-- from what is at hand to what stays; and back -/
def dFz (dx : DTX) : DTE := fun ρ Q => dx ρ fun c ρ' => match c with
  | .fz d => Q d ρ'
  | .ow d => Q d ρ'
  | _ => False
theorem de_fz {dx : DTX} (h : PE X e (tX dx)) : PE X e (tE (dFz dx)) := by
  refine pe_imp h fun σ H Q ⟨g, F, ρ, Qd, k, h, c⟩ => ?_
  refine ⟨g, F, ρ, _, k, h, fun F' H' ρ' v cl k' ex t q => ?_⟩
  cases cl with
  | un => exact q.elim
  | io d => exact q.elim
  | fz d => exact c F' H' ρ' v d k' ex t q
  | ow d =>
    obtain ⟨F'', k'', ex', r⟩ := k'.keepTmp t
    exact c F'' H' ρ' v d k'' (ex.trans ex') r q
def dUp (de : DTE) : DTX := fun ρ Q => de ρ fun d ρ' => Q (.fz d) ρ'
theorem dx_up {de : DTE} (h : PE X e (tE de)) : PE X e (tX (dUp de)) := by
  refine pe_imp h fun σ H Q ⟨g, F, ρ, Qd, k, h, c⟩ => ?_
  exact ⟨g, F, ρ, _, k, h, fun F' H' ρ' v d k' ex t q => c F' H' ρ' v (.fz d) k' ex t q⟩

/-! ### argument lists, displays -/
def dNil : DTA := fun ρ Q => Q [] ρ
def dCons (de : DTE) (da : DTA) : DTA := fun ρ Q => de ρ fun d ρ1 => da ρ1 fun ds ρ2 => Q (d :: ds) ρ2
theorem da_nil : PA X [] (tA dNil) := pa_imp pa_nil fun σ H Q ⟨g, F, ρ, Qd, k, h, c⟩ => c F H ρ [] [] k (Ex.refl _) .nil h
theorem da_cons {es : List Expr} {de : DTE} {da : DTA} (ha : PE X e (tE de)) (hr : PA X es (tA da)) (hs : starEach (e :: es) X.env = (false, eval e X.env) :: starEach es X.env := by rfl) : PA X (e :: es) (tA (dCons de da)) := by
  refine pa_imp (pa_cons ha hr hs) fun σ H Q ⟨g, F, ρ, Qd, k, h, c⟩ => ?_
  refine ⟨g, F, ρ, _, k, h, fun F1 H1 ρ1 v d k1 e1 r1 h1 => ⟨g, F1, ρ1, _, k1, h1, fun F2 H2 ρ2 vs ds k2 e2 r2 h2 => ?_⟩⟩
  exact c F2 H2 ρ2 (v :: vs) (d :: ds) k2 (e1.trans e2) (.cons (r1.mono e2) r2) h2
def dTup (da : DTA) : DTE := fun ρ Q => da ρ fun ds ρ' => ds.length ≤ sizeLine ∧ Q (.tup ds) ρ'
theorem de_tup {es : List Expr} {x1} {da : DTA} (h : PA X es (tA da)) : PE X (.Tuple es x1 pos) (tE (dTup da)) := by
  refine pe_imp (pe_tup h) fun σ H Q ⟨g, F, ρ, Qd, k, h, c⟩ => ?_
  refine ⟨g, F, ρ, _, k, h, fun F1 H1 ρ1 vs ds k1 e1 r1 ⟨z, h1⟩ => ⟨by rw [r1.length]; exact z, fun p hp => ?_⟩⟩
  have G := Grow.alloc (o := .tup vs) k1.ex hp
  exact c _ _ ρ1 _ (.tup ds) (k1.grow G) (e1.trans G.exF) (.tup upd_same (r1.mono G.exF) z) h1
def dLst (da : DTA) : DTX := fun ρ Q => da ρ fun ds ρ' => ds.length ≤ sizeLine ∧ Q (.ow (.lst ds)) ρ'
/-- a new object of one's own -/
theorem EOk.newOw {g : Gd} {F H : Hp} {σ : L2.St} {ρ : Env} (k : EOk g F σ H ρ) {p : Addr} {o : HO} {d : D} (hp : H p = none) (own : Own F (upd H p o) p d) :
    EOk g F σ (upd H p o) ρ ∧ Tmp g F σ (upd H p o) ρ (.ref p) (.ow d) := by
  have G := Grow.laid (o := o) k.ex hp
  refine ⟨k.grow G, p, rfl, own, k.h0 hp, fun i c hc ho z => ?_, ?_⟩
  · have q := k.cell i _ c z hc
    cases c with
    | un => cases ho
    | fz _ => cases ho
    | ow d => obtain ⟨b, e, r, _⟩ := q; cases e; obtain ⟨u, hu⟩ := r.there; rw [hp] at hu; cases hu
    | io d => obtain ⟨b, e, r, _⟩ := q; cases e; obtain ⟨u, hu⟩ := r.there; rw [hp] at hu; cases hu
  · cases q : g.pr p with
    | none => rfl
    | some u => have := (k.prot p u q).1; rw [hp] at this; cases this
theorem dx_lst {es : List Expr} {da : DTA} (h : PA X es (tA da)) : PE X (.List es pos) (tX (dLst da)) := by
  refine pe_imp (pe_lst h) fun σ H Q ⟨g, F, ρ, Qd, k, h, c⟩ => ?_
  refine ⟨g, F, ρ, _, k, h, fun F1 H1 ρ1 vs ds k1 e1 r1 ⟨z, h1⟩ => ⟨by rw [r1.length]; exact z, fun p hp => ?_⟩⟩
  obtain ⟨k2, t⟩ := k1.newOw (o := .lst vs) (d := .lst ds) hp ⟨k1.ex.none hp, ⟨vs, upd_same, r1⟩, z⟩
  exact c _ _ ρ1 _ _ k2 e1 t h1

/-! ### operators by data -/
abbrev DOp := D → D → (D → Prop) → Prop
abbrev DUn := D → (D → Prop) → Prop
def rO (o : DOp) : R2 := fun x y H Q => ∃ F d e Qd, Ex F H ∧ Rep F x d ∧ Rep F y e ∧ o d e Qd ∧ ∀ F' H' v r, Grow F H F' H' → Rep F' v r → Qd r → Q v H'
def rU (o : DUn) : V → Hp → VK → Prop := fun x H Q => ∃ F d Qd, Ex F H ∧ Rep F x d ∧ o d Qd ∧ ∀ F' H' v r, Grow F H F' H' → Rep F' v r → Qd r → Q v H'
def dBin (o : DOp) (da db : DTE) : DTE := fun ρ Q => da ρ fun d ρ1 => db ρ1 fun e ρ2 => o d e fun r => Q r ρ2
def dUn (o : DUn) (da : DTE) : DTE := fun ρ Q => da ρ fun d ρ1 => o d fun r => Q r ρ1
theorem t_bin {o : DOp} {da db : DTE} {σ : L2.St} {H : Hp} {Q : VK} (h : tE (dBin o da db) σ H Q) : tOp (rO o) (tE da) (tE db) σ H Q := by
  obtain ⟨g, F, ρ, Qd, k, h, c⟩ := h
  refine ⟨g, F, ρ, _, k, h, fun F1 H1 ρ1 x d k1 e1 r1 h1 => ⟨g, F1, ρ1, _, k1, h1, fun F2 H2 ρ2 y e k2 e2 r2 h2 => ?_⟩⟩
  exact ⟨F2, d, e, _, k2.ex, r1.mono e2, r2, h2, fun F3 H3 v r G r3 q => c F3 H3 ρ2 v r (k2.grow G) ((e1.trans e2).trans G.exF) r3 q⟩
theorem t_un {o : DUn} {da : DTE} {σ : L2.St} {H : Hp} {Q : VK} (h : tE (dUn o da) σ H Q) : tUn (rU o) (tE da) σ H Q := by
  obtain ⟨g, F, ρ, Qd, k, h, c⟩ := h
  refine ⟨g, F, ρ, _, k, h, fun F1 H1 ρ1 x d k1 e1 r1 h1 => ?_⟩
  exact ⟨F1, d, _, k1.ex, r1, h1, fun F3 H3 v r G r3 q => c F3 H3 ρ1 v r (k1.grow G) (e1.trans G.exF) r3 q⟩
section
variable {da db dc : DTE}
theorem de_op {op : Operator} {o : DOp} (ho : OpR X (binaryOp op) (rO o)) (ha : PE X a (tE da)) (hb : PE X b (tE db)) : PE X (.BinOp a op b pos) (tE (dBin o da db)) :=
  pe_imp (pe_op ho ha hb) fun _ _ _ h => t_bin h
theorem de_un {op : UnaryOp} {o : DUn} (ho : UnR X (unaryOp op) (rU o)) (ha : PE X a (tE da)) : PE X (.UnaryOp op a pos) (tE (dUn o da)) :=
  pe_imp (pe_un ho ha) fun _ _ _ h => t_un h
theorem de_cmp {op : CmpOp} {o : DOp} (ho : OpR X (compareOp op) (rO o)) (ha : PE X a (tE da)) (hb : PE X b (tE db)) (hm : behindInMarks op b = false) : PE X (.Compare a [op] [b] pos) (tE (dBin o da db)) :=
  pe_imp (pe_cmpR ho ha hb hm) fun _ _ _ h => t_bin h
end
def oI (C : Int → Int → Prop) (g : Int → Int → D) : DOp := fun d e K => match d, e with
  | .int i, .int j => C i j ∧ K (g i j)
  | _, _ => False
theorem or_I {f : Value → Value → Sem Value} {C : Int → Int → Prop} {g : Int → Int → Int} (h : OpR X f (rI C fun i j => .int (g i j))) : OpR X f (rO (oI C fun i j => .int (g i j))) := by
  refine opr_imp h fun x y H Q ⟨F, d, e, Qd, ex, r1, r2, o, c⟩ => ?_
  cases d <;> cases e <;> first | exact o.elim | skip
  obtain ⟨hc, o⟩ := o
  cases r1
  cases r2
  exact ⟨_, _, rfl, rfl, hc, c F H _ _ (Grow.refl ex) (.int _) o⟩
theorem or_I0 {f : Value → Value → Sem Value} {g : Int → Int → Int} (h : OpR X f (rI0 fun i j => .int (g i j))) : OpR X f (rO (oI (fun _ _ => True) fun i j => .int (g i j))) := by
  refine opr_imp h fun x y H Q ⟨F, d, e, Qd, ex, r1, r2, o, c⟩ => ?_
  cases d <;> cases e <;> first | exact o.elim | skip
  obtain ⟨hc, o⟩ := o
  cases r1
  cases r2
  exact ⟨_, _, rfl, rfl, c F H _ _ (Grow.refl ex) (.int _) o⟩
theorem or_B0 {f : Value → Value → Sem Value} {g : Int → Int → Bool} (h : OpR X f (rI0 fun i j => .bl (g i j))) : OpR X f (rO (oI (fun _ _ => True) fun i j => .bl (g i j))) := by
  refine opr_imp h fun x y H Q ⟨F, d, e, Qd, ex, r1, r2, o, c⟩ => ?_
  cases d <;> cases e <;> first | exact o.elim | skip
  obtain ⟨hc, o⟩ := o
  cases r1
  cases r2
  exact ⟨_, _, rfl, rfl, c F H _ _ (Grow.refl ex) (.bl _) o⟩
def T2 : Int → Int → Prop := fun _ _ => True
def oSub : DOp := oI (fun _ _ => True) fun i j => .int (i - j)
theorem or_sub : OpR X (binaryOp .Sub) (rO oSub) := or_I0 op_sub
def oMulI : DOp := oI CMul fun i j => .int (i * j)
theorem or_mulI : OpR X (binaryOp .Mult) (rO oMulI) := or_I op_mul
def oFdiv : DOp := oI CDiv fun i j => .int (i / j)
theorem or_fdiv : OpR X (binaryOp .FloorDiv) (rO oFdiv) := or_I op_fdiv
def oMod : DOp := oI (fun _ j => 0 < j) fun i j => .int (i % j)
theorem or_mod : OpR X (binaryOp .Mod) (rO oMod) := or_I op_mod
def oPow : DOp := oI CPow fun i j => .int (i ^ j.toNat)
theorem or_pow : OpR X (binaryOp .Pow) (rO oPow) := or_I op_pow
def oShr : DOp := oI (fun _ j => 0 ≤ j) fun i j => .int (i / 2 ^ j.toNat)
theorem or_shr : OpR X (binaryOp .RShift) (rO oShr) := or_I op_shr
def oXor : DOp := oI (fun _ _ => True) fun i j => .int (Builtin.bitXor i j)
theorem or_xor : OpR X (binaryOp .BitXor) (rO oXor) := or_I0 op_xor
def oNeg : DUn := fun d K => match d with
  | .int i => K (.int (-i))
  | _ => False
theorem un_neg' : UnR X (unaryOp .USub) (rU oNeg) := by
  intro pins s σ H x v Q I rx ⟨F, d, Qd, ex, r1, o, c⟩
  cases d <;> first | exact o.elim | skip
  cases r1
  exact un_neg pins s σ H _ v Q I rx ⟨_, rfl, c F H _ _ (Grow.refl ex) (.int _) o⟩
/-- x + y -/
def oAdd : DOp := fun d e K => match d, e with
  | .int i, .int j => K (.int (i + j))
  | .str x, .str y => x.length + y.length ≤ sizeLine ∧ K (.str (x ++ y))
  | .lst x, .lst y => x.length + y.length ≤ sizeLine ∧ K (.lst (x ++ y))
  | .tup x, .tup y => x.length + y.length ≤ sizeLine ∧ K (.tup (x ++ y))
  | _, _ => False
theorem S_append (x y : List Nat) : S x ++ S y = S (x ++ y) := by
  show (⟨x.toArray ++ y.toArray⟩ : Str) = ⟨(x ++ y).toArray⟩
  simp
theorem or_add : OpR X (binaryOp .Add) (rO oAdd) := by
  intro pins s σ H x y v u Q I rx ry ⟨F, d, e, Qd, ex, r1, r2, o, c⟩
  cases d <;> cases e <;> first | exact o.elim | skip
  · cases r1; cases r2
    exact op_add pins s σ H _ _ v u Q I rx ry ⟨_, _, rfl, rfl, c F H _ _ (Grow.refl ex) (.int _) o⟩
  · obtain ⟨z, o⟩ := o
    cases r1; cases r2
    refine op_add_str pins s σ H _ _ v u Q I rx ry ⟨_, _, rfl, rfl, z, ?_⟩
    rw [S_append]
    exact c F H _ _ (Grow.refl ex) (.str (by rw [List.length_append]; exact z)) o
  · obtain ⟨z, o⟩ := o
    cases r1 with
    | @lst a1 vs1 _ h1 q1 z1 =>
      cases r2 with
      | @lst a2 vs2 _ h2 q2 z2 =>
        refine op_cat pins s σ H _ _ v u Q I rx ry ⟨_, _, _, _, rfl, rfl, ex _ _ h1, ex _ _ h2, by rw [q1.length, q2.length]; exact z, fun p hp => ?_⟩
        have G := Grow.alloc (o := .lst (vs1 ++ vs2)) ex hp
        exact c _ _ _ _ G (.lst upd_same ((q1.append q2).mono G.exF) (by rw [List.length_append]; exact z)) o
  · obtain ⟨z, o⟩ := o
    cases r1 with
    | @tup a1 vs1 _ h1 q1 z1 =>
      cases r2 with
      | @tup a2 vs2 _ h2 q2 z2 =>
        refine op_catA pins s σ H _ _ v u Q I rx ry ⟨_, _, _, _, rfl, rfl, .of (ex _ _ h1), .of (ex _ _ h2), by rw [q1.length, q2.length]; exact z, fun hn => ?_, fun hn hm => ?_, fun hn hm p hp => ?_⟩
        · subst hn
          cases q1
          exact c F H _ _ (Grow.refl ex) (.tup h2 q2 z2) o
        · subst hm
          cases q2
          rw [List.append_nil] at o
          exact c F H _ _ (Grow.refl ex) (.tup h1 q1 z1) o
        · have G := Grow.alloc (o := .tup (vs1 ++ vs2)) ex hp
          exact c _ _ _ _ G (.tup upd_same ((q1.append q2).mono G.exF) (by rw [List.length_append]; exact z)) o
/-! comparisons of numbers and texts -/
def ltL (x y : List Nat) : Bool := decide (x < y)
def oLt : DOp := fun d e K => match d, e with
  | .int i, .int j => K (.bl (decide (i < j)))
  | .str x, .str y => K (.bl (ltL x y))
  | _, _ => False
def oLe : DOp := fun d e K => match d, e with
  | .int i, .int j => K (.bl (decide (i ≤ j)))
  | .str x, .str y => K (.bl (!ltL y x))
  | _, _ => False
def oGt : DOp := fun d e K => match d, e with
  | .int i, .int j => K (.bl (decide (j < i)))
  | .str x, .str y => K (.bl (ltL y x))
  | _, _ => False
def oGe : DOp := fun d e K => match d, e with
  | .int i, .int j => K (.bl (decide (j ≤ i)))
  | .str x, .str y => K (.bl (!ltL x y))
  | _, _ => False
theorem or_lt : OpR X (compareOp .Lt) (rO oLt) := by
  intro pins s σ H x y v u Q I rx ry ⟨F, d, e, Qd, ex, r1, r2, o, c⟩
  cases d <;> cases e <;> first | exact o.elim | skip
  · cases r1; cases r2
    exact op_lt pins s σ H _ _ v u Q I rx ry ⟨_, _, rfl, rfl, c F H _ _ (Grow.refl ex) (.bl _) o⟩
  · cases r1; cases r2
    exact op_lt_str pins s σ H _ _ v u Q I rx ry ⟨_, _, rfl, rfl, c F H _ _ (Grow.refl ex) (.bl _) o⟩
theorem or_le : OpR X (compareOp .LtE) (rO oLe) := by
  intro pins s σ H x y v u Q I rx ry ⟨F, d, e, Qd, ex, r1, r2, o, c⟩
  cases d <;> cases e <;> first | exact o.elim | skip
  · cases r1; cases r2
    exact op_le pins s σ H _ _ v u Q I rx ry ⟨_, _, rfl, rfl, c F H _ _ (Grow.refl ex) (.bl _) o⟩
  · cases r1; cases r2
    exact op_le_str pins s σ H _ _ v u Q I rx ry ⟨_, _, rfl, rfl, c F H _ _ (Grow.refl ex) (.bl _) o⟩
theorem or_gt : OpR X (compareOp .Gt) (rO oGt) := by
  intro pins s σ H x y v u Q I rx ry ⟨F, d, e, Qd, ex, r1, r2, o, c⟩
  cases d <;> cases e <;> first | exact o.elim | skip
  · cases r1; cases r2
    exact op_gt pins s σ H _ _ v u Q I rx ry ⟨_, _, rfl, rfl, c F H _ _ (Grow.refl ex) (.bl _) o⟩
  · cases r1; cases r2
    exact op_gt_str pins s σ H _ _ v u Q I rx ry ⟨_, _, rfl, rfl, c F H _ _ (Grow.refl ex) (.bl _) o⟩
theorem or_ge : OpR X (compareOp .GtE) (rO oGe) := by
  intro pins s σ H x y v u Q I rx ry ⟨F, d, e, Qd, ex, r1, r2, o, c⟩
  cases d <;> cases e <;> first | exact o.elim | skip
  · cases r1; cases r2
    exact op_ge pins s σ H _ _ v u Q I rx ry ⟨_, _, rfl, rfl, c F H _ _ (Grow.refl ex) (.bl _) o⟩
  · cases r1; cases r2
    exact op_ge_str pins s σ H _ _ v u Q I rx ry ⟨_, _, rfl, rfl, c F H _ _ (Grow.refl ex) (.bl _) o⟩
end
end DL

namespace DL
open PySem PySem.Spec PyProof.Rows L2
section
variable {X : Cx} {e a b c : Expr} {pos : Pos} {da db dc : DTE} {dt du : DTT}

/-! ### tests -/
def dTest (de : DTE) : DTT := fun ρ Q => de ρ fun d ρ' => match d with
  | .bl b => Q b ρ'
  | _ => False
theorem t_test {de : DTE} {σ : L2.St} {H : Hp} {Q : Bool → Hp → Prop} (h : tT (dTest de) σ H Q) : tTest (tE de) σ H Q := by
  obtain ⟨g, F, ρ, Qd, k, h, c⟩ := h
  refine ⟨g, F, ρ, _, k, h, fun F1 H1 ρ1 v d k1 e1 r1 h1 => ?_⟩
  cases d <;> first | exact h1.elim | skip
  cases r1
  exact ⟨_, rfl, c F1 H1 ρ1 _ k1 e1 h1⟩
theorem dt_val (h : PE X e (tE da)) (he : ∀ whole, isTrue e X.env whole = (do let v ← whole; standAt e.pos; holding [v] (truthy v)) := by intro _; rfl) : PT X e (tT (dTest da)) :=
  pt_imp (pt_val h he) fun _ _ _ q => t_test q
theorem dt_cmp {op : CmpOp} {o : DOp} (ho : OpR X (compareOp op) (rO o)) (ha : PE X a (tE da)) (hb : PE X b (tE db)) (hm : behindInMarks op b = false) : PT X (.Compare a [op] [b] pos) (tT (dTest (dBin o da db))) := by
  refine pt_imp (pt_cmpR ho ha hb hm) fun σ H Q q => ?_
  obtain ⟨g, F, ρ, Qd, k, h, c⟩ := q
  refine t_bin ⟨g, F, ρ, _, k, h, fun F1 H1 ρ1 v d k1 e1 r1 h1 => ?_⟩
  cases d <;> first | exact h1.elim | skip
  cases r1
  exact ⟨_, rfl, c F1 H1 ρ1 _ k1 e1 h1⟩
/-- a < b < c -/
def dChain (o o' : DOp) (da db dc : DTE) : DTE := fun ρ Q => da ρ fun d ρ1 => db ρ1 fun e ρ2 => o d e fun r => match r with
  | .bl true => dc ρ2 fun f ρ3 => o' e f fun q => Q q ρ3
  | .bl false => Q (.bl false) ρ2
  | _ => False
theorem t_chain {o o' : DOp} {σ : L2.St} {H : Hp} {Q : VK} (h : tE (dChain o o' da db dc) σ H Q) : tChain (rO o) (rO o') (tE da) (tE db) (tE dc) σ H Q := by
  obtain ⟨g, F, ρ, Qd, k, h, c⟩ := h
  refine ⟨g, F, ρ, _, k, h, fun F1 H1 ρ1 x d k1 e1 r1 h1 => ⟨g, F1, ρ1, _, k1, h1, fun F2 H2 ρ2 y e k2 e2 r2 h2 => ?_⟩⟩
  refine ⟨F2, d, e, _, k2.ex, r1.mono e2, r2, h2, fun F3 H3 v r G r3 q => ?_⟩
  cases r <;> first | exact q.elim | skip
  rename_i bb
  cases r3
  refine ⟨bb, rfl, ?_⟩
  cases bb with
  | false =>
    rw [if_neg Bool.false_ne_true]
    exact c F3 H3 ρ2 _ _ (k2.grow G) ((e1.trans e2).trans G.exF) (.bl _) q
  | true =>
    rw [if_pos rfl]
    refine ⟨g, F3, ρ2, _, k2.grow G, q, fun F4 H4 ρ3 z f k4 e4 r4 h4 => ?_⟩
    exact ⟨F4, e, f, _, k4.ex, (r2.mono G.exF).mono e4, r4, h4, fun F5 H5 v5 r5 G5 rr q5 => c F5 H5 ρ3 _ _ (k4.grow G5) ((((e1.trans e2).trans G.exF).trans e4).trans G5.exF) rr q5⟩
theorem de_chain {op op' : CmpOp} {o o' : DOp} (ho : OpR X (compareOp op) (rO o)) (ho' : OpR X (compareOp op') (rO o')) (ha : PE X a (tE da)) (hb : PE X b (tE db)) (hc : PE X c (tE dc)) (h : ∀ {t t' tc : TE} {r r' : R2}, PE X a t → PE X b t' → PE X c tc → OpR X (compareOp op) r → OpR X (compareOp op') r' → PE X (.Compare a [op, op'] [b, c] pos) (tChain r r' t t' tc)) :
    PE X (.Compare a [op, op'] [b, c] pos) (tE (dChain o o' da db dc)) := pe_imp (h ha hb hc ho ho') fun _ _ _ q => t_chain q
theorem dt_chain {op op' : CmpOp} {o o' : DOp} (ho : OpR X (compareOp op) (rO o)) (ho' : OpR X (compareOp op') (rO o')) (ha : PE X a (tE da)) (hb : PE X b (tE db)) (hc : PE X c (tE dc)) (h : ∀ {t t' tc : TE} {r r' : R2}, PE X a t → PE X b t' → PE X c tc → OpR X (compareOp op) r → OpR X (compareOp op') r' → PT X (.Compare a [op, op'] [b, c] pos) (tTest (tChain r r' t t' tc))) :
    PT X (.Compare a [op, op'] [b, c] pos) (tT (dTest (dChain o o' da db dc))) := by
  refine pt_imp (h ha hb hc ho ho') fun σ H Q q => ?_
  obtain ⟨g, F, ρ, Qd, k, h, c⟩ := q
  refine t_chain ⟨g, F, ρ, _, k, h, fun F1 H1 ρ1 v d k1 e1 r1 h1 => ?_⟩
  cases d <;> first | exact h1.elim | skip
  cases r1
  exact ⟨_, rfl, c F1 H1 ρ1 _ k1 e1 h1⟩
def dAnd (dt du : DTT) : DTT := fun ρ Q => dt ρ fun b ρ' => if b = true then du ρ' Q else Q false ρ'
def dOr (dt du : DTT) : DTT := fun ρ Q => dt ρ fun b ρ' => if b = true then Q true ρ' else du ρ' Q
def dNot (dt : DTT) : DTT := fun ρ Q => dt ρ fun b ρ' => Q (!b) ρ'
variable {rest : List Expr}
theorem dw_and1 (ha : PT X a (tT dt)) : PW X (.BoolOp .And [a] pos) (tT dt) := pw_and1 ha
theorem dw_or1 (ha : PT X a (tT dt)) : PW X (.BoolOp .Or [a] pos) (tT dt) := pw_or1 ha
theorem dw_and (ha : PT X a (tT dt)) (hb : PW X (.BoolOp .And (b :: rest) pos) (tT du)) : PW X (.BoolOp .And (a :: b :: rest) pos) (tT (dAnd dt du)) := by
  refine pw_imp (pw_and ha hb) fun σ H Q ⟨g, F, ρ, Qd, k, h, c⟩ => ?_
  refine ⟨g, F, ρ, _, k, h, fun F1 H1 ρ1 b k1 e1 h1 => ?_⟩
  cases b with
  | true =>
    rw [if_pos rfl] at h1 ⊢
    exact ⟨g, F1, ρ1, Qd, k1, h1, fun F2 H2 ρ2 b k2 e2 q => c F2 H2 ρ2 b k2 (e1.trans e2) q⟩
  | false =>
    rw [if_neg Bool.false_ne_true] at h1 ⊢
    exact c F1 H1 ρ1 _ k1 e1 h1
theorem dw_or (ha : PT X a (tT dt)) (hb : PW X (.BoolOp .Or (b :: rest) pos) (tT du)) : PW X (.BoolOp .Or (a :: b :: rest) pos) (tT (dOr dt du)) := by
  refine pw_imp (pw_or ha hb) fun σ H Q ⟨g, F, ρ, Qd, k, h, c⟩ => ?_
  refine ⟨g, F, ρ, _, k, h, fun F1 H1 ρ1 b k1 e1 h1 => ?_⟩
  cases b with
  | true =>
    rw [if_pos rfl] at h1 ⊢
    exact c F1 H1 ρ1 _ k1 e1 h1
  | false =>
    rw [if_neg Bool.false_ne_true] at h1 ⊢
    exact ⟨g, F1, ρ1, Qd, k1, h1, fun F2 H2 ρ2 b k2 e2 q => c F2 H2 ρ2 b k2 (e1.trans e2) q⟩
theorem dt_not (ha : PT X a (tT dt)) : PT X (.UnaryOp .Not a pos) (tT (dNot dt)) := by
  refine pt_imp (pt_not ha) fun σ H Q ⟨g, F, ρ, Qd, k, h, c⟩ => ?_
  exact ⟨g, F, ρ, _, k, h, fun F1 H1 ρ1 b k1 e1 h1 => c F1 H1 ρ1 _ k1 e1 h1⟩
/-- .. as values: all but the last a flag -/
def dAndV (da db : DTE) : DTE := fun ρ Q => da ρ fun d ρ' => match d with
  | .bl true => db ρ' Q
  | .bl false => Q (.bl false) ρ'
  | _ => False
def dOrV (da db : DTE) : DTE := fun ρ Q => da ρ fun d ρ' => match d with
  | .bl true => Q (.bl true) ρ'
  | .bl false => db ρ' Q
  | _ => False
def dNotV (da : DTE) : DTE := fun ρ Q => da ρ fun d ρ' => match d with
  | .bl b => Q (.bl (!b)) ρ'
  | _ => False
theorem de_and (ha : PE X a (tE da)) (hb : PE X (.BoolOp .And (b :: rest) pos) (tE db)) : PE X (.BoolOp .And (a :: b :: rest) pos) (tE (dAndV da db)) := by
  refine pe_imp (pe_and ha hb) fun σ H Q ⟨g, F, ρ, Qd, k, h, c⟩ => ?_
  refine ⟨g, F, ρ, _, k, h, fun F1 H1 ρ1 v d k1 e1 r1 h1 => ?_⟩
  cases d <;> first | exact h1.elim | skip
  rename_i bb
  cases r1
  refine ⟨bb, rfl, ?_⟩
  cases bb with
  | true =>
    rw [if_pos rfl]
    exact ⟨g, F1, ρ1, Qd, k1, h1, fun F2 H2 ρ2 v d k2 e2 r q => c F2 H2 ρ2 v d k2 (e1.trans e2) r q⟩
  | false =>
    rw [if_neg Bool.false_ne_true]
    exact c F1 H1 ρ1 _ _ k1 e1 (.bl _) h1
theorem de_or (ha : PE X a (tE da)) (hb : PE X (.BoolOp .Or (b :: rest) pos) (tE db)) : PE X (.BoolOp .Or (a :: b :: rest) pos) (tE (dOrV da db)) := by
  refine pe_imp (pe_or ha hb) fun σ H Q ⟨g, F, ρ, Qd, k, h, c⟩ => ?_
  refine ⟨g, F, ρ, _, k, h, fun F1 H1 ρ1 v d k1 e1 r1 h1 => ?_⟩
  cases d <;> first | exact h1.elim | skip
  rename_i bb
  cases r1
  refine ⟨bb, rfl, ?_⟩
  cases bb with
  | true =>
    rw [if_pos rfl]
    exact c F1 H1 ρ1 _ _ k1 e1 (.bl _) h1
  | false =>
    rw [if_neg Bool.false_ne_true]
    exact ⟨g, F1, ρ1, Qd, k1, h1, fun F2 H2 ρ2 v d k2 e2 r q => c F2 H2 ρ2 v d k2 (e1.trans e2) r q⟩
theorem de_one {op} (h : PE X a (tE da)) : PE X (.BoolOp op [a] pos) (tE da) := pe_one h
theorem de_not (ha : PE X a (tE da)) : PE X (.UnaryOp .Not a pos) (tE (dNotV da)) := by
  refine pe_imp (pe_not ha) fun σ H Q ⟨g, F, ρ, Qd, k, h, c⟩ => ?_
  refine ⟨g, F, ρ, _, k, h, fun F1 H1 ρ1 v d k1 e1 r1 h1 => ?_⟩
  cases d <;> first | exact h1.elim | skip
  cases r1
  exact ⟨_, rfl, c F1 H1 ρ1 _ _ k1 e1 (.bl _) h1⟩
def dIfE (dt : DTT) (da db : DTX) : DTX := fun ρ Q => dt ρ fun b ρ' => if b = true then da ρ' Q else db ρ' Q
theorem dx_ifE {da db : DTX} (hc : PT X c (tT dt)) (ha : PE X a (tX da)) (hb : PE X b (tX db)) : PE X (.IfExp c a b pos) (tX (dIfE dt da db)) := by
  refine pe_imp (pe_ifExp hc ha hb) fun σ H Q ⟨g, F, ρ, Qd, k, h, c⟩ => ?_
  refine ⟨g, F, ρ, _, k, h, fun F1 H1 ρ1 b k1 e1 h1 => ?_⟩
  cases b with
  | true =>
    rw [if_pos rfl] at h1 ⊢
    exact ⟨g, F1, ρ1, Qd, k1, h1, fun F2 H2 ρ2 v d k2 e2 r q => c F2 H2 ρ2 v d k2 (e1.trans e2) r q⟩
  | false =>
    rw [if_neg Bool.false_ne_true] at h1 ⊢
    exact ⟨g, F1, ρ1, Qd, k1, h1, fun F2 H2 ρ2 v d k2 e2 r q => c F2 H2 ρ2 v d k2 (e1.trans e2) r q⟩
end

/-! ### statements -/
section
variable {X : Cx} {e a b c : Expr} {pos : Pos} {da db dc : DTE} {dt du : DTT} {ds dz : DTS} {st : Stmt} {rest : List Stmt}
def dNext : DTS := fun D ρ => D.nx ρ
def dSeq (t u : DTS) : DTS := fun D ρ => t { D with nx := u D } ρ
theorem dss_nil : PSs X [] (tS dNext) := pss_imp pss_nil fun D σ H ⟨g, F, ρ, Dd, k, h, s⟩ => s.nx F σ H ρ k (Ex.refl _) h
theorem dss_cons (h1 : PS X st (tS ds)) (h2 : PSs X rest (tS dz)) : PSs X (st :: rest) (tS (dSeq ds dz)) := by
  refine pss_imp (pss_cons h1 h2) fun D σ H ⟨g, F, ρ, Dd, k, h, s⟩ => ?_
  exact ⟨g, F, ρ, _, k, h, ⟨fun F' σ' H' ρ' k' e h' => ⟨g, F', ρ', Dd, k', h', s.mono e⟩, s.rt, s.bk, s.ct⟩⟩
theorem dss_one (h1 : PS X st (tS ds)) : PSs X [st] (tS ds) := pss_one h1
def dBreak : DTS := fun D ρ => D.bk ρ
def dCont : DTS := fun D ρ => D.ct ρ
theorem ds_pass : PS X (.Pass pos) (tS dNext) := ps_imp ps_pass fun D σ H ⟨g, F, ρ, Dd, k, h, s⟩ => s.nx F σ H ρ k (Ex.refl _) h
theorem ds_break : PS X (.Break pos) (tS dBreak) := ps_imp ps_break fun D σ H ⟨g, F, ρ, Dd, k, h, s⟩ => s.bk F σ H ρ k (Ex.refl _) h
theorem ds_cont : PS X (.Continue pos) (tS dCont) := ps_imp ps_continue fun D σ H ⟨g, F, ρ, Dd, k, h, s⟩ => s.ct F σ H ρ k (Ex.refl _) h
def dNever : DTS := fun _ _ => False
theorem ds_never : PS X st (tS dNever) := ps_imp ps_never fun D σ H ⟨g, F, ρ, Dd, k, h, s⟩ => h
def dRet (dx : DTX) : DTS := fun D ρ => dx ρ fun c ρ' => D.rt c ρ'
theorem ds_ret {dx : DTX} (h : PE X e (tX dx)) : PS X (.Return (some e) pos) (tS (dRet dx)) := by
  refine ps_imp (ps_ret h) fun D σ H ⟨g, F, ρ, Dd, k, h, s⟩ => ?_
  exact ⟨g, F, ρ, _, k, h, fun F' H' ρ' v c k' e t q => s.rt F' σ H' ρ' v c k' e t q⟩
def dRetN : DTS := fun D ρ => D.rt (.fz .non) ρ
theorem ds_retN : PS X (.Return none pos) (tS dRetN) := ps_imp ps_retN fun D σ H ⟨g, F, ρ, Dd, k, h, s⟩ => s.rt F σ H ρ V.non (.fz .non) k (Ex.refl _) (Rep.non (F := F)) h
def dDrop (de : DTE) : DTS := fun D ρ => de ρ fun _ ρ' => D.nx ρ'
theorem ds_expr (h : PE X e (tE da)) (hs : swapsWith e none pos.line X.env = pure false := by rfl) : PS X (.Expr e pos) (tS (dDrop da)) := by
  refine ps_imp (ps_expr h hs) fun D σ H ⟨g, F, ρ, Dd, k, h, s⟩ => ?_
  exact ⟨g, F, ρ, _, k, h, fun F' H' ρ' v c k' e t q => s.nx F' σ H' ρ' k' e q⟩
/-- x = e -/
def dSet (i : Nat) (dx : DTX) : DTS := fun D ρ => dx ρ fun c ρ' => D.nx (ρ'.set i c)
theorem t_set {i : Nat} {dx : DTX} {te : TE} (hi : ∀ σ H Q, tX dx σ H Q → te σ H Q) {D : Ends} {σ : L2.St} {H : Hp} (h : tS (dSet i dx) D σ H) : tAsg te (gName i) D σ H := by
  obtain ⟨g, F, ρ, Dd, k, h, s⟩ := h
  refine hi _ _ _ ⟨g, F, ρ, _, k, h, fun F' H' ρ' v c k' e t q => ?_⟩
  cases c with
  | un => exact t.elim
  | io d => exact t.elim
  | fz d => exact s.nx F' _ H' _ (k'.set t) e q
  | ow d => exact s.nx F' _ H' _ (k'.setOw t) e q
theorem ds_set {i : Nat} {x : Str} {dx : DTX} {pos' : Pos} (hN : X.N.Nodup) (he : PE X e (tX dx)) (hi : X.N[i]? = some x := by rfl) (hx : Loc X.env.scope x := by first | exact Or.inl rfl | exact Or.inr rfl) (hs : swapsWith e (some (.Name x pos')) pos.line X.env = pure false := by rfl)
    (hf : X.fn x = true ∨ X.env.scope.names.lookup x = some .local := by first | exact .inl rfl | exact .inr rfl | assumption) : PS X (.Assign [.Name x pos'] e pos) (tS (dSet i dx)) :=
  ps_imp (ps_set hN hi hx he hs hf) fun D σ H h => t_set (fun _ _ _ q => q) h
def dIf (dt : DTT) (ds dz : DTS) : DTS := fun D ρ => dt ρ fun b ρ' => if b = true then ds D ρ' else dz D ρ'
theorem ds_if {xs ys : List Stmt} (hc : PT X c (tT dt)) (ha : PSs X xs (tS ds)) (hb : PSs X ys (tS dz)) : PS X (.If c xs ys pos) (tS (dIf dt ds dz)) := by
  refine ps_imp (ps_if hc ha hb) fun D σ H ⟨g, F, ρ, Dd, k, h, s⟩ => ?_
  refine ⟨g, F, ρ, _, k, h, fun F1 H1 ρ1 b k1 e1 h1 => ?_⟩
  cases b with
  | true => rw [if_pos rfl] at h1 ⊢; exact ⟨g, F1, ρ1, Dd, k1, h1, s.mono e1⟩
  | false => rw [if_neg Bool.false_ne_true] at h1 ⊢; exact ⟨g, F1, ρ1, Dd, k1, h1, s.mono e1⟩
def dWhile (dt : DTT) (db : DTS) : DTS := fun D ρ => ∃ W : Nat → Env → Prop, (∃ m, W m ρ) ∧ ∀ m ρ, W m ρ → dt ρ fun b ρ1 => if b = true then
  db { nx := fun ρ' => ∃ m', m' < m ∧ W m' ρ', ct := fun ρ' => ∃ m', m' < m ∧ W m' ρ', bk := D.nx, rt := D.rt } ρ1 else D.nx ρ1
theorem ds_while {body : List Stmt} (hp : PassesOwn (model X.prog X.w) X.A X.env X.xe) (hc : PT X c (tT dt)) (hb : PSs X body (tS ds)) : PS X (.While c body [] pos) (tS (dWhile dt ds)) := by
  refine ps_imp (ps_while hp hc hb) fun D σ H ⟨g, F, ρ, Dd, k, ⟨W, ⟨m0, w0⟩, turn⟩, s⟩ => ?_
  refine ⟨fun m σ H => ∃ F' ρ', EOk g F' σ H ρ' ∧ Ex F F' ∧ W m ρ', ⟨m0, F, ρ, k, Ex.refl _, w0⟩, fun m σ1 H1 ⟨F1, ρ1, k1, e1, w1⟩ => ?_⟩
  refine ⟨g, F1, ρ1, _, k1, turn m ρ1 w1, fun F2 H2 ρ2 b k2 e2 h2 => ?_⟩
  cases b with
  | true =>
    rw [if_pos rfl] at h2 ⊢
    refine ⟨fun σ' H' => ∃ F' ρ', EOk g F' σ' H' ρ' ∧ Ex F F' ∧ ∃ m', m' < m ∧ W m' ρ', fun σ' H' ⟨F', ρ', k', e', m', hm, w'⟩ => ⟨m', hm, F', ρ', k', e', w'⟩, ?_⟩
    refine ⟨g, F2, ρ2, _, k2, h2, ⟨fun F' σ' H' ρ' k' e' q => ⟨F', ρ', k', (e1.trans e2).trans e', q⟩, fun F' σ' H' ρ' v c k' e' t q => s.rt F' σ' H' ρ' v c k' ((e1.trans e2).trans e') t q, fun F' σ' H' ρ' k' e' q => s.nx F' σ' H' ρ' k' ((e1.trans e2).trans e') q, fun F' σ' H' ρ' k' e' q => ⟨F', ρ', k', (e1.trans e2).trans e', q⟩⟩⟩
  | false =>
    rw [if_neg Bool.false_ne_true] at h2 ⊢
    exact s.nx F2 σ1 H2 ρ2 k2 (e1.trans e2) h2
/-- x op= e -/
def dAug (i : Nat) (o : DOp) (de : DTE) : DTS := fun D ρ => match ρ[i]? with
  | some (.fz d) => de ρ fun e ρ1 => o d e fun r => D.nx (ρ1.set i (.fz r))
  | _ => False
theorem ds_aug {i : Nat} {x : Str} {op : Operator} {o : DOp} {pos' : Pos} (hN : X.N.Nodup) (he : PE X e (tE da)) (ho : OpR X (inplaceOp op) (rO o)) (hi : X.N[i]? = some x := by rfl) (hx : Loc X.env.scope x := by first | exact Or.inl rfl | exact Or.inr rfl)
    (hf : X.fn x = true ∨ X.env.scope.names.lookup x = some .local := by first | exact .inl rfl | exact .inr rfl | assumption) : PS X (.AugAssign (.Name x pos') op e pos) (tS (dAug i o da)) := by
  refine ps_imp (ps_aug hN hi hx he ho hf) fun D σ H ⟨g, F, ρ, Dd, k, h, s⟩ => ?_
  unfold dAug at h
  split at h
  · rename_i d hd
    obtain ⟨v, hv, y, ey, r⟩ := k.slot hd
    subst ey
    refine ⟨y, hv, g, F, ρ, _, k, h, fun F1 H1 ρ1 z e k1 e1 r1 h1 => ?_⟩
    exact ⟨F1, d, e, _, k1.ex, r.mono e1, r1, h1, fun F3 H3 w r G r3 q => s.nx F3 _ H3 _ ((k1.grow G).set r3) (e1.trans G.exF) q⟩
  · exact h.elim
def oAug : DOp := fun d e K => match d, e with
  | .int i, .int j => K (.int (i + j))
  | .str x, .str y => x.length + y.length ≤ sizeLine ∧ K (.str (x ++ y))
  | _, _ => False
theorem ir_add : OpR X (inplaceOp .Add) (rO oAug) := by
  intro pins s σ H x y v u Q I rx ry ⟨F, d, e, Qd, ex, r1, r2, o, c⟩
  cases d <;> cases e <;> first | exact o.elim | skip
  · cases r1; cases r2
    exact iop_add pins s σ H _ _ v u Q I rx ry ⟨_, _, rfl, rfl, c F H _ _ (Grow.refl ex) (.int _) o⟩
  · obtain ⟨z, o⟩ := o
    cases r1; cases r2
    refine iop_add_str pins s σ H _ _ v u Q I rx ry ⟨_, _, rfl, rfl, z, ?_⟩
    rw [S_append]
    exact c F H _ _ (Grow.refl ex) (.str (by rw [List.length_append]; exact z)) o
theorem ir_sub : OpR X (inplaceOp .Sub) (rO oSub) := or_I0 iop_sub
end

/-! ### targets -/
abbrev DTG := D → Env → (Env → Prop) → Prop
abbrev DTGs := List D → Env → (Env → Prop) → Prop
def Agree (sl : List Nat) (σ σ' : L2.St) : Prop := σ'.length = σ.length ∧ ∀ j, j ∉ sl → σ'[j]? = σ[j]?
def tG (sl : List Nat) (dg : DTG) : TG := fun v σ H Q => ∃ g F ρ x Qd, EOk g F σ H ρ ∧ Rep F v x ∧ dg x ρ Qd ∧ ∀ F' σ' H' ρ', EOk g F' σ' H' ρ' → Ex F F' → Agree sl σ σ' → Qd ρ' → Q σ' H'
def tGs (sl : List Nat) (dg : DTGs) : TGs := fun v σ H Q => ∃ g F ρ x Qd, EOk g F σ H ρ ∧ Reps F v x ∧ dg x ρ Qd ∧ ∀ F' σ' H' ρ', EOk g F' σ' H' ρ' → Ex F F' → Agree sl σ σ' → Qd ρ' → Q σ' H'
section
variable {X : Cx} {pos : Pos} {tg e : Expr} {es : List Expr} {dg : DTG} {dgs : DTGs} {sl sl' : List Nat}
theorem pg_imp {t t' : TG} (h : PG X tg t) (i : ∀ v σ H Q, t' v σ H Q → t v σ H Q) : PG X tg t' := ⟨fun pins s σ H v u Q I r q => h.run pins s σ H v u Q I r (i v σ H Q q)⟩
theorem pgs_imp {t t' : TGs} (h : PGs X es t) (i : ∀ v σ H Q, t' v σ H Q → t v σ H Q) : PGs X es t' := ⟨fun pins s σ H v u Q I r q => h.run pins s σ H v u Q I r (i v σ H Q q)⟩
def dgName (i : Nat) : DTG := fun x ρ Q => Q (ρ.set i (.fz x))
theorem dg_name {i : Nat} {x : Str} (hN : X.N.Nodup) (hi : X.N[i]? = some x := by rfl) (hx : Loc X.env.scope x := by first | exact Or.inl rfl | exact Or.inr rfl) (hf : X.fn x = true ∨ X.env.scope.names.lookup x = some .local := by first | exact .inl rfl | exact .inr rfl | assumption) : PG X (.Name x pos) (tG [i] (dgName i)) := by
  refine pg_imp (pg_name hN hi hx hf) fun v σ H Q ⟨g, F, ρ, x, Qd, k, r, h, c⟩ => ?_
  refine c F _ H _ (k.set r) (Ex.refl _) ⟨List.length_set, fun j hj => ?_⟩ h
  rw [List.getElem?_set_ne (fun z => hj (by simp [z]))]
def dgNil : DTGs := fun xs ρ Q => match xs with
  | [] => Q ρ
  | _ => False
def dgCons (dg : DTG) (dgs : DTGs) : DTGs := fun xs ρ Q => match xs with
  | x :: r => dg x ρ fun ρ' => dgs r ρ' Q
  | [] => False
theorem dgs_nil : PGs X [] (tGs [] dgNil) := pgs_imp pgs_nil fun v σ H Q ⟨g, F, ρ, x, Qd, k, r, h, c⟩ => by
  cases r with
  | nil => exact ⟨rfl, c F σ H ρ k (Ex.refl _) ⟨rfl, fun _ _ => rfl⟩ h⟩
  | cons _ _ => exact h.elim
theorem dgs_cons (h1 : PG X e (tG sl dg)) (h2 : PGs X es (tGs sl' dgs)) (hs : (assignEach (e :: es) X.env).map (·.2) = assign e X.env :: (assignEach es X.env).map (·.2) := by rfl) : PGs X (e :: es) (tGs (sl ++ sl') (dgCons dg dgs)) := by
  refine pgs_imp (pgs_cons h1 h2 hs) fun v σ H Q ⟨g, F, ρ, x, Qd, k, r, h, c⟩ => ?_
  cases r with
  | nil => exact h.elim
  | cons r t =>
    refine ⟨_, _, rfl, g, F, ρ, _, _, k, r, h, fun F1 σ1 H1 ρ1 k1 e1 s1 h1 => ?_⟩
    refine ⟨g, F1, ρ1, _, _, k1, t.mono e1, h1, fun F2 σ2 H2 ρ2 k2 e2 s2 h2 => c F2 σ2 H2 ρ2 k2 (e1.trans e2) ⟨s2.1.trans s1.1, fun j hj => ?_⟩ h2⟩
    rw [s2.2 j (fun z => hj (List.mem_append_right _ z)), s1.2 j (fun z => hj (List.mem_append_left _ z))]
def dgTup (n : Nat) (dgs : DTGs) : DTG := fun x ρ Q => match x with
  | .tup xs => xs.length = n ∧ dgs xs ρ Q
  | _ => False
theorem dg_tup {k : Nat} {n : Nat} (hc : X.calm = true) (h : PGs X es (tGs sl dgs)) (hn : (assignEach es X.env).length = n := by rfl) (hst : (assignEach es X.env).findIdx? (·.1) = none := by rfl) : PG X (.Tuple es k pos) (tG sl (dgTup n dgs)) := by
  refine pg_imp (pg_tup hc h hn hst) fun v σ H Q ⟨g, F, ρ, x, Qd, k, r, h, c⟩ => ?_
  cases x <;> first | exact h.elim | skip
  obtain ⟨hl, h⟩ := h
  cases r with
  | tup h1 q1 z => exact ⟨_, _, rfl, .of (k.ex _ _ h1), by rw [q1.length]; exact hl, g, F, ρ, _, _, k, q1, h, c⟩
/-- target = e -/
def dAsg (de : DTE) (dg : DTG) : DTS := fun D ρ => de ρ fun d ρ' => dg d ρ' D.nx
theorem ds_asg {de : DTE} (he : PE X e (tE de)) (hg : PG X tg (tG sl dg)) (hs : swapsWithSole [tg] e pos.line X.env = pure false := by rfl) (hw : swappedStores [tg] e X.env = pure none := by rfl)
    (h1 : (assignEach [tg] X.env).map (·.2) = [assign tg X.env] := by rfl) : PS X (.Assign [tg] e pos) (tS (dAsg de dg)) := by
  refine ps_imp (ps_asg he hg hs hw h1) fun D σ H ⟨g, F, ρ, Dd, k, h, s⟩ => ?_
  refine ⟨g, F, ρ, _, k, h, fun F' H' ρ' v c k' e t q => ?_⟩
  exact ⟨g, F', ρ', _, _, k', t, q, fun F2 σ2 H2 ρ2 k2 e2 _ q2 => s.nx F2 σ2 H2 ρ2 k2 (e.trans e2) q2⟩
/-- x, y = a, b -/
def dPar (i j : Nat) (da : DTA) : DTS := fun D ρ => da ρ fun ds ρ' => match ds with
  | [d, e] => D.nx ((ρ'.set i (.fz d)).set j (.fz e))
  | _ => False
theorem ds_par {i j : Nat} {x y : Str} {a b : Expr} {da : DTA} {px py pt : Pos} {kt k2 pt2} (hc : X.calm = true) (hN : X.N.Nodup) (hi : X.N[i]? = some x) (hj : X.N[j]? = some y) (hij : i ≠ j)
    (hx : X.env.scope.names.lookup x = some .local) (hy : X.env.scope.names.lookup y = some .local) (ha : PA X [a, b] (tA da))
    (hw : swappedStores [.Tuple [.Name x px, .Name y py] kt pt] (.Tuple [a, b] k2 pt2) X.env = pure (some [x, y]) := by rfl)
    (hs : swapsWithSole [.Tuple [.Name x px, .Name y py] kt pt] (.Tuple [a, b] k2 pt2) pos.line X.env = pure false := by rfl) :
    PS X (.Assign [.Tuple [.Name x px, .Name y py] kt pt] (.Tuple [a, b] k2 pt2) pos) (tS (dPar i j da)) := by
  refine ps_imp (ps_par hc hN hi hj hij hx hy ha hw hs) fun D σ H ⟨g, F, ρ, Dd, k, h, s⟩ => ?_
  refine ⟨g, F, ρ, _, k, h, fun F' H' ρ' vs ds k' e t q => ?_⟩
  match ds, q, t with
  | [d, e1], q, t =>
    cases t with
    | cons r1 t =>
      cases t with
      | cons r2 t =>
        cases t
        exact ⟨_, _, rfl, s.nx F' _ H' _ ((k'.set r1).set r2) e q⟩
end

/-! ### what is walked -/
abbrev DTI := Env → (List D → Env → Prop) → Prop
def YOk (F H : Hp) (v : V) (x : D) (H2 : Hp) : Prop :=
  (H2 = H ∧ Rep F v x) ∨ ∃ T vs ds, H T = none ∧ H2 = upd H T (.tup vs) ∧ v = .ref T ∧ Reps F vs ds ∧ x = .tup ds ∧ ds.length ≤ sizeLine
structure ItD (F : Hp) (J : It) (items : List D) : Prop where
  z : items.length ≤ sizeLine
  go : ∀ i H x, Ex F H → items[i]? = some x → J.go i H ∧ ∀ v H2, J.yld i H v H2 → YOk F H v x H2
  stop : ∀ H, Ex F H → J.stop items.length H
def tI (di : DTI) : TI := fun σ H R => ∃ g F ρ Qd, EOk g F σ H ρ ∧ di ρ Qd ∧ ∀ F' H' ρ' J items, EOk g F' σ H' ρ' → Ex F F' → ItD F' J items → Qd items ρ' → R J H'
/-- a list, a tuple, a text -/
def itemsOf : D → Option (List D)
  | .lst xs => some xs
  | .tup xs => some xs
  | .str l => some (l.map fun c => .str [c])
  | _ => none
def dIt (de : DTE) : DTI := fun ρ Q => de ρ fun d ρ' => match itemsOf d with
  | some xs => Q xs ρ'
  | none => False
section
variable {X : Cx} {tg e a b c : Expr} {da db dc : DTE} {pos : Pos} {K : PySem.W.Frag}
theorem itd_list {F : Hp} {a : Addr} {vs : List V} {ds : List D} (h : F a = some (.lst vs)) (r : Reps F vs ds) (z : ds.length ≤ sizeLine) : ItD F (Itl K a) ds := by
  refine ⟨z, fun i H x ex hx => ?_, fun H ex => ⟨vs, .of (ex _ _ h), by rw [r.length]; exact Nat.le_refl _⟩⟩
  obtain ⟨v, hv, rv⟩ := r.get hx
  refine ⟨⟨vs, v, .of (ex _ _ h), hv⟩, fun w H2 ⟨e, q⟩ => .inl ⟨e, ?_⟩⟩
  have := q vs (.of (ex _ _ h))
  rw [hv] at this; cases this
  exact rv
theorem itd_tup {F : Hp} {a : Addr} {vs : List V} {ds : List D} (h : F a = some (.tup vs)) (r : Reps F vs ds) (z : ds.length ≤ sizeLine) : ItD F (Itt K a) ds := by
  refine ⟨z, fun i H x ex hx => ?_, fun H ex => ⟨vs, .of (ex _ _ h), by rw [r.length]; exact Nat.le_refl _⟩⟩
  obtain ⟨v, hv, rv⟩ := r.get hx
  refine ⟨⟨vs, v, .of (ex _ _ h), hv⟩, fun w H2 ⟨e, q⟩ => .inl ⟨e, ?_⟩⟩
  have := q vs (.of (ex _ _ h))
  rw [hv] at this; cases this
  exact rv
theorem itd_str {F : Hp} {l : List Nat} (z : l.length ≤ sizeLine) : ItD F (Its (S l)) (l.map fun c => .str [c]) := by
  refine ⟨by rw [List.length_map]; exact z, fun i H x ex hx => ?_, fun H ex => ?_⟩
  · rw [List.getElem?_map] at hx
    cases hl : l[i]? with
    | none => rw [hl] at hx; cases hx
    | some n =>
      rw [hl] at hx
      cases hx
      refine ⟨(by show i < l.toArray.size; rw [List.size_toArray]; exact (List.getElem?_eq_some_iff.mp hl).1), fun v H2 ⟨e1, c1, h1, h2⟩ => .inl ⟨e1, ?_⟩⟩
      have h1' : l.toArray[i]? = some c1 := h1
      rw [List.getElem?_toArray, hl] at h1'
      cases h1'
      subst h2
      exact .str (l := [n]) (by show 1 ≤ 16777216; decide)
  · show l.toArray.size ≤ _
    rw [List.size_toArray, List.length_map]
    exact Nat.le_refl _
theorem di_any (he : PE X e (tE da)) : PI X tg e (tI (dIt da)) := by
  refine ⟨fun pins s σ H R I h => ?_⟩
  obtain ⟨g, F, ρ, Qd, k, h, cn⟩ := h
  refine thn (he.run pins s σ H (fun v H' => ∃ F' ρ' d, EOk g F' σ H' ρ' ∧ Ex F F' ∧ Rep F' v d ∧ (match itemsOf d with | some xs => Qd xs ρ' | none => False)) I ⟨g, F, ρ, _, k, h, fun F' H' ρ' v d k' e r q => ⟨F', ρ', d, k', e, r, q⟩⟩) fun v s1 ⟨x, H1, I1, r1, F1, ρ1, d, k1, e1, rd, q⟩ => ?_
  cases d <;> first | exact q.elim | skip
  · rename_i l
    cases rd with
    | str z =>
      obtain ⟨t, rfl⟩ := r1
      have q2 := cn F1 H1 ρ1 (Its (S l)) _ k1 e1 (itd_str z) q
      cases ha : (S l).cps.all (· < 128)
      · exact wpAny_pyIter_wide ha (pi_one (tk := s1.toks) I1 _ (turn_str _ (S l) t "str_iterator" (.inr rfl)) ⟨_, Heap.get?_push_size _ rfl, rfl, rfl⟩ q2)
      · exact wpAny_pyIter_ascii ha (pi_one (tk := s1.toks) I1 _ (turn_str _ (S l) t "str_ascii_iterator" (.inl rfl)) ⟨_, Heap.get?_push_size _ rfl, rfl, rfl⟩ q2)
  · cases rd with
    | @lst a vs _ h1 r z =>
      cases r1
      have q2 := cn F1 H1 ρ1 (Itl X.K a) _ k1 e1 (itd_list h1 r z) q
      obtain ⟨its, rv, p, hz⟩ := I1.list (.of (k1.ex _ _ h1))
      exact wpAny_pyIter_list p.isList (pi_one (tk := s1.toks) I1 _ (turn_list a _) ⟨_, Heap.get?_push_size _ rfl, rfl, rfl⟩ q2)
  · cases rd with
    | @tup a vs _ h1 r z =>
      cases r1
      have q2 := cn F1 H1 ρ1 (Itt X.K a) _ k1 e1 (itd_tup h1 r z) q
      obtain ⟨its, rv, p, hz⟩ := I1.tuple (.of (k1.ex _ _ h1))
      exact wpAny_pyIter_tuple (show s1.heap.IsTuple a its.toArray from p) (pi_one (tk := s1.toks) I1 _ (turn_tuple a _) ⟨_, Heap.get?_push_size _ rfl, rfl, rfl⟩ q2)
theorem pi_imp {t t' : TI} (h : PI X tg e t) (i : ∀ σ H R, t' σ H R → t σ H R) : PI X tg e t' := ⟨fun pins s σ H R I q => h.run pins s σ H R I (i σ H R q)⟩
/-- lo, lo + 1, .., n of them -/
def rangeD (lo : Int) (n : Nat) : List D := (List.range n).map fun (k : Nat) => D.int (lo + ((k : Nat) : Int))
theorem rangeD_length (lo : Int) (n : Nat) : (rangeD lo n).length = n := by simp [rangeD]
theorem itd_range {F : Hp} {lo : Int} {n : Nat} (z : n ≤ sizeLine) : ItD F (Itr lo n) (rangeD lo n) := by
  refine ⟨by rw [rangeD_length]; exact z, fun i H x ex hx => ?_, fun H ex => ?_⟩
  · unfold rangeD at hx
    rw [List.getElem?_map] at hx
    cases hl : (List.range n)[i]? with
    | none => rw [hl] at hx; cases hx
    | some m =>
      rw [hl] at hx
      cases hx
      obtain ⟨h1, h2⟩ := List.getElem?_eq_some_iff.mp hl
      rw [List.getElem_range] at h2
      subst h2
      refine ⟨(by show i < n; simpa using h1), fun v H2 ⟨e1, e2⟩ => .inl ⟨e1, ?_⟩⟩
      subst e2
      exact .int _
  · show n ≤ _
    rw [rangeD_length]
    exact Nat.le_refl _
def dRng1 (da : DTA) : DTI := fun ρ Q => da ρ fun ds ρ' => match ds with
  | [.int j] => j ≤ 16777216 ∧ -(2 ^ 62) ≤ j ∧ Q (rangeD 0 j.toNat) ρ'
  | _ => False
def dRng2 (da : DTA) : DTI := fun ρ Q => da ρ fun ds ρ' => match ds with
  | [.int i, .int j] => (-(2 ^ 62) ≤ i ∧ i < 2 ^ 62 ∧ -(2 ^ 62) ≤ j ∧ j < 2 ^ 62) ∧ (j - i).toNat ≤ 16777216 ∧ Q (rangeD i (j - i).toNat) ρ'
  | _ => False
theorem di_range1 {da : DTA} {p : Pos} (hg : Gl X "range") (hm : X.mg "range" = none) (ha : PA X [a] (tA da)) (hs : starEach [a] X.env = [(false, eval a X.env)] := by rfl) : PI X tg (.Call (.Name "range" p) [a] [] pos) (tI (dRng1 da)) := by
  refine pi_imp (pi_range1 hg hm ha hs) fun σ H R ⟨g, F, ρ, Qd, k, h, c⟩ => ?_
  refine ⟨g, F, ρ, _, k, h, fun F1 H1 ρ1 vs ds k1 e1 r1 q => ?_⟩
  match ds, q, r1 with
  | [.int j], ⟨h1, h2, q⟩, r1 =>
    cases r1 with
    | cons r t =>
      cases t
      cases r
      exact ⟨j, rfl, h2, by omega, c F1 H1 ρ1 _ _ k1 e1 (itd_range (by show _ ≤ 16777216; omega)) q⟩
theorem di_range2 {da : DTA} {p : Pos} (hg : Gl X "range") (hm : X.mg "range" = none) (ha : PA X [a, b] (tA da)) (hs : starEach [a, b] X.env = [(false, eval a X.env), (false, eval b X.env)] := by rfl) (hs2 : starEach [b] X.env = [(false, eval b X.env)] := by rfl) :
    PI X tg (.Call (.Name "range" p) [a, b] [] pos) (tI (dRng2 da)) := by
  refine pi_imp (pi_range2 hg hm ha hs hs2) fun σ H R ⟨g, F, ρ, Qd, k, h, c⟩ => ?_
  refine ⟨g, F, ρ, _, k, h, fun F1 H1 ρ1 vs ds k1 e1 r1 q => ?_⟩
  match ds, q, r1 with
  | [.int i, .int j], ⟨h1, h2, q⟩, r1 =>
    cases r1 with
    | cons r t =>
      cases t with
      | cons r' t =>
        cases t
        cases r
        cases r'
        exact ⟨i, j, rfl, h1, c F1 H1 ρ1 _ _ k1 e1 (itd_range (by show _ ≤ 16777216; omega)) q⟩
end

/-! ### for -/
def forW (tg : DTG) (body : DTS) (D0 : DEnds) : List D → Env → Prop
  | [], ρ => D0.nx ρ
  | x :: xs, ρ => tg x ρ fun ρ2 => body { nx := forW tg body D0 xs, ct := forW tg body D0 xs, bk := D0.nx, rt := D0.rt } ρ2
def dFor (di : DTI) (tg : DTG) (body : DTS) : DTS := fun D0 ρ => di ρ fun items ρ1 => forW tg body D0 items ρ1
/-- what an iterator yields stands in a heap -/
theorem EOk.yield {g : Gd} {F H H2 : Hp} {σ : L2.St} {ρ : Env} {v : V} {x : D} (k : EOk g F σ H ρ) {F1 : Hp} (e : Ex F1 F) (y : YOk F1 H v x H2) : ∃ F2, EOk g F2 σ H2 ρ ∧ Ex F F2 ∧ Rep F2 v x := by
  rcases y with ⟨rfl, r⟩ | ⟨T, vs, ds, hT, rfl, rfl, r, rfl, z⟩
  · exact ⟨F, k, Ex.refl _, r.mono e⟩
  · have G := Grow.alloc (o := .tup vs) k.ex hT
    exact ⟨_, k.grow G, G.exF, .tup upd_same ((r.mono e).mono G.exF) z⟩
section
variable {X : Cx} {tg e iter : Expr} {di : DTI} {dg : DTG} {ds : DTS} {pos : Pos} {sl : List Nat} {body : List Stmt}
theorem drop_of {α : Type} {xs : List α} {i : Nat} (h : i < xs.length) : xs.drop i = xs[i] :: xs.drop (i + 1) := (List.getElem_cons_drop (h := h)).symm
theorem ds_for (hp : PassesOwn (model X.prog X.w) X.A X.env X.xe) (hc : X.calm = true) (hi : PI X tg iter (tI di)) (hg : PG X tg (tG sl dg)) (hb : PSs X body (tS ds))
    (hs : ∀ x, foldedSetIterable iter X.env x = pure x := by intro _; rfl) : PS X (.For tg iter body [] pos) (tS (dFor di dg ds)) := by
  refine ps_imp (ps_for hp hc hi hg hb hs) fun D σ H ⟨g, F, ρ, Dd, k, h, s⟩ => ?_
  refine ⟨g, F, ρ, _, k, h, fun F1 H1 ρ1 J items k1 e1 it h1 => ?_⟩
  refine ⟨fun i m σ H => ∃ F' ρ', m = items.length - i ∧ i ≤ items.length ∧ EOk g F' σ H ρ' ∧ Ex F1 F' ∧ forW dg ds Dd (items.drop i) ρ', ⟨items.length, F1, ρ1, by simp, Nat.zero_le _, k1, Ex.refl _, h1⟩, ?_⟩
  rintro i m σ2 H2 ⟨F2, ρ2, rfl, hi2, k2, e2, w2⟩
  by_cases hlt : i < items.length
  · right
    rw [drop_of hlt] at w2
    obtain ⟨go, yl⟩ := it.go i H2 items[i] (e2.trans k2.ex) (List.getElem?_eq_getElem hlt)
    refine ⟨go, fun σ' H' => ∃ F' ρ', EOk g F' σ' H' ρ' ∧ Ex F1 F' ∧ forW dg ds Dd (items.drop (i + 1)) ρ', fun σ' H' ⟨F', ρ', k', e', w'⟩ => ⟨items.length - (i + 1), by omega, F', ρ', rfl, hlt, k', e', w'⟩, fun v H3 hy => ?_⟩
    obtain ⟨F3, k3, e3, r3⟩ := k2.yield e2 (yl v H3 hy)
    have w2 : dg items[i] ρ2 fun ρ2 => ds { nx := forW dg ds Dd (items.drop (i + 1)), ct := forW dg ds Dd (items.drop (i + 1)), bk := Dd.nx, rt := Dd.rt } ρ2 := w2
    refine ⟨g, F3, ρ2, _, _, k3, r3, w2, fun F4 σ4 H4 ρ4 k4 e4 _ w4 => ?_⟩
    have e5 := (e2.trans e3).trans e4
    refine ⟨g, F4, ρ4, _, k4, w4, ⟨fun F' σ' H' ρ' k' e' q => ⟨F', ρ', k', e5.trans e', q⟩, fun F' σ' H' ρ' v c k' e' t q => s.rt F' σ' H' ρ' v c k' ((e1.trans e5).trans e') t q, fun F' σ' H' ρ' k' e' q => s.nx F' σ' H' ρ' k' ((e1.trans e5).trans e') q, fun F' σ' H' ρ' k' e' q => ⟨F', ρ', k', e5.trans e', q⟩⟩⟩
  · have ei : i = items.length := by omega
    subst ei
    left
    rw [List.drop_length] at w2
    exact ⟨it.stop H2 (e2.trans k2.ex), s.nx F2 σ2 H2 ρ2 k2 (e1.trans e2) w2⟩
end
end DL

namespace DL
open PySem PySem.Spec PyProof.Rows L2

/-! ### list comprehensions -/
def wipeE (ρ : Env) : List Nat → Env
  | [] => ρ
  | v :: vs => (wipeE ρ vs).set v .un
def restE (o ρ : Env) : List Nat → Env
  | [] => ρ
  | v :: vs => (restE o ρ vs).set v (o.getD v .un)
def lcW (tg : DTG) (tt : DTT) (te : DTE) (vs : List Nat) : List D → List D → Env → (List D → Env → Prop) → Prop
  | [], acc, ρ, K => K acc ρ
  | x :: xs, acc, ρ, K => tg x (wipeE ρ vs) fun ρ2 => tt ρ2 fun b ρ3 => if b = true then te ρ3 fun y ρ4 => lcW tg tt te vs xs (acc ++ [y]) ρ4 K else lcW tg tt te vs xs acc ρ3 K
def dLc (di : DTI) (tg : DTG) (tt : DTT) (te : DTE) (vs : List Nat) : DTX := fun ρ Q => di ρ fun items ρ1 => (vs.all fun v => !(ρ1.getD v .un).own) = true ∧ lcW tg tt te vs items [] ρ1 fun acc ρ2 => Q (.ow (.lst acc)) (restE ρ1 ρ2 vs)
def dYes : DTT := fun ρ Q => Q true ρ
theorem wipeE_length (ρ : Env) : ∀ vs, (wipeE ρ vs).length = ρ.length
  | [] => rfl
  | v :: vs => by unfold wipeE; rw [List.length_set, wipeE_length ρ vs]
theorem restE_length (o ρ : Env) : ∀ vs, (restE o ρ vs).length = ρ.length
  | [] => rfl
  | v :: vs => by unfold restE; rw [List.length_set, restE_length o ρ vs]
theorem wipeE_mem {ρ : Env} {j : Nat} : ∀ {vs : List Nat}, j ∈ vs → j < ρ.length → (wipeE ρ vs)[j]? = some .un
  | v :: vs, h, hl => by
    unfold wipeE
    by_cases e : v = j
    · subst e; rw [List.getElem?_set_self (by rw [wipeE_length]; exact hl)]
    · rw [List.getElem?_set_ne e]
      exact wipeE_mem ((List.mem_cons.mp h).resolve_left fun z => e z.symm) hl
theorem wipeE_not {ρ : Env} {j : Nat} : ∀ {vs : List Nat}, j ∉ vs → (wipeE ρ vs)[j]? = ρ[j]?
  | [], _ => rfl
  | v :: vs, h => by
    unfold wipeE
    rw [List.getElem?_set_ne (fun z => h (by simp [z])), wipeE_not fun z => h (List.mem_cons_of_mem _ z)]
theorem restE_mem {o ρ : Env} {j : Nat} : ∀ {vs : List Nat}, j ∈ vs → j < ρ.length → (restE o ρ vs)[j]? = some (o.getD j .un)
  | v :: vs, h, hl => by
    unfold restE
    by_cases e : v = j
    · subst e; rw [List.getElem?_set_self (by rw [restE_length]; exact hl)]
    · rw [List.getElem?_set_ne e]
      exact restE_mem ((List.mem_cons.mp h).resolve_left fun z => e z.symm) hl
theorem restE_not {o ρ : Env} {j : Nat} : ∀ {vs : List Nat}, j ∉ vs → (restE o ρ vs)[j]? = ρ[j]?
  | [], _ => rfl
  | v :: vs, h => by
    unfold restE
    rw [List.getElem?_set_ne (fun z => h (by simp [z])), restE_not fun z => h (List.mem_cons_of_mem _ z)]
theorem wipe_mem {σ : L2.St} {j : Nat} : ∀ {vs : List Nat}, j ∈ vs → j < σ.length → (wipe σ vs)[j]? = some none
  | v :: vs, h, hl => by
    unfold wipe
    by_cases e : v = j
    · subst e; rw [List.getElem?_set_self (by rw [wipe_length]; exact hl)]
    · rw [List.getElem?_set_ne e]
      exact wipe_mem ((List.mem_cons.mp h).resolve_left fun z => e z.symm) hl
theorem wipe_not {σ : L2.St} {j : Nat} : ∀ {vs : List Nat}, j ∉ vs → (wipe σ vs)[j]? = σ[j]?
  | [], _ => rfl
  | v :: vs, h => by
    unfold wipe
    rw [List.getElem?_set_ne (fun z => h (by simp [z])), wipe_not fun z => h (List.mem_cons_of_mem _ z)]
section
variable {g : Gd} {F F' H H' : Hp} {σ : L2.St} {ρ : Env}
theorem EOk.wipe (k : EOk g F σ H ρ) : ∀ vs, EOk g F (L2.wipe σ vs) H (wipeE ρ vs)
  | [] => k
  | v :: vs => (k.wipe vs).forget v none (.inl rfl)
/-- the slots of a block as they were ahead of it -/
theorem EOk.rest {ρ0 : Env} {F0 H0 : Hp} {vs : List Nat} (k0 : EOk g F0 σ H0 ρ0) (e : Ex F0 F) (hv : (vs.all fun v => !(ρ0.getD v .un).own) = true) (k : EOk g F (L2.wipe σ vs) H (wipeE ρ vs)) : EOk g F σ H (restE ρ0 ρ vs) := by
  have hl : σ.length = ρ.length := by
    have := k.len
    rw [wipe_length, wipeE_length] at this
    exact this
  have hv' : ∀ v ∈ vs, (ρ0.getD v .un).own = false := fun v h => by
    have := List.all_eq_true.mp hv v h
    simpa using this
  have inv : ∀ {j : Nat} {c : Cell}, (restE ρ0 ρ vs)[j]? = some c → c.own = true → j ∉ vs ∧ ρ[j]? = some c := fun {j c} h ho => by
    by_cases hj : j ∈ vs
    · have hlt : j < ρ.length := by
        have := (List.getElem?_eq_some_iff.mp h).1
        rw [restE_length] at this
        exact this
      rw [restE_mem hj hlt] at h
      have e2 := hv' j hj
      cases h
      rw [ho] at e2; cases e2
    · rw [restE_not hj] at h
      exact ⟨hj, h⟩
  refine ⟨by rw [restE_length]; exact hl, fun j v c h1 h2 => ?_, fun i j ci cj a ne h1 h2 o1 o2 s1 s2 => ?_, k.ex, k.frame, k.new, k.iosH, fun b o h => ?_⟩
  · by_cases hj : j ∈ vs
    · have hlt : j < ρ.length := by
        have := (List.getElem?_eq_some_iff.mp h2).1
        rw [restE_length] at this
        exact this
      rw [restE_mem hj hlt] at h2
      cases h2
      have e2 := hv' j hj
      cases hc : ρ0.getD j .un with
      | un => trivial
      | ow d => rw [hc] at e2; cases e2
      | io d => rw [hc] at e2; cases e2
      | fz d =>
        have h0 : ρ0[j]? = some (.fz d) := by
          cases q : ρ0[j]? with
          | none => rw [List.getD_eq_getElem?_getD, q] at hc; cases hc
          | some c => rw [List.getD_eq_getElem?_getD, q] at hc; cases hc; rfl
        obtain ⟨x, e3, r⟩ := k0.cell j v _ h1 h0
        exact ⟨x, e3, r.mono e⟩
    · rw [restE_not hj] at h2
      exact k.cell j v c (by rw [wipe_not hj]; exact h1) (by rw [wipeE_not hj]; exact h2)
  · obtain ⟨n1, r1⟩ := inv h1 o1
    obtain ⟨n2, r2⟩ := inv h2 o2
    exact k.dist i j ci cj a ne (by rw [wipeE_not n1]; exact r1) (by rw [wipeE_not n2]; exact r2) o1 o2 (by rw [wipe_not n1]; exact s1) (by rw [wipe_not n2]; exact s2)
  · obtain ⟨h1, h2, h3, h4⟩ := k.prot b o h
    refine ⟨h1, h2, h3, fun j c hc ho => ?_⟩
    obtain ⟨n1, r1⟩ := inv hc ho
    have := h4 j c (by rw [wipeE_not n1]; exact r1) ho
    rw [wipe_not n1] at this
    exact this
/-- one's own object that is in no slot: kept by -/
abbrev Gd.with (g : Gd) (a : Addr) (o : HO) : Gd := { g with pr := upd g.pr a o }
theorem CellOk.with_ {a : Addr} {o : HO} {i : Nat} {v : Option V} : ∀ {c : Cell}, CellOk g F H i v c → CellOk (g.with a o) F H i v c
  | .un, _ => trivial
  | .fz _, h => h
  | .ow _, h => h
  | .io _, h => h
theorem CellOk.without {a : Addr} {o : HO} {i : Nat} {v : Option V} : ∀ {c : Cell}, CellOk (g.with a o) F H i v c → CellOk g F H i v c
  | .un, _ => trivial
  | .fz _, h => h
  | .ow _, h => h
  | .io _, h => h
theorem EOk.protect (k : EOk g F σ H ρ) {a : Addr} {o : HO} {d : D} (ho : H a = some o) (t : Tmp g F σ H ρ (.ref a) (.ow d)) : EOk (g.with a o) F σ H ρ := by
  obtain ⟨b, eb, own, h0, no, npr⟩ := t
  cases eb
  refine ⟨k.len, fun i v c h1 h2 => (k.cell i v c h1 h2).with_, k.dist, k.ex, k.frame, k.new, k.iosH, fun c u h => ?_⟩
  by_cases e : c = a
  · subst e
    have h' : upd g.pr c o c = some u := h
    rw [upd_same] at h'; cases h'
    exact ⟨ho, own.no, h0, no⟩
  · have h' : upd g.pr a o c = some u := h
    rw [upd_ne e] at h'
    exact k.prot c u h'
theorem EOk.unprotect {a : Addr} {o : HO} (k : EOk (g.with a o) F σ H ρ) (n : g.pr a = none) {d : D} (hd : F a = none → Own F H a d) : EOk g F σ H ρ ∧ Tmp g F σ H ρ (.ref a) (.ow d) := by
  obtain ⟨h1, h2, h3, h4⟩ := k.prot a o upd_same
  refine ⟨⟨k.len, fun i v c h1 h2 => (k.cell i v c h1 h2).without, k.dist, k.ex, k.frame, k.new, k.iosH, fun c u h => ?_⟩, a, rfl, hd h2, h3, h4, n⟩
  have e : c ≠ a := fun z => by subst z; rw [n] at h; cases h
  exact k.prot c u (by show upd g.pr a o c = some u; rw [upd_ne e]; exact h)
theorem EOk.reprotect {a : Addr} {o o' : HO} (k : EOk (g.with a o) F σ H ρ) : EOk (g.with a o') F σ (upd H a o') ρ := by
  obtain ⟨h1, h2, h3, h4⟩ := k.prot a o upd_same
  have keep : ∀ b u, H b = some u → b ≠ a → upd H a o' b = some u := fun b u h e => by rw [upd_ne e]; exact h
  have neF : ∀ b u, F b = some u → b ≠ a := fun b u h e => by subst e; rw [h2] at h; cases h
  refine ⟨k.len, fun i v c h1' h2' => ?_, k.dist, fun b u h => keep b u (k.ex b u h) (neF b u h), fun b u h n => keep b u (k.frame b u h n) (fun e => by subst e; rw [h3] at h; cases h), k.new, fun b hb => ?_, fun b u h => ?_⟩
  · have q := k.cell i v c h1' h2'
    cases c with
    | un => trivial
    | fz d => exact q
    | ow d =>
      obtain ⟨b, e, r, n⟩ := q
      have hb : b ≠ a := fun z => h4 i _ h2' rfl (by rw [h1', e, z])
      exact ⟨b, e, r.mono (Ex.refl _) r.no fun u z => keep b u z hb, n⟩
    | io d =>
      obtain ⟨b, e, r, n⟩ := q
      have hb : b ≠ a := fun z => h4 i _ h2' rfl (by rw [h1', e, z])
      exact ⟨b, e, r.mono (Ex.refl _) r.no fun u z => keep b u z hb, n⟩
  · obtain ⟨u, hu⟩ := k.iosH b hb
    by_cases e : b = a
    · subst e; exact ⟨_, upd_same⟩
    · exact ⟨u, keep b u hu e⟩
  · by_cases e : b = a
    · subst e
      have h' : upd g.pr b o' b = some u := h
      rw [upd_same] at h'; cases h'
      exact ⟨upd_same, h2, h3, h4⟩
    · have h' : upd g.pr a o' b = some u := h
      rw [upd_ne e] at h'
      obtain ⟨x1, x2, x3, x4⟩ := k.prot b u (by show upd g.pr a o b = some u; rw [upd_ne e]; exact h')
      exact ⟨keep b u x1 e, x2, x3, x4⟩
end
section
variable {X : Cx} {elt tg iter : Expr} {ifs : List Expr} {scope : Scope} {own : List (Str × Nat)} {pos : Pos} {di : DTI} {dg : DTG} {dt : DTT} {de : DTE} {sl : List Nat}
theorem list_ext_wipe {σ σ' : L2.St} {sl vs : List Nat} (hl : σ.length = σ'.length) (h : ∀ j, j ∉ sl → σ'[j]? = σ[j]?) (hs : ∀ j ∈ sl, j ∈ vs) : L2.wipe σ' vs = L2.wipe σ vs := by
  apply List.ext_getElem?
  intro j
  by_cases hj : j ∈ vs
  · by_cases hlt : j < σ.length
    · rw [wipe_mem hj hlt, wipe_mem hj (by rw [← hl]; exact hlt)]
    · rw [List.getElem?_eq_none (by rw [wipe_length]; omega), List.getElem?_eq_none (by rw [wipe_length]; omega)]
  · rw [wipe_not hj, wipe_not hj, h j fun z => hj (hs j z)]
theorem wipe_wipe {σ : L2.St} {vs : List Nat} : L2.wipe (L2.wipe σ vs) vs = L2.wipe σ vs := by
  apply List.ext_getElem?
  intro j
  by_cases hj : j ∈ vs
  · by_cases hlt : j < σ.length
    · rw [wipe_mem hj (by rw [wipe_length]; exact hlt), wipe_mem hj hlt]
    · rw [List.getElem?_eq_none (by rw [wipe_length, wipe_length]; omega), List.getElem?_eq_none (by rw [wipe_length]; omega)]
  · rw [wipe_not hj]
theorem t_lc {vs : List Nat} (hs : ∀ j ∈ sl, j ∈ vs) {σ : L2.St} {H : Hp} {Q : VK} (h : tX (dLc di dg dt de vs) σ H Q) : tLc (tI di) (tG sl dg) (tT dt) (tE de) vs σ H Q := by
  obtain ⟨g, F, ρ, Qd, k, h, c⟩ := h
  refine ⟨g, F, ρ, _, k, h, fun F1 H1 ρ1 J items k1 e1 it ⟨hv, h1⟩ L hL => ?_⟩
  obtain ⟨k2, t2⟩ := k1.newOw (o := .lst []) (d := .lst []) hL ⟨k1.ex.none hL, ⟨[], upd_same, .nil⟩, Nat.zero_le _⟩
  have k3 := k2.protect upd_same t2
  have npr : g.pr L = none := by obtain ⟨b, eb, _, _, _, n⟩ := t2; cases eb; exact n
  let K : List D → Env → Prop := fun acc ρ2 => Qd (.ow (.lst acc)) (restE ρ1 ρ2 vs)
  refine ⟨fun i m H => m = items.length - i ∧ i ≤ items.length ∧ ∃ F' ρ' av ad, EOk (g.with L (.lst av)) F' (L2.wipe σ vs) H (wipeE ρ' vs) ∧ Ex F1 F' ∧ Reps F' av ad ∧ ad.length ≤ i ∧ lcW dg dt de vs (items.drop i) ad ρ' K,
    ⟨items.length, by simp, Nat.zero_le _, F1, ρ1, [], [], k3.wipe vs, Ex.refl _, .nil, Nat.le_refl _, h1⟩, ?_⟩
  rintro i m H2 ⟨rfl, hi2, F2, ρ2, av, ad, k2, e2, ra, za, w2⟩
  by_cases hlt : i < items.length
  · right
    rw [drop_of hlt] at w2
    obtain ⟨go, yl⟩ := it.go i H2 items[i] (e2.trans k2.ex) (List.getElem?_eq_getElem hlt)
    refine ⟨go, fun H' => i + 1 ≤ items.length ∧ ∃ F' ρ' av ad, EOk (g.with L (.lst av)) F' (L2.wipe σ vs) H' (wipeE ρ' vs) ∧ Ex F1 F' ∧ Reps F' av ad ∧ ad.length ≤ i + 1 ∧ lcW dg dt de vs (items.drop (i + 1)) ad ρ' K, fun H' ⟨a1, a2⟩ => ⟨items.length - (i + 1), by omega, rfl, a1, a2⟩, fun v H3 hy => ?_⟩
    obtain ⟨F3, k3, e3, r3⟩ := k2.yield e2 (yl v H3 hy)
    refine ⟨_, F3, _, _, _, k3, r3, w2, fun F4 σ4 H4 ρ4 k4 e4 s4 w4 => ?_⟩
    have es : L2.wipe σ4 vs = L2.wipe σ vs := by
      rw [list_ext_wipe s4.1.symm s4.2 hs, wipe_wipe]
    refine ⟨es, _, F4, ρ4, _, k4, w4, fun F5 H5 ρ5 b k5 e5 w5 => ?_⟩
    have e25 := ((e2.trans e3).trans e4).trans e5
    have ra5 := ra.mono ((e3.trans e4).trans e5)
    cases b with
    | true =>
      rw [if_pos rfl] at w5
      show tE de σ4 H5 _
      refine ⟨_, F5, ρ5, _, k5, w5, fun F6 H6 ρ6 y d k6 e6 r6 w6 => ?_⟩
      have hz := it.z
      have hL6 := (k6.prot L _ upd_same).1
      have hs2 : (sizeLine : Nat) = 16777216 := rfl
      refine ⟨av, hL6, by rw [ra5.length]; omega, hlt, F6, ρ6, av ++ [y], ad ++ [d], ?_, e25.trans e6, (ra5.mono e6).append (.cons r6 .nil), by rw [List.length_append]; simp; omega, w6⟩
      have k7 := (k6.wipe vs).reprotect (o' := .lst (av ++ [y]))
      rw [es] at k7
      exact k7
    | false =>
      rw [if_neg Bool.false_ne_true] at w5
      have k7 := k5.wipe vs
      rw [es] at k7
      exact ⟨hlt, F5, ρ5, av, ad, k7, e25, ra5, by omega, w5⟩
  · left
    have ei : i = items.length := by omega
    subst ei
    rw [List.drop_length] at w2
    have hz := it.z
    obtain ⟨k3, t3⟩ := k2.unprotect npr (d := .lst ad) fun n => ⟨n, ⟨av, (k2.prot L _ upd_same).1, ra⟩, by omega⟩
    refine ⟨it.stop H2 (e2.trans k2.ex), ?_⟩
    have k4 := k1.rest e2 hv k3
    refine c F2 H2 _ _ _ k4 (e1.trans e2) ?_ w2
    obtain ⟨b, eb, own, h0, no, np⟩ := t3
    cases eb
    refine ⟨L, rfl, own, h0, fun j cj hj ho z => ?_, np⟩
    -- an owned slot holding L would have been there from the start
    obtain ⟨o, hoL⟩ := own.there
    by_cases hjv : j ∈ vs
    · have hlt' : j < ρ2.length := by
        have := (List.getElem?_eq_some_iff.mp hj).1
        rw [restE_length] at this
        exact this
      rw [restE_mem hjv hlt'] at hj
      cases hj
      have := List.all_eq_true.mp hv j hjv
      rw [ho] at this
      cases this
    · rw [restE_not hjv] at hj
      exact no j cj (by rw [wipeE_not hjv]; exact hj) ho (by rw [wipe_not hjv]; exact z)
theorem dx_lc (hc : X.calm = true) (hN : X.N.Nodup) (hi : PI X tg iter (tI di)) (ok : BlkOk X.N X.env.scope scope own)
    (hg : ∀ (s : Shared) (H : Hp) (C : Addr) (cl : List (Str × Addr)) (fp : List Addr), PG (X.blk s H scope (compEnvC scope cl C X.env) fp) tg (tG sl dg)) (ht : ∀ (s : Shared) (H : Hp) (C : Addr) (cl : List (Str × Addr)) (fp : List Addr), PTs (X.blk s H scope (compEnvC scope cl C X.env) fp) ifs (tT dt))
    (he : ∀ (s : Shared) (H : Hp) (C : Addr) (cl : List (Str × Addr)) (fp : List Addr), PE (X.blk s H scope (compEnvC scope cl C X.env) fp) elt (tE de)) (hsl : ∀ j ∈ sl, j ∈ own.map (·.2)) (hs : ∀ x, foldedSetIterable iter X.env x = pure x := by intro _; rfl) :
    PE X (.ListComp elt [⟨tg, iter, ifs, 0⟩] scope pos) (tX (dLc di dg dt de (own.map (·.2)))) :=
  pe_imp (pe_lc hc hN hi ok hg ht he hs) fun _ _ _ h => t_lc hsl h
theorem ds_setLc {i : Nat} {y : Str} {py spos : Pos} (hc : X.calm = true) (hN : X.N.Nodup) (hy : X.N[i]? = some y) (hyl : X.env.scope.names.lookup y = some .local)
    (hsw : swapsWith (.ListComp elt [⟨tg, iter, ifs, 0⟩] scope pos) (some (.Name y py)) spos.line X.env = pure true) (hi : PI X tg iter (tI di)) (ok : BlkOk X.N X.env.scope scope own)
    (hg : ∀ (s : Shared) (H : Hp) (C : Addr) (cl : List (Str × Addr)) (fp : List Addr), PG (X.blk s H scope (compEnvC scope cl C X.env) fp) tg (tG sl dg)) (ht : ∀ (s : Shared) (H : Hp) (C : Addr) (cl : List (Str × Addr)) (fp : List Addr), PTs (X.blk s H scope (compEnvC scope cl C X.env) fp) ifs (tT dt))
    (he : ∀ (s : Shared) (H : Hp) (C : Addr) (cl : List (Str × Addr)) (fp : List Addr), PE (X.blk s H scope (compEnvC scope cl C X.env) fp) elt (tE de)) (hsl : ∀ j ∈ sl, j ∈ own.map (·.2)) (hs : ∀ x, foldedSetIterable iter X.env x = pure x := by intro _; rfl) :
    PS X (.Assign [.Name y py] (.ListComp elt [⟨tg, iter, ifs, 0⟩] scope pos) spos) (tS (dSet i (dLc di dg dt de (own.map (·.2))))) :=
  ps_imp (ps_setLc hc hN hy hyl hsw hi ok hg ht he hs) fun D σ H h => t_set (fun _ _ _ q => t_lc hsl q) h
theorem dts_nil : PTs X [] (tT dYes) := ⟨fun pins s σ H Q I ⟨g, F, ρ, Qd, k, h, c⟩ => pts_nil.run pins s σ H Q I (c F H ρ true k (Ex.refl _) h)⟩
end
end DL

namespace DL
open PySem PySem.Spec PyProof.Rows L2

/-! ### what a def promises, over data -/
/-- io: which parameters are written; fresh: it hands back an object of the caller's own -/
structure FnSpec where
  io : List Bool
  fresh : Bool
  ds : List D → (D → List D → Prop) → Prop
  mono : ∀ xs K K', (∀ r os, K r os → K' r os) → ds xs K → ds xs K'
/-- by a precondition and what it hands back -/
def mkSpec {α : Type} (io : List Bool) (fresh : Bool) (args : α → List D) (pre : α → Prop) (post : α → D → List D → Prop) : FnSpec where
  io := io
  fresh := fresh
  ds xs K := ∃ x, xs = args x ∧ pre x ∧ ∀ r os, post x r os → K r os
  mono := fun xs K K' h ⟨x, e, p, q⟩ => ⟨x, e, p, fun r os z => h r os (q r os z)⟩
def ArgsOk (F H : Hp) : List Bool → List V → List D → List Addr → Prop
  | [], [], [], [] => True
  | false :: bs, v :: vs, d :: ds, as => Rep F v d ∧ ArgsOk F H bs vs ds as
  | true :: bs, v :: vs, d :: ds, a :: as => v = .ref a ∧ Own F H a d ∧ ArgsOk F H bs vs ds as
  | _, _, _, _ => False
def OutsOk (F H : Hp) : List Addr → List D → Prop
  | [], [] => True
  | a :: as, d :: ds => Own F H a d ∧ OutsOk F H as ds
  | _, _ => False
def ResOk (fresh : Bool) (H F' H' : Hp) (v : V) (r : D) : Prop := match fresh with
  | true => ∃ a, v = .ref a ∧ Own F' H' a r ∧ H a = none
  | false => Rep F' v r
structure Behind (F H : Hp) (as : List Addr) (F' H' : Hp) : Prop where
  exF : Ex F F'
  ex : Ex F' H'
  new : ∀ b o, F' b = some o → F b = some o ∨ H b = none
  keep : ∀ b o, H b = some o → b ∉ as → H' b = some o
def spD (S : FnSpec) : Sp := fun vs H Q _ => ∃ F ds as, Ex F H ∧ ArgsOk F H S.io vs ds as ∧ as.Nodup ∧ S.ds ds fun r outs =>
  ∀ v F' H', Behind F H as F' H' → OutsOk F' H' as outs → ResOk S.fresh H F' H' v r → Q v H'
theorem ArgsOk.len {F H : Hp} : ∀ {bs : List Bool} {vs : List V} {ds : List D} {as : List Addr}, ArgsOk F H bs vs ds as → vs.length = bs.length ∧ ds.length = bs.length
  | [], [], [], [], _ => ⟨rfl, rfl⟩
  | false :: bs, v :: vs, d :: ds, as, h => by
    obtain ⟨h1, h2⟩ := ArgsOk.len h.2
    exact ⟨by simp [h1], by simp [h2]⟩
  | true :: bs, v :: vs, d :: ds, a :: as, h => by
    obtain ⟨h1, h2⟩ := ArgsOk.len h.2.2
    exact ⟨by simp [h1], by simp [h2]⟩
theorem spD_len {S : FnSpec} {n : Nat} (hn : S.io.length = n) {vs : List V} {H : Hp} {Q : VK} {E : XK} (h : spD S vs H Q E) : vs.length = n := by
  obtain ⟨F, ds, as, _, h, _⟩ := h
  rw [h.len.1, hn]
/-- the slots at the begin -/
def cells0 : List Bool → List D → Env
  | false :: bs, d :: ds => .fz d :: cells0 bs ds
  | true :: bs, d :: ds => .io d :: cells0 bs ds
  | _, _ => []
def env0 (n : Nat) (io : List Bool) (ds : List D) : Env := cells0 io ds ++ List.replicate (n - ds.length) .un
/-- what the written parameters hold at the end -/
def outs : List Bool → Env → Option (List D)
  | [], _ => some []
  | true :: bs, .io d :: ρ => (outs bs ρ).map (d :: ·)
  | false :: bs, _ :: ρ => outs bs ρ
  | _, _ => none
def endsOf (S : FnSpec) (K : D → List D → Prop) : DEnds where
  nx ρ := S.fresh = false ∧ match outs S.io ρ with
    | some os => K .non os
    | none => False
  rt c ρ := match c, outs S.io ρ with
    | .fz d, some os => S.fresh = false ∧ K d os
    | .ow d, some os => K d os
    | _, _ => False
  bk _ := False
  ct _ := False
def iopOf : List Bool → List Addr → Nat → Option Addr
  | true :: bs, a :: as, 0 => some a
  | true :: bs, a :: as, n + 1 => iopOf bs as n
  | false :: bs, as, 0 => none
  | false :: bs, as, n + 1 => iopOf bs as n
  | _, _, _ => none
theorem cells0_length {F H : Hp} : ∀ {bs : List Bool} {vs : List V} {ds : List D} {as : List Addr}, ArgsOk F H bs vs ds as → (cells0 bs ds).length = ds.length
  | [], [], [], [], _ => rfl
  | false :: bs, v :: vs, d :: ds, as, h => by simp [cells0, cells0_length h.2]
  | true :: bs, v :: vs, d :: ds, a :: as, h => by simp [cells0, cells0_length h.2.2]
theorem ArgsOk.cell {F H : Hp} : ∀ {bs : List Bool} {vs : List V} {ds : List D} {as : List Addr} {i : Nat} {v : V} {c : Cell}, ArgsOk F H bs vs ds as → vs[i]? = some v → (cells0 bs ds)[i]? = some c →
    (∃ d, c = .fz d ∧ Rep F v d) ∨ ∃ d a, c = .io d ∧ v = .ref a ∧ Own F H a d ∧ a ∈ as ∧ iopOf bs as i = some a
  | [], [], [], [], i, v, c, _, h, _ => by simp at h
  | false :: bs, v :: vs, d :: ds, as, 0, w, c, h, h1, h2 => by
    simp [cells0] at h1 h2
    subst h1 h2
    exact .inl ⟨d, rfl, h.1⟩
  | false :: bs, v :: vs, d :: ds, as, i + 1, w, c, h, h1, h2 => by
    simp only [cells0, List.getElem?_cons_succ] at h1 h2
    have q := ArgsOk.cell h.2 h1 h2
    exact q
  | true :: bs, v :: vs, d :: ds, a :: as, 0, w, c, h, h1, h2 => by
    simp [cells0] at h1 h2
    subst h1 h2
    exact .inr ⟨d, a, rfl, h.1, h.2.1, List.mem_cons_self, rfl⟩
  | true :: bs, v :: vs, d :: ds, a :: as, i + 1, w, c, h, h1, h2 => by
    simp only [cells0, List.getElem?_cons_succ] at h1 h2
    rcases ArgsOk.cell h.2.2 h1 h2 with q | ⟨d', a', e1, e2, o, m, p⟩
    · exact .inl q
    · exact .inr ⟨d', a', e1, e2, o, List.mem_cons_of_mem _ m, p⟩
theorem iopOf_inj : ∀ {bs : List Bool} {as : List Addr} {i j : Nat} {a : Addr}, as.Nodup → iopOf bs as i = some a → iopOf bs as j = some a → i = j
  | true :: bs, b :: as, 0, 0, a, _, _, _ => rfl
  | true :: bs, b :: as, 0, j + 1, a, n, h1, h2 => by
    simp only [iopOf] at h1 h2
    cases h1
    exact absurd (mem_of h2) (List.nodup_cons.mp n).1
  | true :: bs, b :: as, i + 1, 0, a, n, h1, h2 => by
    simp only [iopOf] at h1 h2
    cases h2
    exact absurd (mem_of h1) (List.nodup_cons.mp n).1
  | true :: bs, b :: as, i + 1, j + 1, a, n, h1, h2 => by
    simp only [iopOf] at h1 h2
    rw [iopOf_inj (List.nodup_cons.mp n).2 h1 h2]
  | false :: bs, as, 0, j, a, n, h1, h2 => by simp [iopOf] at h1
  | false :: bs, as, i + 1, 0, a, n, h1, h2 => by simp [iopOf] at h2
  | false :: bs, as, i + 1, j + 1, a, n, h1, h2 => by
    simp only [iopOf] at h1 h2
    rw [iopOf_inj n h1 h2]
  | [], as, i, j, a, n, h1, h2 => by simp [iopOf] at h1
  | true :: bs, [], i, j, a, n, h1, h2 => by simp [iopOf] at h1
where
  mem_of : ∀ {bs : List Bool} {as : List Addr} {i : Nat} {a : Addr}, iopOf bs as i = some a → a ∈ as
    | true :: bs, b :: as, 0, a, h => by simp only [iopOf] at h; cases h; exact List.mem_cons_self
    | true :: bs, b :: as, i + 1, a, h => by simp only [iopOf] at h; exact List.mem_cons_of_mem _ (mem_of h)
    | false :: bs, as, 0, a, h => by simp [iopOf] at h
    | false :: bs, as, i + 1, a, h => by simp only [iopOf] at h; exact mem_of h
    | [], as, i, a, h => by simp [iopOf] at h
    | true :: bs, [], i, a, h => by simp [iopOf] at h
theorem start_get {N : List Str} {vs : List V} {i : Nat} {v : Option V} (h : (L2.start N vs)[i]? = some v) : (i < vs.length ∧ ∃ x, vs[i]? = some x ∧ v = some x) ∨ (vs.length ≤ i ∧ v = none) := by
  unfold L2.start at h
  by_cases hl : i < vs.length
  · rw [List.getElem?_append_left (by simpa using hl), List.getElem?_map] at h
    rw [List.getElem?_eq_getElem hl] at h ⊢
    exact .inl ⟨hl, _, rfl, (Option.some.inj h).symm⟩
  · rw [List.getElem?_append_right (by simpa using Nat.le_of_not_lt hl)] at h
    obtain ⟨h1, h2⟩ := List.getElem?_eq_some_iff.mp h
    rw [List.getElem_replicate] at h2
    exact .inr ⟨Nat.le_of_not_lt hl, h2.symm⟩
theorem env0_get {n : Nat} {io : List Bool} {ds : List D} (hl : (cells0 io ds).length = ds.length) {i : Nat} {c : Cell} (h : (env0 n io ds)[i]? = some c) : (i < ds.length ∧ (cells0 io ds)[i]? = some c) ∨ (ds.length ≤ i ∧ c = .un) := by
  unfold env0 at h
  by_cases hi : i < ds.length
  · rw [List.getElem?_append_left (by rw [hl]; exact hi)] at h
    exact .inl ⟨hi, h⟩
  · rw [List.getElem?_append_right (by rw [hl]; omega)] at h
    obtain ⟨h1, h2⟩ := List.getElem?_eq_some_iff.mp h
    rw [List.getElem_replicate] at h2
    exact .inr ⟨Nat.le_of_not_lt hi, h2.symm⟩
theorem EOk.begin {F H : Hp} {N : List Str} {io : List Bool} {vs : List V} {ds : List D} {as : List Addr} (e : Ex F H) (ok : ArgsOk F H io vs ds as) (nd : as.Nodup) (hN : io.length ≤ N.length) :
    EOk ⟨H, F, as, iopOf io as, fun _ => none⟩ F (L2.start N vs) H (env0 N.length io ds) := by
  have l1 := ok.len.1
  have l2 := ok.len.2
  have cl := cells0_length ok
  have own : ∀ {i : Nat} {c : Cell} {a : Addr}, (env0 N.length io ds)[i]? = some c → c.own = true → (L2.start N vs)[i]? = some (some (.ref a)) → iopOf io as i = some a := fun {i c a} h1 h2 h3 => by
    rcases env0_get cl h1 with ⟨_, h1⟩ | ⟨_, h1⟩
    · rcases start_get h3 with ⟨_, x, hx, ex⟩ | ⟨_, ex⟩
      · cases ex
        rcases ok.cell hx h1 with ⟨d, e1, _⟩ | ⟨d, b, e1, e2, _, _, p⟩
        · subst e1; cases h2
        · cases e2; exact p
      · cases ex
    · subst h1; cases h2
  refine ⟨?_, fun i v c h1 h2 => ?_, fun i j ci cj a ne h1 h2 o1 o2 s1 s2 => ne (iopOf_inj nd (own h1 o1 s1) (own h2 o2 s2)), e, fun b o h _ => h, fun b o h => .inl h, fun a ha => ?_, fun b o h => by cases h⟩
  · unfold L2.start env0
    rw [List.length_append, List.length_append, List.length_map, List.length_replicate, List.length_replicate, cl]
    omega
  · rcases env0_get cl h2 with ⟨_, h2⟩ | ⟨_, h2⟩
    · rcases start_get h1 with ⟨_, x, hx, ex⟩ | ⟨hl, ex⟩
      · subst ex
        rcases ok.cell hx h2 with ⟨d, e1, r⟩ | ⟨d, a, e1, e2, o, m, p⟩
        · subst e1; exact ⟨x, rfl, r⟩
        · subst e1 e2; exact ⟨a, rfl, o, m, p⟩
      · have := (List.getElem?_eq_some_iff.mp h2).1
        omega
    · subst h2; trivial
  · clear own
    induction io generalizing vs ds as with
    | nil =>
      cases vs <;> cases ds <;> cases as <;> first | exact ok.elim | cases ha
    | cons b bs ih =>
      cases vs with
      | nil => cases b <;> exact ok.elim
      | cons v vs =>
        cases ds with
        | nil => cases b <;> exact ok.elim
        | cons d ds =>
          cases b with
          | false =>
            exact ih ok.2 nd (by simp at hN; omega) ok.2.len.1 ok.2.len.2 (cells0_length ok.2) ha
          | true =>
            cases as with
            | nil => exact ok.elim
            | cons a0 as =>
              rcases List.mem_cons.mp ha with e | ha
              · subst e; exact ok.2.1.there
              · exact ih ok.2.2 (List.nodup_cons.mp nd).2 (by simp at hN; omega) ok.2.2.len.1 ok.2.2.len.2 (cells0_length ok.2.2) ha
theorem outs_ok {F H : Hp} {g : Gd} {io0 : List Bool} {as0 : List Addr} (hg : g.iop = iopOf io0 as0) : ∀ {io : List Bool} {as : List Addr} {ρ : Env} {os : List D} (n : Nat),
    (∀ i, iopOf io0 as0 (n + i) = iopOf io as i) → (∀ i c, ρ[i]? = some c → ∃ v, CellOk g F H (n + i) v c) → (∀ a, a ∈ as ↔ ∃ i, iopOf io as i = some a) → as.length = (io.filter id).length → outs io ρ = some os → OutsOk F H as os
  | [], [], _, _, _, _, _, _, _, h => by simp [outs] at h; subst h; trivial
  | [], a :: as, _, _, _, _, _, _, hl, _ => by simp at hl
  | true :: bs, [], _, _, _, _, _, _, hl, _ => by simp at hl
  | true :: bs, a :: as, ρ, os, n, hi, hc, hm, hl, h => by
    cases ρ with
    | nil => simp [outs] at h
    | cons c ρ =>
      cases c with
      | io d =>
        simp only [outs] at h
        cases ho : outs bs ρ with
        | none => rw [ho] at h; cases h
        | some os' =>
          rw [ho] at h
          cases h
          obtain ⟨v, b, e, own, mem, p⟩ := hc 0 _ rfl
          rw [hg] at p
          have := hi 0
          rw [p] at this
          simp only [iopOf] at this
          cases this
          refine ⟨own, outs_ok (g := g) hg (n + 1) (fun i => ?_) (fun i c h => ?_) (fun x => ?_) (by simpa using hl) ho⟩
          · have := hi (i + 1)
            simp only [iopOf] at this
            rw [← this]
            congr 1
            omega
          · obtain ⟨v, q⟩ := hc (i + 1) c (by simpa using h)
            rw [show n + 1 + i = n + (i + 1) by omega]
            exact ⟨v, q⟩
          · exact iop_mem (by simpa using hl) x
      | un => simp [outs] at h
      | fz d => simp [outs] at h
      | ow d => simp [outs] at h
  | false :: bs, as, ρ, os, n, hi, hc, hm, hl, h => by
    cases ρ with
    | nil => simp [outs] at h
    | cons c ρ =>
      simp only [outs] at h
      refine outs_ok (g := g) hg (n + 1) (fun i => ?_) (fun i c h => ?_) (fun x => ?_) (by simpa using hl) h
      · have := hi (i + 1)
        simp only [iopOf] at this
        rw [← this]
        congr 1
        omega
      · obtain ⟨v, q⟩ := hc (i + 1) c (by simpa using h)
        rw [show n + 1 + i = n + (i + 1) by omega]
        exact ⟨v, q⟩
      · exact iop_mem (by simpa using hl) x
where
  iop_mem : ∀ {io : List Bool} {as : List Addr}, as.length = (io.filter id).length → ∀ x, x ∈ as ↔ ∃ i, iopOf io as i = some x
    | [], [], _, x => by simp [iopOf]
    | [], a :: as, h, x => by simp at h
    | true :: bs, [], h, x => by simp at h
    | true :: bs, a :: as, h, x => by
      have ih := iop_mem (io := bs) (as := as) (by simpa using h) x
      constructor
      · intro hx
        rcases List.mem_cons.mp hx with e | hx
        · exact ⟨0, by rw [e]; rfl⟩
        · obtain ⟨i, hi⟩ := ih.mp hx
          exact ⟨i + 1, hi⟩
      · rintro ⟨i, hi⟩
        cases i with
        | zero => cases hi; exact List.mem_cons_self
        | succ i => exact List.mem_cons_of_mem _ (ih.mpr ⟨i, hi⟩)
    | false :: bs, as, h, x => by
      have ih := iop_mem (io := bs) (as := as) (by simpa using h) x
      constructor
      · intro hx
        obtain ⟨i, hi⟩ := ih.mp hx
        exact ⟨i + 1, hi⟩
      · rintro ⟨i, hi⟩
        cases i with
        | zero => cases hi
        | succ i => exact ih.mpr ⟨i, hi⟩
theorem ArgsOk.as_len {F H : Hp} : ∀ {bs : List Bool} {vs : List V} {ds : List D} {as : List Addr}, ArgsOk F H bs vs ds as → as.length = (bs.filter id).length
  | [], [], [], [], _ => rfl
  | false :: bs, v :: vs, d :: ds, as, h => by simpa using ArgsOk.as_len h.2
  | true :: bs, v :: vs, d :: ds, a :: as, h => by simpa using ArgsOk.as_len h.2.2
section
variable {P : Program} {w : World} {K : PySem.W.Frag} {mg : Str → Option Value} {base : Heap}
/-- THE RULE for a def: its body's meaning over data keeps its promise over data -/
theorem fn_D {x qual : Str} {st : Stmt} {f : Addr} {fd : FuncData} {N ps : List Str} {k : Nat} {S : FnSpec} {db : DTS} (FF : Fun K x qual st f fd) (sc : FnScope N ps (defScope st)) (hn : S.io.length = ps.length) (hN : ps.length ≤ N.length)
    (body : ∀ (cdv : Value) (A : Around) (outer : List PySem.Env) (s : Shared) (H : Hp) (E : XK), Room k (A.deeper (envOfC qual (defScope st) s.heap.objs.size f cdv)) → PSs (cxOf CX0 P w K mg base N qual (defScope st) f cdv A outer s H E).nox (defBody st) (tS db))
    (sem : ∀ ds Kd, S.ds ds Kd → db (endsOf S Kd) (env0 N.length S.io ds)) : FnOk P w K mg base CX0 (k + 1) f fd ps (spD S) := by
  refine FF.ok sc (fun vs H Q E h => spD_len hn h) fun cdv A outer s H vs Q E hr h => ?_
  obtain ⟨F, ds, as, ex, ok, nd, h⟩ := h
  have k0 := EOk.begin (N := N) ex ok nd (by rw [hn]; exact hN)
  have fin : ∀ {F' σ' H' ρ'} {os : List D}, EOk ⟨H, F, as, iopOf S.io as, fun _ => none⟩ F' σ' H' ρ' → Ex F F' → outs S.io ρ' = some os → Behind F H as F' H' ∧ OutsOk F' H' as os := fun {F' σ' H' ρ' os} k' e' ho => by
    refine ⟨⟨e', k'.ex, k'.new, k'.frame⟩, ?_⟩
    refine outs_ok (g := ⟨H, F, as, iopOf S.io as, fun _ => none⟩) (io0 := S.io) (as0 := as) rfl 0 (fun i => by rw [Nat.zero_add]) (fun i c hc => ?_) (outs_ok.iop_mem ok.as_len) ok.as_len ho
    obtain ⟨v, _, q⟩ := k'.slot hc
    rw [Nat.zero_add]
    exact ⟨v, q⟩
  refine ⟨tS db, body cdv A outer s H E hr, _, F, _, _, k0, sem ds _ h, ⟨fun F' σ' H' ρ' k' e' q => ?_, fun F' σ' H' ρ' v c k' e' t q => ?_, fun _ _ _ _ _ _ q => q.elim, fun _ _ _ _ _ _ q => q.elim⟩⟩
  · obtain ⟨hf, q⟩ := q
    cases ho : outs S.io ρ' with
    | none => rw [ho] at q; exact q.elim
    | some os =>
      rw [ho] at q
      obtain ⟨b1, b2⟩ := fin k' e' ho
      exact q _ F' H' b1 b2 (by rw [hf]; exact Rep.non (F := F'))
  · cases ho : outs S.io ρ' with
    | none =>
      simp only [endsOf, ho] at q
    | some os =>
      obtain ⟨b1, b2⟩ := fin k' e' ho
      cases c with
      | un => exact t.elim
      | io d => exact t.elim
      | fz d =>
        simp only [endsOf, ho] at q
        exact q.2 v F' H' b1 b2 (by rw [q.1]; exact t)
      | ow d =>
        simp only [endsOf, ho] at q
        cases hf : S.fresh with
        | true =>
          obtain ⟨a, e1, own, h0, _⟩ := t
          exact q v F' H' b1 b2 (by rw [hf]; exact ⟨a, e1, own, h0⟩)
        | false =>
          obtain ⟨F2, k2, e2, r⟩ := k'.keepTmp t
          obtain ⟨b3, b4⟩ := fin k2 (e'.trans e2) ho
          exact q v F2 H' b3 b4 (by rw [hf]; exact r)
end

/-! ### calls -/
def dCall (S : FnSpec) (da : DTA) : DTE := fun ρ Q => da ρ fun ds ρ' => ds.length = S.io.length ∧ S.ds ds fun r _ => Q r ρ'
def dCallF (S : FnSpec) (da : DTA) : DTX := fun ρ Q => da ρ fun ds ρ' => ds.length = S.io.length ∧ S.ds ds fun r _ => Q (.ow r) ρ'
/-- the first argument is written: the name in the slot i -/
def dCallIo (S : FnSpec) (i : Nat) (da : DTA) : DTX := fun ρ Q => (∃ c, ρ[i]? = some c ∧ c.own = true) ∧ da ρ fun ds ρ' => match ρ'[i]? with
  | some c => ds.length + 1 = S.io.length ∧ c.own = true ∧ match c.val with
    | some d => S.ds (d :: ds) fun r os => match os with
      | [d'] => Q (if S.fresh = true then .ow r else .fz r) (ρ'.set i (c.up d'))
      | _ => False
    | none => False
  | none => False
theorem ArgsOk.plain {F H : Hp} : ∀ {bs : List Bool} {vs : List V} {ds : List D}, Reps F vs ds → ds.length = bs.length → (bs.all fun b => !b) = true → ArgsOk F H bs vs ds []
  | [], _, _, .nil, _, _ => trivial
  | [], _, _, .cons _ _, h, _ => by simp at h
  | false :: bs, _, _, .nil, h, _ => by simp at h
  | false :: bs, _, _, .cons r t, h, ha => ⟨r, ArgsOk.plain t (by simpa using h) (by simpa using ha)⟩
  | true :: bs, _, _, _, _, ha => by simp at ha
section
variable {g : Gd} {F F' H H' : Hp} {σ : L2.St} {ρ : Env}
theorem Behind.grow {as : List Addr} (b : Behind F H as F' H') (ha : as = []) : Grow F H F' H' := by
  subst ha
  exact ⟨b.exF, b.ex, fun x o h => b.keep x o h (by simp), b.new⟩
theorem EOk.tmpOf (k : EOk g F σ H ρ) {a : Addr} {d : D} (hn : H a = none) (k' : EOk g F' σ H' ρ) (own : Own F' H' a d) : Tmp g F' σ H' ρ (.ref a) (.ow d) := by
  refine ⟨a, rfl, own, k.h0 hn, fun j c hc ho z => ?_, ?_⟩
  · have q := k.cell j _ c z hc
    cases c with
    | un => cases ho
    | fz _ => cases ho
    | ow d => obtain ⟨b, e, r, _⟩ := q; cases e; obtain ⟨u, hu⟩ := r.there; rw [hn] at hu; cases hu
    | io d => obtain ⟨b, e, r, _⟩ := q; cases e; obtain ⟨u, hu⟩ := r.there; rw [hn] at hu; cases hu
  · cases q : g.pr a with
    | none => rfl
    | some o => have := (k.prot a o q).1; rw [hn] at this; cases this
end
section
variable {X : Cx} {CX : CXT} {k : Nat} {f : Addr} {fd : FuncData} {ps : List Str} {S : FnSpec} {x : Str} {p pos : Pos} {e : Expr} {es : List Expr} {da : DTA}
theorem t_call {σ : L2.St} {H : Hp} {Q : VK} (hio : (S.io.all fun b => !b) = true) (hf : S.fresh = false) (h : tE (dCall S da) σ H Q) : tCall (spD S) [] E0 (tA da) σ H Q := by
  obtain ⟨g, F, ρ, Qd, kk, h, c⟩ := h
  refine ⟨g, F, ρ, _, kk, h, fun F1 H1 ρ1 vs ds k1 e1 r1 ⟨hl, h1⟩ => ?_⟩
  show spD S (vs ++ []) H1 Q E0
  rw [List.append_nil]
  refine ⟨F1, ds, [], k1.ex, ArgsOk.plain r1 hl hio, .nil, S.mono _ _ _ (fun r os q v F' H' b o rr => ?_) h1⟩
  rw [hf] at rr
  exact c F' H' ρ1 v r (k1.grow (b.grow rfl)) (e1.trans b.exF) rr q
theorem t_callF {σ : L2.St} {H : Hp} {Q : VK} (hio : (S.io.all fun b => !b) = true) (hf : S.fresh = true) (h : tX (dCallF S da) σ H Q) : tCall (spD S) [] E0 (tA da) σ H Q := by
  obtain ⟨g, F, ρ, Qd, kk, h, c⟩ := h
  refine ⟨g, F, ρ, _, kk, h, fun F1 H1 ρ1 vs ds k1 e1 r1 ⟨hl, h1⟩ => ?_⟩
  show spD S (vs ++ []) H1 Q E0
  rw [List.append_nil]
  refine ⟨F1, ds, [], k1.ex, ArgsOk.plain r1 hl hio, .nil, S.mono _ _ _ (fun r os q v F' H' b o rr => ?_) h1⟩
  rw [hf] at rr
  obtain ⟨a, ev, own, hn⟩ := rr
  subst ev
  have k2 := k1.grow (b.grow rfl)
  exact c F' H' ρ1 _ (.ow r) k2 (e1.trans b.exF) (k1.tmpOf hn k2 own) q
theorem t_callIo {i : Nat} {bs : List Bool} {σ : L2.St} {H : Hp} {Q : VK} (hio : S.io = true :: bs) (hbs : (bs.all fun b => !b) = true) (h : tX (dCallIo S i da) σ H Q) : tCall (spD S) [] E0 (tCons (tVar i) (tA da)) σ H Q := by
  obtain ⟨g, F, ρ, Qd, kk, ⟨⟨c0, hc0, ho0⟩, h⟩, c⟩ := h
  obtain ⟨v0, hv0, q0⟩ := kk.slot hc0
  have ha : ∃ a, v0 = some (.ref a) := by
    cases c0 with
    | un => cases ho0
    | fz _ => cases ho0
    | ow d => obtain ⟨a, e, _⟩ := q0; exact ⟨a, e⟩
    | io d => obtain ⟨a, e, _⟩ := q0; exact ⟨a, e⟩
  obtain ⟨a, rfl⟩ := ha
  refine ⟨.ref a, hv0, g, F, ρ, _, kk, h, fun F1 H1 ρ1 vs ds k1 e1 r1 h1 => ?_⟩
  show spD S ((V.ref a :: vs) ++ []) H1 Q E0
  rw [List.append_nil]
  cases hc1 : ρ1[i]? with
  | none => rw [hc1] at h1; exact h1.elim
  | some c1 =>
    rw [hc1] at h1
    obtain ⟨hl, ho1, h1⟩ := h1
    have q1 := k1.cell i _ c1 hv0 hc1
    obtain ⟨d, hd, own⟩ : ∃ d, c1.val = some d ∧ Own F1 H1 a d := by
      cases c1 with
      | un => cases ho1
      | fz _ => cases ho1
      | ow d => obtain ⟨b, e, o, _⟩ := q1; cases e; exact ⟨d, rfl, o⟩
      | io d => obtain ⟨b, e, o, _⟩ := q1; cases e; exact ⟨d, rfl, o⟩
    rw [hd] at h1
    refine ⟨F1, d :: ds, [a], k1.ex, ?_, by simp, S.mono _ _ _ (fun r os q v F' H' b o rr => ?_) h1⟩
    · rw [hio]
      exact ⟨rfl, own, ArgsOk.plain r1 (by rw [hio] at hl; simpa using hl) hbs⟩
    · match os, o, q with
      | [d'], o, q =>
        have k2 := k1.turn hc1 ho1 hv0 b.exF b.ex (fun x u hx ne => b.keep x u hx (by simpa using ne)) b.new o.1
        cases hf : S.fresh with
        | false =>
          rw [hf] at rr q
          exact c F' H' _ v (.fz r) k2 (e1.trans b.exF) rr q
        | true =>
          rw [hf] at rr q
          obtain ⟨a2, ev, own2, hn⟩ := rr
          subst ev
          refine c F' H' _ _ (.ow r) k2 (e1.trans b.exF) ?_ q
          refine ⟨a2, rfl, own2, k1.h0 hn, fun j cj hj hoj z => ?_, ?_⟩
          · -- an owned slot's object was there ahead of the call
            have hj' : ∃ cj', ρ1[j]? = some cj' ∧ cj'.own = true := by
              rcases getElem?_set' hj with ⟨e, _, _⟩ | ⟨_, hj⟩
              · subst e; exact ⟨c1, hc1, ho1⟩
              · exact ⟨cj, hj, hoj⟩
            obtain ⟨cj', hj1, hj2⟩ := hj'
            have qj := k1.cell j _ cj' z hj1
            cases cj' with
            | un => cases hj2
            | fz _ => cases hj2
            | ow d => obtain ⟨x, ex, r, _⟩ := qj; cases ex; obtain ⟨u, hu⟩ := r.there; rw [hn] at hu; cases hu
            | io d => obtain ⟨x, ex, r, _⟩ := qj; cases ex; obtain ⟨u, hu⟩ := r.there; rw [hn] at hu; cases hu
          · cases qp : g.pr a2 with
            | none => rfl
            | some o => have := (k1.prot a2 o qp).1; rw [hn] at this; cases this
theorem de_call (F : FnOk X.prog X.w X.K X.mg X.base CX0 k f fd ps (spD S)) (hr : Room k X.A) (hm : X.mg x = some (.ref f)) (hk : PySem.W.keepIn X.K (.ref f) = true) (hb : Binds X.K fd ps []) (hio : (S.io.all fun b => !b) = true) (hf : S.fresh = false) (ha : PA X (e :: es) (tA da))
    (hg : Gl X x := by rfl) (hdb : (x == ("__debug__" : Str)) = false := by decide) (he : starEach (e :: es) X.env = (false, eval e X.env) :: starEach es X.env := by rfl) (hpl : (backTo pos (starEach es X.env)).any (·.1) = false := by rfl) :
    PE X (.Call (.Name x p) (e :: es) [] pos) (tE (dCall S da)) :=
  pe_imp (pe_call F hr hg hm hk hb .nil pass0 ha hdb he hpl) fun _ _ _ h => t_call hio hf h
theorem dx_call (F : FnOk X.prog X.w X.K X.mg X.base CX0 k f fd ps (spD S)) (hr : Room k X.A) (hm : X.mg x = some (.ref f)) (hk : PySem.W.keepIn X.K (.ref f) = true) (hb : Binds X.K fd ps []) (hio : (S.io.all fun b => !b) = true) (hf : S.fresh = true) (ha : PA X (e :: es) (tA da))
    (hg : Gl X x := by rfl) (hdb : (x == ("__debug__" : Str)) = false := by decide) (he : starEach (e :: es) X.env = (false, eval e X.env) :: starEach es X.env := by rfl) (hpl : (backTo pos (starEach es X.env)).any (·.1) = false := by rfl) :
    PE X (.Call (.Name x p) (e :: es) [] pos) (tX (dCallF S da)) :=
  pe_imp (pe_call F hr hg hm hk hb .nil pass0 ha hdb he hpl) fun _ _ _ h => t_callF hio hf h
theorem dx_callIo {i : Nat} {bs : List Bool} {y : Str} {q : Pos} (F : FnOk X.prog X.w X.K X.mg X.base CX0 k f fd ps (spD S)) (hr : Room k X.A) (hm : X.mg x = some (.ref f)) (hk : PySem.W.keepIn X.K (.ref f) = true) (hb : Binds X.K fd ps []) (hio : S.io = true :: bs) (hbs : (bs.all fun b => !b) = true)
    (hy : PE X (.Name y q) (tVar i)) (ha : PA X es (tA da))
    (hg : Gl X x := by rfl) (hdb : (x == ("__debug__" : Str)) = false := by decide) (he : starEach (.Name y q :: es) X.env = (false, eval (.Name y q) X.env) :: starEach es X.env := by rfl) (hpl : (backTo pos (starEach es X.env)).any (·.1) = false := by rfl) :
    PE X (.Call (.Name x p) (.Name y q :: es) [] pos) (tX (dCallIo S i da)) :=
  pe_imp (pe_call F hr hg hm hk hb .nil pass0 (pa_cons hy ha he) hdb he hpl) fun _ _ _ h => t_callIo hio hbs h
end
end DL

namespace DL
open PySem PySem.Spec PyProof.Rows L2
/-! ### calls of built-ins -/
abbrev DFn := List D → (D → Prop) → Prop
def rC (o : DFn) : List V → Hp → VK → Prop := fun xs H Q => ∃ F ds Qd, Ex F H ∧ Reps F xs ds ∧ o ds Qd ∧ ∀ F' H' v r, Grow F H F' H' → Rep F' v r → Qd r → Q v H'
/-- .. that hand back a new object -/
def rCF (o : DFn) : List V → Hp → VK → Prop := fun xs H Q => ∃ F ds Qd, Ex F H ∧ Reps F xs ds ∧ o ds Qd ∧ ∀ F' H' a r, Grow F H F' H' → Own F' H' a r → H a = none → Qd r → Q (.ref a) H'
def dCB (o : DFn) (da : DTA) : DTE := fun ρ Q => da ρ fun ds ρ' => o ds fun r => Q r ρ'
def dCBF (o : DFn) (da : DTA) : DTX := fun ρ Q => da ρ fun ds ρ' => o ds fun r => Q (.ow r) ρ'
section
variable {X : Cx} {e a b c : Expr} {es : List Expr} {pos p : Pos} {da db dc : DTE} {daa : DTA} {x : Str} {o : DFn}
theorem t_cb {σ : L2.St} {H : Hp} {Q : VK} (h : tE (dCB o daa) σ H Q) : tCB (rC o) (tA daa) σ H Q := by
  obtain ⟨g, F, ρ, Qd, k, h, c⟩ := h
  refine ⟨g, F, ρ, _, k, h, fun F1 H1 ρ1 vs ds k1 e1 r1 h1 => ?_⟩
  exact ⟨F1, ds, _, k1.ex, r1, h1, fun F3 H3 v r G r3 q => c F3 H3 ρ1 v r (k1.grow G) (e1.trans G.exF) r3 q⟩
theorem t_cbf {σ : L2.St} {H : Hp} {Q : VK} (h : tX (dCBF o daa) σ H Q) : tCB (rCF o) (tA daa) σ H Q := by
  obtain ⟨g, F, ρ, Qd, k, h, c⟩ := h
  refine ⟨g, F, ρ, _, k, h, fun F1 H1 ρ1 vs ds k1 e1 r1 h1 => ?_⟩
  refine ⟨F1, ds, _, k1.ex, r1, h1, fun F3 H3 a r G own hn q => ?_⟩
  have k2 := k1.grow G
  exact c F3 H3 ρ1 _ (.ow r) k2 (e1.trans G.exF) (k1.tmpOf hn k2 own) q
theorem de_cb {id : String} (hc : CallR X (.builtin id) (rC o)) (hm : X.mg x = none) (ha : PA X (e :: es) (tA daa)) (hg : Gl X x := by rfl) (hv : bootBuiltins x = some (.builtin id) := by first | rfl | decide +kernel) (hn : x ≠ "__name__" := by decide) (hdb : (x == ("__debug__" : Str)) = false := by decide)
    (he : starEach (e :: es) X.env = (false, eval e X.env) :: starEach es X.env := by rfl) (hpl : (backTo pos (starEach es X.env)).any (·.1) = false := by rfl) : PE X (.Call (.Name x p) (e :: es) [] pos) (tE (dCB o daa)) :=
  pe_imp (pe_callB hc hg hm hv ha hn hdb he hpl) fun _ _ _ h => t_cb h
theorem de_cty {T : String} (hc : CallR X (.type T) (rC o)) (hm : X.mg x = none) (ha : PA X (e :: es) (tA daa)) (hg : Gl X x := by rfl) (hv : bootBuiltins x = some (.type T) := by first | rfl | decide +kernel) (hn : x ≠ "__name__" := by decide) (hdb : (x == ("__debug__" : Str)) = false := by decide)
    (he : starEach (e :: es) X.env = (false, eval e X.env) :: starEach es X.env := by rfl) (hpl : (backTo pos (starEach es X.env)).any (·.1) = false := by rfl) : PE X (.Call (.Name x p) (e :: es) [] pos) (tE (dCB o daa)) :=
  pe_imp (pe_callTy hc hg hm hv ha hn hdb he hpl) fun _ _ _ h => t_cb h
theorem dx_cb {id : String} (hc : CallR X (.builtin id) (rCF o)) (hm : X.mg x = none) (ha : PA X (e :: es) (tA daa)) (hg : Gl X x := by rfl) (hv : bootBuiltins x = some (.builtin id) := by first | rfl | decide +kernel) (hn : x ≠ "__name__" := by decide) (hdb : (x == ("__debug__" : Str)) = false := by decide)
    (he : starEach (e :: es) X.env = (false, eval e X.env) :: starEach es X.env := by rfl) (hpl : (backTo pos (starEach es X.env)).any (·.1) = false := by rfl) : PE X (.Call (.Name x p) (e :: es) [] pos) (tX (dCBF o daa)) :=
  pe_imp (pe_callB hc hg hm hv ha hn hdb he hpl) fun _ _ _ h => t_cbf h
theorem dx_cty {T : String} (hc : CallR X (.type T) (rCF o)) (hm : X.mg x = none) (ha : PA X (e :: es) (tA daa)) (hg : Gl X x := by rfl) (hv : bootBuiltins x = some (.type T) := by first | rfl | decide +kernel) (hn : x ≠ "__name__" := by decide) (hdb : (x == ("__debug__" : Str)) = false := by decide)
    (he : starEach (e :: es) X.env = (false, eval e X.env) :: starEach es X.env := by rfl) (hpl : (backTo pos (starEach es X.env)).any (·.1) = false := by rfl) : PE X (.Call (.Name x p) (e :: es) [] pos) (tX (dCBF o daa)) :=
  pe_imp (pe_callTy hc hg hm hv ha hn hdb he hpl) fun _ _ _ h => t_cbf h
theorem callR_imp {f : Value} {r r' : List V → Hp → VK → Prop} (h : CallR X f r) (i : ∀ xs H Q, r' xs H Q → r xs H Q) : CallR X f r' := fun pins s σ H xs us Q I rv q => h pins s σ H xs us Q I rv (i xs H Q q)
theorem RepK.length {F : Hp} : ∀ {ks : List (Key × V)} {ds : List (D × D)}, RepK F ks ds → ks.length = ds.length
  | _, _, .nil => rfl
  | _, _, .cons _ t => by rw [List.length_cons, List.length_cons, RepK.length t]
theorem RepT.length {F : Hp} : ∀ {ks : List (List Key × V)} {ds : List (D × D)}, RepT F ks ds → ks.length = ds.length
  | _, _, .nil => rfl
  | _, _, .cons _ t => by rw [List.length_cons, List.length_cons, RepT.length t]
/-- len -/
def lenD : D → Option Nat
  | .lst xs => some xs.length
  | .tup xs => some xs.length
  | .str l => some l.length
  | .dic ks => some ks.length
  | _ => none
def oLen : DFn := fun ds K => match ds with
  | [d] => match lenD d with
    | some n => K (.int (n : Int))
    | none => False
  | _ => False
theorem cr_len : CallR X (.builtin "len") (rC oLen) := by
  intro pins s σ H xs us Q I rv ⟨F, ds, Qd, ex, r, o, c⟩
  match ds, r, o with
  | [d], r, o =>
    cases r with
    | cons r t =>
      cases t
      cases d <;> first | exact o.elim | skip
      · cases r with
        | str z => exact call_len pins s σ H _ us Q I rv ⟨_, _, rfl, ⟨z, rfl⟩, c F H _ _ (Grow.refl ex) (.int _) o⟩
      · cases r with
        | lst h q z => exact call_len pins s σ H _ us Q I rv ⟨_, _, rfl, .inl ⟨_, .of (ex _ _ h), rfl⟩, by rw [q.length]; exact c F H _ _ (Grow.refl ex) (.int _) o⟩
      · cases r with
        | tup h q z => exact call_len pins s σ H _ us Q I rv ⟨_, _, rfl, .inr ⟨_, .of (ex _ _ h), rfl⟩, by rw [q.length]; exact c F H _ _ (Grow.refl ex) (.int _) o⟩
      · cases r with
        | dK h q => exact call_lenD pins s σ H _ us Q I rv ⟨_, _, rfl, ex _ _ h, by rw [q.length]; exact c F H _ _ (Grow.refl ex) (.int _) o⟩
        | dT h q => exact call_len_dT pins s σ H _ us Q I rv ⟨_, _, rfl, ex _ _ h, by rw [q.length]; exact c F H _ _ (Grow.refl ex) (.int _) o⟩
end

/-! ### what a slot holds, read on the way -/
def RepB (F H : Hp) (v : V) (d : D) : Prop := Rep F v d ∨ ∃ a, v = .ref a ∧ Own F H a d
def cv (ρ : Env) (i : Nat) : Option D := (ρ[i]?).bind Cell.val
theorem EOk.read {g : Gd} {F H : Hp} {σ : L2.St} {ρ : Env} (k : EOk g F σ H ρ) {i : Nat} {d : D} (h : cv ρ i = some d) : ∃ v, σ[i]? = some (some v) ∧ RepB F H v d := by
  unfold cv at h
  cases hc : ρ[i]? with
  | none => rw [hc] at h; cases h
  | some c =>
    rw [hc] at h
    obtain ⟨v, hv, q⟩ := k.slot hc
    cases c with
    | un => cases h
    | fz d' => cases h; obtain ⟨x, e, r⟩ := q; subst e; exact ⟨x, hv, .inl r⟩
    | ow d' => cases h; obtain ⟨a, e, r, _⟩ := q; subst e; exact ⟨_, hv, .inr ⟨a, rfl, r⟩⟩
    | io d' => cases h; obtain ⟨a, e, r, _⟩ := q; subst e; exact ⟨_, hv, .inr ⟨a, rfl, r⟩⟩
section
variable {F H : Hp}
theorem RepB.lst {v : V} {ds : List D} (ex : Ex F H) : RepB F H v (.lst ds) → ∃ a vs, v = .ref a ∧ H a = some (.lst vs) ∧ Reps F vs ds ∧ ds.length ≤ sizeLine
  | .inl (.lst h r z) => ⟨_, _, rfl, ex _ _ h, r, z⟩
  | .inr ⟨a, e, _, ⟨vs, h, r⟩, z⟩ => ⟨a, vs, e, h, r, z⟩
theorem RepB.tup {v : V} {ds : List D} (ex : Ex F H) : RepB F H v (.tup ds) → ∃ a vs, v = .ref a ∧ H a = some (.tup vs) ∧ F a = some (.tup vs) ∧ Reps F vs ds ∧ ds.length ≤ sizeLine
  | .inl (.tup h r z) => ⟨_, _, rfl, ex _ _ h, h, r, z⟩
  | .inr ⟨a, e, o⟩ => o.elim
theorem RepB.str {v : V} {l : List Nat} : RepB F H v (.str l) → v = .str (S l) ∧ l.length ≤ sizeLine
  | .inl (.str z) => ⟨rfl, z⟩
  | .inr ⟨a, e, o⟩ => o.elim
theorem RepB.dic {v : V} {ds : List (D × D)} (ex : Ex F H) : RepB F H v (.dic ds) → ∃ a, v = .ref a ∧ ((∃ ks, H a = some (.dK ks) ∧ RepK F ks ds) ∨ ∃ ks, H a = some (.dT ks) ∧ RepT F ks ds)
  | .inl (.dK h r) => ⟨_, rfl, .inl ⟨_, ex _ _ h, r⟩⟩
  | .inl (.dT h r) => ⟨_, rfl, .inr ⟨_, ex _ _ h, r⟩⟩
  | .inr ⟨a, e, _, .inl ⟨ks, h, r⟩⟩ => ⟨a, e, .inl ⟨ks, h, r⟩⟩
  | .inr ⟨a, e, _, .inr ⟨ks, h, r⟩⟩ => ⟨a, e, .inr ⟨ks, h, r⟩⟩
end
def rO1 (o : DOp) : R2 := fun x y H Q => ∃ F d e Qd, Ex F H ∧ RepB F H x d ∧ Rep F y e ∧ o d e Qd ∧ ∀ F' H' v r, Grow F H F' H' → Rep F' v r → Qd r → Q v H'
theorem rO_rO1 {o : DOp} {x y : V} {H : Hp} {Q : VK} : rO o x y H Q → rO1 o x y H Q := fun ⟨F, d, e, Qd, ex, r1, r2, h, c⟩ => ⟨F, d, e, Qd, ex, .inl r1, r2, h, c⟩
def dBinS (i : Nat) (o : DOp) (db : DTE) : DTE := fun ρ Q => (cv ρ i).isSome = true ∧ db ρ fun e ρ2 => match cv ρ2 i with
  | some d => o d e fun r => Q r ρ2
  | none => False
theorem t_binS {i : Nat} {o : DOp} {db : DTE} {σ : L2.St} {H : Hp} {Q : VK} (h : tE (dBinS i o db) σ H Q) : tOp (rO1 o) (tVar i) (tE db) σ H Q := by
  obtain ⟨g, F, ρ, Qd, k, ⟨h0, h⟩, c⟩ := h
  obtain ⟨d0, hd0⟩ := Option.isSome_iff_exists.mp h0
  obtain ⟨v, hv, _⟩ := k.read hd0
  refine ⟨v, hv, g, F, ρ, _, k, h, fun F1 H1 ρ1 y e k1 e1 r1 h1 => ?_⟩
  cases hc : cv ρ1 i with
  | none => rw [hc] at h1; exact h1.elim
  | some d =>
    rw [hc] at h1
    obtain ⟨v', hv', rb⟩ := k1.read hc
    rw [hv] at hv'
    cases hv'
    exact ⟨F1, d, e, _, k1.ex, rb, r1, h1, fun F3 H3 w r G r3 q => c F3 H3 ρ1 w r (k1.grow G) (e1.trans G.exF) r3 q⟩
/-! ### items, slices -/
def oIx : DOp := fun d e K => match d, e with
  | .lst xs, .int i => match atI xs i with
    | some x => K x
    | none => False
  | .tup xs, .int i => match atI xs i with
    | some x => K x
    | none => False
  | .str l, .int i => match atI l i with
    | some n => K (.str [n])
    | none => False
  | _, _ => False
theorem atI_reps {F : Hp} {vs : List V} {ds : List D} (r : Reps F vs ds) {i : Int} {d : D} (h : atI ds i = some d) : ∃ v, atI vs i = some v ∧ Rep F v d := by
  unfold atI at h ⊢
  rw [r.length]
  cases hx : ixN ds.length i with
  | none => rw [hx] at h; cases h
  | some j =>
    rw [hx] at h
    exact r.get h
section
variable {X : Cx} {e a b c lo hi : Expr} {es : List Expr} {pos p p2 : Pos} {da db dc : DTE} {daa : DTA} {x : Str} {o : DFn}
theorem ix_any : IxR X (rO1 oIx) := by
  intro value slice pins s σ H x y v u Q I rx ry ⟨F, d, e, Qd, ex, r1, r2, o, c⟩ hs
  cases d <;> cases e <;> first | exact o.elim | skip
  · rename_i l i
    cases r2
    obtain ⟨rfl, z⟩ := r1.str
    cases ha : atI l i with
    | none => simp only [oIx, ha] at o
    | some n =>
      simp only [oIx, ha] at o
      exact ix_str value slice pins s σ H _ _ v u Q I rx ry ⟨_, _, _, rfl, rfl, z, ha, c F H _ _ (Grow.refl ex) (.str (l := [n]) (by show 1 ≤ 16777216; decide)) o⟩ hs
  · rename_i xs i
    cases r2
    obtain ⟨a, vs, rfl, h, r, z⟩ := r1.lst ex
    cases ha : atI xs i with
    | none => simp only [oIx, ha] at o
    | some d =>
      simp only [oIx, ha] at o
      obtain ⟨w, hw, rw'⟩ := atI_reps r ha
      exact ix_list value slice pins s σ H _ _ v u Q I rx ry ⟨_, _, _, _, rfl, rfl, .of h, hw, c F H _ _ (Grow.refl ex) rw' o⟩ hs
  · rename_i xs i
    cases r2
    obtain ⟨a, vs, rfl, h, _, r, z⟩ := r1.tup ex
    cases ha : atI xs i with
    | none => simp only [oIx, ha] at o
    | some d =>
      simp only [oIx, ha] at o
      obtain ⟨w, hw, rw'⟩ := atI_reps r ha
      exact ix_tup value slice pins s σ H _ _ v u Q I rx ry ⟨_, _, _, _, rfl, rfl, .of h, hw, c F H _ _ (Grow.refl ex) rw' o⟩ hs
theorem de_ix (ha : PE X a (tE da)) (hb : PE X b (tE db)) (hs : PlainIx b := by intro _ _; rfl) : PE X (.Subscript a b pos) (tE (dBin oIx da db)) :=
  pe_imp (pe_ix ix_any ha hb hs) fun σ H Q h => by
    obtain ⟨g, F, ρ, Qd, k, h, c⟩ := t_bin h
    exact ⟨g, F, ρ, Qd, k, h, fun F' H' ρ' v d k' e' r q => by
      obtain ⟨g2, F2, ρ2, Q2, k2, h2, c2⟩ := c F' H' ρ' v d k' e' r q
      exact ⟨g2, F2, ρ2, Q2, k2, h2, fun F3 H3 ρ3 w e3 k3 e4 r3 q3 => rO_rO1 (c2 F3 H3 ρ3 w e3 k3 e4 r3 q3)⟩⟩
theorem de_ixS (i : Nat) {q : Pos} (ha : PE X (.Name x q) (tVar i)) (hb : PE X b (tE db)) (hs : PlainIx b := by intro _ _; rfl) : PE X (.Subscript (.Name x q) b pos) (tE (dBinS i oIx db)) :=
  pe_imp (pe_ix ix_any ha hb hs) fun _ _ _ h => t_binS h
/-- len(x), x a name -/
def dLenS (i : Nat) : DTE := fun ρ Q => match cv ρ i with
  | some d => match lenD d with
    | some n => Q (.int (n : Int)) ρ
    | none => False
  | none => False
theorem cr_lenB : CallR X (.builtin "len") (fun xs H Q => ∃ F d v n, xs = [v] ∧ Ex F H ∧ RepB F H v d ∧ lenD d = some n ∧ Q (.int (n : Int)) H) := by
  intro pins s σ H xs us Q I rv ⟨F, d, v, n, exs, ex, r, hn, q⟩
  subst exs
  cases d <;> first | (cases hn; done) | skip
  · obtain ⟨rfl, z⟩ := r.str
    cases hn
    exact call_len pins s σ H _ us Q I rv ⟨_, _, rfl, ⟨z, rfl⟩, q⟩
  · obtain ⟨a, vs, rfl, h, rr, z⟩ := r.lst ex
    cases hn
    exact call_len pins s σ H _ us Q I rv ⟨_, _, rfl, .inl ⟨_, .of h, rfl⟩, by rw [rr.length]; exact q⟩
  · obtain ⟨a, vs, rfl, h, _, rr, z⟩ := r.tup ex
    cases hn
    exact call_len pins s σ H _ us Q I rv ⟨_, _, rfl, .inr ⟨_, .of h, rfl⟩, by rw [rr.length]; exact q⟩
  · obtain ⟨a, rfl, ⟨ks, h, rr⟩ | ⟨ks, h, rr⟩⟩ := r.dic ex
    · cases hn
      exact call_lenD pins s σ H _ us Q I rv ⟨_, _, rfl, h, by rw [rr.length]; exact q⟩
    · cases hn
      exact call_len_dT pins s σ H _ us Q I rv ⟨_, _, rfl, h, by rw [rr.length]; exact q⟩
theorem de_lenS (i : Nat) {q : Pos} (hm : X.mg "len" = none) (ha : PE X (.Name x q) (tVar i)) (hg : Gl X "len" := by rfl)
    (he : starEach [.Name x q] X.env = (false, eval (.Name x q) X.env) :: starEach [] X.env := by rfl) (hpl : (backTo pos (starEach [] X.env)).any (·.1) = false := by rfl) : PE X (.Call (.Name "len" p) [.Name x q] [] pos) (tE (dLenS i)) := by
  refine pe_imp (pe_callB cr_lenB hg hm boot_len (pa_cons ha pa_nil he) (by decide) (by decide) he hpl) fun σ H Q ⟨g, F, ρ, Qd, k, h, c⟩ => ?_
  unfold dLenS at h
  cases hc : cv ρ i with
  | none => rw [hc] at h; exact h.elim
  | some d =>
    rw [hc] at h
    cases hn : lenD d with
    | none => simp only [hn] at h
    | some n =>
      simp only [hn] at h
      obtain ⟨v, hv, rb⟩ := k.read hc
      exact ⟨v, hv, F, d, v, n, rfl, k.ex, rb, hn, c F H ρ _ _ k (Ex.refl _) (.int _) h⟩
/-- a[lo:hi] -/
def cutG {α : Type} (xs : List α) (lo hi : Option Int) : List α := (xs.drop (HT.sIx xs.length 0 lo)).take (HT.sIx xs.length xs.length hi - HT.sIx xs.length 0 lo)
theorem cutG_length {α : Type} (xs : List α) (lo hi : Option Int) : (cutG xs lo hi).length ≤ xs.length := by
  unfold cutG
  rw [List.length_take, List.length_drop]
  omega
abbrev DTO := Env → (Option Int → Env → Prop) → Prop
def tO (d : DTO) : TO := fun σ H Q => ∃ g F ρ Qd, EOk g F σ H ρ ∧ d ρ Qd ∧ ∀ F' H' ρ' o, EOk g F' σ H' ρ' → Ex F F' → Qd o ρ' → Q o H'
def dNo : DTO := fun ρ Q => Q none ρ
def dPt (de : DTE) : DTO := fun ρ Q => de ρ fun d ρ' => match d with
  | .int i => Q (some i) ρ'
  | _ => False
theorem po_imp {o : Option Expr} {t t' : TO} (h : PO X o t) (i : ∀ σ H Q, t' σ H Q → t σ H Q) : PO X o t' := ⟨fun pins s σ H Q I q => h.run pins s σ H Q I (i σ H Q q)⟩
theorem do_no : PO X none (tO dNo) := po_imp po_none fun σ H Q ⟨g, F, ρ, Qd, k, h, c⟩ => c F H ρ none k (Ex.refl _) h
theorem do_pt (h : PE X e (tE da)) : PO X (some e) (tO (dPt da)) := by
  refine po_imp (po_some h) fun σ H Q ⟨g, F, ρ, Qd, k, h, c⟩ => ?_
  refine ⟨g, F, ρ, _, k, h, fun F1 H1 ρ1 v d k1 e1 r1 h1 => ?_⟩
  cases d <;> first | exact h1.elim | skip
  cases r1
  exact ⟨_, rfl, c F1 H1 ρ1 _ k1 e1 h1⟩
def oSl : D → Option Int → Option Int → (D → Prop) → Prop := fun d lo hi K => match d with
  | .lst xs => K (.lst (cutG xs lo hi))
  | .tup xs => K (.tup (cutG xs lo hi))
  | .str l => K (.str (cutG l lo hi))
  | _ => False
def rSl (K : PySem.W.Frag) : V → Option Int → Option Int → Hp → VK → Prop := fun x lo hi H Q => rSlL K x lo hi H Q ∨ (rSlA K x lo hi H Q ∨ rSlS x lo hi H Q)
theorem sl_any : SlR X (rSl X.K) := sl_list.or (sl_tupA.or sl_str)
theorem r_sl {K : PySem.W.Frag} {F H : Hp} {v : V} {d : D} {lo hi : Option Int} {Qd : D → Prop} {Q : VK} (ex : Ex F H) (r : RepB F H v d) (h : oSl d lo hi Qd) (c : ∀ F' H' v r, Grow F H F' H' → Rep F' v r → Qd r → Q v H') : rSl K v lo hi H Q := by
  cases d <;> first | exact h.elim | skip
  · obtain ⟨rfl, z⟩ := r.str
    rename_i l
    refine .inr (.inr ⟨_, rfl, z, ?_⟩)
    have e : cutS (S l) lo hi = S (cutG l lo hi) := rfl
    rw [e]
    exact c F H _ _ (Grow.refl ex) (.str (Nat.le_trans (cutG_length _ _ _) z)) h
  · rename_i xs
    obtain ⟨a, vs, rfl, hh, rr, z⟩ := r.lst ex
    refine .inl ⟨_, _, rfl, .of hh, fun p hp => ?_⟩
    have G := Grow.alloc (o := .lst (cutV vs lo hi)) ex hp
    have e : Reps F (cutV vs lo hi) (cutG xs lo hi) := by
      unfold cutV cutG
      rw [rr.length]
      exact (rr.drop _).take _
    exact c _ _ _ _ G (.lst upd_same (e.mono G.exF) (Nat.le_trans (cutG_length _ _ _) z)) h
  · rename_i xs
    obtain ⟨a, vs, rfl, hh, hF, rr, z⟩ := r.tup ex
    have e : Reps F (cutV vs lo hi) (cutG xs lo hi) := by
      unfold cutV cutG
      rw [rr.length]
      exact (rr.drop _).take _
    refine .inr (.inl ⟨_, _, rfl, .of hh, fun hn => ?_, fun hn p hp => ?_⟩)
    · have e2 : cutG xs lo hi = xs := by
        unfold cutG
        rw [rr.length] at hn
        rw [hn.1, hn.2, List.drop_zero, Nat.sub_zero, List.take_length]
      have h : Qd (.tup (cutG xs lo hi)) := h
      rw [e2] at h
      exact c F H _ _ (Grow.refl ex) (.tup hF rr z) h
    · have G := Grow.alloc (o := .tup (cutV vs lo hi)) ex hp
      exact c _ _ _ _ G (.tup upd_same (e.mono G.exF) (Nat.le_trans (cutG_length _ _ _) z)) h
def dSl (da : DTE) (dl dh : DTO) : DTE := fun ρ Q => da ρ fun d ρ1 => dl ρ1 fun lo ρ2 => dh ρ2 fun hi ρ3 => oSl d lo hi fun r => Q r ρ3
theorem de_sl {lo hi : Option Expr} {dl dh : DTO} (ha : PE X a (tE da)) (hl : PO X lo (tO dl)) (hh : PO X hi (tO dh)) : PE X (.Subscript a (.Slice lo hi none p2) pos) (tE (dSl da dl dh)) := by
  refine pe_imp (pe_slice sl_any ha hl hh) fun σ H Q ⟨g, F, ρ, Qd, k, h, c⟩ => ?_
  refine ⟨g, F, ρ, _, k, h, fun F1 H1 ρ1 v d k1 e1 r1 h1 => ⟨g, F1, ρ1, _, k1, h1, fun F2 H2 ρ2 lo k2 e2 h2 => ⟨g, F2, ρ2, _, k2, h2, fun F3 H3 ρ3 hi k3 e3 h3 => ?_⟩⟩⟩
  exact r_sl k3.ex (.inl ((r1.mono e2).mono e3)) h3 fun F' H' w r G rr q => c F' H' ρ3 w r (k3.grow G) (((e1.trans e2).trans e3).trans G.exF) rr q
def dSlS (i : Nat) (dl dh : DTO) : DTE := fun ρ Q => (cv ρ i).isSome = true ∧ dl ρ fun lo ρ2 => dh ρ2 fun hi ρ3 => match cv ρ3 i with
  | some d => oSl d lo hi fun r => Q r ρ3
  | none => False
theorem de_slS (i : Nat) {q : Pos} {lo hi : Option Expr} {dl dh : DTO} (ha : PE X (.Name x q) (tVar i)) (hl : PO X lo (tO dl)) (hh : PO X hi (tO dh)) : PE X (.Subscript (.Name x q) (.Slice lo hi none p2) pos) (tE (dSlS i dl dh)) := by
  refine pe_imp (pe_slice sl_any ha hl hh) fun σ H Q ⟨g, F, ρ, Qd, k, ⟨h0, h⟩, c⟩ => ?_
  obtain ⟨d0, hd0⟩ := Option.isSome_iff_exists.mp h0
  obtain ⟨v, hv, _⟩ := k.read hd0
  refine ⟨v, hv, g, F, ρ, _, k, h, fun F2 H2 ρ2 lo k2 e2 h2 => ⟨g, F2, ρ2, _, k2, h2, fun F3 H3 ρ3 hi k3 e3 h3 => ?_⟩⟩
  cases hc : cv ρ3 i with
  | none => rw [hc] at h3; exact h3.elim
  | some d =>
    rw [hc] at h3
    obtain ⟨v', hv', rb⟩ := k3.read hc
    rw [hv] at hv'
    cases hv'
    exact r_sl k3.ex rb h3 fun F' H' w r G rr q => c F' H' ρ3 w r (k3.grow G) ((e2.trans e3).trans G.exF) rr q
/-- x[::-1] of a list or a text is below -/
theorem e_step : True := trivial
end
end DL

namespace DL
open PySem PySem.Spec PyProof.Rows L2
section
variable {X : Cx} {e a b c lo hi : Expr} {es : List Expr} {pos p p2 : Pos} {da db dc : DTE} {daa : DTA} {x : Str} {o : DFn}
/-! ### stores into one's own list -/
def oStL : List D → D → D → Option (List D) := fun xs j v => match j with
  | .int k => match ixN xs.length k with
    | some n => some (xs.set n v)
    | none => none
  | _ => none
/-- x[j] = v, x a name of a list -/
def dStL (i : Nat) (dv dj : DTE) : DTS := fun D ρ => dv ρ fun v ρ1 => (cv ρ1 i).isSome = true ∧ dj ρ1 fun j ρ2 => match ρ2[i]? with
  | some c => c.own = true ∧ match c.val with
    | some (.lst xs) => match oStL xs j v with
      | some ys => D.nx (ρ2.set i (c.up (.lst ys)))
      | none => False
    | _ => False
  | none => False
theorem own_lst {g : Gd} {F H : Hp} {σ : L2.St} {ρ : Env} (k : EOk g F σ H ρ) {i : Nat} {c : Cell} {xs : List D} (h : ρ[i]? = some c) (hc : c.own = true) (hv : c.val = some (.lst xs)) :
    ∃ a vs, σ[i]? = some (some (.ref a)) ∧ H a = some (.lst vs) ∧ Reps F vs xs ∧ xs.length ≤ sizeLine ∧ F a = none := by
  obtain ⟨v, hs, q⟩ := k.slot h
  cases c with
  | un => cases hc
  | fz _ => cases hc
  | ow d => cases hv; obtain ⟨a, e, ⟨n, ⟨vs, h1, r⟩, z⟩, _⟩ := q; subst e; exact ⟨a, vs, hs, h1, r, z, n⟩
  | io d => cases hv; obtain ⟨a, e, ⟨n, ⟨vs, h1, r⟩, z⟩, _⟩ := q; subst e; exact ⟨a, vs, hs, h1, r, z, n⟩
/-- the list in a slot becomes another one -/
theorem EOk.setLst {g : Gd} {F H : Hp} {σ : L2.St} {ρ : Env} (k : EOk g F σ H ρ) {i : Nat} {c : Cell} {a : Addr} {ws : List V} {ys : List D} (h : ρ[i]? = some c) (hc : c.own = true) (hs : σ[i]? = some (some (.ref a))) (n : F a = none) (r : Reps F ws ys) (z : ys.length ≤ sizeLine) :
    EOk g F σ (upd H a (.lst ws)) (ρ.set i (c.up (.lst ys))) :=
  k.turn h hc hs (Ex.refl _) (fun b u hb => by rw [upd_ne (ne_of_none hb n)]; exact k.ex b u hb) (fun b u hb ne => by rw [upd_ne ne]; exact hb) (fun _ _ h => .inl h) ⟨n, ⟨ws, upd_same, r⟩, z⟩
theorem ds_stL (i : Nat) {q : Pos} (hx : PE X (.Name x q) (tVar i)) (hv : PE X e (tE da)) (hj : PE X b (tE db))
    (ha : ∀ v, assign (.Subscript (.Name x q) b p) X.env v = (do
      let ov ← holding [v] (eval (.Name x q) X.env)
      let iv ← holding [v, ov] (eval b X.env)
      standAt p
      holding [v, ov, iv] (setItem ov iv v)
      release [v, ov, iv] []) := by intro _; rfl)
    (hs : swapsWithSole [.Subscript (.Name x q) b p] e pos.line X.env = pure false := by rfl) (hw : swappedStores [.Subscript (.Name x q) b p] e X.env = pure none := by rfl)
    (h1 : (assignEach [.Subscript (.Name x q) b p] X.env).map (·.2) = [assign (.Subscript (.Name x q) b p) X.env] := by rfl) :
    PS X (.Assign [.Subscript (.Name x q) b p] e pos) (tS (dStL i da db)) := by
  refine ps_imp (ps_asg hv (pg_sub hx hj set_list ha) hs hw h1) fun D σ H ⟨g, F, ρ, Dd, k, h, s⟩ => ?_
  refine ⟨g, F, ρ, _, k, h, fun F1 H1 ρ1 v d k1 e1 r1 ⟨h0, h1⟩ => ?_⟩
  obtain ⟨d0, hd0⟩ := Option.isSome_iff_exists.mp h0
  obtain ⟨w, hw, _⟩ := k1.read hd0
  refine ⟨w, hw, g, F1, ρ1, _, k1, h1, fun F2 H2 ρ2 y j k2 e2 r2 h2 => ?_⟩
  cases hc : ρ2[i]? with
  | none => rw [hc] at h2; exact h2.elim
  | some c =>
    rw [hc] at h2
    obtain ⟨ho, h2⟩ := h2
    cases hl : c.val with
    | none => rw [hl] at h2; exact h2.elim
    | some d1 =>
      cases d1 with
      | lst xs =>
        simp only [hl] at h2
        obtain ⟨a, vs, hs, hH, r, z, n⟩ := own_lst k2 hc ho hl
        rw [hw] at hs
        cases hs
        cases j <;> first | (simp only [oStL] at h2; done) | skip
        rename_i jj
        cases hx : ixN xs.length jj with
        | none => simp only [oStL, hx] at h2
        | some m =>
          simp only [oStL, hx] at h2
          cases r2
          refine ⟨a, vs, jj, m, rfl, rfl, hH, by rw [r.length]; exact hx, ?_⟩
          exact s.nx F2 σ _ _ (k2.setLst hc ho hw n (r.set m (r1.mono e2)) (by rw [List.length_set]; exact z)) (e1.trans e2) h2
      | _ => rw [hl] at h2; exact h2.elim
/-- x.append(v), x a name of a list -/
def dApp (i : Nat) (dv : DTE) : DTS := fun D ρ => (∃ xs, cv ρ i = some (.lst xs)) ∧ dv ρ fun v ρ2 => match ρ2[i]? with
  | some c => c.own = true ∧ match c.val with
    | some (.lst xs) => xs.length < sizeLine ∧ D.nx (ρ2.set i (c.up (.lst (xs ++ [v]))))
    | _ => False
  | none => False
theorem RepB.ty {K : PySem.W.Frag} {F H : Hp} {v : V} {xs : List D} (ex : Ex F H) (r : RepB F H v (.lst xs)) : tyV K "list" v H := by
  obtain ⟨a, vs, rfl, h, _, _⟩ := r.lst ex
  exact .inl ⟨rfl, vs, .of h⟩
theorem ds_app (i : Nat) {q apos : Pos} (hx : PE X (.Name x q) (tVar i)) (hv : PE X e (tE da))
    (hbase : attributeBase (.Name x q) "append" X.env (eval (.Name x q) X.env) = eval (.Name x q) X.env := by rfl)
    (hfew : ((backTo p (starEach [e] X.env)).all (fun x => !x.1) && (backToKw p (keywordEach [] X.env)).all (fun x => x.1.isSome)
      && decide ([e].length + ([] : List Keyword).length + (if ([] : List Keyword).isEmpty then 0 else 1) < 30)) = true := by rfl)
    (hline : (apos.endLine == p.line) = true := by rfl) (he : starEach [e] X.env = (false, eval e X.env) :: starEach [] X.env := by rfl) (hplain : (backTo p (starEach [] X.env)).any (·.1) = false := by rfl)
    (hsw : swapsWith (.Call (.Attribute (.Name x q) "append" apos) [e] [] p) none pos.line X.env = pure false := by rfl) :
    PS X (.Expr (.Call (.Attribute (.Name x q) "append" apos) [e] [] p) pos) (tS (dApp i da)) := by
  refine ps_imp (ps_expr (pe_bm PySem.F.plainAttrs_list PySem.F.slot_list_append PySem.F.type_list_append mt_append hx (pa_cons hv pa_nil he) hbase hfew hline he hplain) hsw) fun D σ H ⟨g, F, ρ, Dd, k, ⟨⟨xs0, h0⟩, h⟩, s⟩ => ?_
  obtain ⟨w, hw, rb⟩ := k.read h0
  refine ⟨w, hw, rb.ty k.ex, g, F, ρ, _, k, h, fun F1 H1 ρ1 v d k1 e1 r1 h1 => ?_⟩
  cases hc : ρ1[i]? with
  | none => rw [hc] at h1; exact h1.elim
  | some c =>
    rw [hc] at h1
    obtain ⟨ho, h1⟩ := h1
    cases hl : c.val with
    | none => rw [hl] at h1; exact h1.elim
    | some d1 =>
      cases d1 with
      | lst xs =>
        simp only [hl] at h1
        obtain ⟨a, vs, hs, hH, r, z, n⟩ := own_lst k1 hc ho hl
        rw [hw] at hs
        cases hs
        refine ⟨a, vs, v, rfl, rfl, hH, by rw [r.length]; exact h1.1, ?_⟩
        exact s.nx F1 σ _ _ (k1.setLst hc ho hw n (r.append (.cons r1 .nil)) (by rw [List.length_append]; exact h1.1)) e1 h1.2
      | _ => rw [hl] at h1; exact h1.elim
/-- x.extend(v) -/
def dExt (i : Nat) (dv : DTE) : DTS := fun D ρ => (∃ xs, cv ρ i = some (.lst xs)) ∧ dv ρ fun v ρ2 => match ρ2[i]? with
  | some c => c.own = true ∧ match c.val, v with
    | some (.lst xs), .lst ys => xs.length + ys.length ≤ sizeLine ∧ D.nx (ρ2.set i (c.up (.lst (xs ++ ys))))
    | _, _ => False
  | none => False
theorem ds_ext (i : Nat) {q apos : Pos} (hx : PE X (.Name x q) (tVar i)) (hv : PE X e (tE da))
    (hbase : attributeBase (.Name x q) "extend" X.env (eval (.Name x q) X.env) = eval (.Name x q) X.env := by rfl)
    (hfew : ((backTo p (starEach [e] X.env)).all (fun x => !x.1) && (backToKw p (keywordEach [] X.env)).all (fun x => x.1.isSome)
      && decide ([e].length + ([] : List Keyword).length + (if ([] : List Keyword).isEmpty then 0 else 1) < 30)) = true := by rfl)
    (hline : (apos.endLine == p.line) = true := by rfl) (he : starEach [e] X.env = (false, eval e X.env) :: starEach [] X.env := by rfl) (hplain : (backTo p (starEach [] X.env)).any (·.1) = false := by rfl)
    (hsw : swapsWith (.Call (.Attribute (.Name x q) "extend" apos) [e] [] p) none pos.line X.env = pure false := by rfl) :
    PS X (.Expr (.Call (.Attribute (.Name x q) "extend" apos) [e] [] p) pos) (tS (dExt i da)) := by
  refine ps_imp (ps_expr (pe_bm PySem.F.plainAttrs_list PySem.F.slot_list_extend PySem.F.type_list_extend mt_extend hx (pa_cons hv pa_nil he) hbase hfew hline he hplain) hsw) fun D σ H ⟨g, F, ρ, Dd, k, ⟨⟨xs0, h0⟩, h⟩, s⟩ => ?_
  obtain ⟨w, hw, rb⟩ := k.read h0
  refine ⟨w, hw, rb.ty k.ex, g, F, ρ, _, k, h, fun F1 H1 ρ1 v d k1 e1 r1 h1 => ?_⟩
  cases hc : ρ1[i]? with
  | none => rw [hc] at h1; exact h1.elim
  | some c =>
    rw [hc] at h1
    obtain ⟨ho, h1⟩ := h1
    cases hl : c.val with
    | none => rw [hl] at h1; exact h1.elim
    | some d1 =>
      cases d1 <;> first | (simp only [hl] at h1; done) | skip
      cases d <;> first | (simp only [hl] at h1; done) | skip
      simp only [hl] at h1
      obtain ⟨a, vs, hs, hH, r, z, n⟩ := own_lst k1 hc ho hl
      rw [hw] at hs
      cases hs
      cases r1 with
      | @lst a2 vs2 _ h2 q2 z2 =>
        refine ⟨a, a2, vs, vs2, rfl, rfl, hH, k1.ex _ _ h2, by rw [r.length, q2.length]; exact h1.1, ?_⟩
        exact s.nx F1 σ _ _ (k1.setLst hc ho hw n (r.append q2) (by rw [List.length_append]; exact h1.1)) e1 h1.2

/-! ### isinstance -/
def tyN : D → Option String
  | .non => some "NoneType"
  | .bl _ => some "bool"
  | .int _ => some "int"
  | .str _ => some "str"
  | .lst _ => some "list"
  | .tup _ => some "tuple"
  | .dic _ => some "dict"
  | .ins _ _ => none
def isiB (a T : String) : Bool := (a == T) || ((a == "bool") && (T == "int"))
def oIsi (T : String) : DUn := fun d K => match tyN d with
  | some a => K (.bl (isiB a T))
  | none => False
def tyNs : List String := ["NoneType", "bool", "int", "str", "list", "tuple", "dict"]
theorem tyN_mem : ∀ {d : D} {a : String}, tyN d = some a → a ∈ tyNs
  | .non, _, h => by cases h; decide
  | .bl _, _, h => by cases h; decide
  | .int _, _, h => by cases h; decide
  | .str _, _, h => by cases h; decide
  | .lst _, _, h => by cases h; decide
  | .tup _, _, h => by cases h; decide
  | .dic _, _, h => by cases h; decide
theorem Rep.tyOf {K : PySem.W.Frag} {F H : Hp} (ex : Ex F H) {v : V} {a : String} : ∀ {d : D}, Rep F v d → tyN d = some a → TyOf K H v (.type a)
  | .non, .non, h => by cases h; exact .non
  | .bl _, .bl b, h => by cases h; exact .bl b
  | .int _, .int b, h => by cases h; exact .int b
  | .str _, .str b, h => by cases h; exact .str _
  | .lst _, .lst q _ _, h => by cases h; exact .lst (ex _ _ q)
  | .tup _, .tup q _ _, h => by cases h; exact .tup (ex _ _ q)
  | .dic _, .dK q _, h => by cases h; exact .dK (ex _ _ q)
  | .dic _, .dT q _, h => by cases h; exact .dT (ex _ _ q)
def isiT (T : String) : Bool := tyNs.all fun a => kitB a T == some (isiB a T)
theorem de_isi (T : String) {y : Str} {q : Pos} (hT : isiT T = true) (hm : X.mg "isinstance" = none) (hmT : X.mg y = none) (ha : PE X a (tE da)) (hy : bootBuiltins y = some (.type T) := by first | rfl | decide +kernel) (hg : Gl X "isinstance" := by rfl) (hgT : Gl X y := by rfl)
    (hny : y ≠ "__name__" := by decide) (hdy : (y == ("__debug__" : Str)) = false := by decide)
    (he : starEach [a, .Name y q] X.env = (false, eval a X.env) :: starEach [.Name y q] X.env := by rfl) (he2 : starEach [.Name y q] X.env = (false, eval (.Name y q) X.env) :: starEach [] X.env := by rfl) (hpl : (backTo pos (starEach [.Name y q] X.env)).any (·.1) = false := by rfl)
    (hb : bootBuiltins "isinstance" = some (.builtin "isinstance") := by decide +kernel) :
    PE X (.Call (.Name "isinstance" p) [a, .Name y q] [] pos) (tE (dUn (oIsi T) da)) := by
  refine pe_imp (pe_callB call_isi hg hm hb (pa_cons ha (pa_cons (pe_bltn (v := .ty T) hgT hmT hy rfl hny hdy) pa_nil he2) he) (by decide) (by decide) he hpl) fun σ H Q ⟨g, F, ρ, Qd, k, h, c⟩ => ?_
  refine ⟨g, F, ρ, _, k, h, fun F1 H1 ρ1 v d k1 e1 r1 h1 => ?_⟩
  cases ht : tyN d with
  | none => simp only [oIsi, ht] at h1
  | some t =>
    simp only [oIsi, ht] at h1
    refine ⟨v, .ty T, .type t, .type T, isiB t T, rfl, .ty T, .base (r1.tyOf k1.ex ht), ?_, c F1 H1 ρ1 _ _ k1 e1 (.bl _) h1⟩
    exact kit_ty (by simpa using List.all_eq_true.mp hT t (tyN_mem ht))

/-! ### is -/
/-- d is e, e None or a flag -/
def D.isNon : D → Bool
  | .non => true
  | _ => false
def oIs : DOp := fun d e K => match e with
  | .non => K (.bl d.isNon)
  | .bl b => K (.bl (match d with | .bl a => a == b | _ => false))
  | _ => False
def oIsN : DOp := fun d e K => match e with
  | .non => K (.bl (!d.isNon))
  | .bl b => K (.bl (match d with | .bl a => !(a == b) | _ => true))
  | _ => False
theorem or_is : OpR X (compareOp .Is) (rO oIs) := by
  intro pins s σ H x y v u Q I rx ry ⟨F, d, e, Qd, ex, r1, r2, o, c⟩
  cases e <;> first | exact o.elim | skip
  · cases r2
    refine op_isN pins s σ H _ _ v u Q I rx ry ⟨rfl, ?_⟩
    have : decide (x = V.non) = d.isNon := by
      cases r1 <;> first | rfl | simp
    rw [this]
    exact c F H _ _ (Grow.refl ex) (.bl _) o
  · rename_i b
    cases r2
    cases (show u = Value.bool b from ry)
    cases r1 with
    | non => cases (show v = Value.none from rx); exact wpAny_is_other rfl (fun z => nomatch z) ⟨.bl false, H, I, rfl, c F H _ _ (Grow.refl ex) (.bl _) o⟩
    | bl a =>
      cases (show v = Value.bool a from rx)
      have o : Qd (.bl (a == b)) := o
      by_cases e : a = b
      · subst e
        exact wpAny_is_self rfl ⟨.bl true, H, I, rfl, c F H _ _ (Grow.refl ex) (.bl _) (by simpa using o)⟩
      · exact wpAny_is_other rfl (fun z => e (Value.bool.inj z)) ⟨.bl false, H, I, rfl, c F H _ _ (Grow.refl ex) (.bl _) (by rw [beq_eq_false_iff_ne.mpr e] at o; exact o)⟩
    | int i => obtain ⟨t, rfl⟩ := rx; exact wpAny_is_other rfl (fun z => nomatch z) ⟨.bl false, H, I, rfl, c F H _ _ (Grow.refl ex) (.bl _) o⟩
    | str z => obtain ⟨t, rfl⟩ := rx; exact wpAny_is_other rfl (fun z => nomatch z) ⟨.bl false, H, I, rfl, c F H _ _ (Grow.refl ex) (.bl _) o⟩
    | lst h q z => cases (show v = Value.ref _ from rx); exact wpAny_is_other rfl (fun z => nomatch z) ⟨.bl false, H, I, rfl, c F H _ _ (Grow.refl ex) (.bl _) o⟩
    | tup h q z => cases (show v = Value.ref _ from rx); exact wpAny_is_other rfl (fun z => nomatch z) ⟨.bl false, H, I, rfl, c F H _ _ (Grow.refl ex) (.bl _) o⟩
    | dK h q => cases (show v = Value.ref _ from rx); exact wpAny_is_other rfl (fun z => nomatch z) ⟨.bl false, H, I, rfl, c F H _ _ (Grow.refl ex) (.bl _) o⟩
    | dT h q => cases (show v = Value.ref _ from rx); exact wpAny_is_other rfl (fun z => nomatch z) ⟨.bl false, H, I, rfl, c F H _ _ (Grow.refl ex) (.bl _) o⟩
    | ins h q => cases (show v = Value.ref _ from rx); exact wpAny_is_other rfl (fun z => nomatch z) ⟨.bl false, H, I, rfl, c F H _ _ (Grow.refl ex) (.bl _) o⟩
theorem or_isN : OpR X (compareOp .IsNot) (rO oIsN) := by
  intro pins s σ H x y v u Q I rx ry ⟨F, d, e, Qd, ex, r1, r2, o, c⟩
  cases e <;> first | exact o.elim | skip
  · cases r2
    refine op_notN pins s σ H _ _ v u Q I rx ry ⟨rfl, ?_⟩
    have : (!decide (x = V.non)) = !d.isNon := by
      cases r1 <;> first | rfl | simp
    rw [this]
    exact c F H _ _ (Grow.refl ex) (.bl _) o
  · rename_i b
    cases r2
    cases (show u = Value.bool b from ry)
    cases r1 with
    | non => cases (show v = Value.none from rx); exact wpAny_isNot_other rfl (fun z => nomatch z) ⟨.bl true, H, I, rfl, c F H _ _ (Grow.refl ex) (.bl _) o⟩
    | bl a =>
      cases (show v = Value.bool a from rx)
      have o : Qd (.bl (!(a == b))) := o
      by_cases e : a = b
      · subst e
        exact wpAny_isNot_self rfl ⟨.bl false, H, I, rfl, c F H _ _ (Grow.refl ex) (.bl _) (by simpa using o)⟩
      · exact wpAny_isNot_other rfl (fun z => e (Value.bool.inj z)) ⟨.bl true, H, I, rfl, c F H _ _ (Grow.refl ex) (.bl _) (by rw [beq_eq_false_iff_ne.mpr e] at o; exact o)⟩
    | int i => obtain ⟨t, rfl⟩ := rx; exact wpAny_isNot_other rfl (fun z => nomatch z) ⟨.bl true, H, I, rfl, c F H _ _ (Grow.refl ex) (.bl _) o⟩
    | str z => obtain ⟨t, rfl⟩ := rx; exact wpAny_isNot_other rfl (fun z => nomatch z) ⟨.bl true, H, I, rfl, c F H _ _ (Grow.refl ex) (.bl _) o⟩
    | lst h q z => cases (show v = Value.ref _ from rx); exact wpAny_isNot_other rfl (fun z => nomatch z) ⟨.bl true, H, I, rfl, c F H _ _ (Grow.refl ex) (.bl _) o⟩
    | tup h q z => cases (show v = Value.ref _ from rx); exact wpAny_isNot_other rfl (fun z => nomatch z) ⟨.bl true, H, I, rfl, c F H _ _ (Grow.refl ex) (.bl _) o⟩
    | dK h q => cases (show v = Value.ref _ from rx); exact wpAny_isNot_other rfl (fun z => nomatch z) ⟨.bl true, H, I, rfl, c F H _ _ (Grow.refl ex) (.bl _) o⟩
    | dT h q => cases (show v = Value.ref _ from rx); exact wpAny_isNot_other rfl (fun z => nomatch z) ⟨.bl true, H, I, rfl, c F H _ _ (Grow.refl ex) (.bl _) o⟩
    | ins h q => cases (show v = Value.ref _ from rx); exact wpAny_isNot_other rfl (fun z => nomatch z) ⟨.bl true, H, I, rfl, c F H _ _ (Grow.refl ex) (.bl _) o⟩
end
end DL

namespace DL
open PySem PySem.Spec PyProof.Rows L2
/-! ### data as the library's data; == -/
mutual
def D.py : D → PyData
  | .non => .none
  | .bl b => .bool b
  | .int i => .int i
  | .str l => .str (S l)
  | .lst xs => .list (pys xs)
  | .tup xs => .tuple (pys xs)
  | .dic _ => .dict []
  | .ins _ _ => .dict []
def pys : List D → List PyData
  | [] => []
  | x :: xs => x.py :: pys xs
end
mutual
/-- no dict and no instance within -/
def D.pl : D → Bool
  | .dic _ => false
  | .ins _ _ => false
  | .lst xs => pls xs
  | .tup xs => pls xs
  | _ => true
def pls : List D → Bool
  | [] => true
  | x :: xs => x.pl && pls xs
end
mutual
/-- how deep -/
def D.dep : D → Nat
  | .lst xs => deps xs + 1
  | .tup xs => deps xs + 1
  | _ => 0
def deps : List D → Nat
  | [] => 0
  | x :: xs => max x.dep (deps xs)
end
mutual
/-- a == b -/
def D.eq : D → D → Bool
  | .non, .non => true
  | .bl a, .bl b => a == b
  | .bl a, .int j => (if a then 1 else 0) == j
  | .int i, .bl b => i == (if b then 1 else 0)
  | .int i, .int j => i == j
  | .str x, .str y => x == y
  | .lst x, .lst y => eqs x y
  | .tup x, .tup y => eqs x y
  | _, _ => false
def eqs : List D → List D → Bool
  | [], [] => true
  | x :: xs, y :: ys => x.eq y && eqs xs ys
  | _, _ => false
end
mutual
theorem pl_plain : ∀ d : D, d.pl = true → d.py.plain = true
  | .non, _ => rfl
  | .bl _, _ => rfl
  | .int _, _ => rfl
  | .str _, _ => rfl
  | .lst xs, h => pls_plain xs h
  | .tup xs, h => pls_plain xs h
  | .dic _, h => by cases h
  | .ins _ _, h => by cases h
theorem pls_plain : ∀ ds : List D, pls ds = true → PyData.plainAll (pys ds) = true
  | [], _ => rfl
  | x :: xs, h => by
    simp only [pls, Bool.and_eq_true] at h
    simp only [pys, PyData.plainAll, pl_plain x h.1, pls_plain xs h.2, Bool.and_self]
end
mutual
theorem dep_py : ∀ d : D, d.py.depth ≤ d.dep + 1
  | .non => Nat.zero_le _
  | .bl _ => Nat.zero_le _
  | .int _ => Nat.zero_le _
  | .str _ => Nat.zero_le _
  | .lst xs => by
    show PyData.depthAll (pys xs) + 1 ≤ deps xs + 1 + 1
    have := deps_py xs
    omega
  | .tup xs => by
    show PyData.depthAll (pys xs) + 1 ≤ deps xs + 1 + 1
    have := deps_py xs
    omega
  | .dic _ => by show 0 + 1 ≤ _; simp [D.dep]
  | .ins _ _ => by show 0 + 1 ≤ _; simp [D.dep]
theorem deps_py : ∀ ds : List D, PyData.depthAll (pys ds) ≤ deps ds + 1
  | [] => Nat.zero_le _
  | x :: xs => by
    show max x.py.depth (PyData.depthAll (pys xs)) ≤ max x.dep (deps xs) + 1
    have := dep_py x
    have := deps_py xs
    omega
end
theorem S_beq (x y : List Nat) : (S x == S y) = (x == y) := by
  by_cases h : x = y
  · subst h; simp
  · rw [beq_eq_false_iff_ne.mpr h]
    refine beq_eq_false_iff_ne.mpr fun e => h ?_
    have := congrArg (fun z : Str => z.cps.toList) e
    simpa [S] using this
mutual
theorem eq_py : ∀ a b : D, a.pl = true → b.pl = true → PyData.eqv a.py b.py = a.eq b
  | .non, b, _, hb => by cases b <;> first | rfl | cases hb
  | .bl x, b, _, hb => by cases b <;> first | rfl | cases hb
  | .int x, b, _, hb => by cases b <;> first | rfl | cases hb
  | .str x, b, _, hb => by
    cases b <;> first | rfl | cases hb | skip
    exact S_beq _ _
  | .lst xs, b, ha, hb => by
    cases b <;> first | rfl | cases hb | skip
    exact eqs_py _ _ ha hb
  | .tup xs, b, ha, hb => by
    cases b <;> first | rfl | cases hb | skip
    exact eqs_py _ _ ha hb
  | .dic _, _, h, _ => by cases h
  | .ins _ _, _, h, _ => by cases h
theorem eqs_py : ∀ xs ys : List D, pls xs = true → pls ys = true → PyData.eqvAll (pys xs) (pys ys) = eqs xs ys
  | [], [], _, _ => rfl
  | [], y :: ys, _, _ => rfl
  | x :: xs, [], _, _ => rfl
  | x :: xs, y :: ys, h1, h2 => by
    simp only [pls, Bool.and_eq_true] at h1 h2
    show (PyData.eqv x.py y.py && PyData.eqvAll (pys xs) (pys ys)) = (x.eq y && eqs xs ys)
    rw [eq_py x y h1.1 h2.1, eqs_py xs ys h1.2 h2.2]
end
mutual
theorem Rep.dp {K : PySem.W.Frag} {F H : Hp} (ex : Ex F H) : ∀ {v : V} {d : D}, Rep F v d → d.pl = true → Dp K H v d.py
  | _, _, .non, _ => .non
  | _, _, .bl b, _ => .bl b
  | _, _, .int i, _ => .int i
  | _, _, .str z, _ => .str _
  | _, _, .lst h r z, p => .lst (.of (ex _ _ h)) (Reps.dp ex r p)
  | _, _, .tup h r z, p => .tup (.of (ex _ _ h)) (Reps.dp ex r p)
theorem Reps.dp {K : PySem.W.Frag} {F H : Hp} (ex : Ex F H) : ∀ {v : List V} {d : List D}, Reps F v d → pls d = true → DpAll K H v (pys d)
  | _, _, .nil, _ => .nil
  | _, _, .cons r t, p => by
    simp only [pls, Bool.and_eq_true] at p
    exact .cons (Rep.dp ex r p.1) (Reps.dp ex t p.2)
end
def oEq : DOp := fun d e K => d.pl = true ∧ e.pl = true ∧ (d.dep ≤ 50 ∨ e.dep ≤ 50) ∧ K (.bl (d.eq e))
def oNe : DOp := fun d e K => d.pl = true ∧ e.pl = true ∧ (d.dep ≤ 50 ∨ e.dep ≤ 50) ∧ K (.bl (!d.eq e))
section
variable {X : Cx} {e a b c lo hi : Expr} {es : List Expr} {pos p p2 : Pos} {da db dc : DTE} {daa : DTA} {x : Str} {o : DFn} {k : Nat}
theorem or_eq (hr : Room k X.A) : OpR X (compareOp .Eq) (rO oEq) := by
  intro pins s σ H x y v u Q I rx ry ⟨F, d, e, Qd, ex, r1, r2, ⟨p1, p2, hd, o⟩, c⟩
  obtain ⟨as, q1⟩ := Dp.reads I d.py x v (r1.dp ex p1) rx
  obtain ⟨bs, q2⟩ := Dp.reads I e.py y u (r2.dp ex p2) ry
  have h1 := dep_py d
  have h2 := dep_py e
  have h3 := hr.units
  refine SeqAt.eq_plain q1 q2 (pl_plain d p1) (pl_plain e p2) (by omega) ⟨.bl _, H, I, rfl, ?_⟩
  rw [eq_py d e p1 p2]
  exact c F H _ _ (Grow.refl ex) (.bl _) o
theorem or_ne (hr : Room k X.A) : OpR X (compareOp .NotEq) (rO oNe) := by
  intro pins s σ H x y v u Q I rx ry ⟨F, d, e, Qd, ex, r1, r2, ⟨p1, p2, hd, o⟩, c⟩
  obtain ⟨as, q1⟩ := Dp.reads I d.py x v (r1.dp ex p1) rx
  obtain ⟨bs, q2⟩ := Dp.reads I e.py y u (r2.dp ex p2) ry
  have h1 := dep_py d
  have h2 := dep_py e
  have h3 := hr.units
  refine SeqAt.ne_plain q1 q2 (pl_plain d p1) (pl_plain e p2) (by omega) ⟨.bl _, H, I, rfl, ?_⟩
  rw [eq_py d e p1 p2]
  exact c F H _ _ (Grow.refl ex) (.bl _) o

/-! ### more built-ins -/
def oInt : DFn := fun ds K => match ds with
  | [d] => match d with
    | .int i => K (.int i)
    | .bl b => K (.int (if b then 1 else 0))
    | _ => False
  | _ => False
theorem cr_int : CallR X (.type "int") (rC oInt) := by
  intro pins s σ H xs us Q I rv ⟨F, ds, Qd, ex, r, o, c⟩
  match ds, r, o with
  | [d], r, o =>
    cases r with
    | cons r t =>
      cases t
      cases d <;> first | exact o.elim | skip
      · cases r; exact call_int1 pins s σ H _ us Q I rv (.inr ⟨_, rfl, c F H _ _ (Grow.refl ex) (.int _) o⟩)
      · cases r; exact call_int1 pins s σ H _ us Q I rv (.inl ⟨_, rfl, c F H _ _ (Grow.refl ex) (.int _) o⟩)
def oOrd : DFn := fun ds K => match ds with
  | [d] => match d with
    | .str [n] => K (.int (n : Int))
    | _ => False
  | _ => False
theorem cr_ord : CallR X (.builtin "ord") (rC oOrd) := by
  intro pins s σ H xs us Q I rv ⟨F, ds, Qd, ex, r, o, c⟩
  match ds, r, o with
  | [d], r, o =>
    cases r with
    | cons r t =>
      cases t
      cases d <;> first | exact o.elim | skip
      rename_i l
      match l, r, o with
      | [n], r, o =>
      cases r
      exact call_ord pins s σ H _ us Q I rv ⟨_, rfl, rfl, c F H _ _ (Grow.refl ex) (.int _) o⟩
def oAbs : DFn := fun ds K => match ds with
  | [d] => match d with
    | .int i => K (.int (if i < 0 then -i else i))
    | _ => False
  | _ => False
theorem cr_abs : CallR X (.builtin "abs") (rC oAbs) := by
  intro pins s σ H xs us Q I rv ⟨F, ds, Qd, ex, r, o, c⟩
  match ds, r, o with
  | [d], r, o =>
    cases r with
    | cons r t =>
      cases t
      cases d <;> first | exact o.elim | skip
      cases r
      exact call_abs pins s σ H _ us Q I rv ⟨_, rfl, c F H _ _ (Grow.refl ex) (.int _) o⟩
def oMax2 : DFn := fun ds K => match ds with
  | [d, e] => match d, e with
    | .int i, .int j => K (.int (max i j))
    | _, _ => False
  | _ => False
def oMin2 : DFn := fun ds K => match ds with
  | [d, e] => match d, e with
    | .int i, .int j => K (.int (min i j))
    | _, _ => False
  | _ => False
theorem cr_max2 (hc : X.calm = true) : CallR X (.builtin "max") (rC oMax2) := by
  intro pins s σ H xs us Q I rv ⟨F, ds, Qd, ex, r, o, c⟩
  match ds, r, o with
  | [d, e], r, o =>
    cases r with
    | cons r t =>
      cases t with
      | cons r2 t =>
        cases t
        cases d <;> first | exact o.elim | skip
        cases e <;> first | exact o.elim | skip
        rename_i i j
        cases r
        cases r2
        refine call_max2 hc pins s σ H _ us Q I rv ⟨_, _, rfl, ?_⟩
        have : (if j > i then j else i) = max i j := by omega
        rw [this]
        exact c F H _ _ (Grow.refl ex) (.int _) o
theorem cr_min2 (hc : X.calm = true) : CallR X (.builtin "min") (rC oMin2) := by
  intro pins s σ H xs us Q I rv ⟨F, ds, Qd, ex, r, o, c⟩
  match ds, r, o with
  | [d, e], r, o =>
    cases r with
    | cons r t =>
      cases t with
      | cons r2 t =>
        cases t
        cases d <;> first | exact o.elim | skip
        cases e <;> first | exact o.elim | skip
        rename_i i j
        cases r
        cases r2
        refine call_min2 hc pins s σ H _ us Q I rv ⟨_, _, rfl, ?_⟩
        have : (if j < i then j else i) = min i j := by omega
        rw [this]
        exact c F H _ _ (Grow.refl ex) (.int _) o
def boolsOf : List D → Option (List Bool)
  | [] => some []
  | .bl b :: r => (boolsOf r).map (b :: ·)
  | _ => none
theorem reps_bools {F : Hp} : ∀ {vs : List V} {ds : List D} {bs : List Bool}, Reps F vs ds → boolsOf ds = some bs → vs = bs.map V.bl
  | _, _, _, .nil, h => by cases h; rfl
  | _, .bl b :: r, bs, .cons q t, h => by
    simp only [boolsOf] at h
    cases hb : boolsOf r with
    | none => rw [hb] at h; cases h
    | some cs =>
      rw [hb] at h
      cases h
      cases q
      rw [reps_bools t hb]
      rfl
def intsOf : List D → Option (List Int)
  | [] => some []
  | .int b :: r => (intsOf r).map (b :: ·)
  | _ => none
theorem reps_ints {F : Hp} : ∀ {vs : List V} {ds : List D} {bs : List Int}, Reps F vs ds → intsOf ds = some bs → vs = bs.map V.int
  | _, _, _, .nil, h => by cases h; rfl
  | _, .int b :: r, bs, .cons q t, h => by
    simp only [intsOf] at h
    cases hb : intsOf r with
    | none => rw [hb] at h; cases h
    | some cs =>
      rw [hb] at h
      cases h
      cases q
      rw [reps_ints t hb]
      rfl
def strsOf : List D → Option (List (List Nat))
  | [] => some []
  | .str b :: r => (strsOf r).map (b :: ·)
  | _ => none
theorem reps_strs {F : Hp} : ∀ {vs : List V} {ds : List D} {bs : List (List Nat)}, Reps F vs ds → strsOf ds = some bs → vs = (bs.map S).map V.str
  | _, _, _, .nil, h => by cases h; rfl
  | _, .str b :: r, bs, .cons q t, h => by
    simp only [strsOf] at h
    cases hb : strsOf r with
    | none => rw [hb] at h; cases h
    | some cs =>
      rw [hb] at h
      cases h
      cases q
      rw [reps_strs t hb]
      rfl
def oAny : DFn := fun ds K => match ds with
  | [d] => match d with
    | .lst xs => match boolsOf xs with
      | some bs => K (.bl (bs.any id))
      | none => False
    | _ => False
  | _ => False
def oAll : DFn := fun ds K => match ds with
  | [d] => match d with
    | .lst xs => match boolsOf xs with
      | some bs => K (.bl (bs.all id))
      | none => False
    | _ => False
  | _ => False
def oSum : DFn := fun ds K => match ds with
  | [d] => match d with
    | .lst xs => match intsOf xs with
      | some bs => K (.int bs.sum)
      | none => False
    | _ => False
  | _ => False
theorem cr_any' (hc : X.calm = true) : CallR X (.builtin "any") (rC oAny) := by
  intro pins s σ H xs us Q I rv ⟨F, ds, Qd, ex, r, o, c⟩
  match ds, r, o with
  | [d], r, o =>
    cases r with
    | cons r t =>
      cases t
      cases d <;> first | exact o.elim | skip
      rename_i xs
      cases r with
      | lst h q z =>
        cases hb : boolsOf xs with
        | none => simp only [oAny, hb] at o
        | some bs =>
          simp only [oAny, hb] at o
          refine cr_any hc pins s σ H _ us Q I rv ⟨_, bs, rfl, ?_, c F H _ _ (Grow.refl ex) (.bl _) o⟩
          rw [← reps_bools q hb]
          exact .of (ex _ _ h)
theorem cr_all' (hc : X.calm = true) : CallR X (.builtin "all") (rC oAll) := by
  intro pins s σ H xs us Q I rv ⟨F, ds, Qd, ex, r, o, c⟩
  match ds, r, o with
  | [d], r, o =>
    cases r with
    | cons r t =>
      cases t
      cases d <;> first | exact o.elim | skip
      rename_i xs
      cases r with
      | lst h q z =>
        cases hb : boolsOf xs with
        | none => simp only [oAll, hb] at o
        | some bs =>
          simp only [oAll, hb] at o
          refine cr_all hc pins s σ H _ us Q I rv ⟨_, bs, rfl, ?_, c F H _ _ (Grow.refl ex) (.bl _) o⟩
          rw [← reps_bools q hb]
          exact .of (ex _ _ h)
theorem cr_sum' (hc : X.calm = true) : CallR X (.builtin "sum") (rC oSum) := by
  intro pins s σ H xs us Q I rv ⟨F, ds, Qd, ex, r, o, c⟩
  match ds, r, o with
  | [d], r, o =>
    cases r with
    | cons r t =>
      cases t
      cases d <;> first | exact o.elim | skip
      rename_i xs
      cases r with
      | lst h q z =>
        cases hb : intsOf xs with
        | none => simp only [oSum, hb] at o
        | some bs =>
          simp only [oSum, hb] at o
          refine cr_sum hc pins s σ H _ us Q I rv ⟨_, bs, rfl, ?_, c F H _ _ (Grow.refl ex) (.int _) o⟩
          rw [← reps_ints q hb]
          exact .of (ex _ _ h)
/-- list(xs): a new one -/
def oList : DFn := fun ds K => match ds with
  | [d] => match d with
    | .lst xs => K (.lst xs)
    | .tup xs => K (.lst xs)
    | _ => False
  | _ => False
theorem cr_list : CallR X (.type "list") (rCF oList) := by
  intro pins s σ H xs us Q I rv ⟨F, ds, Qd, ex, r, o, c⟩
  match ds, r, o with
  | [d], r, o =>
    cases r with
    | cons r t =>
      cases t
      cases d <;> first | exact o.elim | skip
      · cases r with
        | lst h q z => exact call_list_of pins s σ H _ us Q I rv ⟨_, _, rfl, .inl (.of (ex _ _ h)), fun l hl => c F _ l (.lst _) (Grow.laid ex hl) ⟨ex.none hl, ⟨_, upd_same, q⟩, z⟩ hl o⟩
      · cases r with
        | tup h q z => exact call_list_of pins s σ H _ us Q I rv ⟨_, _, rfl, .inr (.of (ex _ _ h)), fun l hl => c F _ l (.lst _) (Grow.laid ex hl) ⟨ex.none hl, ⟨_, upd_same, q⟩, z⟩ hl o⟩
def oTuple : DFn := fun ds K => match ds with
  | [d] => match d with
    | .lst xs => K (.tup xs)
    | .tup xs => K (.tup xs)
    | _ => False
  | _ => False
theorem cr_tuple : CallR X (.type "tuple") (rC oTuple) := by
  intro pins s σ H xs us Q I rv ⟨F, ds, Qd, ex, r, o, c⟩
  match ds, r, o with
  | [d], r, o =>
    cases r with
    | cons r t =>
      cases t
      cases d <;> first | exact o.elim | skip
      · cases r with
        | @lst a vs _ h q z =>
          refine call_tuple_of pins s σ H _ us Q I rv ⟨_, _, rfl, .inl ⟨.of (ex _ _ h), fun l hl => ?_⟩⟩
          have G := Grow.alloc (o := .tup vs) ex hl
          exact c _ _ _ _ G (.tup upd_same (q.mono G.exF) z) o
      · cases r with
        | tup h q z => exact call_tuple_of pins s σ H _ us Q I rv ⟨_, _, rfl, .inr ⟨.of (ex _ _ h), c F H _ _ (Grow.refl ex) (.tup h q z) o⟩⟩
/-- sep.join(xs) -/
def itemsLT : D → Option (List D)
  | .lst xs => some xs
  | .tup xs => some xs
  | _ => none
def dJoin (da db : DTE) : DTE := fun ρ Q => da ρ fun d ρ1 => match d with
  | .str l => db ρ1 fun e ρ2 => match (itemsLT e).bind strsOf with
    | some ys => (ys.map (·.length)).sum + ys.length * l.length ≤ 16777216 ∧ Q (.str (TL.joinL l ys)) ρ2
    | none => False
  | _ => False
theorem joinL_len (l : List Nat) : ∀ ys : List (List Nat), (TL.joinL l ys).length ≤ (ys.map (·.length)).sum + ys.length * l.length
  | [] => Nat.zero_le _
  | [x] => by simp [TL.joinL]
  | x :: y :: r => by
    have h := joinL_len l (y :: r)
    show (x ++ (l ++ TL.joinL l (y :: r))).length ≤ _
    simp only [List.length_append, List.map_cons, List.sum_cons, List.length_cons] at h ⊢
    have e : (r.length + 1 + 1) * l.length = (r.length + 1) * l.length + l.length := by rw [Nat.succ_mul]
    omega
theorem join_S' (a : List Nat) (ys : List (List Nat)) : Txt.join (S a) (ys.map S) = S (TL.joinL a ys) := by
  have h1 : ∀ zs : List (List Nat), zs.map S = zs.map (fun l => (⟨l.toArray⟩ : Str)) := fun _ => rfl
  exact SX.join_S a ys
theorem de_join {apos : Pos} (ha : PE X a (tE da)) (hb : PE X b (tE db)) (hs : starEach [b] X.env = [(false, eval b X.env)] := by rfl) (hbase : attributeBase a "join" X.env (eval a X.env) = eval a X.env := by rfl) (hline : (apos.endLine == pos.line) = true := by rfl) :
    PE X (.Call (.Attribute a "join" apos) [b] [] pos) (tE (dJoin da db)) := by
  have hp := pe_join ha hb hs hbase hline (pos := pos) (apos := apos)
  refine pe_imp hp fun σ H Q ⟨g, F, ρ, Qd, k, h, c⟩ => ?_
  refine ⟨g, F, ρ, _, k, h, fun F1 H1 ρ1 v d k1 e1 r1 h1 => ?_⟩
  cases d <;> first | exact h1.elim | skip
  rename_i l
  cases r1
  refine ⟨⟨_, rfl⟩, g, F1, ρ1, _, k1, h1, fun F2 H2 ρ2 w e k2 e2 r2 h2 => ?_⟩
  cases hx : (itemsLT e).bind strsOf with
  | none => rw [hx] at h2; exact h2.elim
  | some ys =>
    rw [hx] at h2
    obtain ⟨hz, h2⟩ := h2
    have hl : ((ys.map S).map (·.length)).sum + (ys.map S).length * (S l).length ≤ 16777216 := by
      rw [List.map_map, List.length_map]
      exact hz
    have hr : Rep F2 (.str (Txt.join (S l) (ys.map S))) (.str (TL.joinL l ys)) := by
      rw [join_S']
      exact .str (Nat.le_trans (joinL_len l ys) hz)
    have fin := c F2 H2 ρ2 _ _ k2 (e1.trans e2) hr h2
    cases e <;> first | (cases hx; done) | skip
    · cases r2 with
      | lst h q z =>
        refine ⟨S l, _, ys.map S, rfl, rfl, .inl ?_, hl, fin⟩
        rw [← reps_strs q hx]
        exact .of (k2.ex _ _ h)
    · cases r2 with
      | tup h q z =>
        refine ⟨S l, _, ys.map S, rfl, rfl, .inr ?_, hl, fin⟩
        rw [← reps_strs q hx]
        exact .of (k2.ex _ _ h)
/-- tuple(range(..)), list(range(..)) -/
abbrev DTR := Env → (Int → Int → Env → Prop) → Prop
def tR (dr : DTR) : L2.St → Hp → (Int → Int → Hp → Prop) → Prop := fun σ H Q => ∃ g F ρ Qd, EOk g F σ H ρ ∧ dr ρ Qd ∧ ∀ F' H' ρ' i j, EOk g F' σ H' ρ' → Ex F F' → Qd i j ρ' → Q i j H'
def dRg1 (de : DTE) : DTR := fun ρ Q => de ρ fun d ρ' => match d with
  | .int n => Q 0 n ρ'
  | _ => False
def dRg2 (da db : DTE) : DTR := fun ρ Q => da ρ fun d ρ1 => db ρ1 fun e ρ2 => match d, e with
  | .int i, .int j => Q i j ρ2
  | _, _ => False
theorem prg_imp {t t' : L2.St → Hp → (Int → Int → Hp → Prop) → Prop} (h : PRg X e t) (i : ∀ σ H Q, t' σ H Q → t σ H Q) : PRg X e t' := fun pins s σ H Q I q => h pins s σ H Q I (i σ H Q q)
theorem drg_1 (hg : Gl X "range") (hm : X.mg "range" = none) (ha : PE X a (tE da)) (na : starEach [a] X.env = (false, eval a X.env) :: starEach [] X.env := by rfl) : PRg X (.Call (.Name "range" p) [a] [] pos) (tR (dRg1 da)) :=
  prg_imp (prg_1 hg hm ha na) fun σ H Q ⟨g, F, ρ, Qd, k, h, c⟩ => ⟨g, F, ρ, _, k, h, fun F1 H1 ρ1 v d k1 e1 r1 h1 => by
    cases d <;> first | exact h1.elim | skip
    cases r1
    exact ⟨_, rfl, c F1 H1 ρ1 _ _ k1 e1 h1⟩⟩
theorem drg_2 (hg : Gl X "range") (hm : X.mg "range" = none) (ha : PE X a (tE da)) (hb : PE X b (tE db)) (na : starEach [a, b] X.env = (false, eval a X.env) :: starEach [b] X.env := by rfl)
    (nb : starEach [b] X.env = (false, eval b X.env) :: starEach [] X.env := by rfl) (hp : (backTo pos (starEach [b] X.env)).any (·.1) = false := by rfl) : PRg X (.Call (.Name "range" p) [a, b] [] pos) (tR (dRg2 da db)) :=
  prg_imp (prg_2 hg hm ha hb na nb hp) fun σ H Q ⟨g, F, ρ, Qd, k, h, c⟩ => ⟨g, F, ρ, _, k, h, fun F1 H1 ρ1 v d k1 e1 r1 h1 => ⟨g, F1, ρ1, _, k1, h1, fun F2 H2 ρ2 w e k2 e2 r2 h2 => by
    cases d <;> first | exact h2.elim | skip
    cases e <;> first | exact h2.elim | skip
    cases r1
    cases r2
    exact ⟨_, _, rfl, rfl, c F2 H2 ρ2 _ _ k2 (e1.trans e2) h2⟩⟩⟩
def dTupRg (dr : DTR) : DTE := fun ρ Q => dr ρ fun i j ρ' => RgOk i j ∧ Q (.tup (rangeD i (j - i).toNat)) ρ'
def dLstRg (dr : DTR) : DTX := fun ρ Q => dr ρ fun i j ρ' => RgOk i j ∧ Q (.ow (.lst (rangeD i (j - i).toNat))) ρ'
theorem reps_map {F : Hp} {α : Type} {f : α → V} {h : α → D} (r : ∀ a, Rep F (f a) (h a)) : ∀ xs : List α, Reps F (xs.map f) (xs.map h)
  | [] => .nil
  | x :: xs => .cons (r x) (reps_map r xs)
theorem reps_rg {F : Hp} {i j : Int} : Reps F (rgV i j) (rangeD i (j - i).toNat) := reps_map (fun _ => .int _) _
theorem de_tupRg {dr : DTR} (hc : X.calm = true) (hm : X.mg "tuple" = none) (he : PRg X e (tR dr)) (hg : Gl X "tuple" := by rfl) (na : starEach [e] X.env = (false, eval e X.env) :: starEach [] X.env := by rfl) : PE X (.Call (.Name "tuple" p) [e] [] pos) (tE (dTupRg dr)) :=
  pe_imp (pe_tupRg hc hg hm he na) fun σ H Q ⟨g, F, ρ, Qd, k, h, c⟩ => ⟨g, F, ρ, _, k, h, fun F1 H1 ρ1 i j k1 e1 ⟨ok, h1⟩ => ⟨ok, fun q hq => by
    have G := Grow.alloc (o := .tup (rgV i j)) k1.ex hq
    exact c _ _ ρ1 _ _ (k1.grow G) (e1.trans G.exF) (.tup upd_same reps_rg (by rw [rangeD_length]; exact ok.2.2.2.2)) h1⟩⟩
theorem dx_lstRg {dr : DTR} (hc : X.calm = true) (hm : X.mg "list" = none) (he : PRg X e (tR dr)) (hg : Gl X "list" := by rfl) (na : starEach [e] X.env = (false, eval e X.env) :: starEach [] X.env := by rfl) : PE X (.Call (.Name "list" p) [e] [] pos) (tX (dLstRg dr)) :=
  pe_imp (pe_listRg hc hg hm he na) fun σ H Q ⟨g, F, ρ, Qd, k, h, c⟩ => ⟨g, F, ρ, _, k, h, fun F1 H1 ρ1 i j k1 e1 ⟨ok, h1⟩ => ⟨ok, fun q hq => by
    obtain ⟨k2, t⟩ := k1.newOw (o := .lst (rgV i j)) (d := .lst (rangeD i (j - i).toNat)) hq ⟨k1.ex.none hq, ⟨_, upd_same, reps_rg⟩, by rw [rangeD_length]; exact ok.2.2.2.2⟩
    exact c _ _ ρ1 _ _ k2 e1 t h1⟩⟩
end
end DL

namespace DL
open PySem PySem.Spec PyProof.Rows L2

/-! ### enumerate, zip over lists, tuples, texts -/
inductive Src where
  | lst (a : Addr) (vs : List V) | tup (a : Addr) (vs : List V) | txt (x : Str) (t : Tok)
def Src.vals : Src → List V
  | .lst _ vs => vs
  | .tup _ vs => vs
  | .txt x _ => x.cps.toList.map fun c => .str ⟨#[c]⟩
def Src.At (H : Hp) : Src → Prop
  | .lst a vs => H a = some (.lst vs)
  | .tup a vs => H a = some (.tup vs)
  | .txt _ _ => True
def Src.itr : Src → Addr → Nat → Heap → Prop
  | .lst a _, it, i, h => h.IsListIter it a i
  | .tup a _, it, i, h => h.IsTupleIter it a i
  | .txt x t, it, i, h => h.IsStrIter it (strIterType x) x t i
def Src.fp : Src → List Addr
  | .lst a _ => [a]
  | .tup a _ => [a]
  | .txt _ _ => []
def Src.v : Src → Value
  | .lst a _ => .ref a
  | .tup a _ => .ref a
  | .txt x t => .str x t
theorem Src.At.mono {H H' : Hp} (e : Ex H H') : ∀ {sr : Src}, sr.At H → sr.At H'
  | .lst _ _, h => e _ _ h
  | .tup _ _, h => e _ _ h
  | .txt _ _, _ => trivial
theorem Src.itr_keep {it : Addr} {i : Nat} {h h' : Heap} (k : ∀ o, h.get? it = some o → h'.get? it = some o) : ∀ {sr : Src}, sr.itr it i h → sr.itr it i h'
  | .lst _ _, st => Heap.IsListIter.at st k
  | .tup _ _, st => Heap.IsTupleIter.at st k
  | .txt _ _, st => let ⟨o, ho, r⟩ := st; ⟨o, k o ho, r⟩
theorem Src.itr_obj {it : Addr} {i : Nat} {h : Heap} : ∀ {sr : Src}, sr.itr it i h → ∃ o, h.get? it = some o ∧ ∀ v, o.data ≠ .cell v
  | .lst _ _, ⟨o, ho, _, d⟩ => ⟨o, ho, fun v z => by rw [d] at z; cases z⟩
  | .tup _ _, ⟨o, ho, _, d⟩ => ⟨o, ho, fun v z => by rw [d] at z; cases z⟩
  | .txt _ _, ⟨o, ho, _, d⟩ => ⟨o, ho, fun v z => by rw [d] at z; cases z⟩
structure Src.Dr (P : Program) (w : World) (A : Around) (sr : Src) (it : Addr) (h : Heap) (Pn : Nat → Value → Prop) (C : Heap → Prop) : Prop where
  dr : Draws P w A it (it :: sr.fp) sr.vals.length Pn (fun i h => sr.itr it i h ∧ C h)
  now : C h
  rel : ∀ i u, Pn i u → ∃ v, sr.vals[i]? = some v ∧ RelV v u
  lt : ∀ b ∈ sr.fp, b < h.objs.size
section
variable {X : Cx} {pins : List (Addr × Obj)} {σ : L2.St} {H : Hp} {s : Shared}
theorem Src.draws (I : Inv X pins σ H s) {A : Around} (hh : A.handled = none) (it : Addr) : ∀ {sr : Src}, sr.At H → (it ∉ sr.fp) → ∃ Pn C, sr.Dr X.prog X.w A it s.heap Pn C
  | .lst a vs, ha, hn => by
    obtain ⟨its, rv, p, hz⟩ := I.list (xs := vs) (.of ha)
    have hl := rv.length
    refine ⟨fun i v => its.toArray[i]? = some v, fun h => h.IsList a its.toArray, ⟨?_, p.isList, fun i u hu => ?_, fun b hb => ?_⟩⟩
    · have D := Draws.list (prog := X.prog) (w := X.w) hh it a (fun e => hn (by rw [e]; exact List.mem_cons_self ..)) its.toArray
      have e : its.toArray.size = (Src.lst a vs).vals.length := by rw [List.size_toArray, ← hl]; rfl
      rw [e] at D
      exact D
    · obtain ⟨hi, e⟩ := Array.getElem?_eq_some_iff.mp hu
      have hi' : i < vs.length := by rw [hl]; simpa using hi
      obtain ⟨u2, h2, r2⟩ := rv.get (List.getElem?_eq_getElem hi')
      refine ⟨_, List.getElem?_eq_getElem hi', ?_⟩
      have : its.toArray[i]? = some u2 := by simpa using h2
      rw [hu] at this
      cases this
      exact r2
    · have : b = a := by simpa [Src.fp] using hb
      rw [this]; exact p.lt
  | .tup a vs, ha, hn => by
    obtain ⟨its, rv, p, hz⟩ := I.tuple (xs := vs) (.of ha)
    have hl := rv.length
    refine ⟨fun i v => its.toArray[i]? = some v, fun h => h.IsTuple a its.toArray, ⟨?_, p, fun i u hu => ?_, fun b hb => ?_⟩⟩
    · have D := Draws.tuple (prog := X.prog) (w := X.w) hh it a (fun e => hn (by rw [e]; exact List.mem_cons_self ..)) its.toArray
      have e : its.toArray.size = (Src.tup a vs).vals.length := by rw [List.size_toArray, ← hl]; rfl
      rw [e] at D
      exact D
    · obtain ⟨hi, e⟩ := Array.getElem?_eq_some_iff.mp hu
      have hi' : i < vs.length := by rw [hl]; simpa using hi
      obtain ⟨u2, h2, r2⟩ := rv.get (List.getElem?_eq_getElem hi')
      refine ⟨_, List.getElem?_eq_getElem hi', ?_⟩
      have : its.toArray[i]? = some u2 := by simpa using h2
      rw [hu] at this
      cases this
      exact r2
    · have : b = a := by simpa [Src.fp] using hb
      obtain ⟨o, ho, _⟩ := id p
      rw [this]; exact Heap.lt_size ho
  | .txt x t, ha, hn => by
    refine ⟨fun i v => ∃ c u, x.cps[i]? = some c ∧ v = .str ⟨#[c]⟩ u, fun _ => True, ⟨?_, trivial, fun i u hu => ?_, fun b hb => by cases hb⟩⟩
    · have D := Draws.text (prog := X.prog) (w := X.w) hh it x t
      have e : x.cps.size = (Src.txt x t).vals.length := by simp [Src.vals]
      rw [e] at D
      exact ⟨fun i h st => D.live i h st.1, fun i h h' st k => ⟨D.frame i h h' st.1 k, trivial⟩, fun i s Q E hi st q => D.item i s Q E hi st.1 fun x h' tk p st' sb => q x h' tk p ⟨st', trivial⟩ sb, fun s Q E st q => D.done s Q E st.1 q⟩
    · obtain ⟨c, t2, hc, e⟩ := hu
      subst e
      refine ⟨.str ⟨#[c]⟩, ?_, ⟨t2, rfl⟩⟩
      show (x.cps.toList.map _)[i]? = _
      rw [List.getElem?_map, Array.getElem?_toList, hc] <;> rfl
/-- what a source's iterator is at first -/
def Src.o : Src → Obj
  | .lst a _ => { cls := .type "list_iterator", data := .fields #[.ref a, .int 0 0] }
  | .tup a _ => { cls := .type "tuple_iterator", data := .fields #[.ref a, .int 0 0] }
  | .txt x t => { cls := .type (strIterType x), data := .fields #[.str x t, .int 0 0] }
theorem Src.begins (I : Inv X pins σ H s) : ∀ {sr : Src}, sr.At H → ∃ C, Begins sr.v sr.o C ∧ C s.heap
  | .lst a vs, ha => by
    obtain ⟨its, rv, p, hz⟩ := I.list (xs := vs) (.of ha)
    exact ⟨_, begins_list a its.toArray, p.isList⟩
  | .tup a vs, ha => by
    obtain ⟨its, rv, p, hz⟩ := I.tuple (xs := vs) (.of ha)
    exact ⟨_, begins_tuple a its.toArray, p⟩
  | .txt x t, ha => ⟨_, begins_text x t, trivial⟩
theorem Src.itr0 {it : Addr} {h : Heap} : ∀ {sr : Src}, h.get? it = some sr.o → sr.itr it 0 h
  | .lst _ _, e => ⟨_, e, rfl, rfl⟩
  | .tup _ _, e => ⟨_, e, rfl, rfl⟩
  | .txt _ _, e => ⟨_, e, rfl, rfl⟩
end
/-- zip -/
def Iz (s1 s2 : Src) : It :=
  ⟨fun i H => s1.At H ∧ s2.At H ∧ i < min s1.vals.length s2.vals.length,
    fun i H v H' => ∃ T x y, v = .ref T ∧ H T = none ∧ H' = upd H T (.tup [x, y]) ∧ s1.vals[i]? = some x ∧ s2.vals[i]? = some y,
    fun i H => s1.At H ∧ s2.At H ∧ i = min s1.vals.length s2.vals.length⟩
theorem turn_iz {P : Program} {w : World} {K : PySem.W.Frag} {elts : List Expr} {kk : Nat} {tpos : Pos} {s1 s2 : Src} {N : Nat} (l1 : ∀ b ∈ s1.fp, b < N) (l2 : ∀ b ∈ s2.fp, b < N) :
    Turn P w K (.Tuple elts kk tpos) (Iz s1 s2) [N + 4, N + 2, N + 3, N, N + 1] (N + 4) (fun i h => IsZip h (N + 4) (N + 2) (N + 3) .none ∧ IsTupOf2 h (N + 2) (.ref N) (.ref (N + 1)) ∧ (∃ x y, IsTupOf2 h (N + 3) x y) ∧ s1.itr N i h ∧ s2.itr (N + 1) i h) where
  mem := by simp
  obj := fun i h st c hc => by
    obtain ⟨hz, hTI, ⟨x, y, hTO⟩, h1, h2⟩ := st
    have e' : c = N + 4 ∨ c = N + 2 ∨ c = N + 3 ∨ c = N ∨ c = N + 1 := by simpa using hc
    rcases e' with q | q | q | q | q
    · rw [q]; exact ⟨_, hz, fun v q => nomatch q⟩
    · rw [q]; exact ⟨_, hTI, fun v q => nomatch q⟩
    · rw [q]; exact ⟨_, hTO, fun v q => nomatch q⟩
    · rw [q]; exact Src.itr_obj h1
    · rw [q]; exact Src.itr_obj h2
  keep := fun i h h' st k => by
    obtain ⟨hz, hTI, ⟨x, y, hTO⟩, h1, h2⟩ := st
    exact ⟨k _ (by simp) _ hz, k _ (by simp) _ hTI, ⟨x, y, k _ (by simp) _ hTO⟩, Src.itr_keep (k _ (by simp)) h1, Src.itr_keep (k _ (by simp)) h2⟩
  item := by
    intro X hP hw hK hc i pins s σ H E I hf st hg
    subst hP hw hK
    obtain ⟨hz, hTI, ⟨x0, y0, hTO⟩, h1, h2⟩ := st
    obtain ⟨a1, a2, hlt⟩ := hg
    have hhd : X.A.in1.handled = none := I.ok.hd hc
    obtain ⟨P1, C1, D1⟩ := Src.draws I (A := X.A.in1) hhd N a1 (fun z => Nat.lt_irrefl _ (l1 _ z))
    obtain ⟨P2, C2, D2⟩ := Src.draws I (A := X.A.in1) hhd (N + 1) a2 (fun z => by have := l2 _ z; exact absurd this (Nat.not_lt.mpr (Nat.le_succ N)))
    have W := WalksT.zipD2 (zip_sep2 l1 l2) D1.dr D2.dr
    refine W.item i s _ _ hlt ⟨hz, hTI, ⟨x0, y0, hTO⟩, ⟨h1, D1.now⟩, ⟨h2, D2.now⟩⟩ fun T vals h' tk ⟨u1, u2, p1, p2, ev⟩ hT isT mid kk => ?_
    subst ev
    refine ⟨_, rfl, W.go elts _ tpos i T { s with heap := h', toks := tk } _ _ mid fun h'' ⟨z'', TI'', TO'', ⟨i1'', _⟩, ⟨i2'', _⟩⟩ k2 => ?_⟩
    obtain ⟨v1, q1, r1⟩ := D1.rel i u1 p1
    obtain ⟨v2, q2, r2⟩ := D2.rel i u2 p2
    have nT := W.apart i T h' mid
    obtain ⟨o, ho, hcl, nn, hd⟩ := isT
    have hT2 : h''.get? T = some o := k2 T o nT ho
    have new : ObjOk X.prog X.w (upd H T (.tup [v1, v2])) h'' T (.tup [v1, v2]) :=
      ⟨by show 2 ≤ sizeLine; decide, [u1, u2], .cons r1 (.cons r2 .nil), ⟨o, hT2, hcl, nn, hd⟩⟩
    have I1 : Inv X pins σ (upd H T (.tup [v1, v2])) { s with heap := h'', toks := tk } :=
      I.turnedNew (ch := [N + 4, N + 2, N + 3, N, N + 1]) (fun c o hb q => by
        have nb : c ∉ [N + 4, N + 3, N, N + 1] := fun z => hb (by
          have : c = N + 4 ∨ c = N + 3 ∨ c = N ∨ c = N + 1 := by simpa using z
          rcases this with e | e | e | e <;> simp [e])
        exact k2 c o nb (kk c o nb q)) hf hT new
    refine ⟨.ref T, _, I1, rfl, ⟨T, v1, v2, rfl, I.hok.fresh hT, rfl, q1, q2⟩, ⟨z'', TI'', TO'', i1'', i2''⟩, fun c hcm => ?_⟩
    have hlt2 : c < s.heap.objs.size := by
      have e' : c = N + 4 ∨ c = N + 2 ∨ c = N + 3 ∨ c = N ∨ c = N + 1 := by simpa using hcm
      rcases e' with q | q | q | q | q
      · rw [q]; exact Heap.lt_size hz
      · rw [q]; exact Heap.lt_size hTI
      · rw [q]; exact Heap.lt_size hTO
      · rw [q]; obtain ⟨_, e1, _⟩ := Src.itr_obj h1; exact Heap.lt_size e1
      · rw [q]; obtain ⟨_, e1, _⟩ := Src.itr_obj h2; exact Heap.lt_size e1
    rw [upd_ne (Nat.ne_of_lt (Nat.lt_of_lt_of_le hlt2 hT))]
    exact (hf c hcm).1
  done := by
    intro X hP hw hK hc i pins s σ H E I hf st hg
    subst hP hw hK
    obtain ⟨hz, hTI, ⟨x0, y0, hTO⟩, h1, h2⟩ := st
    obtain ⟨a1, a2, hi⟩ := hg
    have hhd : X.A.in1.handled = none := I.ok.hd hc
    obtain ⟨P1, C1, D1⟩ := Src.draws I (A := X.A.in1) hhd N a1 (fun z => Nat.lt_irrefl _ (l1 _ z))
    obtain ⟨P2, C2, D2⟩ := Src.draws I (A := X.A.in1) hhd (N + 1) a2 (fun z => by have := l2 _ z; exact absurd this (Nat.not_lt.mpr (Nat.le_succ N)))
    have W := WalksT.zipD2 (zip_sep2 l1 l2) D1.dr D2.dr
    rw [hi] at h1 h2
    exact W.done s _ _ ⟨hz, hTI, ⟨x0, y0, hTO⟩, ⟨h1, D1.now⟩, ⟨h2, D2.now⟩⟩ fun h' tk kk => ⟨rfl, I.turnedL (t' := tk) (ch := [N + 4, N + 2, N + 3, N, N + 1]) (fun c o hb q => by
      have nb : c ∉ [N + 4, N + 3, N, N + 1] := fun z => hb (by
        have : c = N + 4 ∨ c = N + 3 ∨ c = N ∨ c = N + 1 := by simpa using z
        rcases this with e | e | e | e <;> simp [e])
      exact kk c o nb q) hf⟩
  self := fun A i s Q E st h => wpAny_pyIter_zip st.1 h
/-- enumerate -/
def In (k : Int) (s1 : Src) : It :=
  ⟨fun i H => s1.At H ∧ i < s1.vals.length,
    fun i H v H' => ∃ T x, v = .ref T ∧ H T = none ∧ H' = upd H T (.tup [.int (k + (i : Nat)), x]) ∧ s1.vals[i]? = some x,
    fun i H => s1.At H ∧ i = s1.vals.length⟩
theorem turn_in {P : Program} {w : World} {K : PySem.W.Frag} {elts : List Expr} {kk : Nat} {tpos : Pos} {s1 : Src} {N : Nat} {k : Int} (l1 : ∀ b ∈ s1.fp, b < N) :
    Turn P w K (.Tuple elts kk tpos) (In k s1) [N + 1, N] (N + 1) (fun i h => (∃ old, IsEnum h (N + 1) N (k + (i : Int)) old) ∧ s1.itr N i h) where
  mem := by simp
  obj := fun i h st c hc => by
    obtain ⟨⟨old, hz⟩, h1⟩ := st
    have e' : c = N + 1 ∨ c = N := by simpa using hc
    rcases e' with q | q
    · rw [q]; exact ⟨_, hz, fun v q => nomatch q⟩
    · rw [q]; exact Src.itr_obj h1
  keep := fun i h h' st k => by
    obtain ⟨⟨old, hz⟩, h1⟩ := st
    exact ⟨⟨old, k _ (by simp) _ hz⟩, Src.itr_keep (k _ (by simp)) h1⟩
  item := by
    intro X hP hw hK hc i pins s σ H E I hf st hg
    subst hP hw hK
    obtain ⟨⟨old, hz⟩, h1⟩ := st
    obtain ⟨a1, hlt⟩ := hg
    have hhd : X.A.in1.handled = none := I.ok.hd hc
    obtain ⟨P1, C1, D1⟩ := Src.draws I (A := X.A.in1) hhd N a1 (fun z => Nat.lt_irrefl _ (l1 _ z))
    have ne : (N + 1 : Nat) ≠ N := Nat.succ_ne_self N
    have W := WalksT.enumFrom k D1.dr (N + 1) ne (fun z => by
      rcases List.mem_cons.mp z with e | z
      · exact ne e
      · exact absurd (l1 _ z) (Nat.not_lt.mpr (Nat.le_succ N))) (List.mem_cons_self ..)
    refine W.item i s _ _ hlt ⟨⟨old, hz⟩, ⟨h1, D1.now⟩⟩ fun T vals h' tk ⟨t1, u1, p1, ev⟩ hT isT mid kk => ?_
    subst ev
    refine ⟨_, rfl, W.go elts _ tpos i T { s with heap := h', toks := tk } _ _ mid fun h'' ⟨z'', ⟨i1'', _⟩⟩ k2 => ?_⟩
    obtain ⟨v1, q1, r1⟩ := D1.rel i u1 p1
    have nT := W.apart i T h' mid
    obtain ⟨o, ho, hcl, nn, hd⟩ := isT
    have hT2 : h''.get? T = some o := k2 T o nT ho
    have new : ObjOk X.prog X.w (upd H T (.tup [.int (k + (i : Nat)), v1])) h'' T (.tup [.int (k + (i : Nat)), v1]) :=
      ⟨by show 2 ≤ sizeLine; decide, [.int (k + (i : Nat)) t1, u1], .cons ⟨_, rfl⟩ (.cons r1 .nil), ⟨o, hT2, hcl, nn, hd⟩⟩
    have I1 : Inv X pins σ (upd H T (.tup [.int (k + (i : Nat)), v1])) { s with heap := h'', toks := tk } :=
      I.turnedNew (ch := [N + 1, N]) (fun c o hb q => k2 c o hb (kk c o hb q)) hf hT new
    refine ⟨.ref T, _, I1, rfl, ⟨T, v1, rfl, I.hok.fresh hT, rfl, q1⟩, ⟨z'', i1''⟩, fun c hcm => ?_⟩
    have hlt2 : c < s.heap.objs.size := by
      have e' : c = N + 1 ∨ c = N := by simpa using hcm
      rcases e' with q | q
      · rw [q]; exact Heap.lt_size hz
      · rw [q]; obtain ⟨_, e1, _⟩ := Src.itr_obj h1; exact Heap.lt_size e1
    rw [upd_ne (Nat.ne_of_lt (Nat.lt_of_lt_of_le hlt2 hT))]
    exact (hf c hcm).1
  done := by
    intro X hP hw hK hc i pins s σ H E I hf st hg
    subst hP hw hK
    obtain ⟨⟨old, hz⟩, h1⟩ := st
    obtain ⟨a1, hi⟩ := hg
    have hhd : X.A.in1.handled = none := I.ok.hd hc
    obtain ⟨P1, C1, D1⟩ := Src.draws I (A := X.A.in1) hhd N a1 (fun z => Nat.lt_irrefl _ (l1 _ z))
    have ne : (N + 1 : Nat) ≠ N := Nat.succ_ne_self N
    have W := WalksT.enumFrom k D1.dr (N + 1) ne (fun z => by
      rcases List.mem_cons.mp z with e | z
      · exact ne e
      · exact absurd (l1 _ z) (Nat.not_lt.mpr (Nat.le_succ N))) (List.mem_cons_self ..)
    subst hi
    exact W.done s _ _ ⟨⟨old, hz⟩, ⟨h1, D1.now⟩⟩ fun h' tk kk => ⟨rfl, I.turnedL (t' := tk) (ch := [N + 1, N]) (fun c o hb q => kk c o hb q) hf⟩
  self := fun A i s Q E st h => let ⟨⟨_, he⟩, _⟩ := st; wpAny_pyIter_enum he h

theorem meets_enum1 {v : Value} {o : Obj} {H : Heap → Prop} (B : Begins v o H) :
    Meets (Builtin.«enumerate.__new__» ⟨[.type "enumerate", v], []⟩) (fun _ R s => H s.heap ∧
      R (.ok (.ret (.ref (s.heap.push o).objs.size))) { s with heap := (s.heap.push o).push { cls := .type "enumerate", data := .fields #[.none, .bool false, .ref s.heap.objs.size, rawInt 0, .none, .none] } }) :=
  .of_wp fun prog w A R s h => by
    obtain ⟨hp, g, d, tk, os⟩ := s; obtain ⟨h1, h⟩ := h
    have hsub := sub_enumerate
    have q1 : ∀ {A' : Around} {E : Value → Shared → Prop} {Q : Value → Shared → Prop}, Q (.ref hp.objs.size) ⟨hp.push o, g, d, tk, os⟩ → wpAny (model prog w) A' (pyIter v) Q E ⟨hp, g, d, tk, os⟩ :=
      fun q => B.iter prog w _ _ ⟨hp, g, d, tk, os⟩ _ h1 q
    wp_walk using q1
    refine wpAny_stack_any fun st => wpAny_pure ?_
    split
    · rename_i c _ _ _ _ _
      cases (c == Value.type "enumerate")
      · wp_walk using q1
        exact ⟨_, rfl, h⟩
      · wp_walk using q1
        exact ⟨_, rfl, h⟩
    · wp_walk using q1
      exact ⟨_, rfl, h⟩
theorem enum_begins1 {prog : Program} {w : World} {A : Around} {E : Value → Shared → Prop} {s : Shared} {v : Value} {o : Obj} {H : Heap → Prop} {Q : Value → Shared → Prop} (B : Begins v o H) (h1 : H s.heap)
    (h : ∀ h', IsEnum h' (s.heap.objs.size + 1) s.heap.objs.size 0 .none → h'.get? s.heap.objs.size = some o → h'.objs.size = s.heap.objs.size + 2 →
      (∀ b o, s.heap.get? b = some o → h'.get? b = some o) → Q (.ref (s.heap.objs.size + 1)) { s with heap := h' }) :
    wpAny (model prog w) A (call (.type "enumerate") [v]) Q E s := by
  refine callType_new F.called_enumerate (by decide) (F.typeCall_enumerate_1 _) (F.newCall_enumerate_1 _) (fun obj => F.args_object_init_2 obj _) F.entry_enumerate_new
    (meets_enum1 B) ⟨h1, ?_⟩
  have hz : (s.heap.push o).objs.size = s.heap.objs.size + 1 := Heap.size_push ..
  show _ ∧ _
  rw [hz]
  have he : IsEnum ((s.heap.push o).push { cls := .type "enumerate", data := .fields #[.none, .bool false, .ref s.heap.objs.size, rawInt 0, .none, .none] }) (s.heap.objs.size + 1) s.heap.objs.size 0 .none := by
    have := Heap.get?_push_size (s.heap.push o) (o := { cls := .type "enumerate", data := .fields #[.none, .bool false, .ref s.heap.objs.size, rawInt 0, .none, .none] }) rfl
    rw [hz] at this; exact this
  refine ⟨⟨_, he, rfl⟩, h _ he (Heap.get?_push_of_some _ (Heap.get?_push_size _ B.free)) (by rw [Heap.size_push, hz]) fun b o x => Heap.get?_push_of_some _ (Heap.get?_push_of_some _ x)⟩

/-! ### .. over data -/
def pairsD (xs ys : List D) : List D := (List.zip xs ys).map fun p => .tup [p.1, p.2]
def enumD (k : Int) (xs : List D) : List D := xs.mapIdx fun i x => .tup [.int (k + ((i : Nat) : Int)), x]
def dZip (da : DTA) : DTI := fun ρ Q => da ρ fun ds ρ' => match ds with
  | [d, e] => match itemsOf d, itemsOf e with
    | some xs, some ys => Q (pairsD xs ys) ρ'
    | _, _ => False
  | _ => False
def dEnum (da : DTA) : DTI := fun ρ Q => da ρ fun ds ρ' => match ds with
  | [d] => match itemsOf d with
    | some xs => Q (enumD 0 xs) ρ'
    | none => False
  | [d, .int k] => match itemsOf d with
    | some xs => -(2 ^ 63) ≤ k ∧ k < 2 ^ 63 ∧ Q (enumD k xs) ρ'
    | none => False
  | _ => False
/-- a value that is walked is a source -/
theorem src_of {F H : Hp} {v : V} {u : Value} {d : D} {xs : List D} (e : Ex F H) (r : Rep F v d) (rv : RelV v u) (hx : itemsOf d = some xs) : ∃ sr : Src, sr.v = u ∧ sr.At F ∧ xs.length ≤ sizeLine ∧ sr.vals.length = xs.length ∧ ∀ (i : Nat) (x : D), xs[i]? = some x → ∃ w, sr.vals[i]? = some w ∧ Rep F w x := by
  cases d <;> first | (cases hx; done) | skip
  · rename_i l
    cases hx
    cases r with
    | str z =>
      obtain ⟨t, rfl⟩ := rv
      refine ⟨.txt (S l) t, rfl, trivial, by rw [List.length_map]; exact z, by simp [Src.vals, S], fun i x hx => ?_⟩
      rw [List.getElem?_map] at hx
      cases hl : l[i]? with
      | none => rw [hl] at hx; cases hx
      | some n =>
        rw [hl] at hx
        cases hx
        refine ⟨.str ⟨#[n]⟩, ?_, .str (l := [n]) (by show 1 ≤ 16777216; decide)⟩
        show (l.toArray.toList.map _)[i]? = _
        rw [List.getElem?_map, hl] <;> rfl
  · cases hx
    cases r with
    | @lst a vs _ h1 r z =>
      cases rv
      exact ⟨.lst a vs, rfl, h1, z, r.length, fun i x hx => r.get hx⟩
  · cases hx
    cases r with
    | @tup a vs _ h1 r z =>
      cases rv
      exact ⟨.tup a vs, rfl, h1, z, r.length, fun i x hx => r.get hx⟩
theorem itd_zip {F : Hp} {s1 s2 : Src} {xs ys : List D} (a1 : s1.At F) (a2 : s2.At F) (l1 : s1.vals.length = xs.length) (l2 : s2.vals.length = ys.length) (z : xs.length ≤ sizeLine) (r1 : ∀ (i : Nat) (x : D), xs[i]? = some x → ∃ w, s1.vals[i]? = some w ∧ Rep F w x) (r2 : ∀ (i : Nat) (x : D), ys[i]? = some x → ∃ w, s2.vals[i]? = some w ∧ Rep F w x) : ItD F (Iz s1 s2) (pairsD xs ys) := by
  have hl : (pairsD xs ys).length = min xs.length ys.length := by simp [pairsD]
  refine ⟨by rw [hl]; omega, fun i H x ex hx => ?_, fun H ex => ⟨a1.mono ex, a2.mono ex, by rw [hl, l1, l2]⟩⟩
  have hi : i < (pairsD xs ys).length := (List.getElem?_eq_some_iff.mp hx).1
  refine ⟨⟨a1.mono ex, a2.mono ex, by rw [l1, l2, ← hl]; exact hi⟩, fun v H2 ⟨T, x', y', ev, hT, eH, q1, q2⟩ => .inr ?_⟩
  have h1 : i < xs.length := by omega
  have h2 : i < ys.length := by omega
  obtain ⟨w1, e1, p1⟩ := r1 i xs[i] (List.getElem?_eq_getElem h1)
  obtain ⟨w2, e2, p2⟩ := r2 i ys[i] (List.getElem?_eq_getElem h2)
  rw [q1] at e1; cases e1
  rw [q2] at e2; cases e2
  refine ⟨T, [x', y'], [xs[i], ys[i]], hT, eH, ev, (Reps.cons p1 (.cons p2 .nil)), ?_, by show 2 ≤ 16777216; decide⟩
  have : (pairsD xs ys)[i]? = some (.tup [xs[i], ys[i]]) := by
    unfold pairsD
    have e : (List.zip xs ys)[i]? = some (xs[i], ys[i]) := List.getElem?_zip_eq_some.mpr ⟨List.getElem?_eq_getElem h1, List.getElem?_eq_getElem h2⟩
    rw [List.getElem?_map, e] <;> rfl
  rw [this] at hx
  cases hx
  rfl
theorem itd_enum {F : Hp} {s1 : Src} {k : Int} {xs : List D} (a1 : s1.At F) (l1 : s1.vals.length = xs.length) (z : xs.length ≤ sizeLine) (r1 : ∀ (i : Nat) (x : D), xs[i]? = some x → ∃ w, s1.vals[i]? = some w ∧ Rep F w x) : ItD F (In k s1) (enumD k xs) := by
  have hl : (enumD k xs).length = xs.length := by simp [enumD]
  refine ⟨by rw [hl]; exact z, fun i H x ex hx => ?_, fun H ex => ⟨a1.mono ex, by rw [hl, l1]⟩⟩
  have hi : i < (enumD k xs).length := (List.getElem?_eq_some_iff.mp hx).1
  refine ⟨⟨a1.mono ex, by rw [l1, ← hl]; exact hi⟩, fun v H2 ⟨T, x', ev, hT, eH, q1⟩ => .inr ?_⟩
  have h1 : i < xs.length := by omega
  obtain ⟨w1, e1, p1⟩ := r1 i xs[i] (List.getElem?_eq_getElem h1)
  rw [q1] at e1; cases e1
  refine ⟨T, _, [.int (k + ((i : Nat) : Int)), xs[i]], hT, eH, ev, (Reps.cons (.int _) (.cons p1 .nil)), ?_, by show 2 ≤ 16777216; decide⟩
  have : (enumD k xs)[i]? = some (.tup [.int (k + ((i : Nat) : Int)), xs[i]]) := by
    unfold enumD
    rw [List.getElem?_mapIdx, List.getElem?_eq_getElem h1] <;> rfl
  rw [this] at hx
  cases hx
  rfl
section
variable {X : Cx} {a b : Expr} {pos : Pos} {da : DTA} {p tpos : Pos} {elts : List Expr} {kk : Nat}
theorem di_zip (hg : Gl X "zip") (hm : X.mg "zip" = none) (ha : PA X [a, b] (tA da))
    (hs : starEach [a, b] X.env = (false, eval a X.env) :: starEach [b] X.env := by rfl) (hpl : (backTo pos (starEach [b] X.env)).any (·.1) = false := by rfl) :
    PI X (.Tuple elts kk tpos) (.Call (.Name "zip" p) [a, b] [] pos) (tI (dZip da)) := by
  refine ⟨fun pins s σ H R I ⟨g, F, ρ, Qd, k, h, c⟩ => ?_⟩
  refine Call_ (ld_blt I hg hm PyProof.Rows.boot_zip (PyProof.Rows.callWith_type1 (thn (ha.run pos pins s σ H (fun vs H1 => ∃ F1 ρ1 d e xs ys, EOk g F1 σ H1 ρ1 ∧ Ex F F1 ∧ Reps F1 vs [d, e] ∧ itemsOf d = some xs ∧ itemsOf e = some ys ∧ Qd (pairsD xs ys) ρ1) I ⟨g, F, ρ, _, k, h, fun F1 H1 ρ1 vs ds k1 e1 r1 q => ?_⟩) fun us s1 ⟨vs, H1, I1, rr, q1⟩ => ?_) hs hpl))
  · match ds, q, r1 with
    | [d, e], q, r1 =>
      cases h1 : itemsOf d with
      | none => simp only [h1] at q
      | some xs =>
        cases h2 : itemsOf e with
        | none => simp only [h1, h2] at q
        | some ys =>
          simp only [h1, h2] at q
          exact ⟨F1, ρ1, d, e, xs, ys, k1, e1, r1, h1, h2, q⟩
  · obtain ⟨F1, ρ1, d, e, xs, ys, k1, e1, r1, h1, h2, q⟩ := q1
    cases r1 with
    | cons ra r1 =>
      cases r1 with
      | cons rb r1 =>
        cases r1
        cases rr with
        | cons rv rr =>
          cases rr with
          | cons rw' rr =>
            cases rr
            obtain ⟨S1, ev1, a1, z1, l1, g1⟩ := src_of k1.ex ra rv h1
            obtain ⟨S2, ev2, a2, z2, l2, g2⟩ := src_of k1.ex rb rw' h2
            subst ev1 ev2
            have lt : ∀ {sr : Src}, sr.At H1 → ∀ b ∈ sr.fp, b < s1.heap.objs.size := fun {sr} ha b hb => by
              cases sr with
              | lst a vs =>
                obtain ⟨its, rv, p, hz⟩ := I1.list (xs := vs) (.of ha)
                have : b = a := by simpa [Src.fp] using hb
                rw [this]; exact p.lt
              | tup a vs =>
                obtain ⟨its, rv, p, hz⟩ := I1.tuple (xs := vs) (.of ha)
                have : b = a := by simpa [Src.fp] using hb
                obtain ⟨o, ho, _⟩ := id p
                rw [this]; exact Heap.lt_size ho
              | txt x t => cases hb
            obtain ⟨C1, B1, c1⟩ := Src.begins I1 (a1.mono k1.ex)
            obtain ⟨C2, B2, c2⟩ := Src.begins I1 (a2.mono k1.ex)
            refine zip_begins2 B1 B2 c1 c2 fun h' hz hTI hTO hi1 hi2 hsz hk => wpAny_pyIter_zip hz ?_
            have I2 : Inv X pins σ H1 { s1 with heap := h' } := I1.kept (t' := s1.toks) hk
            have fresh5 : ∀ c, c ∈ [s1.heap.objs.size + 4, s1.heap.objs.size + 2, s1.heap.objs.size + 3, s1.heap.objs.size, s1.heap.objs.size + 1] → FpOk X pins H1 c := fun c hcm => by
              have e' : c = s1.heap.objs.size + 4 ∨ c = s1.heap.objs.size + 2 ∨ c = s1.heap.objs.size + 3 ∨ c = s1.heap.objs.size ∨ c = s1.heap.objs.size + 1 := by simpa using hcm
              have hle : s1.heap.objs.size ≤ c := by
                rcases e' with z | z | z | z | z
                · rw [z]; exact Nat.le_add_right _ _
                · rw [z]; exact Nat.le_add_right _ _
                · rw [z]; exact Nat.le_add_right _ _
                · rw [z]; exact Nat.le_refl _
                · rw [z]; exact Nat.le_add_right _ _
              exact I1.fpOk hle (I1.hok.fresh hle)
            exact ⟨s1.heap.objs.size + 4, [s1.heap.objs.size + 4, s1.heap.objs.size + 2, s1.heap.objs.size + 3, s1.heap.objs.size, s1.heap.objs.size + 1], _, _, H1, rfl, I2, turn_iz (N := s1.heap.objs.size) (lt (a1.mono k1.ex)) (lt (a2.mono k1.ex)), ⟨hz, hTI, ⟨_, _, hTO⟩, Src.itr0 hi1, Src.itr0 hi2⟩, fresh5, c F1 H1 ρ1 _ _ k1 e1 (itd_zip a1 a2 l1 l2 z1 g1 g2) q⟩
theorem enum_end {pins : List (Addr × Obj)} {σ : L2.St} {H1 F1 F : Hp} {s1 : Shared} {R : It → Hp → Prop} {g : Gd} {ρ1 : Env} {Qd : List D → Env → Prop} {k : Int} {xs : List D} {S1 : Src} (I1 : Inv X pins σ H1 s1) (k1 : EOk g F1 σ H1 ρ1) (e1 : Ex F F1)
    (c : ∀ F' H' ρ' J items, EOk g F' σ H' ρ' → Ex F F' → ItD F' J items → Qd items ρ' → R J H') (a1 : S1.At F1) (z1 : xs.length ≤ sizeLine) (l1 : S1.vals.length = xs.length) (g1 : ∀ (i : Nat) (x : D), xs[i]? = some x → ∃ w, S1.vals[i]? = some w ∧ Rep F1 w x) (q : Qd (enumD k xs) ρ1)
    {h' : Heap} (he : IsEnum h' (s1.heap.objs.size + 1) s1.heap.objs.size k .none) (hi : h'.get? s1.heap.objs.size = some S1.o) (hk : ∀ b o, s1.heap.get? b = some o → h'.get? b = some o) :
    wpAny (model X.prog X.w) X.A (pyIter (.ref (s1.heap.objs.size + 1))) (PIE X pins σ (.Tuple elts kk tpos) R) X.xe { s1 with heap := h' } := by
  refine wpAny_pyIter_enum he ?_
  have I2 : Inv X pins σ H1 { s1 with heap := h' } := I1.kept (t' := s1.toks) hk
  have lt : ∀ b ∈ S1.fp, b < s1.heap.objs.size := fun b hb => by
    have ha := a1.mono k1.ex
    cases S1 with
    | lst a vs =>
      obtain ⟨its, rv, p, hz⟩ := I1.list (xs := vs) (.of ha)
      have : b = a := by simpa [Src.fp] using hb
      rw [this]; exact p.lt
    | tup a vs =>
      obtain ⟨its, rv, p, hz⟩ := I1.tuple (xs := vs) (.of ha)
      have : b = a := by simpa [Src.fp] using hb
      obtain ⟨o, ho, _⟩ := id p
      rw [this]; exact Heap.lt_size ho
    | txt x t => cases hb
  refine ⟨s1.heap.objs.size + 1, [s1.heap.objs.size + 1, s1.heap.objs.size], _, _, H1, rfl, I2, turn_in (N := s1.heap.objs.size) (k := k) lt, ⟨⟨.none, ?_⟩, Src.itr0 hi⟩, fun b hb => ?_, c F1 H1 ρ1 _ _ k1 e1 (itd_enum a1 l1 z1 g1) q⟩
  · have e0 : k + ((0 : Nat) : Int) = k := by simp
    show IsEnum h' _ _ (k + ((0 : Nat) : Int)) _
    rw [e0]; exact he
  · have e' : b = s1.heap.objs.size + 1 ∨ b = s1.heap.objs.size := by simpa using hb
    have hle : s1.heap.objs.size ≤ b := by
      rcases e' with z | z
      · rw [z]; exact Nat.le_add_right _ _
      · rw [z]; exact Nat.le_refl _
    exact I1.fpOk hle (I1.hok.fresh hle)
theorem di_enum (hg : Gl X "enumerate") (hm : X.mg "enumerate" = none) {es : List Expr} (ha : PA X (a :: es) (tA da)) (hs : starEach (a :: es) X.env = (false, eval a X.env) :: starEach es X.env := by rfl) (hpl : (backTo pos (starEach es X.env)).any (·.1) = false := by rfl) :
    PI X (.Tuple elts kk tpos) (.Call (.Name "enumerate" p) (a :: es) [] pos) (tI (dEnum da)) := by
  refine ⟨fun pins s σ H R I ⟨g, F, ρ, Qd, k, h, c⟩ => ?_⟩
  refine Call_ (ld_blt I hg hm boot_enumerate (PyProof.Rows.callWith_type1 (thn (ha.run pos pins s σ H (fun vs H1 => ∃ F1 ρ1 d xs, EOk g F1 σ H1 ρ1 ∧ Ex F F1 ∧ itemsOf d = some xs ∧ ((Reps F1 vs [d] ∧ Qd (enumD 0 xs) ρ1) ∨ ∃ k0, Reps F1 vs [d, .int k0] ∧ -(2 ^ 63) ≤ k0 ∧ k0 < 2 ^ 63 ∧ Qd (enumD k0 xs) ρ1)) I ⟨g, F, ρ, _, k, h, fun F1 H1 ρ1 vs ds k1 e1 r1 q => ?_⟩) fun us s1 ⟨vs, H1, I1, rr, q1⟩ => ?_) hs hpl))
  · match ds, q, r1 with
    | [d], q, r1 =>
      cases h1 : itemsOf d with
      | none => simp only [h1] at q
      | some xs =>
        simp only [h1] at q
        exact ⟨F1, ρ1, d, xs, k1, e1, h1, .inl ⟨r1, q⟩⟩
    | [d, .int k0], q, r1 =>
      cases h1 : itemsOf d with
      | none => simp only [h1] at q
      | some xs =>
        simp only [h1] at q
        exact ⟨F1, ρ1, d, xs, k1, e1, h1, .inr ⟨k0, r1, q⟩⟩
  · obtain ⟨F1, ρ1, d, xs, k1, e1, h1, q | ⟨k0, q1, b1, b2, q⟩⟩ := q1
    · obtain ⟨r1, q⟩ := q
      cases r1 with
      | cons ra r1 =>
        cases r1
        cases rr with
        | cons rv rr =>
          cases rr
          obtain ⟨S1, ev1, a1, z1, l1, g1⟩ := src_of k1.ex ra rv h1
          subst ev1
          obtain ⟨C1, B1, c1⟩ := Src.begins I1 (a1.mono k1.ex)
          exact enum_begins1 B1 c1 fun h' he hi hsz hk => enum_end I1 k1 e1 c a1 z1 l1 g1 q he hi hk
    · cases q1 with
      | cons ra r1 =>
        cases r1 with
        | cons rb r1 =>
          cases r1
          cases rr with
          | cons rv rr =>
            cases rr with
            | cons rw' rr =>
              cases rr
              obtain ⟨S1, ev1, a1, z1, l1, g1⟩ := src_of k1.ex ra rv h1
              subst ev1
              cases rb
              obtain ⟨t, rfl⟩ := rw'
              obtain ⟨C1, B1, c1⟩ := Src.begins I1 (a1.mono k1.ex)
              exact enum_begins B1 c1 b1 b2 fun h' he hi hsz hk => enum_end I1 k1 e1 c a1 z1 l1 g1 q he hi hk
end
end DL

namespace DL
open PySem PySem.Spec PyProof.Rows L2

/-! ### x in y -/
def inS (x y : List Nat) : Bool := match x with
  | [c] => decide (c ∈ y)
  | x => !(Builtin.Str.occurrences (S y) (S x) 0 (S y).length 1).isEmpty
def oInB (neg : Bool) : DOp := fun d e K => match e with
  | .lst xs => d.pl = true ∧ pls xs = true ∧ d.dep ≤ 50 ∧ K (.bl (if neg = true then !(xs.any fun z => z.eq d) else xs.any fun z => z.eq d))
  | .tup xs => d.pl = true ∧ pls xs = true ∧ d.dep ≤ 50 ∧ K (.bl (if neg = true then !(xs.any fun z => z.eq d) else xs.any fun z => z.eq d))
  | .str y => match d with
    | .str x => K (.bl (if neg = true then !inS x y else inS x y))
    | _ => False
  | _ => False
def oIn : DOp := oInB false
def oNin : DOp := oInB true
theorem any_py : ∀ (xs : List D) (d : D), d.pl = true → pls xs = true → ((pys xs).any fun y => PyData.eqv y d.py) = xs.any fun z => z.eq d
  | [], _, _, _ => rfl
  | x :: xs, d, h, p => by
    simp only [pls, Bool.and_eq_true] at p
    have ih := any_py xs d h p.2
    show (PyData.eqv x.py d.py || (pys xs).any fun y => PyData.eqv y d.py) = (x.eq d || xs.any fun z => z.eq d)
    rw [ih, eq_py x d p.1 h]
section
variable {X : Cx} {k : Nat}
theorem or_in (hr : Room k X.A) : OpR X (compareOp .In) (rO oIn) := by
  intro pins s σ H x y v u Q I rx ry ⟨F, d, e, Qd, ex, r1, r2, o, c⟩
  have h3 := hr.units
  cases e with
  | str yl =>
    cases d <;> first | exact o.elim | skip
    rename_i xl
    cases r1; cases r2
    have o : Qd (.bl (inS xl yl)) := o
    match xl, o with
    | [a], o => exact op_in_sign pins s σ H _ _ v u Q I rx ry ⟨a, S yl, rfl, rfl, c F H _ _ (Grow.refl ex) (.bl _) o⟩
    | [], o => exact op_in_str pins s σ H _ _ v u Q I rx ry ⟨S [], S yl, rfl, rfl, c F H _ _ (Grow.refl ex) (.bl _) o⟩
    | a :: b :: r, o => exact op_in_str pins s σ H _ _ v u Q I rx ry ⟨S (a :: b :: r), S yl, rfl, rfl, c F H _ _ (Grow.refl ex) (.bl _) o⟩
  | lst xs =>
    obtain ⟨p1, p2, hd, o⟩ := o
    obtain ⟨as, q1⟩ := Dp.reads I d.py x v (r1.dp ex p1) rx
    obtain ⟨bs, q2⟩ := Dp.reads I (D.lst xs).py y u (r2.dp ex p2) ry
    have h1 := dep_py d
    refine SeqAt.in_list_data q2 q1 (pls_plain xs p2) (pl_plain d p1) (by omega) ⟨.bl _, H, I, rfl, ?_⟩
    rw [any_py xs d p1 p2]
    exact c F H _ _ (Grow.refl ex) (.bl _) o
  | tup xs =>
    obtain ⟨p1, p2, hd, o⟩ := o
    obtain ⟨as, q1⟩ := Dp.reads I d.py x v (r1.dp ex p1) rx
    obtain ⟨bs, q2⟩ := Dp.reads I (D.tup xs).py y u (r2.dp ex p2) ry
    have h1 := dep_py d
    refine SeqAt.in_tuple_data q2 q1 (pls_plain xs p2) (pl_plain d p1) (by omega) ⟨.bl _, H, I, rfl, ?_⟩
    rw [any_py xs d p1 p2]
    exact c F H _ _ (Grow.refl ex) (.bl _) o
  | _ => exact o.elim
theorem or_nin (hr : Room k X.A) : OpR X (compareOp .NotIn) (rO oNin) := by
  intro pins s σ H x y v u Q I rx ry ⟨F, d, e, Qd, ex, r1, r2, o, c⟩
  have h3 := hr.units
  cases e with
  | str yl =>
    cases d <;> first | exact o.elim | skip
    rename_i xl
    cases r1; cases r2
    have o : Qd (.bl (!inS xl yl)) := o
    match xl, o with
    | [a], o => exact op_notIn_sign pins s σ H _ _ v u Q I rx ry ⟨a, S yl, rfl, rfl, c F H _ _ (Grow.refl ex) (.bl _) o⟩
    | [], o => exact op_notIn_str pins s σ H _ _ v u Q I rx ry ⟨S [], S yl, rfl, rfl, c F H _ _ (Grow.refl ex) (.bl _) o⟩
    | a :: b :: r, o => exact op_notIn_str pins s σ H _ _ v u Q I rx ry ⟨S (a :: b :: r), S yl, rfl, rfl, c F H _ _ (Grow.refl ex) (.bl _) o⟩
  | lst xs =>
    obtain ⟨p1, p2, hd, o⟩ := o
    obtain ⟨as, q1⟩ := Dp.reads I d.py x v (r1.dp ex p1) rx
    obtain ⟨bs, q2⟩ := Dp.reads I (D.lst xs).py y u (r2.dp ex p2) ry
    have h1 := dep_py d
    refine SeqAt.notIn_list_data q2 q1 (pls_plain xs p2) (pl_plain d p1) (by omega) ⟨.bl _, H, I, rfl, ?_⟩
    rw [any_py xs d p1 p2]
    exact c F H _ _ (Grow.refl ex) (.bl _) o
  | tup xs =>
    obtain ⟨p1, p2, hd, o⟩ := o
    obtain ⟨as, q1⟩ := Dp.reads I d.py x v (r1.dp ex p1) rx
    obtain ⟨bs, q2⟩ := Dp.reads I (D.tup xs).py y u (r2.dp ex p2) ry
    have h1 := dep_py d
    refine SeqAt.notIn_tuple_data q2 q1 (pls_plain xs p2) (pl_plain d p1) (by omega) ⟨.bl _, H, I, rfl, ?_⟩
    rw [any_py xs d p1 p2]
    exact c F H _ _ (Grow.refl ex) (.bl _) o
  | _ => exact o.elim

/-! ### constants of a module -/
theorem de_glI {x : Str} {i : Int} {pos : Pos} (h : ∃ t, X.mg x = some (.int i t)) (hg : Gl X x := by rfl) (hd : (x == ("__debug__" : Str)) = false := by decide) : PE X (.Name x pos) (tE (dC (.int i))) := by
  obtain ⟨t, h⟩ := h
  exact de_c (pe_glob (v := .int i) hg h ⟨t, rfl⟩ hd) fun _ => .int i
theorem de_glS {x : Str} {l : List Nat} {pos : Pos} (h : ∃ t, X.mg x = some (.str (S l) t)) (z : l.length ≤ sizeLine := by decide) (hg : Gl X x := by rfl) (hd : (x == ("__debug__" : Str)) = false := by decide) : PE X (.Name x pos) (tE (dC (.str l))) := by
  obtain ⟨t, h⟩ := h
  exact de_c (pe_glob (v := .str (S l)) hg h ⟨t, rfl⟩ hd) fun _ => .str z
end

/-! ### a def that may be called -/
structure Cl (P : Program) (w : World) (K : PySem.W.Frag) (mg : Str → Option Value) (base : Heap) (x : Str) (k : Nat) (ps : List Str) (S : FnSpec) : Prop where
  ex : ∃ f fd, FnOk P w K mg base CX0 k f fd ps (spD S) ∧ mg x = some (.ref f) ∧ PySem.W.keepIn K (.ref f) = true ∧ Binds K fd ps []
/-- the same, of no promise yet -/
structure Pl (K : PySem.W.Frag) (mg : Str → Option Value) (x : Str) (st : Stmt) (ps : List Str) : Prop where
  ex : ∃ f fd, Fun K x x st f fd ∧ mg x = some (.ref f) ∧ Binds K fd ps []
def noSpec (io : List Bool) : FnSpec where
  io := io
  fresh := false
  ds _ _ := False
  mono _ _ _ _ h := h
section
variable {P : Program} {w : World} {K : PySem.W.Frag} {mg : Str → Option Value} {base : Heap} {x : Str} {st : Stmt} {ps N : List Str} {k j : Nat} {Sp : FnSpec} {db : DTS}
theorem Cl.mono (C : Cl P w K mg base x j ps Sp) (h : j ≤ k) : Cl P w K mg base x k ps Sp := by
  obtain ⟨f, fd, F, r⟩ := C.ex
  exact ⟨f, fd, F.mono h, r⟩
theorem Pl.never (p : Pl K mg x st ps) (io : List Bool) : Cl P w K mg base x 0 ps (noSpec io) := by
  obtain ⟨f, fd, F, m, b⟩ := p.ex
  refine ⟨f, fd, ⟨fun vs H Q E h => ?_, fun A outer s H args us vs Q E hr e0 hb r h => ?_⟩, m, F.kp, b⟩
  · obtain ⟨_, _, _, _, _, _, h⟩ := h; exact h.elim
  · obtain ⟨_, _, _, _, _, _, h⟩ := h; exact h.elim
theorem Pl.cl (p : Pl K mg x st ps) (sc : FnScope N ps (defScope st)) (hn : Sp.io.length = ps.length) (hN : ps.length ≤ N.length)
    (body : ∀ (f : Addr) (cdv : Value) (A : Around) (outer : List PySem.Env) (s : Shared) (H : Hp) (E : XK), Room k (A.deeper (envOfC x (defScope st) s.heap.objs.size f cdv)) → PSs (cxOf CX0 P w K mg base N x (defScope st) f cdv A outer s H E).nox (defBody st) (tS db))
    (sem : ∀ ds Kd, Sp.ds ds Kd → db (endsOf Sp Kd) (env0 N.length Sp.io ds)) : Cl P w K mg base x (k + 1) ps Sp := by
  obtain ⟨f, fd, F, m, b⟩ := p.ex
  exact ⟨f, fd, fn_D F sc hn hN (fun cdv A outer s H E hr => body f cdv A outer s H E hr) sem, m, F.kp, b⟩
end
section
variable {X : Cx} {k : Nat} {ps : List Str} {Sp : FnSpec} {x : Str} {p pos : Pos} {e : Expr} {es : List Expr} {da : DTA}
theorem ce_call (C : Cl X.prog X.w X.K X.mg X.base x k ps Sp) (hr : Room k X.A) (ha : PA X (e :: es) (tA da)) (hio : (Sp.io.all fun b => !b) = true := by rfl) (hf : Sp.fresh = false := by rfl)
    (hg : Gl X x := by rfl) (hdb : (x == ("__debug__" : Str)) = false := by decide) (he : starEach (e :: es) X.env = (false, eval e X.env) :: starEach es X.env := by rfl) (hpl : (backTo pos (starEach es X.env)).any (·.1) = false := by rfl) :
    PE X (.Call (.Name x p) (e :: es) [] pos) (tE (dCall Sp da)) := by
  obtain ⟨f, fd, F, m, kp, b⟩ := C.ex
  exact de_call F hr m kp b hio hf ha hg hdb he hpl
theorem cx_call (C : Cl X.prog X.w X.K X.mg X.base x k ps Sp) (hr : Room k X.A) (ha : PA X (e :: es) (tA da)) (hio : (Sp.io.all fun b => !b) = true := by rfl) (hf : Sp.fresh = true := by rfl)
    (hg : Gl X x := by rfl) (hdb : (x == ("__debug__" : Str)) = false := by decide) (he : starEach (e :: es) X.env = (false, eval e X.env) :: starEach es X.env := by rfl) (hpl : (backTo pos (starEach es X.env)).any (·.1) = false := by rfl) :
    PE X (.Call (.Name x p) (e :: es) [] pos) (tX (dCallF Sp da)) := by
  obtain ⟨f, fd, F, m, kp, b⟩ := C.ex
  exact dx_call F hr m kp b hio hf ha hg hdb he hpl
theorem cx_callIo {i : Nat} {bs : List Bool} {y : Str} {q : Pos} (C : Cl X.prog X.w X.K X.mg X.base x k ps Sp) (hr : Room k X.A) (hy : PE X (.Name y q) (tVar i)) (ha : PA X es (tA da)) (hio : Sp.io = true :: bs := by rfl) (hbs : (bs.all fun b => !b) = true := by rfl)
    (hg : Gl X x := by rfl) (hdb : (x == ("__debug__" : Str)) = false := by decide) (he : starEach (.Name y q :: es) X.env = (false, eval (.Name y q) X.env) :: starEach es X.env := by rfl) (hpl : (backTo pos (starEach es X.env)).any (·.1) = false := by rfl) :
    PE X (.Call (.Name x p) (.Name y q :: es) [] pos) (tX (dCallIo Sp i da)) := by
  obtain ⟨f, fd, F, m, kp, b⟩ := C.ex
  exact dx_callIo F hr m kp b hio hbs hy ha hg hdb he hpl
end
end DL

namespace DL
open PySem PySem.Spec PyProof.Rows L2

/-! ### x * y -/
def repL {α : Type} (xs : List α) (n : Nat) : List α := (List.replicate n xs).flatten
theorem repL_length {α : Type} (xs : List α) (n : Nat) : (repL xs n).length = n * xs.length := by
  unfold repL
  induction n with
  | zero => simp
  | succ n ih => rw [List.replicate_succ, List.flatten_cons, List.length_append, ih, Nat.succ_mul, Nat.add_comm]
def oMul : DOp := fun d e K => match d, e with
  | .int i, .int j => CMul i j ∧ K (.int (i * j))
  | _, _ => False
section
variable {X : Cx} {elt tg iter : Expr} {ifs : List Expr} {scope : Scope} {own : List (Str × Nat)} {pos : Pos} {di : DTI} {dg : DTG} {dt : DTT} {de : DTE} {sl : List Nat}
theorem or_mul : OpR X (binaryOp .Mult) (rO oMul) := by
  intro pins s σ H x y v u Q I rx ry ⟨F, d, e, Qd, ex, r1, r2, o, c⟩
  cases d <;> cases e <;> first | exact o.elim | skip
  obtain ⟨hc, o⟩ := o
  cases r1; cases r2
  exact op_mul pins s σ H _ _ v u Q I rx ry ⟨_, _, rfl, rfl, hc, c F H _ _ (Grow.refl ex) (.int _) o⟩
/-- y = [..], kept from now on -/
theorem tx_fz {dx : DTX} {σ : L2.St} {H : Hp} {Q : VK} (h : tX (dUp (dFz dx)) σ H Q) : tX dx σ H Q := by
  obtain ⟨g, F, ρ, Qd, k, h, c⟩ := h
  refine ⟨g, F, ρ, _, k, h, fun F' H' ρ' v cl k' ex t q => ?_⟩
  cases cl with
  | un => exact q.elim
  | io d => exact q.elim
  | fz d => exact c F' H' ρ' v _ k' ex t q
  | ow d =>
    obtain ⟨F'', k'', ex', r⟩ := k'.keepTmp t
    exact c F'' H' ρ' v (.fz d) k'' (ex.trans ex') r q
theorem ds_setLcF {i : Nat} {y : Str} {py spos : Pos} (hc : X.calm = true) (hN : X.N.Nodup) (hy : X.N[i]? = some y) (hyl : X.env.scope.names.lookup y = some .local)
    (hsw : swapsWith (.ListComp elt [⟨tg, iter, ifs, 0⟩] scope pos) (some (.Name y py)) spos.line X.env = pure true) (hi : PI X tg iter (tI di)) (ok : BlkOk X.N X.env.scope scope own)
    (hg : ∀ (s : Shared) (H : Hp) (C : Addr) (cl : List (Str × Addr)) (fp : List Addr), PG (X.blk s H scope (compEnvC scope cl C X.env) fp) tg (tG sl dg)) (ht : ∀ (s : Shared) (H : Hp) (C : Addr) (cl : List (Str × Addr)) (fp : List Addr), PTs (X.blk s H scope (compEnvC scope cl C X.env) fp) ifs (tT dt))
    (he : ∀ (s : Shared) (H : Hp) (C : Addr) (cl : List (Str × Addr)) (fp : List Addr), PE (X.blk s H scope (compEnvC scope cl C X.env) fp) elt (tE de)) (hsl : ∀ j ∈ sl, j ∈ own.map (·.2)) (hs : ∀ x, foldedSetIterable iter X.env x = pure x := by intro _; rfl) :
    PS X (.Assign [.Name y py] (.ListComp elt [⟨tg, iter, ifs, 0⟩] scope pos) spos) (tS (dSet i (dUp (dFz (dLc di dg dt de (own.map (·.2))))))) :=
  ps_imp (ps_setLc hc hN hy hyl hsw hi ok hg ht he hs) fun D σ H h => t_set (fun _ _ _ q => t_lc hsl (tx_fz q)) h
end
end DL

namespace DL
open PySem PySem.Spec PyProof.Rows L2

/-! ### plain laws of reading -/
theorem ixN_nat (n L : Nat) : ixN L ((n : Nat) : Int) = if n < L then some n else none := by
  unfold ixN
  rw [if_pos (by omega)]
  by_cases h : n < L
  · rw [if_pos (by omega), if_pos h, Int.toNat_natCast]
  · rw [if_neg (by omega), if_neg h]
theorem ixN_lit (n L : Nat) : ixN L (no_index (OfNat.ofNat n : Int)) = if n < L then some n else none := ixN_nat n L
theorem atI_natE {α : Type} (xs : List α) (n : Nat) : atI xs ((n : Nat) : Int) = xs[n]? := by
  unfold atI
  rw [ixN_nat]
  by_cases h : n < xs.length
  · rw [if_pos h, Option.bind_some]
  · rw [if_neg h, List.getElem?_eq_none (by omega)] <;> rfl
theorem atI_lit {α : Type} (xs : List α) (n : Nat) : atI xs (no_index (OfNat.ofNat n : Int)) = xs[n]? := atI_natE xs n
theorem atI_pos {α : Type} {xs : List α} {i : Int} (h0 : 0 ≤ i) : atI xs i = xs[i.toNat]? := by
  obtain ⟨n, rfl⟩ := Int.eq_ofNat_of_zero_le h0
  exact atI_natE xs n
theorem atI_map {α β : Type} (f : α → β) (xs : List α) (i : Int) : atI (xs.map f) i = (atI xs i).map f := by
  unfold atI
  rw [List.length_map]
  cases ixN xs.length i with
  | none => rfl
  | some n => simp
theorem atI_in {α : Type} {xs : List α} {i : Int} (h0 : 0 ≤ i) (h1 : i < xs.length) : ∃ x, atI xs i = some x ∧ xs[i.toNat]? = some x ∧ x ∈ xs := by
  have h : i.toNat < xs.length := by omega
  exact ⟨xs[i.toNat], by rw [atI_pos h0, List.getElem?_eq_getElem h], List.getElem?_eq_getElem h, List.getElem_mem h⟩
/-- one statement, then the others -/
theorem seq_gen {a b : DTS} {E : DEnds} {ρ : Env} (h : ∀ k : Env → Prop, k = b E → a { E with nx := k } ρ) : dSeq a b E ρ := h _ rfl
theorem if_gen {c : DTT} {a b : DTS} {E : DEnds} {ρ : Env} (h : ∀ kA kB : Env → Prop, kA = a E → kB = b E → c ρ fun t ρ' => if t = true then kA ρ' else kB ρ') : dIf c a b E ρ := h _ _ rfl rfl
theorem oEq_int {i j : Int} {K : D → Prop} : oEq (.int i) (.int j) K ↔ K (.bl (decide (i = j))) := by
  have e : D.eq (.int i) (.int j) = decide (i = j) := by
    show (i == j) = decide (i = j)
    by_cases h : i = j
    · subst h; simp
    · simp [h]
  unfold oEq
  rw [e]
  exact ⟨fun h => h.2.2.2, fun h => ⟨rfl, rfl, .inl (by simp only [D.dep]; decide), h⟩⟩
theorem oNe_int {i j : Int} {K : D → Prop} : oNe (.int i) (.int j) K ↔ K (.bl (decide (i ≠ j))) := by
  have e : (!D.eq (.int i) (.int j)) = decide (i ≠ j) := by
    show (!(i == j)) = decide (i ≠ j)
    by_cases h : i = j
    · subst h; simp
    · simp [h]
  unfold oNe
  rw [e]
  exact ⟨fun h => h.2.2.2, fun h => ⟨rfl, rfl, .inl (by simp only [D.dep]; decide), h⟩⟩
theorem oEq_str {x y : List Nat} {K : D → Prop} : oEq (.str x) (.str y) K ↔ K (.bl (decide (x = y))) := by
  have e : D.eq (.str x) (.str y) = decide (x = y) := by
    show (x == y) = decide (x = y)
    by_cases h : x = y
    · subst h; simp
    · simp [h]
  unfold oEq
  rw [e]
  exact ⟨fun h => h.2.2.2, fun h => ⟨rfl, rfl, .inl (by simp only [D.dep]; decide), h⟩⟩
theorem oNe_str {x y : List Nat} {K : D → Prop} : oNe (.str x) (.str y) K ↔ K (.bl (decide (x ≠ y))) := by
  have e : (!D.eq (.str x) (.str y)) = decide (x ≠ y) := by
    show (!(x == y)) = decide (x ≠ y)
    by_cases h : x = y
    · subst h; simp
    · simp [h]
  unfold oNe
  rw [e]
  exact ⟨fun h => h.2.2.2, fun h => ⟨rfl, rfl, .inl (by simp only [D.dep]; decide), h⟩⟩
theorem oEq_bl {x y : Bool} {K : D → Prop} : oEq (.bl x) (.bl y) K ↔ K (.bl (x == y)) :=
  ⟨fun h => h.2.2.2, fun h => ⟨rfl, rfl, .inl (by simp only [D.dep]; decide), h⟩⟩
theorem oNe_bl {x y : Bool} {K : D → Prop} : oNe (.bl x) (.bl y) K ↔ K (.bl (!(x == y))) :=
  ⟨fun h => h.2.2.2, fun h => ⟨rfl, rfl, .inl (by simp only [D.dep]; decide), h⟩⟩
theorem dWhile_iff {dt : DTT} {db : DTS} {E : DEnds} {ρ : Env} (W : Nat → Env → Prop) (m0 : Nat) (h0 : W m0 ρ)
    (h : ∀ m ρ, W m ρ → dt ρ fun b ρ1 => if b = true then db { nx := fun ρ' => ∃ m', m' < m ∧ W m' ρ', ct := fun ρ' => ∃ m', m' < m ∧ W m' ρ', bk := E.nx, rt := E.rt } ρ1 else E.nx ρ1) : dWhile dt db E ρ := ⟨W, ⟨m0, h0⟩, h⟩
/-! ### boxes: what stands in one is left alone by simp -/
class Bx (α : Type) where
  out : α
def lcB [b : Bx (DTG × DTT × DTE × List Nat × (List D → Env → Prop))] (xs acc : List D) (ρ : Env) : Prop := lcW b.out.1 b.out.2.1 b.out.2.2.1 b.out.2.2.2.1 xs acc ρ b.out.2.2.2.2
def forB [b : Bx (DTG × DTS × DEnds)] (xs : List D) (ρ : Env) : Prop := forW b.out.1 b.out.2.1 b.out.2.2 xs ρ
def whB [b : Bx (DTT × DTS × DEnds)] (ρ : Env) : Prop := dWhile b.out.1 b.out.2.1 b.out.2.2 ρ
def onB [b : Bx (D → List D → Prop)] (Sp : FnSpec) (ds : List D) : Prop := Sp.ds ds b.out
theorem u_lc {di : DTI} {tg : DTG} {tt : DTT} {te : DTE} {vs : List Nat} {ρ : Env} {Q : Cell → Env → Prop} : dLc di tg tt te vs ρ Q = di ρ fun items ρ1 => (vs.all fun v => !(ρ1.getD v .un).own) = true ∧ @lcB ⟨(tg, tt, te, vs, fun acc ρ2 => Q (.ow (.lst acc)) (restE ρ1 ρ2 vs))⟩ items [] ρ1 := rfl
theorem u_for {di : DTI} {tg : DTG} {b : DTS} {E : DEnds} {ρ : Env} : dFor di tg b E ρ = di ρ fun items ρ1 => @forB ⟨(tg, b, E)⟩ items ρ1 := rfl
theorem u_while {dt : DTT} {db : DTS} {E : DEnds} {ρ : Env} : dWhile dt db E ρ = @whB ⟨(dt, db, E)⟩ ρ := rfl
theorem u_call {Sp : FnSpec} {da : DTA} {ρ : Env} {Q : D → Env → Prop} : dCall Sp da ρ Q = da ρ fun ds ρ' => ds.length = Sp.io.length ∧ @onB ⟨fun r _ => Q r ρ'⟩ Sp ds := rfl
theorem u_callF {Sp : FnSpec} {da : DTA} {ρ : Env} {Q : Cell → Env → Prop} : dCallF Sp da ρ Q = da ρ fun ds ρ' => ds.length = Sp.io.length ∧ @onB ⟨fun r _ => Q (.ow r) ρ'⟩ Sp ds := rfl
def ioB (Sp : FnSpec) (Q : Cell → Env → Prop) (i : Nat) (ρ' : Env) (c : Cell) (r : D) (os : List D) : Prop := match os with
  | [d'] => Q (if Sp.fresh = true then .ow r else .fz r) (ρ'.set i (c.up d'))
  | _ => False
def ownAt (ρ : Env) (i : Nat) : Bool := match ρ[i]? with
  | some c => c.own
  | none => false
theorem u_callIo {Sp : FnSpec} {i : Nat} {da : DTA} {ρ : Env} {Q : Cell → Env → Prop} : dCallIo Sp i da ρ Q ↔ (ownAt ρ i = true ∧ da ρ fun ds ρ' => match ρ'[i]? with
  | some c => ds.length + 1 = Sp.io.length ∧ c.own = true ∧ match c.val with
    | some d => @onB ⟨ioB Sp Q i ρ' c⟩ Sp (d :: ds)
    | none => False
  | none => False) := by
  have e : (∃ c, ρ[i]? = some c ∧ c.own = true) ↔ ownAt ρ i = true := by
    unfold ownAt
    cases ρ[i]? with
    | none => simp
    | some c => exact ⟨fun ⟨_, e, h⟩ => by cases e; exact h, fun h => ⟨c, rfl, h⟩⟩
  show ((∃ c, ρ[i]? = some c ∧ c.own = true) ∧ _) ↔ _
  rw [e]
  exact Iff.rfl
theorem lcB_of {tg : DTG} {tt : DTT} {te : DTE} {vs : List Nat} {K : List D → Env → Prop} {xs acc : List D} {ρ : Env} (h : lcW tg tt te vs xs acc ρ K) : @lcB ⟨(tg, tt, te, vs, K)⟩ xs acc ρ := h
theorem forB_of {tg : DTG} {b : DTS} {E : DEnds} {xs : List D} {ρ : Env} (h : forW tg b E xs ρ) : @forB ⟨(tg, b, E)⟩ xs ρ := h
theorem whB_of {dt : DTT} {db : DTS} {E : DEnds} {ρ : Env} (h : dWhile dt db E ρ) : @whB ⟨(dt, db, E)⟩ ρ := h
theorem onB_of {Sp : FnSpec} {K : D → List D → Prop} {ds : List D} (h : Sp.ds ds K) : @onB ⟨K⟩ Sp ds := h
theorem isi_int {i : Int} {K : D → Prop} : oIsi "int" (.int i) K ↔ K (.bl true) := by
  have e : isiB "int" "int" = true := by decide
  show K (.bl (isiB "int" "int")) ↔ _
  rw [e]
theorem isi_int_bl {i : Int} {K : D → Prop} : oIsi "bool" (.int i) K ↔ K (.bl false) := by
  have e : isiB "int" "bool" = false := by decide
  show K (.bl (isiB "int" "bool")) ↔ _
  rw [e]
theorem isi_int_str {i : Int} {K : D → Prop} : oIsi "str" (.int i) K ↔ K (.bl false) := by
  have e : isiB "int" "str" = false := by decide
  show K (.bl (isiB "int" "str")) ↔ _
  rw [e]
theorem isi_int_tup {i : Int} {K : D → Prop} : oIsi "tuple" (.int i) K ↔ K (.bl false) := by
  have e : isiB "int" "tuple" = false := by decide
  show K (.bl (isiB "int" "tuple")) ↔ _
  rw [e]
theorem isi_int_lst {i : Int} {K : D → Prop} : oIsi "list" (.int i) K ↔ K (.bl false) := by
  have e : isiB "int" "list" = false := by decide
  show K (.bl (isiB "int" "list")) ↔ _
  rw [e]
theorem isi_str {l : List Nat} {K : D → Prop} : oIsi "str" (.str l) K ↔ K (.bl true) := by
  have e : isiB "str" "str" = true := by decide
  show K (.bl (isiB "str" "str")) ↔ _
  rw [e]
theorem isi_str_int {l : List Nat} {K : D → Prop} : oIsi "int" (.str l) K ↔ K (.bl false) := by
  have e : isiB "str" "int" = false := by decide
  show K (.bl (isiB "str" "int")) ↔ _
  rw [e]
theorem isi_tup {l : List D} {K : D → Prop} : oIsi "tuple" (.tup l) K ↔ K (.bl true) := by
  have e : isiB "tuple" "tuple" = true := by decide
  show K (.bl (isiB "tuple" "tuple")) ↔ _
  rw [e]
theorem isi_tup_int {l : List D} {K : D → Prop} : oIsi "int" (.tup l) K ↔ K (.bl false) := by
  have e : isiB "tuple" "int" = false := by decide
  show K (.bl (isiB "tuple" "int")) ↔ _
  rw [e]
theorem isi_tup_str {l : List D} {K : D → Prop} : oIsi "str" (.tup l) K ↔ K (.bl false) := by
  have e : isiB "tuple" "str" = false := by decide
  show K (.bl (isiB "tuple" "str")) ↔ _
  rw [e]
theorem isi_tup_lst {l : List D} {K : D → Prop} : oIsi "list" (.tup l) K ↔ K (.bl false) := by
  have e : isiB "tuple" "list" = false := by decide
  show K (.bl (isiB "tuple" "list")) ↔ _
  rw [e]
theorem isi_lst {l : List D} {K : D → Prop} : oIsi "list" (.lst l) K ↔ K (.bl true) := by
  have e : isiB "list" "list" = true := by decide
  show K (.bl (isiB "list" "list")) ↔ _
  rw [e]
theorem isi_lst_tup {l : List D} {K : D → Prop} : oIsi "tuple" (.lst l) K ↔ K (.bl false) := by
  have e : isiB "list" "tuple" = false := by decide
  show K (.bl (isiB "list" "tuple")) ↔ _
  rw [e]
theorem isi_lst_int {l : List D} {K : D → Prop} : oIsi "int" (.lst l) K ↔ K (.bl false) := by
  have e : isiB "list" "int" = false := by decide
  show K (.bl (isiB "list" "int")) ↔ _
  rw [e]
theorem isi_lst_str {l : List D} {K : D → Prop} : oIsi "str" (.lst l) K ↔ K (.bl false) := by
  have e : isiB "list" "str" = false := by decide
  show K (.bl (isiB "list" "str")) ↔ _
  rw [e]
theorem ex_some {c : Cell} : (∃ c', some c = some c' ∧ c'.own = true) ↔ c.own = true := ⟨fun ⟨_, e, h⟩ => by cases e; exact h, fun h => ⟨c, rfl, h⟩⟩
end DL

namespace DL
open PySem PySem.Spec PyProof.Rows L2

/-! ### loops over data, by what stands between the turns -/
theorem forW_inv {tg : DTG} {body : DTS} {E : DEnds} (I : List D → Env → Prop)
    (h : ∀ (x : D) (xs : List D) (ρ : Env) (k : Env → Prop), I (x :: xs) ρ → (∀ ρ', I xs ρ' → k ρ') → tg x ρ fun ρ2 => body { nx := k, ct := k, bk := E.nx, rt := E.rt } ρ2)
    (hd : ∀ ρ, I [] ρ → E.nx ρ) : ∀ (xs : List D) (ρ : Env), I xs ρ → forW tg body E xs ρ
  | [], ρ, i => hd ρ i
  | x :: xs, ρ, i => h x xs ρ _ i fun ρ' i' => forW_inv I h hd xs ρ' i'
theorem lcW_inv {tg : DTG} {tt : DTT} {te : DTE} {vs : List Nat} {K : List D → Env → Prop} (I : List D → List D → Env → Prop)
    (h : ∀ (x : D) (xs acc : List D) (ρ : Env) (kT : D → Env → Prop) (kF : Env → Prop), I (x :: xs) acc ρ → (∀ y ρ', I xs (acc ++ [y]) ρ' → kT y ρ') → (∀ ρ', I xs acc ρ' → kF ρ') → tg x (wipeE ρ vs) fun ρ2 => tt ρ2 fun b ρ3 => if b = true then te ρ3 fun y ρ4 => kT y ρ4 else kF ρ3)
    (hd : ∀ acc ρ, I [] acc ρ → K acc ρ) : ∀ (xs acc : List D) (ρ : Env), I xs acc ρ → lcW tg tt te vs xs acc ρ K
  | [], acc, ρ, i => hd acc ρ i
  | x :: xs, acc, ρ, i => h x xs acc ρ (fun y ρ4 => lcW tg tt te vs xs (acc ++ [y]) ρ4 K) (fun ρ3 => lcW tg tt te vs xs acc ρ3 K) i (fun y ρ' i' => lcW_inv I h hd xs _ ρ' i') (fun ρ' i' => lcW_inv I h hd xs _ ρ' i')
theorem rest_of_wipe {ρ0 ρ' : Env} {vs : List Nat} (h : wipeE ρ' vs = wipeE ρ0 vs) : restE ρ0 ρ' vs = ρ0 := by
  have hl : ρ'.length = ρ0.length := by
    have := congrArg List.length h
    rw [wipeE_length, wipeE_length] at this
    exact this
  apply List.ext_getElem?
  intro j
  by_cases hj : j ∈ vs
  · by_cases hlt : j < ρ'.length
    · rw [restE_mem hj hlt, List.getElem?_eq_getElem (by rw [← hl]; exact hlt), List.getD_eq_getElem?_getD, List.getElem?_eq_getElem (by rw [← hl]; exact hlt)] <;> rfl
    · rw [List.getElem?_eq_none (by rw [restE_length]; omega), List.getElem?_eq_none (by omega)]
  · rw [restE_not hj, ← wipeE_not (ρ := ρ') hj, h, wipeE_not hj]
theorem wipe_wipeE {ρ : Env} {vs : List Nat} : wipeE (wipeE ρ vs) vs = wipeE ρ vs := by
  apply List.ext_getElem?
  intro j
  by_cases hj : j ∈ vs
  · by_cases hlt : j < ρ.length
    · rw [wipeE_mem hj (by rw [wipeE_length]; exact hlt), wipeE_mem hj hlt]
    · rw [List.getElem?_eq_none (by rw [wipeE_length, wipeE_length]; omega), List.getElem?_eq_none (by rw [wipeE_length]; omega)]
  · rw [wipeE_not hj]
/-- a comprehension whose parts turn no slot but its own -/
theorem lcW_pure {tg : DTG} {tt : DTT} {te : DTE} {vs : List Nat} {K : List D → Env → Prop} (ρ0 : Env) (P : D → Bool) (f : D → D) (items : List D)
    (h : ∀ x ∈ items, ∀ (kT : D → Env → Prop) (kF : Env → Prop), (P x = true → ∀ ρ', wipeE ρ' vs = wipeE ρ0 vs → kT (f x) ρ') → (P x = false → ∀ ρ', wipeE ρ' vs = wipeE ρ0 vs → kF ρ') →
      tg x (wipeE ρ0 vs) fun ρ2 => tt ρ2 fun b ρ3 => if b = true then te ρ3 fun y ρ4 => kT y ρ4 else kF ρ3)
    (hK : ∀ ρ', wipeE ρ' vs = wipeE ρ0 vs → K ((items.filter P).map f) ρ') : lcW tg tt te vs items [] ρ0 K := by
  refine lcW_inv (fun rest acc ρ => wipeE ρ vs = wipeE ρ0 vs ∧ ∃ pre, items = pre ++ rest ∧ acc = (pre.filter P).map f) (fun x xs acc ρ kT kF ⟨hw, pre, e1, e2⟩ hT hF => ?_) (fun acc ρ ⟨hw, pre, e1, e2⟩ => ?_) items [] ρ0 ⟨rfl, [], rfl, rfl⟩
  · rw [hw]
    refine h x (by rw [e1]; simp) _ _ (fun hp ρ' hw' => hT _ _ ⟨hw', pre ++ [x], by rw [e1]; simp, by rw [e2, List.filter_append, List.map_append]; simp [hp]⟩) fun hp ρ' hw' => hF _ ⟨hw', pre ++ [x], by rw [e1]; simp, by rw [e2, List.filter_append, List.map_append]; simp [hp]⟩
  · rw [List.append_nil] at e1
    subst e1 e2
    exact hK ρ hw
/-- .. without a test -/
theorem lcW_map {tg : DTG} {te : DTE} {vs : List Nat} {K : List D → Env → Prop} (ρ0 : Env) (f : D → D) (items : List D)
    (h : ∀ x ∈ items, ∀ (kT : D → Env → Prop), (∀ ρ', wipeE ρ' vs = wipeE ρ0 vs → kT (f x) ρ') → tg x (wipeE ρ0 vs) fun ρ2 => te ρ2 kT)
    (hK : ∀ ρ', wipeE ρ' vs = wipeE ρ0 vs → K (items.map f) ρ') : lcW tg dYes te vs items [] ρ0 K := by
  refine lcW_pure ρ0 (fun _ => true) f items (fun x hx kT kF hT hF => ?_) (fun ρ' hw => by rw [List.filter_eq_self.mpr (by simp)]; exact hK ρ' hw)
  exact h x hx kT fun ρ' hw => hT rfl ρ' hw
theorem cdiv_lit {i : Int} {j : Int} (h : 0 < j) (h2 : j < 1073741824) : CDiv i j := ⟨h, h2⟩
/-! ### signs -/
theorem ltL1 (a b : Nat) : ltL [a] [b] = decide (a < b) := by
  unfold ltL
  by_cases h : a < b
  · rw [decide_eq_true h, decide_eq_true]
    exact List.Lex.rel h
  · rw [decide_eq_false h, decide_eq_false]
    intro z
    rcases List.cons_lt_cons_iff.mp z with z | ⟨_, z⟩
    · exact h z
    · exact absurd z (by simp)
theorem oLe_sign {a b : Nat} {K : D → Prop} : oLe (.str [a]) (.str [b]) K ↔ K (.bl (decide (a ≤ b))) := by
  show K (.bl (!ltL [b] [a])) ↔ _
  rw [ltL1]
  have e : (!decide (b < a)) = decide (a ≤ b) := by
    by_cases h : b < a
    · rw [decide_eq_true h, decide_eq_false (by omega)]; rfl
    · rw [decide_eq_false h, decide_eq_true (by omega)]; rfl
  rw [e]
theorem oLt_int {i j : Int} {K : D → Prop} : oLt (.int i) (.int j) K ↔ K (.bl (decide (i < j))) := Iff.rfl
/-! ### lists of one kind -/
theorem boolsOf_map {α : Type} (f : α → Bool) : ∀ xs : List α, boolsOf (xs.map fun a => .bl (f a)) = some (xs.map f)
  | [] => rfl
  | x :: xs => by
    show (boolsOf (xs.map fun a => D.bl (f a))).map (f x :: ·) = some (f x :: xs.map f)
    rw [boolsOf_map f xs] <;> rfl
theorem strsOf_map {α : Type} (f : α → List Nat) : ∀ xs : List α, strsOf (xs.map fun a => .str (f a)) = some (xs.map f)
  | [] => rfl
  | x :: xs => by
    show (strsOf (xs.map fun a => D.str (f a))).map (f x :: ·) = some (f x :: xs.map f)
    rw [strsOf_map f xs] <;> rfl
theorem strsOf_str (xs : List (List Nat)) : strsOf (xs.map .str) = some xs := by
  have := strsOf_map (fun a => a) xs
  simpa using this
theorem intsOf_map {α : Type} (f : α → Int) : ∀ xs : List α, intsOf (xs.map fun a => .int (f a)) = some (xs.map f)
  | [] => rfl
  | x :: xs => by
    show (intsOf (xs.map fun a => D.int (f a))).map (f x :: ·) = some (f x :: xs.map f)
    rw [intsOf_map f xs] <;> rfl
/-- ints that are counts; texts -/
def il (xs : List Nat) : List D := xs.map fun (n : Nat) => D.int ((n : Nat) : Int)
def sl (xs : List (List Nat)) : List D := xs.map .str
theorem il_length (xs : List Nat) : (il xs).length = xs.length := by simp [il]
theorem sl_length (xs : List (List Nat)) : (sl xs).length = xs.length := by simp [sl]
theorem il_get {xs : List Nat} {i : Nat} : (il xs)[i]? = (xs[i]?).map fun (n : Nat) => D.int ((n : Nat) : Int) := by simp [il]
theorem sl_get {xs : List (List Nat)} {i : Nat} : (sl xs)[i]? = (xs[i]?).map .str := by simp [sl]
theorem pls_il : ∀ xs : List Nat, pls (il xs) = true
  | [] => rfl
  | x :: xs => by
    show (true && pls (il xs)) = true
    rw [pls_il xs] <;> rfl
theorem pls_sl : ∀ xs : List (List Nat), pls (sl xs) = true
  | [] => rfl
  | x :: xs => by
    show (true && pls (sl xs)) = true
    rw [pls_sl xs] <;> rfl
theorem eqs_il : ∀ xs ys : List Nat, eqs (il xs) (il ys) = decide (xs = ys)
  | [], [] => by simp [il, eqs]
  | [], y :: ys => by simp [il, eqs]
  | x :: xs, [] => by simp [il, eqs]
  | x :: xs, y :: ys => by
    have ih := eqs_il xs ys
    show (((x : Int) == (y : Int)) && eqs (il xs) (il ys)) = decide (x :: xs = y :: ys)
    rw [ih]
    by_cases h : x = y
    · subst h; simp
    · have h2 : ¬ ((x : Int) = (y : Int)) := by omega
      simp [h, h2]
theorem eqs_sl : ∀ xs ys : List (List Nat), eqs (sl xs) (sl ys) = decide (xs = ys)
  | [], [] => by simp [sl, eqs]
  | [], y :: ys => by simp [sl, eqs]
  | x :: xs, [] => by simp [sl, eqs]
  | x :: xs, y :: ys => by
    have ih := eqs_sl xs ys
    show ((x == y) && eqs (sl xs) (sl ys)) = decide (x :: xs = y :: ys)
    rw [ih]
    by_cases h : x = y
    · subst h; simp
    · simp [h]
theorem any_il (xs : List Nat) (n : Nat) : ((il xs).any fun z => z.eq (.int (n : Int))) = decide (n ∈ xs) := by
  induction xs with
  | nil => simp [il]
  | cons x xs ih =>
    show (((x : Int) == (n : Int)) || (il xs).any fun z => z.eq (.int (n : Int))) = decide (n ∈ x :: xs)
    rw [ih]
    by_cases h : x = n
    · subst h; simp
    · have h2 : ¬ ((x : Int) = (n : Int)) := by omega
      have h3 : ¬ n = x := fun e => h e.symm
      simp [h2, h3]
/-- slices between two counts -/
theorem cutG_nat {α : Type} (xs : List α) (a b : Nat) : cutG xs (some (a : Int)) (some (b : Int)) = (xs.drop a).take (b - a) := by
  unfold cutG
  rw [HT.sIx_nat, HT.sIx_nat]
  by_cases ha : a ≤ xs.length
  · have e1 : min a xs.length = a := by omega
    rw [e1]
    by_cases hb : b ≤ xs.length
    · have e2 : min b xs.length = b := by omega
      rw [e2]
    · have e2 : min b xs.length = xs.length := by omega
      rw [e2, List.take_of_length_le (by rw [List.length_drop]; omega), List.take_of_length_le (by rw [List.length_drop]; omega)]
  · have e1 : min a xs.length = xs.length := by omega
    rw [e1, List.drop_of_length_le (by omega : xs.length ≤ a), List.drop_of_length_le (Nat.le_refl _)]
    simp
theorem cutG_from {α : Type} (xs : List α) (a : Nat) : cutG xs (some (a : Int)) none = xs.drop a := by
  unfold cutG
  rw [HT.sIx_nat, HT.sIx_none]
  by_cases ha : a ≤ xs.length
  · have e1 : min a xs.length = a := by omega
    rw [e1, List.take_of_length_le (by rw [List.length_drop]; omega)]
  · have e1 : min a xs.length = xs.length := by omega
    rw [e1, List.drop_of_length_le (by omega : xs.length ≤ a), List.drop_of_length_le (Nat.le_refl _)]
    simp
theorem cutG_map {α β : Type} (f : α → β) (xs : List α) (lo hi : Option Int) : cutG (xs.map f) lo hi = (cutG xs lo hi).map f := by
  unfold cutG
  rw [List.length_map, ← List.map_drop, ← List.map_take]
end DL

namespace DL
open PySem PySem.Spec PyProof.Rows L2

/-! ### the script: read by one def, which hands back a new object of data -/
abbrev H0p : Hp := fun _ => none
def spScr (K : PySem.W.Frag) (pre : List Int → Prop) (hd : List Int → D) : L2.Sp := fun vs H Q _ => ∃ a ns, vs = [.ref a] ∧ SqL K H a (ns.map V.int) ∧ pre ns ∧
  ∀ F' H' p, Ex H H' → Ex F' H' → (∀ b o, F' b = some o → H b = none) → Own F' H' p (hd ns) → H p = none → Q (.ref p) H'
def spLawD (K : PySem.W.Frag) (pre : List Int → Prop) : L2.Sp := fun vs H Q _ => ∃ a ns, vs = [.ref a] ∧ SqL K H a (ns.map V.int) ∧ pre ns ∧ ∀ H', Q (.bl true) H'
/-- the law's own end -/
def lawEnds : DEnds where
  nx _ := False
  rt c _ := c = .fz (.bl true)
  bk _ := False
  ct _ := False
section
variable {P : Program} {w : World} {K : PySem.W.Frag} {mg : Str → Option Value} {base : Heap}
theorem law_D {st : Stmt} {x : Str} {N : List Str} {k : Nat} {pre : List Int → Prop} {hd : List Int → D} {db : DTS} {f : Addr} {fd : FuncData} {E : XK} (FF : Fun K x x st f fd) (sc : FnScope N ["_law_script"] (defScope st)) (hN : 2 ≤ N.length)
    (body : ∀ (cdv : Value) (A : Around) (outer : List PySem.Env) (s : Shared) (H : Hp) (E' : XK), Room k (A.deeper (envOfC x (defScope st) s.heap.objs.size f cdv)) →
      PSs (cxOf CX0 P w K mg base N x (defScope st) f cdv A outer s H E').nox (defBody st) (tSeq (tAsg (tCall (spScr K pre hd) [] E (tCons (tVar 0) tNil)) (gName 1)) (tS db)))
    (sem : ∀ ns, pre ns → db lawEnds (.un :: .ow (hd ns) :: List.replicate (N.length - 2) .un)) : FnOk P w K mg base CX0 (k + 1) f fd ["_law_script"] (spLawD K pre) := by
  refine FF.ok sc (fun vs H Q E h => ?_) (fun cdv A outer s H vs Q E h1 h => ⟨_, body cdv A outer s H E h1, ?_⟩)
  · obtain ⟨a, ns, rfl, _⟩ := h; rfl
  · obtain ⟨a, ns, rfl, hS, hp, q⟩ := h
    have es : L2.start N [V.ref a] = some (.ref a) :: none :: List.replicate (N.length - 2) none := by
      unfold L2.start
      show [some (V.ref a)] ++ List.replicate (N.length - 1) none = _
      obtain ⟨m, hm⟩ : ∃ m, N.length = m + 2 := ⟨N.length - 2, by omega⟩
      rw [hm, show m + 2 - 1 = m + 1 by omega, show m + 2 - 2 = m by omega, List.replicate_succ]
      rfl
    rw [es]
    refine ⟨.ref a, rfl, a, ns, rfl, hS, hp, fun F' H' p ex exF new own hpn => ?_⟩
    show tS db _ (some (.ref a) :: some (.ref p) :: List.replicate (N.length - 2) none) H'
    have un : ∀ {j : Nat} {c : Cell}, (Cell.un :: Cell.ow (hd ns) :: List.replicate (N.length - 2) Cell.un)[j]? = some c → j = 1 ∧ c = .ow (hd ns) ∨ c = .un := fun {j c} h => by
      cases j with
      | zero => cases h; exact .inr rfl
      | succ j =>
        cases j with
        | zero => cases h; exact .inl ⟨rfl, rfl⟩
        | succ j =>
          rw [List.getElem?_cons_succ, List.getElem?_cons_succ] at h
          have := List.mem_of_getElem? h
          exact .inr (List.eq_of_mem_replicate this)
    refine ⟨⟨H, H0p, [], fun _ => none, fun _ => none⟩, F', _, lawEnds, ⟨by simp, fun j v c h1 h2 => ?_, fun i j ci cj b ne h1 h2 o1 o2 s1 s2 => ?_, exF, fun b o h _ => ex b o h, fun b o h => .inr (new b o h), fun a ha => absurd ha (by simp), fun b o h => absurd (show (none : Option HO) = some o from h) (by simp)⟩, sem ns hp, ⟨fun _ _ _ _ _ _ h => h.elim, fun F3 σ3 H3 ρ3 v c k3 e3 t h => ?_, fun _ _ _ _ _ _ h => h.elim, fun _ _ _ _ _ _ h => h.elim⟩⟩
    · rcases un h2 with ⟨ej, ec⟩ | ec
      · subst ej ec
        cases h1
        exact ⟨p, rfl, own, hpn⟩
      · subst ec; trivial
    · rcases un h1 with ⟨ei, ec⟩ | ec
      · rcases un h2 with ⟨ej, ec2⟩ | ec2
        · exact ne (ei.trans ej.symm)
        · subst ec2; cases o2
      · subst ec; cases o1
    · have h : c = .fz (.bl true) := h
      subst h
      have t : Rep F3 v (.bl true) := t
      cases t
      exact q H3
/-- [list(script), 0, 0, 1, 0] -/
def hdA (ns : List Int) : D := .lst [.lst (ns.map .int), .int 0, .int 0, .int 1, .int 0]
theorem reps_ints' {F : Hp} : ∀ ns : List Int, Reps F (ns.map V.int) (ns.map D.int)
  | [] => .nil
  | n :: ns => .cons (.int n) (reps_ints' ns)
theorem handA_ok {st : Stmt} {x : Str} {f : Addr} {fd : FuncData} {k : Nat} (FF : Fun K x x st f fd) (sc : FnScope ["_law_script"] ["_law_script"] (defScope st))
    (body : ∀ (cdv : Value) (A : Around) (outer : List PySem.Env) (s : Shared) (H : Hp) (E' : XK),
      PSs (cxOf CX0 P w K mg base ["_law_script"] x (defScope st) f cdv A outer s H E').nox (defBody st)
        (tRet (tLst (tCons (tCB (fun xs H Q => ∃ p ys, xs = [V.ref p] ∧ (SqL K H p ys ∨ SqT K H p ys) ∧ ∀ l, H l = none → Q (.ref l) (upd H l (.lst ys))) (tCons (tVar 0) tNil)) (tCons (tC (.int 0)) (tCons (tC (.int 0)) (tCons (tC (.int 1)) (tCons (tC (.int 0)) tNil)))))))) :
    FnOk P w K mg base CX0 (k + 1) f fd ["_law_script"] (spScr K (fun ns => ns.length ≤ 63) hdA) := by
  refine FF.ok sc (fun vs H Q E h => ?_) (fun cdv A outer s H vs Q E h1 h => ⟨_, body cdv A outer s H E, ?_⟩)
  · obtain ⟨a, ns, rfl, _⟩ := h; rfl
  · obtain ⟨a, ns, rfl, hS, hp, q⟩ := h
    refine ⟨.ref a, rfl, a, ns.map V.int, rfl, .inl hS, fun l hl => ⟨by show 5 ≤ 16777216; decide, fun p hp2 => ?_⟩⟩
    have npl : p ≠ l := fun e => by subst e; rw [upd_same] at hp2; cases hp2
    have hpn : H p = none := by rw [upd_ne npl] at hp2; exact hp2
    refine q (upd H0p l (.lst (ns.map V.int))) _ p ((Ex.new hl).trans (Ex.new hp2)) (fun b o h => ?_) (fun b o h => ?_) ⟨?_, ⟨_, upd_same, ?_⟩, by show 5 ≤ 16777216; decide⟩ hpn
    · by_cases e : b = l
      · subst e
        rw [upd_same] at h
        rw [upd_ne npl.symm, upd_same]
        exact h
      · rw [upd_ne e] at h; cases h
    · by_cases e : b = l
      · subst e; exact hl
      · rw [upd_ne e] at h; cases h
    · rw [upd_ne npl]
    · exact .cons (.lst upd_same (reps_ints' ns) (by rw [List.length_map]; show ns.length ≤ 16777216; omega)) (.cons (.int 0) (.cons (.int 0) (.cons (.int 1) (.cons (.int 0) .nil))))
end
end DL


namespace DL
open PySem PySem.Spec PyProof.Rows L2

/-! ### the law's hand (one way of drawing) -/
structure Hand where
  cs : List Int
  i : Int
  p : Int
  r : Int
  c : Int
def Hand.d (h : Hand) : D := .lst [.lst (h.cs.map .int), .int h.i, .int h.p, .int h.r, .int h.c]
structure Hand.Ok (h : Hand) : Prop where
  i0 : 0 ≤ h.i
  p0 : 0 ≤ h.p
  r0 : 0 ≤ h.r
  r1 : h.r < 2147483648
def S__law_take : FnSpec := mkSpec (α := Hand × Int) [true, false] false (fun x => [x.1.d, .int x.2]) (fun x => x.1.Ok ∧ 1 ≤ x.2 ∧ x.2 < 1073741824) fun x r os => ∃ (k : Int) (h' : Hand), r = .int k ∧ 0 ≤ k ∧ k < x.2 ∧ os = [Hand.d h'] ∧ h'.Ok
/-- _law_take: slots 0 _law_hand_here, 1 _law_many, 2 _law_cell, 3 _law_found, 4 _law_number -/
def D__law_take : DTS := (dSeq (dStL 0 (dBin oAdd (dBinS 0 oIx (dC (.int 4))) (dC (.int 1))) (dC (.int 4))) (dSeq (dIf (dAnd (dTest (dBin oEq (dBinS 0 oIx (dC (.int 2))) (dC (.int 0)))) (dTest (dBin oLt (dBinS 0 oIx (dC (.int 1))) (dCB oLen (dCons (dBinS 0 oIx (dC (.int 0))) dNil))))) (dSeq (dSet 2 (dUp (dCB oInt (dCons (dBin oIx (dBinS 0 oIx (dC (.int 0))) (dBinS 0 oIx (dC (.int 1)))) dNil)))) (dSeq (dStL 0 (dBin oAdd (dBinS 0 oIx (dC (.int 1))) (dC (.int 1))) (dC (.int 1))) (dIf (dTest (dBin oGe (dVar 2) (dBin oPow (dC (.int 10)) (dC (.int 18))))) (dStL 0 (dVar 2) (dC (.int 2))) (dStL 0 (dBin oMod (dCB oInt (dCons (dBin oAdd (dBin oAdd (dBin oMul (dBinS 0 oIx (dC (.int 3))) (dC (.int 48271))) (dBin oMod (dCB oInt (dCons (dVar 2) dNil)) (dC (.int 2147483647)))) (dC (.int 1))) dNil)) (dC (.int 2147483647))) (dC (.int 3)))))) dNext) (dSeq (dIf (dTest (dBin oGt (dBinS 0 oIx (dC (.int 2))) (dC (.int 0)))) (dSeq (dSet 3 (dUp (dBin oMod (dCB oInt (dCons (dBinS 0 oIx (dC (.int 2))) dNil)) (dVar 1)))) (dSeq (dStL 0 (dBin oFdiv (dCB oInt (dCons (dBinS 0 oIx (dC (.int 2))) dNil)) (dVar 1)) (dC (.int 2))) (dRet (dUp (dVar 3))))) dNext) (dSeq (dStL 0 (dBin oMod (dCB oInt (dCons (dBin oAdd (dBin oMul (dBinS 0 oIx (dC (.int 3))) (dC (.int 69621))) (dBin oMul (dC (.int 7919)) (dBinS 0 oIx (dC (.int 4))))) dNil)) (dC (.int 2147483647))) (dC (.int 3))) (dSeq (dSet 4 (dUp (dBin oMod (dCB oInt (dCons (dBin oMul (dBinS 0 oIx (dC (.int 3))) (dBin oAdd (dBin oFdiv (dBinS 0 oIx (dC (.int 3))) (dC (.int 1009))) (dC (.int 69621)))) dNil)) (dC (.int 2147483647))))) (dSeq (dSet 4 (dUp (dBin oMod (dCB oInt (dCons (dBin oMul (dVar 4) (dBin oAdd (dBin oFdiv (dVar 4) (dC (.int 2003))) (dC (.int 40692)))) dNil)) (dC (.int 2147483399))))) (dRet (dUp (dBin oMod (dCB oInt (dCons (dBin oFdiv (dVar 4) (dC (.int 16))) dNil)) (dVar 1))))))))))

theorem cmul_l {i j : Int} (h : 0 ≤ i) (h2 : i < 2147483648) : CMul i j := .inl ⟨by omega, by omega⟩
theorem modr {a M : Int} (h : 0 < M) (hM : M ≤ 2147483648) : 0 ≤ a % M ∧ a % M < 2147483648 := ⟨Int.emod_nonneg _ (by omega), Int.lt_of_lt_of_le (Int.emod_lt_of_pos _ h) hM⟩
theorem sem__law_take : ∀ ds Kd, S__law_take.ds ds Kd → D__law_take (endsOf S__law_take Kd) (env0 5 [true, false] ds) := by
  rintro ds Kd ⟨⟨⟨cs, i, p, r, c⟩, m⟩, rfl, ⟨⟨i0, p0, r0, r1⟩, m1, m2⟩, post⟩
  simp only at i0 p0 r0 r1 m1 m2 post
  show D__law_take (endsOf S__law_take Kd) [.io (.lst [.lst (cs.map .int), .int i, .int p, .int r, .int c]), .fz (.int m), .un, .un, .un]
  unfold D__law_take
  refine seq_gen fun k hk => ?_
  simp only [↓dSeq, ↓dNext, ↓dBreak, ↓dCont, ↓dNever, ↓dRet, ↓dRetN, ↓dDrop, ↓dSet, ↓dIf, ↓dAug, ↓dAsg, ↓dPar, ↓dVar, ↓dMove, ↓dC, ↓dFz, ↓dUp, ↓dNil, ↓dCons, ↓dTup, ↓dLst, ↓dBin, ↓dUn, ↓dChain, ↓dTest, ↓dAnd, ↓dOr, ↓dNot, ↓dAndV, ↓dOrV, ↓dNotV, ↓dIfE, ↓dgName, ↓dgNil, ↓dgCons, ↓dgTup, ↓dIt, ↓dRng1, ↓dRng2, ↓dZip, ↓dEnum, ↓u_for, ↓u_lc, ↓dYes, ↓u_call, ↓u_callF, ↓u_callIo, ↓dCB, ↓dCBF, ↓dBinS, ↓dLenS, ↓dSl, ↓dSlS, ↓dNo, ↓dPt, ↓dStL, ↓dApp, ↓dExt, ↓dJoin, ↓dRg1, ↓dRg2, ↓dTupRg, ↓dLstRg, ↓oSub, ↓oMulI, ↓oMul, ↓oFdiv, ↓oMod, ↓oPow, ↓oShr, ↓oXor, ↓oNeg, ↓oAdd, ↓oAug, ↓oLt, ↓oLe, ↓oGt, ↓oGe, ↓oI, ↓oIx, ↓oLen, ↓oInt, ↓oOrd, ↓oAbs, ↓oStL, ↓oIn, ↓oNin, ↓oInB, ↓isi_int, ↓isi_int_bl, ↓isi_int_str, ↓isi_int_tup, ↓isi_int_lst, ↓isi_str, ↓isi_str_int, ↓isi_tup, ↓isi_tup_int, ↓isi_tup_str, ↓isi_tup_lst, ↓isi_lst, ↓isi_lst_tup, ↓isi_lst_int, ↓isi_lst_str, ↓cv, ↓Cell.val, ↓Cell.up, ↓Cell.own, ↓lenD, ↓itemsOf, List.getElem?_cons_zero, List.getElem?_cons_succ, List.set_cons_zero, List.set_cons_succ, Option.bind_some, Option.isSome_some, List.length_cons, List.length_nil, true_and, and_true, ↓ixN_lit, ↓atI_lit, ↓reduceIte, Nat.reduceAdd, Nat.reduceLT, Nat.reduceSub, Nat.zero_add, Nat.reduceLeDiff, Nat.lt_add_one, Nat.zero_lt_succ, ↓oEq_int, ↓oNe_int, ↓oEq_str, ↓oNe_str, ↓oEq_bl, ↓oNe_bl, decide_eq_true_eq, Bool.false_eq_true, ↓u_while, ↓ownAt, List.all_cons, List.all_nil, Bool.and_true, List.getD_cons_zero, List.getD_cons_succ, Bool.not_false, ↓oLe_sign]
  subst hk
  refine seq_gen fun k hk => ?_
  have fin : ∀ (i' p' r' c' : Int) (x : Cell), 0 ≤ i' → 0 ≤ p' → 0 ≤ r' → r' < 2147483648 → k [.io (.lst [.lst (cs.map .int), .int i', .int p', .int r', .int c']), .fz (.int m), x, .un, .un] := by
    intro i' p' r' c' x hi hp hr hr2
    subst hk
    refine seq_gen fun k hk => ?_
    refine if_gen fun kA kB hA hB => ?_
    simp only [↓dSeq, ↓dNext, ↓dBreak, ↓dCont, ↓dNever, ↓dRet, ↓dRetN, ↓dDrop, ↓dSet, ↓dIf, ↓dAug, ↓dAsg, ↓dPar, ↓dVar, ↓dMove, ↓dC, ↓dFz, ↓dUp, ↓dNil, ↓dCons, ↓dTup, ↓dLst, ↓dBin, ↓dUn, ↓dChain, ↓dTest, ↓dAnd, ↓dOr, ↓dNot, ↓dAndV, ↓dOrV, ↓dNotV, ↓dIfE, ↓dgName, ↓dgNil, ↓dgCons, ↓dgTup, ↓dIt, ↓dRng1, ↓dRng2, ↓dZip, ↓dEnum, ↓u_for, ↓u_lc, ↓dYes, ↓u_call, ↓u_callF, ↓u_callIo, ↓dCB, ↓dCBF, ↓dBinS, ↓dLenS, ↓dSl, ↓dSlS, ↓dNo, ↓dPt, ↓dStL, ↓dApp, ↓dExt, ↓dJoin, ↓dRg1, ↓dRg2, ↓dTupRg, ↓dLstRg, ↓oSub, ↓oMulI, ↓oMul, ↓oFdiv, ↓oMod, ↓oPow, ↓oShr, ↓oXor, ↓oNeg, ↓oAdd, ↓oAug, ↓oLt, ↓oLe, ↓oGt, ↓oGe, ↓oI, ↓oIx, ↓oLen, ↓oInt, ↓oOrd, ↓oAbs, ↓oStL, ↓oIn, ↓oNin, ↓oInB, ↓isi_int, ↓isi_int_bl, ↓isi_int_str, ↓isi_int_tup, ↓isi_int_lst, ↓isi_str, ↓isi_str_int, ↓isi_tup, ↓isi_tup_int, ↓isi_tup_str, ↓isi_tup_lst, ↓isi_lst, ↓isi_lst_tup, ↓isi_lst_int, ↓isi_lst_str, ↓cv, ↓Cell.val, ↓Cell.up, ↓Cell.own, ↓lenD, ↓itemsOf, List.getElem?_cons_zero, List.getElem?_cons_succ, List.set_cons_zero, List.set_cons_succ, Option.bind_some, Option.isSome_some, List.length_cons, List.length_nil, true_and, and_true, ↓ixN_lit, ↓atI_lit, ↓reduceIte, Nat.reduceAdd, Nat.reduceLT, Nat.reduceSub, Nat.zero_add, Nat.reduceLeDiff, Nat.lt_add_one, Nat.zero_lt_succ, ↓oEq_int, ↓oNe_int, ↓oEq_str, ↓oNe_str, ↓oEq_bl, ↓oNe_bl, decide_eq_true_eq, Bool.false_eq_true, ↓u_while, ↓ownAt, List.all_cons, List.all_nil, Bool.and_true, List.getD_cons_zero, List.getD_cons_succ, Bool.not_false, ↓oLe_sign]
    by_cases hp0 : 0 < p'
    · rw [if_pos hp0]
      subst hA
      simp only [↓dSeq, ↓dNext, ↓dBreak, ↓dCont, ↓dNever, ↓dRet, ↓dRetN, ↓dDrop, ↓dSet, ↓dIf, ↓dAug, ↓dAsg, ↓dPar, ↓dVar, ↓dMove, ↓dC, ↓dFz, ↓dUp, ↓dNil, ↓dCons, ↓dTup, ↓dLst, ↓dBin, ↓dUn, ↓dChain, ↓dTest, ↓dAnd, ↓dOr, ↓dNot, ↓dAndV, ↓dOrV, ↓dNotV, ↓dIfE, ↓dgName, ↓dgNil, ↓dgCons, ↓dgTup, ↓dIt, ↓dRng1, ↓dRng2, ↓dZip, ↓dEnum, ↓u_for, ↓u_lc, ↓dYes, ↓u_call, ↓u_callF, ↓u_callIo, ↓dCB, ↓dCBF, ↓dBinS, ↓dLenS, ↓dSl, ↓dSlS, ↓dNo, ↓dPt, ↓dStL, ↓dApp, ↓dExt, ↓dJoin, ↓dRg1, ↓dRg2, ↓dTupRg, ↓dLstRg, ↓oSub, ↓oMulI, ↓oMul, ↓oFdiv, ↓oMod, ↓oPow, ↓oShr, ↓oXor, ↓oNeg, ↓oAdd, ↓oAug, ↓oLt, ↓oLe, ↓oGt, ↓oGe, ↓oI, ↓oIx, ↓oLen, ↓oInt, ↓oOrd, ↓oAbs, ↓oStL, ↓oIn, ↓oNin, ↓oInB, ↓isi_int, ↓isi_int_bl, ↓isi_int_str, ↓isi_int_tup, ↓isi_int_lst, ↓isi_str, ↓isi_str_int, ↓isi_tup, ↓isi_tup_int, ↓isi_tup_str, ↓isi_tup_lst, ↓isi_lst, ↓isi_lst_tup, ↓isi_lst_int, ↓isi_lst_str, ↓cv, ↓Cell.val, ↓Cell.up, ↓Cell.own, ↓lenD, ↓itemsOf, List.getElem?_cons_zero, List.getElem?_cons_succ, List.set_cons_zero, List.set_cons_succ, Option.bind_some, Option.isSome_some, List.length_cons, List.length_nil, true_and, and_true, ↓ixN_lit, ↓atI_lit, ↓reduceIte, Nat.reduceAdd, Nat.reduceLT, Nat.reduceSub, Nat.zero_add, Nat.reduceLeDiff, Nat.lt_add_one, Nat.zero_lt_succ, ↓oEq_int, ↓oNe_int, ↓oEq_str, ↓oNe_str, ↓oEq_bl, ↓oNe_bl, decide_eq_true_eq, Bool.false_eq_true, ↓u_while, ↓ownAt, List.all_cons, List.all_nil, Bool.and_true, List.getD_cons_zero, List.getD_cons_succ, Bool.not_false, ↓oLe_sign]
      refine ⟨by omega, cdiv_lit (by omega) m2, ?_⟩
      refine ⟨rfl, post _ _ ⟨p' % m, ⟨cs, i', p' / m, r', c'⟩, rfl, Int.emod_nonneg _ (by omega), Int.emod_lt_of_pos _ (by omega), rfl, hi, Int.ediv_nonneg hp (by omega), hr, hr2⟩⟩
    · rw [if_neg hp0]
      subst hB
      simp only [↓dSeq, ↓dNext, ↓dBreak, ↓dCont, ↓dNever, ↓dRet, ↓dRetN, ↓dDrop, ↓dSet, ↓dIf, ↓dAug, ↓dAsg, ↓dPar, ↓dVar, ↓dMove, ↓dC, ↓dFz, ↓dUp, ↓dNil, ↓dCons, ↓dTup, ↓dLst, ↓dBin, ↓dUn, ↓dChain, ↓dTest, ↓dAnd, ↓dOr, ↓dNot, ↓dAndV, ↓dOrV, ↓dNotV, ↓dIfE, ↓dgName, ↓dgNil, ↓dgCons, ↓dgTup, ↓dIt, ↓dRng1, ↓dRng2, ↓dZip, ↓dEnum, ↓u_for, ↓u_lc, ↓dYes, ↓u_call, ↓u_callF, ↓u_callIo, ↓dCB, ↓dCBF, ↓dBinS, ↓dLenS, ↓dSl, ↓dSlS, ↓dNo, ↓dPt, ↓dStL, ↓dApp, ↓dExt, ↓dJoin, ↓dRg1, ↓dRg2, ↓dTupRg, ↓dLstRg, ↓oSub, ↓oMulI, ↓oMul, ↓oFdiv, ↓oMod, ↓oPow, ↓oShr, ↓oXor, ↓oNeg, ↓oAdd, ↓oAug, ↓oLt, ↓oLe, ↓oGt, ↓oGe, ↓oI, ↓oIx, ↓oLen, ↓oInt, ↓oOrd, ↓oAbs, ↓oStL, ↓oIn, ↓oNin, ↓oInB, ↓isi_int, ↓isi_int_bl, ↓isi_int_str, ↓isi_int_tup, ↓isi_int_lst, ↓isi_str, ↓isi_str_int, ↓isi_tup, ↓isi_tup_int, ↓isi_tup_str, ↓isi_tup_lst, ↓isi_lst, ↓isi_lst_tup, ↓isi_lst_int, ↓isi_lst_str, ↓cv, ↓Cell.val, ↓Cell.up, ↓Cell.own, ↓lenD, ↓itemsOf, List.getElem?_cons_zero, List.getElem?_cons_succ, List.set_cons_zero, List.set_cons_succ, Option.bind_some, Option.isSome_some, List.length_cons, List.length_nil, true_and, and_true, ↓ixN_lit, ↓atI_lit, ↓reduceIte, Nat.reduceAdd, Nat.reduceLT, Nat.reduceSub, Nat.zero_add, Nat.reduceLeDiff, Nat.lt_add_one, Nat.zero_lt_succ, ↓oEq_int, ↓oNe_int, ↓oEq_str, ↓oNe_str, ↓oEq_bl, ↓oNe_bl, decide_eq_true_eq, Bool.false_eq_true, ↓u_while, ↓ownAt, List.all_cons, List.all_nil, Bool.and_true, List.getD_cons_zero, List.getD_cons_succ, Bool.not_false, ↓oLe_sign]
      subst hk
      refine seq_gen fun k hk => ?_
      simp only [↓dSeq, ↓dNext, ↓dBreak, ↓dCont, ↓dNever, ↓dRet, ↓dRetN, ↓dDrop, ↓dSet, ↓dIf, ↓dAug, ↓dAsg, ↓dPar, ↓dVar, ↓dMove, ↓dC, ↓dFz, ↓dUp, ↓dNil, ↓dCons, ↓dTup, ↓dLst, ↓dBin, ↓dUn, ↓dChain, ↓dTest, ↓dAnd, ↓dOr, ↓dNot, ↓dAndV, ↓dOrV, ↓dNotV, ↓dIfE, ↓dgName, ↓dgNil, ↓dgCons, ↓dgTup, ↓dIt, ↓dRng1, ↓dRng2, ↓dZip, ↓dEnum, ↓u_for, ↓u_lc, ↓dYes, ↓u_call, ↓u_callF, ↓u_callIo, ↓dCB, ↓dCBF, ↓dBinS, ↓dLenS, ↓dSl, ↓dSlS, ↓dNo, ↓dPt, ↓dStL, ↓dApp, ↓dExt, ↓dJoin, ↓dRg1, ↓dRg2, ↓dTupRg, ↓dLstRg, ↓oSub, ↓oMulI, ↓oMul, ↓oFdiv, ↓oMod, ↓oPow, ↓oShr, ↓oXor, ↓oNeg, ↓oAdd, ↓oAug, ↓oLt, ↓oLe, ↓oGt, ↓oGe, ↓oI, ↓oIx, ↓oLen, ↓oInt, ↓oOrd, ↓oAbs, ↓oStL, ↓oIn, ↓oNin, ↓oInB, ↓isi_int, ↓isi_int_bl, ↓isi_int_str, ↓isi_int_tup, ↓isi_int_lst, ↓isi_str, ↓isi_str_int, ↓isi_tup, ↓isi_tup_int, ↓isi_tup_str, ↓isi_tup_lst, ↓isi_lst, ↓isi_lst_tup, ↓isi_lst_int, ↓isi_lst_str, ↓cv, ↓Cell.val, ↓Cell.up, ↓Cell.own, ↓lenD, ↓itemsOf, List.getElem?_cons_zero, List.getElem?_cons_succ, List.set_cons_zero, List.set_cons_succ, Option.bind_some, Option.isSome_some, List.length_cons, List.length_nil, true_and, and_true, ↓ixN_lit, ↓atI_lit, ↓reduceIte, Nat.reduceAdd, Nat.reduceLT, Nat.reduceSub, Nat.zero_add, Nat.reduceLeDiff, Nat.lt_add_one, Nat.zero_lt_succ, ↓oEq_int, ↓oNe_int, ↓oEq_str, ↓oNe_str, ↓oEq_bl, ↓oNe_bl, decide_eq_true_eq, Bool.false_eq_true, ↓u_while, ↓ownAt, List.all_cons, List.all_nil, Bool.and_true, List.getD_cons_zero, List.getD_cons_succ, Bool.not_false, ↓oLe_sign]
      refine ⟨cmul_l hr hr2, .inl ⟨by decide, by decide⟩, by decide, ?_⟩
      generalize hr' : (r' * 69621 + 7919 * c') % 2147483647 = r2
      have b2 := modr (a := r' * 69621 + 7919 * c') (M := 2147483647) (by decide) (by decide)
      rw [hr'] at b2
      subst hk
      refine seq_gen fun k hk => ?_
      simp only [↓dSeq, ↓dNext, ↓dBreak, ↓dCont, ↓dNever, ↓dRet, ↓dRetN, ↓dDrop, ↓dSet, ↓dIf, ↓dAug, ↓dAsg, ↓dPar, ↓dVar, ↓dMove, ↓dC, ↓dFz, ↓dUp, ↓dNil, ↓dCons, ↓dTup, ↓dLst, ↓dBin, ↓dUn, ↓dChain, ↓dTest, ↓dAnd, ↓dOr, ↓dNot, ↓dAndV, ↓dOrV, ↓dNotV, ↓dIfE, ↓dgName, ↓dgNil, ↓dgCons, ↓dgTup, ↓dIt, ↓dRng1, ↓dRng2, ↓dZip, ↓dEnum, ↓u_for, ↓u_lc, ↓dYes, ↓u_call, ↓u_callF, ↓u_callIo, ↓dCB, ↓dCBF, ↓dBinS, ↓dLenS, ↓dSl, ↓dSlS, ↓dNo, ↓dPt, ↓dStL, ↓dApp, ↓dExt, ↓dJoin, ↓dRg1, ↓dRg2, ↓dTupRg, ↓dLstRg, ↓oSub, ↓oMulI, ↓oMul, ↓oFdiv, ↓oMod, ↓oPow, ↓oShr, ↓oXor, ↓oNeg, ↓oAdd, ↓oAug, ↓oLt, ↓oLe, ↓oGt, ↓oGe, ↓oI, ↓oIx, ↓oLen, ↓oInt, ↓oOrd, ↓oAbs, ↓oStL, ↓oIn, ↓oNin, ↓oInB, ↓isi_int, ↓isi_int_bl, ↓isi_int_str, ↓isi_int_tup, ↓isi_int_lst, ↓isi_str, ↓isi_str_int, ↓isi_tup, ↓isi_tup_int, ↓isi_tup_str, ↓isi_tup_lst, ↓isi_lst, ↓isi_lst_tup, ↓isi_lst_int, ↓isi_lst_str, ↓cv, ↓Cell.val, ↓Cell.up, ↓Cell.own, ↓lenD, ↓itemsOf, List.getElem?_cons_zero, List.getElem?_cons_succ, List.set_cons_zero, List.set_cons_succ, Option.bind_some, Option.isSome_some, List.length_cons, List.length_nil, true_and, and_true, ↓ixN_lit, ↓atI_lit, ↓reduceIte, Nat.reduceAdd, Nat.reduceLT, Nat.reduceSub, Nat.zero_add, Nat.reduceLeDiff, Nat.lt_add_one, Nat.zero_lt_succ, ↓oEq_int, ↓oNe_int, ↓oEq_str, ↓oNe_str, ↓oEq_bl, ↓oNe_bl, decide_eq_true_eq, Bool.false_eq_true, ↓u_while, ↓ownAt, List.all_cons, List.all_nil, Bool.and_true, List.getD_cons_zero, List.getD_cons_succ, Bool.not_false, ↓oLe_sign]
      refine ⟨cdiv_lit (by decide) (by decide), cmul_l b2.1 b2.2, by decide, ?_⟩
      generalize hn : (r2 * (r2 / 1009 + 69621)) % 2147483647 = n1
      have b3 := modr (a := r2 * (r2 / 1009 + 69621)) (M := 2147483647) (by decide) (by decide)
      rw [hn] at b3
      subst hk
      refine seq_gen fun k hk => ?_
      simp only [↓dSeq, ↓dNext, ↓dBreak, ↓dCont, ↓dNever, ↓dRet, ↓dRetN, ↓dDrop, ↓dSet, ↓dIf, ↓dAug, ↓dAsg, ↓dPar, ↓dVar, ↓dMove, ↓dC, ↓dFz, ↓dUp, ↓dNil, ↓dCons, ↓dTup, ↓dLst, ↓dBin, ↓dUn, ↓dChain, ↓dTest, ↓dAnd, ↓dOr, ↓dNot, ↓dAndV, ↓dOrV, ↓dNotV, ↓dIfE, ↓dgName, ↓dgNil, ↓dgCons, ↓dgTup, ↓dIt, ↓dRng1, ↓dRng2, ↓dZip, ↓dEnum, ↓u_for, ↓u_lc, ↓dYes, ↓u_call, ↓u_callF, ↓u_callIo, ↓dCB, ↓dCBF, ↓dBinS, ↓dLenS, ↓dSl, ↓dSlS, ↓dNo, ↓dPt, ↓dStL, ↓dApp, ↓dExt, ↓dJoin, ↓dRg1, ↓dRg2, ↓dTupRg, ↓dLstRg, ↓oSub, ↓oMulI, ↓oMul, ↓oFdiv, ↓oMod, ↓oPow, ↓oShr, ↓oXor, ↓oNeg, ↓oAdd, ↓oAug, ↓oLt, ↓oLe, ↓oGt, ↓oGe, ↓oI, ↓oIx, ↓oLen, ↓oInt, ↓oOrd, ↓oAbs, ↓oStL, ↓oIn, ↓oNin, ↓oInB, ↓isi_int, ↓isi_int_bl, ↓isi_int_str, ↓isi_int_tup, ↓isi_int_lst, ↓isi_str, ↓isi_str_int, ↓isi_tup, ↓isi_tup_int, ↓isi_tup_str, ↓isi_tup_lst, ↓isi_lst, ↓isi_lst_tup, ↓isi_lst_int, ↓isi_lst_str, ↓cv, ↓Cell.val, ↓Cell.up, ↓Cell.own, ↓lenD, ↓itemsOf, List.getElem?_cons_zero, List.getElem?_cons_succ, List.set_cons_zero, List.set_cons_succ, Option.bind_some, Option.isSome_some, List.length_cons, List.length_nil, true_and, and_true, ↓ixN_lit, ↓atI_lit, ↓reduceIte, Nat.reduceAdd, Nat.reduceLT, Nat.reduceSub, Nat.zero_add, Nat.reduceLeDiff, Nat.lt_add_one, Nat.zero_lt_succ, ↓oEq_int, ↓oNe_int, ↓oEq_str, ↓oNe_str, ↓oEq_bl, ↓oNe_bl, decide_eq_true_eq, Bool.false_eq_true, ↓u_while, ↓ownAt, List.all_cons, List.all_nil, Bool.and_true, List.getD_cons_zero, List.getD_cons_succ, Bool.not_false, ↓oLe_sign]
      refine ⟨cdiv_lit (by decide) (by decide), cmul_l b3.1 b3.2, by decide, ?_⟩
      generalize hn2 : (n1 * (n1 / 2003 + 40692)) % 2147483399 = n2
      subst hk
      simp only [↓dSeq, ↓dNext, ↓dBreak, ↓dCont, ↓dNever, ↓dRet, ↓dRetN, ↓dDrop, ↓dSet, ↓dIf, ↓dAug, ↓dAsg, ↓dPar, ↓dVar, ↓dMove, ↓dC, ↓dFz, ↓dUp, ↓dNil, ↓dCons, ↓dTup, ↓dLst, ↓dBin, ↓dUn, ↓dChain, ↓dTest, ↓dAnd, ↓dOr, ↓dNot, ↓dAndV, ↓dOrV, ↓dNotV, ↓dIfE, ↓dgName, ↓dgNil, ↓dgCons, ↓dgTup, ↓dIt, ↓dRng1, ↓dRng2, ↓dZip, ↓dEnum, ↓u_for, ↓u_lc, ↓dYes, ↓u_call, ↓u_callF, ↓u_callIo, ↓dCB, ↓dCBF, ↓dBinS, ↓dLenS, ↓dSl, ↓dSlS, ↓dNo, ↓dPt, ↓dStL, ↓dApp, ↓dExt, ↓dJoin, ↓dRg1, ↓dRg2, ↓dTupRg, ↓dLstRg, ↓oSub, ↓oMulI, ↓oMul, ↓oFdiv, ↓oMod, ↓oPow, ↓oShr, ↓oXor, ↓oNeg, ↓oAdd, ↓oAug, ↓oLt, ↓oLe, ↓oGt, ↓oGe, ↓oI, ↓oIx, ↓oLen, ↓oInt, ↓oOrd, ↓oAbs, ↓oStL, ↓oIn, ↓oNin, ↓oInB, ↓isi_int, ↓isi_int_bl, ↓isi_int_str, ↓isi_int_tup, ↓isi_int_lst, ↓isi_str, ↓isi_str_int, ↓isi_tup, ↓isi_tup_int, ↓isi_tup_str, ↓isi_tup_lst, ↓isi_lst, ↓isi_lst_tup, ↓isi_lst_int, ↓isi_lst_str, ↓cv, ↓Cell.val, ↓Cell.up, ↓Cell.own, ↓lenD, ↓itemsOf, List.getElem?_cons_zero, List.getElem?_cons_succ, List.set_cons_zero, List.set_cons_succ, Option.bind_some, Option.isSome_some, List.length_cons, List.length_nil, true_and, and_true, ↓ixN_lit, ↓atI_lit, ↓reduceIte, Nat.reduceAdd, Nat.reduceLT, Nat.reduceSub, Nat.zero_add, Nat.reduceLeDiff, Nat.lt_add_one, Nat.zero_lt_succ, ↓oEq_int, ↓oNe_int, ↓oEq_str, ↓oNe_str, ↓oEq_bl, ↓oNe_bl, decide_eq_true_eq, Bool.false_eq_true, ↓u_while, ↓ownAt, List.all_cons, List.all_nil, Bool.and_true, List.getD_cons_zero, List.getD_cons_succ, Bool.not_false, ↓oLe_sign]
      refine ⟨cdiv_lit (by decide) (by decide), by omega, ?_⟩
      refine ⟨rfl, post _ _ ⟨n2 / 16 % m, ⟨cs, i', p', r2, c'⟩, rfl, Int.emod_nonneg _ (by omega), Int.emod_lt_of_pos _ (by omega), rfl, hi, hp, b2.1, b2.2⟩⟩
  refine if_gen fun kA kB hA hB => ?_
  simp only [↓dSeq, ↓dNext, ↓dBreak, ↓dCont, ↓dNever, ↓dRet, ↓dRetN, ↓dDrop, ↓dSet, ↓dIf, ↓dAug, ↓dAsg, ↓dPar, ↓dVar, ↓dMove, ↓dC, ↓dFz, ↓dUp, ↓dNil, ↓dCons, ↓dTup, ↓dLst, ↓dBin, ↓dUn, ↓dChain, ↓dTest, ↓dAnd, ↓dOr, ↓dNot, ↓dAndV, ↓dOrV, ↓dNotV, ↓dIfE, ↓dgName, ↓dgNil, ↓dgCons, ↓dgTup, ↓dIt, ↓dRng1, ↓dRng2, ↓dZip, ↓dEnum, ↓u_for, ↓u_lc, ↓dYes, ↓u_call, ↓u_callF, ↓u_callIo, ↓dCB, ↓dCBF, ↓dBinS, ↓dLenS, ↓dSl, ↓dSlS, ↓dNo, ↓dPt, ↓dStL, ↓dApp, ↓dExt, ↓dJoin, ↓dRg1, ↓dRg2, ↓dTupRg, ↓dLstRg, ↓oSub, ↓oMulI, ↓oMul, ↓oFdiv, ↓oMod, ↓oPow, ↓oShr, ↓oXor, ↓oNeg, ↓oAdd, ↓oAug, ↓oLt, ↓oLe, ↓oGt, ↓oGe, ↓oI, ↓oIx, ↓oLen, ↓oInt, ↓oOrd, ↓oAbs, ↓oStL, ↓oIn, ↓oNin, ↓oInB, ↓isi_int, ↓isi_int_bl, ↓isi_int_str, ↓isi_int_tup, ↓isi_int_lst, ↓isi_str, ↓isi_str_int, ↓isi_tup, ↓isi_tup_int, ↓isi_tup_str, ↓isi_tup_lst, ↓isi_lst, ↓isi_lst_tup, ↓isi_lst_int, ↓isi_lst_str, ↓cv, ↓Cell.val, ↓Cell.up, ↓Cell.own, ↓lenD, ↓itemsOf, List.getElem?_cons_zero, List.getElem?_cons_succ, List.set_cons_zero, List.set_cons_succ, Option.bind_some, Option.isSome_some, List.length_cons, List.length_nil, true_and, and_true, ↓ixN_lit, ↓atI_lit, ↓reduceIte, Nat.reduceAdd, Nat.reduceLT, Nat.reduceSub, Nat.zero_add, Nat.reduceLeDiff, Nat.lt_add_one, Nat.zero_lt_succ, ↓oEq_int, ↓oNe_int, ↓oEq_str, ↓oNe_str, ↓oEq_bl, ↓oNe_bl, decide_eq_true_eq, Bool.false_eq_true, ↓u_while, ↓ownAt, List.all_cons, List.all_nil, Bool.and_true, List.getD_cons_zero, List.getD_cons_succ, Bool.not_false, ↓oLe_sign]
  have hB2 : kB [.io (.lst [.lst (cs.map .int), .int i, .int p, .int r, .int (c + 1)]), .fz (.int m), .un, .un, .un] := by
    subst hB
    exact fin _ _ _ _ _ i0 p0 r0 r1
  by_cases c1 : p = 0
  · rw [if_pos c1]
    by_cases c2 : i < (cs.map D.int).length
    · rw [if_pos c2]
      obtain ⟨x, hx, _, hm⟩ := atI_in i0 c2
      obtain ⟨z, _, rfl⟩ := List.mem_map.mp hm
      subst hA
      refine seq_gen fun k2 hk2 => ?_
      simp only [↓dSeq, ↓dNext, ↓dBreak, ↓dCont, ↓dNever, ↓dRet, ↓dRetN, ↓dDrop, ↓dSet, ↓dIf, ↓dAug, ↓dAsg, ↓dPar, ↓dVar, ↓dMove, ↓dC, ↓dFz, ↓dUp, ↓dNil, ↓dCons, ↓dTup, ↓dLst, ↓dBin, ↓dUn, ↓dChain, ↓dTest, ↓dAnd, ↓dOr, ↓dNot, ↓dAndV, ↓dOrV, ↓dNotV, ↓dIfE, ↓dgName, ↓dgNil, ↓dgCons, ↓dgTup, ↓dIt, ↓dRng1, ↓dRng2, ↓dZip, ↓dEnum, ↓u_for, ↓u_lc, ↓dYes, ↓u_call, ↓u_callF, ↓u_callIo, ↓dCB, ↓dCBF, ↓dBinS, ↓dLenS, ↓dSl, ↓dSlS, ↓dNo, ↓dPt, ↓dStL, ↓dApp, ↓dExt, ↓dJoin, ↓dRg1, ↓dRg2, ↓dTupRg, ↓dLstRg, ↓oSub, ↓oMulI, ↓oMul, ↓oFdiv, ↓oMod, ↓oPow, ↓oShr, ↓oXor, ↓oNeg, ↓oAdd, ↓oAug, ↓oLt, ↓oLe, ↓oGt, ↓oGe, ↓oI, ↓oIx, ↓oLen, ↓oInt, ↓oOrd, ↓oAbs, ↓oStL, ↓oIn, ↓oNin, ↓oInB, ↓isi_int, ↓isi_int_bl, ↓isi_int_str, ↓isi_int_tup, ↓isi_int_lst, ↓isi_str, ↓isi_str_int, ↓isi_tup, ↓isi_tup_int, ↓isi_tup_str, ↓isi_tup_lst, ↓isi_lst, ↓isi_lst_tup, ↓isi_lst_int, ↓isi_lst_str, ↓cv, ↓Cell.val, ↓Cell.up, ↓Cell.own, ↓lenD, ↓itemsOf, List.getElem?_cons_zero, List.getElem?_cons_succ, List.set_cons_zero, List.set_cons_succ, Option.bind_some, Option.isSome_some, List.length_cons, List.length_nil, true_and, and_true, ↓ixN_lit, ↓atI_lit, ↓reduceIte, Nat.reduceAdd, Nat.reduceLT, Nat.reduceSub, Nat.zero_add, Nat.reduceLeDiff, Nat.lt_add_one, Nat.zero_lt_succ, ↓oEq_int, ↓oNe_int, ↓oEq_str, ↓oNe_str, ↓oEq_bl, ↓oNe_bl, decide_eq_true_eq, Bool.false_eq_true, ↓u_while, ↓ownAt, List.all_cons, List.all_nil, Bool.and_true, List.getD_cons_zero, List.getD_cons_succ, Bool.not_false, ↓oLe_sign, hx]
      subst hk2
      refine seq_gen fun k2 hk2 => ?_
      simp only [↓dSeq, ↓dNext, ↓dBreak, ↓dCont, ↓dNever, ↓dRet, ↓dRetN, ↓dDrop, ↓dSet, ↓dIf, ↓dAug, ↓dAsg, ↓dPar, ↓dVar, ↓dMove, ↓dC, ↓dFz, ↓dUp, ↓dNil, ↓dCons, ↓dTup, ↓dLst, ↓dBin, ↓dUn, ↓dChain, ↓dTest, ↓dAnd, ↓dOr, ↓dNot, ↓dAndV, ↓dOrV, ↓dNotV, ↓dIfE, ↓dgName, ↓dgNil, ↓dgCons, ↓dgTup, ↓dIt, ↓dRng1, ↓dRng2, ↓dZip, ↓dEnum, ↓u_for, ↓u_lc, ↓dYes, ↓u_call, ↓u_callF, ↓u_callIo, ↓dCB, ↓dCBF, ↓dBinS, ↓dLenS, ↓dSl, ↓dSlS, ↓dNo, ↓dPt, ↓dStL, ↓dApp, ↓dExt, ↓dJoin, ↓dRg1, ↓dRg2, ↓dTupRg, ↓dLstRg, ↓oSub, ↓oMulI, ↓oMul, ↓oFdiv, ↓oMod, ↓oPow, ↓oShr, ↓oXor, ↓oNeg, ↓oAdd, ↓oAug, ↓oLt, ↓oLe, ↓oGt, ↓oGe, ↓oI, ↓oIx, ↓oLen, ↓oInt, ↓oOrd, ↓oAbs, ↓oStL, ↓oIn, ↓oNin, ↓oInB, ↓isi_int, ↓isi_int_bl, ↓isi_int_str, ↓isi_int_tup, ↓isi_int_lst, ↓isi_str, ↓isi_str_int, ↓isi_tup, ↓isi_tup_int, ↓isi_tup_str, ↓isi_tup_lst, ↓isi_lst, ↓isi_lst_tup, ↓isi_lst_int, ↓isi_lst_str, ↓cv, ↓Cell.val, ↓Cell.up, ↓Cell.own, ↓lenD, ↓itemsOf, List.getElem?_cons_zero, List.getElem?_cons_succ, List.set_cons_zero, List.set_cons_succ, Option.bind_some, Option.isSome_some, List.length_cons, List.length_nil, true_and, and_true, ↓ixN_lit, ↓atI_lit, ↓reduceIte, Nat.reduceAdd, Nat.reduceLT, Nat.reduceSub, Nat.zero_add, Nat.reduceLeDiff, Nat.lt_add_one, Nat.zero_lt_succ, ↓oEq_int, ↓oNe_int, ↓oEq_str, ↓oNe_str, ↓oEq_bl, ↓oNe_bl, decide_eq_true_eq, Bool.false_eq_true, ↓u_while, ↓ownAt, List.all_cons, List.all_nil, Bool.and_true, List.getD_cons_zero, List.getD_cons_succ, Bool.not_false, ↓oLe_sign]
      subst hk2
      refine if_gen fun kC kD hC hD => ?_
      simp only [↓dSeq, ↓dNext, ↓dBreak, ↓dCont, ↓dNever, ↓dRet, ↓dRetN, ↓dDrop, ↓dSet, ↓dIf, ↓dAug, ↓dAsg, ↓dPar, ↓dVar, ↓dMove, ↓dC, ↓dFz, ↓dUp, ↓dNil, ↓dCons, ↓dTup, ↓dLst, ↓dBin, ↓dUn, ↓dChain, ↓dTest, ↓dAnd, ↓dOr, ↓dNot, ↓dAndV, ↓dOrV, ↓dNotV, ↓dIfE, ↓dgName, ↓dgNil, ↓dgCons, ↓dgTup, ↓dIt, ↓dRng1, ↓dRng2, ↓dZip, ↓dEnum, ↓u_for, ↓u_lc, ↓dYes, ↓u_call, ↓u_callF, ↓u_callIo, ↓dCB, ↓dCBF, ↓dBinS, ↓dLenS, ↓dSl, ↓dSlS, ↓dNo, ↓dPt, ↓dStL, ↓dApp, ↓dExt, ↓dJoin, ↓dRg1, ↓dRg2, ↓dTupRg, ↓dLstRg, ↓oSub, ↓oMulI, ↓oMul, ↓oFdiv, ↓oMod, ↓oPow, ↓oShr, ↓oXor, ↓oNeg, ↓oAdd, ↓oAug, ↓oLt, ↓oLe, ↓oGt, ↓oGe, ↓oI, ↓oIx, ↓oLen, ↓oInt, ↓oOrd, ↓oAbs, ↓oStL, ↓oIn, ↓oNin, ↓oInB, ↓isi_int, ↓isi_int_bl, ↓isi_int_str, ↓isi_int_tup, ↓isi_int_lst, ↓isi_str, ↓isi_str_int, ↓isi_tup, ↓isi_tup_int, ↓isi_tup_str, ↓isi_tup_lst, ↓isi_lst, ↓isi_lst_tup, ↓isi_lst_int, ↓isi_lst_str, ↓cv, ↓Cell.val, ↓Cell.up, ↓Cell.own, ↓lenD, ↓itemsOf, List.getElem?_cons_zero, List.getElem?_cons_succ, List.set_cons_zero, List.set_cons_succ, Option.bind_some, Option.isSome_some, List.length_cons, List.length_nil, true_and, and_true, ↓ixN_lit, ↓atI_lit, ↓reduceIte, Nat.reduceAdd, Nat.reduceLT, Nat.reduceSub, Nat.zero_add, Nat.reduceLeDiff, Nat.lt_add_one, Nat.zero_lt_succ, ↓oEq_int, ↓oNe_int, ↓oEq_str, ↓oNe_str, ↓oEq_bl, ↓oNe_bl, decide_eq_true_eq, Bool.false_eq_true, ↓u_while, ↓ownAt, List.all_cons, List.all_nil, Bool.and_true, List.getD_cons_zero, List.getD_cons_succ, Bool.not_false, ↓oLe_sign]
      refine ⟨⟨by decide, by decide, by decide⟩, ?_⟩
      by_cases c3 : (10 : Int) ^ Int.toNat 18 ≤ z
      · rw [if_pos c3]
        subst hC
        simp only [↓dSeq, ↓dNext, ↓dBreak, ↓dCont, ↓dNever, ↓dRet, ↓dRetN, ↓dDrop, ↓dSet, ↓dIf, ↓dAug, ↓dAsg, ↓dPar, ↓dVar, ↓dMove, ↓dC, ↓dFz, ↓dUp, ↓dNil, ↓dCons, ↓dTup, ↓dLst, ↓dBin, ↓dUn, ↓dChain, ↓dTest, ↓dAnd, ↓dOr, ↓dNot, ↓dAndV, ↓dOrV, ↓dNotV, ↓dIfE, ↓dgName, ↓dgNil, ↓dgCons, ↓dgTup, ↓dIt, ↓dRng1, ↓dRng2, ↓dZip, ↓dEnum, ↓u_for, ↓u_lc, ↓dYes, ↓u_call, ↓u_callF, ↓u_callIo, ↓dCB, ↓dCBF, ↓dBinS, ↓dLenS, ↓dSl, ↓dSlS, ↓dNo, ↓dPt, ↓dStL, ↓dApp, ↓dExt, ↓dJoin, ↓dRg1, ↓dRg2, ↓dTupRg, ↓dLstRg, ↓oSub, ↓oMulI, ↓oMul, ↓oFdiv, ↓oMod, ↓oPow, ↓oShr, ↓oXor, ↓oNeg, ↓oAdd, ↓oAug, ↓oLt, ↓oLe, ↓oGt, ↓oGe, ↓oI, ↓oIx, ↓oLen, ↓oInt, ↓oOrd, ↓oAbs, ↓oStL, ↓oIn, ↓oNin, ↓oInB, ↓isi_int, ↓isi_int_bl, ↓isi_int_str, ↓isi_int_tup, ↓isi_int_lst, ↓isi_str, ↓isi_str_int, ↓isi_tup, ↓isi_tup_int, ↓isi_tup_str, ↓isi_tup_lst, ↓isi_lst, ↓isi_lst_tup, ↓isi_lst_int, ↓isi_lst_str, ↓cv, ↓Cell.val, ↓Cell.up, ↓Cell.own, ↓lenD, ↓itemsOf, List.getElem?_cons_zero, List.getElem?_cons_succ, List.set_cons_zero, List.set_cons_succ, Option.bind_some, Option.isSome_some, List.length_cons, List.length_nil, true_and, and_true, ↓ixN_lit, ↓atI_lit, ↓reduceIte, Nat.reduceAdd, Nat.reduceLT, Nat.reduceSub, Nat.zero_add, Nat.reduceLeDiff, Nat.lt_add_one, Nat.zero_lt_succ, ↓oEq_int, ↓oNe_int, ↓oEq_str, ↓oNe_str, ↓oEq_bl, ↓oNe_bl, decide_eq_true_eq, Bool.false_eq_true, ↓u_while, ↓ownAt, List.all_cons, List.all_nil, Bool.and_true, List.getD_cons_zero, List.getD_cons_succ, Bool.not_false, ↓oLe_sign]
        refine fin _ _ _ _ _ (by omega) (Int.le_trans (by decide) c3) r0 r1
      · rw [if_neg c3]
        subst hD
        simp only [↓dSeq, ↓dNext, ↓dBreak, ↓dCont, ↓dNever, ↓dRet, ↓dRetN, ↓dDrop, ↓dSet, ↓dIf, ↓dAug, ↓dAsg, ↓dPar, ↓dVar, ↓dMove, ↓dC, ↓dFz, ↓dUp, ↓dNil, ↓dCons, ↓dTup, ↓dLst, ↓dBin, ↓dUn, ↓dChain, ↓dTest, ↓dAnd, ↓dOr, ↓dNot, ↓dAndV, ↓dOrV, ↓dNotV, ↓dIfE, ↓dgName, ↓dgNil, ↓dgCons, ↓dgTup, ↓dIt, ↓dRng1, ↓dRng2, ↓dZip, ↓dEnum, ↓u_for, ↓u_lc, ↓dYes, ↓u_call, ↓u_callF, ↓u_callIo, ↓dCB, ↓dCBF, ↓dBinS, ↓dLenS, ↓dSl, ↓dSlS, ↓dNo, ↓dPt, ↓dStL, ↓dApp, ↓dExt, ↓dJoin, ↓dRg1, ↓dRg2, ↓dTupRg, ↓dLstRg, ↓oSub, ↓oMulI, ↓oMul, ↓oFdiv, ↓oMod, ↓oPow, ↓oShr, ↓oXor, ↓oNeg, ↓oAdd, ↓oAug, ↓oLt, ↓oLe, ↓oGt, ↓oGe, ↓oI, ↓oIx, ↓oLen, ↓oInt, ↓oOrd, ↓oAbs, ↓oStL, ↓oIn, ↓oNin, ↓oInB, ↓isi_int, ↓isi_int_bl, ↓isi_int_str, ↓isi_int_tup, ↓isi_int_lst, ↓isi_str, ↓isi_str_int, ↓isi_tup, ↓isi_tup_int, ↓isi_tup_str, ↓isi_tup_lst, ↓isi_lst, ↓isi_lst_tup, ↓isi_lst_int, ↓isi_lst_str, ↓cv, ↓Cell.val, ↓Cell.up, ↓Cell.own, ↓lenD, ↓itemsOf, List.getElem?_cons_zero, List.getElem?_cons_succ, List.set_cons_zero, List.set_cons_succ, Option.bind_some, Option.isSome_some, List.length_cons, List.length_nil, true_and, and_true, ↓ixN_lit, ↓atI_lit, ↓reduceIte, Nat.reduceAdd, Nat.reduceLT, Nat.reduceSub, Nat.zero_add, Nat.reduceLeDiff, Nat.lt_add_one, Nat.zero_lt_succ, ↓oEq_int, ↓oNe_int, ↓oEq_str, ↓oNe_str, ↓oEq_bl, ↓oNe_bl, decide_eq_true_eq, Bool.false_eq_true, ↓u_while, ↓ownAt, List.all_cons, List.all_nil, Bool.and_true, List.getD_cons_zero, List.getD_cons_succ, Bool.not_false, ↓oLe_sign]
        refine ⟨cmul_l r0 r1, by decide, by decide, ?_⟩
        have b := modr (a := r * 48271 + z % 2147483647 + 1) (M := 2147483647) (by decide) (by decide)
        exact fin _ _ _ _ _ (by omega) p0 b.1 b.2
    · rw [if_neg c2]
      exact hB2
  · rw [if_neg c1]
    exact hB2
end DL


namespace DL
open PySem PySem.Spec PyProof.Rows L2

/-! ### names and their coins: what each def gives -/
def Signs (l : List Nat) : Prop := ∀ c ∈ l, 32 ≤ c ∧ c ≤ 126
/-- the world of plain calls: every parameter is read, the answer is f's -/
def fnSpec {α : Type} (n : Nat) (fresh : Bool) (args : α → List D) (pre : α → Prop) (f : α → D) : FnSpec := mkSpec (List.replicate n false) fresh args pre fun x r os => r = f x ∧ os = []
theorem onF {α : Type} {n : Nat} {fresh : Bool} {args : α → List D} {pre : α → Prop} {f : α → D} {K : D → List D → Prop} {ds : List D} (x : α) (e : ds = args x) (h : pre x) (k : K (f x) []) : @onB ⟨K⟩ (fnSpec n fresh args pre f) ds :=
  ⟨x, e, h, fun r os ⟨e1, e2⟩ => by rw [e1, e2]; exact k⟩
def S_are_signs : FnSpec := fnSpec 1 false (fun l : List Nat => [.str l]) Signs fun _ => .bl true
/-- are_signs: slots 0 thing, 1 sign -/
def D_are_signs : DTS := (dRet (dUp (dAndV (dUn (oIsi "str") (dVar 0)) (dCB oAll (dCons (dFz (dLc (dIt (dVar 0)) (dgName 1) dYes (dChain oLe oLe (dC (.str [32])) (dVar 1) (dC (.str [126]))) [1])) dNil)))))
theorem sem_are_signs : ∀ ds Kd, S_are_signs.ds ds Kd → D_are_signs (endsOf S_are_signs Kd) (env0 2 [false] ds) := by
  rintro ds Kd ⟨l, rfl, hl, post⟩
  show D_are_signs (endsOf S_are_signs Kd) [.fz (.str l), .un]
  simp only [↓D_are_signs, ↓dSeq, ↓dNext, ↓dBreak, ↓dCont, ↓dNever, ↓dRet, ↓dRetN, ↓dDrop, ↓dSet, ↓dIf, ↓dAug, ↓dAsg, ↓dPar, ↓dVar, ↓dMove, ↓dC, ↓dFz, ↓dUp, ↓dNil, ↓dCons, ↓dTup, ↓dLst, ↓dBin, ↓dUn, ↓dChain, ↓dTest, ↓dAnd, ↓dOr, ↓dNot, ↓dAndV, ↓dOrV, ↓dNotV, ↓dIfE, ↓dgName, ↓dgNil, ↓dgCons, ↓dgTup, ↓dIt, ↓dRng1, ↓dRng2, ↓dZip, ↓dEnum, ↓u_for, ↓u_lc, ↓dYes, ↓u_call, ↓u_callF, ↓u_callIo, ↓dCB, ↓dCBF, ↓dBinS, ↓dLenS, ↓dSl, ↓dSlS, ↓dNo, ↓dPt, ↓dStL, ↓dApp, ↓dExt, ↓dJoin, ↓dRg1, ↓dRg2, ↓dTupRg, ↓dLstRg, ↓oSub, ↓oMulI, ↓oMul, ↓oFdiv, ↓oMod, ↓oPow, ↓oShr, ↓oXor, ↓oNeg, ↓oAdd, ↓oAug, ↓oLt, ↓oLe, ↓oGt, ↓oGe, ↓oI, ↓oIx, ↓oLen, ↓oInt, ↓oOrd, ↓oAbs, ↓oStL, ↓oIn, ↓oNin, ↓oInB, ↓isi_int, ↓isi_int_bl, ↓isi_int_str, ↓isi_int_tup, ↓isi_int_lst, ↓isi_str, ↓isi_str_int, ↓isi_tup, ↓isi_tup_int, ↓isi_tup_str, ↓isi_tup_lst, ↓isi_lst, ↓isi_lst_tup, ↓isi_lst_int, ↓isi_lst_str, ↓cv, ↓Cell.val, ↓Cell.up, ↓Cell.own, ↓lenD, ↓itemsOf, List.getElem?_cons_zero, List.getElem?_cons_succ, List.set_cons_zero, List.set_cons_succ, Option.bind_some, Option.isSome_some, List.length_cons, List.length_nil, true_and, and_true, ↓ixN_lit, ↓atI_lit, ↓reduceIte, Nat.reduceAdd, Nat.reduceLT, Nat.reduceSub, Nat.zero_add, Nat.reduceLeDiff, Nat.lt_add_one, Nat.zero_lt_succ, ↓oEq_int, ↓oNe_int, ↓oEq_str, ↓oNe_str, ↓oEq_bl, ↓oNe_bl, decide_eq_true_eq, Bool.false_eq_true, ↓u_while, ↓ownAt, List.all_cons, List.all_nil, Bool.and_true, List.getD_cons_zero, List.getD_cons_succ, Bool.not_false, ↓oLe_sign]
  refine lcB_of (lcW_map _ (fun _ => .bl true) _ (fun x hx kT hT => ?_) fun ρ' hw => ?_)
  · obtain ⟨c, hc, rfl⟩ := List.mem_map.mp hx
    have hc2 := hl c hc
    simp only [wipeE, ↓dSeq, ↓dNext, ↓dBreak, ↓dCont, ↓dNever, ↓dRet, ↓dRetN, ↓dDrop, ↓dSet, ↓dIf, ↓dAug, ↓dAsg, ↓dPar, ↓dVar, ↓dMove, ↓dC, ↓dFz, ↓dUp, ↓dNil, ↓dCons, ↓dTup, ↓dLst, ↓dBin, ↓dUn, ↓dChain, ↓dTest, ↓dAnd, ↓dOr, ↓dNot, ↓dAndV, ↓dOrV, ↓dNotV, ↓dIfE, ↓dgName, ↓dgNil, ↓dgCons, ↓dgTup, ↓dIt, ↓dRng1, ↓dRng2, ↓dZip, ↓dEnum, ↓u_for, ↓u_lc, ↓dYes, ↓u_call, ↓u_callF, ↓u_callIo, ↓dCB, ↓dCBF, ↓dBinS, ↓dLenS, ↓dSl, ↓dSlS, ↓dNo, ↓dPt, ↓dStL, ↓dApp, ↓dExt, ↓dJoin, ↓dRg1, ↓dRg2, ↓dTupRg, ↓dLstRg, ↓oSub, ↓oMulI, ↓oMul, ↓oFdiv, ↓oMod, ↓oPow, ↓oShr, ↓oXor, ↓oNeg, ↓oAdd, ↓oAug, ↓oLt, ↓oLe, ↓oGt, ↓oGe, ↓oI, ↓oIx, ↓oLen, ↓oInt, ↓oOrd, ↓oAbs, ↓oStL, ↓oIn, ↓oNin, ↓oInB, ↓isi_int, ↓isi_int_bl, ↓isi_int_str, ↓isi_int_tup, ↓isi_int_lst, ↓isi_str, ↓isi_str_int, ↓isi_tup, ↓isi_tup_int, ↓isi_tup_str, ↓isi_tup_lst, ↓isi_lst, ↓isi_lst_tup, ↓isi_lst_int, ↓isi_lst_str, ↓cv, ↓Cell.val, ↓Cell.up, ↓Cell.own, ↓lenD, ↓itemsOf, List.getElem?_cons_zero, List.getElem?_cons_succ, List.set_cons_zero, List.set_cons_succ, Option.bind_some, Option.isSome_some, List.length_cons, List.length_nil, true_and, and_true, ↓ixN_lit, ↓atI_lit, ↓reduceIte, Nat.reduceAdd, Nat.reduceLT, Nat.reduceSub, Nat.zero_add, Nat.reduceLeDiff, Nat.lt_add_one, Nat.zero_lt_succ, ↓oEq_int, ↓oNe_int, ↓oEq_str, ↓oNe_str, ↓oEq_bl, ↓oNe_bl, decide_eq_true_eq, Bool.false_eq_true, ↓u_while, ↓ownAt, List.all_cons, List.all_nil, Bool.and_true, List.getD_cons_zero, List.getD_cons_succ, Bool.not_false, ↓oLe_sign, hc2.1, hc2.2, decide_true]
    exact hT _ rfl
  · have e2 : boolsOf ((l.map fun c => D.str [c]).map fun _ => D.bl true) = some (l.map fun _ => true) := by
      rw [List.map_map]
      exact boolsOf_map (fun _ => true) l
    have e3 : (l.map fun _ => true).all id = true := by simp
    simp only [rest_of_wipe hw, ↓dSeq, ↓dNext, ↓dBreak, ↓dCont, ↓dNever, ↓dRet, ↓dRetN, ↓dDrop, ↓dSet, ↓dIf, ↓dAug, ↓dAsg, ↓dPar, ↓dVar, ↓dMove, ↓dC, ↓dFz, ↓dUp, ↓dNil, ↓dCons, ↓dTup, ↓dLst, ↓dBin, ↓dUn, ↓dChain, ↓dTest, ↓dAnd, ↓dOr, ↓dNot, ↓dAndV, ↓dOrV, ↓dNotV, ↓dIfE, ↓dgName, ↓dgNil, ↓dgCons, ↓dgTup, ↓dIt, ↓dRng1, ↓dRng2, ↓dZip, ↓dEnum, ↓u_for, ↓u_lc, ↓dYes, ↓u_call, ↓u_callF, ↓u_callIo, ↓dCB, ↓dCBF, ↓dBinS, ↓dLenS, ↓dSl, ↓dSlS, ↓dNo, ↓dPt, ↓dStL, ↓dApp, ↓dExt, ↓dJoin, ↓dRg1, ↓dRg2, ↓dTupRg, ↓dLstRg, ↓oSub, ↓oMulI, ↓oMul, ↓oFdiv, ↓oMod, ↓oPow, ↓oShr, ↓oXor, ↓oNeg, ↓oAdd, ↓oAug, ↓oLt, ↓oLe, ↓oGt, ↓oGe, ↓oI, ↓oIx, ↓oLen, ↓oInt, ↓oOrd, ↓oAbs, ↓oStL, ↓oIn, ↓oNin, ↓oInB, ↓isi_int, ↓isi_int_bl, ↓isi_int_str, ↓isi_int_tup, ↓isi_int_lst, ↓isi_str, ↓isi_str_int, ↓isi_tup, ↓isi_tup_int, ↓isi_tup_str, ↓isi_tup_lst, ↓isi_lst, ↓isi_lst_tup, ↓isi_lst_int, ↓isi_lst_str, ↓cv, ↓Cell.val, ↓Cell.up, ↓Cell.own, ↓lenD, ↓itemsOf, List.getElem?_cons_zero, List.getElem?_cons_succ, List.set_cons_zero, List.set_cons_succ, Option.bind_some, Option.isSome_some, List.length_cons, List.length_nil, true_and, and_true, ↓ixN_lit, ↓atI_lit, ↓reduceIte, Nat.reduceAdd, Nat.reduceLT, Nat.reduceSub, Nat.zero_add, Nat.reduceLeDiff, Nat.lt_add_one, Nat.zero_lt_succ, ↓oEq_int, ↓oNe_int, ↓oEq_str, ↓oNe_str, ↓oEq_bl, ↓oNe_bl, decide_eq_true_eq, Bool.false_eq_true, ↓u_while, ↓ownAt, List.all_cons, List.all_nil, Bool.and_true, List.getD_cons_zero, List.getD_cons_succ, Bool.not_false, ↓oLe_sign, oAll, e2, e3]
    exact ⟨rfl, post _ _ ⟨rfl, rfl⟩⟩
def S_is_word : FnSpec := fnSpec 1 false (fun l : List Nat => [.str l]) (fun l => Signs l ∧ l ≠ []) fun _ => .bl true
/-- is_word: slots 0 thing -/
def D_is_word : DTS := (dRet (dUp (dAndV (dCall S_are_signs (dCons (dVar 0) dNil)) (dBin oGt (dLenS 0) (dC (.int 0))))))
theorem sem_is_word : ∀ ds Kd, S_is_word.ds ds Kd → D_is_word (endsOf S_is_word Kd) (env0 1 [false] ds) := by
  rintro ds Kd ⟨l, rfl, ⟨hl, hn⟩, post⟩
  show D_is_word (endsOf S_is_word Kd) [.fz (.str l)]
  simp only [↓D_is_word, ↓dSeq, ↓dNext, ↓dBreak, ↓dCont, ↓dNever, ↓dRet, ↓dRetN, ↓dDrop, ↓dSet, ↓dIf, ↓dAug, ↓dAsg, ↓dPar, ↓dVar, ↓dMove, ↓dC, ↓dFz, ↓dUp, ↓dNil, ↓dCons, ↓dTup, ↓dLst, ↓dBin, ↓dUn, ↓dChain, ↓dTest, ↓dAnd, ↓dOr, ↓dNot, ↓dAndV, ↓dOrV, ↓dNotV, ↓dIfE, ↓dgName, ↓dgNil, ↓dgCons, ↓dgTup, ↓dIt, ↓dRng1, ↓dRng2, ↓dZip, ↓dEnum, ↓u_for, ↓u_lc, ↓dYes, ↓u_call, ↓u_callF, ↓u_callIo, ↓dCB, ↓dCBF, ↓dBinS, ↓dLenS, ↓dSl, ↓dSlS, ↓dNo, ↓dPt, ↓dStL, ↓dApp, ↓dExt, ↓dJoin, ↓dRg1, ↓dRg2, ↓dTupRg, ↓dLstRg, ↓oSub, ↓oMulI, ↓oMul, ↓oFdiv, ↓oMod, ↓oPow, ↓oShr, ↓oXor, ↓oNeg, ↓oAdd, ↓oAug, ↓oLt, ↓oLe, ↓oGt, ↓oGe, ↓oI, ↓oIx, ↓oLen, ↓oInt, ↓oOrd, ↓oAbs, ↓oStL, ↓oIn, ↓oNin, ↓oInB, ↓isi_int, ↓isi_int_bl, ↓isi_int_str, ↓isi_int_tup, ↓isi_int_lst, ↓isi_str, ↓isi_str_int, ↓isi_tup, ↓isi_tup_int, ↓isi_tup_str, ↓isi_tup_lst, ↓isi_lst, ↓isi_lst_tup, ↓isi_lst_int, ↓isi_lst_str, ↓cv, ↓Cell.val, ↓Cell.up, ↓Cell.own, ↓lenD, ↓itemsOf, List.getElem?_cons_zero, List.getElem?_cons_succ, List.set_cons_zero, List.set_cons_succ, Option.bind_some, Option.isSome_some, List.length_cons, List.length_nil, true_and, and_true, ↓ixN_lit, ↓atI_lit, ↓reduceIte, Nat.reduceAdd, Nat.reduceLT, Nat.reduceSub, Nat.zero_add, Nat.reduceLeDiff, Nat.lt_add_one, Nat.zero_lt_succ, ↓oEq_int, ↓oNe_int, ↓oEq_str, ↓oNe_str, ↓oEq_bl, ↓oNe_bl, decide_eq_true_eq, Bool.false_eq_true, ↓u_while, ↓ownAt, List.all_cons, List.all_nil, Bool.and_true, List.getD_cons_zero, List.getD_cons_succ, Bool.not_false, ↓oLe_sign]
  refine ⟨rfl, onF l rfl hl ?_⟩
  have e : (0 : Int) < (l.length : Int) := by
    have := List.length_pos_iff.mpr hn
    omega
  simp only [↓dSeq, ↓dNext, ↓dBreak, ↓dCont, ↓dNever, ↓dRet, ↓dRetN, ↓dDrop, ↓dSet, ↓dIf, ↓dAug, ↓dAsg, ↓dPar, ↓dVar, ↓dMove, ↓dC, ↓dFz, ↓dUp, ↓dNil, ↓dCons, ↓dTup, ↓dLst, ↓dBin, ↓dUn, ↓dChain, ↓dTest, ↓dAnd, ↓dOr, ↓dNot, ↓dAndV, ↓dOrV, ↓dNotV, ↓dIfE, ↓dgName, ↓dgNil, ↓dgCons, ↓dgTup, ↓dIt, ↓dRng1, ↓dRng2, ↓dZip, ↓dEnum, ↓u_for, ↓u_lc, ↓dYes, ↓u_call, ↓u_callF, ↓u_callIo, ↓dCB, ↓dCBF, ↓dBinS, ↓dLenS, ↓dSl, ↓dSlS, ↓dNo, ↓dPt, ↓dStL, ↓dApp, ↓dExt, ↓dJoin, ↓dRg1, ↓dRg2, ↓dTupRg, ↓dLstRg, ↓oSub, ↓oMulI, ↓oMul, ↓oFdiv, ↓oMod, ↓oPow, ↓oShr, ↓oXor, ↓oNeg, ↓oAdd, ↓oAug, ↓oLt, ↓oLe, ↓oGt, ↓oGe, ↓oI, ↓oIx, ↓oLen, ↓oInt, ↓oOrd, ↓oAbs, ↓oStL, ↓oIn, ↓oNin, ↓oInB, ↓isi_int, ↓isi_int_bl, ↓isi_int_str, ↓isi_int_tup, ↓isi_int_lst, ↓isi_str, ↓isi_str_int, ↓isi_tup, ↓isi_tup_int, ↓isi_tup_str, ↓isi_tup_lst, ↓isi_lst, ↓isi_lst_tup, ↓isi_lst_int, ↓isi_lst_str, ↓cv, ↓Cell.val, ↓Cell.up, ↓Cell.own, ↓lenD, ↓itemsOf, List.getElem?_cons_zero, List.getElem?_cons_succ, List.set_cons_zero, List.set_cons_succ, Option.bind_some, Option.isSome_some, List.length_cons, List.length_nil, true_and, and_true, ↓ixN_lit, ↓atI_lit, ↓reduceIte, Nat.reduceAdd, Nat.reduceLT, Nat.reduceSub, Nat.zero_add, Nat.reduceLeDiff, Nat.lt_add_one, Nat.zero_lt_succ, ↓oEq_int, ↓oNe_int, ↓oEq_str, ↓oNe_str, ↓oEq_bl, ↓oNe_bl, decide_eq_true_eq, Bool.false_eq_true, ↓u_while, ↓ownAt, List.all_cons, List.all_nil, Bool.and_true, List.getD_cons_zero, List.getD_cons_succ, Bool.not_false, ↓oLe_sign, e, decide_true]
  exact ⟨rfl, post _ _ ⟨rfl, rfl⟩⟩
def S_is_text : FnSpec := fnSpec 1 false (fun l : List Nat => [.str l]) (fun l => Signs l ∧ l.length ≤ 2000) fun _ => .bl true
/-- is_text: slots 0 thing -/
def D_is_text : DTS := (dRet (dUp (dAndV (dCall S_are_signs (dCons (dVar 0) dNil)) (dBin oLe (dLenS 0) (dC (.int 2000))))))
theorem sem_is_text : ∀ ds Kd, S_is_text.ds ds Kd → D_is_text (endsOf S_is_text Kd) (env0 1 [false] ds) := by
  rintro ds Kd ⟨l, rfl, ⟨hl, hn⟩, post⟩
  show D_is_text (endsOf S_is_text Kd) [.fz (.str l)]
  simp only [↓D_is_text, ↓dSeq, ↓dNext, ↓dBreak, ↓dCont, ↓dNever, ↓dRet, ↓dRetN, ↓dDrop, ↓dSet, ↓dIf, ↓dAug, ↓dAsg, ↓dPar, ↓dVar, ↓dMove, ↓dC, ↓dFz, ↓dUp, ↓dNil, ↓dCons, ↓dTup, ↓dLst, ↓dBin, ↓dUn, ↓dChain, ↓dTest, ↓dAnd, ↓dOr, ↓dNot, ↓dAndV, ↓dOrV, ↓dNotV, ↓dIfE, ↓dgName, ↓dgNil, ↓dgCons, ↓dgTup, ↓dIt, ↓dRng1, ↓dRng2, ↓dZip, ↓dEnum, ↓u_for, ↓u_lc, ↓dYes, ↓u_call, ↓u_callF, ↓u_callIo, ↓dCB, ↓dCBF, ↓dBinS, ↓dLenS, ↓dSl, ↓dSlS, ↓dNo, ↓dPt, ↓dStL, ↓dApp, ↓dExt, ↓dJoin, ↓dRg1, ↓dRg2, ↓dTupRg, ↓dLstRg, ↓oSub, ↓oMulI, ↓oMul, ↓oFdiv, ↓oMod, ↓oPow, ↓oShr, ↓oXor, ↓oNeg, ↓oAdd, ↓oAug, ↓oLt, ↓oLe, ↓oGt, ↓oGe, ↓oI, ↓oIx, ↓oLen, ↓oInt, ↓oOrd, ↓oAbs, ↓oStL, ↓oIn, ↓oNin, ↓oInB, ↓isi_int, ↓isi_int_bl, ↓isi_int_str, ↓isi_int_tup, ↓isi_int_lst, ↓isi_str, ↓isi_str_int, ↓isi_tup, ↓isi_tup_int, ↓isi_tup_str, ↓isi_tup_lst, ↓isi_lst, ↓isi_lst_tup, ↓isi_lst_int, ↓isi_lst_str, ↓cv, ↓Cell.val, ↓Cell.up, ↓Cell.own, ↓lenD, ↓itemsOf, List.getElem?_cons_zero, List.getElem?_cons_succ, List.set_cons_zero, List.set_cons_succ, Option.bind_some, Option.isSome_some, List.length_cons, List.length_nil, true_and, and_true, ↓ixN_lit, ↓atI_lit, ↓reduceIte, Nat.reduceAdd, Nat.reduceLT, Nat.reduceSub, Nat.zero_add, Nat.reduceLeDiff, Nat.lt_add_one, Nat.zero_lt_succ, ↓oEq_int, ↓oNe_int, ↓oEq_str, ↓oNe_str, ↓oEq_bl, ↓oNe_bl, decide_eq_true_eq, Bool.false_eq_true, ↓u_while, ↓ownAt, List.all_cons, List.all_nil, Bool.and_true, List.getD_cons_zero, List.getD_cons_succ, Bool.not_false, ↓oLe_sign]
  refine ⟨rfl, onF l rfl hl ?_⟩
  have e : (l.length : Int) ≤ 2000 := by omega
  simp only [↓dSeq, ↓dNext, ↓dBreak, ↓dCont, ↓dNever, ↓dRet, ↓dRetN, ↓dDrop, ↓dSet, ↓dIf, ↓dAug, ↓dAsg, ↓dPar, ↓dVar, ↓dMove, ↓dC, ↓dFz, ↓dUp, ↓dNil, ↓dCons, ↓dTup, ↓dLst, ↓dBin, ↓dUn, ↓dChain, ↓dTest, ↓dAnd, ↓dOr, ↓dNot, ↓dAndV, ↓dOrV, ↓dNotV, ↓dIfE, ↓dgName, ↓dgNil, ↓dgCons, ↓dgTup, ↓dIt, ↓dRng1, ↓dRng2, ↓dZip, ↓dEnum, ↓u_for, ↓u_lc, ↓dYes, ↓u_call, ↓u_callF, ↓u_callIo, ↓dCB, ↓dCBF, ↓dBinS, ↓dLenS, ↓dSl, ↓dSlS, ↓dNo, ↓dPt, ↓dStL, ↓dApp, ↓dExt, ↓dJoin, ↓dRg1, ↓dRg2, ↓dTupRg, ↓dLstRg, ↓oSub, ↓oMulI, ↓oMul, ↓oFdiv, ↓oMod, ↓oPow, ↓oShr, ↓oXor, ↓oNeg, ↓oAdd, ↓oAug, ↓oLt, ↓oLe, ↓oGt, ↓oGe, ↓oI, ↓oIx, ↓oLen, ↓oInt, ↓oOrd, ↓oAbs, ↓oStL, ↓oIn, ↓oNin, ↓oInB, ↓isi_int, ↓isi_int_bl, ↓isi_int_str, ↓isi_int_tup, ↓isi_int_lst, ↓isi_str, ↓isi_str_int, ↓isi_tup, ↓isi_tup_int, ↓isi_tup_str, ↓isi_tup_lst, ↓isi_lst, ↓isi_lst_tup, ↓isi_lst_int, ↓isi_lst_str, ↓cv, ↓Cell.val, ↓Cell.up, ↓Cell.own, ↓lenD, ↓itemsOf, List.getElem?_cons_zero, List.getElem?_cons_succ, List.set_cons_zero, List.set_cons_succ, Option.bind_some, Option.isSome_some, List.length_cons, List.length_nil, true_and, and_true, ↓ixN_lit, ↓atI_lit, ↓reduceIte, Nat.reduceAdd, Nat.reduceLT, Nat.reduceSub, Nat.zero_add, Nat.reduceLeDiff, Nat.lt_add_one, Nat.zero_lt_succ, ↓oEq_int, ↓oNe_int, ↓oEq_str, ↓oNe_str, ↓oEq_bl, ↓oNe_bl, decide_eq_true_eq, Bool.false_eq_true, ↓u_while, ↓ownAt, List.all_cons, List.all_nil, Bool.and_true, List.getD_cons_zero, List.getD_cons_succ, Bool.not_false, ↓oLe_sign, e, decide_true]
  exact ⟨rfl, post _ _ ⟨rfl, rfl⟩⟩
def S_check_text : FnSpec := fnSpec 1 false (fun l : List Nat => [.str l]) (fun l => Signs l ∧ l.length ≤ 2000) fun _ => .non
/-- check_text: slots 0 thing -/
def D_check_text : DTS := (dIf (dNot (dTest (dCall S_is_text (dCons (dVar 0) dNil)))) dNever dNext)
theorem sem_check_text : ∀ ds Kd, S_check_text.ds ds Kd → D_check_text (endsOf S_check_text Kd) (env0 1 [false] ds) := by
  rintro ds Kd ⟨l, rfl, hl, post⟩
  show D_check_text (endsOf S_check_text Kd) [.fz (.str l)]
  simp only [↓D_check_text, ↓dSeq, ↓dNext, ↓dBreak, ↓dCont, ↓dNever, ↓dRet, ↓dRetN, ↓dDrop, ↓dSet, ↓dIf, ↓dAug, ↓dAsg, ↓dPar, ↓dVar, ↓dMove, ↓dC, ↓dFz, ↓dUp, ↓dNil, ↓dCons, ↓dTup, ↓dLst, ↓dBin, ↓dUn, ↓dChain, ↓dTest, ↓dAnd, ↓dOr, ↓dNot, ↓dAndV, ↓dOrV, ↓dNotV, ↓dIfE, ↓dgName, ↓dgNil, ↓dgCons, ↓dgTup, ↓dIt, ↓dRng1, ↓dRng2, ↓dZip, ↓dEnum, ↓u_for, ↓u_lc, ↓dYes, ↓u_call, ↓u_callF, ↓u_callIo, ↓dCB, ↓dCBF, ↓dBinS, ↓dLenS, ↓dSl, ↓dSlS, ↓dNo, ↓dPt, ↓dStL, ↓dApp, ↓dExt, ↓dJoin, ↓dRg1, ↓dRg2, ↓dTupRg, ↓dLstRg, ↓oSub, ↓oMulI, ↓oMul, ↓oFdiv, ↓oMod, ↓oPow, ↓oShr, ↓oXor, ↓oNeg, ↓oAdd, ↓oAug, ↓oLt, ↓oLe, ↓oGt, ↓oGe, ↓oI, ↓oIx, ↓oLen, ↓oInt, ↓oOrd, ↓oAbs, ↓oStL, ↓oIn, ↓oNin, ↓oInB, ↓isi_int, ↓isi_int_bl, ↓isi_int_str, ↓isi_int_tup, ↓isi_int_lst, ↓isi_str, ↓isi_str_int, ↓isi_tup, ↓isi_tup_int, ↓isi_tup_str, ↓isi_tup_lst, ↓isi_lst, ↓isi_lst_tup, ↓isi_lst_int, ↓isi_lst_str, ↓cv, ↓Cell.val, ↓Cell.up, ↓Cell.own, ↓lenD, ↓itemsOf, List.getElem?_cons_zero, List.getElem?_cons_succ, List.set_cons_zero, List.set_cons_succ, Option.bind_some, Option.isSome_some, List.length_cons, List.length_nil, true_and, and_true, ↓ixN_lit, ↓atI_lit, ↓reduceIte, Nat.reduceAdd, Nat.reduceLT, Nat.reduceSub, Nat.zero_add, Nat.reduceLeDiff, Nat.lt_add_one, Nat.zero_lt_succ, ↓oEq_int, ↓oNe_int, ↓oEq_str, ↓oNe_str, ↓oEq_bl, ↓oNe_bl, decide_eq_true_eq, Bool.false_eq_true, ↓u_while, ↓ownAt, List.all_cons, List.all_nil, Bool.and_true, List.getD_cons_zero, List.getD_cons_succ, Bool.not_false, ↓oLe_sign]
  refine ⟨rfl, onF l rfl hl ?_⟩
  simp only [↓dSeq, ↓dNext, ↓dBreak, ↓dCont, ↓dNever, ↓dRet, ↓dRetN, ↓dDrop, ↓dSet, ↓dIf, ↓dAug, ↓dAsg, ↓dPar, ↓dVar, ↓dMove, ↓dC, ↓dFz, ↓dUp, ↓dNil, ↓dCons, ↓dTup, ↓dLst, ↓dBin, ↓dUn, ↓dChain, ↓dTest, ↓dAnd, ↓dOr, ↓dNot, ↓dAndV, ↓dOrV, ↓dNotV, ↓dIfE, ↓dgName, ↓dgNil, ↓dgCons, ↓dgTup, ↓dIt, ↓dRng1, ↓dRng2, ↓dZip, ↓dEnum, ↓u_for, ↓u_lc, ↓dYes, ↓u_call, ↓u_callF, ↓u_callIo, ↓dCB, ↓dCBF, ↓dBinS, ↓dLenS, ↓dSl, ↓dSlS, ↓dNo, ↓dPt, ↓dStL, ↓dApp, ↓dExt, ↓dJoin, ↓dRg1, ↓dRg2, ↓dTupRg, ↓dLstRg, ↓oSub, ↓oMulI, ↓oMul, ↓oFdiv, ↓oMod, ↓oPow, ↓oShr, ↓oXor, ↓oNeg, ↓oAdd, ↓oAug, ↓oLt, ↓oLe, ↓oGt, ↓oGe, ↓oI, ↓oIx, ↓oLen, ↓oInt, ↓oOrd, ↓oAbs, ↓oStL, ↓oIn, ↓oNin, ↓oInB, ↓isi_int, ↓isi_int_bl, ↓isi_int_str, ↓isi_int_tup, ↓isi_int_lst, ↓isi_str, ↓isi_str_int, ↓isi_tup, ↓isi_tup_int, ↓isi_tup_str, ↓isi_tup_lst, ↓isi_lst, ↓isi_lst_tup, ↓isi_lst_int, ↓isi_lst_str, ↓cv, ↓Cell.val, ↓Cell.up, ↓Cell.own, ↓lenD, ↓itemsOf, List.getElem?_cons_zero, List.getElem?_cons_succ, List.set_cons_zero, List.set_cons_succ, Option.bind_some, Option.isSome_some, List.length_cons, List.length_nil, true_and, and_true, ↓ixN_lit, ↓atI_lit, ↓reduceIte, Nat.reduceAdd, Nat.reduceLT, Nat.reduceSub, Nat.zero_add, Nat.reduceLeDiff, Nat.lt_add_one, Nat.zero_lt_succ, ↓oEq_int, ↓oNe_int, ↓oEq_str, ↓oNe_str, ↓oEq_bl, ↓oNe_bl, decide_eq_true_eq, Bool.false_eq_true, ↓u_while, ↓ownAt, List.all_cons, List.all_nil, Bool.and_true, List.getD_cons_zero, List.getD_cons_succ, Bool.not_false, ↓oLe_sign, Bool.not_true]
  exact ⟨rfl, post _ _ ⟨rfl, rfl⟩⟩
/-- a name's number -/
def num (l : List Nat) : Nat := l.foldl (fun a c => a * 128 + c) 0
def S_number_of_name : FnSpec := fnSpec 1 false (fun l : List Nat => [.str l]) (fun _ => True) fun l => .int (num l : Nat)
/-- number_of_name: slots 0 name, 1 found, 2 sign -/
def D_number_of_name : DTS := (dSeq (dSet 1 (dUp (dC (.int 0)))) (dSeq (dFor (dIt (dVar 0)) (dgName 2) (dSet 1 (dUp (dBin oAdd (dBin oMul (dVar 1) (dC (.int 128))) (dCB oOrd (dCons (dVar 2) dNil)))))) (dRet (dUp (dVar 1)))))
theorem sem_number_of_name : ∀ ds Kd, S_number_of_name.ds ds Kd → D_number_of_name (endsOf S_number_of_name Kd) (env0 3 [false] ds) := by
  rintro ds Kd ⟨l, rfl, -, post⟩
  show D_number_of_name (endsOf S_number_of_name Kd) [.fz (.str l), .un, .un]
  simp only [↓D_number_of_name, ↓dSeq, ↓dNext, ↓dBreak, ↓dCont, ↓dNever, ↓dRet, ↓dRetN, ↓dDrop, ↓dSet, ↓dIf, ↓dAug, ↓dAsg, ↓dPar, ↓dVar, ↓dMove, ↓dC, ↓dFz, ↓dUp, ↓dNil, ↓dCons, ↓dTup, ↓dLst, ↓dBin, ↓dUn, ↓dChain, ↓dTest, ↓dAnd, ↓dOr, ↓dNot, ↓dAndV, ↓dOrV, ↓dNotV, ↓dIfE, ↓dgName, ↓dgNil, ↓dgCons, ↓dgTup, ↓dIt, ↓dRng1, ↓dRng2, ↓dZip, ↓dEnum, ↓u_for, ↓u_lc, ↓dYes, ↓u_call, ↓u_callF, ↓u_callIo, ↓dCB, ↓dCBF, ↓dBinS, ↓dLenS, ↓dSl, ↓dSlS, ↓dNo, ↓dPt, ↓dStL, ↓dApp, ↓dExt, ↓dJoin, ↓dRg1, ↓dRg2, ↓dTupRg, ↓dLstRg, ↓oSub, ↓oMulI, ↓oMul, ↓oFdiv, ↓oMod, ↓oPow, ↓oShr, ↓oXor, ↓oNeg, ↓oAdd, ↓oAug, ↓oLt, ↓oLe, ↓oGt, ↓oGe, ↓oI, ↓oIx, ↓oLen, ↓oInt, ↓oOrd, ↓oAbs, ↓oStL, ↓oIn, ↓oNin, ↓oInB, ↓isi_int, ↓isi_int_bl, ↓isi_int_str, ↓isi_int_tup, ↓isi_int_lst, ↓isi_str, ↓isi_str_int, ↓isi_tup, ↓isi_tup_int, ↓isi_tup_str, ↓isi_tup_lst, ↓isi_lst, ↓isi_lst_tup, ↓isi_lst_int, ↓isi_lst_str, ↓cv, ↓Cell.val, ↓Cell.up, ↓Cell.own, ↓lenD, ↓itemsOf, List.getElem?_cons_zero, List.getElem?_cons_succ, List.set_cons_zero, List.set_cons_succ, Option.bind_some, Option.isSome_some, List.length_cons, List.length_nil, true_and, and_true, ↓ixN_lit, ↓atI_lit, ↓reduceIte, Nat.reduceAdd, Nat.reduceLT, Nat.reduceSub, Nat.zero_add, Nat.reduceLeDiff, Nat.lt_add_one, Nat.zero_lt_succ, ↓oEq_int, ↓oNe_int, ↓oEq_str, ↓oNe_str, ↓oEq_bl, ↓oNe_bl, decide_eq_true_eq, Bool.false_eq_true, ↓u_while, ↓ownAt, List.all_cons, List.all_nil, Bool.and_true, List.getD_cons_zero, List.getD_cons_succ, Bool.not_false, ↓oLe_sign]
  refine forB_of (forW_inv (fun rest ρ => ∃ pre post x, l = pre ++ post ∧ rest = post.map (fun c => D.str [c]) ∧ ρ = [.fz (.str l), .fz (.int (num pre : Nat)), x]) ?_ ?_ _ _ ⟨[], l, .un, rfl, rfl, rfl⟩)
  · rintro x xs ρ k ⟨pre, pst, y, e1, e2, rfl⟩ hk
    cases pst with
    | nil => cases e2
    | cons c pst =>
      cases e2
      simp only [↓dSeq, ↓dNext, ↓dBreak, ↓dCont, ↓dNever, ↓dRet, ↓dRetN, ↓dDrop, ↓dSet, ↓dIf, ↓dAug, ↓dAsg, ↓dPar, ↓dVar, ↓dMove, ↓dC, ↓dFz, ↓dUp, ↓dNil, ↓dCons, ↓dTup, ↓dLst, ↓dBin, ↓dUn, ↓dChain, ↓dTest, ↓dAnd, ↓dOr, ↓dNot, ↓dAndV, ↓dOrV, ↓dNotV, ↓dIfE, ↓dgName, ↓dgNil, ↓dgCons, ↓dgTup, ↓dIt, ↓dRng1, ↓dRng2, ↓dZip, ↓dEnum, ↓u_for, ↓u_lc, ↓dYes, ↓u_call, ↓u_callF, ↓u_callIo, ↓dCB, ↓dCBF, ↓dBinS, ↓dLenS, ↓dSl, ↓dSlS, ↓dNo, ↓dPt, ↓dStL, ↓dApp, ↓dExt, ↓dJoin, ↓dRg1, ↓dRg2, ↓dTupRg, ↓dLstRg, ↓oSub, ↓oMulI, ↓oMul, ↓oFdiv, ↓oMod, ↓oPow, ↓oShr, ↓oXor, ↓oNeg, ↓oAdd, ↓oAug, ↓oLt, ↓oLe, ↓oGt, ↓oGe, ↓oI, ↓oIx, ↓oLen, ↓oInt, ↓oOrd, ↓oAbs, ↓oStL, ↓oIn, ↓oNin, ↓oInB, ↓isi_int, ↓isi_int_bl, ↓isi_int_str, ↓isi_int_tup, ↓isi_int_lst, ↓isi_str, ↓isi_str_int, ↓isi_tup, ↓isi_tup_int, ↓isi_tup_str, ↓isi_tup_lst, ↓isi_lst, ↓isi_lst_tup, ↓isi_lst_int, ↓isi_lst_str, ↓cv, ↓Cell.val, ↓Cell.up, ↓Cell.own, ↓lenD, ↓itemsOf, List.getElem?_cons_zero, List.getElem?_cons_succ, List.set_cons_zero, List.set_cons_succ, Option.bind_some, Option.isSome_some, List.length_cons, List.length_nil, true_and, and_true, ↓ixN_lit, ↓atI_lit, ↓reduceIte, Nat.reduceAdd, Nat.reduceLT, Nat.reduceSub, Nat.zero_add, Nat.reduceLeDiff, Nat.lt_add_one, Nat.zero_lt_succ, ↓oEq_int, ↓oNe_int, ↓oEq_str, ↓oNe_str, ↓oEq_bl, ↓oNe_bl, decide_eq_true_eq, Bool.false_eq_true, ↓u_while, ↓ownAt, List.all_cons, List.all_nil, Bool.and_true, List.getD_cons_zero, List.getD_cons_succ, Bool.not_false, ↓oLe_sign]
      refine ⟨.inr ⟨by decide, by decide⟩, ?_⟩
      have e : ((num pre : Nat) : Int) * 128 + (c : Int) = ((num (pre ++ [c]) : Nat) : Int) := by
        unfold num
        rw [List.foldl_append]
        simp
      rw [e]
      exact hk _ ⟨pre ++ [c], pst, _, by rw [e1]; simp, rfl, rfl⟩
  · rintro ρ ⟨pre, pst, y, e1, e2, rfl⟩
    have : pst = [] := by
      cases pst with
      | nil => rfl
      | cons _ _ => cases e2
    subst this
    rw [List.append_nil] at e1
    subst e1
    simp only [↓dSeq, ↓dNext, ↓dBreak, ↓dCont, ↓dNever, ↓dRet, ↓dRetN, ↓dDrop, ↓dSet, ↓dIf, ↓dAug, ↓dAsg, ↓dPar, ↓dVar, ↓dMove, ↓dC, ↓dFz, ↓dUp, ↓dNil, ↓dCons, ↓dTup, ↓dLst, ↓dBin, ↓dUn, ↓dChain, ↓dTest, ↓dAnd, ↓dOr, ↓dNot, ↓dAndV, ↓dOrV, ↓dNotV, ↓dIfE, ↓dgName, ↓dgNil, ↓dgCons, ↓dgTup, ↓dIt, ↓dRng1, ↓dRng2, ↓dZip, ↓dEnum, ↓u_for, ↓u_lc, ↓dYes, ↓u_call, ↓u_callF, ↓u_callIo, ↓dCB, ↓dCBF, ↓dBinS, ↓dLenS, ↓dSl, ↓dSlS, ↓dNo, ↓dPt, ↓dStL, ↓dApp, ↓dExt, ↓dJoin, ↓dRg1, ↓dRg2, ↓dTupRg, ↓dLstRg, ↓oSub, ↓oMulI, ↓oMul, ↓oFdiv, ↓oMod, ↓oPow, ↓oShr, ↓oXor, ↓oNeg, ↓oAdd, ↓oAug, ↓oLt, ↓oLe, ↓oGt, ↓oGe, ↓oI, ↓oIx, ↓oLen, ↓oInt, ↓oOrd, ↓oAbs, ↓oStL, ↓oIn, ↓oNin, ↓oInB, ↓isi_int, ↓isi_int_bl, ↓isi_int_str, ↓isi_int_tup, ↓isi_int_lst, ↓isi_str, ↓isi_str_int, ↓isi_tup, ↓isi_tup_int, ↓isi_tup_str, ↓isi_tup_lst, ↓isi_lst, ↓isi_lst_tup, ↓isi_lst_int, ↓isi_lst_str, ↓cv, ↓Cell.val, ↓Cell.up, ↓Cell.own, ↓lenD, ↓itemsOf, List.getElem?_cons_zero, List.getElem?_cons_succ, List.set_cons_zero, List.set_cons_succ, Option.bind_some, Option.isSome_some, List.length_cons, List.length_nil, true_and, and_true, ↓ixN_lit, ↓atI_lit, ↓reduceIte, Nat.reduceAdd, Nat.reduceLT, Nat.reduceSub, Nat.zero_add, Nat.reduceLeDiff, Nat.lt_add_one, Nat.zero_lt_succ, ↓oEq_int, ↓oNe_int, ↓oEq_str, ↓oNe_str, ↓oEq_bl, ↓oNe_bl, decide_eq_true_eq, Bool.false_eq_true, ↓u_while, ↓ownAt, List.all_cons, List.all_nil, Bool.and_true, List.getD_cons_zero, List.getD_cons_succ, Bool.not_false, ↓oLe_sign]
    exact ⟨rfl, post _ _ ⟨rfl, rfl⟩⟩
/-- how many bits at the end are zero -/
def ctz (u : Nat) : Nat := if h : u % 2 = 0 ∧ 0 < u then ctz (u / 2) + 1 else 0
termination_by u
decreasing_by omega
theorem ctz_even {u : Nat} (h : u % 2 = 0) (h0 : 0 < u) : ctz u = ctz (u / 2) + 1 := by
  rw [ctz, dif_pos ⟨h, h0⟩]
theorem ctz_odd {u : Nat} (h : ¬ u % 2 = 0) : ctz u = 0 := by
  rw [ctz, dif_neg fun z => h z.1]
theorem ctz_bit : ∀ (u : Nat), 0 < u → u.testBit (ctz u) = true := by
  intro u
  induction u using Nat.strongRecOn with
  | _ u ih =>
    intro h0
    by_cases h : u % 2 = 0
    · rw [ctz_even h h0, Nat.testBit_succ]
      exact ih (u / 2) (by omega) (by omega)
    · rw [ctz_odd h, Nat.testBit_zero]
      simp; omega
theorem xor_pos {a b : Nat} (h : a ≠ b) : 0 < a ^^^ b := by
  rcases Nat.eq_zero_or_pos (a ^^^ b) with z | z
  · refine absurd (Nat.eq_of_testBit_eq fun i => ?_) h
    have q := congrArg (·.testBit i) z
    simp only [Nat.testBit_xor, Nat.zero_testBit] at q
    cases h1 : a.testBit i <;> cases h2 : b.testBit i <;> rw [h1, h2] at q <;> first | rfl | cases q
  · exact z
def low (a b : Nat) : Nat := ctz (a ^^^ b)
theorem low_bit {a b : Nat} (h : a ≠ b) : a.testBit (low a b) ≠ b.testBit (low a b) := by
  have h0 : 0 < a ^^^ b := xor_pos h
  have q := ctz_bit _ h0
  rw [Nat.testBit_xor] at q
  intro e
  unfold low at e
  rw [e] at q
  simp at q
def S_lowest_unlike : FnSpec := fnSpec 2 false (fun x : Nat × Nat => [.int (x.1 : Nat), .int (x.2 : Nat)]) (fun x => x.1 ≠ x.2) fun x => .int (low x.1 x.2 : Nat)
/-- lowest_unlike: slots 0 one, 1 other, 2 unlike, 3 place -/
def D_lowest_unlike : DTS := (dSeq (dSet 2 (dUp (dBin oXor (dVar 0) (dVar 1)))) (dSeq (dSet 3 (dUp (dC (.int 0)))) (dSeq (dWhile (dTest (dBin oEq (dBin oMod (dVar 2) (dC (.int 2))) (dC (.int 0)))) (dSeq (dSet 2 (dUp (dBin oFdiv (dVar 2) (dC (.int 2))))) (dAug 3 oAug (dC (.int 1))))) (dRet (dUp (dVar 3))))))
theorem sem_lowest_unlike : ∀ ds Kd, S_lowest_unlike.ds ds Kd → D_lowest_unlike (endsOf S_lowest_unlike Kd) (env0 4 [false, false] ds) := by
  rintro ds Kd ⟨⟨a, b⟩, rfl, hne, post⟩
  simp only at hne post
  show D_lowest_unlike (endsOf S_lowest_unlike Kd) [.fz (.int (a : Nat)), .fz (.int (b : Nat)), .un, .un]
  have ex : Builtin.bitXor (a : Int) (b : Int) = ((a ^^^ b : Nat) : Int) := by
    rw [Bits.bitXor_pp (by omega) (by omega)]
    simp
  have h0 : 0 < a ^^^ b := xor_pos hne
  simp only [↓D_lowest_unlike, ↓dSeq, ↓dNext, ↓dBreak, ↓dCont, ↓dNever, ↓dRet, ↓dRetN, ↓dDrop, ↓dSet, ↓dIf, ↓dAug, ↓dAsg, ↓dPar, ↓dVar, ↓dMove, ↓dC, ↓dFz, ↓dUp, ↓dNil, ↓dCons, ↓dTup, ↓dLst, ↓dBin, ↓dUn, ↓dChain, ↓dTest, ↓dAnd, ↓dOr, ↓dNot, ↓dAndV, ↓dOrV, ↓dNotV, ↓dIfE, ↓dgName, ↓dgNil, ↓dgCons, ↓dgTup, ↓dIt, ↓dRng1, ↓dRng2, ↓dZip, ↓dEnum, ↓u_for, ↓u_lc, ↓dYes, ↓u_call, ↓u_callF, ↓u_callIo, ↓dCB, ↓dCBF, ↓dBinS, ↓dLenS, ↓dSl, ↓dSlS, ↓dNo, ↓dPt, ↓dStL, ↓dApp, ↓dExt, ↓dJoin, ↓dRg1, ↓dRg2, ↓dTupRg, ↓dLstRg, ↓oSub, ↓oMulI, ↓oMul, ↓oFdiv, ↓oMod, ↓oPow, ↓oShr, ↓oXor, ↓oNeg, ↓oAdd, ↓oAug, ↓oLt, ↓oLe, ↓oGt, ↓oGe, ↓oI, ↓oIx, ↓oLen, ↓oInt, ↓oOrd, ↓oAbs, ↓oStL, ↓oIn, ↓oNin, ↓oInB, ↓isi_int, ↓isi_int_bl, ↓isi_int_str, ↓isi_int_tup, ↓isi_int_lst, ↓isi_str, ↓isi_str_int, ↓isi_tup, ↓isi_tup_int, ↓isi_tup_str, ↓isi_tup_lst, ↓isi_lst, ↓isi_lst_tup, ↓isi_lst_int, ↓isi_lst_str, ↓cv, ↓Cell.val, ↓Cell.up, ↓Cell.own, ↓lenD, ↓itemsOf, List.getElem?_cons_zero, List.getElem?_cons_succ, List.set_cons_zero, List.set_cons_succ, Option.bind_some, Option.isSome_some, List.length_cons, List.length_nil, true_and, and_true, ↓ixN_lit, ↓atI_lit, ↓reduceIte, Nat.reduceAdd, Nat.reduceLT, Nat.reduceSub, Nat.zero_add, Nat.reduceLeDiff, Nat.lt_add_one, Nat.zero_lt_succ, ↓oEq_int, ↓oNe_int, ↓oEq_str, ↓oNe_str, ↓oEq_bl, ↓oNe_bl, decide_eq_true_eq, Bool.false_eq_true, ↓u_while, ↓ownAt, List.all_cons, List.all_nil, Bool.and_true, List.getD_cons_zero, List.getD_cons_succ, Bool.not_false, ↓oLe_sign, ex]
  refine whB_of (dWhile_iff (fun m ρ => ∃ u p, m = u ∧ 0 < u ∧ p + ctz u = low a b ∧ ρ = [.fz (.int (a : Nat)), .fz (.int (b : Nat)), .fz (.int (u : Nat)), .fz (.int (p : Nat))]) (a ^^^ b) ⟨_, 0, rfl, h0, by simp [low], rfl⟩ ?_)
  rintro m ρ ⟨u, p, rfl, hu, hp, rfl⟩
  simp only [↓dSeq, ↓dNext, ↓dBreak, ↓dCont, ↓dNever, ↓dRet, ↓dRetN, ↓dDrop, ↓dSet, ↓dIf, ↓dAug, ↓dAsg, ↓dPar, ↓dVar, ↓dMove, ↓dC, ↓dFz, ↓dUp, ↓dNil, ↓dCons, ↓dTup, ↓dLst, ↓dBin, ↓dUn, ↓dChain, ↓dTest, ↓dAnd, ↓dOr, ↓dNot, ↓dAndV, ↓dOrV, ↓dNotV, ↓dIfE, ↓dgName, ↓dgNil, ↓dgCons, ↓dgTup, ↓dIt, ↓dRng1, ↓dRng2, ↓dZip, ↓dEnum, ↓u_for, ↓u_lc, ↓dYes, ↓u_call, ↓u_callF, ↓u_callIo, ↓dCB, ↓dCBF, ↓dBinS, ↓dLenS, ↓dSl, ↓dSlS, ↓dNo, ↓dPt, ↓dStL, ↓dApp, ↓dExt, ↓dJoin, ↓dRg1, ↓dRg2, ↓dTupRg, ↓dLstRg, ↓oSub, ↓oMulI, ↓oMul, ↓oFdiv, ↓oMod, ↓oPow, ↓oShr, ↓oXor, ↓oNeg, ↓oAdd, ↓oAug, ↓oLt, ↓oLe, ↓oGt, ↓oGe, ↓oI, ↓oIx, ↓oLen, ↓oInt, ↓oOrd, ↓oAbs, ↓oStL, ↓oIn, ↓oNin, ↓oInB, ↓isi_int, ↓isi_int_bl, ↓isi_int_str, ↓isi_int_tup, ↓isi_int_lst, ↓isi_str, ↓isi_str_int, ↓isi_tup, ↓isi_tup_int, ↓isi_tup_str, ↓isi_tup_lst, ↓isi_lst, ↓isi_lst_tup, ↓isi_lst_int, ↓isi_lst_str, ↓cv, ↓Cell.val, ↓Cell.up, ↓Cell.own, ↓lenD, ↓itemsOf, List.getElem?_cons_zero, List.getElem?_cons_succ, List.set_cons_zero, List.set_cons_succ, Option.bind_some, Option.isSome_some, List.length_cons, List.length_nil, true_and, and_true, ↓ixN_lit, ↓atI_lit, ↓reduceIte, Nat.reduceAdd, Nat.reduceLT, Nat.reduceSub, Nat.zero_add, Nat.reduceLeDiff, Nat.lt_add_one, Nat.zero_lt_succ, ↓oEq_int, ↓oNe_int, ↓oEq_str, ↓oNe_str, ↓oEq_bl, ↓oNe_bl, decide_eq_true_eq, Bool.false_eq_true, ↓u_while, ↓ownAt, List.all_cons, List.all_nil, Bool.and_true, List.getD_cons_zero, List.getD_cons_succ, Bool.not_false, ↓oLe_sign]
  refine ⟨by decide, ?_⟩
  by_cases h : m % 2 = 0
  · rw [if_pos (by omega)]
    refine ⟨cdiv_lit (by decide) (by decide), m / 2, by omega, m / 2, p + 1, rfl, by omega, ?_, ?_⟩
    · rw [ctz_even h hu] at hp
      omega
    · rfl
  · rw [if_neg (by omega)]
    rw [ctz_odd h] at hp
    refine ⟨rfl, post _ _ ⟨?_, rfl⟩⟩
    rw [← hp] <;> rfl
end DL


namespace DL
open PySem PySem.Spec PyProof.Rows L2

/-! ### the coins -/
def coin (a h : Nat) : Nat := 2 * low a h + (h / 2 ^ low a h) % 2
def coinsGo : Nat → List Nat → List Nat
  | _, [] => []
  | a, h :: t => coin a h :: coinsGo h t
def nextL : List Nat → List Nat
  | [] => []
  | r :: rs => r % 2 :: coinsGo r rs
def Unl : List Nat → Prop
  | a :: b :: r => a ≠ b ∧ Unl (b :: r)
  | _ => True
theorem bit_mod (h i : Nat) : (h / 2 ^ i) % 2 = (h.testBit i).toNat := by
  rw [Nat.testBit_eq_decide_div_mod_eq]
  by_cases e : h / 2 ^ i % 2 = 1
  · rw [decide_eq_true e, e] <;> rfl
  · rw [decide_eq_false e]
    have : h / 2 ^ i % 2 = 0 := by omega
    rw [this] <;> rfl
theorem coin_ne {a b c : Nat} (h1 : a ≠ b) (h2 : b ≠ c) : coin a b ≠ coin b c := by
  intro e
  unfold coin at e
  have l1 : b / 2 ^ low a b % 2 < 2 := Nat.mod_lt _ (by decide)
  have l2 : c / 2 ^ low b c % 2 < 2 := Nat.mod_lt _ (by decide)
  have el : low a b = low b c := by omega
  rw [el] at e
  have e2 : b / 2 ^ low b c % 2 = c / 2 ^ low b c % 2 := by omega
  rw [bit_mod, bit_mod] at e2
  have q := low_bit h2
  cases hb : b.testBit (low b c) <;> cases hc : c.testBit (low b c) <;> rw [hb, hc] at e2 q <;> first | exact q rfl | cases e2
theorem coin_ne0 {a b : Nat} (h : a ≠ b) : a % 2 ≠ coin a b := by
  intro e
  unfold coin at e
  have l1 : b / 2 ^ low a b % 2 < 2 := Nat.mod_lt _ (by decide)
  have l0 : low a b = 0 := by omega
  have q := low_bit h
  rw [l0, Nat.pow_zero, Nat.div_one] at e
  rw [l0, Nat.testBit_zero, Nat.testBit_zero] at q
  have : a % 2 = b % 2 := by omega
  rw [this] at q
  exact q rfl
theorem unl_go : ∀ {a : Nat} {t : List Nat}, Unl (a :: t) → Unl (coinsGo a t)
  | _, [], _ => trivial
  | _, [_], _ => trivial
  | _, b :: c :: t, h => ⟨coin_ne h.1 h.2.1, unl_go (a := b) (t := c :: t) h.2⟩
theorem unl_next : ∀ {l : List Nat}, Unl l → Unl (nextL l)
  | [], _ => trivial
  | [_], _ => trivial
  | a :: b :: t, h => ⟨coin_ne0 h.1, unl_go (a := a) (t := b :: t) h⟩
theorem coinsGo_length : ∀ (a : Nat) (t : List Nat), (coinsGo a t).length = t.length
  | _, [] => rfl
  | _, h :: t => by
    show (coinsGo h t).length + 1 = t.length + 1
    rw [coinsGo_length h t]
theorem nextL_length : ∀ l : List Nat, (nextL l).length = l.length
  | [] => rfl
  | r :: rs => by
    show (coinsGo r rs).length + 1 = rs.length + 1
    rw [coinsGo_length r rs]
theorem mod_cast2 (a : Nat) : ((a : Nat) : Int) % 2 = ((a % 2 : Nat) : Int) := by omega
theorem coin_cast (a h : Nat) : 2 * ((low a h : Nat) : Int) + ((h : Nat) : Int) / 2 ^ ((low a h : Nat) : Int).toNat % 2 = ((coin a h : Nat) : Int) := by
  unfold coin
  rw [Int.toNat_natCast]
  have e : ((2 : Int) ^ low a h) = ((2 ^ low a h : Nat) : Int) := by simp
  rw [e, ← Int.natCast_ediv]
  omega
def S_next_coins : FnSpec := fnSpec 1 true (fun l : List Nat => [.lst (il l)]) (fun l => l ≠ [] ∧ Unl l ∧ l.length ≤ 1000000) fun l => .lst (il (nextL l))
/-- next_coins: slots 0 row, 1 found, 2 ahead, 3 here, 4 place -/
def D_next_coins : DTS := (dSeq (dSet 1 (dLst (dCons (dBin oMod (dBinS 0 oIx (dC (.int 0))) (dC (.int 2))) dNil))) (dSeq (dFor (dZip (dCons (dVar 0) (dCons (dSlS 0 (dPt (dC (.int 1))) dNo) dNil))) (dgTup 2 (dgCons (dgName 2) (dgCons (dgName 3) dgNil))) (dSeq (dSet 4 (dUp (dCall S_lowest_unlike (dCons (dVar 2) (dCons (dVar 3) dNil))))) (dApp 1 (dBin oAdd (dBin oMul (dC (.int 2)) (dVar 4)) (dBin oMod (dBin oShr (dVar 3) (dVar 4)) (dC (.int 2))))))) (dRet (dMove 1))))
theorem sem_next_coins : ∀ ds Kd, S_next_coins.ds ds Kd → D_next_coins (endsOf S_next_coins Kd) (env0 5 [false] ds) := by
  rintro ds Kd ⟨l, rfl, ⟨hn, hu, hz⟩, post⟩
  obtain ⟨r, rs, rfl⟩ : ∃ r rs, l = r :: rs := by
    cases l with
    | nil => exact absurd rfl hn
    | cons r rs => exact ⟨r, rs, rfl⟩
  show D_next_coins (endsOf S_next_coins Kd) [.fz (.lst (il (r :: rs))), .un, .un, .un, .un]
  have e0 : (il (r :: rs))[0]? = some (.int (r : Nat)) := rfl
  have e1 : cutG (il (r :: rs)) (some 1) none = il rs := cutG_from (il (r :: rs)) 1
  simp only [↓D_next_coins, ↓dSeq, ↓dNext, ↓dBreak, ↓dCont, ↓dNever, ↓dRet, ↓dRetN, ↓dDrop, ↓dSet, ↓dIf, ↓dAug, ↓dAsg, ↓dPar, ↓dVar, ↓dMove, ↓dC, ↓dFz, ↓dUp, ↓dNil, ↓dCons, ↓dTup, ↓dLst, ↓dBin, ↓dUn, ↓dChain, ↓dTest, ↓dAnd, ↓dOr, ↓dNot, ↓dAndV, ↓dOrV, ↓dNotV, ↓dIfE, ↓dgName, ↓dgNil, ↓dgCons, ↓dgTup, ↓dIt, ↓dRng1, ↓dRng2, ↓dZip, ↓dEnum, ↓u_for, ↓u_lc, ↓dYes, ↓u_call, ↓u_callF, ↓u_callIo, ↓dCB, ↓dCBF, ↓dBinS, ↓dLenS, ↓dSl, ↓dSlS, ↓dNo, ↓dPt, ↓dStL, ↓dApp, ↓dExt, ↓dJoin, ↓dRg1, ↓dRg2, ↓dTupRg, ↓dLstRg, ↓oSub, ↓oMulI, ↓oMul, ↓oFdiv, ↓oMod, ↓oPow, ↓oShr, ↓oXor, ↓oNeg, ↓oAdd, ↓oAug, ↓oLt, ↓oLe, ↓oGt, ↓oGe, ↓oI, ↓oIx, ↓oLen, ↓oInt, ↓oOrd, ↓oAbs, ↓oStL, ↓oIn, ↓oNin, ↓oInB, ↓isi_int, ↓isi_int_bl, ↓isi_int_str, ↓isi_int_tup, ↓isi_int_lst, ↓isi_str, ↓isi_str_int, ↓isi_tup, ↓isi_tup_int, ↓isi_tup_str, ↓isi_tup_lst, ↓isi_lst, ↓isi_lst_tup, ↓isi_lst_int, ↓isi_lst_str, ↓cv, ↓Cell.val, ↓Cell.up, ↓Cell.own, ↓lenD, ↓itemsOf, List.getElem?_cons_zero, List.getElem?_cons_succ, List.set_cons_zero, List.set_cons_succ, Option.bind_some, Option.isSome_some, List.length_cons, List.length_nil, true_and, and_true, ↓ixN_lit, ↓atI_lit, ↓reduceIte, Nat.reduceAdd, Nat.reduceLT, Nat.reduceSub, Nat.zero_add, Nat.reduceLeDiff, Nat.lt_add_one, Nat.zero_lt_succ, ↓oEq_int, ↓oNe_int, ↓oEq_str, ↓oNe_str, ↓oEq_bl, ↓oNe_bl, decide_eq_true_eq, Bool.false_eq_true, ↓u_while, ↓ownAt, List.all_cons, List.all_nil, Bool.and_true, List.getD_cons_zero, List.getD_cons_succ, Bool.not_false, ↓oLe_sign, e0, oSl, e1]
  refine ⟨by decide, by show 1 ≤ 16777216; decide, forB_of (forW_inv (fun rest ρ => ∃ a t acc x2 x3 x4, rest = pairsD (il (a :: t)) (il t) ∧ Unl (a :: t) ∧ acc ++ coinsGo a t = nextL (r :: rs) ∧ ρ = [.fz (.lst (il (r :: rs))), .ow (.lst (il acc)), x2, x3, x4]) ?_ ?_ _ _ ⟨r, rs, [r % 2], .un, .un, .un, rfl, hu, rfl, ?_⟩)⟩
  · rintro x xs ρ k ⟨a, t, acc, x2, x3, x4, e1, hu2, e2, rfl⟩ hk
    cases t with
    | nil => cases e1
    | cons h t =>
      cases e1
      simp only [↓dSeq, ↓dNext, ↓dBreak, ↓dCont, ↓dNever, ↓dRet, ↓dRetN, ↓dDrop, ↓dSet, ↓dIf, ↓dAug, ↓dAsg, ↓dPar, ↓dVar, ↓dMove, ↓dC, ↓dFz, ↓dUp, ↓dNil, ↓dCons, ↓dTup, ↓dLst, ↓dBin, ↓dUn, ↓dChain, ↓dTest, ↓dAnd, ↓dOr, ↓dNot, ↓dAndV, ↓dOrV, ↓dNotV, ↓dIfE, ↓dgName, ↓dgNil, ↓dgCons, ↓dgTup, ↓dIt, ↓dRng1, ↓dRng2, ↓dZip, ↓dEnum, ↓u_for, ↓u_lc, ↓dYes, ↓u_call, ↓u_callF, ↓u_callIo, ↓dCB, ↓dCBF, ↓dBinS, ↓dLenS, ↓dSl, ↓dSlS, ↓dNo, ↓dPt, ↓dStL, ↓dApp, ↓dExt, ↓dJoin, ↓dRg1, ↓dRg2, ↓dTupRg, ↓dLstRg, ↓oSub, ↓oMulI, ↓oMul, ↓oFdiv, ↓oMod, ↓oPow, ↓oShr, ↓oXor, ↓oNeg, ↓oAdd, ↓oAug, ↓oLt, ↓oLe, ↓oGt, ↓oGe, ↓oI, ↓oIx, ↓oLen, ↓oInt, ↓oOrd, ↓oAbs, ↓oStL, ↓oIn, ↓oNin, ↓oInB, ↓isi_int, ↓isi_int_bl, ↓isi_int_str, ↓isi_int_tup, ↓isi_int_lst, ↓isi_str, ↓isi_str_int, ↓isi_tup, ↓isi_tup_int, ↓isi_tup_str, ↓isi_tup_lst, ↓isi_lst, ↓isi_lst_tup, ↓isi_lst_int, ↓isi_lst_str, ↓cv, ↓Cell.val, ↓Cell.up, ↓Cell.own, ↓lenD, ↓itemsOf, List.getElem?_cons_zero, List.getElem?_cons_succ, List.set_cons_zero, List.set_cons_succ, Option.bind_some, Option.isSome_some, List.length_cons, List.length_nil, true_and, and_true, ↓ixN_lit, ↓atI_lit, ↓reduceIte, Nat.reduceAdd, Nat.reduceLT, Nat.reduceSub, Nat.zero_add, Nat.reduceLeDiff, Nat.lt_add_one, Nat.zero_lt_succ, ↓oEq_int, ↓oNe_int, ↓oEq_str, ↓oNe_str, ↓oEq_bl, ↓oNe_bl, decide_eq_true_eq, Bool.false_eq_true, ↓u_while, ↓ownAt, List.all_cons, List.all_nil, Bool.and_true, List.getD_cons_zero, List.getD_cons_succ, Bool.not_false, ↓oLe_sign]
      refine ⟨rfl, onF (a, h) rfl hu2.1 ?_⟩
      simp only [↓dSeq, ↓dNext, ↓dBreak, ↓dCont, ↓dNever, ↓dRet, ↓dRetN, ↓dDrop, ↓dSet, ↓dIf, ↓dAug, ↓dAsg, ↓dPar, ↓dVar, ↓dMove, ↓dC, ↓dFz, ↓dUp, ↓dNil, ↓dCons, ↓dTup, ↓dLst, ↓dBin, ↓dUn, ↓dChain, ↓dTest, ↓dAnd, ↓dOr, ↓dNot, ↓dAndV, ↓dOrV, ↓dNotV, ↓dIfE, ↓dgName, ↓dgNil, ↓dgCons, ↓dgTup, ↓dIt, ↓dRng1, ↓dRng2, ↓dZip, ↓dEnum, ↓u_for, ↓u_lc, ↓dYes, ↓u_call, ↓u_callF, ↓u_callIo, ↓dCB, ↓dCBF, ↓dBinS, ↓dLenS, ↓dSl, ↓dSlS, ↓dNo, ↓dPt, ↓dStL, ↓dApp, ↓dExt, ↓dJoin, ↓dRg1, ↓dRg2, ↓dTupRg, ↓dLstRg, ↓oSub, ↓oMulI, ↓oMul, ↓oFdiv, ↓oMod, ↓oPow, ↓oShr, ↓oXor, ↓oNeg, ↓oAdd, ↓oAug, ↓oLt, ↓oLe, ↓oGt, ↓oGe, ↓oI, ↓oIx, ↓oLen, ↓oInt, ↓oOrd, ↓oAbs, ↓oStL, ↓oIn, ↓oNin, ↓oInB, ↓isi_int, ↓isi_int_bl, ↓isi_int_str, ↓isi_int_tup, ↓isi_int_lst, ↓isi_str, ↓isi_str_int, ↓isi_tup, ↓isi_tup_int, ↓isi_tup_str, ↓isi_tup_lst, ↓isi_lst, ↓isi_lst_tup, ↓isi_lst_int, ↓isi_lst_str, ↓cv, ↓Cell.val, ↓Cell.up, ↓Cell.own, ↓lenD, ↓itemsOf, List.getElem?_cons_zero, List.getElem?_cons_succ, List.set_cons_zero, List.set_cons_succ, Option.bind_some, Option.isSome_some, List.length_cons, List.length_nil, true_and, and_true, ↓ixN_lit, ↓atI_lit, ↓reduceIte, Nat.reduceAdd, Nat.reduceLT, Nat.reduceSub, Nat.zero_add, Nat.reduceLeDiff, Nat.lt_add_one, Nat.zero_lt_succ, ↓oEq_int, ↓oNe_int, ↓oEq_str, ↓oNe_str, ↓oEq_bl, ↓oNe_bl, decide_eq_true_eq, Bool.false_eq_true, ↓u_while, ↓ownAt, List.all_cons, List.all_nil, Bool.and_true, List.getD_cons_zero, List.getD_cons_succ, Bool.not_false, ↓oLe_sign]
      have hl := congrArg List.length e2
      rw [List.length_append, coinsGo_length, nextL_length, List.length_cons] at hl
      refine ⟨⟨_, rfl⟩, .inl ⟨by decide, by decide⟩, by omega, by decide, by rw [il_length]; show acc.length < 16777216; omega, ?_⟩
      have ea : il acc ++ [D.int (2 * ((low a h : Nat) : Int) + ((h : Nat) : Int) / 2 ^ ((low a h : Nat) : Int).toNat % 2)] = il (acc ++ [coin a h]) := by
        rw [coin_cast]
        simp [il]
      rw [ea]
      exact hk _ ⟨h, t, acc ++ [coin a h], _, _, _, rfl, hu2.2, by rw [← e2]; simp [coinsGo], rfl⟩
  · rintro ρ ⟨a, t, acc, x2, x3, x4, e1, hu2, e2, rfl⟩
    have : t = [] := by
      cases t with
      | nil => rfl
      | cons _ _ => cases e1
    subst this
    have e3 : acc = nextL (r :: rs) := by rw [← e2]; simp [coinsGo]
    rw [e3]
    simp only [↓dSeq, ↓dNext, ↓dBreak, ↓dCont, ↓dNever, ↓dRet, ↓dRetN, ↓dDrop, ↓dSet, ↓dIf, ↓dAug, ↓dAsg, ↓dPar, ↓dVar, ↓dMove, ↓dC, ↓dFz, ↓dUp, ↓dNil, ↓dCons, ↓dTup, ↓dLst, ↓dBin, ↓dUn, ↓dChain, ↓dTest, ↓dAnd, ↓dOr, ↓dNot, ↓dAndV, ↓dOrV, ↓dNotV, ↓dIfE, ↓dgName, ↓dgNil, ↓dgCons, ↓dgTup, ↓dIt, ↓dRng1, ↓dRng2, ↓dZip, ↓dEnum, ↓u_for, ↓u_lc, ↓dYes, ↓u_call, ↓u_callF, ↓u_callIo, ↓dCB, ↓dCBF, ↓dBinS, ↓dLenS, ↓dSl, ↓dSlS, ↓dNo, ↓dPt, ↓dStL, ↓dApp, ↓dExt, ↓dJoin, ↓dRg1, ↓dRg2, ↓dTupRg, ↓dLstRg, ↓oSub, ↓oMulI, ↓oMul, ↓oFdiv, ↓oMod, ↓oPow, ↓oShr, ↓oXor, ↓oNeg, ↓oAdd, ↓oAug, ↓oLt, ↓oLe, ↓oGt, ↓oGe, ↓oI, ↓oIx, ↓oLen, ↓oInt, ↓oOrd, ↓oAbs, ↓oStL, ↓oIn, ↓oNin, ↓oInB, ↓isi_int, ↓isi_int_bl, ↓isi_int_str, ↓isi_int_tup, ↓isi_int_lst, ↓isi_str, ↓isi_str_int, ↓isi_tup, ↓isi_tup_int, ↓isi_tup_str, ↓isi_tup_lst, ↓isi_lst, ↓isi_lst_tup, ↓isi_lst_int, ↓isi_lst_str, ↓cv, ↓Cell.val, ↓Cell.up, ↓Cell.own, ↓lenD, ↓itemsOf, List.getElem?_cons_zero, List.getElem?_cons_succ, List.set_cons_zero, List.set_cons_succ, Option.bind_some, Option.isSome_some, List.length_cons, List.length_nil, true_and, and_true, ↓ixN_lit, ↓atI_lit, ↓reduceIte, Nat.reduceAdd, Nat.reduceLT, Nat.reduceSub, Nat.zero_add, Nat.reduceLeDiff, Nat.lt_add_one, Nat.zero_lt_succ, ↓oEq_int, ↓oNe_int, ↓oEq_str, ↓oNe_str, ↓oEq_bl, ↓oNe_bl, decide_eq_true_eq, Bool.false_eq_true, ↓u_while, ↓ownAt, List.all_cons, List.all_nil, Bool.and_true, List.getD_cons_zero, List.getD_cons_succ, Bool.not_false, ↓oLe_sign]
    exact post _ _ ⟨rfl, rfl⟩
  · rw [mod_cast2] <;> rfl
def iterL (n : Nat) (l : List Nat) : List Nat := match n with
  | 0 => l
  | n + 1 => nextL (iterL n l)
theorem iterL_length (n : Nat) (l : List Nat) : (iterL n l).length = l.length := by
  induction n with
  | zero => rfl
  | succ n ih => show (nextL (iterL n l)).length = _; rw [nextL_length, ih]
theorem iterL_unl (n : Nat) {l : List Nat} (h : Unl l) : Unl (iterL n l) := by
  induction n with
  | zero => exact h
  | succ n ih => exact unl_next ih
def coinsL (xs : List (List Nat)) : List Nat := iterL 5 (xs.map num)
def S_coins_of : FnSpec := fnSpec 1 true (fun l : List (List Nat) => [.tup (sl l)]) (fun l => l ≠ [] ∧ Unl (l.map num) ∧ l.length ≤ 1000000) fun l => .lst (il (coinsL l))
/-- coins_of: slots 0 names, 1 found, 2 turn, 3 name -/
def D_coins_of : DTS := (dSeq (dSet 1 (dLc (dIt (dVar 0)) (dgName 3) dYes (dCall S_number_of_name (dCons (dVar 3) dNil)) [3])) (dSeq (dFor (dRng1 (dCons (dC (.int 5)) dNil)) (dgName 2) (dSet 1 (dCallF S_next_coins (dCons (dVar 1) dNil)))) (dRet (dMove 1))))
theorem sem_coins_of : ∀ ds Kd, S_coins_of.ds ds Kd → D_coins_of (endsOf S_coins_of Kd) (env0 4 [false] ds) := by
  rintro ds Kd ⟨l, rfl, ⟨hn, hu, hz⟩, post⟩
  show D_coins_of (endsOf S_coins_of Kd) [.fz (.tup (sl l)), .un, .un, .un]
  simp only [↓D_coins_of, ↓dSeq, ↓dNext, ↓dBreak, ↓dCont, ↓dNever, ↓dRet, ↓dRetN, ↓dDrop, ↓dSet, ↓dIf, ↓dAug, ↓dAsg, ↓dPar, ↓dVar, ↓dMove, ↓dC, ↓dFz, ↓dUp, ↓dNil, ↓dCons, ↓dTup, ↓dLst, ↓dBin, ↓dUn, ↓dChain, ↓dTest, ↓dAnd, ↓dOr, ↓dNot, ↓dAndV, ↓dOrV, ↓dNotV, ↓dIfE, ↓dgName, ↓dgNil, ↓dgCons, ↓dgTup, ↓dIt, ↓dRng1, ↓dRng2, ↓dZip, ↓dEnum, ↓u_for, ↓u_lc, ↓dYes, ↓u_call, ↓u_callF, ↓u_callIo, ↓dCB, ↓dCBF, ↓dBinS, ↓dLenS, ↓dSl, ↓dSlS, ↓dNo, ↓dPt, ↓dStL, ↓dApp, ↓dExt, ↓dJoin, ↓dRg1, ↓dRg2, ↓dTupRg, ↓dLstRg, ↓oSub, ↓oMulI, ↓oMul, ↓oFdiv, ↓oMod, ↓oPow, ↓oShr, ↓oXor, ↓oNeg, ↓oAdd, ↓oAug, ↓oLt, ↓oLe, ↓oGt, ↓oGe, ↓oI, ↓oIx, ↓oLen, ↓oInt, ↓oOrd, ↓oAbs, ↓oStL, ↓oIn, ↓oNin, ↓oInB, ↓isi_int, ↓isi_int_bl, ↓isi_int_str, ↓isi_int_tup, ↓isi_int_lst, ↓isi_str, ↓isi_str_int, ↓isi_tup, ↓isi_tup_int, ↓isi_tup_str, ↓isi_tup_lst, ↓isi_lst, ↓isi_lst_tup, ↓isi_lst_int, ↓isi_lst_str, ↓cv, ↓Cell.val, ↓Cell.up, ↓Cell.own, ↓lenD, ↓itemsOf, List.getElem?_cons_zero, List.getElem?_cons_succ, List.set_cons_zero, List.set_cons_succ, Option.bind_some, Option.isSome_some, List.length_cons, List.length_nil, true_and, and_true, ↓ixN_lit, ↓atI_lit, ↓reduceIte, Nat.reduceAdd, Nat.reduceLT, Nat.reduceSub, Nat.zero_add, Nat.reduceLeDiff, Nat.lt_add_one, Nat.zero_lt_succ, ↓oEq_int, ↓oNe_int, ↓oEq_str, ↓oNe_str, ↓oEq_bl, ↓oNe_bl, decide_eq_true_eq, Bool.false_eq_true, ↓u_while, ↓ownAt, List.all_cons, List.all_nil, Bool.and_true, List.getD_cons_zero, List.getD_cons_succ, Bool.not_false, ↓oLe_sign]
  refine lcB_of (lcW_map _ (fun d => match d with | .str z => .int (num z : Nat) | _ => .non) _ (fun x hx kT hT => ?_) fun ρ' hw => ?_)
  · obtain ⟨c, hc, rfl⟩ := List.mem_map.mp hx
    simp only [wipeE, ↓dSeq, ↓dNext, ↓dBreak, ↓dCont, ↓dNever, ↓dRet, ↓dRetN, ↓dDrop, ↓dSet, ↓dIf, ↓dAug, ↓dAsg, ↓dPar, ↓dVar, ↓dMove, ↓dC, ↓dFz, ↓dUp, ↓dNil, ↓dCons, ↓dTup, ↓dLst, ↓dBin, ↓dUn, ↓dChain, ↓dTest, ↓dAnd, ↓dOr, ↓dNot, ↓dAndV, ↓dOrV, ↓dNotV, ↓dIfE, ↓dgName, ↓dgNil, ↓dgCons, ↓dgTup, ↓dIt, ↓dRng1, ↓dRng2, ↓dZip, ↓dEnum, ↓u_for, ↓u_lc, ↓dYes, ↓u_call, ↓u_callF, ↓u_callIo, ↓dCB, ↓dCBF, ↓dBinS, ↓dLenS, ↓dSl, ↓dSlS, ↓dNo, ↓dPt, ↓dStL, ↓dApp, ↓dExt, ↓dJoin, ↓dRg1, ↓dRg2, ↓dTupRg, ↓dLstRg, ↓oSub, ↓oMulI, ↓oMul, ↓oFdiv, ↓oMod, ↓oPow, ↓oShr, ↓oXor, ↓oNeg, ↓oAdd, ↓oAug, ↓oLt, ↓oLe, ↓oGt, ↓oGe, ↓oI, ↓oIx, ↓oLen, ↓oInt, ↓oOrd, ↓oAbs, ↓oStL, ↓oIn, ↓oNin, ↓oInB, ↓isi_int, ↓isi_int_bl, ↓isi_int_str, ↓isi_int_tup, ↓isi_int_lst, ↓isi_str, ↓isi_str_int, ↓isi_tup, ↓isi_tup_int, ↓isi_tup_str, ↓isi_tup_lst, ↓isi_lst, ↓isi_lst_tup, ↓isi_lst_int, ↓isi_lst_str, ↓cv, ↓Cell.val, ↓Cell.up, ↓Cell.own, ↓lenD, ↓itemsOf, List.getElem?_cons_zero, List.getElem?_cons_succ, List.set_cons_zero, List.set_cons_succ, Option.bind_some, Option.isSome_some, List.length_cons, List.length_nil, true_and, and_true, ↓ixN_lit, ↓atI_lit, ↓reduceIte, Nat.reduceAdd, Nat.reduceLT, Nat.reduceSub, Nat.zero_add, Nat.reduceLeDiff, Nat.lt_add_one, Nat.zero_lt_succ, ↓oEq_int, ↓oNe_int, ↓oEq_str, ↓oNe_str, ↓oEq_bl, ↓oNe_bl, decide_eq_true_eq, Bool.false_eq_true, ↓u_while, ↓ownAt, List.all_cons, List.all_nil, Bool.and_true, List.getD_cons_zero, List.getD_cons_succ, Bool.not_false, ↓oLe_sign]
    exact ⟨rfl, onF c rfl trivial (hT _ rfl)⟩
  · have em : ((sl l).map fun d => match d with | .str z => D.int (num z : Nat) | _ => .non) = il (l.map num) := by
      unfold sl il
      rw [List.map_map, List.map_map]
      rfl
    simp only [rest_of_wipe hw, ↓dSeq, ↓dNext, ↓dBreak, ↓dCont, ↓dNever, ↓dRet, ↓dRetN, ↓dDrop, ↓dSet, ↓dIf, ↓dAug, ↓dAsg, ↓dPar, ↓dVar, ↓dMove, ↓dC, ↓dFz, ↓dUp, ↓dNil, ↓dCons, ↓dTup, ↓dLst, ↓dBin, ↓dUn, ↓dChain, ↓dTest, ↓dAnd, ↓dOr, ↓dNot, ↓dAndV, ↓dOrV, ↓dNotV, ↓dIfE, ↓dgName, ↓dgNil, ↓dgCons, ↓dgTup, ↓dIt, ↓dRng1, ↓dRng2, ↓dZip, ↓dEnum, ↓u_for, ↓u_lc, ↓dYes, ↓u_call, ↓u_callF, ↓u_callIo, ↓dCB, ↓dCBF, ↓dBinS, ↓dLenS, ↓dSl, ↓dSlS, ↓dNo, ↓dPt, ↓dStL, ↓dApp, ↓dExt, ↓dJoin, ↓dRg1, ↓dRg2, ↓dTupRg, ↓dLstRg, ↓oSub, ↓oMulI, ↓oMul, ↓oFdiv, ↓oMod, ↓oPow, ↓oShr, ↓oXor, ↓oNeg, ↓oAdd, ↓oAug, ↓oLt, ↓oLe, ↓oGt, ↓oGe, ↓oI, ↓oIx, ↓oLen, ↓oInt, ↓oOrd, ↓oAbs, ↓oStL, ↓oIn, ↓oNin, ↓oInB, ↓isi_int, ↓isi_int_bl, ↓isi_int_str, ↓isi_int_tup, ↓isi_int_lst, ↓isi_str, ↓isi_str_int, ↓isi_tup, ↓isi_tup_int, ↓isi_tup_str, ↓isi_tup_lst, ↓isi_lst, ↓isi_lst_tup, ↓isi_lst_int, ↓isi_lst_str, ↓cv, ↓Cell.val, ↓Cell.up, ↓Cell.own, ↓lenD, ↓itemsOf, List.getElem?_cons_zero, List.getElem?_cons_succ, List.set_cons_zero, List.set_cons_succ, Option.bind_some, Option.isSome_some, List.length_cons, List.length_nil, true_and, and_true, ↓ixN_lit, ↓atI_lit, ↓reduceIte, Nat.reduceAdd, Nat.reduceLT, Nat.reduceSub, Nat.zero_add, Nat.reduceLeDiff, Nat.lt_add_one, Nat.zero_lt_succ, ↓oEq_int, ↓oNe_int, ↓oEq_str, ↓oNe_str, ↓oEq_bl, ↓oNe_bl, decide_eq_true_eq, Bool.false_eq_true, ↓u_while, ↓ownAt, List.all_cons, List.all_nil, Bool.and_true, List.getD_cons_zero, List.getD_cons_succ, Bool.not_false, ↓oLe_sign, em]
    refine ⟨by decide, by decide, forB_of (forW_inv (fun rest ρ => ∃ j x, j + rest.length = 5 ∧ ρ = [.fz (.tup (sl l)), .ow (.lst (il (iterL j (l.map num)))), x, .un]) ?_ ?_ _ _ ⟨0, .un, rfl, rfl⟩)⟩
    · rintro x xs ρ k ⟨j, y, hj, rfl⟩ hk
      simp only [↓dSeq, ↓dNext, ↓dBreak, ↓dCont, ↓dNever, ↓dRet, ↓dRetN, ↓dDrop, ↓dSet, ↓dIf, ↓dAug, ↓dAsg, ↓dPar, ↓dVar, ↓dMove, ↓dC, ↓dFz, ↓dUp, ↓dNil, ↓dCons, ↓dTup, ↓dLst, ↓dBin, ↓dUn, ↓dChain, ↓dTest, ↓dAnd, ↓dOr, ↓dNot, ↓dAndV, ↓dOrV, ↓dNotV, ↓dIfE, ↓dgName, ↓dgNil, ↓dgCons, ↓dgTup, ↓dIt, ↓dRng1, ↓dRng2, ↓dZip, ↓dEnum, ↓u_for, ↓u_lc, ↓dYes, ↓u_call, ↓u_callF, ↓u_callIo, ↓dCB, ↓dCBF, ↓dBinS, ↓dLenS, ↓dSl, ↓dSlS, ↓dNo, ↓dPt, ↓dStL, ↓dApp, ↓dExt, ↓dJoin, ↓dRg1, ↓dRg2, ↓dTupRg, ↓dLstRg, ↓oSub, ↓oMulI, ↓oMul, ↓oFdiv, ↓oMod, ↓oPow, ↓oShr, ↓oXor, ↓oNeg, ↓oAdd, ↓oAug, ↓oLt, ↓oLe, ↓oGt, ↓oGe, ↓oI, ↓oIx, ↓oLen, ↓oInt, ↓oOrd, ↓oAbs, ↓oStL, ↓oIn, ↓oNin, ↓oInB, ↓isi_int, ↓isi_int_bl, ↓isi_int_str, ↓isi_int_tup, ↓isi_int_lst, ↓isi_str, ↓isi_str_int, ↓isi_tup, ↓isi_tup_int, ↓isi_tup_str, ↓isi_tup_lst, ↓isi_lst, ↓isi_lst_tup, ↓isi_lst_int, ↓isi_lst_str, ↓cv, ↓Cell.val, ↓Cell.up, ↓Cell.own, ↓lenD, ↓itemsOf, List.getElem?_cons_zero, List.getElem?_cons_succ, List.set_cons_zero, List.set_cons_succ, Option.bind_some, Option.isSome_some, List.length_cons, List.length_nil, true_and, and_true, ↓ixN_lit, ↓atI_lit, ↓reduceIte, Nat.reduceAdd, Nat.reduceLT, Nat.reduceSub, Nat.zero_add, Nat.reduceLeDiff, Nat.lt_add_one, Nat.zero_lt_succ, ↓oEq_int, ↓oNe_int, ↓oEq_str, ↓oNe_str, ↓oEq_bl, ↓oNe_bl, decide_eq_true_eq, Bool.false_eq_true, ↓u_while, ↓ownAt, List.all_cons, List.all_nil, Bool.and_true, List.getD_cons_zero, List.getD_cons_succ, Bool.not_false, ↓oLe_sign]
      refine ⟨rfl, onF (iterL j (l.map num)) rfl ⟨?_, iterL_unl j hu, by rw [iterL_length, List.length_map]; exact hz⟩ ?_⟩
      · intro z
        have := congrArg List.length z
        rw [iterL_length, List.length_map] at this
        exact hn (List.eq_nil_of_length_eq_zero this)
      · simp only [↓dSeq, ↓dNext, ↓dBreak, ↓dCont, ↓dNever, ↓dRet, ↓dRetN, ↓dDrop, ↓dSet, ↓dIf, ↓dAug, ↓dAsg, ↓dPar, ↓dVar, ↓dMove, ↓dC, ↓dFz, ↓dUp, ↓dNil, ↓dCons, ↓dTup, ↓dLst, ↓dBin, ↓dUn, ↓dChain, ↓dTest, ↓dAnd, ↓dOr, ↓dNot, ↓dAndV, ↓dOrV, ↓dNotV, ↓dIfE, ↓dgName, ↓dgNil, ↓dgCons, ↓dgTup, ↓dIt, ↓dRng1, ↓dRng2, ↓dZip, ↓dEnum, ↓u_for, ↓u_lc, ↓dYes, ↓u_call, ↓u_callF, ↓u_callIo, ↓dCB, ↓dCBF, ↓dBinS, ↓dLenS, ↓dSl, ↓dSlS, ↓dNo, ↓dPt, ↓dStL, ↓dApp, ↓dExt, ↓dJoin, ↓dRg1, ↓dRg2, ↓dTupRg, ↓dLstRg, ↓oSub, ↓oMulI, ↓oMul, ↓oFdiv, ↓oMod, ↓oPow, ↓oShr, ↓oXor, ↓oNeg, ↓oAdd, ↓oAug, ↓oLt, ↓oLe, ↓oGt, ↓oGe, ↓oI, ↓oIx, ↓oLen, ↓oInt, ↓oOrd, ↓oAbs, ↓oStL, ↓oIn, ↓oNin, ↓oInB, ↓isi_int, ↓isi_int_bl, ↓isi_int_str, ↓isi_int_tup, ↓isi_int_lst, ↓isi_str, ↓isi_str_int, ↓isi_tup, ↓isi_tup_int, ↓isi_tup_str, ↓isi_tup_lst, ↓isi_lst, ↓isi_lst_tup, ↓isi_lst_int, ↓isi_lst_str, ↓cv, ↓Cell.val, ↓Cell.up, ↓Cell.own, ↓lenD, ↓itemsOf, List.getElem?_cons_zero, List.getElem?_cons_succ, List.set_cons_zero, List.set_cons_succ, Option.bind_some, Option.isSome_some, List.length_cons, List.length_nil, true_and, and_true, ↓ixN_lit, ↓atI_lit, ↓reduceIte, Nat.reduceAdd, Nat.reduceLT, Nat.reduceSub, Nat.zero_add, Nat.reduceLeDiff, Nat.lt_add_one, Nat.zero_lt_succ, ↓oEq_int, ↓oNe_int, ↓oEq_str, ↓oNe_str, ↓oEq_bl, ↓oNe_bl, decide_eq_true_eq, Bool.false_eq_true, ↓u_while, ↓ownAt, List.all_cons, List.all_nil, Bool.and_true, List.getD_cons_zero, List.getD_cons_succ, Bool.not_false, ↓oLe_sign]
        exact hk _ ⟨j + 1, _, by rw [← hj]; simp; omega, rfl⟩
    · rintro ρ ⟨j, y, hj, rfl⟩
      have : j = 5 := by simpa using hj
      subst this
      simp only [↓dSeq, ↓dNext, ↓dBreak, ↓dCont, ↓dNever, ↓dRet, ↓dRetN, ↓dDrop, ↓dSet, ↓dIf, ↓dAug, ↓dAsg, ↓dPar, ↓dVar, ↓dMove, ↓dC, ↓dFz, ↓dUp, ↓dNil, ↓dCons, ↓dTup, ↓dLst, ↓dBin, ↓dUn, ↓dChain, ↓dTest, ↓dAnd, ↓dOr, ↓dNot, ↓dAndV, ↓dOrV, ↓dNotV, ↓dIfE, ↓dgName, ↓dgNil, ↓dgCons, ↓dgTup, ↓dIt, ↓dRng1, ↓dRng2, ↓dZip, ↓dEnum, ↓u_for, ↓u_lc, ↓dYes, ↓u_call, ↓u_callF, ↓u_callIo, ↓dCB, ↓dCBF, ↓dBinS, ↓dLenS, ↓dSl, ↓dSlS, ↓dNo, ↓dPt, ↓dStL, ↓dApp, ↓dExt, ↓dJoin, ↓dRg1, ↓dRg2, ↓dTupRg, ↓dLstRg, ↓oSub, ↓oMulI, ↓oMul, ↓oFdiv, ↓oMod, ↓oPow, ↓oShr, ↓oXor, ↓oNeg, ↓oAdd, ↓oAug, ↓oLt, ↓oLe, ↓oGt, ↓oGe, ↓oI, ↓oIx, ↓oLen, ↓oInt, ↓oOrd, ↓oAbs, ↓oStL, ↓oIn, ↓oNin, ↓oInB, ↓isi_int, ↓isi_int_bl, ↓isi_int_str, ↓isi_int_tup, ↓isi_int_lst, ↓isi_str, ↓isi_str_int, ↓isi_tup, ↓isi_tup_int, ↓isi_tup_str, ↓isi_tup_lst, ↓isi_lst, ↓isi_lst_tup, ↓isi_lst_int, ↓isi_lst_str, ↓cv, ↓Cell.val, ↓Cell.up, ↓Cell.own, ↓lenD, ↓itemsOf, List.getElem?_cons_zero, List.getElem?_cons_succ, List.set_cons_zero, List.set_cons_succ, Option.bind_some, Option.isSome_some, List.length_cons, List.length_nil, true_and, and_true, ↓ixN_lit, ↓atI_lit, ↓reduceIte, Nat.reduceAdd, Nat.reduceLT, Nat.reduceSub, Nat.zero_add, Nat.reduceLeDiff, Nat.lt_add_one, Nat.zero_lt_succ, ↓oEq_int, ↓oNe_int, ↓oEq_str, ↓oNe_str, ↓oEq_bl, ↓oNe_bl, decide_eq_true_eq, Bool.false_eq_true, ↓u_while, ↓ownAt, List.all_cons, List.all_nil, Bool.and_true, List.getD_cons_zero, List.getD_cons_succ, Bool.not_false, ↓oLe_sign]
      exact post _ _ ⟨rfl, rfl⟩
def S_are_names : FnSpec := fnSpec 1 false (fun l : List (List Nat) => [.tup (sl l)]) (fun l => l ≠ [] ∧ ∀ x ∈ l, Signs x ∧ x ≠ []) fun _ => .bl true
/-- are_names: slots 0 thing, 1 name -/
def D_are_names : DTS := (dRet (dUp (dAndV (dUn (oIsi "tuple") (dVar 0)) (dAndV (dBin oGt (dLenS 0) (dC (.int 0))) (dCB oAll (dCons (dFz (dLc (dIt (dVar 0)) (dgName 1) dYes (dCall S_is_word (dCons (dVar 1) dNil)) [1])) dNil))))))
theorem sem_are_names : ∀ ds Kd, S_are_names.ds ds Kd → D_are_names (endsOf S_are_names Kd) (env0 2 [false] ds) := by
  rintro ds Kd ⟨l, rfl, ⟨hn, hl⟩, post⟩
  show D_are_names (endsOf S_are_names Kd) [.fz (.tup (sl l)), .un]
  have e1 : (0 : Int) < ((sl l).length : Int) := by
    have := List.length_pos_iff.mpr hn
    rw [sl_length]; omega
  simp only [↓D_are_names, ↓dSeq, ↓dNext, ↓dBreak, ↓dCont, ↓dNever, ↓dRet, ↓dRetN, ↓dDrop, ↓dSet, ↓dIf, ↓dAug, ↓dAsg, ↓dPar, ↓dVar, ↓dMove, ↓dC, ↓dFz, ↓dUp, ↓dNil, ↓dCons, ↓dTup, ↓dLst, ↓dBin, ↓dUn, ↓dChain, ↓dTest, ↓dAnd, ↓dOr, ↓dNot, ↓dAndV, ↓dOrV, ↓dNotV, ↓dIfE, ↓dgName, ↓dgNil, ↓dgCons, ↓dgTup, ↓dIt, ↓dRng1, ↓dRng2, ↓dZip, ↓dEnum, ↓u_for, ↓u_lc, ↓dYes, ↓u_call, ↓u_callF, ↓u_callIo, ↓dCB, ↓dCBF, ↓dBinS, ↓dLenS, ↓dSl, ↓dSlS, ↓dNo, ↓dPt, ↓dStL, ↓dApp, ↓dExt, ↓dJoin, ↓dRg1, ↓dRg2, ↓dTupRg, ↓dLstRg, ↓oSub, ↓oMulI, ↓oMul, ↓oFdiv, ↓oMod, ↓oPow, ↓oShr, ↓oXor, ↓oNeg, ↓oAdd, ↓oAug, ↓oLt, ↓oLe, ↓oGt, ↓oGe, ↓oI, ↓oIx, ↓oLen, ↓oInt, ↓oOrd, ↓oAbs, ↓oStL, ↓oIn, ↓oNin, ↓oInB, ↓isi_int, ↓isi_int_bl, ↓isi_int_str, ↓isi_int_tup, ↓isi_int_lst, ↓isi_str, ↓isi_str_int, ↓isi_tup, ↓isi_tup_int, ↓isi_tup_str, ↓isi_tup_lst, ↓isi_lst, ↓isi_lst_tup, ↓isi_lst_int, ↓isi_lst_str, ↓cv, ↓Cell.val, ↓Cell.up, ↓Cell.own, ↓lenD, ↓itemsOf, List.getElem?_cons_zero, List.getElem?_cons_succ, List.set_cons_zero, List.set_cons_succ, Option.bind_some, Option.isSome_some, List.length_cons, List.length_nil, true_and, and_true, ↓ixN_lit, ↓atI_lit, ↓reduceIte, Nat.reduceAdd, Nat.reduceLT, Nat.reduceSub, Nat.zero_add, Nat.reduceLeDiff, Nat.lt_add_one, Nat.zero_lt_succ, ↓oEq_int, ↓oNe_int, ↓oEq_str, ↓oNe_str, ↓oEq_bl, ↓oNe_bl, decide_eq_true_eq, Bool.false_eq_true, ↓u_while, ↓ownAt, List.all_cons, List.all_nil, Bool.and_true, List.getD_cons_zero, List.getD_cons_succ, Bool.not_false, ↓oLe_sign, e1, decide_true]
  refine lcB_of (lcW_map _ (fun _ => .bl true) _ (fun x hx kT hT => ?_) fun ρ' hw => ?_)
  · obtain ⟨c, hc, rfl⟩ := List.mem_map.mp hx
    simp only [wipeE, ↓dSeq, ↓dNext, ↓dBreak, ↓dCont, ↓dNever, ↓dRet, ↓dRetN, ↓dDrop, ↓dSet, ↓dIf, ↓dAug, ↓dAsg, ↓dPar, ↓dVar, ↓dMove, ↓dC, ↓dFz, ↓dUp, ↓dNil, ↓dCons, ↓dTup, ↓dLst, ↓dBin, ↓dUn, ↓dChain, ↓dTest, ↓dAnd, ↓dOr, ↓dNot, ↓dAndV, ↓dOrV, ↓dNotV, ↓dIfE, ↓dgName, ↓dgNil, ↓dgCons, ↓dgTup, ↓dIt, ↓dRng1, ↓dRng2, ↓dZip, ↓dEnum, ↓u_for, ↓u_lc, ↓dYes, ↓u_call, ↓u_callF, ↓u_callIo, ↓dCB, ↓dCBF, ↓dBinS, ↓dLenS, ↓dSl, ↓dSlS, ↓dNo, ↓dPt, ↓dStL, ↓dApp, ↓dExt, ↓dJoin, ↓dRg1, ↓dRg2, ↓dTupRg, ↓dLstRg, ↓oSub, ↓oMulI, ↓oMul, ↓oFdiv, ↓oMod, ↓oPow, ↓oShr, ↓oXor, ↓oNeg, ↓oAdd, ↓oAug, ↓oLt, ↓oLe, ↓oGt, ↓oGe, ↓oI, ↓oIx, ↓oLen, ↓oInt, ↓oOrd, ↓oAbs, ↓oStL, ↓oIn, ↓oNin, ↓oInB, ↓isi_int, ↓isi_int_bl, ↓isi_int_str, ↓isi_int_tup, ↓isi_int_lst, ↓isi_str, ↓isi_str_int, ↓isi_tup, ↓isi_tup_int, ↓isi_tup_str, ↓isi_tup_lst, ↓isi_lst, ↓isi_lst_tup, ↓isi_lst_int, ↓isi_lst_str, ↓cv, ↓Cell.val, ↓Cell.up, ↓Cell.own, ↓lenD, ↓itemsOf, List.getElem?_cons_zero, List.getElem?_cons_succ, List.set_cons_zero, List.set_cons_succ, Option.bind_some, Option.isSome_some, List.length_cons, List.length_nil, true_and, and_true, ↓ixN_lit, ↓atI_lit, ↓reduceIte, Nat.reduceAdd, Nat.reduceLT, Nat.reduceSub, Nat.zero_add, Nat.reduceLeDiff, Nat.lt_add_one, Nat.zero_lt_succ, ↓oEq_int, ↓oNe_int, ↓oEq_str, ↓oNe_str, ↓oEq_bl, ↓oNe_bl, decide_eq_true_eq, Bool.false_eq_true, ↓u_while, ↓ownAt, List.all_cons, List.all_nil, Bool.and_true, List.getD_cons_zero, List.getD_cons_succ, Bool.not_false, ↓oLe_sign]
    exact ⟨rfl, onF c rfl (hl c hc) (hT _ rfl)⟩
  · have e2 : boolsOf ((sl l).map fun _ => D.bl true) = some ((sl l).map fun _ => true) := boolsOf_map (fun _ => true) _
    have e3 : ((sl l).map fun _ => true).all id = true := by simp
    simp only [rest_of_wipe hw, ↓dSeq, ↓dNext, ↓dBreak, ↓dCont, ↓dNever, ↓dRet, ↓dRetN, ↓dDrop, ↓dSet, ↓dIf, ↓dAug, ↓dAsg, ↓dPar, ↓dVar, ↓dMove, ↓dC, ↓dFz, ↓dUp, ↓dNil, ↓dCons, ↓dTup, ↓dLst, ↓dBin, ↓dUn, ↓dChain, ↓dTest, ↓dAnd, ↓dOr, ↓dNot, ↓dAndV, ↓dOrV, ↓dNotV, ↓dIfE, ↓dgName, ↓dgNil, ↓dgCons, ↓dgTup, ↓dIt, ↓dRng1, ↓dRng2, ↓dZip, ↓dEnum, ↓u_for, ↓u_lc, ↓dYes, ↓u_call, ↓u_callF, ↓u_callIo, ↓dCB, ↓dCBF, ↓dBinS, ↓dLenS, ↓dSl, ↓dSlS, ↓dNo, ↓dPt, ↓dStL, ↓dApp, ↓dExt, ↓dJoin, ↓dRg1, ↓dRg2, ↓dTupRg, ↓dLstRg, ↓oSub, ↓oMulI, ↓oMul, ↓oFdiv, ↓oMod, ↓oPow, ↓oShr, ↓oXor, ↓oNeg, ↓oAdd, ↓oAug, ↓oLt, ↓oLe, ↓oGt, ↓oGe, ↓oI, ↓oIx, ↓oLen, ↓oInt, ↓oOrd, ↓oAbs, ↓oStL, ↓oIn, ↓oNin, ↓oInB, ↓isi_int, ↓isi_int_bl, ↓isi_int_str, ↓isi_int_tup, ↓isi_int_lst, ↓isi_str, ↓isi_str_int, ↓isi_tup, ↓isi_tup_int, ↓isi_tup_str, ↓isi_tup_lst, ↓isi_lst, ↓isi_lst_tup, ↓isi_lst_int, ↓isi_lst_str, ↓cv, ↓Cell.val, ↓Cell.up, ↓Cell.own, ↓lenD, ↓itemsOf, List.getElem?_cons_zero, List.getElem?_cons_succ, List.set_cons_zero, List.set_cons_succ, Option.bind_some, Option.isSome_some, List.length_cons, List.length_nil, true_and, and_true, ↓ixN_lit, ↓atI_lit, ↓reduceIte, Nat.reduceAdd, Nat.reduceLT, Nat.reduceSub, Nat.zero_add, Nat.reduceLeDiff, Nat.lt_add_one, Nat.zero_lt_succ, ↓oEq_int, ↓oNe_int, ↓oEq_str, ↓oNe_str, ↓oEq_bl, ↓oNe_bl, decide_eq_true_eq, Bool.false_eq_true, ↓u_while, ↓ownAt, List.all_cons, List.all_nil, Bool.and_true, List.getD_cons_zero, List.getD_cons_succ, Bool.not_false, ↓oLe_sign, oAll, e2, e3]
    exact ⟨rfl, post _ _ ⟨rfl, rfl⟩⟩
def pk (row : List Nat) (i : Nat) : Bool := decide (row.getD (i - 1) 0 < row.getD i 0) && decide (row.getD (i + 1) 0 < row.getD i 0)
def peaksL (row : List Nat) : List Nat := (((List.range (row.length - 2)).map (· + 1))).filter (pk row)
def S_peaks : FnSpec := fnSpec 1 true (fun l : List Nat => [.lst (il l)]) (fun l => l.length ≤ 1000000) fun l => .lst (il (peaksL l))
/-- peaks: slots 0 row, 1 at -/
def D_peaks : DTS := (dRet (dLc (dRng2 (dCons (dC (.int 1)) (dCons (dBin oSub (dLenS 0) (dC (.int 1))) dNil))) (dgName 1) (dTest (dChain oLt oGt (dBinS 0 oIx (dBin oSub (dVar 1) (dC (.int 1)))) (dBinS 0 oIx (dVar 1)) (dBinS 0 oIx (dBin oAdd (dVar 1) (dC (.int 1)))))) (dVar 1) [1]))
theorem rangeD_il (lo n : Nat) : rangeD (lo : Int) n = il ((List.range n).map (lo + ·)) := by
  unfold rangeD il
  rw [List.map_map]
  apply List.map_congr_left
  intro k _
  show D.int _ = D.int _
  congr 1
theorem il_at {xs : List Nat} {i : Nat} (h : i < xs.length) : (il xs)[i]? = some (.int (xs.getD i 0 : Nat)) := by
  rw [il_get, List.getElem?_eq_getElem h, List.getD_eq_getElem?_getD, List.getElem?_eq_getElem h] <;> rfl
theorem sem_peaks : ∀ ds Kd, S_peaks.ds ds Kd → D_peaks (endsOf S_peaks Kd) (env0 2 [false] ds) := by
  rintro ds Kd ⟨l, rfl, hz, post⟩
  show D_peaks (endsOf S_peaks Kd) [.fz (.lst (il l)), .un]
  simp only [↓D_peaks, ↓dSeq, ↓dNext, ↓dBreak, ↓dCont, ↓dNever, ↓dRet, ↓dRetN, ↓dDrop, ↓dSet, ↓dIf, ↓dAug, ↓dAsg, ↓dPar, ↓dVar, ↓dMove, ↓dC, ↓dFz, ↓dUp, ↓dNil, ↓dCons, ↓dTup, ↓dLst, ↓dBin, ↓dUn, ↓dChain, ↓dTest, ↓dAnd, ↓dOr, ↓dNot, ↓dAndV, ↓dOrV, ↓dNotV, ↓dIfE, ↓dgName, ↓dgNil, ↓dgCons, ↓dgTup, ↓dIt, ↓dRng1, ↓dRng2, ↓dZip, ↓dEnum, ↓u_for, ↓u_lc, ↓dYes, ↓u_call, ↓u_callF, ↓u_callIo, ↓dCB, ↓dCBF, ↓dBinS, ↓dLenS, ↓dSl, ↓dSlS, ↓dNo, ↓dPt, ↓dStL, ↓dApp, ↓dExt, ↓dJoin, ↓dRg1, ↓dRg2, ↓dTupRg, ↓dLstRg, ↓oSub, ↓oMulI, ↓oMul, ↓oFdiv, ↓oMod, ↓oPow, ↓oShr, ↓oXor, ↓oNeg, ↓oAdd, ↓oAug, ↓oLt, ↓oLe, ↓oGt, ↓oGe, ↓oI, ↓oIx, ↓oLen, ↓oInt, ↓oOrd, ↓oAbs, ↓oStL, ↓oIn, ↓oNin, ↓oInB, ↓isi_int, ↓isi_int_bl, ↓isi_int_str, ↓isi_int_tup, ↓isi_int_lst, ↓isi_str, ↓isi_str_int, ↓isi_tup, ↓isi_tup_int, ↓isi_tup_str, ↓isi_tup_lst, ↓isi_lst, ↓isi_lst_tup, ↓isi_lst_int, ↓isi_lst_str, ↓cv, ↓Cell.val, ↓Cell.up, ↓Cell.own, ↓lenD, ↓itemsOf, List.getElem?_cons_zero, List.getElem?_cons_succ, List.set_cons_zero, List.set_cons_succ, Option.bind_some, Option.isSome_some, List.length_cons, List.length_nil, true_and, and_true, ↓ixN_lit, ↓atI_lit, ↓reduceIte, Nat.reduceAdd, Nat.reduceLT, Nat.reduceSub, Nat.zero_add, Nat.reduceLeDiff, Nat.lt_add_one, Nat.zero_lt_succ, ↓oEq_int, ↓oNe_int, ↓oEq_str, ↓oNe_str, ↓oEq_bl, ↓oNe_bl, decide_eq_true_eq, Bool.false_eq_true, ↓u_while, ↓ownAt, List.all_cons, List.all_nil, Bool.and_true, List.getD_cons_zero, List.getD_cons_succ, Bool.not_false, ↓oLe_sign]
  have el : (((il l).length : Nat) : Int) - 1 - 1 = ((l.length : Nat) : Int) - 2 := by rw [il_length]; omega
  refine ⟨⟨by decide, by decide, by rw [il_length]; omega, by rw [il_length]; omega⟩, by rw [il_length]; omega, ?_⟩
  have en : (((il l).length : Nat) : Int) - 1 - 1 = ((l.length : Nat) : Int) - 2 := el
  rw [en, show (((l.length : Nat) : Int) - 2).toNat = l.length - 2 by omega]
  have er : rangeD 1 (l.length - 2) = il ((List.range (l.length - 2)).map (1 + ·)) := rangeD_il 1 _
  rw [er]
  refine lcB_of (lcW_pure _ (fun d => match d with | .int i => pk l i.toNat | _ => false) (fun d => d) _ (fun x hx kT kF hT hF => ?_) fun ρ' hw => ?_)
  · obtain ⟨c, hc, rfl⟩ := List.mem_map.mp hx
    obtain ⟨c0, hc0, rfl⟩ := List.mem_map.mp hc
    have hlt : c0 < l.length - 2 := List.mem_range.mp hc0
    have i1 : ((1 + c0 : Nat) : Int) - 1 = ((c0 : Nat) : Int) := by omega
    have i2 : ((1 + c0 : Nat) : Int) + 1 = ((c0 + 2 : Nat) : Int) := by omega
    simp only [wipeE, ↓dSeq, ↓dNext, ↓dBreak, ↓dCont, ↓dNever, ↓dRet, ↓dRetN, ↓dDrop, ↓dSet, ↓dIf, ↓dAug, ↓dAsg, ↓dPar, ↓dVar, ↓dMove, ↓dC, ↓dFz, ↓dUp, ↓dNil, ↓dCons, ↓dTup, ↓dLst, ↓dBin, ↓dUn, ↓dChain, ↓dTest, ↓dAnd, ↓dOr, ↓dNot, ↓dAndV, ↓dOrV, ↓dNotV, ↓dIfE, ↓dgName, ↓dgNil, ↓dgCons, ↓dgTup, ↓dIt, ↓dRng1, ↓dRng2, ↓dZip, ↓dEnum, ↓u_for, ↓u_lc, ↓dYes, ↓u_call, ↓u_callF, ↓u_callIo, ↓dCB, ↓dCBF, ↓dBinS, ↓dLenS, ↓dSl, ↓dSlS, ↓dNo, ↓dPt, ↓dStL, ↓dApp, ↓dExt, ↓dJoin, ↓dRg1, ↓dRg2, ↓dTupRg, ↓dLstRg, ↓oSub, ↓oMulI, ↓oMul, ↓oFdiv, ↓oMod, ↓oPow, ↓oShr, ↓oXor, ↓oNeg, ↓oAdd, ↓oAug, ↓oLt, ↓oLe, ↓oGt, ↓oGe, ↓oI, ↓oIx, ↓oLen, ↓oInt, ↓oOrd, ↓oAbs, ↓oStL, ↓oIn, ↓oNin, ↓oInB, ↓isi_int, ↓isi_int_bl, ↓isi_int_str, ↓isi_int_tup, ↓isi_int_lst, ↓isi_str, ↓isi_str_int, ↓isi_tup, ↓isi_tup_int, ↓isi_tup_str, ↓isi_tup_lst, ↓isi_lst, ↓isi_lst_tup, ↓isi_lst_int, ↓isi_lst_str, ↓cv, ↓Cell.val, ↓Cell.up, ↓Cell.own, ↓lenD, ↓itemsOf, List.getElem?_cons_zero, List.getElem?_cons_succ, List.set_cons_zero, List.set_cons_succ, Option.bind_some, Option.isSome_some, List.length_cons, List.length_nil, true_and, and_true, ↓ixN_lit, ↓atI_lit, ↓reduceIte, Nat.reduceAdd, Nat.reduceLT, Nat.reduceSub, Nat.zero_add, Nat.reduceLeDiff, Nat.lt_add_one, Nat.zero_lt_succ, ↓oEq_int, ↓oNe_int, ↓oEq_str, ↓oNe_str, ↓oEq_bl, ↓oNe_bl, decide_eq_true_eq, Bool.false_eq_true, ↓u_while, ↓ownAt, List.all_cons, List.all_nil, Bool.and_true, List.getD_cons_zero, List.getD_cons_succ, Bool.not_false, ↓oLe_sign, i1, i2, atI_natE, il_at (show c0 < l.length by omega), il_at (show 1 + c0 < l.length by omega), il_at (show c0 + 2 < l.length by omega)]
    have hT' : pk l (1 + c0) = true → ∀ ρ', wipeE ρ' [1] = [.fz (.lst (il l)), .un] → kT (.int ((1 + c0 : Nat) : Int)) ρ' := hT
    have hF' : pk l (1 + c0) = false → ∀ ρ', wipeE ρ' [1] = [.fz (.lst (il l)), .un] → kF ρ' := hF
    have ep : pk l (1 + c0) = (decide (l.getD c0 0 < l.getD (1 + c0) 0) && decide (l.getD (c0 + 2) 0 < l.getD (1 + c0) 0)) := by
      unfold pk
      rw [show 1 + c0 - 1 = c0 by omega, show 1 + c0 + 1 = c0 + 2 by omega]
    by_cases c1 : l.getD c0 0 < l.getD (1 + c0) 0
    · have c1' : ((l.getD c0 0 : Nat) : Int) < ((l.getD (1 + c0) 0 : Nat) : Int) := by omega
      rw [decide_eq_true c1']
      simp only [↓dSeq, ↓dNext, ↓dBreak, ↓dCont, ↓dNever, ↓dRet, ↓dRetN, ↓dDrop, ↓dSet, ↓dIf, ↓dAug, ↓dAsg, ↓dPar, ↓dVar, ↓dMove, ↓dC, ↓dFz, ↓dUp, ↓dNil, ↓dCons, ↓dTup, ↓dLst, ↓dBin, ↓dUn, ↓dChain, ↓dTest, ↓dAnd, ↓dOr, ↓dNot, ↓dAndV, ↓dOrV, ↓dNotV, ↓dIfE, ↓dgName, ↓dgNil, ↓dgCons, ↓dgTup, ↓dIt, ↓dRng1, ↓dRng2, ↓dZip, ↓dEnum, ↓u_for, ↓u_lc, ↓dYes, ↓u_call, ↓u_callF, ↓u_callIo, ↓dCB, ↓dCBF, ↓dBinS, ↓dLenS, ↓dSl, ↓dSlS, ↓dNo, ↓dPt, ↓dStL, ↓dApp, ↓dExt, ↓dJoin, ↓dRg1, ↓dRg2, ↓dTupRg, ↓dLstRg, ↓oSub, ↓oMulI, ↓oMul, ↓oFdiv, ↓oMod, ↓oPow, ↓oShr, ↓oXor, ↓oNeg, ↓oAdd, ↓oAug, ↓oLt, ↓oLe, ↓oGt, ↓oGe, ↓oI, ↓oIx, ↓oLen, ↓oInt, ↓oOrd, ↓oAbs, ↓oStL, ↓oIn, ↓oNin, ↓oInB, ↓isi_int, ↓isi_int_bl, ↓isi_int_str, ↓isi_int_tup, ↓isi_int_lst, ↓isi_str, ↓isi_str_int, ↓isi_tup, ↓isi_tup_int, ↓isi_tup_str, ↓isi_tup_lst, ↓isi_lst, ↓isi_lst_tup, ↓isi_lst_int, ↓isi_lst_str, ↓cv, ↓Cell.val, ↓Cell.up, ↓Cell.own, ↓lenD, ↓itemsOf, List.getElem?_cons_zero, List.getElem?_cons_succ, List.set_cons_zero, List.set_cons_succ, Option.bind_some, Option.isSome_some, List.length_cons, List.length_nil, true_and, and_true, ↓ixN_lit, ↓atI_lit, ↓reduceIte, Nat.reduceAdd, Nat.reduceLT, Nat.reduceSub, Nat.zero_add, Nat.reduceLeDiff, Nat.lt_add_one, Nat.zero_lt_succ, ↓oEq_int, ↓oNe_int, ↓oEq_str, ↓oNe_str, ↓oEq_bl, ↓oNe_bl, decide_eq_true_eq, Bool.false_eq_true, ↓u_while, ↓ownAt, List.all_cons, List.all_nil, Bool.and_true, List.getD_cons_zero, List.getD_cons_succ, Bool.not_false, ↓oLe_sign, i2, atI_natE, il_at (show c0 + 2 < l.length by omega)]
      by_cases c2 : l.getD (c0 + 2) 0 < l.getD (1 + c0) 0
      · have c2' : ((l.getD (c0 + 2) 0 : Nat) : Int) < ((l.getD (1 + c0) 0 : Nat) : Int) := by omega
        rw [if_pos c2']
        exact hT' (by rw [ep, decide_eq_true c1, decide_eq_true c2] <;> rfl) _ rfl
      · rw [if_neg (by omega)]
        exact hF' (by rw [ep, decide_eq_true c1, decide_eq_false c2] <;> rfl) _ rfl
    · have c1' : ¬ ((l.getD c0 0 : Nat) : Int) < ((l.getD (1 + c0) 0 : Nat) : Int) := by omega
      rw [decide_eq_false c1']
      simp only [↓dSeq, ↓dNext, ↓dBreak, ↓dCont, ↓dNever, ↓dRet, ↓dRetN, ↓dDrop, ↓dSet, ↓dIf, ↓dAug, ↓dAsg, ↓dPar, ↓dVar, ↓dMove, ↓dC, ↓dFz, ↓dUp, ↓dNil, ↓dCons, ↓dTup, ↓dLst, ↓dBin, ↓dUn, ↓dChain, ↓dTest, ↓dAnd, ↓dOr, ↓dNot, ↓dAndV, ↓dOrV, ↓dNotV, ↓dIfE, ↓dgName, ↓dgNil, ↓dgCons, ↓dgTup, ↓dIt, ↓dRng1, ↓dRng2, ↓dZip, ↓dEnum, ↓u_for, ↓u_lc, ↓dYes, ↓u_call, ↓u_callF, ↓u_callIo, ↓dCB, ↓dCBF, ↓dBinS, ↓dLenS, ↓dSl, ↓dSlS, ↓dNo, ↓dPt, ↓dStL, ↓dApp, ↓dExt, ↓dJoin, ↓dRg1, ↓dRg2, ↓dTupRg, ↓dLstRg, ↓oSub, ↓oMulI, ↓oMul, ↓oFdiv, ↓oMod, ↓oPow, ↓oShr, ↓oXor, ↓oNeg, ↓oAdd, ↓oAug, ↓oLt, ↓oLe, ↓oGt, ↓oGe, ↓oI, ↓oIx, ↓oLen, ↓oInt, ↓oOrd, ↓oAbs, ↓oStL, ↓oIn, ↓oNin, ↓oInB, ↓isi_int, ↓isi_int_bl, ↓isi_int_str, ↓isi_int_tup, ↓isi_int_lst, ↓isi_str, ↓isi_str_int, ↓isi_tup, ↓isi_tup_int, ↓isi_tup_str, ↓isi_tup_lst, ↓isi_lst, ↓isi_lst_tup, ↓isi_lst_int, ↓isi_lst_str, ↓cv, ↓Cell.val, ↓Cell.up, ↓Cell.own, ↓lenD, ↓itemsOf, List.getElem?_cons_zero, List.getElem?_cons_succ, List.set_cons_zero, List.set_cons_succ, Option.bind_some, Option.isSome_some, List.length_cons, List.length_nil, true_and, and_true, ↓ixN_lit, ↓atI_lit, ↓reduceIte, Nat.reduceAdd, Nat.reduceLT, Nat.reduceSub, Nat.zero_add, Nat.reduceLeDiff, Nat.lt_add_one, Nat.zero_lt_succ, ↓oEq_int, ↓oNe_int, ↓oEq_str, ↓oNe_str, ↓oEq_bl, ↓oNe_bl, decide_eq_true_eq, Bool.false_eq_true, ↓u_while, ↓ownAt, List.all_cons, List.all_nil, Bool.and_true, List.getD_cons_zero, List.getD_cons_succ, Bool.not_false, ↓oLe_sign]
      exact hF' (by rw [ep, decide_eq_false c1] <;> rfl) _ rfl
  · have e2 : ((il ((List.range (l.length - 2)).map (1 + ·))).filter fun d => match d with | .int i => pk l i.toNat | _ => false).map (fun d => d) = il (peaksL l) := by
      unfold il peaksL
      rw [List.map_id', List.filter_map]
      have e3 : (fun n : Nat => 1 + n) = (fun n : Nat => n + 1) := funext fun n => Nat.add_comm 1 n
      rw [e3]
      rfl
    simp only [rest_of_wipe hw, ↓dSeq, ↓dNext, ↓dBreak, ↓dCont, ↓dNever, ↓dRet, ↓dRetN, ↓dDrop, ↓dSet, ↓dIf, ↓dAug, ↓dAsg, ↓dPar, ↓dVar, ↓dMove, ↓dC, ↓dFz, ↓dUp, ↓dNil, ↓dCons, ↓dTup, ↓dLst, ↓dBin, ↓dUn, ↓dChain, ↓dTest, ↓dAnd, ↓dOr, ↓dNot, ↓dAndV, ↓dOrV, ↓dNotV, ↓dIfE, ↓dgName, ↓dgNil, ↓dgCons, ↓dgTup, ↓dIt, ↓dRng1, ↓dRng2, ↓dZip, ↓dEnum, ↓u_for, ↓u_lc, ↓dYes, ↓u_call, ↓u_callF, ↓u_callIo, ↓dCB, ↓dCBF, ↓dBinS, ↓dLenS, ↓dSl, ↓dSlS, ↓dNo, ↓dPt, ↓dStL, ↓dApp, ↓dExt, ↓dJoin, ↓dRg1, ↓dRg2, ↓dTupRg, ↓dLstRg, ↓oSub, ↓oMulI, ↓oMul, ↓oFdiv, ↓oMod, ↓oPow, ↓oShr, ↓oXor, ↓oNeg, ↓oAdd, ↓oAug, ↓oLt, ↓oLe, ↓oGt, ↓oGe, ↓oI, ↓oIx, ↓oLen, ↓oInt, ↓oOrd, ↓oAbs, ↓oStL, ↓oIn, ↓oNin, ↓oInB, ↓isi_int, ↓isi_int_bl, ↓isi_int_str, ↓isi_int_tup, ↓isi_int_lst, ↓isi_str, ↓isi_str_int, ↓isi_tup, ↓isi_tup_int, ↓isi_tup_str, ↓isi_tup_lst, ↓isi_lst, ↓isi_lst_tup, ↓isi_lst_int, ↓isi_lst_str, ↓cv, ↓Cell.val, ↓Cell.up, ↓Cell.own, ↓lenD, ↓itemsOf, List.getElem?_cons_zero, List.getElem?_cons_succ, List.set_cons_zero, List.set_cons_succ, Option.bind_some, Option.isSome_some, List.length_cons, List.length_nil, true_and, and_true, ↓ixN_lit, ↓atI_lit, ↓reduceIte, Nat.reduceAdd, Nat.reduceLT, Nat.reduceSub, Nat.zero_add, Nat.reduceLeDiff, Nat.lt_add_one, Nat.zero_lt_succ, ↓oEq_int, ↓oNe_int, ↓oEq_str, ↓oNe_str, ↓oEq_bl, ↓oNe_bl, decide_eq_true_eq, Bool.false_eq_true, ↓u_while, ↓ownAt, List.all_cons, List.all_nil, Bool.and_true, List.getD_cons_zero, List.getD_cons_succ, Bool.not_false, ↓oLe_sign]
    rw [e2]
    exact post _ _ ⟨rfl, rfl⟩
end DL


namespace DL
open PySem PySem.Spec PyProof.Rows L2

/-! ### stretches -/
def nm (l : List (List Nat)) (i : Nat) : List Nat := l.getD i []
theorem sl_at {xs : List (List Nat)} {i : Nat} (h : i < xs.length) : (sl xs)[i]? = some (.str (nm xs i)) := by
  rw [sl_get, List.getElem?_eq_getElem h, nm, List.getD_eq_getElem?_getD, List.getElem?_eq_getElem h] <;> rfl
def scan (P : Nat → Bool) : Nat → Nat → Nat
  | 0, e => e
  | k + 1, e => if P e = true then scan P k (e + 1) else e
theorem scan_ge (P : Nat → Bool) : ∀ k e, e ≤ scan P k e
  | 0, e => Nat.le_refl _
  | k + 1, e => by
    unfold scan
    split
    · exact Nat.le_trans (Nat.le_succ e) (scan_ge P k (e + 1))
    · exact Nat.le_refl _
theorem scan_le (P : Nat → Bool) : ∀ k e, scan P k e ≤ e + k
  | 0, e => Nat.le_refl _
  | k + 1, e => by
    unfold scan
    split
    · have := scan_le P k (e + 1); omega
    · omega
theorem scan_mem (P : Nat → Bool) : ∀ k e j, e ≤ j → j < scan P k e → P j = true
  | 0, e, j, h1, h2 => by unfold scan at h2; omega
  | k + 1, e, j, h1, h2 => by
    unfold scan at h2
    split at h2
    · rename_i h
      by_cases hj : j = e
      · rw [hj]; exact h
      · exact scan_mem P k (e + 1) j (by omega) h2
    · omega
theorem scan_stop (P : Nat → Bool) {n : Nat} (hn : ∀ e, P e = true → e < n) : ∀ k e, n - e ≤ k → P (scan P k e) = false
  | 0, e, h => by
    unfold scan
    cases q : P e with
    | false => rfl
    | true => have := hn e q; omega
  | k + 1, e, h => by
    unfold scan
    split
    · exact scan_stop P hn k (e + 1) (by omega)
    · rename_i q; simpa using q
theorem scan_one {P : Nat → Bool} {n e : Nat} (h : P e = true) (hn : e < n) : scan P (n - e) e = scan P (n - (e + 1)) (e + 1) := by
  obtain ⟨k, hk⟩ : ∃ k, n - e = k + 1 := ⟨n - e - 1, by omega⟩
  rw [hk]
  unfold scan
  rw [if_pos h, show n - (e + 1) = k by omega]
  cases k <;> rfl
theorem scan_end {P : Nat → Bool} {k e : Nat} (h : P e = false) : scan P k e = e := by
  cases k with
  | zero => rfl
  | succ k => unfold scan; rw [h]; rfl
def pRun (l : List (List Nat)) (b e : Nat) : Bool := decide (e < l.length) && decide (nm l e = nm l b)
def pAlt (l : List (List Nat)) (e : Nat) : Bool := decide (e < l.length) && !(decide (e + 1 < l.length) && decide (nm l (e + 1) = nm l e))
def isRun (l : List (List Nat)) (b : Nat) : Bool := decide (b + 1 < l.length) && decide (nm l (b + 1) = nm l b)
def stEnd (l : List (List Nat)) (b : Nat) : Nat := if isRun l b = true then scan (pRun l b) (l.length - (b + 1)) (b + 1) else scan (pAlt l) (l.length - (b + 1)) (b + 1)
theorem stEnd_gt (l : List (List Nat)) (b : Nat) : b < stEnd l b := by
  unfold stEnd
  split
  · exact scan_ge _ _ _
  · exact scan_ge _ _ _
theorem stEnd_le {l : List (List Nat)} {b : Nat} (h : b < l.length) : stEnd l b ≤ l.length := by
  unfold stEnd
  split
  · have := scan_le (pRun l b) (l.length - (b + 1)) (b + 1); omega
  · have := scan_le (pAlt l) (l.length - (b + 1)) (b + 1); omega
def stL (l : List (List Nat)) (b : Nat) : List (Nat × Nat) := if h : b < l.length then (b, stEnd l b) :: stL l (stEnd l b) else []
termination_by l.length - b
decreasing_by have := stEnd_gt l b; omega
theorem stL_cons {l : List (List Nat)} {b : Nat} (h : b < l.length) : stL l b = (b, stEnd l b) :: stL l (stEnd l b) := by
  rw [stL, dif_pos h]
theorem stL_nil {l : List (List Nat)} {b : Nat} (h : ¬ b < l.length) : stL l b = [] := by
  rw [stL, dif_neg h]
theorem stL_length (l : List (List Nat)) : ∀ (d b : Nat), l.length - b ≤ d → (stL l b).length ≤ l.length - b
  | 0, b, h => by rw [stL_nil (by omega)]; exact Nat.zero_le _
  | d + 1, b, h => by
    by_cases hb : b < l.length
    · rw [stL_cons hb]
      have g := stEnd_gt l b
      have ih := stL_length l d (stEnd l b) (by omega)
      show (stL l (stEnd l b)).length + 1 ≤ _
      omega
    · rw [stL_nil hb]; exact Nat.zero_le _
def pl2 (ps : List (Nat × Nat)) : List D := ps.map fun p => .tup [.int (p.1 : Nat), .int (p.2 : Nat)]
def S_stretches : FnSpec := fnSpec 1 true (fun l : List (List Nat) => [.tup (sl l)]) (fun l => l.length ≤ 1000000) fun l => .lst (pl2 (stL l 0))
/-- stretches: slots 0 names, 1 found, 2 begin, 3 end -/
def D_stretches : DTS := (dSeq (dSet 1 (dLst dNil)) (dSeq (dSet 2 (dUp (dC (.int 0)))) (dSeq (dWhile (dTest (dBin oLt (dVar 2) (dLenS 0))) (dSeq (dSet 3 (dUp (dBin oAdd (dVar 2) (dC (.int 1))))) (dSeq (dIf (dAnd (dTest (dBin oLt (dVar 3) (dLenS 0))) (dTest (dBin oEq (dBinS 0 oIx (dVar 3)) (dBinS 0 oIx (dVar 2))))) (dWhile (dAnd (dTest (dBin oLt (dVar 3) (dLenS 0))) (dTest (dBin oEq (dBinS 0 oIx (dVar 3)) (dBinS 0 oIx (dVar 2))))) (dAug 3 oAug (dC (.int 1)))) (dWhile (dAnd (dTest (dBin oLt (dVar 3) (dLenS 0))) (dNot (dAnd (dTest (dBin oLt (dBin oAdd (dVar 3) (dC (.int 1))) (dLenS 0))) (dTest (dBin oEq (dBinS 0 oIx (dBin oAdd (dVar 3) (dC (.int 1)))) (dBinS 0 oIx (dVar 3))))))) (dAug 3 oAug (dC (.int 1))))) (dSeq (dApp 1 (dTup (dCons (dVar 2) (dCons (dVar 3) dNil)))) (dSet 2 (dUp (dVar 3))))))) (dRet (dMove 1)))))
theorem sem_stretches : ∀ ds Kd, S_stretches.ds ds Kd → D_stretches (endsOf S_stretches Kd) (env0 4 [false] ds) := by
  rintro ds Kd ⟨l, rfl, hz, post⟩
  show D_stretches (endsOf S_stretches Kd) [.fz (.tup (sl l)), .un, .un, .un]
  simp only [↓D_stretches, ↓dSeq, ↓dNext, ↓dBreak, ↓dCont, ↓dNever, ↓dRet, ↓dRetN, ↓dDrop, ↓dSet, ↓dIf, ↓dAug, ↓dAsg, ↓dPar, ↓dVar, ↓dMove, ↓dC, ↓dFz, ↓dUp, ↓dNil, ↓dCons, ↓dTup, ↓dLst, ↓dBin, ↓dUn, ↓dChain, ↓dTest, ↓dAnd, ↓dOr, ↓dNot, ↓dAndV, ↓dOrV, ↓dNotV, ↓dIfE, ↓dgName, ↓dgNil, ↓dgCons, ↓dgTup, ↓dIt, ↓dRng1, ↓dRng2, ↓dZip, ↓dEnum, ↓u_for, ↓u_lc, ↓dYes, ↓u_call, ↓u_callF, ↓u_callIo, ↓dCB, ↓dCBF, ↓dBinS, ↓dLenS, ↓dSl, ↓dSlS, ↓dNo, ↓dPt, ↓dStL, ↓dApp, ↓dExt, ↓dJoin, ↓dRg1, ↓dRg2, ↓dTupRg, ↓dLstRg, ↓oSub, ↓oMulI, ↓oMul, ↓oFdiv, ↓oMod, ↓oPow, ↓oShr, ↓oXor, ↓oNeg, ↓oAdd, ↓oAug, ↓oLt, ↓oLe, ↓oGt, ↓oGe, ↓oI, ↓oIx, ↓oLen, ↓oInt, ↓oOrd, ↓oAbs, ↓oStL, ↓oIn, ↓oNin, ↓oInB, ↓isi_int, ↓isi_int_bl, ↓isi_int_str, ↓isi_int_tup, ↓isi_int_lst, ↓isi_str, ↓isi_str_int, ↓isi_tup, ↓isi_tup_int, ↓isi_tup_str, ↓isi_tup_lst, ↓isi_lst, ↓isi_lst_tup, ↓isi_lst_int, ↓isi_lst_str, ↓cv, ↓Cell.val, ↓Cell.up, ↓Cell.own, ↓lenD, ↓itemsOf, List.getElem?_cons_zero, List.getElem?_cons_succ, List.set_cons_zero, List.set_cons_succ, Option.bind_some, Option.isSome_some, List.length_cons, List.length_nil, true_and, and_true, ↓ixN_lit, ↓atI_lit, ↓reduceIte, Nat.reduceAdd, Nat.reduceLT, Nat.reduceSub, Nat.zero_add, Nat.reduceLeDiff, Nat.lt_add_one, Nat.zero_lt_succ, ↓oEq_int, ↓oNe_int, ↓oEq_str, ↓oNe_str, ↓oEq_bl, ↓oNe_bl, decide_eq_true_eq, Bool.false_eq_true, ↓u_while, ↓ownAt, List.all_cons, List.all_nil, Bool.and_true, List.getD_cons_zero, List.getD_cons_succ, Bool.not_false, ↓oLe_sign]
  refine ⟨by decide, whB_of (dWhile_iff (fun m ρ => ∃ b acc x, m = l.length - b ∧ acc ++ stL l b = stL l 0 ∧ ρ = [.fz (.tup (sl l)), .ow (.lst (pl2 acc)), .fz (.int (b : Nat)), x]) l.length ⟨0, [], .un, by simp, rfl, rfl⟩ ?_)⟩
  rintro m ρ ⟨b, acc, x, rfl, hacc, rfl⟩
  simp only [↓dSeq, ↓dNext, ↓dBreak, ↓dCont, ↓dNever, ↓dRet, ↓dRetN, ↓dDrop, ↓dSet, ↓dIf, ↓dAug, ↓dAsg, ↓dPar, ↓dVar, ↓dMove, ↓dC, ↓dFz, ↓dUp, ↓dNil, ↓dCons, ↓dTup, ↓dLst, ↓dBin, ↓dUn, ↓dChain, ↓dTest, ↓dAnd, ↓dOr, ↓dNot, ↓dAndV, ↓dOrV, ↓dNotV, ↓dIfE, ↓dgName, ↓dgNil, ↓dgCons, ↓dgTup, ↓dIt, ↓dRng1, ↓dRng2, ↓dZip, ↓dEnum, ↓u_for, ↓u_lc, ↓dYes, ↓u_call, ↓u_callF, ↓u_callIo, ↓dCB, ↓dCBF, ↓dBinS, ↓dLenS, ↓dSl, ↓dSlS, ↓dNo, ↓dPt, ↓dStL, ↓dApp, ↓dExt, ↓dJoin, ↓dRg1, ↓dRg2, ↓dTupRg, ↓dLstRg, ↓oSub, ↓oMulI, ↓oMul, ↓oFdiv, ↓oMod, ↓oPow, ↓oShr, ↓oXor, ↓oNeg, ↓oAdd, ↓oAug, ↓oLt, ↓oLe, ↓oGt, ↓oGe, ↓oI, ↓oIx, ↓oLen, ↓oInt, ↓oOrd, ↓oAbs, ↓oStL, ↓oIn, ↓oNin, ↓oInB, ↓isi_int, ↓isi_int_bl, ↓isi_int_str, ↓isi_int_tup, ↓isi_int_lst, ↓isi_str, ↓isi_str_int, ↓isi_tup, ↓isi_tup_int, ↓isi_tup_str, ↓isi_tup_lst, ↓isi_lst, ↓isi_lst_tup, ↓isi_lst_int, ↓isi_lst_str, ↓cv, ↓Cell.val, ↓Cell.up, ↓Cell.own, ↓lenD, ↓itemsOf, List.getElem?_cons_zero, List.getElem?_cons_succ, List.set_cons_zero, List.set_cons_succ, Option.bind_some, Option.isSome_some, List.length_cons, List.length_nil, true_and, and_true, ↓ixN_lit, ↓atI_lit, ↓reduceIte, Nat.reduceAdd, Nat.reduceLT, Nat.reduceSub, Nat.zero_add, Nat.reduceLeDiff, Nat.lt_add_one, Nat.zero_lt_succ, ↓oEq_int, ↓oNe_int, ↓oEq_str, ↓oNe_str, ↓oEq_bl, ↓oNe_bl, decide_eq_true_eq, Bool.false_eq_true, ↓u_while, ↓ownAt, List.all_cons, List.all_nil, Bool.and_true, List.getD_cons_zero, List.getD_cons_succ, Bool.not_false, ↓oLe_sign, sl_length]
  have hlen := congrArg List.length hacc
  rw [List.length_append] at hlen
  have hl0 := stL_length l l.length 0 (by omega)
  by_cases hb : b < l.length
  · rw [if_pos (by omega)]
    have fin : ∀ (k : Env → Prop) (bk : Env → Prop) (rt : Cell → Env → Prop), (∀ ρ', (∃ m' < l.length - b, ∃ b_1 acc x, m' = l.length - b_1 ∧ acc ++ stL l b_1 = stL l 0 ∧ ρ' = [.fz (.tup (sl l)), .ow (.lst (pl2 acc)), .fz (.int (b_1 : Nat)), x]) → k ρ') →
        dSeq (dApp 1 (dTup (dCons (dVar 2) (dCons (dVar 3) dNil)))) (dSet 2 (dUp (dVar 3))) { nx := k, rt := rt, bk := bk, ct := k } [.fz (.tup (sl l)), .ow (.lst (pl2 acc)), .fz (.int (b : Nat)), .fz (.int (stEnd l b : Nat))] := by
      intro k bk rt hk
      simp only [↓dSeq, ↓dNext, ↓dBreak, ↓dCont, ↓dNever, ↓dRet, ↓dRetN, ↓dDrop, ↓dSet, ↓dIf, ↓dAug, ↓dAsg, ↓dPar, ↓dVar, ↓dMove, ↓dC, ↓dFz, ↓dUp, ↓dNil, ↓dCons, ↓dTup, ↓dLst, ↓dBin, ↓dUn, ↓dChain, ↓dTest, ↓dAnd, ↓dOr, ↓dNot, ↓dAndV, ↓dOrV, ↓dNotV, ↓dIfE, ↓dgName, ↓dgNil, ↓dgCons, ↓dgTup, ↓dIt, ↓dRng1, ↓dRng2, ↓dZip, ↓dEnum, ↓u_for, ↓u_lc, ↓dYes, ↓u_call, ↓u_callF, ↓u_callIo, ↓dCB, ↓dCBF, ↓dBinS, ↓dLenS, ↓dSl, ↓dSlS, ↓dNo, ↓dPt, ↓dStL, ↓dApp, ↓dExt, ↓dJoin, ↓dRg1, ↓dRg2, ↓dTupRg, ↓dLstRg, ↓oSub, ↓oMulI, ↓oMul, ↓oFdiv, ↓oMod, ↓oPow, ↓oShr, ↓oXor, ↓oNeg, ↓oAdd, ↓oAug, ↓oLt, ↓oLe, ↓oGt, ↓oGe, ↓oI, ↓oIx, ↓oLen, ↓oInt, ↓oOrd, ↓oAbs, ↓oStL, ↓oIn, ↓oNin, ↓oInB, ↓isi_int, ↓isi_int_bl, ↓isi_int_str, ↓isi_int_tup, ↓isi_int_lst, ↓isi_str, ↓isi_str_int, ↓isi_tup, ↓isi_tup_int, ↓isi_tup_str, ↓isi_tup_lst, ↓isi_lst, ↓isi_lst_tup, ↓isi_lst_int, ↓isi_lst_str, ↓cv, ↓Cell.val, ↓Cell.up, ↓Cell.own, ↓lenD, ↓itemsOf, List.getElem?_cons_zero, List.getElem?_cons_succ, List.set_cons_zero, List.set_cons_succ, Option.bind_some, Option.isSome_some, List.length_cons, List.length_nil, true_and, and_true, ↓ixN_lit, ↓atI_lit, ↓reduceIte, Nat.reduceAdd, Nat.reduceLT, Nat.reduceSub, Nat.zero_add, Nat.reduceLeDiff, Nat.lt_add_one, Nat.zero_lt_succ, ↓oEq_int, ↓oNe_int, ↓oEq_str, ↓oNe_str, ↓oEq_bl, ↓oNe_bl, decide_eq_true_eq, Bool.false_eq_true, ↓u_while, ↓ownAt, List.all_cons, List.all_nil, Bool.and_true, List.getD_cons_zero, List.getD_cons_succ, Bool.not_false, ↓oLe_sign]
      rw [stL_cons hb, List.length_cons] at hlen
      refine ⟨⟨_, rfl⟩, by decide, by rw [pl2, List.length_map]; show acc.length < 16777216; omega, hk _ ?_⟩
      have g := stEnd_gt l b
      refine ⟨l.length - stEnd l b, by omega, stEnd l b, acc ++ [(b, stEnd l b)], .fz (.int (stEnd l b : Nat)), rfl, ?_, ?_⟩
      · rw [← hacc, stL_cons hb]; simp
      · simp [pl2]
    have eb : ((b : Nat) : Int) + 1 = ((b + 1 : Nat) : Int) := by omega
    rw [eb]
    have wRun : ∀ (E : DEnds) (e : Nat), e ≤ l.length → (∀ ρ', ρ' = [.fz (.tup (sl l)), .ow (.lst (pl2 acc)), .fz (.int (b : Nat)), .fz (.int (scan (pRun l b) (l.length - e) e : Nat))] → E.nx ρ') →
        dWhile (dAnd (dTest (dBin oLt (dVar 3) (dLenS 0))) (dTest (dBin oEq (dBinS 0 oIx (dVar 3)) (dBinS 0 oIx (dVar 2))))) (dAug 3 oAug (dC (.int 1))) E [.fz (.tup (sl l)), .ow (.lst (pl2 acc)), .fz (.int (b : Nat)), .fz (.int (e : Nat))] := by
      intro E e he hE
      refine dWhile_iff (fun m ρ => ∃ j, m = l.length - j ∧ scan (pRun l b) (l.length - j) j = scan (pRun l b) (l.length - e) e ∧ ρ = [.fz (.tup (sl l)), .ow (.lst (pl2 acc)), .fz (.int (b : Nat)), .fz (.int (j : Nat))]) _ ⟨e, rfl, rfl, rfl⟩ ?_
      rintro m ρ ⟨j, rfl, hj, rfl⟩
      simp only [↓dSeq, ↓dNext, ↓dBreak, ↓dCont, ↓dNever, ↓dRet, ↓dRetN, ↓dDrop, ↓dSet, ↓dIf, ↓dAug, ↓dAsg, ↓dPar, ↓dVar, ↓dMove, ↓dC, ↓dFz, ↓dUp, ↓dNil, ↓dCons, ↓dTup, ↓dLst, ↓dBin, ↓dUn, ↓dChain, ↓dTest, ↓dAnd, ↓dOr, ↓dNot, ↓dAndV, ↓dOrV, ↓dNotV, ↓dIfE, ↓dgName, ↓dgNil, ↓dgCons, ↓dgTup, ↓dIt, ↓dRng1, ↓dRng2, ↓dZip, ↓dEnum, ↓u_for, ↓u_lc, ↓dYes, ↓u_call, ↓u_callF, ↓u_callIo, ↓dCB, ↓dCBF, ↓dBinS, ↓dLenS, ↓dSl, ↓dSlS, ↓dNo, ↓dPt, ↓dStL, ↓dApp, ↓dExt, ↓dJoin, ↓dRg1, ↓dRg2, ↓dTupRg, ↓dLstRg, ↓oSub, ↓oMulI, ↓oMul, ↓oFdiv, ↓oMod, ↓oPow, ↓oShr, ↓oXor, ↓oNeg, ↓oAdd, ↓oAug, ↓oLt, ↓oLe, ↓oGt, ↓oGe, ↓oI, ↓oIx, ↓oLen, ↓oInt, ↓oOrd, ↓oAbs, ↓oStL, ↓oIn, ↓oNin, ↓oInB, ↓isi_int, ↓isi_int_bl, ↓isi_int_str, ↓isi_int_tup, ↓isi_int_lst, ↓isi_str, ↓isi_str_int, ↓isi_tup, ↓isi_tup_int, ↓isi_tup_str, ↓isi_tup_lst, ↓isi_lst, ↓isi_lst_tup, ↓isi_lst_int, ↓isi_lst_str, ↓cv, ↓Cell.val, ↓Cell.up, ↓Cell.own, ↓lenD, ↓itemsOf, List.getElem?_cons_zero, List.getElem?_cons_succ, List.set_cons_zero, List.set_cons_succ, Option.bind_some, Option.isSome_some, List.length_cons, List.length_nil, true_and, and_true, ↓ixN_lit, ↓atI_lit, ↓reduceIte, Nat.reduceAdd, Nat.reduceLT, Nat.reduceSub, Nat.zero_add, Nat.reduceLeDiff, Nat.lt_add_one, Nat.zero_lt_succ, ↓oEq_int, ↓oNe_int, ↓oEq_str, ↓oNe_str, ↓oEq_bl, ↓oNe_bl, decide_eq_true_eq, Bool.false_eq_true, ↓u_while, ↓ownAt, List.all_cons, List.all_nil, Bool.and_true, List.getD_cons_zero, List.getD_cons_succ, Bool.not_false, ↓oLe_sign, sl_length]
      by_cases c1 : j < l.length
      · rw [if_pos (by omega)]
        simp only [↓dSeq, ↓dNext, ↓dBreak, ↓dCont, ↓dNever, ↓dRet, ↓dRetN, ↓dDrop, ↓dSet, ↓dIf, ↓dAug, ↓dAsg, ↓dPar, ↓dVar, ↓dMove, ↓dC, ↓dFz, ↓dUp, ↓dNil, ↓dCons, ↓dTup, ↓dLst, ↓dBin, ↓dUn, ↓dChain, ↓dTest, ↓dAnd, ↓dOr, ↓dNot, ↓dAndV, ↓dOrV, ↓dNotV, ↓dIfE, ↓dgName, ↓dgNil, ↓dgCons, ↓dgTup, ↓dIt, ↓dRng1, ↓dRng2, ↓dZip, ↓dEnum, ↓u_for, ↓u_lc, ↓dYes, ↓u_call, ↓u_callF, ↓u_callIo, ↓dCB, ↓dCBF, ↓dBinS, ↓dLenS, ↓dSl, ↓dSlS, ↓dNo, ↓dPt, ↓dStL, ↓dApp, ↓dExt, ↓dJoin, ↓dRg1, ↓dRg2, ↓dTupRg, ↓dLstRg, ↓oSub, ↓oMulI, ↓oMul, ↓oFdiv, ↓oMod, ↓oPow, ↓oShr, ↓oXor, ↓oNeg, ↓oAdd, ↓oAug, ↓oLt, ↓oLe, ↓oGt, ↓oGe, ↓oI, ↓oIx, ↓oLen, ↓oInt, ↓oOrd, ↓oAbs, ↓oStL, ↓oIn, ↓oNin, ↓oInB, ↓isi_int, ↓isi_int_bl, ↓isi_int_str, ↓isi_int_tup, ↓isi_int_lst, ↓isi_str, ↓isi_str_int, ↓isi_tup, ↓isi_tup_int, ↓isi_tup_str, ↓isi_tup_lst, ↓isi_lst, ↓isi_lst_tup, ↓isi_lst_int, ↓isi_lst_str, ↓cv, ↓Cell.val, ↓Cell.up, ↓Cell.own, ↓lenD, ↓itemsOf, List.getElem?_cons_zero, List.getElem?_cons_succ, List.set_cons_zero, List.set_cons_succ, Option.bind_some, Option.isSome_some, List.length_cons, List.length_nil, true_and, and_true, ↓ixN_lit, ↓atI_lit, ↓reduceIte, Nat.reduceAdd, Nat.reduceLT, Nat.reduceSub, Nat.zero_add, Nat.reduceLeDiff, Nat.lt_add_one, Nat.zero_lt_succ, ↓oEq_int, ↓oNe_int, ↓oEq_str, ↓oNe_str, ↓oEq_bl, ↓oNe_bl, decide_eq_true_eq, Bool.false_eq_true, ↓u_while, ↓ownAt, List.all_cons, List.all_nil, Bool.and_true, List.getD_cons_zero, List.getD_cons_succ, Bool.not_false, ↓oLe_sign, atI_natE, sl_at c1, sl_at hb]
        by_cases c2 : nm l j = nm l b
        · rw [if_pos c2]
          refine ⟨_, (by omega : l.length - (j + 1) < l.length - j), j + 1, rfl, ?_, rfl⟩
          rw [← hj]
          exact (scan_one (by unfold pRun; rw [decide_eq_true c1, decide_eq_true c2] <;> rfl) c1).symm
        · rw [if_neg c2]
          refine hE _ ?_
          rw [← hj, scan_end (by unfold pRun; rw [decide_eq_false c2]; simp)]
      · rw [if_neg (by omega)]
        refine hE _ ?_
        rw [← hj, scan_end (by unfold pRun; rw [decide_eq_false c1]; simp)]
    have wAlt : ∀ (E : DEnds) (e : Nat), e ≤ l.length → (∀ ρ', ρ' = [.fz (.tup (sl l)), .ow (.lst (pl2 acc)), .fz (.int (b : Nat)), .fz (.int (scan (pAlt l) (l.length - e) e : Nat))] → E.nx ρ') →
        dWhile (dAnd (dTest (dBin oLt (dVar 3) (dLenS 0))) (dNot (dAnd (dTest (dBin oLt (dBin oAdd (dVar 3) (dC (.int 1))) (dLenS 0))) (dTest (dBin oEq (dBinS 0 oIx (dBin oAdd (dVar 3) (dC (.int 1)))) (dBinS 0 oIx (dVar 3))))))) (dAug 3 oAug (dC (.int 1))) E [.fz (.tup (sl l)), .ow (.lst (pl2 acc)), .fz (.int (b : Nat)), .fz (.int (e : Nat))] := by
      intro E e he hE
      refine dWhile_iff (fun m ρ => ∃ j, m = l.length - j ∧ scan (pAlt l) (l.length - j) j = scan (pAlt l) (l.length - e) e ∧ ρ = [.fz (.tup (sl l)), .ow (.lst (pl2 acc)), .fz (.int (b : Nat)), .fz (.int (j : Nat))]) _ ⟨e, rfl, rfl, rfl⟩ ?_
      rintro m ρ ⟨j, rfl, hj, rfl⟩
      have ej : ((j : Nat) : Int) + 1 = ((j + 1 : Nat) : Int) := by omega
      simp only [↓dSeq, ↓dNext, ↓dBreak, ↓dCont, ↓dNever, ↓dRet, ↓dRetN, ↓dDrop, ↓dSet, ↓dIf, ↓dAug, ↓dAsg, ↓dPar, ↓dVar, ↓dMove, ↓dC, ↓dFz, ↓dUp, ↓dNil, ↓dCons, ↓dTup, ↓dLst, ↓dBin, ↓dUn, ↓dChain, ↓dTest, ↓dAnd, ↓dOr, ↓dNot, ↓dAndV, ↓dOrV, ↓dNotV, ↓dIfE, ↓dgName, ↓dgNil, ↓dgCons, ↓dgTup, ↓dIt, ↓dRng1, ↓dRng2, ↓dZip, ↓dEnum, ↓u_for, ↓u_lc, ↓dYes, ↓u_call, ↓u_callF, ↓u_callIo, ↓dCB, ↓dCBF, ↓dBinS, ↓dLenS, ↓dSl, ↓dSlS, ↓dNo, ↓dPt, ↓dStL, ↓dApp, ↓dExt, ↓dJoin, ↓dRg1, ↓dRg2, ↓dTupRg, ↓dLstRg, ↓oSub, ↓oMulI, ↓oMul, ↓oFdiv, ↓oMod, ↓oPow, ↓oShr, ↓oXor, ↓oNeg, ↓oAdd, ↓oAug, ↓oLt, ↓oLe, ↓oGt, ↓oGe, ↓oI, ↓oIx, ↓oLen, ↓oInt, ↓oOrd, ↓oAbs, ↓oStL, ↓oIn, ↓oNin, ↓oInB, ↓isi_int, ↓isi_int_bl, ↓isi_int_str, ↓isi_int_tup, ↓isi_int_lst, ↓isi_str, ↓isi_str_int, ↓isi_tup, ↓isi_tup_int, ↓isi_tup_str, ↓isi_tup_lst, ↓isi_lst, ↓isi_lst_tup, ↓isi_lst_int, ↓isi_lst_str, ↓cv, ↓Cell.val, ↓Cell.up, ↓Cell.own, ↓lenD, ↓itemsOf, List.getElem?_cons_zero, List.getElem?_cons_succ, List.set_cons_zero, List.set_cons_succ, Option.bind_some, Option.isSome_some, List.length_cons, List.length_nil, true_and, and_true, ↓ixN_lit, ↓atI_lit, ↓reduceIte, Nat.reduceAdd, Nat.reduceLT, Nat.reduceSub, Nat.zero_add, Nat.reduceLeDiff, Nat.lt_add_one, Nat.zero_lt_succ, ↓oEq_int, ↓oNe_int, ↓oEq_str, ↓oNe_str, ↓oEq_bl, ↓oNe_bl, decide_eq_true_eq, Bool.false_eq_true, ↓u_while, ↓ownAt, List.all_cons, List.all_nil, Bool.and_true, List.getD_cons_zero, List.getD_cons_succ, Bool.not_false, ↓oLe_sign, sl_length]
      by_cases c1 : j < l.length
      · rw [if_pos (by omega)]
        by_cases c3 : j + 1 < l.length
        · rw [if_pos (by omega)]
          simp only [↓dSeq, ↓dNext, ↓dBreak, ↓dCont, ↓dNever, ↓dRet, ↓dRetN, ↓dDrop, ↓dSet, ↓dIf, ↓dAug, ↓dAsg, ↓dPar, ↓dVar, ↓dMove, ↓dC, ↓dFz, ↓dUp, ↓dNil, ↓dCons, ↓dTup, ↓dLst, ↓dBin, ↓dUn, ↓dChain, ↓dTest, ↓dAnd, ↓dOr, ↓dNot, ↓dAndV, ↓dOrV, ↓dNotV, ↓dIfE, ↓dgName, ↓dgNil, ↓dgCons, ↓dgTup, ↓dIt, ↓dRng1, ↓dRng2, ↓dZip, ↓dEnum, ↓u_for, ↓u_lc, ↓dYes, ↓u_call, ↓u_callF, ↓u_callIo, ↓dCB, ↓dCBF, ↓dBinS, ↓dLenS, ↓dSl, ↓dSlS, ↓dNo, ↓dPt, ↓dStL, ↓dApp, ↓dExt, ↓dJoin, ↓dRg1, ↓dRg2, ↓dTupRg, ↓dLstRg, ↓oSub, ↓oMulI, ↓oMul, ↓oFdiv, ↓oMod, ↓oPow, ↓oShr, ↓oXor, ↓oNeg, ↓oAdd, ↓oAug, ↓oLt, ↓oLe, ↓oGt, ↓oGe, ↓oI, ↓oIx, ↓oLen, ↓oInt, ↓oOrd, ↓oAbs, ↓oStL, ↓oIn, ↓oNin, ↓oInB, ↓isi_int, ↓isi_int_bl, ↓isi_int_str, ↓isi_int_tup, ↓isi_int_lst, ↓isi_str, ↓isi_str_int, ↓isi_tup, ↓isi_tup_int, ↓isi_tup_str, ↓isi_tup_lst, ↓isi_lst, ↓isi_lst_tup, ↓isi_lst_int, ↓isi_lst_str, ↓cv, ↓Cell.val, ↓Cell.up, ↓Cell.own, ↓lenD, ↓itemsOf, List.getElem?_cons_zero, List.getElem?_cons_succ, List.set_cons_zero, List.set_cons_succ, Option.bind_some, Option.isSome_some, List.length_cons, List.length_nil, true_and, and_true, ↓ixN_lit, ↓atI_lit, ↓reduceIte, Nat.reduceAdd, Nat.reduceLT, Nat.reduceSub, Nat.zero_add, Nat.reduceLeDiff, Nat.lt_add_one, Nat.zero_lt_succ, ↓oEq_int, ↓oNe_int, ↓oEq_str, ↓oNe_str, ↓oEq_bl, ↓oNe_bl, decide_eq_true_eq, Bool.false_eq_true, ↓u_while, ↓ownAt, List.all_cons, List.all_nil, Bool.and_true, List.getD_cons_zero, List.getD_cons_succ, Bool.not_false, ↓oLe_sign, ej, atI_natE, sl_at c1, sl_at c3]
          by_cases c2 : nm l (j + 1) = nm l j
          · simp only [c2, decide_true, Bool.not_true, ↓dSeq, ↓dNext, ↓dBreak, ↓dCont, ↓dNever, ↓dRet, ↓dRetN, ↓dDrop, ↓dSet, ↓dIf, ↓dAug, ↓dAsg, ↓dPar, ↓dVar, ↓dMove, ↓dC, ↓dFz, ↓dUp, ↓dNil, ↓dCons, ↓dTup, ↓dLst, ↓dBin, ↓dUn, ↓dChain, ↓dTest, ↓dAnd, ↓dOr, ↓dNot, ↓dAndV, ↓dOrV, ↓dNotV, ↓dIfE, ↓dgName, ↓dgNil, ↓dgCons, ↓dgTup, ↓dIt, ↓dRng1, ↓dRng2, ↓dZip, ↓dEnum, ↓u_for, ↓u_lc, ↓dYes, ↓u_call, ↓u_callF, ↓u_callIo, ↓dCB, ↓dCBF, ↓dBinS, ↓dLenS, ↓dSl, ↓dSlS, ↓dNo, ↓dPt, ↓dStL, ↓dApp, ↓dExt, ↓dJoin, ↓dRg1, ↓dRg2, ↓dTupRg, ↓dLstRg, ↓oSub, ↓oMulI, ↓oMul, ↓oFdiv, ↓oMod, ↓oPow, ↓oShr, ↓oXor, ↓oNeg, ↓oAdd, ↓oAug, ↓oLt, ↓oLe, ↓oGt, ↓oGe, ↓oI, ↓oIx, ↓oLen, ↓oInt, ↓oOrd, ↓oAbs, ↓oStL, ↓oIn, ↓oNin, ↓oInB, ↓isi_int, ↓isi_int_bl, ↓isi_int_str, ↓isi_int_tup, ↓isi_int_lst, ↓isi_str, ↓isi_str_int, ↓isi_tup, ↓isi_tup_int, ↓isi_tup_str, ↓isi_tup_lst, ↓isi_lst, ↓isi_lst_tup, ↓isi_lst_int, ↓isi_lst_str, ↓cv, ↓Cell.val, ↓Cell.up, ↓Cell.own, ↓lenD, ↓itemsOf, List.getElem?_cons_zero, List.getElem?_cons_succ, List.set_cons_zero, List.set_cons_succ, Option.bind_some, Option.isSome_some, List.length_cons, List.length_nil, true_and, and_true, ↓ixN_lit, ↓atI_lit, ↓reduceIte, Nat.reduceAdd, Nat.reduceLT, Nat.reduceSub, Nat.zero_add, Nat.reduceLeDiff, Nat.lt_add_one, Nat.zero_lt_succ, ↓oEq_int, ↓oNe_int, ↓oEq_str, ↓oNe_str, ↓oEq_bl, ↓oNe_bl, decide_eq_true_eq, Bool.false_eq_true, ↓u_while, ↓ownAt, List.all_cons, List.all_nil, Bool.and_true, List.getD_cons_zero, List.getD_cons_succ, Bool.not_false, ↓oLe_sign]
            refine hE _ ?_
            rw [← hj, scan_end (by unfold pAlt; rw [decide_eq_true c3, decide_eq_true c2]; simp)]
          · simp only [c2, decide_false, Bool.not_false, ↓dSeq, ↓dNext, ↓dBreak, ↓dCont, ↓dNever, ↓dRet, ↓dRetN, ↓dDrop, ↓dSet, ↓dIf, ↓dAug, ↓dAsg, ↓dPar, ↓dVar, ↓dMove, ↓dC, ↓dFz, ↓dUp, ↓dNil, ↓dCons, ↓dTup, ↓dLst, ↓dBin, ↓dUn, ↓dChain, ↓dTest, ↓dAnd, ↓dOr, ↓dNot, ↓dAndV, ↓dOrV, ↓dNotV, ↓dIfE, ↓dgName, ↓dgNil, ↓dgCons, ↓dgTup, ↓dIt, ↓dRng1, ↓dRng2, ↓dZip, ↓dEnum, ↓u_for, ↓u_lc, ↓dYes, ↓u_call, ↓u_callF, ↓u_callIo, ↓dCB, ↓dCBF, ↓dBinS, ↓dLenS, ↓dSl, ↓dSlS, ↓dNo, ↓dPt, ↓dStL, ↓dApp, ↓dExt, ↓dJoin, ↓dRg1, ↓dRg2, ↓dTupRg, ↓dLstRg, ↓oSub, ↓oMulI, ↓oMul, ↓oFdiv, ↓oMod, ↓oPow, ↓oShr, ↓oXor, ↓oNeg, ↓oAdd, ↓oAug, ↓oLt, ↓oLe, ↓oGt, ↓oGe, ↓oI, ↓oIx, ↓oLen, ↓oInt, ↓oOrd, ↓oAbs, ↓oStL, ↓oIn, ↓oNin, ↓oInB, ↓isi_int, ↓isi_int_bl, ↓isi_int_str, ↓isi_int_tup, ↓isi_int_lst, ↓isi_str, ↓isi_str_int, ↓isi_tup, ↓isi_tup_int, ↓isi_tup_str, ↓isi_tup_lst, ↓isi_lst, ↓isi_lst_tup, ↓isi_lst_int, ↓isi_lst_str, ↓cv, ↓Cell.val, ↓Cell.up, ↓Cell.own, ↓lenD, ↓itemsOf, List.getElem?_cons_zero, List.getElem?_cons_succ, List.set_cons_zero, List.set_cons_succ, Option.bind_some, Option.isSome_some, List.length_cons, List.length_nil, true_and, and_true, ↓ixN_lit, ↓atI_lit, ↓reduceIte, Nat.reduceAdd, Nat.reduceLT, Nat.reduceSub, Nat.zero_add, Nat.reduceLeDiff, Nat.lt_add_one, Nat.zero_lt_succ, ↓oEq_int, ↓oNe_int, ↓oEq_str, ↓oNe_str, ↓oEq_bl, ↓oNe_bl, decide_eq_true_eq, Bool.false_eq_true, ↓u_while, ↓ownAt, List.all_cons, List.all_nil, Bool.and_true, List.getD_cons_zero, List.getD_cons_succ, Bool.not_false, ↓oLe_sign]
            refine ⟨_, (by omega : l.length - (j + 1) < l.length - j), j + 1, rfl, ?_, rfl⟩
            rw [← hj]
            exact (scan_one (by unfold pAlt; rw [decide_eq_true c1, decide_eq_false c2]; simp) c1).symm
        · rw [if_neg (by omega)]
          simp only [↓dSeq, ↓dNext, ↓dBreak, ↓dCont, ↓dNever, ↓dRet, ↓dRetN, ↓dDrop, ↓dSet, ↓dIf, ↓dAug, ↓dAsg, ↓dPar, ↓dVar, ↓dMove, ↓dC, ↓dFz, ↓dUp, ↓dNil, ↓dCons, ↓dTup, ↓dLst, ↓dBin, ↓dUn, ↓dChain, ↓dTest, ↓dAnd, ↓dOr, ↓dNot, ↓dAndV, ↓dOrV, ↓dNotV, ↓dIfE, ↓dgName, ↓dgNil, ↓dgCons, ↓dgTup, ↓dIt, ↓dRng1, ↓dRng2, ↓dZip, ↓dEnum, ↓u_for, ↓u_lc, ↓dYes, ↓u_call, ↓u_callF, ↓u_callIo, ↓dCB, ↓dCBF, ↓dBinS, ↓dLenS, ↓dSl, ↓dSlS, ↓dNo, ↓dPt, ↓dStL, ↓dApp, ↓dExt, ↓dJoin, ↓dRg1, ↓dRg2, ↓dTupRg, ↓dLstRg, ↓oSub, ↓oMulI, ↓oMul, ↓oFdiv, ↓oMod, ↓oPow, ↓oShr, ↓oXor, ↓oNeg, ↓oAdd, ↓oAug, ↓oLt, ↓oLe, ↓oGt, ↓oGe, ↓oI, ↓oIx, ↓oLen, ↓oInt, ↓oOrd, ↓oAbs, ↓oStL, ↓oIn, ↓oNin, ↓oInB, ↓isi_int, ↓isi_int_bl, ↓isi_int_str, ↓isi_int_tup, ↓isi_int_lst, ↓isi_str, ↓isi_str_int, ↓isi_tup, ↓isi_tup_int, ↓isi_tup_str, ↓isi_tup_lst, ↓isi_lst, ↓isi_lst_tup, ↓isi_lst_int, ↓isi_lst_str, ↓cv, ↓Cell.val, ↓Cell.up, ↓Cell.own, ↓lenD, ↓itemsOf, List.getElem?_cons_zero, List.getElem?_cons_succ, List.set_cons_zero, List.set_cons_succ, Option.bind_some, Option.isSome_some, List.length_cons, List.length_nil, true_and, and_true, ↓ixN_lit, ↓atI_lit, ↓reduceIte, Nat.reduceAdd, Nat.reduceLT, Nat.reduceSub, Nat.zero_add, Nat.reduceLeDiff, Nat.lt_add_one, Nat.zero_lt_succ, ↓oEq_int, ↓oNe_int, ↓oEq_str, ↓oNe_str, ↓oEq_bl, ↓oNe_bl, decide_eq_true_eq, Bool.false_eq_true, ↓u_while, ↓ownAt, List.all_cons, List.all_nil, Bool.and_true, List.getD_cons_zero, List.getD_cons_succ, Bool.not_false, ↓oLe_sign, ej]
          refine ⟨_, (by omega : l.length - (j + 1) < l.length - j), j + 1, rfl, ?_, rfl⟩
          rw [← hj]
          exact (scan_one (by unfold pAlt; rw [decide_eq_true c1, decide_eq_false c3]; simp) c1).symm
      · rw [if_neg (by omega)]
        refine hE _ ?_
        rw [← hj, scan_end (by unfold pAlt; rw [decide_eq_false c1]; simp)]
    by_cases c1 : b + 1 < l.length
    · rw [if_pos (by omega)]
      simp only [atI_natE, sl_at hb, sl_at c1, ↓dSeq, ↓dNext, ↓dBreak, ↓dCont, ↓dNever, ↓dRet, ↓dRetN, ↓dDrop, ↓dSet, ↓dIf, ↓dAug, ↓dAsg, ↓dPar, ↓dVar, ↓dMove, ↓dC, ↓dFz, ↓dUp, ↓dNil, ↓dCons, ↓dTup, ↓dLst, ↓dBin, ↓dUn, ↓dChain, ↓dTest, ↓dAnd, ↓dOr, ↓dNot, ↓dAndV, ↓dOrV, ↓dNotV, ↓dIfE, ↓dgName, ↓dgNil, ↓dgCons, ↓dgTup, ↓dIt, ↓dRng1, ↓dRng2, ↓dZip, ↓dEnum, ↓u_for, ↓u_lc, ↓dYes, ↓u_call, ↓u_callF, ↓u_callIo, ↓dCB, ↓dCBF, ↓dBinS, ↓dLenS, ↓dSl, ↓dSlS, ↓dNo, ↓dPt, ↓dStL, ↓dApp, ↓dExt, ↓dJoin, ↓dRg1, ↓dRg2, ↓dTupRg, ↓dLstRg, ↓oSub, ↓oMulI, ↓oMul, ↓oFdiv, ↓oMod, ↓oPow, ↓oShr, ↓oXor, ↓oNeg, ↓oAdd, ↓oAug, ↓oLt, ↓oLe, ↓oGt, ↓oGe, ↓oI, ↓oIx, ↓oLen, ↓oInt, ↓oOrd, ↓oAbs, ↓oStL, ↓oIn, ↓oNin, ↓oInB, ↓isi_int, ↓isi_int_bl, ↓isi_int_str, ↓isi_int_tup, ↓isi_int_lst, ↓isi_str, ↓isi_str_int, ↓isi_tup, ↓isi_tup_int, ↓isi_tup_str, ↓isi_tup_lst, ↓isi_lst, ↓isi_lst_tup, ↓isi_lst_int, ↓isi_lst_str, ↓cv, ↓Cell.val, ↓Cell.up, ↓Cell.own, ↓lenD, ↓itemsOf, List.getElem?_cons_zero, List.getElem?_cons_succ, List.set_cons_zero, List.set_cons_succ, Option.bind_some, Option.isSome_some, List.length_cons, List.length_nil, true_and, and_true, ↓ixN_lit, ↓atI_lit, ↓reduceIte, Nat.reduceAdd, Nat.reduceLT, Nat.reduceSub, Nat.zero_add, Nat.reduceLeDiff, Nat.lt_add_one, Nat.zero_lt_succ, ↓oEq_int, ↓oNe_int, ↓oEq_str, ↓oNe_str, ↓oEq_bl, ↓oNe_bl, decide_eq_true_eq, Bool.false_eq_true, ↓u_while, ↓ownAt, List.all_cons, List.all_nil, Bool.and_true, List.getD_cons_zero, List.getD_cons_succ, Bool.not_false, ↓oLe_sign]
      by_cases c2 : nm l (b + 1) = nm l b
      · rw [if_pos c2]
        refine wRun _ (b + 1) (by omega) fun ρ' e => ?_
        subst e
        have es : scan (pRun l b) (l.length - (b + 1)) (b + 1) = stEnd l b := by
          unfold stEnd isRun
          rw [decide_eq_true c1, decide_eq_true c2] <;> rfl
        rw [es]
        exact fin _ _ _ fun ρ' h => h
      · rw [if_neg c2]
        refine wAlt _ (b + 1) (by omega) fun ρ' e => ?_
        subst e
        have es : scan (pAlt l) (l.length - (b + 1)) (b + 1) = stEnd l b := by
          unfold stEnd isRun
          rw [decide_eq_false c2]; simp
        rw [es]
        exact fin _ _ _ fun ρ' h => h
    · rw [if_neg (by omega)]
      refine wAlt _ (b + 1) (by omega) fun ρ' e => ?_
      subst e
      have es : scan (pAlt l) (l.length - (b + 1)) (b + 1) = stEnd l b := by
        unfold stEnd isRun
        rw [decide_eq_false c1]; simp
      rw [es]
      exact fin _ _ _ fun ρ' h => h
  · rw [if_neg (by omega)]
    rw [stL_nil hb, List.append_nil] at hacc
    rw [hacc]
    exact post _ _ ⟨rfl, rfl⟩
end DL


namespace DL
open PySem PySem.Spec PyProof.Rows L2

/-! ### numbers of names tell them apart -/
theorem num_concat (l : List Nat) (c : Nat) : num (l ++ [c]) = num l * 128 + c := by
  unfold num
  rw [List.foldl_append] <;> rfl
theorem snoc_of {α : Type} (l : List α) : l = [] ∨ ∃ r c, l = r ++ [c] := by
  cases l with
  | nil => exact .inl rfl
  | cons a t => exact .inr ⟨(a :: t).dropLast, (a :: t).getLast (List.cons_ne_nil _ _), (List.dropLast_concat_getLast _).symm⟩
theorem num_inj : ∀ (n : Nat) (x y : List Nat), x.length ≤ n → Signs x → Signs y → num x = num y → x = y := by
  intro n
  induction n with
  | zero =>
    intro x y h hx hy e
    have : x = [] := List.eq_nil_of_length_eq_zero (by omega)
    subst this
    rcases snoc_of y with q | ⟨r, c, q⟩
    · exact q.symm
    · subst q
      rw [num_concat] at e
      have := (hy c (by simp)).1
      have e0 : num [] = 0 := rfl
      omega
  | succ n ih =>
    intro x y h hx hy e
    rcases snoc_of x with q | ⟨r, c, q⟩
    · subst q
      rcases snoc_of y with q | ⟨r, c, q⟩
      · exact q.symm
      · subst q
        rw [num_concat] at e
        have := (hy c (by simp)).1
        have e0 : num [] = 0 := rfl
        omega
    · subst q
      rcases snoc_of y with q | ⟨r2, c2, q⟩
      · subst q
        rw [num_concat] at e
        have := (hx c (by simp)).1
        have e0 : num [] = 0 := rfl
        omega
      · subst q
        rw [num_concat, num_concat] at e
        have h1 := hx c (by simp)
        have h2 := hy c2 (by simp)
        have ec : c = c2 := by omega
        have er : num r = num r2 := by omega
        rw [List.length_append] at h
        have := ih r r2 (by simp at h; omega) (fun z hz => hx z (by simp [hz])) (fun z hz => hy z (by simp [hz])) er
        rw [this, ec]
/-- every name's signs are plain -/
def SignsL (l : List (List Nat)) : Prop := ∀ x ∈ l, Signs x
theorem nm_mem {l : List (List Nat)} {i : Nat} (h : i < l.length) : nm l i ∈ l := by
  unfold nm
  rw [List.getD_eq_getElem?_getD, List.getElem?_eq_getElem h]
  exact List.getElem_mem h
theorem unl_of : ∀ {xs : List Nat}, (∀ i, i + 1 < xs.length → xs.getD i 0 ≠ xs.getD (i + 1) 0) → Unl xs
  | [], _ => trivial
  | [_], _ => trivial
  | a :: b :: r, h => ⟨h 0 (by simp), unl_of (xs := b :: r) fun i hi => by
      have := h (i + 1) (by simp at hi ⊢; omega)
      simpa using this⟩
/-- the part from b to e -/
def part (l : List (List Nat)) (b e : Nat) : List (List Nat) := (l.drop b).take (e - b)
theorem part_length {l : List (List Nat)} {b e : Nat} (h : e ≤ l.length) : (part l b e).length = e - b := by
  unfold part
  rw [List.length_take, List.length_drop]; omega
theorem part_nm {l : List (List Nat)} {b e i : Nat} (h : e ≤ l.length) (hi : i < e - b) : nm (part l b e) i = nm l (b + i) := by
  unfold nm part
  rw [List.getD_eq_getElem?_getD, List.getD_eq_getElem?_getD, List.getElem?_take_of_lt hi, List.getElem?_drop]
theorem part_num {l : List (List Nat)} {b e i : Nat} (h : e ≤ l.length) (hi : i < e - b) : ((part l b e).map num).getD i 0 = num (nm l (b + i)) := by
  have hl : i < (part l b e).length := by rw [part_length h]; exact hi
  rw [List.getD_eq_getElem?_getD, List.getElem?_map, ← part_nm h hi, nm, List.getD_eq_getElem?_getD, List.getElem?_eq_getElem hl] <;> rfl
/-- in a stretch of unlike names neighbours differ -/
theorem alt_ne {l : List (List Nat)} {b : Nat} (hb : b < l.length) (hr : isRun l b = false) {j : Nat} (h1 : b ≤ j) (h2 : j + 1 < stEnd l b) : nm l j ≠ nm l (j + 1) := by
  have hle := stEnd_le hb
  by_cases e : j = b
  · subst e
    intro z
    unfold isRun at hr
    rw [decide_eq_true (by omega : j + 1 < l.length), decide_eq_true z.symm] at hr
    cases hr
  · unfold stEnd at h2 hle
    rw [hr, if_neg Bool.false_ne_true] at h2 hle
    have := scan_mem (pAlt l) _ _ j (by omega) (by omega : j < scan (pAlt l) (l.length - (b + 1)) (b + 1))
    unfold pAlt at this
    intro z
    rw [decide_eq_true (by omega : j + 1 < l.length), decide_eq_true z.symm] at this
    simp at this
theorem part_unl {l : List (List Nat)} {b : Nat} (hs : SignsL l) (hb : b < l.length) (hr : isRun l b = false) : Unl ((part l b (stEnd l b)).map num) := by
  have hle := stEnd_le hb
  refine unl_of fun i hi => ?_
  rw [List.length_map, part_length hle] at hi
  rw [part_num hle (by omega), part_num hle (by omega)]
  intro e
  have e2 := num_inj _ _ _ (Nat.le_refl _) (hs _ (nm_mem (by omega))) (hs _ (nm_mem (by omega))) e
  exact alt_ne hb hr (by omega) (by omega) e2
/-! ### the groups -/
def grp (l : List (List Nat)) (p : Nat × Nat) : List Nat := p.1 :: (if 2 < p.2 - p.1 ∧ nm l p.1 ≠ nm l (p.1 + 1) then (peaksL (coinsL (part l p.1 p.2))).map (p.1 + ·) else [])
def groupsL (l : List (List Nat)) : List Nat := (stL l 0).flatMap (grp l)
theorem coinsL_length (xs : List (List Nat)) : (coinsL xs).length = xs.length := by
  unfold coinsL
  rw [iterL_length, List.length_map]
theorem peaksL_length (row : List Nat) : (peaksL row).length ≤ row.length - 2 := by
  unfold peaksL
  have := List.length_filter_le (pk row) ((List.range (row.length - 2)).map (· + 1))
  rw [List.length_map, List.length_range] at this
  exact this
theorem grp_length {l : List (List Nat)} {b : Nat} (hb : b < l.length) : (grp l (b, stEnd l b)).length ≤ stEnd l b - b ∧ (2 ≤ stEnd l b - b → (grp l (b, stEnd l b)).length < stEnd l b - b) := by
  have hle := stEnd_le hb
  have g := stEnd_gt l b
  have eg : grp l (b, stEnd l b) = b :: (if 2 < stEnd l b - b ∧ nm l b ≠ nm l (b + 1) then (peaksL (coinsL (part l b (stEnd l b)))).map (b + ·) else []) := rfl
  rw [eg]
  by_cases c : 2 < stEnd l b - b ∧ nm l b ≠ nm l (b + 1)
  · rw [if_pos c, List.length_cons, List.length_map]
    have h1 := peaksL_length (coinsL (part l b (stEnd l b)))
    rw [coinsL_length, part_length hle] at h1
    omega
  · rw [if_neg c]
    simp
    omega
theorem flat_length {l : List (List Nat)} : ∀ (d b : Nat), l.length - b ≤ d → b ≤ l.length → ((stL l b).flatMap (grp l)).length ≤ l.length - b
  | 0, b, h, hl => by rw [stL_nil (by omega)]; exact Nat.zero_le _
  | d + 1, b, h, hl => by
    by_cases hb : b < l.length
    · rw [stL_cons hb, List.flatMap_cons, List.length_append]
      have g := stEnd_gt l b
      have ih := flat_length (l := l) d (stEnd l b) (by omega) (stEnd_le hb)
      have q := (grp_length hb).1
      have := stEnd_le hb
      omega
    · rw [stL_nil hb]; exact Nat.zero_le _
theorem flat_lt {l : List (List Nat)} : ∀ (d b : Nat), l.length - b ≤ d → b + 2 ≤ l.length → ((stL l b).flatMap (grp l)).length < l.length - b
  | 0, b, h, hl => by omega
  | d + 1, b, h, hl => by
    have hb : b < l.length := by omega
    rw [stL_cons hb, List.flatMap_cons, List.length_append]
    have g := stEnd_gt l b
    have hle := stEnd_le hb
    have ih0 := flat_length (l := l) l.length (stEnd l b) (by omega) hle
    obtain ⟨q1, q2⟩ := grp_length hb
    by_cases c : 2 ≤ stEnd l b - b
    · have := q2 c
      omega
    · have e1 : stEnd l b = b + 1 := by omega
      -- the next stretch is a run
      have hr : isRun l b = false := by
        cases q : isRun l b with
        | false => rfl
        | true =>
          have e2 := e1
          unfold stEnd at e2
          rw [q, if_pos rfl] at e2
          unfold isRun at q
          simp only [Bool.and_eq_true, decide_eq_true_eq] at q
          have hp : pRun l b (b + 1) = true := by
            unfold pRun
            rw [decide_eq_true q.1, decide_eq_true q.2] <;> rfl
          rw [scan_one hp q.1] at e2
          have := scan_ge (pRun l b) (l.length - (b + 1 + 1)) (b + 1 + 1)
          omega
      have e2 := e1
      unfold stEnd at e2
      rw [hr, if_neg Bool.false_ne_true] at e2
      have hst := scan_stop (pAlt l) (n := l.length) (fun e h => by unfold pAlt at h; simp only [Bool.and_eq_true, decide_eq_true_eq] at h; exact h.1) (l.length - (b + 1)) (b + 1) (Nat.le_refl _)
      rw [e2] at hst
      unfold pAlt at hst
      rw [decide_eq_true (by omega : b + 1 < l.length)] at hst
      have h3 : b + 1 + 1 < l.length := by
        by_cases z : b + 1 + 1 < l.length
        · exact z
        · rw [decide_eq_false z] at hst
          simp at hst
      have ih := flat_lt (l := l) d (b + 1) (by omega) (by omega)
      rw [e1] at q1 ⊢
      omega
theorem groupsL_lt {l : List (List Nat)} (h : 2 ≤ l.length) : (groupsL l).length < l.length := by
  have := flat_lt (l := l) l.length 0 (by omega) (by omega)
  simpa [groupsL] using this
theorem groupsL_le (l : List (List Nat)) : (groupsL l).length ≤ l.length := by
  have := flat_length (l := l) l.length 0 (by omega) (by omega)
  simpa [groupsL] using this
theorem mem_stL {l : List (List Nat)} : ∀ (d b : Nat) (p : Nat × Nat), l.length - b ≤ d → p ∈ stL l b → b ≤ p.1 ∧ p.1 < l.length ∧ p.2 = stEnd l p.1
  | 0, b, p, h, hp => by rw [stL_nil (by omega)] at hp; cases hp
  | d + 1, b, p, h, hp => by
    by_cases hb : b < l.length
    · rw [stL_cons hb] at hp
      have g := stEnd_gt l b
      rcases List.mem_cons.mp hp with e | hp
      · subst e; exact ⟨Nat.le_refl _, hb, rfl⟩
      · obtain ⟨h1, h2, h3⟩ := mem_stL d (stEnd l b) p (by omega) hp
        exact ⟨by omega, h2, h3⟩
    · rw [stL_nil hb] at hp; cases hp
theorem mem_peaks {row : List Nat} {i : Nat} : i ∈ peaksL row ↔ 1 ≤ i ∧ i + 1 < row.length ∧ pk row i = true := by
  unfold peaksL
  rw [List.mem_filter, List.mem_map]
  constructor
  · rintro ⟨⟨j, hj, rfl⟩, h⟩
    have := List.mem_range.mp hj
    exact ⟨by omega, by omega, h⟩
  · rintro ⟨h1, h2, h3⟩
    exact ⟨⟨i - 1, List.mem_range.mpr (by omega), by omega⟩, h3⟩
theorem mem_groups {l : List (List Nat)} {p : Nat} : p ∈ groupsL l ↔ ∃ b, (b, stEnd l b) ∈ stL l 0 ∧ (p = b ∨ (b < p ∧ p + 1 < stEnd l b ∧ nm l b ≠ nm l (b + 1) ∧ pk (coinsL (part l b (stEnd l b))) (p - b) = true)) := by
  unfold groupsL
  rw [List.mem_flatMap]
  constructor
  · rintro ⟨⟨b, e⟩, hm, hp⟩
    obtain ⟨-, hb, he⟩ := mem_stL l.length 0 _ (by omega) hm
    simp only at he hb
    subst he
    refine ⟨b, hm, ?_⟩
    unfold grp at hp
    rcases List.mem_cons.mp hp with e | hp
    · exact .inl e
    · right
      by_cases c : 2 < stEnd l b - b ∧ nm l b ≠ nm l (b + 1)
      · rw [if_pos c] at hp
        obtain ⟨i, hi, rfl⟩ := List.mem_map.mp hp
        obtain ⟨i1, i2, i3⟩ := mem_peaks.mp hi
        rw [coinsL_length, part_length (stEnd_le hb)] at i2
        exact ⟨by omega, by omega, c.2, by rw [Nat.add_sub_cancel_left]; exact i3⟩
      · rw [if_neg c] at hp; cases hp
  · rintro ⟨b, hm, h⟩
    obtain ⟨-, hb, -⟩ := mem_stL l.length 0 _ (by omega) hm
    simp only at hb
    refine ⟨_, hm, ?_⟩
    unfold grp
    rcases h with e | ⟨h1, h2, h3, h4⟩
    · rw [e]; exact List.mem_cons_self ..
    · refine List.mem_cons_of_mem _ ?_
      rw [if_pos ⟨by show 2 < stEnd l b - b; omega, h3⟩]
      exact List.mem_map.mpr ⟨p - b, mem_peaks.mpr ⟨by omega, by rw [coinsL_length, part_length (stEnd_le hb)]; omega, h4⟩, by omega⟩
theorem groups_lt {l : List (List Nat)} {p : Nat} (h : p ∈ groupsL l) : p < l.length := by
  obtain ⟨b, hm, h⟩ := mem_groups.mp h
  obtain ⟨-, hb, -⟩ := mem_stL l.length 0 _ (by omega) hm
  simp only at hb
  have := stEnd_le hb
  rcases h with e | h
  · omega
  · omega
def S_groups_of : FnSpec := fnSpec 1 true (fun l : List (List Nat) => [.tup (sl l)]) (fun l => SignsL l ∧ l.length ≤ 1000000) fun l => .lst (il (groupsL l))
/-- groups_of: slots 0 names, 1 found, 2 begin, 3 end, 4 at -/
def D_groups_of : DTS := (dSeq (dSet 1 (dLst dNil)) (dSeq (dFor (dIt (dFz (dCallF S_stretches (dCons (dVar 0) dNil)))) (dgTup 2 (dgCons (dgName 2) (dgCons (dgName 3) dgNil))) (dSeq (dApp 1 (dVar 2)) (dIf (dAnd (dTest (dBin oGt (dBin oSub (dVar 3) (dVar 2)) (dC (.int 2)))) (dTest (dBin oNe (dBinS 0 oIx (dVar 2)) (dBinS 0 oIx (dBin oAdd (dVar 2) (dC (.int 1))))))) (dExt 1 (dFz (dLc (dIt (dFz (dCallF S_peaks (dCons (dFz (dCallF S_coins_of (dCons (dSlS 0 (dPt (dVar 2)) (dPt (dVar 3))) dNil))) dNil)))) (dgName 4) dYes (dBin oAdd (dVar 2) (dVar 4)) [4]))) dNext))) (dRet (dMove 1))))
theorem il_append (xs ys : List Nat) : il xs ++ il ys = il (xs ++ ys) := by simp [il]
theorem sl_cut (l : List (List Nat)) (b e : Nat) : cutG (sl l) (some (b : Int)) (some (e : Int)) = sl (part l b e) := by
  unfold sl part
  rw [cutG_map, cutG_nat]
theorem sem_groups_of : ∀ ds Kd, S_groups_of.ds ds Kd → D_groups_of (endsOf S_groups_of Kd) (env0 5 [false] ds) := by
  rintro ds Kd ⟨l, rfl, ⟨hs, hz⟩, post⟩
  show D_groups_of (endsOf S_groups_of Kd) [.fz (.tup (sl l)), .un, .un, .un, .un]
  simp only [↓D_groups_of, ↓dSeq, ↓dNext, ↓dBreak, ↓dCont, ↓dNever, ↓dRet, ↓dRetN, ↓dDrop, ↓dSet, ↓dIf, ↓dAug, ↓dAsg, ↓dPar, ↓dVar, ↓dMove, ↓dC, ↓dFz, ↓dUp, ↓dNil, ↓dCons, ↓dTup, ↓dLst, ↓dBin, ↓dUn, ↓dChain, ↓dTest, ↓dAnd, ↓dOr, ↓dNot, ↓dAndV, ↓dOrV, ↓dNotV, ↓dIfE, ↓dgName, ↓dgNil, ↓dgCons, ↓dgTup, ↓dIt, ↓dRng1, ↓dRng2, ↓dZip, ↓dEnum, ↓u_for, ↓u_lc, ↓dYes, ↓u_call, ↓u_callF, ↓u_callIo, ↓dCB, ↓dCBF, ↓dBinS, ↓dLenS, ↓dSl, ↓dSlS, ↓dNo, ↓dPt, ↓dStL, ↓dApp, ↓dExt, ↓dJoin, ↓dRg1, ↓dRg2, ↓dTupRg, ↓dLstRg, ↓oSub, ↓oMulI, ↓oMul, ↓oFdiv, ↓oMod, ↓oPow, ↓oShr, ↓oXor, ↓oNeg, ↓oAdd, ↓oAug, ↓oLt, ↓oLe, ↓oGt, ↓oGe, ↓oI, ↓oIx, ↓oLen, ↓oInt, ↓oOrd, ↓oAbs, ↓oStL, ↓oIn, ↓oNin, ↓oInB, ↓isi_int, ↓isi_int_bl, ↓isi_int_str, ↓isi_int_tup, ↓isi_int_lst, ↓isi_str, ↓isi_str_int, ↓isi_tup, ↓isi_tup_int, ↓isi_tup_str, ↓isi_tup_lst, ↓isi_lst, ↓isi_lst_tup, ↓isi_lst_int, ↓isi_lst_str, ↓cv, ↓Cell.val, ↓Cell.up, ↓Cell.own, ↓lenD, ↓itemsOf, List.getElem?_cons_zero, List.getElem?_cons_succ, List.set_cons_zero, List.set_cons_succ, Option.bind_some, Option.isSome_some, List.length_cons, List.length_nil, true_and, and_true, ↓ixN_lit, ↓atI_lit, ↓reduceIte, Nat.reduceAdd, Nat.reduceLT, Nat.reduceSub, Nat.zero_add, Nat.reduceLeDiff, Nat.lt_add_one, Nat.zero_lt_succ, ↓oEq_int, ↓oNe_int, ↓oEq_str, ↓oNe_str, ↓oEq_bl, ↓oNe_bl, decide_eq_true_eq, Bool.false_eq_true, ↓u_while, ↓ownAt, List.all_cons, List.all_nil, Bool.and_true, List.getD_cons_zero, List.getD_cons_succ, Bool.not_false, ↓oLe_sign]
  refine ⟨by decide, rfl, onF l rfl hz ?_⟩
  simp only [↓dSeq, ↓dNext, ↓dBreak, ↓dCont, ↓dNever, ↓dRet, ↓dRetN, ↓dDrop, ↓dSet, ↓dIf, ↓dAug, ↓dAsg, ↓dPar, ↓dVar, ↓dMove, ↓dC, ↓dFz, ↓dUp, ↓dNil, ↓dCons, ↓dTup, ↓dLst, ↓dBin, ↓dUn, ↓dChain, ↓dTest, ↓dAnd, ↓dOr, ↓dNot, ↓dAndV, ↓dOrV, ↓dNotV, ↓dIfE, ↓dgName, ↓dgNil, ↓dgCons, ↓dgTup, ↓dIt, ↓dRng1, ↓dRng2, ↓dZip, ↓dEnum, ↓u_for, ↓u_lc, ↓dYes, ↓u_call, ↓u_callF, ↓u_callIo, ↓dCB, ↓dCBF, ↓dBinS, ↓dLenS, ↓dSl, ↓dSlS, ↓dNo, ↓dPt, ↓dStL, ↓dApp, ↓dExt, ↓dJoin, ↓dRg1, ↓dRg2, ↓dTupRg, ↓dLstRg, ↓oSub, ↓oMulI, ↓oMul, ↓oFdiv, ↓oMod, ↓oPow, ↓oShr, ↓oXor, ↓oNeg, ↓oAdd, ↓oAug, ↓oLt, ↓oLe, ↓oGt, ↓oGe, ↓oI, ↓oIx, ↓oLen, ↓oInt, ↓oOrd, ↓oAbs, ↓oStL, ↓oIn, ↓oNin, ↓oInB, ↓isi_int, ↓isi_int_bl, ↓isi_int_str, ↓isi_int_tup, ↓isi_int_lst, ↓isi_str, ↓isi_str_int, ↓isi_tup, ↓isi_tup_int, ↓isi_tup_str, ↓isi_tup_lst, ↓isi_lst, ↓isi_lst_tup, ↓isi_lst_int, ↓isi_lst_str, ↓cv, ↓Cell.val, ↓Cell.up, ↓Cell.own, ↓lenD, ↓itemsOf, List.getElem?_cons_zero, List.getElem?_cons_succ, List.set_cons_zero, List.set_cons_succ, Option.bind_some, Option.isSome_some, List.length_cons, List.length_nil, true_and, and_true, ↓ixN_lit, ↓atI_lit, ↓reduceIte, Nat.reduceAdd, Nat.reduceLT, Nat.reduceSub, Nat.zero_add, Nat.reduceLeDiff, Nat.lt_add_one, Nat.zero_lt_succ, ↓oEq_int, ↓oNe_int, ↓oEq_str, ↓oNe_str, ↓oEq_bl, ↓oNe_bl, decide_eq_true_eq, Bool.false_eq_true, ↓u_while, ↓ownAt, List.all_cons, List.all_nil, Bool.and_true, List.getD_cons_zero, List.getD_cons_succ, Bool.not_false, ↓oLe_sign]
  have hlen0 := groupsL_le l
  refine forB_of (forW_inv (fun rest ρ => ∃ pre pst x2 x3, stL l 0 = pre ++ pst ∧ rest = pl2 pst ∧ ρ = [.fz (.tup (sl l)), .ow (.lst (il (pre.flatMap (grp l)))), x2, x3, .un]) ?_ ?_ _ _ ⟨[], stL l 0, .un, .un, rfl, rfl, rfl⟩)
  · rintro x xs ρ k ⟨pre, pst, x2, x3, e1, e2, rfl⟩ hk
    cases pst with
    | nil => cases e2
    | cons p pst =>
      obtain ⟨b, e⟩ := p
      cases e2
      have hm : (b, e) ∈ stL l 0 := by rw [e1]; simp
      obtain ⟨-, hb, he⟩ := mem_stL l.length 0 _ (by omega) hm
      simp only at hb he
      subst he
      have hle := stEnd_le hb
      have g := stEnd_gt l b
      have hlen : ((stL l 0).flatMap (grp l)).length = (pre.flatMap (grp l)).length + ((grp l (b, stEnd l b)).length + (pst.flatMap (grp l)).length) := by
        rw [e1, List.flatMap_append, List.flatMap_cons, List.length_append, List.length_append]
      have hlen0' : ((stL l 0).flatMap (grp l)).length ≤ l.length := hlen0
      have hg1 : 1 ≤ (grp l (b, stEnd l b)).length := by unfold grp; simp
      have nx : ∀ (q : List Nat), q = (pre ++ [(b, stEnd l b)]).flatMap (grp l) → k [.fz (.tup (sl l)), .ow (.lst (il q)), .fz (.int (b : Nat)), .fz (.int (stEnd l b : Nat)), .un] := by
        rintro q rfl
        exact hk _ ⟨pre ++ [(b, stEnd l b)], pst, _, _, by rw [e1]; simp, rfl, rfl⟩
      have ebi : ((b : Nat) : Int) + 1 = ((b + 1 : Nat) : Int) := by omega
      simp only [↓dSeq, ↓dNext, ↓dBreak, ↓dCont, ↓dNever, ↓dRet, ↓dRetN, ↓dDrop, ↓dSet, ↓dIf, ↓dAug, ↓dAsg, ↓dPar, ↓dVar, ↓dMove, ↓dC, ↓dFz, ↓dUp, ↓dNil, ↓dCons, ↓dTup, ↓dLst, ↓dBin, ↓dUn, ↓dChain, ↓dTest, ↓dAnd, ↓dOr, ↓dNot, ↓dAndV, ↓dOrV, ↓dNotV, ↓dIfE, ↓dgName, ↓dgNil, ↓dgCons, ↓dgTup, ↓dIt, ↓dRng1, ↓dRng2, ↓dZip, ↓dEnum, ↓u_for, ↓u_lc, ↓dYes, ↓u_call, ↓u_callF, ↓u_callIo, ↓dCB, ↓dCBF, ↓dBinS, ↓dLenS, ↓dSl, ↓dSlS, ↓dNo, ↓dPt, ↓dStL, ↓dApp, ↓dExt, ↓dJoin, ↓dRg1, ↓dRg2, ↓dTupRg, ↓dLstRg, ↓oSub, ↓oMulI, ↓oMul, ↓oFdiv, ↓oMod, ↓oPow, ↓oShr, ↓oXor, ↓oNeg, ↓oAdd, ↓oAug, ↓oLt, ↓oLe, ↓oGt, ↓oGe, ↓oI, ↓oIx, ↓oLen, ↓oInt, ↓oOrd, ↓oAbs, ↓oStL, ↓oIn, ↓oNin, ↓oInB, ↓isi_int, ↓isi_int_bl, ↓isi_int_str, ↓isi_int_tup, ↓isi_int_lst, ↓isi_str, ↓isi_str_int, ↓isi_tup, ↓isi_tup_int, ↓isi_tup_str, ↓isi_tup_lst, ↓isi_lst, ↓isi_lst_tup, ↓isi_lst_int, ↓isi_lst_str, ↓cv, ↓Cell.val, ↓Cell.up, ↓Cell.own, ↓lenD, ↓itemsOf, List.getElem?_cons_zero, List.getElem?_cons_succ, List.set_cons_zero, List.set_cons_succ, Option.bind_some, Option.isSome_some, List.length_cons, List.length_nil, true_and, and_true, ↓ixN_lit, ↓atI_lit, ↓reduceIte, Nat.reduceAdd, Nat.reduceLT, Nat.reduceSub, Nat.zero_add, Nat.reduceLeDiff, Nat.lt_add_one, Nat.zero_lt_succ, ↓oEq_int, ↓oNe_int, ↓oEq_str, ↓oNe_str, ↓oEq_bl, ↓oNe_bl, decide_eq_true_eq, Bool.false_eq_true, ↓u_while, ↓ownAt, List.all_cons, List.all_nil, Bool.and_true, List.getD_cons_zero, List.getD_cons_succ, Bool.not_false, ↓oLe_sign, ebi]
      refine ⟨⟨_, rfl⟩, by rw [il_length]; show _ < 16777216; omega, ?_⟩
      have el : (il (pre.flatMap (grp l)) ++ [D.int (b : Nat)]) = il (pre.flatMap (grp l) ++ [b]) := by simp [il]
      rw [el]
      by_cases c1 : 2 < stEnd l b - b
      · rw [if_pos (by omega)]
        simp only [↓dSeq, ↓dNext, ↓dBreak, ↓dCont, ↓dNever, ↓dRet, ↓dRetN, ↓dDrop, ↓dSet, ↓dIf, ↓dAug, ↓dAsg, ↓dPar, ↓dVar, ↓dMove, ↓dC, ↓dFz, ↓dUp, ↓dNil, ↓dCons, ↓dTup, ↓dLst, ↓dBin, ↓dUn, ↓dChain, ↓dTest, ↓dAnd, ↓dOr, ↓dNot, ↓dAndV, ↓dOrV, ↓dNotV, ↓dIfE, ↓dgName, ↓dgNil, ↓dgCons, ↓dgTup, ↓dIt, ↓dRng1, ↓dRng2, ↓dZip, ↓dEnum, ↓u_for, ↓u_lc, ↓dYes, ↓u_call, ↓u_callF, ↓u_callIo, ↓dCB, ↓dCBF, ↓dBinS, ↓dLenS, ↓dSl, ↓dSlS, ↓dNo, ↓dPt, ↓dStL, ↓dApp, ↓dExt, ↓dJoin, ↓dRg1, ↓dRg2, ↓dTupRg, ↓dLstRg, ↓oSub, ↓oMulI, ↓oMul, ↓oFdiv, ↓oMod, ↓oPow, ↓oShr, ↓oXor, ↓oNeg, ↓oAdd, ↓oAug, ↓oLt, ↓oLe, ↓oGt, ↓oGe, ↓oI, ↓oIx, ↓oLen, ↓oInt, ↓oOrd, ↓oAbs, ↓oStL, ↓oIn, ↓oNin, ↓oInB, ↓isi_int, ↓isi_int_bl, ↓isi_int_str, ↓isi_int_tup, ↓isi_int_lst, ↓isi_str, ↓isi_str_int, ↓isi_tup, ↓isi_tup_int, ↓isi_tup_str, ↓isi_tup_lst, ↓isi_lst, ↓isi_lst_tup, ↓isi_lst_int, ↓isi_lst_str, ↓cv, ↓Cell.val, ↓Cell.up, ↓Cell.own, ↓lenD, ↓itemsOf, List.getElem?_cons_zero, List.getElem?_cons_succ, List.set_cons_zero, List.set_cons_succ, Option.bind_some, Option.isSome_some, List.length_cons, List.length_nil, true_and, and_true, ↓ixN_lit, ↓atI_lit, ↓reduceIte, Nat.reduceAdd, Nat.reduceLT, Nat.reduceSub, Nat.zero_add, Nat.reduceLeDiff, Nat.lt_add_one, Nat.zero_lt_succ, ↓oEq_int, ↓oNe_int, ↓oEq_str, ↓oNe_str, ↓oEq_bl, ↓oNe_bl, decide_eq_true_eq, Bool.false_eq_true, ↓u_while, ↓ownAt, List.all_cons, List.all_nil, Bool.and_true, List.getD_cons_zero, List.getD_cons_succ, Bool.not_false, ↓oLe_sign, atI_natE, sl_at hb, sl_at (show b + 1 < l.length by omega)]
        by_cases c2 : nm l b ≠ nm l (b + 1)
        · rw [if_pos c2]
          have hr : isRun l b = false := by
            unfold isRun
            rw [show decide (nm l (b + 1) = nm l b) = false from decide_eq_false fun z => c2 z.symm]; simp
          simp only [↓dSeq, ↓dNext, ↓dBreak, ↓dCont, ↓dNever, ↓dRet, ↓dRetN, ↓dDrop, ↓dSet, ↓dIf, ↓dAug, ↓dAsg, ↓dPar, ↓dVar, ↓dMove, ↓dC, ↓dFz, ↓dUp, ↓dNil, ↓dCons, ↓dTup, ↓dLst, ↓dBin, ↓dUn, ↓dChain, ↓dTest, ↓dAnd, ↓dOr, ↓dNot, ↓dAndV, ↓dOrV, ↓dNotV, ↓dIfE, ↓dgName, ↓dgNil, ↓dgCons, ↓dgTup, ↓dIt, ↓dRng1, ↓dRng2, ↓dZip, ↓dEnum, ↓u_for, ↓u_lc, ↓dYes, ↓u_call, ↓u_callF, ↓u_callIo, ↓dCB, ↓dCBF, ↓dBinS, ↓dLenS, ↓dSl, ↓dSlS, ↓dNo, ↓dPt, ↓dStL, ↓dApp, ↓dExt, ↓dJoin, ↓dRg1, ↓dRg2, ↓dTupRg, ↓dLstRg, ↓oSub, ↓oMulI, ↓oMul, ↓oFdiv, ↓oMod, ↓oPow, ↓oShr, ↓oXor, ↓oNeg, ↓oAdd, ↓oAug, ↓oLt, ↓oLe, ↓oGt, ↓oGe, ↓oI, ↓oIx, ↓oLen, ↓oInt, ↓oOrd, ↓oAbs, ↓oStL, ↓oIn, ↓oNin, ↓oInB, ↓isi_int, ↓isi_int_bl, ↓isi_int_str, ↓isi_int_tup, ↓isi_int_lst, ↓isi_str, ↓isi_str_int, ↓isi_tup, ↓isi_tup_int, ↓isi_tup_str, ↓isi_tup_lst, ↓isi_lst, ↓isi_lst_tup, ↓isi_lst_int, ↓isi_lst_str, ↓cv, ↓Cell.val, ↓Cell.up, ↓Cell.own, ↓lenD, ↓itemsOf, List.getElem?_cons_zero, List.getElem?_cons_succ, List.set_cons_zero, List.set_cons_succ, Option.bind_some, Option.isSome_some, List.length_cons, List.length_nil, true_and, and_true, ↓ixN_lit, ↓atI_lit, ↓reduceIte, Nat.reduceAdd, Nat.reduceLT, Nat.reduceSub, Nat.zero_add, Nat.reduceLeDiff, Nat.lt_add_one, Nat.zero_lt_succ, ↓oEq_int, ↓oNe_int, ↓oEq_str, ↓oNe_str, ↓oEq_bl, ↓oNe_bl, decide_eq_true_eq, Bool.false_eq_true, ↓u_while, ↓ownAt, List.all_cons, List.all_nil, Bool.and_true, List.getD_cons_zero, List.getD_cons_succ, Bool.not_false, ↓oLe_sign, oSl, sl_cut]
          refine ⟨⟨_, rfl⟩, rfl, onF (part l b (stEnd l b)) rfl ⟨fun z => ?_, part_unl hs hb hr, by rw [part_length hle]; omega⟩ ?_⟩
          · have := congrArg List.length z
            rw [part_length hle] at this
            simp at this; omega
          · simp only [↓dSeq, ↓dNext, ↓dBreak, ↓dCont, ↓dNever, ↓dRet, ↓dRetN, ↓dDrop, ↓dSet, ↓dIf, ↓dAug, ↓dAsg, ↓dPar, ↓dVar, ↓dMove, ↓dC, ↓dFz, ↓dUp, ↓dNil, ↓dCons, ↓dTup, ↓dLst, ↓dBin, ↓dUn, ↓dChain, ↓dTest, ↓dAnd, ↓dOr, ↓dNot, ↓dAndV, ↓dOrV, ↓dNotV, ↓dIfE, ↓dgName, ↓dgNil, ↓dgCons, ↓dgTup, ↓dIt, ↓dRng1, ↓dRng2, ↓dZip, ↓dEnum, ↓u_for, ↓u_lc, ↓dYes, ↓u_call, ↓u_callF, ↓u_callIo, ↓dCB, ↓dCBF, ↓dBinS, ↓dLenS, ↓dSl, ↓dSlS, ↓dNo, ↓dPt, ↓dStL, ↓dApp, ↓dExt, ↓dJoin, ↓dRg1, ↓dRg2, ↓dTupRg, ↓dLstRg, ↓oSub, ↓oMulI, ↓oMul, ↓oFdiv, ↓oMod, ↓oPow, ↓oShr, ↓oXor, ↓oNeg, ↓oAdd, ↓oAug, ↓oLt, ↓oLe, ↓oGt, ↓oGe, ↓oI, ↓oIx, ↓oLen, ↓oInt, ↓oOrd, ↓oAbs, ↓oStL, ↓oIn, ↓oNin, ↓oInB, ↓isi_int, ↓isi_int_bl, ↓isi_int_str, ↓isi_int_tup, ↓isi_int_lst, ↓isi_str, ↓isi_str_int, ↓isi_tup, ↓isi_tup_int, ↓isi_tup_str, ↓isi_tup_lst, ↓isi_lst, ↓isi_lst_tup, ↓isi_lst_int, ↓isi_lst_str, ↓cv, ↓Cell.val, ↓Cell.up, ↓Cell.own, ↓lenD, ↓itemsOf, List.getElem?_cons_zero, List.getElem?_cons_succ, List.set_cons_zero, List.set_cons_succ, Option.bind_some, Option.isSome_some, List.length_cons, List.length_nil, true_and, and_true, ↓ixN_lit, ↓atI_lit, ↓reduceIte, Nat.reduceAdd, Nat.reduceLT, Nat.reduceSub, Nat.zero_add, Nat.reduceLeDiff, Nat.lt_add_one, Nat.zero_lt_succ, ↓oEq_int, ↓oNe_int, ↓oEq_str, ↓oNe_str, ↓oEq_bl, ↓oNe_bl, decide_eq_true_eq, Bool.false_eq_true, ↓u_while, ↓ownAt, List.all_cons, List.all_nil, Bool.and_true, List.getD_cons_zero, List.getD_cons_succ, Bool.not_false, ↓oLe_sign]
            refine ⟨rfl, onF (coinsL (part l b (stEnd l b))) rfl (by rw [coinsL_length, part_length hle]; omega) ?_⟩
            simp only [↓dSeq, ↓dNext, ↓dBreak, ↓dCont, ↓dNever, ↓dRet, ↓dRetN, ↓dDrop, ↓dSet, ↓dIf, ↓dAug, ↓dAsg, ↓dPar, ↓dVar, ↓dMove, ↓dC, ↓dFz, ↓dUp, ↓dNil, ↓dCons, ↓dTup, ↓dLst, ↓dBin, ↓dUn, ↓dChain, ↓dTest, ↓dAnd, ↓dOr, ↓dNot, ↓dAndV, ↓dOrV, ↓dNotV, ↓dIfE, ↓dgName, ↓dgNil, ↓dgCons, ↓dgTup, ↓dIt, ↓dRng1, ↓dRng2, ↓dZip, ↓dEnum, ↓u_for, ↓u_lc, ↓dYes, ↓u_call, ↓u_callF, ↓u_callIo, ↓dCB, ↓dCBF, ↓dBinS, ↓dLenS, ↓dSl, ↓dSlS, ↓dNo, ↓dPt, ↓dStL, ↓dApp, ↓dExt, ↓dJoin, ↓dRg1, ↓dRg2, ↓dTupRg, ↓dLstRg, ↓oSub, ↓oMulI, ↓oMul, ↓oFdiv, ↓oMod, ↓oPow, ↓oShr, ↓oXor, ↓oNeg, ↓oAdd, ↓oAug, ↓oLt, ↓oLe, ↓oGt, ↓oGe, ↓oI, ↓oIx, ↓oLen, ↓oInt, ↓oOrd, ↓oAbs, ↓oStL, ↓oIn, ↓oNin, ↓oInB, ↓isi_int, ↓isi_int_bl, ↓isi_int_str, ↓isi_int_tup, ↓isi_int_lst, ↓isi_str, ↓isi_str_int, ↓isi_tup, ↓isi_tup_int, ↓isi_tup_str, ↓isi_tup_lst, ↓isi_lst, ↓isi_lst_tup, ↓isi_lst_int, ↓isi_lst_str, ↓cv, ↓Cell.val, ↓Cell.up, ↓Cell.own, ↓lenD, ↓itemsOf, List.getElem?_cons_zero, List.getElem?_cons_succ, List.set_cons_zero, List.set_cons_succ, Option.bind_some, Option.isSome_some, List.length_cons, List.length_nil, true_and, and_true, ↓ixN_lit, ↓atI_lit, ↓reduceIte, Nat.reduceAdd, Nat.reduceLT, Nat.reduceSub, Nat.zero_add, Nat.reduceLeDiff, Nat.lt_add_one, Nat.zero_lt_succ, ↓oEq_int, ↓oNe_int, ↓oEq_str, ↓oNe_str, ↓oEq_bl, ↓oNe_bl, decide_eq_true_eq, Bool.false_eq_true, ↓u_while, ↓ownAt, List.all_cons, List.all_nil, Bool.and_true, List.getD_cons_zero, List.getD_cons_succ, Bool.not_false, ↓oLe_sign]
            refine lcB_of (lcW_map _ (fun d => match d with | .int i => .int ((b : Nat) + i) | _ => .non) _ (fun x hx kT hT => ?_) fun ρ' hw => ?_)
            · obtain ⟨c, hc, rfl⟩ := List.mem_map.mp hx
              simp only [wipeE, ↓dSeq, ↓dNext, ↓dBreak, ↓dCont, ↓dNever, ↓dRet, ↓dRetN, ↓dDrop, ↓dSet, ↓dIf, ↓dAug, ↓dAsg, ↓dPar, ↓dVar, ↓dMove, ↓dC, ↓dFz, ↓dUp, ↓dNil, ↓dCons, ↓dTup, ↓dLst, ↓dBin, ↓dUn, ↓dChain, ↓dTest, ↓dAnd, ↓dOr, ↓dNot, ↓dAndV, ↓dOrV, ↓dNotV, ↓dIfE, ↓dgName, ↓dgNil, ↓dgCons, ↓dgTup, ↓dIt, ↓dRng1, ↓dRng2, ↓dZip, ↓dEnum, ↓u_for, ↓u_lc, ↓dYes, ↓u_call, ↓u_callF, ↓u_callIo, ↓dCB, ↓dCBF, ↓dBinS, ↓dLenS, ↓dSl, ↓dSlS, ↓dNo, ↓dPt, ↓dStL, ↓dApp, ↓dExt, ↓dJoin, ↓dRg1, ↓dRg2, ↓dTupRg, ↓dLstRg, ↓oSub, ↓oMulI, ↓oMul, ↓oFdiv, ↓oMod, ↓oPow, ↓oShr, ↓oXor, ↓oNeg, ↓oAdd, ↓oAug, ↓oLt, ↓oLe, ↓oGt, ↓oGe, ↓oI, ↓oIx, ↓oLen, ↓oInt, ↓oOrd, ↓oAbs, ↓oStL, ↓oIn, ↓oNin, ↓oInB, ↓isi_int, ↓isi_int_bl, ↓isi_int_str, ↓isi_int_tup, ↓isi_int_lst, ↓isi_str, ↓isi_str_int, ↓isi_tup, ↓isi_tup_int, ↓isi_tup_str, ↓isi_tup_lst, ↓isi_lst, ↓isi_lst_tup, ↓isi_lst_int, ↓isi_lst_str, ↓cv, ↓Cell.val, ↓Cell.up, ↓Cell.own, ↓lenD, ↓itemsOf, List.getElem?_cons_zero, List.getElem?_cons_succ, List.set_cons_zero, List.set_cons_succ, Option.bind_some, Option.isSome_some, List.length_cons, List.length_nil, true_and, and_true, ↓ixN_lit, ↓atI_lit, ↓reduceIte, Nat.reduceAdd, Nat.reduceLT, Nat.reduceSub, Nat.zero_add, Nat.reduceLeDiff, Nat.lt_add_one, Nat.zero_lt_succ, ↓oEq_int, ↓oNe_int, ↓oEq_str, ↓oNe_str, ↓oEq_bl, ↓oNe_bl, decide_eq_true_eq, Bool.false_eq_true, ↓u_while, ↓ownAt, List.all_cons, List.all_nil, Bool.and_true, List.getD_cons_zero, List.getD_cons_succ, Bool.not_false, ↓oLe_sign]
              exact hT _ rfl
            · have em : ((il (peaksL (coinsL (part l b (stEnd l b))))).map fun d => match d with | .int i => D.int ((b : Nat) + i) | _ => .non) = il ((peaksL (coinsL (part l b (stEnd l b)))).map (b + ·)) := by
                unfold il
                rw [List.map_map, List.map_map]
                apply List.map_congr_left
                intro c _
                show D.int _ = D.int _
                congr 1
              have eg : grp l (b, stEnd l b) = b :: (peaksL (coinsL (part l b (stEnd l b)))).map (b + ·) := by
                unfold grp
                rw [if_pos ⟨c1, c2⟩]
              have hgl : (grp l (b, stEnd l b)).length = (peaksL (coinsL (part l b (stEnd l b)))).length + 1 := by rw [eg]; simp
              simp only [rest_of_wipe hw, ↓dSeq, ↓dNext, ↓dBreak, ↓dCont, ↓dNever, ↓dRet, ↓dRetN, ↓dDrop, ↓dSet, ↓dIf, ↓dAug, ↓dAsg, ↓dPar, ↓dVar, ↓dMove, ↓dC, ↓dFz, ↓dUp, ↓dNil, ↓dCons, ↓dTup, ↓dLst, ↓dBin, ↓dUn, ↓dChain, ↓dTest, ↓dAnd, ↓dOr, ↓dNot, ↓dAndV, ↓dOrV, ↓dNotV, ↓dIfE, ↓dgName, ↓dgNil, ↓dgCons, ↓dgTup, ↓dIt, ↓dRng1, ↓dRng2, ↓dZip, ↓dEnum, ↓u_for, ↓u_lc, ↓dYes, ↓u_call, ↓u_callF, ↓u_callIo, ↓dCB, ↓dCBF, ↓dBinS, ↓dLenS, ↓dSl, ↓dSlS, ↓dNo, ↓dPt, ↓dStL, ↓dApp, ↓dExt, ↓dJoin, ↓dRg1, ↓dRg2, ↓dTupRg, ↓dLstRg, ↓oSub, ↓oMulI, ↓oMul, ↓oFdiv, ↓oMod, ↓oPow, ↓oShr, ↓oXor, ↓oNeg, ↓oAdd, ↓oAug, ↓oLt, ↓oLe, ↓oGt, ↓oGe, ↓oI, ↓oIx, ↓oLen, ↓oInt, ↓oOrd, ↓oAbs, ↓oStL, ↓oIn, ↓oNin, ↓oInB, ↓isi_int, ↓isi_int_bl, ↓isi_int_str, ↓isi_int_tup, ↓isi_int_lst, ↓isi_str, ↓isi_str_int, ↓isi_tup, ↓isi_tup_int, ↓isi_tup_str, ↓isi_tup_lst, ↓isi_lst, ↓isi_lst_tup, ↓isi_lst_int, ↓isi_lst_str, ↓cv, ↓Cell.val, ↓Cell.up, ↓Cell.own, ↓lenD, ↓itemsOf, List.getElem?_cons_zero, List.getElem?_cons_succ, List.set_cons_zero, List.set_cons_succ, Option.bind_some, Option.isSome_some, List.length_cons, List.length_nil, true_and, and_true, ↓ixN_lit, ↓atI_lit, ↓reduceIte, Nat.reduceAdd, Nat.reduceLT, Nat.reduceSub, Nat.zero_add, Nat.reduceLeDiff, Nat.lt_add_one, Nat.zero_lt_succ, ↓oEq_int, ↓oNe_int, ↓oEq_str, ↓oNe_str, ↓oEq_bl, ↓oNe_bl, decide_eq_true_eq, Bool.false_eq_true, ↓u_while, ↓ownAt, List.all_cons, List.all_nil, Bool.and_true, List.getD_cons_zero, List.getD_cons_succ, Bool.not_false, ↓oLe_sign, em]
              refine ⟨?_, ?_⟩
              · rw [il_length, il_length, List.length_append, List.length_map, List.length_singleton]
                show _ ≤ 16777216
                omega
              · rw [il_append]
                refine nx _ ?_
                rw [List.flatMap_append, List.flatMap_cons, List.flatMap_nil, eg]
                simp
        · rw [if_neg c2]
          refine nx _ ?_
          rw [List.flatMap_append, List.flatMap_cons, List.flatMap_nil]
          unfold grp
          rw [if_neg (fun z => c2 z.2)]
          simp
      · rw [if_neg (by omega)]
        refine nx _ ?_
        rw [List.flatMap_append, List.flatMap_cons, List.flatMap_nil]
        have eg : grp l (b, stEnd l b) = [b] := by
          unfold grp
          rw [if_neg (fun z => c1 z.1)]
        rw [eg]
        simp
  · rintro ρ ⟨pre, pst, x2, x3, e1, e2, rfl⟩
    have : pst = [] := by
      cases pst with
      | nil => rfl
      | cons _ _ => cases e2
    subst this
    rw [List.append_nil] at e1
    simp only [↓dSeq, ↓dNext, ↓dBreak, ↓dCont, ↓dNever, ↓dRet, ↓dRetN, ↓dDrop, ↓dSet, ↓dIf, ↓dAug, ↓dAsg, ↓dPar, ↓dVar, ↓dMove, ↓dC, ↓dFz, ↓dUp, ↓dNil, ↓dCons, ↓dTup, ↓dLst, ↓dBin, ↓dUn, ↓dChain, ↓dTest, ↓dAnd, ↓dOr, ↓dNot, ↓dAndV, ↓dOrV, ↓dNotV, ↓dIfE, ↓dgName, ↓dgNil, ↓dgCons, ↓dgTup, ↓dIt, ↓dRng1, ↓dRng2, ↓dZip, ↓dEnum, ↓u_for, ↓u_lc, ↓dYes, ↓u_call, ↓u_callF, ↓u_callIo, ↓dCB, ↓dCBF, ↓dBinS, ↓dLenS, ↓dSl, ↓dSlS, ↓dNo, ↓dPt, ↓dStL, ↓dApp, ↓dExt, ↓dJoin, ↓dRg1, ↓dRg2, ↓dTupRg, ↓dLstRg, ↓oSub, ↓oMulI, ↓oMul, ↓oFdiv, ↓oMod, ↓oPow, ↓oShr, ↓oXor, ↓oNeg, ↓oAdd, ↓oAug, ↓oLt, ↓oLe, ↓oGt, ↓oGe, ↓oI, ↓oIx, ↓oLen, ↓oInt, ↓oOrd, ↓oAbs, ↓oStL, ↓oIn, ↓oNin, ↓oInB, ↓isi_int, ↓isi_int_bl, ↓isi_int_str, ↓isi_int_tup, ↓isi_int_lst, ↓isi_str, ↓isi_str_int, ↓isi_tup, ↓isi_tup_int, ↓isi_tup_str, ↓isi_tup_lst, ↓isi_lst, ↓isi_lst_tup, ↓isi_lst_int, ↓isi_lst_str, ↓cv, ↓Cell.val, ↓Cell.up, ↓Cell.own, ↓lenD, ↓itemsOf, List.getElem?_cons_zero, List.getElem?_cons_succ, List.set_cons_zero, List.set_cons_succ, Option.bind_some, Option.isSome_some, List.length_cons, List.length_nil, true_and, and_true, ↓ixN_lit, ↓atI_lit, ↓reduceIte, Nat.reduceAdd, Nat.reduceLT, Nat.reduceSub, Nat.zero_add, Nat.reduceLeDiff, Nat.lt_add_one, Nat.zero_lt_succ, ↓oEq_int, ↓oNe_int, ↓oEq_str, ↓oNe_str, ↓oEq_bl, ↓oNe_bl, decide_eq_true_eq, Bool.false_eq_true, ↓u_while, ↓ownAt, List.all_cons, List.all_nil, Bool.and_true, List.getD_cons_zero, List.getD_cons_succ, Bool.not_false, ↓oLe_sign]
    refine post _ _ ⟨?_, rfl⟩
    show D.lst (il _) = D.lst (il (groupsL l))
    unfold groupsL
    rw [e1]
def S_groups : FnSpec := fnSpec 1 false (fun l : List (List Nat) => [.tup (sl l)]) (fun l => l ≠ [] ∧ (∀ x ∈ l, Signs x ∧ x ≠ []) ∧ l.length ≤ 1000000) fun l => .tup (il (groupsL l))
/-- groups: slots 0 names -/
def D_groups : DTS := (dSeq (dIf (dNot (dTest (dCall S_are_names (dCons (dVar 0) dNil)))) dNever dNext) (dRet (dUp (dCB oTuple (dCons (dFz (dCallF S_groups_of (dCons (dVar 0) dNil))) dNil)))))
theorem sem_groups : ∀ ds Kd, S_groups.ds ds Kd → D_groups (endsOf S_groups Kd) (env0 1 [false] ds) := by
  rintro ds Kd ⟨l, rfl, ⟨hn, hl, hz⟩, post⟩
  show D_groups (endsOf S_groups Kd) [.fz (.tup (sl l))]
  simp only [↓D_groups, ↓dSeq, ↓dNext, ↓dBreak, ↓dCont, ↓dNever, ↓dRet, ↓dRetN, ↓dDrop, ↓dSet, ↓dIf, ↓dAug, ↓dAsg, ↓dPar, ↓dVar, ↓dMove, ↓dC, ↓dFz, ↓dUp, ↓dNil, ↓dCons, ↓dTup, ↓dLst, ↓dBin, ↓dUn, ↓dChain, ↓dTest, ↓dAnd, ↓dOr, ↓dNot, ↓dAndV, ↓dOrV, ↓dNotV, ↓dIfE, ↓dgName, ↓dgNil, ↓dgCons, ↓dgTup, ↓dIt, ↓dRng1, ↓dRng2, ↓dZip, ↓dEnum, ↓u_for, ↓u_lc, ↓dYes, ↓u_call, ↓u_callF, ↓u_callIo, ↓dCB, ↓dCBF, ↓dBinS, ↓dLenS, ↓dSl, ↓dSlS, ↓dNo, ↓dPt, ↓dStL, ↓dApp, ↓dExt, ↓dJoin, ↓dRg1, ↓dRg2, ↓dTupRg, ↓dLstRg, ↓oSub, ↓oMulI, ↓oMul, ↓oFdiv, ↓oMod, ↓oPow, ↓oShr, ↓oXor, ↓oNeg, ↓oAdd, ↓oAug, ↓oLt, ↓oLe, ↓oGt, ↓oGe, ↓oI, ↓oIx, ↓oLen, ↓oInt, ↓oOrd, ↓oAbs, ↓oStL, ↓oIn, ↓oNin, ↓oInB, ↓isi_int, ↓isi_int_bl, ↓isi_int_str, ↓isi_int_tup, ↓isi_int_lst, ↓isi_str, ↓isi_str_int, ↓isi_tup, ↓isi_tup_int, ↓isi_tup_str, ↓isi_tup_lst, ↓isi_lst, ↓isi_lst_tup, ↓isi_lst_int, ↓isi_lst_str, ↓cv, ↓Cell.val, ↓Cell.up, ↓Cell.own, ↓lenD, ↓itemsOf, List.getElem?_cons_zero, List.getElem?_cons_succ, List.set_cons_zero, List.set_cons_succ, Option.bind_some, Option.isSome_some, List.length_cons, List.length_nil, true_and, and_true, ↓ixN_lit, ↓atI_lit, ↓reduceIte, Nat.reduceAdd, Nat.reduceLT, Nat.reduceSub, Nat.zero_add, Nat.reduceLeDiff, Nat.lt_add_one, Nat.zero_lt_succ, ↓oEq_int, ↓oNe_int, ↓oEq_str, ↓oNe_str, ↓oEq_bl, ↓oNe_bl, decide_eq_true_eq, Bool.false_eq_true, ↓u_while, ↓ownAt, List.all_cons, List.all_nil, Bool.and_true, List.getD_cons_zero, List.getD_cons_succ, Bool.not_false, ↓oLe_sign]
  refine ⟨rfl, onF l rfl ⟨hn, hl⟩ ?_⟩
  simp only [↓dSeq, ↓dNext, ↓dBreak, ↓dCont, ↓dNever, ↓dRet, ↓dRetN, ↓dDrop, ↓dSet, ↓dIf, ↓dAug, ↓dAsg, ↓dPar, ↓dVar, ↓dMove, ↓dC, ↓dFz, ↓dUp, ↓dNil, ↓dCons, ↓dTup, ↓dLst, ↓dBin, ↓dUn, ↓dChain, ↓dTest, ↓dAnd, ↓dOr, ↓dNot, ↓dAndV, ↓dOrV, ↓dNotV, ↓dIfE, ↓dgName, ↓dgNil, ↓dgCons, ↓dgTup, ↓dIt, ↓dRng1, ↓dRng2, ↓dZip, ↓dEnum, ↓u_for, ↓u_lc, ↓dYes, ↓u_call, ↓u_callF, ↓u_callIo, ↓dCB, ↓dCBF, ↓dBinS, ↓dLenS, ↓dSl, ↓dSlS, ↓dNo, ↓dPt, ↓dStL, ↓dApp, ↓dExt, ↓dJoin, ↓dRg1, ↓dRg2, ↓dTupRg, ↓dLstRg, ↓oSub, ↓oMulI, ↓oMul, ↓oFdiv, ↓oMod, ↓oPow, ↓oShr, ↓oXor, ↓oNeg, ↓oAdd, ↓oAug, ↓oLt, ↓oLe, ↓oGt, ↓oGe, ↓oI, ↓oIx, ↓oLen, ↓oInt, ↓oOrd, ↓oAbs, ↓oStL, ↓oIn, ↓oNin, ↓oInB, ↓isi_int, ↓isi_int_bl, ↓isi_int_str, ↓isi_int_tup, ↓isi_int_lst, ↓isi_str, ↓isi_str_int, ↓isi_tup, ↓isi_tup_int, ↓isi_tup_str, ↓isi_tup_lst, ↓isi_lst, ↓isi_lst_tup, ↓isi_lst_int, ↓isi_lst_str, ↓cv, ↓Cell.val, ↓Cell.up, ↓Cell.own, ↓lenD, ↓itemsOf, List.getElem?_cons_zero, List.getElem?_cons_succ, List.set_cons_zero, List.set_cons_succ, Option.bind_some, Option.isSome_some, List.length_cons, List.length_nil, true_and, and_true, ↓ixN_lit, ↓atI_lit, ↓reduceIte, Nat.reduceAdd, Nat.reduceLT, Nat.reduceSub, Nat.zero_add, Nat.reduceLeDiff, Nat.lt_add_one, Nat.zero_lt_succ, ↓oEq_int, ↓oNe_int, ↓oEq_str, ↓oNe_str, ↓oEq_bl, ↓oNe_bl, decide_eq_true_eq, Bool.false_eq_true, ↓u_while, ↓ownAt, List.all_cons, List.all_nil, Bool.and_true, List.getD_cons_zero, List.getD_cons_succ, Bool.not_false, ↓oLe_sign, Bool.not_true]
  refine ⟨rfl, onF l rfl ⟨fun x hx => (hl x hx).1, hz⟩ ?_⟩
  simp only [↓dSeq, ↓dNext, ↓dBreak, ↓dCont, ↓dNever, ↓dRet, ↓dRetN, ↓dDrop, ↓dSet, ↓dIf, ↓dAug, ↓dAsg, ↓dPar, ↓dVar, ↓dMove, ↓dC, ↓dFz, ↓dUp, ↓dNil, ↓dCons, ↓dTup, ↓dLst, ↓dBin, ↓dUn, ↓dChain, ↓dTest, ↓dAnd, ↓dOr, ↓dNot, ↓dAndV, ↓dOrV, ↓dNotV, ↓dIfE, ↓dgName, ↓dgNil, ↓dgCons, ↓dgTup, ↓dIt, ↓dRng1, ↓dRng2, ↓dZip, ↓dEnum, ↓u_for, ↓u_lc, ↓dYes, ↓u_call, ↓u_callF, ↓u_callIo, ↓dCB, ↓dCBF, ↓dBinS, ↓dLenS, ↓dSl, ↓dSlS, ↓dNo, ↓dPt, ↓dStL, ↓dApp, ↓dExt, ↓dJoin, ↓dRg1, ↓dRg2, ↓dTupRg, ↓dLstRg, ↓oSub, ↓oMulI, ↓oMul, ↓oFdiv, ↓oMod, ↓oPow, ↓oShr, ↓oXor, ↓oNeg, ↓oAdd, ↓oAug, ↓oLt, ↓oLe, ↓oGt, ↓oGe, ↓oI, ↓oIx, ↓oLen, ↓oInt, ↓oOrd, ↓oAbs, ↓oStL, ↓oIn, ↓oNin, ↓oInB, ↓isi_int, ↓isi_int_bl, ↓isi_int_str, ↓isi_int_tup, ↓isi_int_lst, ↓isi_str, ↓isi_str_int, ↓isi_tup, ↓isi_tup_int, ↓isi_tup_str, ↓isi_tup_lst, ↓isi_lst, ↓isi_lst_tup, ↓isi_lst_int, ↓isi_lst_str, ↓cv, ↓Cell.val, ↓Cell.up, ↓Cell.own, ↓lenD, ↓itemsOf, List.getElem?_cons_zero, List.getElem?_cons_succ, List.set_cons_zero, List.set_cons_succ, Option.bind_some, Option.isSome_some, List.length_cons, List.length_nil, true_and, and_true, ↓ixN_lit, ↓atI_lit, ↓reduceIte, Nat.reduceAdd, Nat.reduceLT, Nat.reduceSub, Nat.zero_add, Nat.reduceLeDiff, Nat.lt_add_one, Nat.zero_lt_succ, ↓oEq_int, ↓oNe_int, ↓oEq_str, ↓oNe_str, ↓oEq_bl, ↓oNe_bl, decide_eq_true_eq, Bool.false_eq_true, ↓u_while, ↓ownAt, List.all_cons, List.all_nil, Bool.and_true, List.getD_cons_zero, List.getD_cons_succ, Bool.not_false, ↓oLe_sign, oTuple]
  exact ⟨rfl, post _ _ ⟨rfl, rfl⟩⟩
end DL


namespace DL
open PySem PySem.Spec PyProof.Rows L2

/-! ### where a group begins hangs on the names near it -/
/-- a stretch's begin, but for the first -/
def Bd (l : List (List Nat)) (i : Nat) : Prop := 0 < i ∧ i < l.length ∧ nm l (i - 1) ≠ nm l i ∧ ((2 ≤ i ∧ nm l (i - 2) = nm l (i - 1)) ∨ (i + 1 < l.length ∧ nm l i = nm l (i + 1)))
theorem run_mem {l : List (List Nat)} {b j : Nat} (h : isRun l b = true) (h1 : b ≤ j) (h2 : j < stEnd l b) : nm l j = nm l b := by
  by_cases e : j = b
  · rw [e]
  · unfold stEnd at h2
    rw [h, if_pos rfl] at h2
    have := scan_mem (pRun l b) _ _ j (by omega) h2
    unfold pRun at this
    simp only [Bool.and_eq_true, decide_eq_true_eq] at this
    exact this.2
theorem run_two {l : List (List Nat)} {b : Nat} (h : isRun l b = true) : b + 2 ≤ stEnd l b := by
  have q := h
  unfold isRun at q
  simp only [Bool.and_eq_true, decide_eq_true_eq] at q
  unfold stEnd
  rw [h, if_pos rfl]
  have hp : pRun l b (b + 1) = true := by
    unfold pRun
    rw [decide_eq_true q.1, decide_eq_true q.2] <;> rfl
  rw [scan_one hp q.1]
  exact scan_ge _ _ _
theorem end_bd {l : List (List Nat)} {b : Nat} (hb : b < l.length) (h : stEnd l b < l.length) : Bd l (stEnd l b) := by
  have g := stEnd_gt l b
  cases hr : isRun l b with
  | true =>
    have t := run_two hr
    have e1 := run_mem hr (by omega : b ≤ stEnd l b - 1) (by omega)
    have e2 := run_mem hr (by omega : b ≤ stEnd l b - 2) (by omega)
    have hst := scan_stop (pRun l b) (n := l.length) (fun e h => by unfold pRun at h; simp only [Bool.and_eq_true, decide_eq_true_eq] at h; exact h.1) (l.length - (b + 1)) (b + 1) (Nat.le_refl _)
    have es : stEnd l b = scan (pRun l b) (l.length - (b + 1)) (b + 1) := by unfold stEnd; rw [hr, if_pos rfl]
    rw [← es] at hst
    unfold pRun at hst
    rw [decide_eq_true h] at hst
    refine ⟨by omega, h, fun z => ?_, .inl ⟨by omega, by rw [e1, e2]⟩⟩
    rw [decide_eq_true (by rw [← z, e1])] at hst
    cases hst
  | false =>
    have hst := scan_stop (pAlt l) (n := l.length) (fun e h => by unfold pAlt at h; simp only [Bool.and_eq_true, decide_eq_true_eq] at h; exact h.1) (l.length - (b + 1)) (b + 1) (Nat.le_refl _)
    have es : stEnd l b = scan (pAlt l) (l.length - (b + 1)) (b + 1) := by unfold stEnd; rw [hr, if_neg Bool.false_ne_true]
    rw [← es] at hst
    unfold pAlt at hst
    rw [decide_eq_true h] at hst
    simp only [Bool.true_and, Bool.not_eq_false', Bool.and_eq_true, decide_eq_true_eq] at hst
    refine ⟨by omega, h, ?_, .inr ⟨hst.1, hst.2.symm⟩⟩
    by_cases c : stEnd l b - 1 = b
    · have e3 : stEnd l b = b + 1 := by omega
      rw [c, e3]
      intro z
      unfold isRun at hr
      rw [decide_eq_true (by omega : b + 1 < l.length), decide_eq_true z.symm] at hr
      cases hr
    · have := scan_mem (pAlt l) (l.length - (b + 1)) (b + 1) (stEnd l b - 1) (by omega) (by rw [← es]; omega)
      unfold pAlt at this
      intro z
      rw [show stEnd l b - 1 + 1 = stEnd l b by omega, decide_eq_true h, decide_eq_true z.symm] at this
      simp at this
theorem in_nbd {l : List (List Nat)} {b j : Nat} (hb : b < l.length) (hb0 : b = 0 ∨ Bd l b) (h1 : b < j) (h2 : j < stEnd l b) : ¬ Bd l j := by
  have hle := stEnd_le hb
  rintro ⟨j0, jl, ne, h⟩
  cases hr : isRun l b with
  | true =>
    exact ne (by rw [run_mem hr (by omega : b ≤ j - 1) (by omega), run_mem hr (by omega : b ≤ j) h2])
  | false =>
    rcases h with ⟨j2, h⟩ | ⟨j2, h⟩
    · by_cases c : j - 1 = b
      · rcases hb0 with z | ⟨_, _, q, _⟩
        · omega
        · rw [c, show j - 2 = b - 1 by omega] at h
          exact q h
      · have := alt_ne hb hr (j := j - 2) (by omega) (by omega)
        rw [show j - 2 + 1 = j - 1 by omega] at this
        exact this h
    · by_cases c : j + 1 < stEnd l b
      · exact alt_ne hb hr (by omega) c h
      · have := scan_mem (pAlt l) (l.length - (b + 1)) (b + 1) j (by omega) (by
          have es : stEnd l b = scan (pAlt l) (l.length - (b + 1)) (b + 1) := by unfold stEnd; rw [hr, if_neg Bool.false_ne_true]
          rw [← es]; exact h2)
        unfold pAlt at this
        rw [decide_eq_true j2, decide_eq_true h.symm] at this
        simp at this
theorem stL_begin {l : List (List Nat)} : ∀ (d b : Nat), l.length - b ≤ d → (b = 0 ∨ Bd l b ∨ b = l.length) → ∀ p ∈ stL l b, p.1 = 0 ∨ Bd l p.1
  | 0, b, h, hb0, p, hp => by rw [stL_nil (by omega)] at hp; cases hp
  | d + 1, b, h, hb0, p, hp => by
    by_cases hb : b < l.length
    · rw [stL_cons hb] at hp
      have g := stEnd_gt l b
      have hle := stEnd_le hb
      rcases List.mem_cons.mp hp with e | hp
      · subst e
        rcases hb0 with z | z | z
        · exact .inl z
        · exact .inr z
        · omega
      · refine stL_begin d (stEnd l b) (by omega) ?_ p hp
        by_cases c : stEnd l b < l.length
        · exact .inr (.inl (end_bd hb c))
        · exact .inr (.inr (by omega))
    · rw [stL_nil hb] at hp; cases hp
theorem stL_cover {l : List (List Nat)} : ∀ (d b p : Nat), l.length - b ≤ d → b ≤ p → p < l.length → ∃ b', (b', stEnd l b') ∈ stL l b ∧ b' ≤ p ∧ p < stEnd l b'
  | 0, b, p, h, h1, h2 => by omega
  | d + 1, b, p, h, h1, h2 => by
    have hb : b < l.length := by omega
    have g := stEnd_gt l b
    rw [stL_cons hb]
    by_cases c : p < stEnd l b
    · exact ⟨b, List.mem_cons_self .., h1, c⟩
    · obtain ⟨b', m, q⟩ := stL_cover d (stEnd l b) p (by omega) (by omega) h2
      exact ⟨b', List.mem_cons_of_mem _ m, q⟩
theorem stL_uniq {l : List (List Nat)} : ∀ (d b : Nat) (b1 b2 p : Nat), l.length - b ≤ d → (b1, stEnd l b1) ∈ stL l b → (b2, stEnd l b2) ∈ stL l b → b1 ≤ p → p < stEnd l b1 → b2 ≤ p → p < stEnd l b2 → b1 = b2
  | 0, b, b1, b2, p, h, m1, _, _, _, _, _ => by rw [stL_nil (by omega)] at m1; cases m1
  | d + 1, b, b1, b2, p, h, m1, m2, h1, h2, h3, h4 => by
    by_cases hb : b < l.length
    · rw [stL_cons hb] at m1 m2
      have g := stEnd_gt l b
      rcases List.mem_cons.mp m1 with e1 | m1
      · cases e1
        rcases List.mem_cons.mp m2 with e2 | m2
        · cases e2; rfl
        · obtain ⟨q, _, _⟩ := mem_stL d _ _ (by omega) m2
          simp only at q
          omega
      · rcases List.mem_cons.mp m2 with e2 | m2
        · cases e2
          obtain ⟨q, _, _⟩ := mem_stL d _ _ (by omega) m1
          simp only at q
          omega
        · exact stL_uniq d _ b1 b2 p (by omega) m1 m2 h1 h2 h3 h4
    · rw [stL_nil hb] at m1; cases m1
/-! ### a coin hangs on six numbers -/
def cr : Nat → (Nat → Nat) → Nat → Nat
  | 0, f, i => f i
  | r + 1, f, 0 => cr r f 0 % 2
  | r + 1, f, i + 1 => coin (cr r f i) (cr r f (i + 1))
theorem cr_near : ∀ (r : Nat) (f g : Nat → Nat) (i j : Nat), min i r = min j r → (∀ d, d ≤ r → d ≤ i → d ≤ j → f (i - d) = g (j - d)) → cr r f i = cr r g j
  | 0, f, g, i, j, h, e => e 0 (Nat.le_refl _) (Nat.zero_le _) (Nat.zero_le _)
  | r + 1, f, g, 0, j, h, e => by
    have hj : j = 0 := by omega
    subst hj
    show cr r f 0 % 2 = cr r g 0 % 2
    rw [cr_near r f g 0 0 rfl fun d h1 h2 h3 => e d (by omega) h2 h3]
  | r + 1, f, g, i + 1, 0, h, e => by omega
  | r + 1, f, g, i + 1, j + 1, h, e => by
    show coin _ _ = coin _ _
    rw [cr_near r f g i j (by omega) fun d h1 h2 h3 => by
        have := e (d + 1) (by omega) (by omega) (by omega)
        rw [show i + 1 - (d + 1) = i - d by omega, show j + 1 - (d + 1) = j - d by omega] at this
        exact this,
      cr_near r f g (i + 1) (j + 1) (by omega) fun d h1 h2 h3 => e d (by omega) h2 h3]
theorem go_at : ∀ (t : List Nat) (a i : Nat), i < t.length → (coinsGo a t).getD i 0 = coin ((a :: t).getD i 0) ((a :: t).getD (i + 1) 0)
  | h :: t, a, 0, _ => rfl
  | h :: t, a, i + 1, hi => by
    have := go_at t h i (by simpa using hi)
    simpa [coinsGo] using this
theorem iter_at (row : List Nat) : ∀ (r i : Nat), i < row.length → (iterL r row).getD i 0 = cr r (fun k => row.getD k 0) i
  | 0, i, h => by cases i <;> rfl
  | r + 1, i, h => by
    have hl := iterL_length r row
    show (nextL (iterL r row)).getD i 0 = _
    cases hrow : iterL r row with
    | nil => rw [hrow] at hl; simp at hl; omega
    | cons x xs =>
      cases i with
      | zero =>
        have ih := iter_at row r 0 h
        rw [hrow] at ih
        show x % 2 = cr r _ 0 % 2
        rw [← ih] <;> rfl
      | succ i =>
        have ih1 := iter_at row r i (by omega)
        have ih2 := iter_at row r (i + 1) h
        rw [hrow] at ih1 ih2 hl
        show (coinsGo x xs).getD i 0 = coin (cr r _ i) (cr r _ (i + 1))
        rw [go_at xs x i (by simp at hl; omega), ih1, ih2]
/-! ### the law of ten names -/
structure Near (l1 l2 : List (List Nat)) (p1 p2 : Nat) : Prop where
  a1 : 7 ≤ p1
  a2 : 7 ≤ p2
  b1 : p1 + 2 < l1.length
  b2 : p2 + 2 < l2.length
  eq : ∀ d, d ≤ 9 → nm l1 (p1 - 7 + d) = nm l2 (p2 - 7 + d)
theorem Near.symm {l1 l2 : List (List Nat)} {p1 p2 : Nat} (n : Near l1 l2 p1 p2) : Near l2 l1 p2 p1 := ⟨n.a2, n.a1, n.b2, n.b1, fun d h => (n.eq d h).symm⟩
theorem Near.at {l1 l2 : List (List Nat)} {p1 p2 : Nat} (n : Near l1 l2 p1 p2) {i j : Nat} (h : i + p2 = j + p1) (h1 : p1 ≤ i + 7) (h2 : i ≤ p1 + 2) : nm l1 i = nm l2 j := by
  have a1 := n.a1
  have a2 := n.a2
  have := n.eq (i + 7 - p1) (by omega)
  rw [show p1 - 7 + (i + 7 - p1) = i by omega, show p2 - 7 + (i + 7 - p1) = j by omega] at this
  exact this
theorem Near.bd {l1 l2 : List (List Nat)} {p1 p2 : Nat} (n : Near l1 l2 p1 p2) {i j : Nat} (h : i + p2 = j + p1) (h1 : p1 ≤ i + 5) (h2 : i ≤ p1 + 1) : Bd l1 i → Bd l2 j := by
  have a1 := n.a1
  have a2 := n.a2
  have b2 := n.b2
  rintro ⟨i0, il, ne, q⟩
  refine ⟨by omega, by omega, ?_, ?_⟩
  · rw [← n.at (i := i - 1) (j := j - 1) (by omega) (by omega) (by omega), ← n.at (i := i) (j := j) h (by omega) (by omega)]
    exact ne
  · rcases q with ⟨_, q⟩ | ⟨_, q⟩
    · refine .inl ⟨by omega, ?_⟩
      rw [← n.at (i := i - 2) (j := j - 2) (by omega) (by omega) (by omega), ← n.at (i := i - 1) (j := j - 1) (by omega) (by omega) (by omega)]
      exact q
    · refine .inr ⟨by omega, ?_⟩
      rw [← n.at (i := i) (j := j) h (by omega) (by omega), ← n.at (i := i + 1) (j := j + 1) (by omega) (by omega) (by omega)]
      exact q
theorem near_back {l1 l2 : List (List Nat)} {p1 p2 b1 b2 : Nat} (n : Near l1 l2 p1 p2) (m1 : (b1, stEnd l1 b1) ∈ stL l1 0) (h1 : b1 ≤ p1) (g1 : p1 < stEnd l1 b1)
    (m2 : (b2, stEnd l2 b2) ∈ stL l2 0) (h2 : b2 ≤ p2) (g2 : p2 < stEnd l2 b2) (c : p1 ≤ b1 + 5) : p2 - b2 = p1 - b1 := by
  have a1 := n.a1
  have a2 := n.a2
  obtain ⟨-, l1b, -⟩ := mem_stL l1.length 0 _ (by omega) m1
  obtain ⟨-, l2b, -⟩ := mem_stL l2.length 0 _ (by omega) m2
  simp only at l1b l2b
  have z1 := stL_begin l1.length 0 (by omega) (.inl rfl) _ m1
  have z2 := stL_begin l2.length 0 (by omega) (.inl rfl) _ m2
  simp only at z1 z2
  have B1 : Bd l1 b1 := by
    rcases z1 with z | z
    · omega
    · exact z
  have B2 : Bd l2 (p2 - (p1 - b1)) := n.bd (i := b1) (j := p2 - (p1 - b1)) (by omega) (by omega) (by omega) B1
  by_cases e1 : b2 < p2 - (p1 - b1)
  · exact absurd B2 (in_nbd l2b z2 e1 (by omega))
  · by_cases e2 : p2 - (p1 - b1) < b2
    · have B3 : Bd l2 b2 := by
        rcases z2 with z | z
        · omega
        · exact z
      have B4 : Bd l1 (p1 - (p2 - b2)) := n.symm.bd (i := b2) (j := p1 - (p2 - b2)) (by omega) (by omega) (by omega) B3
      exact absurd B4 (in_nbd l1b z1 (by omega) (by omega))
    · omega
theorem coins_at {l : List (List Nat)} {b i : Nat} (hb : b < l.length) (hi : i < stEnd l b - b) : (coinsL (part l b (stEnd l b))).getD i 0 = cr 5 (fun k => ((part l b (stEnd l b)).map num).getD k 0) i := by
  unfold coinsL
  exact iter_at _ 5 i (by rw [List.length_map, part_length (stEnd_le hb)]; exact hi)
theorem near_one {l1 l2 : List (List Nat)} {p1 p2 : Nat} (n : Near l1 l2 p1 p2) (h : p1 ∈ groupsL l1) : p2 ∈ groupsL l2 := by
  have a1 := n.a1
  have a2 := n.a2
  have b1' := n.b1
  have b2' := n.b2
  obtain ⟨b1, m1, q⟩ := mem_groups.mp h
  obtain ⟨b2, m2, h2, g2⟩ := stL_cover (l := l2) l2.length 0 p2 (by omega) (by omega) (by omega)
  obtain ⟨-, l1b, -⟩ := mem_stL l1.length 0 _ (by omega) m1
  obtain ⟨-, l2b, -⟩ := mem_stL l2.length 0 _ (by omega) m2
  simp only at l1b l2b
  have z1 := stL_begin l1.length 0 (by omega) (.inl rfl) _ m1
  have z2 := stL_begin l2.length 0 (by omega) (.inl rfl) _ m2
  simp only at z1 z2
  have gt1 := stEnd_gt l1 b1
  refine mem_groups.mpr ⟨b2, m2, ?_⟩
  rcases q with e | ⟨q1, q2, q3, q4⟩
  · have := near_back n m1 (by omega) (by omega) m2 h2 g2 (by omega)
    exact .inl (by omega)
  · right
    have hk : min (p1 - b1) 6 = min (p2 - b2) 6 := by
      by_cases c : p1 ≤ b1 + 5
      · have := near_back n m1 (by omega) (by omega) m2 h2 g2 c
        omega
      · by_cases c2 : p2 ≤ b2 + 5
        · have := near_back n.symm m2 h2 g2 m1 (by omega) (by omega) c2
          omega
        · omega
    have hlt : b2 < p2 := by omega
    have hle1 := stEnd_le l1b
    have hle2 := stEnd_le l2b
    have hlt2 : p2 + 1 < stEnd l2 b2 := by
      by_cases c : p2 + 1 < stEnd l2 b2
      · exact c
      · have e : stEnd l2 b2 = p2 + 1 := by omega
        have B := end_bd l2b (by omega)
        rw [e] at B
        have B1 := n.symm.bd (i := p2 + 1) (j := p1 + 1) (by omega) (by omega) (by omega) B
        exact absurd B1 (in_nbd l1b z1 (by omega) q2)
    have r1 : isRun l1 b1 = false := by
      unfold isRun
      rw [show decide (nm l1 (b1 + 1) = nm l1 b1) = false from decide_eq_false fun z => q3 z.symm]; simp
    have r2 : isRun l2 b2 = false := by
      cases r : isRun l2 b2 with
      | false => rfl
      | true =>
        have e1 := run_mem r (by omega : b2 ≤ p2 - 1) (by omega)
        have e2 := run_mem r (by omega : b2 ≤ p2) g2
        have := alt_ne l1b r1 (j := p1 - 1) (by omega) (by omega)
        rw [show p1 - 1 + 1 = p1 by omega, n.at (i := p1 - 1) (j := p2 - 1) (by omega) (by omega) (by omega), n.at (i := p1) (j := p2) (by omega) (by omega) (by omega), e1, e2] at this
        exact absurd rfl this
    have ne2 : nm l2 b2 ≠ nm l2 (b2 + 1) := alt_ne l2b r2 (Nat.le_refl _) (by omega)
    refine ⟨hlt, hlt2, ne2, ?_⟩
    have near : ∀ i j, i + p2 - b2 = j + p1 - b1 → i + 1 ≥ p1 - b1 → i ≤ p1 - b1 + 1 → j + b2 ≤ p2 + 1 → i + b1 ≤ p1 + 1 →
        (coinsL (part l1 b1 (stEnd l1 b1))).getD i 0 = (coinsL (part l2 b2 (stEnd l2 b2))).getD j 0 := by
      intro i j e hi1 hi2 hj3 hi3
      rw [coins_at l1b (by omega), coins_at l2b (by omega)]
      refine cr_near 5 _ _ i j (by omega) fun d d1 d2 d3 => ?_
      show ((part l1 b1 (stEnd l1 b1)).map num).getD (i - d) 0 = ((part l2 b2 (stEnd l2 b2)).map num).getD (j - d) 0
      rw [part_num hle1 (by omega), part_num hle2 (by omega), n.at (i := b1 + (i - d)) (j := b2 + (j - d)) (by omega) (by omega) (by omega)]
    unfold pk at q4 ⊢
    rw [← near (p1 - b1 - 1) (p2 - b2 - 1) (by omega) (by omega) (by omega) (by omega) (by omega), ← near (p1 - b1) (p2 - b2) (by omega) (by omega) (by omega) (by omega) (by omega), ← near (p1 - b1 + 1) (p2 - b2 + 1) (by omega) (by omega) (by omega) (by omega) (by omega)]
    exact q4
theorem near_iff {l1 l2 : List (List Nat)} {p1 p2 : Nat} (n : Near l1 l2 p1 p2) : (p1 ∈ groupsL l1) ↔ (p2 ∈ groupsL l2) := ⟨near_one n, near_one n.symm⟩
end DL


namespace DL
open PySem PySem.Spec PyProof.Rows L2

/-! ### the levels of a text -/
def namesL (text : List Nat) (bs : List Nat) : List (List Nat) := (bs.zip (bs.drop 1 ++ [text.length])).map fun p => (text.drop p.1).take (p.2 - p.1)
theorem namesL_length (text bs : List Nat) : (namesL text bs).length = bs.length := by
  unfold namesL
  rw [List.length_map, List.length_zip, List.length_append, List.length_drop, List.length_singleton]
  omega
def S_names_of : FnSpec := fnSpec 2 false (fun x : List Nat × List Nat => [.str x.1, .tup (il x.2)]) (fun x => x.2.length ≤ 1000000) fun x => .tup (sl (namesL x.1 x.2))
/-- names_of: slots 0 text, 1 begins, 2 ends, 3 begin, 4 end -/
def D_names_of : DTS := (dSeq (dSet 2 (dUp (dBin oAdd (dFz (dCBF oList (dCons (dSlS 1 (dPt (dC (.int 1))) dNo) dNil))) (dFz (dLst (dCons (dLenS 0) dNil)))))) (dRet (dUp (dCB oTuple (dCons (dFz (dLc (dZip (dCons (dVar 1) (dCons (dVar 2) dNil))) (dgTup 2 (dgCons (dgName 3) (dgCons (dgName 4) dgNil))) dYes (dSlS 0 (dPt (dVar 3)) (dPt (dVar 4))) [3, 4])) dNil)))))
theorem sem_names_of : ∀ ds Kd, S_names_of.ds ds Kd → D_names_of (endsOf S_names_of Kd) (env0 5 [false, false] ds) := by
  rintro ds Kd ⟨⟨t, bs⟩, rfl, hz, post⟩
  simp only at hz post
  show D_names_of (endsOf S_names_of Kd) [.fz (.str t), .fz (.tup (il bs)), .un, .un, .un]
  have ec : cutG (il bs) (some 1) none = il (bs.drop 1) := by
    have := cutG_from (il bs) 1
    rw [show ((1 : Nat) : Int) = 1 by rfl] at this
    rw [this]
    simp [il]
  have ea : il (bs.drop 1) ++ [D.int (t.length : Nat)] = il (bs.drop 1 ++ [t.length]) := by simp [il]
  simp only [↓D_names_of, ↓dSeq, ↓dNext, ↓dBreak, ↓dCont, ↓dNever, ↓dRet, ↓dRetN, ↓dDrop, ↓dSet, ↓dIf, ↓dAug, ↓dAsg, ↓dPar, ↓dVar, ↓dMove, ↓dC, ↓dFz, ↓dUp, ↓dNil, ↓dCons, ↓dTup, ↓dLst, ↓dBin, ↓dUn, ↓dChain, ↓dTest, ↓dAnd, ↓dOr, ↓dNot, ↓dAndV, ↓dOrV, ↓dNotV, ↓dIfE, ↓dgName, ↓dgNil, ↓dgCons, ↓dgTup, ↓dIt, ↓dRng1, ↓dRng2, ↓dZip, ↓dEnum, ↓u_for, ↓u_lc, ↓dYes, ↓u_call, ↓u_callF, ↓u_callIo, ↓dCB, ↓dCBF, ↓dBinS, ↓dLenS, ↓dSl, ↓dSlS, ↓dNo, ↓dPt, ↓dStL, ↓dApp, ↓dExt, ↓dJoin, ↓dRg1, ↓dRg2, ↓dTupRg, ↓dLstRg, ↓oSub, ↓oMulI, ↓oMul, ↓oFdiv, ↓oMod, ↓oPow, ↓oShr, ↓oXor, ↓oNeg, ↓oAdd, ↓oAug, ↓oLt, ↓oLe, ↓oGt, ↓oGe, ↓oI, ↓oIx, ↓oLen, ↓oInt, ↓oOrd, ↓oAbs, ↓oStL, ↓oIn, ↓oNin, ↓oInB, ↓isi_int, ↓isi_int_bl, ↓isi_int_str, ↓isi_int_tup, ↓isi_int_lst, ↓isi_str, ↓isi_str_int, ↓isi_tup, ↓isi_tup_int, ↓isi_tup_str, ↓isi_tup_lst, ↓isi_lst, ↓isi_lst_tup, ↓isi_lst_int, ↓isi_lst_str, ↓cv, ↓Cell.val, ↓Cell.up, ↓Cell.own, ↓lenD, ↓itemsOf, List.getElem?_cons_zero, List.getElem?_cons_succ, List.set_cons_zero, List.set_cons_succ, Option.bind_some, Option.isSome_some, List.length_cons, List.length_nil, true_and, and_true, ↓ixN_lit, ↓atI_lit, ↓reduceIte, Nat.reduceAdd, Nat.reduceLT, Nat.reduceSub, Nat.zero_add, Nat.reduceLeDiff, Nat.lt_add_one, Nat.zero_lt_succ, ↓oEq_int, ↓oNe_int, ↓oEq_str, ↓oNe_str, ↓oEq_bl, ↓oNe_bl, decide_eq_true_eq, Bool.false_eq_true, ↓u_while, ↓ownAt, List.all_cons, List.all_nil, Bool.and_true, List.getD_cons_zero, List.getD_cons_succ, Bool.not_false, ↓oLe_sign, oSl, oList]
  rw [ec, ea]
  refine ⟨by decide, ?_, ?_⟩
  · rw [il_length, List.length_drop]
    show _ ≤ 16777216
    omega
  · have ep : pairsD (il bs) (il (bs.drop 1 ++ [t.length])) = (bs.zip (bs.drop 1 ++ [t.length])).map fun p => D.tup [.int (p.1 : Nat), .int (p.2 : Nat)] := by
      unfold pairsD il
      rw [List.zip_map, List.map_map]
      rfl
    rw [ep]
    refine lcB_of (lcW_map _ (fun d => match d with | .tup [.int a, .int b] => .str ((t.drop a.toNat).take (b.toNat - a.toNat)) | _ => .non) _ (fun x hx kT hT => ?_) fun ρ' hw => ?_)
    · obtain ⟨⟨a, b⟩, hc, rfl⟩ := List.mem_map.mp hx
      simp only [wipeE, ↓dSeq, ↓dNext, ↓dBreak, ↓dCont, ↓dNever, ↓dRet, ↓dRetN, ↓dDrop, ↓dSet, ↓dIf, ↓dAug, ↓dAsg, ↓dPar, ↓dVar, ↓dMove, ↓dC, ↓dFz, ↓dUp, ↓dNil, ↓dCons, ↓dTup, ↓dLst, ↓dBin, ↓dUn, ↓dChain, ↓dTest, ↓dAnd, ↓dOr, ↓dNot, ↓dAndV, ↓dOrV, ↓dNotV, ↓dIfE, ↓dgName, ↓dgNil, ↓dgCons, ↓dgTup, ↓dIt, ↓dRng1, ↓dRng2, ↓dZip, ↓dEnum, ↓u_for, ↓u_lc, ↓dYes, ↓u_call, ↓u_callF, ↓u_callIo, ↓dCB, ↓dCBF, ↓dBinS, ↓dLenS, ↓dSl, ↓dSlS, ↓dNo, ↓dPt, ↓dStL, ↓dApp, ↓dExt, ↓dJoin, ↓dRg1, ↓dRg2, ↓dTupRg, ↓dLstRg, ↓oSub, ↓oMulI, ↓oMul, ↓oFdiv, ↓oMod, ↓oPow, ↓oShr, ↓oXor, ↓oNeg, ↓oAdd, ↓oAug, ↓oLt, ↓oLe, ↓oGt, ↓oGe, ↓oI, ↓oIx, ↓oLen, ↓oInt, ↓oOrd, ↓oAbs, ↓oStL, ↓oIn, ↓oNin, ↓oInB, ↓isi_int, ↓isi_int_bl, ↓isi_int_str, ↓isi_int_tup, ↓isi_int_lst, ↓isi_str, ↓isi_str_int, ↓isi_tup, ↓isi_tup_int, ↓isi_tup_str, ↓isi_tup_lst, ↓isi_lst, ↓isi_lst_tup, ↓isi_lst_int, ↓isi_lst_str, ↓cv, ↓Cell.val, ↓Cell.up, ↓Cell.own, ↓lenD, ↓itemsOf, List.getElem?_cons_zero, List.getElem?_cons_succ, List.set_cons_zero, List.set_cons_succ, Option.bind_some, Option.isSome_some, List.length_cons, List.length_nil, true_and, and_true, ↓ixN_lit, ↓atI_lit, ↓reduceIte, Nat.reduceAdd, Nat.reduceLT, Nat.reduceSub, Nat.zero_add, Nat.reduceLeDiff, Nat.lt_add_one, Nat.zero_lt_succ, ↓oEq_int, ↓oNe_int, ↓oEq_str, ↓oNe_str, ↓oEq_bl, ↓oNe_bl, decide_eq_true_eq, Bool.false_eq_true, ↓u_while, ↓ownAt, List.all_cons, List.all_nil, Bool.and_true, List.getD_cons_zero, List.getD_cons_succ, Bool.not_false, ↓oLe_sign, oSl, cutG_nat]
      exact hT _ rfl
    · have em : (((bs.zip (bs.drop 1 ++ [t.length])).map fun p => D.tup [.int (p.1 : Nat), .int (p.2 : Nat)]).map fun d => match d with | .tup [.int a, .int b] => D.str ((t.drop a.toNat).take (b.toNat - a.toNat)) | _ => .non) = sl (namesL t bs) := by
        unfold sl namesL
        rw [List.map_map, List.map_map]
        rfl
      simp only [rest_of_wipe hw, ↓dSeq, ↓dNext, ↓dBreak, ↓dCont, ↓dNever, ↓dRet, ↓dRetN, ↓dDrop, ↓dSet, ↓dIf, ↓dAug, ↓dAsg, ↓dPar, ↓dVar, ↓dMove, ↓dC, ↓dFz, ↓dUp, ↓dNil, ↓dCons, ↓dTup, ↓dLst, ↓dBin, ↓dUn, ↓dChain, ↓dTest, ↓dAnd, ↓dOr, ↓dNot, ↓dAndV, ↓dOrV, ↓dNotV, ↓dIfE, ↓dgName, ↓dgNil, ↓dgCons, ↓dgTup, ↓dIt, ↓dRng1, ↓dRng2, ↓dZip, ↓dEnum, ↓u_for, ↓u_lc, ↓dYes, ↓u_call, ↓u_callF, ↓u_callIo, ↓dCB, ↓dCBF, ↓dBinS, ↓dLenS, ↓dSl, ↓dSlS, ↓dNo, ↓dPt, ↓dStL, ↓dApp, ↓dExt, ↓dJoin, ↓dRg1, ↓dRg2, ↓dTupRg, ↓dLstRg, ↓oSub, ↓oMulI, ↓oMul, ↓oFdiv, ↓oMod, ↓oPow, ↓oShr, ↓oXor, ↓oNeg, ↓oAdd, ↓oAug, ↓oLt, ↓oLe, ↓oGt, ↓oGe, ↓oI, ↓oIx, ↓oLen, ↓oInt, ↓oOrd, ↓oAbs, ↓oStL, ↓oIn, ↓oNin, ↓oInB, ↓isi_int, ↓isi_int_bl, ↓isi_int_str, ↓isi_int_tup, ↓isi_int_lst, ↓isi_str, ↓isi_str_int, ↓isi_tup, ↓isi_tup_int, ↓isi_tup_str, ↓isi_tup_lst, ↓isi_lst, ↓isi_lst_tup, ↓isi_lst_int, ↓isi_lst_str, ↓cv, ↓Cell.val, ↓Cell.up, ↓Cell.own, ↓lenD, ↓itemsOf, List.getElem?_cons_zero, List.getElem?_cons_succ, List.set_cons_zero, List.set_cons_succ, Option.bind_some, Option.isSome_some, List.length_cons, List.length_nil, true_and, and_true, ↓ixN_lit, ↓atI_lit, ↓reduceIte, Nat.reduceAdd, Nat.reduceLT, Nat.reduceSub, Nat.zero_add, Nat.reduceLeDiff, Nat.lt_add_one, Nat.zero_lt_succ, ↓oEq_int, ↓oNe_int, ↓oEq_str, ↓oNe_str, ↓oEq_bl, ↓oNe_bl, decide_eq_true_eq, Bool.false_eq_true, ↓u_while, ↓ownAt, List.all_cons, List.all_nil, Bool.and_true, List.getD_cons_zero, List.getD_cons_succ, Bool.not_false, ↓oLe_sign, em, oTuple]
      exact ⟨rfl, post _ _ ⟨rfl, rfl⟩⟩
def nextB (t bs : List Nat) : List Nat := (groupsL (namesL t bs)).map fun g => bs.getD g 0
theorem nextB_lt {t bs : List Nat} (h : 2 ≤ bs.length) : (nextB t bs).length < bs.length := by
  unfold nextB
  rw [List.length_map]
  have := groupsL_lt (l := namesL t bs) (by rw [namesL_length]; exact h)
  rw [namesL_length] at this
  exact this
theorem signs_part {t : List Nat} (h : Signs t) (a b : Nat) : Signs ((t.drop a).take b) := fun c hc => h c (List.mem_of_mem_drop (List.mem_of_mem_take hc))
theorem signs_names {t bs : List Nat} (h : Signs t) : SignsL (namesL t bs) := by
  intro x hx
  obtain ⟨p, _, rfl⟩ := List.mem_map.mp hx
  exact signs_part h _ _
def tl (bss : List (List Nat)) : List D := bss.map fun bs => .tup (il bs)
theorem tl_snoc (bss : List (List Nat)) (bs : List Nat) : tl bss ++ [.tup (il bs)] = tl (bss ++ [bs]) := by simp [tl]
theorem atI_last' {α : Type} (xs : List α) (x : α) : atI (xs ++ [x]) (-1) = some x := by
  unfold atI ixN
  rw [if_neg (by decide), if_pos (by rw [List.length_append]; simp; omega)]
  rw [Option.bind_some, List.length_append, List.length_singleton]
  rw [show ((-1 : Int) + ((xs.length + 1 : Nat) : Int)).toNat = xs.length by omega]
  simp
def S_levels_of : FnSpec := mkSpec (α := List Nat) [false] true (fun t => [.str t]) (fun t => Signs t ∧ t.length ≤ 2000) fun t r os => os = [] ∧ ∃ more, r = .lst (tl (List.range t.length :: more)) ∧ (2 ≤ t.length → ∃ more2, more = nextB t (List.range t.length) :: more2)
/-- levels_of: slots 0 text, 1 found, 2 begins, 3 number -/
def D_levels_of : DTS := (dSeq (dSet 1 (dLst (dCons (dTupRg (dRg1 (dLenS 0))) dNil))) (dSeq (dWhile (dTest (dBin oGt (dCB oLen (dCons (dBinS 1 oIx (dUn oNeg (dC (.int 1)))) dNil)) (dC (.int 1)))) (dSeq (dSet 2 (dUp (dBinS 1 oIx (dUn oNeg (dC (.int 1)))))) (dApp 1 (dCB oTuple (dCons (dFz (dLc (dIt (dFz (dCallF S_groups_of (dCons (dCall S_names_of (dCons (dVar 0) (dCons (dVar 2) dNil))) dNil)))) (dgName 3) dYes (dBinS 2 oIx (dVar 3)) [3])) dNil))))) (dRet (dMove 1))))
theorem sem_levels_of : ∀ ds Kd, S_levels_of.ds ds Kd → D_levels_of (endsOf S_levels_of Kd) (env0 4 [false] ds) := by
  rintro ds Kd ⟨t, rfl, ⟨hs, hz⟩, post⟩
  show D_levels_of (endsOf S_levels_of Kd) [.fz (.str t), .un, .un, .un]
  have er : rangeD 0 t.length = il (List.range t.length) := by
    have := rangeD_il 0 t.length
    simpa using this
  have en : ((t.length : Int) - 0).toNat = t.length := by omega
  simp only [↓D_levels_of, ↓dSeq, ↓dNext, ↓dBreak, ↓dCont, ↓dNever, ↓dRet, ↓dRetN, ↓dDrop, ↓dSet, ↓dIf, ↓dAug, ↓dAsg, ↓dPar, ↓dVar, ↓dMove, ↓dC, ↓dFz, ↓dUp, ↓dNil, ↓dCons, ↓dTup, ↓dLst, ↓dBin, ↓dUn, ↓dChain, ↓dTest, ↓dAnd, ↓dOr, ↓dNot, ↓dAndV, ↓dOrV, ↓dNotV, ↓dIfE, ↓dgName, ↓dgNil, ↓dgCons, ↓dgTup, ↓dIt, ↓dRng1, ↓dRng2, ↓dZip, ↓dEnum, ↓u_for, ↓u_lc, ↓dYes, ↓u_call, ↓u_callF, ↓u_callIo, ↓dCB, ↓dCBF, ↓dBinS, ↓dLenS, ↓dSl, ↓dSlS, ↓dNo, ↓dPt, ↓dStL, ↓dApp, ↓dExt, ↓dJoin, ↓dRg1, ↓dRg2, ↓dTupRg, ↓dLstRg, ↓oSub, ↓oMulI, ↓oMul, ↓oFdiv, ↓oMod, ↓oPow, ↓oShr, ↓oXor, ↓oNeg, ↓oAdd, ↓oAug, ↓oLt, ↓oLe, ↓oGt, ↓oGe, ↓oI, ↓oIx, ↓oLen, ↓oInt, ↓oOrd, ↓oAbs, ↓oStL, ↓oIn, ↓oNin, ↓oInB, ↓isi_int, ↓isi_int_bl, ↓isi_int_str, ↓isi_int_tup, ↓isi_int_lst, ↓isi_str, ↓isi_str_int, ↓isi_tup, ↓isi_tup_int, ↓isi_tup_str, ↓isi_tup_lst, ↓isi_lst, ↓isi_lst_tup, ↓isi_lst_int, ↓isi_lst_str, ↓cv, ↓Cell.val, ↓Cell.up, ↓Cell.own, ↓lenD, ↓itemsOf, List.getElem?_cons_zero, List.getElem?_cons_succ, List.set_cons_zero, List.set_cons_succ, Option.bind_some, Option.isSome_some, List.length_cons, List.length_nil, true_and, and_true, ↓ixN_lit, ↓atI_lit, ↓reduceIte, Nat.reduceAdd, Nat.reduceLT, Nat.reduceSub, Nat.zero_add, Nat.reduceLeDiff, Nat.lt_add_one, Nat.zero_lt_succ, ↓oEq_int, ↓oNe_int, ↓oEq_str, ↓oNe_str, ↓oEq_bl, ↓oNe_bl, decide_eq_true_eq, Bool.false_eq_true, ↓u_while, ↓ownAt, List.all_cons, List.all_nil, Bool.and_true, List.getD_cons_zero, List.getD_cons_succ, Bool.not_false, ↓oLe_sign, en, er]
  refine ⟨⟨by decide, by decide, by omega, by omega, by omega⟩, by decide, whB_of (dWhile_iff (fun m ρ => ∃ (acc : List (List Nat)) (bs : List Nat) (x : Cell), m = bs.length ∧ bs.length ≤ t.length ∧ acc.length + bs.length ≤ t.length ∧
    ((acc = [] ∧ bs = List.range t.length) ∨ (2 ≤ t.length ∧ ∃ more2, acc ++ [bs] = List.range t.length :: nextB t (List.range t.length) :: more2)) ∧ ρ = [.fz (.str t), .ow (.lst (tl (acc ++ [bs]))), x, .un]) _ ⟨[], List.range t.length, .un, rfl, by simp, by simp, .inl ⟨rfl, rfl⟩, rfl⟩ ?_)⟩
  rintro m ρ ⟨acc, bs, x, rfl, hb, hb2, hsh, rfl⟩
  have el : atI (tl (acc ++ [bs])) (-1) = some (.tup (il bs)) := by
    rw [← tl_snoc]
    exact atI_last' _ _
  simp only [↓dSeq, ↓dNext, ↓dBreak, ↓dCont, ↓dNever, ↓dRet, ↓dRetN, ↓dDrop, ↓dSet, ↓dIf, ↓dAug, ↓dAsg, ↓dPar, ↓dVar, ↓dMove, ↓dC, ↓dFz, ↓dUp, ↓dNil, ↓dCons, ↓dTup, ↓dLst, ↓dBin, ↓dUn, ↓dChain, ↓dTest, ↓dAnd, ↓dOr, ↓dNot, ↓dAndV, ↓dOrV, ↓dNotV, ↓dIfE, ↓dgName, ↓dgNil, ↓dgCons, ↓dgTup, ↓dIt, ↓dRng1, ↓dRng2, ↓dZip, ↓dEnum, ↓u_for, ↓u_lc, ↓dYes, ↓u_call, ↓u_callF, ↓u_callIo, ↓dCB, ↓dCBF, ↓dBinS, ↓dLenS, ↓dSl, ↓dSlS, ↓dNo, ↓dPt, ↓dStL, ↓dApp, ↓dExt, ↓dJoin, ↓dRg1, ↓dRg2, ↓dTupRg, ↓dLstRg, ↓oSub, ↓oMulI, ↓oMul, ↓oFdiv, ↓oMod, ↓oPow, ↓oShr, ↓oXor, ↓oNeg, ↓oAdd, ↓oAug, ↓oLt, ↓oLe, ↓oGt, ↓oGe, ↓oI, ↓oIx, ↓oLen, ↓oInt, ↓oOrd, ↓oAbs, ↓oStL, ↓oIn, ↓oNin, ↓oInB, ↓isi_int, ↓isi_int_bl, ↓isi_int_str, ↓isi_int_tup, ↓isi_int_lst, ↓isi_str, ↓isi_str_int, ↓isi_tup, ↓isi_tup_int, ↓isi_tup_str, ↓isi_tup_lst, ↓isi_lst, ↓isi_lst_tup, ↓isi_lst_int, ↓isi_lst_str, ↓cv, ↓Cell.val, ↓Cell.up, ↓Cell.own, ↓lenD, ↓itemsOf, List.getElem?_cons_zero, List.getElem?_cons_succ, List.set_cons_zero, List.set_cons_succ, Option.bind_some, Option.isSome_some, List.length_cons, List.length_nil, true_and, and_true, ↓ixN_lit, ↓atI_lit, ↓reduceIte, Nat.reduceAdd, Nat.reduceLT, Nat.reduceSub, Nat.zero_add, Nat.reduceLeDiff, Nat.lt_add_one, Nat.zero_lt_succ, ↓oEq_int, ↓oNe_int, ↓oEq_str, ↓oNe_str, ↓oEq_bl, ↓oNe_bl, decide_eq_true_eq, Bool.false_eq_true, ↓u_while, ↓ownAt, List.all_cons, List.all_nil, Bool.and_true, List.getD_cons_zero, List.getD_cons_succ, Bool.not_false, ↓oLe_sign, el, il_length]
  by_cases c : 1 < bs.length
  · rw [if_pos (by omega)]
    refine ⟨⟨_, rfl⟩, rfl, onF (t, bs) rfl (by show bs.length ≤ 1000000; omega) ?_⟩
    simp only [↓dSeq, ↓dNext, ↓dBreak, ↓dCont, ↓dNever, ↓dRet, ↓dRetN, ↓dDrop, ↓dSet, ↓dIf, ↓dAug, ↓dAsg, ↓dPar, ↓dVar, ↓dMove, ↓dC, ↓dFz, ↓dUp, ↓dNil, ↓dCons, ↓dTup, ↓dLst, ↓dBin, ↓dUn, ↓dChain, ↓dTest, ↓dAnd, ↓dOr, ↓dNot, ↓dAndV, ↓dOrV, ↓dNotV, ↓dIfE, ↓dgName, ↓dgNil, ↓dgCons, ↓dgTup, ↓dIt, ↓dRng1, ↓dRng2, ↓dZip, ↓dEnum, ↓u_for, ↓u_lc, ↓dYes, ↓u_call, ↓u_callF, ↓u_callIo, ↓dCB, ↓dCBF, ↓dBinS, ↓dLenS, ↓dSl, ↓dSlS, ↓dNo, ↓dPt, ↓dStL, ↓dApp, ↓dExt, ↓dJoin, ↓dRg1, ↓dRg2, ↓dTupRg, ↓dLstRg, ↓oSub, ↓oMulI, ↓oMul, ↓oFdiv, ↓oMod, ↓oPow, ↓oShr, ↓oXor, ↓oNeg, ↓oAdd, ↓oAug, ↓oLt, ↓oLe, ↓oGt, ↓oGe, ↓oI, ↓oIx, ↓oLen, ↓oInt, ↓oOrd, ↓oAbs, ↓oStL, ↓oIn, ↓oNin, ↓oInB, ↓isi_int, ↓isi_int_bl, ↓isi_int_str, ↓isi_int_tup, ↓isi_int_lst, ↓isi_str, ↓isi_str_int, ↓isi_tup, ↓isi_tup_int, ↓isi_tup_str, ↓isi_tup_lst, ↓isi_lst, ↓isi_lst_tup, ↓isi_lst_int, ↓isi_lst_str, ↓cv, ↓Cell.val, ↓Cell.up, ↓Cell.own, ↓lenD, ↓itemsOf, List.getElem?_cons_zero, List.getElem?_cons_succ, List.set_cons_zero, List.set_cons_succ, Option.bind_some, Option.isSome_some, List.length_cons, List.length_nil, true_and, and_true, ↓ixN_lit, ↓atI_lit, ↓reduceIte, Nat.reduceAdd, Nat.reduceLT, Nat.reduceSub, Nat.zero_add, Nat.reduceLeDiff, Nat.lt_add_one, Nat.zero_lt_succ, ↓oEq_int, ↓oNe_int, ↓oEq_str, ↓oNe_str, ↓oEq_bl, ↓oNe_bl, decide_eq_true_eq, Bool.false_eq_true, ↓u_while, ↓ownAt, List.all_cons, List.all_nil, Bool.and_true, List.getD_cons_zero, List.getD_cons_succ, Bool.not_false, ↓oLe_sign]
    refine ⟨rfl, onF (namesL t bs) rfl ⟨signs_names hs, by rw [namesL_length]; omega⟩ ?_⟩
    simp only [↓dSeq, ↓dNext, ↓dBreak, ↓dCont, ↓dNever, ↓dRet, ↓dRetN, ↓dDrop, ↓dSet, ↓dIf, ↓dAug, ↓dAsg, ↓dPar, ↓dVar, ↓dMove, ↓dC, ↓dFz, ↓dUp, ↓dNil, ↓dCons, ↓dTup, ↓dLst, ↓dBin, ↓dUn, ↓dChain, ↓dTest, ↓dAnd, ↓dOr, ↓dNot, ↓dAndV, ↓dOrV, ↓dNotV, ↓dIfE, ↓dgName, ↓dgNil, ↓dgCons, ↓dgTup, ↓dIt, ↓dRng1, ↓dRng2, ↓dZip, ↓dEnum, ↓u_for, ↓u_lc, ↓dYes, ↓u_call, ↓u_callF, ↓u_callIo, ↓dCB, ↓dCBF, ↓dBinS, ↓dLenS, ↓dSl, ↓dSlS, ↓dNo, ↓dPt, ↓dStL, ↓dApp, ↓dExt, ↓dJoin, ↓dRg1, ↓dRg2, ↓dTupRg, ↓dLstRg, ↓oSub, ↓oMulI, ↓oMul, ↓oFdiv, ↓oMod, ↓oPow, ↓oShr, ↓oXor, ↓oNeg, ↓oAdd, ↓oAug, ↓oLt, ↓oLe, ↓oGt, ↓oGe, ↓oI, ↓oIx, ↓oLen, ↓oInt, ↓oOrd, ↓oAbs, ↓oStL, ↓oIn, ↓oNin, ↓oInB, ↓isi_int, ↓isi_int_bl, ↓isi_int_str, ↓isi_int_tup, ↓isi_int_lst, ↓isi_str, ↓isi_str_int, ↓isi_tup, ↓isi_tup_int, ↓isi_tup_str, ↓isi_tup_lst, ↓isi_lst, ↓isi_lst_tup, ↓isi_lst_int, ↓isi_lst_str, ↓cv, ↓Cell.val, ↓Cell.up, ↓Cell.own, ↓lenD, ↓itemsOf, List.getElem?_cons_zero, List.getElem?_cons_succ, List.set_cons_zero, List.set_cons_succ, Option.bind_some, Option.isSome_some, List.length_cons, List.length_nil, true_and, and_true, ↓ixN_lit, ↓atI_lit, ↓reduceIte, Nat.reduceAdd, Nat.reduceLT, Nat.reduceSub, Nat.zero_add, Nat.reduceLeDiff, Nat.lt_add_one, Nat.zero_lt_succ, ↓oEq_int, ↓oNe_int, ↓oEq_str, ↓oNe_str, ↓oEq_bl, ↓oNe_bl, decide_eq_true_eq, Bool.false_eq_true, ↓u_while, ↓ownAt, List.all_cons, List.all_nil, Bool.and_true, List.getD_cons_zero, List.getD_cons_succ, Bool.not_false, ↓oLe_sign]
    refine lcB_of (lcW_map _ (fun d => match d with | .int i => .int (bs.getD i.toNat 0 : Nat) | _ => .non) _ (fun x hx kT hT => ?_) fun ρ' hw => ?_)
    · obtain ⟨g, hg, rfl⟩ := List.mem_map.mp hx
      have hlt : g < bs.length := by
        have := groups_lt hg
        rw [namesL_length] at this
        exact this
      simp only [wipeE, ↓dSeq, ↓dNext, ↓dBreak, ↓dCont, ↓dNever, ↓dRet, ↓dRetN, ↓dDrop, ↓dSet, ↓dIf, ↓dAug, ↓dAsg, ↓dPar, ↓dVar, ↓dMove, ↓dC, ↓dFz, ↓dUp, ↓dNil, ↓dCons, ↓dTup, ↓dLst, ↓dBin, ↓dUn, ↓dChain, ↓dTest, ↓dAnd, ↓dOr, ↓dNot, ↓dAndV, ↓dOrV, ↓dNotV, ↓dIfE, ↓dgName, ↓dgNil, ↓dgCons, ↓dgTup, ↓dIt, ↓dRng1, ↓dRng2, ↓dZip, ↓dEnum, ↓u_for, ↓u_lc, ↓dYes, ↓u_call, ↓u_callF, ↓u_callIo, ↓dCB, ↓dCBF, ↓dBinS, ↓dLenS, ↓dSl, ↓dSlS, ↓dNo, ↓dPt, ↓dStL, ↓dApp, ↓dExt, ↓dJoin, ↓dRg1, ↓dRg2, ↓dTupRg, ↓dLstRg, ↓oSub, ↓oMulI, ↓oMul, ↓oFdiv, ↓oMod, ↓oPow, ↓oShr, ↓oXor, ↓oNeg, ↓oAdd, ↓oAug, ↓oLt, ↓oLe, ↓oGt, ↓oGe, ↓oI, ↓oIx, ↓oLen, ↓oInt, ↓oOrd, ↓oAbs, ↓oStL, ↓oIn, ↓oNin, ↓oInB, ↓isi_int, ↓isi_int_bl, ↓isi_int_str, ↓isi_int_tup, ↓isi_int_lst, ↓isi_str, ↓isi_str_int, ↓isi_tup, ↓isi_tup_int, ↓isi_tup_str, ↓isi_tup_lst, ↓isi_lst, ↓isi_lst_tup, ↓isi_lst_int, ↓isi_lst_str, ↓cv, ↓Cell.val, ↓Cell.up, ↓Cell.own, ↓lenD, ↓itemsOf, List.getElem?_cons_zero, List.getElem?_cons_succ, List.set_cons_zero, List.set_cons_succ, Option.bind_some, Option.isSome_some, List.length_cons, List.length_nil, true_and, and_true, ↓ixN_lit, ↓atI_lit, ↓reduceIte, Nat.reduceAdd, Nat.reduceLT, Nat.reduceSub, Nat.zero_add, Nat.reduceLeDiff, Nat.lt_add_one, Nat.zero_lt_succ, ↓oEq_int, ↓oNe_int, ↓oEq_str, ↓oNe_str, ↓oEq_bl, ↓oNe_bl, decide_eq_true_eq, Bool.false_eq_true, ↓u_while, ↓ownAt, List.all_cons, List.all_nil, Bool.and_true, List.getD_cons_zero, List.getD_cons_succ, Bool.not_false, ↓oLe_sign, atI_natE, il_at hlt]
      exact hT _ rfl
    · have em : ((il (groupsL (namesL t bs))).map fun d => match d with | .int i => D.int (bs.getD i.toNat 0 : Nat) | _ => .non) = il (nextB t bs) := by
        unfold il nextB
        rw [List.map_map, List.map_map]
        rfl
      have lt := nextB_lt (t := t) (show 2 ≤ bs.length by omega)
      simp only [rest_of_wipe hw, ↓dSeq, ↓dNext, ↓dBreak, ↓dCont, ↓dNever, ↓dRet, ↓dRetN, ↓dDrop, ↓dSet, ↓dIf, ↓dAug, ↓dAsg, ↓dPar, ↓dVar, ↓dMove, ↓dC, ↓dFz, ↓dUp, ↓dNil, ↓dCons, ↓dTup, ↓dLst, ↓dBin, ↓dUn, ↓dChain, ↓dTest, ↓dAnd, ↓dOr, ↓dNot, ↓dAndV, ↓dOrV, ↓dNotV, ↓dIfE, ↓dgName, ↓dgNil, ↓dgCons, ↓dgTup, ↓dIt, ↓dRng1, ↓dRng2, ↓dZip, ↓dEnum, ↓u_for, ↓u_lc, ↓dYes, ↓u_call, ↓u_callF, ↓u_callIo, ↓dCB, ↓dCBF, ↓dBinS, ↓dLenS, ↓dSl, ↓dSlS, ↓dNo, ↓dPt, ↓dStL, ↓dApp, ↓dExt, ↓dJoin, ↓dRg1, ↓dRg2, ↓dTupRg, ↓dLstRg, ↓oSub, ↓oMulI, ↓oMul, ↓oFdiv, ↓oMod, ↓oPow, ↓oShr, ↓oXor, ↓oNeg, ↓oAdd, ↓oAug, ↓oLt, ↓oLe, ↓oGt, ↓oGe, ↓oI, ↓oIx, ↓oLen, ↓oInt, ↓oOrd, ↓oAbs, ↓oStL, ↓oIn, ↓oNin, ↓oInB, ↓isi_int, ↓isi_int_bl, ↓isi_int_str, ↓isi_int_tup, ↓isi_int_lst, ↓isi_str, ↓isi_str_int, ↓isi_tup, ↓isi_tup_int, ↓isi_tup_str, ↓isi_tup_lst, ↓isi_lst, ↓isi_lst_tup, ↓isi_lst_int, ↓isi_lst_str, ↓cv, ↓Cell.val, ↓Cell.up, ↓Cell.own, ↓lenD, ↓itemsOf, List.getElem?_cons_zero, List.getElem?_cons_succ, List.set_cons_zero, List.set_cons_succ, Option.bind_some, Option.isSome_some, List.length_cons, List.length_nil, true_and, and_true, ↓ixN_lit, ↓atI_lit, ↓reduceIte, Nat.reduceAdd, Nat.reduceLT, Nat.reduceSub, Nat.zero_add, Nat.reduceLeDiff, Nat.lt_add_one, Nat.zero_lt_succ, ↓oEq_int, ↓oNe_int, ↓oEq_str, ↓oNe_str, ↓oEq_bl, ↓oNe_bl, decide_eq_true_eq, Bool.false_eq_true, ↓u_while, ↓ownAt, List.all_cons, List.all_nil, Bool.and_true, List.getD_cons_zero, List.getD_cons_succ, Bool.not_false, ↓oLe_sign, em, oTuple]
      refine ⟨by show (List.map _ _).length < 16777216; rw [List.length_map, List.length_append, List.length_singleton]; omega, ?_⟩
      refine ⟨_, lt, acc ++ [bs], nextB t bs, .fz (.tup (il bs)), rfl, by omega, by rw [List.length_append, List.length_singleton]; omega, ?_, ?_⟩
      · right
        refine ⟨by omega, ?_⟩
        rcases hsh with ⟨e1, e2⟩ | ⟨_, m2, e2⟩
        · subst e1 e2
          exact ⟨[], rfl⟩
        · exact ⟨m2 ++ [nextB t bs], by rw [e2]; rfl⟩
      · rw [tl_snoc]
  · rw [if_neg (by omega)]
    refine post _ _ ⟨rfl, ?_⟩
    rcases hsh with ⟨e1, e2⟩ | ⟨h2, m2, e2⟩
    · subst e1 e2
      refine ⟨[], rfl, fun h => ?_⟩
      rw [List.length_range] at c
      omega
    · rw [e2]
      exact ⟨_, rfl, fun _ => ⟨m2, rfl⟩⟩
def S_levels : FnSpec := mkSpec (α := List Nat) [false] true (fun t => [.str t]) (fun t => Signs t ∧ t.length ≤ 2000) fun t r os => os = [] ∧ ∃ more, r = .lst (tl (List.range t.length :: more)) ∧ (2 ≤ t.length → ∃ more2, more = nextB t (List.range t.length) :: more2)
/-- levels: slots 0 text -/
def D_levels : DTS := (dSeq (dDrop (dCall S_check_text (dCons (dVar 0) dNil))) (dRet (dCallF S_levels_of (dCons (dVar 0) dNil))))
theorem onM {α : Type} {io : List Bool} {fresh : Bool} {args : α → List D} {pre : α → Prop} {pst : α → D → List D → Prop} {K : D → List D → Prop} {ds : List D} (x : α) (e : ds = args x) (h : pre x) (k : ∀ r os, pst x r os → K r os) : @onB ⟨K⟩ (mkSpec io fresh args pre pst) ds := ⟨x, e, h, k⟩
theorem sem_levels : ∀ ds Kd, S_levels.ds ds Kd → D_levels (endsOf S_levels Kd) (env0 1 [false] ds) := by
  rintro ds Kd ⟨t, rfl, hs, post⟩
  show D_levels (endsOf S_levels Kd) [.fz (.str t)]
  simp only [↓D_levels, ↓dSeq, ↓dNext, ↓dBreak, ↓dCont, ↓dNever, ↓dRet, ↓dRetN, ↓dDrop, ↓dSet, ↓dIf, ↓dAug, ↓dAsg, ↓dPar, ↓dVar, ↓dMove, ↓dC, ↓dFz, ↓dUp, ↓dNil, ↓dCons, ↓dTup, ↓dLst, ↓dBin, ↓dUn, ↓dChain, ↓dTest, ↓dAnd, ↓dOr, ↓dNot, ↓dAndV, ↓dOrV, ↓dNotV, ↓dIfE, ↓dgName, ↓dgNil, ↓dgCons, ↓dgTup, ↓dIt, ↓dRng1, ↓dRng2, ↓dZip, ↓dEnum, ↓u_for, ↓u_lc, ↓dYes, ↓u_call, ↓u_callF, ↓u_callIo, ↓dCB, ↓dCBF, ↓dBinS, ↓dLenS, ↓dSl, ↓dSlS, ↓dNo, ↓dPt, ↓dStL, ↓dApp, ↓dExt, ↓dJoin, ↓dRg1, ↓dRg2, ↓dTupRg, ↓dLstRg, ↓oSub, ↓oMulI, ↓oMul, ↓oFdiv, ↓oMod, ↓oPow, ↓oShr, ↓oXor, ↓oNeg, ↓oAdd, ↓oAug, ↓oLt, ↓oLe, ↓oGt, ↓oGe, ↓oI, ↓oIx, ↓oLen, ↓oInt, ↓oOrd, ↓oAbs, ↓oStL, ↓oIn, ↓oNin, ↓oInB, ↓isi_int, ↓isi_int_bl, ↓isi_int_str, ↓isi_int_tup, ↓isi_int_lst, ↓isi_str, ↓isi_str_int, ↓isi_tup, ↓isi_tup_int, ↓isi_tup_str, ↓isi_tup_lst, ↓isi_lst, ↓isi_lst_tup, ↓isi_lst_int, ↓isi_lst_str, ↓cv, ↓Cell.val, ↓Cell.up, ↓Cell.own, ↓lenD, ↓itemsOf, List.getElem?_cons_zero, List.getElem?_cons_succ, List.set_cons_zero, List.set_cons_succ, Option.bind_some, Option.isSome_some, List.length_cons, List.length_nil, true_and, and_true, ↓ixN_lit, ↓atI_lit, ↓reduceIte, Nat.reduceAdd, Nat.reduceLT, Nat.reduceSub, Nat.zero_add, Nat.reduceLeDiff, Nat.lt_add_one, Nat.zero_lt_succ, ↓oEq_int, ↓oNe_int, ↓oEq_str, ↓oNe_str, ↓oEq_bl, ↓oNe_bl, decide_eq_true_eq, Bool.false_eq_true, ↓u_while, ↓ownAt, List.all_cons, List.all_nil, Bool.and_true, List.getD_cons_zero, List.getD_cons_succ, Bool.not_false, ↓oLe_sign]
  refine ⟨rfl, onF t rfl hs ?_⟩
  simp only [↓dSeq, ↓dNext, ↓dBreak, ↓dCont, ↓dNever, ↓dRet, ↓dRetN, ↓dDrop, ↓dSet, ↓dIf, ↓dAug, ↓dAsg, ↓dPar, ↓dVar, ↓dMove, ↓dC, ↓dFz, ↓dUp, ↓dNil, ↓dCons, ↓dTup, ↓dLst, ↓dBin, ↓dUn, ↓dChain, ↓dTest, ↓dAnd, ↓dOr, ↓dNot, ↓dAndV, ↓dOrV, ↓dNotV, ↓dIfE, ↓dgName, ↓dgNil, ↓dgCons, ↓dgTup, ↓dIt, ↓dRng1, ↓dRng2, ↓dZip, ↓dEnum, ↓u_for, ↓u_lc, ↓dYes, ↓u_call, ↓u_callF, ↓u_callIo, ↓dCB, ↓dCBF, ↓dBinS, ↓dLenS, ↓dSl, ↓dSlS, ↓dNo, ↓dPt, ↓dStL, ↓dApp, ↓dExt, ↓dJoin, ↓dRg1, ↓dRg2, ↓dTupRg, ↓dLstRg, ↓oSub, ↓oMulI, ↓oMul, ↓oFdiv, ↓oMod, ↓oPow, ↓oShr, ↓oXor, ↓oNeg, ↓oAdd, ↓oAug, ↓oLt, ↓oLe, ↓oGt, ↓oGe, ↓oI, ↓oIx, ↓oLen, ↓oInt, ↓oOrd, ↓oAbs, ↓oStL, ↓oIn, ↓oNin, ↓oInB, ↓isi_int, ↓isi_int_bl, ↓isi_int_str, ↓isi_int_tup, ↓isi_int_lst, ↓isi_str, ↓isi_str_int, ↓isi_tup, ↓isi_tup_int, ↓isi_tup_str, ↓isi_tup_lst, ↓isi_lst, ↓isi_lst_tup, ↓isi_lst_int, ↓isi_lst_str, ↓cv, ↓Cell.val, ↓Cell.up, ↓Cell.own, ↓lenD, ↓itemsOf, List.getElem?_cons_zero, List.getElem?_cons_succ, List.set_cons_zero, List.set_cons_succ, Option.bind_some, Option.isSome_some, List.length_cons, List.length_nil, true_and, and_true, ↓ixN_lit, ↓atI_lit, ↓reduceIte, Nat.reduceAdd, Nat.reduceLT, Nat.reduceSub, Nat.zero_add, Nat.reduceLeDiff, Nat.lt_add_one, Nat.zero_lt_succ, ↓oEq_int, ↓oNe_int, ↓oEq_str, ↓oNe_str, ↓oEq_bl, ↓oNe_bl, decide_eq_true_eq, Bool.false_eq_true, ↓u_while, ↓ownAt, List.all_cons, List.all_nil, Bool.and_true, List.getD_cons_zero, List.getD_cons_succ, Bool.not_false, ↓oLe_sign]
  refine ⟨rfl, onM t rfl hs ?_⟩
  rintro r os ⟨rfl, h⟩
  exact post _ _ ⟨rfl, h⟩
/-- texts of one sign each: the first level's groups are the row's -/
theorem getD_range {n i : Nat} (h : i < n) : (List.range n).getD i 0 = i := by
  rw [List.getD_eq_getElem?_getD, List.getElem?_range h] <;> rfl
theorem namesL_range (t : List Nat) : namesL t (List.range t.length) = t.map fun c => [c] := by
  apply List.ext_getElem?
  intro i
  unfold namesL
  rw [List.getElem?_map, List.getElem?_map]
  by_cases h : i < t.length
  · have e1 : (List.range t.length)[i]? = some i := List.getElem?_range h
    have e2 : ((List.range t.length).drop 1 ++ [t.length])[i]? = some (i + 1) := by
      by_cases h2 : i + 1 < t.length
      · rw [List.getElem?_append_left (by rw [List.length_drop, List.length_range]; omega), List.getElem?_drop, Nat.add_comm 1 i]
        exact List.getElem?_range h2
      · rw [List.getElem?_append_right (by rw [List.length_drop, List.length_range]; omega), List.length_drop, List.length_range, show i - (t.length - 1) = 0 by omega]
        have : i + 1 = t.length := by omega
        rw [this] <;> rfl
    have e3 : ((List.range t.length).zip ((List.range t.length).drop 1 ++ [t.length]))[i]? = some (i, i + 1) := List.getElem?_zip_eq_some.mpr ⟨e1, e2⟩
    rw [e3, List.getElem?_eq_getElem h]
    show some ((t.drop i).take (i + 1 - i)) = some [t[i]]
    rw [show i + 1 - i = 1 by omega, ← List.getElem_cons_drop (h := h)]
    rfl
  · rw [List.getElem?_eq_none (by rw [List.length_zip, List.length_range]; omega), List.getElem?_eq_none (by omega)] <;> rfl
theorem nextB_range {t : List Nat} : nextB t (List.range t.length) = groupsL (t.map fun c => [c]) := by
  unfold nextB
  rw [namesL_range]
  have : ∀ g ∈ groupsL (t.map fun c => [c]), (List.range t.length).getD g 0 = g := fun g hg => by
    have := groups_lt hg
    rw [List.length_map] at this
    exact getD_range this
  rw [List.map_congr_left this, List.map_id']
end DL


namespace DL
open PySem PySem.Spec PyProof.Rows L2

/-! ### the law's own defs -/
theorem fr_take : S__law_take.fresh = false := rfl
def S__law_is_integer : FnSpec := fnSpec 1 false (fun i : Int => [.int i]) (fun _ => True) fun _ => .bl true
/-- _law_is_integer: slots 0 _law_thing -/
def D__law_is_integer : DTS := (dRet (dUp (dAndV (dUn (oIsi "int") (dVar 0)) (dNotV (dUn (oIsi "bool") (dVar 0))))))
theorem sem__law_is_integer : ∀ ds Kd, S__law_is_integer.ds ds Kd → D__law_is_integer (endsOf S__law_is_integer Kd) (env0 1 [false] ds) := by
  rintro ds Kd ⟨i, rfl, -, post⟩
  show D__law_is_integer (endsOf S__law_is_integer Kd) [.fz (.int i)]
  simp only [↓D__law_is_integer, ↓dSeq, ↓dNext, ↓dBreak, ↓dCont, ↓dNever, ↓dRet, ↓dRetN, ↓dDrop, ↓dSet, ↓dIf, ↓dAug, ↓dAsg, ↓dPar, ↓dVar, ↓dMove, ↓dC, ↓dFz, ↓dUp, ↓dNil, ↓dCons, ↓dTup, ↓dLst, ↓dBin, ↓dUn, ↓dChain, ↓dTest, ↓dAnd, ↓dOr, ↓dNot, ↓dAndV, ↓dOrV, ↓dNotV, ↓dIfE, ↓dgName, ↓dgNil, ↓dgCons, ↓dgTup, ↓dIt, ↓dRng1, ↓dRng2, ↓dZip, ↓dEnum, ↓u_for, ↓u_lc, ↓dYes, ↓u_call, ↓u_callF, ↓u_callIo, ↓dCB, ↓dCBF, ↓dBinS, ↓dLenS, ↓dSl, ↓dSlS, ↓dNo, ↓dPt, ↓dStL, ↓dApp, ↓dExt, ↓dJoin, ↓dRg1, ↓dRg2, ↓dTupRg, ↓dLstRg, ↓oSub, ↓oMulI, ↓oMul, ↓oFdiv, ↓oMod, ↓oPow, ↓oShr, ↓oXor, ↓oNeg, ↓oAdd, ↓oAug, ↓oLt, ↓oLe, ↓oGt, ↓oGe, ↓oI, ↓oIx, ↓oLen, ↓oInt, ↓oOrd, ↓oAbs, ↓oStL, ↓oIn, ↓oNin, ↓oInB, ↓isi_int, ↓isi_int_bl, ↓isi_int_str, ↓isi_int_tup, ↓isi_int_lst, ↓isi_str, ↓isi_str_int, ↓isi_tup, ↓isi_tup_int, ↓isi_tup_str, ↓isi_tup_lst, ↓isi_lst, ↓isi_lst_tup, ↓isi_lst_int, ↓isi_lst_str, ↓cv, ↓Cell.val, ↓Cell.up, ↓Cell.own, ↓lenD, ↓itemsOf, List.getElem?_cons_zero, List.getElem?_cons_succ, List.set_cons_zero, List.set_cons_succ, Option.bind_some, Option.isSome_some, List.length_cons, List.length_nil, true_and, and_true, ↓ixN_lit, ↓atI_lit, ↓reduceIte, Nat.reduceAdd, Nat.reduceLT, Nat.reduceSub, Nat.zero_add, Nat.reduceLeDiff, Nat.lt_add_one, Nat.zero_lt_succ, ↓oEq_int, ↓oNe_int, ↓oEq_str, ↓oNe_str, ↓oEq_bl, ↓oNe_bl, decide_eq_true_eq, Bool.false_eq_true, ↓u_while, ↓ownAt, List.all_cons, List.all_nil, Bool.and_true, List.getD_cons_zero, List.getD_cons_succ, Bool.not_false, ↓oLe_sign]
  exact ⟨rfl, post _ _ ⟨rfl, rfl⟩⟩
/-- _law_same: slots 0 _law_actual, 1 _law_due, 2 _law_one, 3 _law_other -/
def D__law_same (SR : FnSpec) : DTS := (dSeq (dIf (dTest (dBin oIs (dVar 1) (dC .non))) (dRet (dUp (dBin oIs (dVar 0) (dC .non)))) dNext) (dSeq (dIf (dTest (dBin oIs (dVar 1) (dC (.bl true)))) (dRet (dUp (dBin oIs (dVar 0) (dC (.bl true))))) dNext) (dSeq (dIf (dTest (dBin oIs (dVar 1) (dC (.bl false)))) (dRet (dUp (dBin oIs (dVar 0) (dC (.bl false))))) dNext) (dSeq (dIf (dTest (dUn (oIsi "int") (dVar 1))) (dRet (dUp (dAndV (dCall S__law_is_integer (dCons (dVar 0) dNil)) (dBin oEq (dVar 0) (dVar 1))))) dNext) (dSeq (dIf (dTest (dUn (oIsi "str") (dVar 1))) (dRet (dUp (dAndV (dUn (oIsi "str") (dVar 0)) (dBin oEq (dVar 0) (dVar 1))))) dNext) (dSeq (dIf (dOr (dTest (dBin oNe (dUn (oIsi "tuple") (dVar 1)) (dUn (oIsi "tuple") (dVar 0)))) (dTest (dBin oNe (dUn (oIsi "list") (dVar 1)) (dUn (oIsi "list") (dVar 0))))) (dRet (dUp (dC (.bl false)))) dNext) (dSeq (dIf (dTest (dBin oNe (dLenS 0) (dLenS 1))) (dRet (dUp (dC (.bl false)))) dNext) (dSeq (dFor (dZip (dCons (dVar 0) (dCons (dVar 1) dNil))) (dgTup 2 (dgCons (dgName 2) (dgCons (dgName 3) dgNil))) (dIf (dNot (dTest (dCall SR (dCons (dVar 2) (dCons (dVar 3) dNil))))) (dRet (dUp (dC (.bl false)))) dNext)) (dRet (dUp (dC (.bl true))))))))))))
def S_same0 : FnSpec := fnSpec 2 false (fun i : Int => [.int i, .int i]) (fun _ => True) fun _ => .bl true
def S__law_same : FnSpec := fnSpec 2 false (fun l : List Nat => [.tup (il l), .tup (il l)]) (fun _ => True) fun _ => .bl true
theorem sem_same0 {SR : FnSpec} : ∀ ds Kd, S_same0.ds ds Kd → D__law_same SR (endsOf S_same0 Kd) (env0 4 [false, false] ds) := by
  rintro ds Kd ⟨i, rfl, -, post⟩
  show D__law_same SR (endsOf S_same0 Kd) [.fz (.int i), .fz (.int i), .un, .un]
  unfold D__law_same
  refine seq_gen fun k hk => if_gen fun kA kB hA hB => ?_
  simp only [↓dSeq, ↓dNext, ↓dBreak, ↓dCont, ↓dNever, ↓dRet, ↓dRetN, ↓dDrop, ↓dSet, ↓dIf, ↓dAug, ↓dAsg, ↓dPar, ↓dVar, ↓dMove, ↓dC, ↓dFz, ↓dUp, ↓dNil, ↓dCons, ↓dTup, ↓dLst, ↓dBin, ↓dUn, ↓dChain, ↓dTest, ↓dAnd, ↓dOr, ↓dNot, ↓dAndV, ↓dOrV, ↓dNotV, ↓dIfE, ↓dgName, ↓dgNil, ↓dgCons, ↓dgTup, ↓dIt, ↓dRng1, ↓dRng2, ↓dZip, ↓dEnum, ↓u_for, ↓u_lc, ↓dYes, ↓u_call, ↓u_callF, ↓u_callIo, ↓dCB, ↓dCBF, ↓dBinS, ↓dLenS, ↓dSl, ↓dSlS, ↓dNo, ↓dPt, ↓dStL, ↓dApp, ↓dExt, ↓dJoin, ↓dRg1, ↓dRg2, ↓dTupRg, ↓dLstRg, ↓oSub, ↓oMulI, ↓oMul, ↓oFdiv, ↓oMod, ↓oPow, ↓oShr, ↓oXor, ↓oNeg, ↓oAdd, ↓oAug, ↓oLt, ↓oLe, ↓oGt, ↓oGe, ↓oI, ↓oIx, ↓oLen, ↓oInt, ↓oOrd, ↓oAbs, ↓oStL, ↓oIn, ↓oNin, ↓oInB, ↓isi_int, ↓isi_int_bl, ↓isi_int_str, ↓isi_int_tup, ↓isi_int_lst, ↓isi_str, ↓isi_str_int, ↓isi_tup, ↓isi_tup_int, ↓isi_tup_str, ↓isi_tup_lst, ↓isi_lst, ↓isi_lst_tup, ↓isi_lst_int, ↓isi_lst_str, ↓cv, ↓Cell.val, ↓Cell.up, ↓Cell.own, ↓lenD, ↓itemsOf, List.getElem?_cons_zero, List.getElem?_cons_succ, List.set_cons_zero, List.set_cons_succ, Option.bind_some, Option.isSome_some, List.length_cons, List.length_nil, true_and, and_true, ↓ixN_lit, ↓atI_lit, ↓reduceIte, Nat.reduceAdd, Nat.reduceLT, Nat.reduceSub, Nat.zero_add, Nat.reduceLeDiff, Nat.lt_add_one, Nat.zero_lt_succ, ↓oEq_int, ↓oNe_int, ↓oEq_str, ↓oNe_str, ↓oEq_bl, ↓oNe_bl, decide_eq_true_eq, Bool.false_eq_true, ↓u_while, ↓ownAt, List.all_cons, List.all_nil, Bool.and_true, List.getD_cons_zero, List.getD_cons_succ, Bool.not_false, ↓oLe_sign, oIs, D.isNon]
  subst hB
  show k _
  subst hk
  refine seq_gen fun k hk => if_gen fun kA kB hA hB => ?_
  simp only [↓dSeq, ↓dNext, ↓dBreak, ↓dCont, ↓dNever, ↓dRet, ↓dRetN, ↓dDrop, ↓dSet, ↓dIf, ↓dAug, ↓dAsg, ↓dPar, ↓dVar, ↓dMove, ↓dC, ↓dFz, ↓dUp, ↓dNil, ↓dCons, ↓dTup, ↓dLst, ↓dBin, ↓dUn, ↓dChain, ↓dTest, ↓dAnd, ↓dOr, ↓dNot, ↓dAndV, ↓dOrV, ↓dNotV, ↓dIfE, ↓dgName, ↓dgNil, ↓dgCons, ↓dgTup, ↓dIt, ↓dRng1, ↓dRng2, ↓dZip, ↓dEnum, ↓u_for, ↓u_lc, ↓dYes, ↓u_call, ↓u_callF, ↓u_callIo, ↓dCB, ↓dCBF, ↓dBinS, ↓dLenS, ↓dSl, ↓dSlS, ↓dNo, ↓dPt, ↓dStL, ↓dApp, ↓dExt, ↓dJoin, ↓dRg1, ↓dRg2, ↓dTupRg, ↓dLstRg, ↓oSub, ↓oMulI, ↓oMul, ↓oFdiv, ↓oMod, ↓oPow, ↓oShr, ↓oXor, ↓oNeg, ↓oAdd, ↓oAug, ↓oLt, ↓oLe, ↓oGt, ↓oGe, ↓oI, ↓oIx, ↓oLen, ↓oInt, ↓oOrd, ↓oAbs, ↓oStL, ↓oIn, ↓oNin, ↓oInB, ↓isi_int, ↓isi_int_bl, ↓isi_int_str, ↓isi_int_tup, ↓isi_int_lst, ↓isi_str, ↓isi_str_int, ↓isi_tup, ↓isi_tup_int, ↓isi_tup_str, ↓isi_tup_lst, ↓isi_lst, ↓isi_lst_tup, ↓isi_lst_int, ↓isi_lst_str, ↓cv, ↓Cell.val, ↓Cell.up, ↓Cell.own, ↓lenD, ↓itemsOf, List.getElem?_cons_zero, List.getElem?_cons_succ, List.set_cons_zero, List.set_cons_succ, Option.bind_some, Option.isSome_some, List.length_cons, List.length_nil, true_and, and_true, ↓ixN_lit, ↓atI_lit, ↓reduceIte, Nat.reduceAdd, Nat.reduceLT, Nat.reduceSub, Nat.zero_add, Nat.reduceLeDiff, Nat.lt_add_one, Nat.zero_lt_succ, ↓oEq_int, ↓oNe_int, ↓oEq_str, ↓oNe_str, ↓oEq_bl, ↓oNe_bl, decide_eq_true_eq, Bool.false_eq_true, ↓u_while, ↓ownAt, List.all_cons, List.all_nil, Bool.and_true, List.getD_cons_zero, List.getD_cons_succ, Bool.not_false, ↓oLe_sign, oIs]
  subst hB
  show k _
  subst hk
  refine seq_gen fun k hk => if_gen fun kA kB hA hB => ?_
  simp only [↓dSeq, ↓dNext, ↓dBreak, ↓dCont, ↓dNever, ↓dRet, ↓dRetN, ↓dDrop, ↓dSet, ↓dIf, ↓dAug, ↓dAsg, ↓dPar, ↓dVar, ↓dMove, ↓dC, ↓dFz, ↓dUp, ↓dNil, ↓dCons, ↓dTup, ↓dLst, ↓dBin, ↓dUn, ↓dChain, ↓dTest, ↓dAnd, ↓dOr, ↓dNot, ↓dAndV, ↓dOrV, ↓dNotV, ↓dIfE, ↓dgName, ↓dgNil, ↓dgCons, ↓dgTup, ↓dIt, ↓dRng1, ↓dRng2, ↓dZip, ↓dEnum, ↓u_for, ↓u_lc, ↓dYes, ↓u_call, ↓u_callF, ↓u_callIo, ↓dCB, ↓dCBF, ↓dBinS, ↓dLenS, ↓dSl, ↓dSlS, ↓dNo, ↓dPt, ↓dStL, ↓dApp, ↓dExt, ↓dJoin, ↓dRg1, ↓dRg2, ↓dTupRg, ↓dLstRg, ↓oSub, ↓oMulI, ↓oMul, ↓oFdiv, ↓oMod, ↓oPow, ↓oShr, ↓oXor, ↓oNeg, ↓oAdd, ↓oAug, ↓oLt, ↓oLe, ↓oGt, ↓oGe, ↓oI, ↓oIx, ↓oLen, ↓oInt, ↓oOrd, ↓oAbs, ↓oStL, ↓oIn, ↓oNin, ↓oInB, ↓isi_int, ↓isi_int_bl, ↓isi_int_str, ↓isi_int_tup, ↓isi_int_lst, ↓isi_str, ↓isi_str_int, ↓isi_tup, ↓isi_tup_int, ↓isi_tup_str, ↓isi_tup_lst, ↓isi_lst, ↓isi_lst_tup, ↓isi_lst_int, ↓isi_lst_str, ↓cv, ↓Cell.val, ↓Cell.up, ↓Cell.own, ↓lenD, ↓itemsOf, List.getElem?_cons_zero, List.getElem?_cons_succ, List.set_cons_zero, List.set_cons_succ, Option.bind_some, Option.isSome_some, List.length_cons, List.length_nil, true_and, and_true, ↓ixN_lit, ↓atI_lit, ↓reduceIte, Nat.reduceAdd, Nat.reduceLT, Nat.reduceSub, Nat.zero_add, Nat.reduceLeDiff, Nat.lt_add_one, Nat.zero_lt_succ, ↓oEq_int, ↓oNe_int, ↓oEq_str, ↓oNe_str, ↓oEq_bl, ↓oNe_bl, decide_eq_true_eq, Bool.false_eq_true, ↓u_while, ↓ownAt, List.all_cons, List.all_nil, Bool.and_true, List.getD_cons_zero, List.getD_cons_succ, Bool.not_false, ↓oLe_sign, oIs]
  subst hB
  show k _
  subst hk
  refine seq_gen fun k hk => if_gen fun kA kB hA hB => ?_
  simp only [↓dSeq, ↓dNext, ↓dBreak, ↓dCont, ↓dNever, ↓dRet, ↓dRetN, ↓dDrop, ↓dSet, ↓dIf, ↓dAug, ↓dAsg, ↓dPar, ↓dVar, ↓dMove, ↓dC, ↓dFz, ↓dUp, ↓dNil, ↓dCons, ↓dTup, ↓dLst, ↓dBin, ↓dUn, ↓dChain, ↓dTest, ↓dAnd, ↓dOr, ↓dNot, ↓dAndV, ↓dOrV, ↓dNotV, ↓dIfE, ↓dgName, ↓dgNil, ↓dgCons, ↓dgTup, ↓dIt, ↓dRng1, ↓dRng2, ↓dZip, ↓dEnum, ↓u_for, ↓u_lc, ↓dYes, ↓u_call, ↓u_callF, ↓u_callIo, ↓dCB, ↓dCBF, ↓dBinS, ↓dLenS, ↓dSl, ↓dSlS, ↓dNo, ↓dPt, ↓dStL, ↓dApp, ↓dExt, ↓dJoin, ↓dRg1, ↓dRg2, ↓dTupRg, ↓dLstRg, ↓oSub, ↓oMulI, ↓oMul, ↓oFdiv, ↓oMod, ↓oPow, ↓oShr, ↓oXor, ↓oNeg, ↓oAdd, ↓oAug, ↓oLt, ↓oLe, ↓oGt, ↓oGe, ↓oI, ↓oIx, ↓oLen, ↓oInt, ↓oOrd, ↓oAbs, ↓oStL, ↓oIn, ↓oNin, ↓oInB, ↓isi_int, ↓isi_int_bl, ↓isi_int_str, ↓isi_int_tup, ↓isi_int_lst, ↓isi_str, ↓isi_str_int, ↓isi_tup, ↓isi_tup_int, ↓isi_tup_str, ↓isi_tup_lst, ↓isi_lst, ↓isi_lst_tup, ↓isi_lst_int, ↓isi_lst_str, ↓cv, ↓Cell.val, ↓Cell.up, ↓Cell.own, ↓lenD, ↓itemsOf, List.getElem?_cons_zero, List.getElem?_cons_succ, List.set_cons_zero, List.set_cons_succ, Option.bind_some, Option.isSome_some, List.length_cons, List.length_nil, true_and, and_true, ↓ixN_lit, ↓atI_lit, ↓reduceIte, Nat.reduceAdd, Nat.reduceLT, Nat.reduceSub, Nat.zero_add, Nat.reduceLeDiff, Nat.lt_add_one, Nat.zero_lt_succ, ↓oEq_int, ↓oNe_int, ↓oEq_str, ↓oNe_str, ↓oEq_bl, ↓oNe_bl, decide_eq_true_eq, Bool.false_eq_true, ↓u_while, ↓ownAt, List.all_cons, List.all_nil, Bool.and_true, List.getD_cons_zero, List.getD_cons_succ, Bool.not_false, ↓oLe_sign]
  subst hA
  simp only [↓dSeq, ↓dNext, ↓dBreak, ↓dCont, ↓dNever, ↓dRet, ↓dRetN, ↓dDrop, ↓dSet, ↓dIf, ↓dAug, ↓dAsg, ↓dPar, ↓dVar, ↓dMove, ↓dC, ↓dFz, ↓dUp, ↓dNil, ↓dCons, ↓dTup, ↓dLst, ↓dBin, ↓dUn, ↓dChain, ↓dTest, ↓dAnd, ↓dOr, ↓dNot, ↓dAndV, ↓dOrV, ↓dNotV, ↓dIfE, ↓dgName, ↓dgNil, ↓dgCons, ↓dgTup, ↓dIt, ↓dRng1, ↓dRng2, ↓dZip, ↓dEnum, ↓u_for, ↓u_lc, ↓dYes, ↓u_call, ↓u_callF, ↓u_callIo, ↓dCB, ↓dCBF, ↓dBinS, ↓dLenS, ↓dSl, ↓dSlS, ↓dNo, ↓dPt, ↓dStL, ↓dApp, ↓dExt, ↓dJoin, ↓dRg1, ↓dRg2, ↓dTupRg, ↓dLstRg, ↓oSub, ↓oMulI, ↓oMul, ↓oFdiv, ↓oMod, ↓oPow, ↓oShr, ↓oXor, ↓oNeg, ↓oAdd, ↓oAug, ↓oLt, ↓oLe, ↓oGt, ↓oGe, ↓oI, ↓oIx, ↓oLen, ↓oInt, ↓oOrd, ↓oAbs, ↓oStL, ↓oIn, ↓oNin, ↓oInB, ↓isi_int, ↓isi_int_bl, ↓isi_int_str, ↓isi_int_tup, ↓isi_int_lst, ↓isi_str, ↓isi_str_int, ↓isi_tup, ↓isi_tup_int, ↓isi_tup_str, ↓isi_tup_lst, ↓isi_lst, ↓isi_lst_tup, ↓isi_lst_int, ↓isi_lst_str, ↓cv, ↓Cell.val, ↓Cell.up, ↓Cell.own, ↓lenD, ↓itemsOf, List.getElem?_cons_zero, List.getElem?_cons_succ, List.set_cons_zero, List.set_cons_succ, Option.bind_some, Option.isSome_some, List.length_cons, List.length_nil, true_and, and_true, ↓ixN_lit, ↓atI_lit, ↓reduceIte, Nat.reduceAdd, Nat.reduceLT, Nat.reduceSub, Nat.zero_add, Nat.reduceLeDiff, Nat.lt_add_one, Nat.zero_lt_succ, ↓oEq_int, ↓oNe_int, ↓oEq_str, ↓oNe_str, ↓oEq_bl, ↓oNe_bl, decide_eq_true_eq, Bool.false_eq_true, ↓u_while, ↓ownAt, List.all_cons, List.all_nil, Bool.and_true, List.getD_cons_zero, List.getD_cons_succ, Bool.not_false, ↓oLe_sign]
  refine ⟨rfl, onF i rfl trivial ?_⟩
  simp only [↓dSeq, ↓dNext, ↓dBreak, ↓dCont, ↓dNever, ↓dRet, ↓dRetN, ↓dDrop, ↓dSet, ↓dIf, ↓dAug, ↓dAsg, ↓dPar, ↓dVar, ↓dMove, ↓dC, ↓dFz, ↓dUp, ↓dNil, ↓dCons, ↓dTup, ↓dLst, ↓dBin, ↓dUn, ↓dChain, ↓dTest, ↓dAnd, ↓dOr, ↓dNot, ↓dAndV, ↓dOrV, ↓dNotV, ↓dIfE, ↓dgName, ↓dgNil, ↓dgCons, ↓dgTup, ↓dIt, ↓dRng1, ↓dRng2, ↓dZip, ↓dEnum, ↓u_for, ↓u_lc, ↓dYes, ↓u_call, ↓u_callF, ↓u_callIo, ↓dCB, ↓dCBF, ↓dBinS, ↓dLenS, ↓dSl, ↓dSlS, ↓dNo, ↓dPt, ↓dStL, ↓dApp, ↓dExt, ↓dJoin, ↓dRg1, ↓dRg2, ↓dTupRg, ↓dLstRg, ↓oSub, ↓oMulI, ↓oMul, ↓oFdiv, ↓oMod, ↓oPow, ↓oShr, ↓oXor, ↓oNeg, ↓oAdd, ↓oAug, ↓oLt, ↓oLe, ↓oGt, ↓oGe, ↓oI, ↓oIx, ↓oLen, ↓oInt, ↓oOrd, ↓oAbs, ↓oStL, ↓oIn, ↓oNin, ↓oInB, ↓isi_int, ↓isi_int_bl, ↓isi_int_str, ↓isi_int_tup, ↓isi_int_lst, ↓isi_str, ↓isi_str_int, ↓isi_tup, ↓isi_tup_int, ↓isi_tup_str, ↓isi_tup_lst, ↓isi_lst, ↓isi_lst_tup, ↓isi_lst_int, ↓isi_lst_str, ↓cv, ↓Cell.val, ↓Cell.up, ↓Cell.own, ↓lenD, ↓itemsOf, List.getElem?_cons_zero, List.getElem?_cons_succ, List.set_cons_zero, List.set_cons_succ, Option.bind_some, Option.isSome_some, List.length_cons, List.length_nil, true_and, and_true, ↓ixN_lit, ↓atI_lit, ↓reduceIte, Nat.reduceAdd, Nat.reduceLT, Nat.reduceSub, Nat.zero_add, Nat.reduceLeDiff, Nat.lt_add_one, Nat.zero_lt_succ, ↓oEq_int, ↓oNe_int, ↓oEq_str, ↓oNe_str, ↓oEq_bl, ↓oNe_bl, decide_eq_true_eq, Bool.false_eq_true, ↓u_while, ↓ownAt, List.all_cons, List.all_nil, Bool.and_true, List.getD_cons_zero, List.getD_cons_succ, Bool.not_false, ↓oLe_sign, decide_true]
  exact ⟨rfl, post _ _ ⟨rfl, rfl⟩⟩
theorem sem__law_same : ∀ ds Kd, S__law_same.ds ds Kd → D__law_same S_same0 (endsOf S__law_same Kd) (env0 4 [false, false] ds) := by
  rintro ds Kd ⟨l, rfl, -, post⟩
  show D__law_same S_same0 (endsOf S__law_same Kd) [.fz (.tup (il l)), .fz (.tup (il l)), .un, .un]
  have e1 : (true == true) = true := rfl
  have e2 : (false == false) = true := rfl
  unfold D__law_same
  refine seq_gen fun k hk => if_gen fun kA kB hA hB => ?_
  simp only [↓dSeq, ↓dNext, ↓dBreak, ↓dCont, ↓dNever, ↓dRet, ↓dRetN, ↓dDrop, ↓dSet, ↓dIf, ↓dAug, ↓dAsg, ↓dPar, ↓dVar, ↓dMove, ↓dC, ↓dFz, ↓dUp, ↓dNil, ↓dCons, ↓dTup, ↓dLst, ↓dBin, ↓dUn, ↓dChain, ↓dTest, ↓dAnd, ↓dOr, ↓dNot, ↓dAndV, ↓dOrV, ↓dNotV, ↓dIfE, ↓dgName, ↓dgNil, ↓dgCons, ↓dgTup, ↓dIt, ↓dRng1, ↓dRng2, ↓dZip, ↓dEnum, ↓u_for, ↓u_lc, ↓dYes, ↓u_call, ↓u_callF, ↓u_callIo, ↓dCB, ↓dCBF, ↓dBinS, ↓dLenS, ↓dSl, ↓dSlS, ↓dNo, ↓dPt, ↓dStL, ↓dApp, ↓dExt, ↓dJoin, ↓dRg1, ↓dRg2, ↓dTupRg, ↓dLstRg, ↓oSub, ↓oMulI, ↓oMul, ↓oFdiv, ↓oMod, ↓oPow, ↓oShr, ↓oXor, ↓oNeg, ↓oAdd, ↓oAug, ↓oLt, ↓oLe, ↓oGt, ↓oGe, ↓oI, ↓oIx, ↓oLen, ↓oInt, ↓oOrd, ↓oAbs, ↓oStL, ↓oIn, ↓oNin, ↓oInB, ↓isi_int, ↓isi_int_bl, ↓isi_int_str, ↓isi_int_tup, ↓isi_int_lst, ↓isi_str, ↓isi_str_int, ↓isi_tup, ↓isi_tup_int, ↓isi_tup_str, ↓isi_tup_lst, ↓isi_lst, ↓isi_lst_tup, ↓isi_lst_int, ↓isi_lst_str, ↓cv, ↓Cell.val, ↓Cell.up, ↓Cell.own, ↓lenD, ↓itemsOf, List.getElem?_cons_zero, List.getElem?_cons_succ, List.set_cons_zero, List.set_cons_succ, Option.bind_some, Option.isSome_some, List.length_cons, List.length_nil, true_and, and_true, ↓ixN_lit, ↓atI_lit, ↓reduceIte, Nat.reduceAdd, Nat.reduceLT, Nat.reduceSub, Nat.zero_add, Nat.reduceLeDiff, Nat.lt_add_one, Nat.zero_lt_succ, ↓oEq_int, ↓oNe_int, ↓oEq_str, ↓oNe_str, ↓oEq_bl, ↓oNe_bl, decide_eq_true_eq, Bool.false_eq_true, ↓u_while, ↓ownAt, List.all_cons, List.all_nil, Bool.and_true, List.getD_cons_zero, List.getD_cons_succ, Bool.not_false, ↓oLe_sign, oIs, D.isNon]
  subst hB
  show k _
  subst hk
  refine seq_gen fun k hk => if_gen fun kA kB hA hB => ?_
  simp only [↓dSeq, ↓dNext, ↓dBreak, ↓dCont, ↓dNever, ↓dRet, ↓dRetN, ↓dDrop, ↓dSet, ↓dIf, ↓dAug, ↓dAsg, ↓dPar, ↓dVar, ↓dMove, ↓dC, ↓dFz, ↓dUp, ↓dNil, ↓dCons, ↓dTup, ↓dLst, ↓dBin, ↓dUn, ↓dChain, ↓dTest, ↓dAnd, ↓dOr, ↓dNot, ↓dAndV, ↓dOrV, ↓dNotV, ↓dIfE, ↓dgName, ↓dgNil, ↓dgCons, ↓dgTup, ↓dIt, ↓dRng1, ↓dRng2, ↓dZip, ↓dEnum, ↓u_for, ↓u_lc, ↓dYes, ↓u_call, ↓u_callF, ↓u_callIo, ↓dCB, ↓dCBF, ↓dBinS, ↓dLenS, ↓dSl, ↓dSlS, ↓dNo, ↓dPt, ↓dStL, ↓dApp, ↓dExt, ↓dJoin, ↓dRg1, ↓dRg2, ↓dTupRg, ↓dLstRg, ↓oSub, ↓oMulI, ↓oMul, ↓oFdiv, ↓oMod, ↓oPow, ↓oShr, ↓oXor, ↓oNeg, ↓oAdd, ↓oAug, ↓oLt, ↓oLe, ↓oGt, ↓oGe, ↓oI, ↓oIx, ↓oLen, ↓oInt, ↓oOrd, ↓oAbs, ↓oStL, ↓oIn, ↓oNin, ↓oInB, ↓isi_int, ↓isi_int_bl, ↓isi_int_str, ↓isi_int_tup, ↓isi_int_lst, ↓isi_str, ↓isi_str_int, ↓isi_tup, ↓isi_tup_int, ↓isi_tup_str, ↓isi_tup_lst, ↓isi_lst, ↓isi_lst_tup, ↓isi_lst_int, ↓isi_lst_str, ↓cv, ↓Cell.val, ↓Cell.up, ↓Cell.own, ↓lenD, ↓itemsOf, List.getElem?_cons_zero, List.getElem?_cons_succ, List.set_cons_zero, List.set_cons_succ, Option.bind_some, Option.isSome_some, List.length_cons, List.length_nil, true_and, and_true, ↓ixN_lit, ↓atI_lit, ↓reduceIte, Nat.reduceAdd, Nat.reduceLT, Nat.reduceSub, Nat.zero_add, Nat.reduceLeDiff, Nat.lt_add_one, Nat.zero_lt_succ, ↓oEq_int, ↓oNe_int, ↓oEq_str, ↓oNe_str, ↓oEq_bl, ↓oNe_bl, decide_eq_true_eq, Bool.false_eq_true, ↓u_while, ↓ownAt, List.all_cons, List.all_nil, Bool.and_true, List.getD_cons_zero, List.getD_cons_succ, Bool.not_false, ↓oLe_sign, oIs]
  subst hB
  show k _
  subst hk
  refine seq_gen fun k hk => if_gen fun kA kB hA hB => ?_
  simp only [↓dSeq, ↓dNext, ↓dBreak, ↓dCont, ↓dNever, ↓dRet, ↓dRetN, ↓dDrop, ↓dSet, ↓dIf, ↓dAug, ↓dAsg, ↓dPar, ↓dVar, ↓dMove, ↓dC, ↓dFz, ↓dUp, ↓dNil, ↓dCons, ↓dTup, ↓dLst, ↓dBin, ↓dUn, ↓dChain, ↓dTest, ↓dAnd, ↓dOr, ↓dNot, ↓dAndV, ↓dOrV, ↓dNotV, ↓dIfE, ↓dgName, ↓dgNil, ↓dgCons, ↓dgTup, ↓dIt, ↓dRng1, ↓dRng2, ↓dZip, ↓dEnum, ↓u_for, ↓u_lc, ↓dYes, ↓u_call, ↓u_callF, ↓u_callIo, ↓dCB, ↓dCBF, ↓dBinS, ↓dLenS, ↓dSl, ↓dSlS, ↓dNo, ↓dPt, ↓dStL, ↓dApp, ↓dExt, ↓dJoin, ↓dRg1, ↓dRg2, ↓dTupRg, ↓dLstRg, ↓oSub, ↓oMulI, ↓oMul, ↓oFdiv, ↓oMod, ↓oPow, ↓oShr, ↓oXor, ↓oNeg, ↓oAdd, ↓oAug, ↓oLt, ↓oLe, ↓oGt, ↓oGe, ↓oI, ↓oIx, ↓oLen, ↓oInt, ↓oOrd, ↓oAbs, ↓oStL, ↓oIn, ↓oNin, ↓oInB, ↓isi_int, ↓isi_int_bl, ↓isi_int_str, ↓isi_int_tup, ↓isi_int_lst, ↓isi_str, ↓isi_str_int, ↓isi_tup, ↓isi_tup_int, ↓isi_tup_str, ↓isi_tup_lst, ↓isi_lst, ↓isi_lst_tup, ↓isi_lst_int, ↓isi_lst_str, ↓cv, ↓Cell.val, ↓Cell.up, ↓Cell.own, ↓lenD, ↓itemsOf, List.getElem?_cons_zero, List.getElem?_cons_succ, List.set_cons_zero, List.set_cons_succ, Option.bind_some, Option.isSome_some, List.length_cons, List.length_nil, true_and, and_true, ↓ixN_lit, ↓atI_lit, ↓reduceIte, Nat.reduceAdd, Nat.reduceLT, Nat.reduceSub, Nat.zero_add, Nat.reduceLeDiff, Nat.lt_add_one, Nat.zero_lt_succ, ↓oEq_int, ↓oNe_int, ↓oEq_str, ↓oNe_str, ↓oEq_bl, ↓oNe_bl, decide_eq_true_eq, Bool.false_eq_true, ↓u_while, ↓ownAt, List.all_cons, List.all_nil, Bool.and_true, List.getD_cons_zero, List.getD_cons_succ, Bool.not_false, ↓oLe_sign, oIs]
  subst hB
  show k _
  subst hk
  refine seq_gen fun k hk => if_gen fun kA kB hA hB => ?_
  simp only [↓dSeq, ↓dNext, ↓dBreak, ↓dCont, ↓dNever, ↓dRet, ↓dRetN, ↓dDrop, ↓dSet, ↓dIf, ↓dAug, ↓dAsg, ↓dPar, ↓dVar, ↓dMove, ↓dC, ↓dFz, ↓dUp, ↓dNil, ↓dCons, ↓dTup, ↓dLst, ↓dBin, ↓dUn, ↓dChain, ↓dTest, ↓dAnd, ↓dOr, ↓dNot, ↓dAndV, ↓dOrV, ↓dNotV, ↓dIfE, ↓dgName, ↓dgNil, ↓dgCons, ↓dgTup, ↓dIt, ↓dRng1, ↓dRng2, ↓dZip, ↓dEnum, ↓u_for, ↓u_lc, ↓dYes, ↓u_call, ↓u_callF, ↓u_callIo, ↓dCB, ↓dCBF, ↓dBinS, ↓dLenS, ↓dSl, ↓dSlS, ↓dNo, ↓dPt, ↓dStL, ↓dApp, ↓dExt, ↓dJoin, ↓dRg1, ↓dRg2, ↓dTupRg, ↓dLstRg, ↓oSub, ↓oMulI, ↓oMul, ↓oFdiv, ↓oMod, ↓oPow, ↓oShr, ↓oXor, ↓oNeg, ↓oAdd, ↓oAug, ↓oLt, ↓oLe, ↓oGt, ↓oGe, ↓oI, ↓oIx, ↓oLen, ↓oInt, ↓oOrd, ↓oAbs, ↓oStL, ↓oIn, ↓oNin, ↓oInB, ↓isi_int, ↓isi_int_bl, ↓isi_int_str, ↓isi_int_tup, ↓isi_int_lst, ↓isi_str, ↓isi_str_int, ↓isi_tup, ↓isi_tup_int, ↓isi_tup_str, ↓isi_tup_lst, ↓isi_lst, ↓isi_lst_tup, ↓isi_lst_int, ↓isi_lst_str, ↓cv, ↓Cell.val, ↓Cell.up, ↓Cell.own, ↓lenD, ↓itemsOf, List.getElem?_cons_zero, List.getElem?_cons_succ, List.set_cons_zero, List.set_cons_succ, Option.bind_some, Option.isSome_some, List.length_cons, List.length_nil, true_and, and_true, ↓ixN_lit, ↓atI_lit, ↓reduceIte, Nat.reduceAdd, Nat.reduceLT, Nat.reduceSub, Nat.zero_add, Nat.reduceLeDiff, Nat.lt_add_one, Nat.zero_lt_succ, ↓oEq_int, ↓oNe_int, ↓oEq_str, ↓oNe_str, ↓oEq_bl, ↓oNe_bl, decide_eq_true_eq, Bool.false_eq_true, ↓u_while, ↓ownAt, List.all_cons, List.all_nil, Bool.and_true, List.getD_cons_zero, List.getD_cons_succ, Bool.not_false, ↓oLe_sign]
  subst hB
  show k _
  subst hk
  refine seq_gen fun k hk => if_gen fun kA kB hA hB => ?_
  simp only [↓dSeq, ↓dNext, ↓dBreak, ↓dCont, ↓dNever, ↓dRet, ↓dRetN, ↓dDrop, ↓dSet, ↓dIf, ↓dAug, ↓dAsg, ↓dPar, ↓dVar, ↓dMove, ↓dC, ↓dFz, ↓dUp, ↓dNil, ↓dCons, ↓dTup, ↓dLst, ↓dBin, ↓dUn, ↓dChain, ↓dTest, ↓dAnd, ↓dOr, ↓dNot, ↓dAndV, ↓dOrV, ↓dNotV, ↓dIfE, ↓dgName, ↓dgNil, ↓dgCons, ↓dgTup, ↓dIt, ↓dRng1, ↓dRng2, ↓dZip, ↓dEnum, ↓u_for, ↓u_lc, ↓dYes, ↓u_call, ↓u_callF, ↓u_callIo, ↓dCB, ↓dCBF, ↓dBinS, ↓dLenS, ↓dSl, ↓dSlS, ↓dNo, ↓dPt, ↓dStL, ↓dApp, ↓dExt, ↓dJoin, ↓dRg1, ↓dRg2, ↓dTupRg, ↓dLstRg, ↓oSub, ↓oMulI, ↓oMul, ↓oFdiv, ↓oMod, ↓oPow, ↓oShr, ↓oXor, ↓oNeg, ↓oAdd, ↓oAug, ↓oLt, ↓oLe, ↓oGt, ↓oGe, ↓oI, ↓oIx, ↓oLen, ↓oInt, ↓oOrd, ↓oAbs, ↓oStL, ↓oIn, ↓oNin, ↓oInB, ↓isi_int, ↓isi_int_bl, ↓isi_int_str, ↓isi_int_tup, ↓isi_int_lst, ↓isi_str, ↓isi_str_int, ↓isi_tup, ↓isi_tup_int, ↓isi_tup_str, ↓isi_tup_lst, ↓isi_lst, ↓isi_lst_tup, ↓isi_lst_int, ↓isi_lst_str, ↓cv, ↓Cell.val, ↓Cell.up, ↓Cell.own, ↓lenD, ↓itemsOf, List.getElem?_cons_zero, List.getElem?_cons_succ, List.set_cons_zero, List.set_cons_succ, Option.bind_some, Option.isSome_some, List.length_cons, List.length_nil, true_and, and_true, ↓ixN_lit, ↓atI_lit, ↓reduceIte, Nat.reduceAdd, Nat.reduceLT, Nat.reduceSub, Nat.zero_add, Nat.reduceLeDiff, Nat.lt_add_one, Nat.zero_lt_succ, ↓oEq_int, ↓oNe_int, ↓oEq_str, ↓oNe_str, ↓oEq_bl, ↓oNe_bl, decide_eq_true_eq, Bool.false_eq_true, ↓u_while, ↓ownAt, List.all_cons, List.all_nil, Bool.and_true, List.getD_cons_zero, List.getD_cons_succ, Bool.not_false, ↓oLe_sign]
  subst hB
  show k _
  subst hk
  refine seq_gen fun k hk => if_gen fun kA kB hA hB => ?_
  simp only [↓dSeq, ↓dNext, ↓dBreak, ↓dCont, ↓dNever, ↓dRet, ↓dRetN, ↓dDrop, ↓dSet, ↓dIf, ↓dAug, ↓dAsg, ↓dPar, ↓dVar, ↓dMove, ↓dC, ↓dFz, ↓dUp, ↓dNil, ↓dCons, ↓dTup, ↓dLst, ↓dBin, ↓dUn, ↓dChain, ↓dTest, ↓dAnd, ↓dOr, ↓dNot, ↓dAndV, ↓dOrV, ↓dNotV, ↓dIfE, ↓dgName, ↓dgNil, ↓dgCons, ↓dgTup, ↓dIt, ↓dRng1, ↓dRng2, ↓dZip, ↓dEnum, ↓u_for, ↓u_lc, ↓dYes, ↓u_call, ↓u_callF, ↓u_callIo, ↓dCB, ↓dCBF, ↓dBinS, ↓dLenS, ↓dSl, ↓dSlS, ↓dNo, ↓dPt, ↓dStL, ↓dApp, ↓dExt, ↓dJoin, ↓dRg1, ↓dRg2, ↓dTupRg, ↓dLstRg, ↓oSub, ↓oMulI, ↓oMul, ↓oFdiv, ↓oMod, ↓oPow, ↓oShr, ↓oXor, ↓oNeg, ↓oAdd, ↓oAug, ↓oLt, ↓oLe, ↓oGt, ↓oGe, ↓oI, ↓oIx, ↓oLen, ↓oInt, ↓oOrd, ↓oAbs, ↓oStL, ↓oIn, ↓oNin, ↓oInB, ↓isi_int, ↓isi_int_bl, ↓isi_int_str, ↓isi_int_tup, ↓isi_int_lst, ↓isi_str, ↓isi_str_int, ↓isi_tup, ↓isi_tup_int, ↓isi_tup_str, ↓isi_tup_lst, ↓isi_lst, ↓isi_lst_tup, ↓isi_lst_int, ↓isi_lst_str, ↓cv, ↓Cell.val, ↓Cell.up, ↓Cell.own, ↓lenD, ↓itemsOf, List.getElem?_cons_zero, List.getElem?_cons_succ, List.set_cons_zero, List.set_cons_succ, Option.bind_some, Option.isSome_some, List.length_cons, List.length_nil, true_and, and_true, ↓ixN_lit, ↓atI_lit, ↓reduceIte, Nat.reduceAdd, Nat.reduceLT, Nat.reduceSub, Nat.zero_add, Nat.reduceLeDiff, Nat.lt_add_one, Nat.zero_lt_succ, ↓oEq_int, ↓oNe_int, ↓oEq_str, ↓oNe_str, ↓oEq_bl, ↓oNe_bl, decide_eq_true_eq, Bool.false_eq_true, ↓u_while, ↓ownAt, List.all_cons, List.all_nil, Bool.and_true, List.getD_cons_zero, List.getD_cons_succ, Bool.not_false, ↓oLe_sign, e1, e2, Bool.not_true]
  subst hB
  show k _
  subst hk
  refine seq_gen fun k hk => if_gen fun kA kB hA hB => ?_
  simp only [↓dSeq, ↓dNext, ↓dBreak, ↓dCont, ↓dNever, ↓dRet, ↓dRetN, ↓dDrop, ↓dSet, ↓dIf, ↓dAug, ↓dAsg, ↓dPar, ↓dVar, ↓dMove, ↓dC, ↓dFz, ↓dUp, ↓dNil, ↓dCons, ↓dTup, ↓dLst, ↓dBin, ↓dUn, ↓dChain, ↓dTest, ↓dAnd, ↓dOr, ↓dNot, ↓dAndV, ↓dOrV, ↓dNotV, ↓dIfE, ↓dgName, ↓dgNil, ↓dgCons, ↓dgTup, ↓dIt, ↓dRng1, ↓dRng2, ↓dZip, ↓dEnum, ↓u_for, ↓u_lc, ↓dYes, ↓u_call, ↓u_callF, ↓u_callIo, ↓dCB, ↓dCBF, ↓dBinS, ↓dLenS, ↓dSl, ↓dSlS, ↓dNo, ↓dPt, ↓dStL, ↓dApp, ↓dExt, ↓dJoin, ↓dRg1, ↓dRg2, ↓dTupRg, ↓dLstRg, ↓oSub, ↓oMulI, ↓oMul, ↓oFdiv, ↓oMod, ↓oPow, ↓oShr, ↓oXor, ↓oNeg, ↓oAdd, ↓oAug, ↓oLt, ↓oLe, ↓oGt, ↓oGe, ↓oI, ↓oIx, ↓oLen, ↓oInt, ↓oOrd, ↓oAbs, ↓oStL, ↓oIn, ↓oNin, ↓oInB, ↓isi_int, ↓isi_int_bl, ↓isi_int_str, ↓isi_int_tup, ↓isi_int_lst, ↓isi_str, ↓isi_str_int, ↓isi_tup, ↓isi_tup_int, ↓isi_tup_str, ↓isi_tup_lst, ↓isi_lst, ↓isi_lst_tup, ↓isi_lst_int, ↓isi_lst_str, ↓cv, ↓Cell.val, ↓Cell.up, ↓Cell.own, ↓lenD, ↓itemsOf, List.getElem?_cons_zero, List.getElem?_cons_succ, List.set_cons_zero, List.set_cons_succ, Option.bind_some, Option.isSome_some, List.length_cons, List.length_nil, true_and, and_true, ↓ixN_lit, ↓atI_lit, ↓reduceIte, Nat.reduceAdd, Nat.reduceLT, Nat.reduceSub, Nat.zero_add, Nat.reduceLeDiff, Nat.lt_add_one, Nat.zero_lt_succ, ↓oEq_int, ↓oNe_int, ↓oEq_str, ↓oNe_str, ↓oEq_bl, ↓oNe_bl, decide_eq_true_eq, Bool.false_eq_true, ↓u_while, ↓ownAt, List.all_cons, List.all_nil, Bool.and_true, List.getD_cons_zero, List.getD_cons_succ, Bool.not_false, ↓oLe_sign, ne_eq, not_true_eq_false]
  subst hB
  show k _
  subst hk
  refine seq_gen fun k hk => ?_
  simp only [↓dSeq, ↓dNext, ↓dBreak, ↓dCont, ↓dNever, ↓dRet, ↓dRetN, ↓dDrop, ↓dSet, ↓dIf, ↓dAug, ↓dAsg, ↓dPar, ↓dVar, ↓dMove, ↓dC, ↓dFz, ↓dUp, ↓dNil, ↓dCons, ↓dTup, ↓dLst, ↓dBin, ↓dUn, ↓dChain, ↓dTest, ↓dAnd, ↓dOr, ↓dNot, ↓dAndV, ↓dOrV, ↓dNotV, ↓dIfE, ↓dgName, ↓dgNil, ↓dgCons, ↓dgTup, ↓dIt, ↓dRng1, ↓dRng2, ↓dZip, ↓dEnum, ↓u_for, ↓u_lc, ↓dYes, ↓u_call, ↓u_callF, ↓u_callIo, ↓dCB, ↓dCBF, ↓dBinS, ↓dLenS, ↓dSl, ↓dSlS, ↓dNo, ↓dPt, ↓dStL, ↓dApp, ↓dExt, ↓dJoin, ↓dRg1, ↓dRg2, ↓dTupRg, ↓dLstRg, ↓oSub, ↓oMulI, ↓oMul, ↓oFdiv, ↓oMod, ↓oPow, ↓oShr, ↓oXor, ↓oNeg, ↓oAdd, ↓oAug, ↓oLt, ↓oLe, ↓oGt, ↓oGe, ↓oI, ↓oIx, ↓oLen, ↓oInt, ↓oOrd, ↓oAbs, ↓oStL, ↓oIn, ↓oNin, ↓oInB, ↓isi_int, ↓isi_int_bl, ↓isi_int_str, ↓isi_int_tup, ↓isi_int_lst, ↓isi_str, ↓isi_str_int, ↓isi_tup, ↓isi_tup_int, ↓isi_tup_str, ↓isi_tup_lst, ↓isi_lst, ↓isi_lst_tup, ↓isi_lst_int, ↓isi_lst_str, ↓cv, ↓Cell.val, ↓Cell.up, ↓Cell.own, ↓lenD, ↓itemsOf, List.getElem?_cons_zero, List.getElem?_cons_succ, List.set_cons_zero, List.set_cons_succ, Option.bind_some, Option.isSome_some, List.length_cons, List.length_nil, true_and, and_true, ↓ixN_lit, ↓atI_lit, ↓reduceIte, Nat.reduceAdd, Nat.reduceLT, Nat.reduceSub, Nat.zero_add, Nat.reduceLeDiff, Nat.lt_add_one, Nat.zero_lt_succ, ↓oEq_int, ↓oNe_int, ↓oEq_str, ↓oNe_str, ↓oEq_bl, ↓oNe_bl, decide_eq_true_eq, Bool.false_eq_true, ↓u_while, ↓ownAt, List.all_cons, List.all_nil, Bool.and_true, List.getD_cons_zero, List.getD_cons_succ, Bool.not_false, ↓oLe_sign]
  refine forB_of (forW_inv (fun rest ρ => ∃ m x2 x3, rest = pairsD (il m) (il m) ∧ ρ = [.fz (.tup (il l)), .fz (.tup (il l)), x2, x3]) ?_ ?_ _ _ ⟨l, .un, .un, rfl, rfl⟩)
  · rintro x xs ρ k2 ⟨m, x2, x3, e, rfl⟩ hk2
    cases m with
    | nil => cases e
    | cons n m =>
      cases e
      simp only [↓dSeq, ↓dNext, ↓dBreak, ↓dCont, ↓dNever, ↓dRet, ↓dRetN, ↓dDrop, ↓dSet, ↓dIf, ↓dAug, ↓dAsg, ↓dPar, ↓dVar, ↓dMove, ↓dC, ↓dFz, ↓dUp, ↓dNil, ↓dCons, ↓dTup, ↓dLst, ↓dBin, ↓dUn, ↓dChain, ↓dTest, ↓dAnd, ↓dOr, ↓dNot, ↓dAndV, ↓dOrV, ↓dNotV, ↓dIfE, ↓dgName, ↓dgNil, ↓dgCons, ↓dgTup, ↓dIt, ↓dRng1, ↓dRng2, ↓dZip, ↓dEnum, ↓u_for, ↓u_lc, ↓dYes, ↓u_call, ↓u_callF, ↓u_callIo, ↓dCB, ↓dCBF, ↓dBinS, ↓dLenS, ↓dSl, ↓dSlS, ↓dNo, ↓dPt, ↓dStL, ↓dApp, ↓dExt, ↓dJoin, ↓dRg1, ↓dRg2, ↓dTupRg, ↓dLstRg, ↓oSub, ↓oMulI, ↓oMul, ↓oFdiv, ↓oMod, ↓oPow, ↓oShr, ↓oXor, ↓oNeg, ↓oAdd, ↓oAug, ↓oLt, ↓oLe, ↓oGt, ↓oGe, ↓oI, ↓oIx, ↓oLen, ↓oInt, ↓oOrd, ↓oAbs, ↓oStL, ↓oIn, ↓oNin, ↓oInB, ↓isi_int, ↓isi_int_bl, ↓isi_int_str, ↓isi_int_tup, ↓isi_int_lst, ↓isi_str, ↓isi_str_int, ↓isi_tup, ↓isi_tup_int, ↓isi_tup_str, ↓isi_tup_lst, ↓isi_lst, ↓isi_lst_tup, ↓isi_lst_int, ↓isi_lst_str, ↓cv, ↓Cell.val, ↓Cell.up, ↓Cell.own, ↓lenD, ↓itemsOf, List.getElem?_cons_zero, List.getElem?_cons_succ, List.set_cons_zero, List.set_cons_succ, Option.bind_some, Option.isSome_some, List.length_cons, List.length_nil, true_and, and_true, ↓ixN_lit, ↓atI_lit, ↓reduceIte, Nat.reduceAdd, Nat.reduceLT, Nat.reduceSub, Nat.zero_add, Nat.reduceLeDiff, Nat.lt_add_one, Nat.zero_lt_succ, ↓oEq_int, ↓oNe_int, ↓oEq_str, ↓oNe_str, ↓oEq_bl, ↓oNe_bl, decide_eq_true_eq, Bool.false_eq_true, ↓u_while, ↓ownAt, List.all_cons, List.all_nil, Bool.and_true, List.getD_cons_zero, List.getD_cons_succ, Bool.not_false, ↓oLe_sign]
      refine ⟨rfl, onF ((n : Nat) : Int) rfl trivial ?_⟩
      simp only [↓dSeq, ↓dNext, ↓dBreak, ↓dCont, ↓dNever, ↓dRet, ↓dRetN, ↓dDrop, ↓dSet, ↓dIf, ↓dAug, ↓dAsg, ↓dPar, ↓dVar, ↓dMove, ↓dC, ↓dFz, ↓dUp, ↓dNil, ↓dCons, ↓dTup, ↓dLst, ↓dBin, ↓dUn, ↓dChain, ↓dTest, ↓dAnd, ↓dOr, ↓dNot, ↓dAndV, ↓dOrV, ↓dNotV, ↓dIfE, ↓dgName, ↓dgNil, ↓dgCons, ↓dgTup, ↓dIt, ↓dRng1, ↓dRng2, ↓dZip, ↓dEnum, ↓u_for, ↓u_lc, ↓dYes, ↓u_call, ↓u_callF, ↓u_callIo, ↓dCB, ↓dCBF, ↓dBinS, ↓dLenS, ↓dSl, ↓dSlS, ↓dNo, ↓dPt, ↓dStL, ↓dApp, ↓dExt, ↓dJoin, ↓dRg1, ↓dRg2, ↓dTupRg, ↓dLstRg, ↓oSub, ↓oMulI, ↓oMul, ↓oFdiv, ↓oMod, ↓oPow, ↓oShr, ↓oXor, ↓oNeg, ↓oAdd, ↓oAug, ↓oLt, ↓oLe, ↓oGt, ↓oGe, ↓oI, ↓oIx, ↓oLen, ↓oInt, ↓oOrd, ↓oAbs, ↓oStL, ↓oIn, ↓oNin, ↓oInB, ↓isi_int, ↓isi_int_bl, ↓isi_int_str, ↓isi_int_tup, ↓isi_int_lst, ↓isi_str, ↓isi_str_int, ↓isi_tup, ↓isi_tup_int, ↓isi_tup_str, ↓isi_tup_lst, ↓isi_lst, ↓isi_lst_tup, ↓isi_lst_int, ↓isi_lst_str, ↓cv, ↓Cell.val, ↓Cell.up, ↓Cell.own, ↓lenD, ↓itemsOf, List.getElem?_cons_zero, List.getElem?_cons_succ, List.set_cons_zero, List.set_cons_succ, Option.bind_some, Option.isSome_some, List.length_cons, List.length_nil, true_and, and_true, ↓ixN_lit, ↓atI_lit, ↓reduceIte, Nat.reduceAdd, Nat.reduceLT, Nat.reduceSub, Nat.zero_add, Nat.reduceLeDiff, Nat.lt_add_one, Nat.zero_lt_succ, ↓oEq_int, ↓oNe_int, ↓oEq_str, ↓oNe_str, ↓oEq_bl, ↓oNe_bl, decide_eq_true_eq, Bool.false_eq_true, ↓u_while, ↓ownAt, List.all_cons, List.all_nil, Bool.and_true, List.getD_cons_zero, List.getD_cons_succ, Bool.not_false, ↓oLe_sign, Bool.not_true]
      exact hk2 _ ⟨m, _, _, rfl, rfl⟩
  · rintro ρ ⟨m, x2, x3, e, rfl⟩
    subst hk
    simp only [↓dSeq, ↓dNext, ↓dBreak, ↓dCont, ↓dNever, ↓dRet, ↓dRetN, ↓dDrop, ↓dSet, ↓dIf, ↓dAug, ↓dAsg, ↓dPar, ↓dVar, ↓dMove, ↓dC, ↓dFz, ↓dUp, ↓dNil, ↓dCons, ↓dTup, ↓dLst, ↓dBin, ↓dUn, ↓dChain, ↓dTest, ↓dAnd, ↓dOr, ↓dNot, ↓dAndV, ↓dOrV, ↓dNotV, ↓dIfE, ↓dgName, ↓dgNil, ↓dgCons, ↓dgTup, ↓dIt, ↓dRng1, ↓dRng2, ↓dZip, ↓dEnum, ↓u_for, ↓u_lc, ↓dYes, ↓u_call, ↓u_callF, ↓u_callIo, ↓dCB, ↓dCBF, ↓dBinS, ↓dLenS, ↓dSl, ↓dSlS, ↓dNo, ↓dPt, ↓dStL, ↓dApp, ↓dExt, ↓dJoin, ↓dRg1, ↓dRg2, ↓dTupRg, ↓dLstRg, ↓oSub, ↓oMulI, ↓oMul, ↓oFdiv, ↓oMod, ↓oPow, ↓oShr, ↓oXor, ↓oNeg, ↓oAdd, ↓oAug, ↓oLt, ↓oLe, ↓oGt, ↓oGe, ↓oI, ↓oIx, ↓oLen, ↓oInt, ↓oOrd, ↓oAbs, ↓oStL, ↓oIn, ↓oNin, ↓oInB, ↓isi_int, ↓isi_int_bl, ↓isi_int_str, ↓isi_int_tup, ↓isi_int_lst, ↓isi_str, ↓isi_str_int, ↓isi_tup, ↓isi_tup_int, ↓isi_tup_str, ↓isi_tup_lst, ↓isi_lst, ↓isi_lst_tup, ↓isi_lst_int, ↓isi_lst_str, ↓cv, ↓Cell.val, ↓Cell.up, ↓Cell.own, ↓lenD, ↓itemsOf, List.getElem?_cons_zero, List.getElem?_cons_succ, List.set_cons_zero, List.set_cons_succ, Option.bind_some, Option.isSome_some, List.length_cons, List.length_nil, true_and, and_true, ↓ixN_lit, ↓atI_lit, ↓reduceIte, Nat.reduceAdd, Nat.reduceLT, Nat.reduceSub, Nat.zero_add, Nat.reduceLeDiff, Nat.lt_add_one, Nat.zero_lt_succ, ↓oEq_int, ↓oNe_int, ↓oEq_str, ↓oNe_str, ↓oEq_bl, ↓oNe_bl, decide_eq_true_eq, Bool.false_eq_true, ↓u_while, ↓ownAt, List.all_cons, List.all_nil, Bool.and_true, List.getD_cons_zero, List.getD_cons_succ, Bool.not_false, ↓oLe_sign]
    exact ⟨rfl, post _ _ ⟨rfl, rfl⟩⟩
theorem atI_mem {α : Type} {xs : List α} {k : Int} (h0 : 0 ≤ k) (h1 : k < (xs.length : Int)) : ∃ x, x ∈ xs ∧ atI xs k = some x := by
  obtain ⟨x, e, _, m⟩ := atI_in h0 h1
  exact ⟨x, m, e⟩
def S__law_pick : FnSpec := mkSpec (α := Hand × List D) [true, false] false (fun x => [x.1.d, .lst x.2]) (fun x => x.1.Ok ∧ 1 ≤ x.2.length ∧ x.2.length < 1000000) fun x r os => ∃ h' : Hand, h'.Ok ∧ r ∈ x.2 ∧ os = [h'.d]
/-- _law_pick: slots 0 _law_hand_here, 1 _law_things -/
def D__law_pick : DTS := (dRet (dUp (dBinS 1 oIx (dFz (dCallIo S__law_take 0 (dCons (dLenS 1) dNil))))))
theorem sem__law_pick : ∀ ds Kd, S__law_pick.ds ds Kd → D__law_pick (endsOf S__law_pick Kd) (env0 2 [true, false] ds) := by
  rintro ds Kd ⟨⟨h, xs⟩, rfl, ⟨ok, z1, z2⟩, post⟩
  simp only at ok z1 z2 post
  show D__law_pick (endsOf S__law_pick Kd) [.io h.d, .fz (.lst xs)]
  simp only [↓D__law_pick, ↓dSeq, ↓dNext, ↓dBreak, ↓dCont, ↓dNever, ↓dRet, ↓dRetN, ↓dDrop, ↓dSet, ↓dIf, ↓dAug, ↓dAsg, ↓dPar, ↓dVar, ↓dMove, ↓dC, ↓dFz, ↓dUp, ↓dNil, ↓dCons, ↓dTup, ↓dLst, ↓dBin, ↓dUn, ↓dChain, ↓dTest, ↓dAnd, ↓dOr, ↓dNot, ↓dAndV, ↓dOrV, ↓dNotV, ↓dIfE, ↓dgName, ↓dgNil, ↓dgCons, ↓dgTup, ↓dIt, ↓dRng1, ↓dRng2, ↓dZip, ↓dEnum, ↓u_for, ↓u_lc, ↓dYes, ↓u_call, ↓u_callF, ↓u_callIo, ↓dCB, ↓dCBF, ↓dBinS, ↓dLenS, ↓dSl, ↓dSlS, ↓dNo, ↓dPt, ↓dStL, ↓dApp, ↓dExt, ↓dJoin, ↓dRg1, ↓dRg2, ↓dTupRg, ↓dLstRg, ↓oSub, ↓oMulI, ↓oMul, ↓oFdiv, ↓oMod, ↓oPow, ↓oShr, ↓oXor, ↓oNeg, ↓oAdd, ↓oAug, ↓oLt, ↓oLe, ↓oGt, ↓oGe, ↓oI, ↓oIx, ↓oLen, ↓oInt, ↓oOrd, ↓oAbs, ↓oStL, ↓oIn, ↓oNin, ↓oInB, ↓isi_int, ↓isi_int_bl, ↓isi_int_str, ↓isi_int_tup, ↓isi_int_lst, ↓isi_str, ↓isi_str_int, ↓isi_tup, ↓isi_tup_int, ↓isi_tup_str, ↓isi_tup_lst, ↓isi_lst, ↓isi_lst_tup, ↓isi_lst_int, ↓isi_lst_str, ↓cv, ↓Cell.val, ↓Cell.up, ↓Cell.own, ↓lenD, ↓itemsOf, List.getElem?_cons_zero, List.getElem?_cons_succ, List.set_cons_zero, List.set_cons_succ, Option.bind_some, Option.isSome_some, List.length_cons, List.length_nil, true_and, and_true, ↓ixN_lit, ↓atI_lit, ↓reduceIte, Nat.reduceAdd, Nat.reduceLT, Nat.reduceSub, Nat.zero_add, Nat.reduceLeDiff, Nat.lt_add_one, Nat.zero_lt_succ, ↓oEq_int, ↓oNe_int, ↓oEq_str, ↓oNe_str, ↓oEq_bl, ↓oNe_bl, decide_eq_true_eq, Bool.false_eq_true, ↓u_while, ↓ownAt, List.all_cons, List.all_nil, Bool.and_true, List.getD_cons_zero, List.getD_cons_succ, Bool.not_false, ↓oLe_sign]
  refine ⟨rfl, onM (h, (xs.length : Int)) rfl ⟨ok, by show (1 : Int) ≤ xs.length; omega, by show (xs.length : Int) < 1073741824; omega⟩ ?_⟩
  rintro r os ⟨k, h', rfl, k0, k1, rfl, ok'⟩
  obtain ⟨x, hx, ex⟩ := atI_mem k0 k1
  simp only [ioB, wipeE, fr_take, ↓dSeq, ↓dNext, ↓dBreak, ↓dCont, ↓dNever, ↓dRet, ↓dRetN, ↓dDrop, ↓dSet, ↓dIf, ↓dAug, ↓dAsg, ↓dPar, ↓dVar, ↓dMove, ↓dC, ↓dFz, ↓dUp, ↓dNil, ↓dCons, ↓dTup, ↓dLst, ↓dBin, ↓dUn, ↓dChain, ↓dTest, ↓dAnd, ↓dOr, ↓dNot, ↓dAndV, ↓dOrV, ↓dNotV, ↓dIfE, ↓dgName, ↓dgNil, ↓dgCons, ↓dgTup, ↓dIt, ↓dRng1, ↓dRng2, ↓dZip, ↓dEnum, ↓u_for, ↓u_lc, ↓dYes, ↓u_call, ↓u_callF, ↓u_callIo, ↓dCB, ↓dCBF, ↓dBinS, ↓dLenS, ↓dSl, ↓dSlS, ↓dNo, ↓dPt, ↓dStL, ↓dApp, ↓dExt, ↓dJoin, ↓dRg1, ↓dRg2, ↓dTupRg, ↓dLstRg, ↓oSub, ↓oMulI, ↓oMul, ↓oFdiv, ↓oMod, ↓oPow, ↓oShr, ↓oXor, ↓oNeg, ↓oAdd, ↓oAug, ↓oLt, ↓oLe, ↓oGt, ↓oGe, ↓oI, ↓oIx, ↓oLen, ↓oInt, ↓oOrd, ↓oAbs, ↓oStL, ↓oIn, ↓oNin, ↓oInB, ↓isi_int, ↓isi_int_bl, ↓isi_int_str, ↓isi_int_tup, ↓isi_int_lst, ↓isi_str, ↓isi_str_int, ↓isi_tup, ↓isi_tup_int, ↓isi_tup_str, ↓isi_tup_lst, ↓isi_lst, ↓isi_lst_tup, ↓isi_lst_int, ↓isi_lst_str, ↓cv, ↓Cell.val, ↓Cell.up, ↓Cell.own, ↓lenD, ↓itemsOf, List.getElem?_cons_zero, List.getElem?_cons_succ, List.set_cons_zero, List.set_cons_succ, Option.bind_some, Option.isSome_some, List.length_cons, List.length_nil, true_and, and_true, ↓ixN_lit, ↓atI_lit, ↓reduceIte, Nat.reduceAdd, Nat.reduceLT, Nat.reduceSub, Nat.zero_add, Nat.reduceLeDiff, Nat.lt_add_one, Nat.zero_lt_succ, ↓oEq_int, ↓oNe_int, ↓oEq_str, ↓oNe_str, ↓oEq_bl, ↓oNe_bl, decide_eq_true_eq, Bool.false_eq_true, ↓u_while, ↓ownAt, List.all_cons, List.all_nil, Bool.and_true, List.getD_cons_zero, List.getD_cons_succ, Bool.not_false, ↓oLe_sign, ex]
  exact ⟨rfl, post _ _ ⟨h', ok', hx, rfl⟩⟩
/-- a row of signs to draw from -/
def Abc (l : List Nat) : Prop := Signs l ∧ 1 ≤ l.length ∧ l.length ≤ 1000
def S__law_alphabet : FnSpec := mkSpec (α := Hand) [true] false (fun x => [x.d]) (fun x => x.Ok) fun x r os => ∃ (h' : Hand) (l : List Nat), h'.Ok ∧ Abc l ∧ r = .str l ∧ os = [h'.d]
/-- _law_alphabet: slots 0 _law_hand_here, 1 _law_way, 2 _law_signs -/
def D__law_alphabet : DTS := (dSeq (dSet 1 (dUp (dFz (dCallIo S__law_take 0 (dCons (dC (.int 8)) dNil))))) (dSeq (dIf (dTest (dBin oLt (dVar 1) (dC (.int 5)))) (dRet (dUp (dBin oIx (dFz (dLst (dCons (dC (.str [97, 98])) (dCons (dC (.str [97, 98])) (dCons (dC (.str [97, 98, 99])) (dCons (dC (.str [97, 97, 98])) (dCons (dC (.str [32, 126])) dNil))))))) (dVar 1)))) dNext) (dSeq (dIf (dTest (dBin oLt (dVar 1) (dC (.int 7)))) (dRet (dUp (dC (.str [48, 49])))) dNext) (dSeq (dSet 2 (dUp (dC (.str [32, 33, 34, 35, 36, 38, 39, 40, 41, 42, 43, 44, 45, 46, 47, 48, 49, 50, 51, 52, 53, 54, 55, 56, 57, 58, 59, 60, 61, 62, 63, 64, 65, 66, 67, 68, 69, 70, 71, 72, 73, 74, 75, 76, 77, 78, 79, 80, 81, 82, 83, 84, 85, 86, 87, 88, 89, 90, 91, 92, 93, 94, 95])))) (dRet (dUp (dBin oAdd (dVar 2) (dC (.str [97, 98, 99, 100, 101, 102, 103, 104, 105, 106, 107, 108, 109, 110, 111, 112, 113, 114, 115, 116, 117, 118, 119, 120, 121, 122, 123, 124, 125, 126])))))))))
theorem abc_of {l : List Nat} (h : (l.all fun c => decide (32 ≤ c ∧ c ≤ 126)) && (decide (1 ≤ l.length) && decide (l.length ≤ 1000)) = true) : Abc l := by
  simp only [Bool.and_eq_true, List.all_eq_true, decide_eq_true_eq] at h
  exact ⟨h.1, h.2⟩
theorem sem__law_alphabet : ∀ ds Kd, S__law_alphabet.ds ds Kd → D__law_alphabet (endsOf S__law_alphabet Kd) (env0 3 [true] ds) := by
  rintro ds Kd ⟨h, rfl, ok, post⟩
  show D__law_alphabet (endsOf S__law_alphabet Kd) [.io h.d, .un, .un]
  unfold D__law_alphabet
  refine seq_gen fun k hk => ?_
  simp only [↓dSeq, ↓dNext, ↓dBreak, ↓dCont, ↓dNever, ↓dRet, ↓dRetN, ↓dDrop, ↓dSet, ↓dIf, ↓dAug, ↓dAsg, ↓dPar, ↓dVar, ↓dMove, ↓dC, ↓dFz, ↓dUp, ↓dNil, ↓dCons, ↓dTup, ↓dLst, ↓dBin, ↓dUn, ↓dChain, ↓dTest, ↓dAnd, ↓dOr, ↓dNot, ↓dAndV, ↓dOrV, ↓dNotV, ↓dIfE, ↓dgName, ↓dgNil, ↓dgCons, ↓dgTup, ↓dIt, ↓dRng1, ↓dRng2, ↓dZip, ↓dEnum, ↓u_for, ↓u_lc, ↓dYes, ↓u_call, ↓u_callF, ↓u_callIo, ↓dCB, ↓dCBF, ↓dBinS, ↓dLenS, ↓dSl, ↓dSlS, ↓dNo, ↓dPt, ↓dStL, ↓dApp, ↓dExt, ↓dJoin, ↓dRg1, ↓dRg2, ↓dTupRg, ↓dLstRg, ↓oSub, ↓oMulI, ↓oMul, ↓oFdiv, ↓oMod, ↓oPow, ↓oShr, ↓oXor, ↓oNeg, ↓oAdd, ↓oAug, ↓oLt, ↓oLe, ↓oGt, ↓oGe, ↓oI, ↓oIx, ↓oLen, ↓oInt, ↓oOrd, ↓oAbs, ↓oStL, ↓oIn, ↓oNin, ↓oInB, ↓isi_int, ↓isi_int_bl, ↓isi_int_str, ↓isi_int_tup, ↓isi_int_lst, ↓isi_str, ↓isi_str_int, ↓isi_tup, ↓isi_tup_int, ↓isi_tup_str, ↓isi_tup_lst, ↓isi_lst, ↓isi_lst_tup, ↓isi_lst_int, ↓isi_lst_str, ↓cv, ↓Cell.val, ↓Cell.up, ↓Cell.own, ↓lenD, ↓itemsOf, List.getElem?_cons_zero, List.getElem?_cons_succ, List.set_cons_zero, List.set_cons_succ, Option.bind_some, Option.isSome_some, List.length_cons, List.length_nil, true_and, and_true, ↓ixN_lit, ↓atI_lit, ↓reduceIte, Nat.reduceAdd, Nat.reduceLT, Nat.reduceSub, Nat.zero_add, Nat.reduceLeDiff, Nat.lt_add_one, Nat.zero_lt_succ, ↓oEq_int, ↓oNe_int, ↓oEq_str, ↓oNe_str, ↓oEq_bl, ↓oNe_bl, decide_eq_true_eq, Bool.false_eq_true, ↓u_while, ↓ownAt, List.all_cons, List.all_nil, Bool.and_true, List.getD_cons_zero, List.getD_cons_succ, Bool.not_false, ↓oLe_sign]
  refine ⟨rfl, onM (h, 8) rfl ⟨ok, by show (1 : Int) ≤ 8; decide, by show (8 : Int) < 1073741824; decide⟩ ?_⟩
  rintro r os ⟨j, h', rfl, k0, k1, rfl, ok'⟩
  simp only [ioB, wipeE, fr_take, ↓dSeq, ↓dNext, ↓dBreak, ↓dCont, ↓dNever, ↓dRet, ↓dRetN, ↓dDrop, ↓dSet, ↓dIf, ↓dAug, ↓dAsg, ↓dPar, ↓dVar, ↓dMove, ↓dC, ↓dFz, ↓dUp, ↓dNil, ↓dCons, ↓dTup, ↓dLst, ↓dBin, ↓dUn, ↓dChain, ↓dTest, ↓dAnd, ↓dOr, ↓dNot, ↓dAndV, ↓dOrV, ↓dNotV, ↓dIfE, ↓dgName, ↓dgNil, ↓dgCons, ↓dgTup, ↓dIt, ↓dRng1, ↓dRng2, ↓dZip, ↓dEnum, ↓u_for, ↓u_lc, ↓dYes, ↓u_call, ↓u_callF, ↓u_callIo, ↓dCB, ↓dCBF, ↓dBinS, ↓dLenS, ↓dSl, ↓dSlS, ↓dNo, ↓dPt, ↓dStL, ↓dApp, ↓dExt, ↓dJoin, ↓dRg1, ↓dRg2, ↓dTupRg, ↓dLstRg, ↓oSub, ↓oMulI, ↓oMul, ↓oFdiv, ↓oMod, ↓oPow, ↓oShr, ↓oXor, ↓oNeg, ↓oAdd, ↓oAug, ↓oLt, ↓oLe, ↓oGt, ↓oGe, ↓oI, ↓oIx, ↓oLen, ↓oInt, ↓oOrd, ↓oAbs, ↓oStL, ↓oIn, ↓oNin, ↓oInB, ↓isi_int, ↓isi_int_bl, ↓isi_int_str, ↓isi_int_tup, ↓isi_int_lst, ↓isi_str, ↓isi_str_int, ↓isi_tup, ↓isi_tup_int, ↓isi_tup_str, ↓isi_tup_lst, ↓isi_lst, ↓isi_lst_tup, ↓isi_lst_int, ↓isi_lst_str, ↓cv, ↓Cell.val, ↓Cell.up, ↓Cell.own, ↓lenD, ↓itemsOf, List.getElem?_cons_zero, List.getElem?_cons_succ, List.set_cons_zero, List.set_cons_succ, Option.bind_some, Option.isSome_some, List.length_cons, List.length_nil, true_and, and_true, ↓ixN_lit, ↓atI_lit, ↓reduceIte, Nat.reduceAdd, Nat.reduceLT, Nat.reduceSub, Nat.zero_add, Nat.reduceLeDiff, Nat.lt_add_one, Nat.zero_lt_succ, ↓oEq_int, ↓oNe_int, ↓oEq_str, ↓oNe_str, ↓oEq_bl, ↓oNe_bl, decide_eq_true_eq, Bool.false_eq_true, ↓u_while, ↓ownAt, List.all_cons, List.all_nil, Bool.and_true, List.getD_cons_zero, List.getD_cons_succ, Bool.not_false, ↓oLe_sign]
  subst hk
  have cs : j = 0 ∨ j = 1 ∨ j = 2 ∨ j = 3 ∨ j = 4 ∨ (5 ≤ j ∧ j < 7) ∨ 7 ≤ j := by omega
  have fin : ∀ l, Abc l → Kd (.str l) [h'.d] := fun l a => post _ _ ⟨h', l, ok', a, rfl, rfl⟩
  refine seq_gen fun k hk => ?_
  refine if_gen fun kA kB hA hB => ?_
  simp only [↓dSeq, ↓dNext, ↓dBreak, ↓dCont, ↓dNever, ↓dRet, ↓dRetN, ↓dDrop, ↓dSet, ↓dIf, ↓dAug, ↓dAsg, ↓dPar, ↓dVar, ↓dMove, ↓dC, ↓dFz, ↓dUp, ↓dNil, ↓dCons, ↓dTup, ↓dLst, ↓dBin, ↓dUn, ↓dChain, ↓dTest, ↓dAnd, ↓dOr, ↓dNot, ↓dAndV, ↓dOrV, ↓dNotV, ↓dIfE, ↓dgName, ↓dgNil, ↓dgCons, ↓dgTup, ↓dIt, ↓dRng1, ↓dRng2, ↓dZip, ↓dEnum, ↓u_for, ↓u_lc, ↓dYes, ↓u_call, ↓u_callF, ↓u_callIo, ↓dCB, ↓dCBF, ↓dBinS, ↓dLenS, ↓dSl, ↓dSlS, ↓dNo, ↓dPt, ↓dStL, ↓dApp, ↓dExt, ↓dJoin, ↓dRg1, ↓dRg2, ↓dTupRg, ↓dLstRg, ↓oSub, ↓oMulI, ↓oMul, ↓oFdiv, ↓oMod, ↓oPow, ↓oShr, ↓oXor, ↓oNeg, ↓oAdd, ↓oAug, ↓oLt, ↓oLe, ↓oGt, ↓oGe, ↓oI, ↓oIx, ↓oLen, ↓oInt, ↓oOrd, ↓oAbs, ↓oStL, ↓oIn, ↓oNin, ↓oInB, ↓isi_int, ↓isi_int_bl, ↓isi_int_str, ↓isi_int_tup, ↓isi_int_lst, ↓isi_str, ↓isi_str_int, ↓isi_tup, ↓isi_tup_int, ↓isi_tup_str, ↓isi_tup_lst, ↓isi_lst, ↓isi_lst_tup, ↓isi_lst_int, ↓isi_lst_str, ↓cv, ↓Cell.val, ↓Cell.up, ↓Cell.own, ↓lenD, ↓itemsOf, List.getElem?_cons_zero, List.getElem?_cons_succ, List.set_cons_zero, List.set_cons_succ, Option.bind_some, Option.isSome_some, List.length_cons, List.length_nil, true_and, and_true, ↓ixN_lit, ↓atI_lit, ↓reduceIte, Nat.reduceAdd, Nat.reduceLT, Nat.reduceSub, Nat.zero_add, Nat.reduceLeDiff, Nat.lt_add_one, Nat.zero_lt_succ, ↓oEq_int, ↓oNe_int, ↓oEq_str, ↓oNe_str, ↓oEq_bl, ↓oNe_bl, decide_eq_true_eq, Bool.false_eq_true, ↓u_while, ↓ownAt, List.all_cons, List.all_nil, Bool.and_true, List.getD_cons_zero, List.getD_cons_succ, Bool.not_false, ↓oLe_sign]
  rcases cs with rfl | rfl | rfl | rfl | rfl | ⟨c1, c2⟩ | c1
  · rw [if_pos (by decide)]; subst hA
    simp only [↓dSeq, ↓dNext, ↓dBreak, ↓dCont, ↓dNever, ↓dRet, ↓dRetN, ↓dDrop, ↓dSet, ↓dIf, ↓dAug, ↓dAsg, ↓dPar, ↓dVar, ↓dMove, ↓dC, ↓dFz, ↓dUp, ↓dNil, ↓dCons, ↓dTup, ↓dLst, ↓dBin, ↓dUn, ↓dChain, ↓dTest, ↓dAnd, ↓dOr, ↓dNot, ↓dAndV, ↓dOrV, ↓dNotV, ↓dIfE, ↓dgName, ↓dgNil, ↓dgCons, ↓dgTup, ↓dIt, ↓dRng1, ↓dRng2, ↓dZip, ↓dEnum, ↓u_for, ↓u_lc, ↓dYes, ↓u_call, ↓u_callF, ↓u_callIo, ↓dCB, ↓dCBF, ↓dBinS, ↓dLenS, ↓dSl, ↓dSlS, ↓dNo, ↓dPt, ↓dStL, ↓dApp, ↓dExt, ↓dJoin, ↓dRg1, ↓dRg2, ↓dTupRg, ↓dLstRg, ↓oSub, ↓oMulI, ↓oMul, ↓oFdiv, ↓oMod, ↓oPow, ↓oShr, ↓oXor, ↓oNeg, ↓oAdd, ↓oAug, ↓oLt, ↓oLe, ↓oGt, ↓oGe, ↓oI, ↓oIx, ↓oLen, ↓oInt, ↓oOrd, ↓oAbs, ↓oStL, ↓oIn, ↓oNin, ↓oInB, ↓isi_int, ↓isi_int_bl, ↓isi_int_str, ↓isi_int_tup, ↓isi_int_lst, ↓isi_str, ↓isi_str_int, ↓isi_tup, ↓isi_tup_int, ↓isi_tup_str, ↓isi_tup_lst, ↓isi_lst, ↓isi_lst_tup, ↓isi_lst_int, ↓isi_lst_str, ↓cv, ↓Cell.val, ↓Cell.up, ↓Cell.own, ↓lenD, ↓itemsOf, List.getElem?_cons_zero, List.getElem?_cons_succ, List.set_cons_zero, List.set_cons_succ, Option.bind_some, Option.isSome_some, List.length_cons, List.length_nil, true_and, and_true, ↓ixN_lit, ↓atI_lit, ↓reduceIte, Nat.reduceAdd, Nat.reduceLT, Nat.reduceSub, Nat.zero_add, Nat.reduceLeDiff, Nat.lt_add_one, Nat.zero_lt_succ, ↓oEq_int, ↓oNe_int, ↓oEq_str, ↓oNe_str, ↓oEq_bl, ↓oNe_bl, decide_eq_true_eq, Bool.false_eq_true, ↓u_while, ↓ownAt, List.all_cons, List.all_nil, Bool.and_true, List.getD_cons_zero, List.getD_cons_succ, Bool.not_false, ↓oLe_sign]
    exact ⟨by decide, rfl, fin _ (abc_of (by decide))⟩
  · rw [if_pos (by decide)]; subst hA
    simp only [↓dSeq, ↓dNext, ↓dBreak, ↓dCont, ↓dNever, ↓dRet, ↓dRetN, ↓dDrop, ↓dSet, ↓dIf, ↓dAug, ↓dAsg, ↓dPar, ↓dVar, ↓dMove, ↓dC, ↓dFz, ↓dUp, ↓dNil, ↓dCons, ↓dTup, ↓dLst, ↓dBin, ↓dUn, ↓dChain, ↓dTest, ↓dAnd, ↓dOr, ↓dNot, ↓dAndV, ↓dOrV, ↓dNotV, ↓dIfE, ↓dgName, ↓dgNil, ↓dgCons, ↓dgTup, ↓dIt, ↓dRng1, ↓dRng2, ↓dZip, ↓dEnum, ↓u_for, ↓u_lc, ↓dYes, ↓u_call, ↓u_callF, ↓u_callIo, ↓dCB, ↓dCBF, ↓dBinS, ↓dLenS, ↓dSl, ↓dSlS, ↓dNo, ↓dPt, ↓dStL, ↓dApp, ↓dExt, ↓dJoin, ↓dRg1, ↓dRg2, ↓dTupRg, ↓dLstRg, ↓oSub, ↓oMulI, ↓oMul, ↓oFdiv, ↓oMod, ↓oPow, ↓oShr, ↓oXor, ↓oNeg, ↓oAdd, ↓oAug, ↓oLt, ↓oLe, ↓oGt, ↓oGe, ↓oI, ↓oIx, ↓oLen, ↓oInt, ↓oOrd, ↓oAbs, ↓oStL, ↓oIn, ↓oNin, ↓oInB, ↓isi_int, ↓isi_int_bl, ↓isi_int_str, ↓isi_int_tup, ↓isi_int_lst, ↓isi_str, ↓isi_str_int, ↓isi_tup, ↓isi_tup_int, ↓isi_tup_str, ↓isi_tup_lst, ↓isi_lst, ↓isi_lst_tup, ↓isi_lst_int, ↓isi_lst_str, ↓cv, ↓Cell.val, ↓Cell.up, ↓Cell.own, ↓lenD, ↓itemsOf, List.getElem?_cons_zero, List.getElem?_cons_succ, List.set_cons_zero, List.set_cons_succ, Option.bind_some, Option.isSome_some, List.length_cons, List.length_nil, true_and, and_true, ↓ixN_lit, ↓atI_lit, ↓reduceIte, Nat.reduceAdd, Nat.reduceLT, Nat.reduceSub, Nat.zero_add, Nat.reduceLeDiff, Nat.lt_add_one, Nat.zero_lt_succ, ↓oEq_int, ↓oNe_int, ↓oEq_str, ↓oNe_str, ↓oEq_bl, ↓oNe_bl, decide_eq_true_eq, Bool.false_eq_true, ↓u_while, ↓ownAt, List.all_cons, List.all_nil, Bool.and_true, List.getD_cons_zero, List.getD_cons_succ, Bool.not_false, ↓oLe_sign]
    exact ⟨by decide, rfl, fin _ (abc_of (by decide))⟩
  · rw [if_pos (by decide)]; subst hA
    simp only [↓dSeq, ↓dNext, ↓dBreak, ↓dCont, ↓dNever, ↓dRet, ↓dRetN, ↓dDrop, ↓dSet, ↓dIf, ↓dAug, ↓dAsg, ↓dPar, ↓dVar, ↓dMove, ↓dC, ↓dFz, ↓dUp, ↓dNil, ↓dCons, ↓dTup, ↓dLst, ↓dBin, ↓dUn, ↓dChain, ↓dTest, ↓dAnd, ↓dOr, ↓dNot, ↓dAndV, ↓dOrV, ↓dNotV, ↓dIfE, ↓dgName, ↓dgNil, ↓dgCons, ↓dgTup, ↓dIt, ↓dRng1, ↓dRng2, ↓dZip, ↓dEnum, ↓u_for, ↓u_lc, ↓dYes, ↓u_call, ↓u_callF, ↓u_callIo, ↓dCB, ↓dCBF, ↓dBinS, ↓dLenS, ↓dSl, ↓dSlS, ↓dNo, ↓dPt, ↓dStL, ↓dApp, ↓dExt, ↓dJoin, ↓dRg1, ↓dRg2, ↓dTupRg, ↓dLstRg, ↓oSub, ↓oMulI, ↓oMul, ↓oFdiv, ↓oMod, ↓oPow, ↓oShr, ↓oXor, ↓oNeg, ↓oAdd, ↓oAug, ↓oLt, ↓oLe, ↓oGt, ↓oGe, ↓oI, ↓oIx, ↓oLen, ↓oInt, ↓oOrd, ↓oAbs, ↓oStL, ↓oIn, ↓oNin, ↓oInB, ↓isi_int, ↓isi_int_bl, ↓isi_int_str, ↓isi_int_tup, ↓isi_int_lst, ↓isi_str, ↓isi_str_int, ↓isi_tup, ↓isi_tup_int, ↓isi_tup_str, ↓isi_tup_lst, ↓isi_lst, ↓isi_lst_tup, ↓isi_lst_int, ↓isi_lst_str, ↓cv, ↓Cell.val, ↓Cell.up, ↓Cell.own, ↓lenD, ↓itemsOf, List.getElem?_cons_zero, List.getElem?_cons_succ, List.set_cons_zero, List.set_cons_succ, Option.bind_some, Option.isSome_some, List.length_cons, List.length_nil, true_and, and_true, ↓ixN_lit, ↓atI_lit, ↓reduceIte, Nat.reduceAdd, Nat.reduceLT, Nat.reduceSub, Nat.zero_add, Nat.reduceLeDiff, Nat.lt_add_one, Nat.zero_lt_succ, ↓oEq_int, ↓oNe_int, ↓oEq_str, ↓oNe_str, ↓oEq_bl, ↓oNe_bl, decide_eq_true_eq, Bool.false_eq_true, ↓u_while, ↓ownAt, List.all_cons, List.all_nil, Bool.and_true, List.getD_cons_zero, List.getD_cons_succ, Bool.not_false, ↓oLe_sign]
    exact ⟨by decide, rfl, fin _ (abc_of (by decide))⟩
  · rw [if_pos (by decide)]; subst hA
    simp only [↓dSeq, ↓dNext, ↓dBreak, ↓dCont, ↓dNever, ↓dRet, ↓dRetN, ↓dDrop, ↓dSet, ↓dIf, ↓dAug, ↓dAsg, ↓dPar, ↓dVar, ↓dMove, ↓dC, ↓dFz, ↓dUp, ↓dNil, ↓dCons, ↓dTup, ↓dLst, ↓dBin, ↓dUn, ↓dChain, ↓dTest, ↓dAnd, ↓dOr, ↓dNot, ↓dAndV, ↓dOrV, ↓dNotV, ↓dIfE, ↓dgName, ↓dgNil, ↓dgCons, ↓dgTup, ↓dIt, ↓dRng1, ↓dRng2, ↓dZip, ↓dEnum, ↓u_for, ↓u_lc, ↓dYes, ↓u_call, ↓u_callF, ↓u_callIo, ↓dCB, ↓dCBF, ↓dBinS, ↓dLenS, ↓dSl, ↓dSlS, ↓dNo, ↓dPt, ↓dStL, ↓dApp, ↓dExt, ↓dJoin, ↓dRg1, ↓dRg2, ↓dTupRg, ↓dLstRg, ↓oSub, ↓oMulI, ↓oMul, ↓oFdiv, ↓oMod, ↓oPow, ↓oShr, ↓oXor, ↓oNeg, ↓oAdd, ↓oAug, ↓oLt, ↓oLe, ↓oGt, ↓oGe, ↓oI, ↓oIx, ↓oLen, ↓oInt, ↓oOrd, ↓oAbs, ↓oStL, ↓oIn, ↓oNin, ↓oInB, ↓isi_int, ↓isi_int_bl, ↓isi_int_str, ↓isi_int_tup, ↓isi_int_lst, ↓isi_str, ↓isi_str_int, ↓isi_tup, ↓isi_tup_int, ↓isi_tup_str, ↓isi_tup_lst, ↓isi_lst, ↓isi_lst_tup, ↓isi_lst_int, ↓isi_lst_str, ↓cv, ↓Cell.val, ↓Cell.up, ↓Cell.own, ↓lenD, ↓itemsOf, List.getElem?_cons_zero, List.getElem?_cons_succ, List.set_cons_zero, List.set_cons_succ, Option.bind_some, Option.isSome_some, List.length_cons, List.length_nil, true_and, and_true, ↓ixN_lit, ↓atI_lit, ↓reduceIte, Nat.reduceAdd, Nat.reduceLT, Nat.reduceSub, Nat.zero_add, Nat.reduceLeDiff, Nat.lt_add_one, Nat.zero_lt_succ, ↓oEq_int, ↓oNe_int, ↓oEq_str, ↓oNe_str, ↓oEq_bl, ↓oNe_bl, decide_eq_true_eq, Bool.false_eq_true, ↓u_while, ↓ownAt, List.all_cons, List.all_nil, Bool.and_true, List.getD_cons_zero, List.getD_cons_succ, Bool.not_false, ↓oLe_sign]
    exact ⟨by decide, rfl, fin _ (abc_of (by decide))⟩
  · rw [if_pos (by decide)]; subst hA
    simp only [↓dSeq, ↓dNext, ↓dBreak, ↓dCont, ↓dNever, ↓dRet, ↓dRetN, ↓dDrop, ↓dSet, ↓dIf, ↓dAug, ↓dAsg, ↓dPar, ↓dVar, ↓dMove, ↓dC, ↓dFz, ↓dUp, ↓dNil, ↓dCons, ↓dTup, ↓dLst, ↓dBin, ↓dUn, ↓dChain, ↓dTest, ↓dAnd, ↓dOr, ↓dNot, ↓dAndV, ↓dOrV, ↓dNotV, ↓dIfE, ↓dgName, ↓dgNil, ↓dgCons, ↓dgTup, ↓dIt, ↓dRng1, ↓dRng2, ↓dZip, ↓dEnum, ↓u_for, ↓u_lc, ↓dYes, ↓u_call, ↓u_callF, ↓u_callIo, ↓dCB, ↓dCBF, ↓dBinS, ↓dLenS, ↓dSl, ↓dSlS, ↓dNo, ↓dPt, ↓dStL, ↓dApp, ↓dExt, ↓dJoin, ↓dRg1, ↓dRg2, ↓dTupRg, ↓dLstRg, ↓oSub, ↓oMulI, ↓oMul, ↓oFdiv, ↓oMod, ↓oPow, ↓oShr, ↓oXor, ↓oNeg, ↓oAdd, ↓oAug, ↓oLt, ↓oLe, ↓oGt, ↓oGe, ↓oI, ↓oIx, ↓oLen, ↓oInt, ↓oOrd, ↓oAbs, ↓oStL, ↓oIn, ↓oNin, ↓oInB, ↓isi_int, ↓isi_int_bl, ↓isi_int_str, ↓isi_int_tup, ↓isi_int_lst, ↓isi_str, ↓isi_str_int, ↓isi_tup, ↓isi_tup_int, ↓isi_tup_str, ↓isi_tup_lst, ↓isi_lst, ↓isi_lst_tup, ↓isi_lst_int, ↓isi_lst_str, ↓cv, ↓Cell.val, ↓Cell.up, ↓Cell.own, ↓lenD, ↓itemsOf, List.getElem?_cons_zero, List.getElem?_cons_succ, List.set_cons_zero, List.set_cons_succ, Option.bind_some, Option.isSome_some, List.length_cons, List.length_nil, true_and, and_true, ↓ixN_lit, ↓atI_lit, ↓reduceIte, Nat.reduceAdd, Nat.reduceLT, Nat.reduceSub, Nat.zero_add, Nat.reduceLeDiff, Nat.lt_add_one, Nat.zero_lt_succ, ↓oEq_int, ↓oNe_int, ↓oEq_str, ↓oNe_str, ↓oEq_bl, ↓oNe_bl, decide_eq_true_eq, Bool.false_eq_true, ↓u_while, ↓ownAt, List.all_cons, List.all_nil, Bool.and_true, List.getD_cons_zero, List.getD_cons_succ, Bool.not_false, ↓oLe_sign]
    exact ⟨by decide, rfl, fin _ (abc_of (by decide))⟩
  · rw [if_neg (by omega)]; subst hB
    simp only [↓dSeq, ↓dNext, ↓dBreak, ↓dCont, ↓dNever, ↓dRet, ↓dRetN, ↓dDrop, ↓dSet, ↓dIf, ↓dAug, ↓dAsg, ↓dPar, ↓dVar, ↓dMove, ↓dC, ↓dFz, ↓dUp, ↓dNil, ↓dCons, ↓dTup, ↓dLst, ↓dBin, ↓dUn, ↓dChain, ↓dTest, ↓dAnd, ↓dOr, ↓dNot, ↓dAndV, ↓dOrV, ↓dNotV, ↓dIfE, ↓dgName, ↓dgNil, ↓dgCons, ↓dgTup, ↓dIt, ↓dRng1, ↓dRng2, ↓dZip, ↓dEnum, ↓u_for, ↓u_lc, ↓dYes, ↓u_call, ↓u_callF, ↓u_callIo, ↓dCB, ↓dCBF, ↓dBinS, ↓dLenS, ↓dSl, ↓dSlS, ↓dNo, ↓dPt, ↓dStL, ↓dApp, ↓dExt, ↓dJoin, ↓dRg1, ↓dRg2, ↓dTupRg, ↓dLstRg, ↓oSub, ↓oMulI, ↓oMul, ↓oFdiv, ↓oMod, ↓oPow, ↓oShr, ↓oXor, ↓oNeg, ↓oAdd, ↓oAug, ↓oLt, ↓oLe, ↓oGt, ↓oGe, ↓oI, ↓oIx, ↓oLen, ↓oInt, ↓oOrd, ↓oAbs, ↓oStL, ↓oIn, ↓oNin, ↓oInB, ↓isi_int, ↓isi_int_bl, ↓isi_int_str, ↓isi_int_tup, ↓isi_int_lst, ↓isi_str, ↓isi_str_int, ↓isi_tup, ↓isi_tup_int, ↓isi_tup_str, ↓isi_tup_lst, ↓isi_lst, ↓isi_lst_tup, ↓isi_lst_int, ↓isi_lst_str, ↓cv, ↓Cell.val, ↓Cell.up, ↓Cell.own, ↓lenD, ↓itemsOf, List.getElem?_cons_zero, List.getElem?_cons_succ, List.set_cons_zero, List.set_cons_succ, Option.bind_some, Option.isSome_some, List.length_cons, List.length_nil, true_and, and_true, ↓ixN_lit, ↓atI_lit, ↓reduceIte, Nat.reduceAdd, Nat.reduceLT, Nat.reduceSub, Nat.zero_add, Nat.reduceLeDiff, Nat.lt_add_one, Nat.zero_lt_succ, ↓oEq_int, ↓oNe_int, ↓oEq_str, ↓oNe_str, ↓oEq_bl, ↓oNe_bl, decide_eq_true_eq, Bool.false_eq_true, ↓u_while, ↓ownAt, List.all_cons, List.all_nil, Bool.and_true, List.getD_cons_zero, List.getD_cons_succ, Bool.not_false, ↓oLe_sign]
    subst hk
    simp only [↓dSeq, ↓dNext, ↓dBreak, ↓dCont, ↓dNever, ↓dRet, ↓dRetN, ↓dDrop, ↓dSet, ↓dIf, ↓dAug, ↓dAsg, ↓dPar, ↓dVar, ↓dMove, ↓dC, ↓dFz, ↓dUp, ↓dNil, ↓dCons, ↓dTup, ↓dLst, ↓dBin, ↓dUn, ↓dChain, ↓dTest, ↓dAnd, ↓dOr, ↓dNot, ↓dAndV, ↓dOrV, ↓dNotV, ↓dIfE, ↓dgName, ↓dgNil, ↓dgCons, ↓dgTup, ↓dIt, ↓dRng1, ↓dRng2, ↓dZip, ↓dEnum, ↓u_for, ↓u_lc, ↓dYes, ↓u_call, ↓u_callF, ↓u_callIo, ↓dCB, ↓dCBF, ↓dBinS, ↓dLenS, ↓dSl, ↓dSlS, ↓dNo, ↓dPt, ↓dStL, ↓dApp, ↓dExt, ↓dJoin, ↓dRg1, ↓dRg2, ↓dTupRg, ↓dLstRg, ↓oSub, ↓oMulI, ↓oMul, ↓oFdiv, ↓oMod, ↓oPow, ↓oShr, ↓oXor, ↓oNeg, ↓oAdd, ↓oAug, ↓oLt, ↓oLe, ↓oGt, ↓oGe, ↓oI, ↓oIx, ↓oLen, ↓oInt, ↓oOrd, ↓oAbs, ↓oStL, ↓oIn, ↓oNin, ↓oInB, ↓isi_int, ↓isi_int_bl, ↓isi_int_str, ↓isi_int_tup, ↓isi_int_lst, ↓isi_str, ↓isi_str_int, ↓isi_tup, ↓isi_tup_int, ↓isi_tup_str, ↓isi_tup_lst, ↓isi_lst, ↓isi_lst_tup, ↓isi_lst_int, ↓isi_lst_str, ↓cv, ↓Cell.val, ↓Cell.up, ↓Cell.own, ↓lenD, ↓itemsOf, List.getElem?_cons_zero, List.getElem?_cons_succ, List.set_cons_zero, List.set_cons_succ, Option.bind_some, Option.isSome_some, List.length_cons, List.length_nil, true_and, and_true, ↓ixN_lit, ↓atI_lit, ↓reduceIte, Nat.reduceAdd, Nat.reduceLT, Nat.reduceSub, Nat.zero_add, Nat.reduceLeDiff, Nat.lt_add_one, Nat.zero_lt_succ, ↓oEq_int, ↓oNe_int, ↓oEq_str, ↓oNe_str, ↓oEq_bl, ↓oNe_bl, decide_eq_true_eq, Bool.false_eq_true, ↓u_while, ↓ownAt, List.all_cons, List.all_nil, Bool.and_true, List.getD_cons_zero, List.getD_cons_succ, Bool.not_false, ↓oLe_sign]
    rw [if_pos c2]
    exact ⟨rfl, fin _ (abc_of (by decide))⟩
  · rw [if_neg (by omega)]; subst hB
    simp only [↓dSeq, ↓dNext, ↓dBreak, ↓dCont, ↓dNever, ↓dRet, ↓dRetN, ↓dDrop, ↓dSet, ↓dIf, ↓dAug, ↓dAsg, ↓dPar, ↓dVar, ↓dMove, ↓dC, ↓dFz, ↓dUp, ↓dNil, ↓dCons, ↓dTup, ↓dLst, ↓dBin, ↓dUn, ↓dChain, ↓dTest, ↓dAnd, ↓dOr, ↓dNot, ↓dAndV, ↓dOrV, ↓dNotV, ↓dIfE, ↓dgName, ↓dgNil, ↓dgCons, ↓dgTup, ↓dIt, ↓dRng1, ↓dRng2, ↓dZip, ↓dEnum, ↓u_for, ↓u_lc, ↓dYes, ↓u_call, ↓u_callF, ↓u_callIo, ↓dCB, ↓dCBF, ↓dBinS, ↓dLenS, ↓dSl, ↓dSlS, ↓dNo, ↓dPt, ↓dStL, ↓dApp, ↓dExt, ↓dJoin, ↓dRg1, ↓dRg2, ↓dTupRg, ↓dLstRg, ↓oSub, ↓oMulI, ↓oMul, ↓oFdiv, ↓oMod, ↓oPow, ↓oShr, ↓oXor, ↓oNeg, ↓oAdd, ↓oAug, ↓oLt, ↓oLe, ↓oGt, ↓oGe, ↓oI, ↓oIx, ↓oLen, ↓oInt, ↓oOrd, ↓oAbs, ↓oStL, ↓oIn, ↓oNin, ↓oInB, ↓isi_int, ↓isi_int_bl, ↓isi_int_str, ↓isi_int_tup, ↓isi_int_lst, ↓isi_str, ↓isi_str_int, ↓isi_tup, ↓isi_tup_int, ↓isi_tup_str, ↓isi_tup_lst, ↓isi_lst, ↓isi_lst_tup, ↓isi_lst_int, ↓isi_lst_str, ↓cv, ↓Cell.val, ↓Cell.up, ↓Cell.own, ↓lenD, ↓itemsOf, List.getElem?_cons_zero, List.getElem?_cons_succ, List.set_cons_zero, List.set_cons_succ, Option.bind_some, Option.isSome_some, List.length_cons, List.length_nil, true_and, and_true, ↓ixN_lit, ↓atI_lit, ↓reduceIte, Nat.reduceAdd, Nat.reduceLT, Nat.reduceSub, Nat.zero_add, Nat.reduceLeDiff, Nat.lt_add_one, Nat.zero_lt_succ, ↓oEq_int, ↓oNe_int, ↓oEq_str, ↓oNe_str, ↓oEq_bl, ↓oNe_bl, decide_eq_true_eq, Bool.false_eq_true, ↓u_while, ↓ownAt, List.all_cons, List.all_nil, Bool.and_true, List.getD_cons_zero, List.getD_cons_succ, Bool.not_false, ↓oLe_sign]
    subst hk
    simp only [↓dSeq, ↓dNext, ↓dBreak, ↓dCont, ↓dNever, ↓dRet, ↓dRetN, ↓dDrop, ↓dSet, ↓dIf, ↓dAug, ↓dAsg, ↓dPar, ↓dVar, ↓dMove, ↓dC, ↓dFz, ↓dUp, ↓dNil, ↓dCons, ↓dTup, ↓dLst, ↓dBin, ↓dUn, ↓dChain, ↓dTest, ↓dAnd, ↓dOr, ↓dNot, ↓dAndV, ↓dOrV, ↓dNotV, ↓dIfE, ↓dgName, ↓dgNil, ↓dgCons, ↓dgTup, ↓dIt, ↓dRng1, ↓dRng2, ↓dZip, ↓dEnum, ↓u_for, ↓u_lc, ↓dYes, ↓u_call, ↓u_callF, ↓u_callIo, ↓dCB, ↓dCBF, ↓dBinS, ↓dLenS, ↓dSl, ↓dSlS, ↓dNo, ↓dPt, ↓dStL, ↓dApp, ↓dExt, ↓dJoin, ↓dRg1, ↓dRg2, ↓dTupRg, ↓dLstRg, ↓oSub, ↓oMulI, ↓oMul, ↓oFdiv, ↓oMod, ↓oPow, ↓oShr, ↓oXor, ↓oNeg, ↓oAdd, ↓oAug, ↓oLt, ↓oLe, ↓oGt, ↓oGe, ↓oI, ↓oIx, ↓oLen, ↓oInt, ↓oOrd, ↓oAbs, ↓oStL, ↓oIn, ↓oNin, ↓oInB, ↓isi_int, ↓isi_int_bl, ↓isi_int_str, ↓isi_int_tup, ↓isi_int_lst, ↓isi_str, ↓isi_str_int, ↓isi_tup, ↓isi_tup_int, ↓isi_tup_str, ↓isi_tup_lst, ↓isi_lst, ↓isi_lst_tup, ↓isi_lst_int, ↓isi_lst_str, ↓cv, ↓Cell.val, ↓Cell.up, ↓Cell.own, ↓lenD, ↓itemsOf, List.getElem?_cons_zero, List.getElem?_cons_succ, List.set_cons_zero, List.set_cons_succ, Option.bind_some, Option.isSome_some, List.length_cons, List.length_nil, true_and, and_true, ↓ixN_lit, ↓atI_lit, ↓reduceIte, Nat.reduceAdd, Nat.reduceLT, Nat.reduceSub, Nat.zero_add, Nat.reduceLeDiff, Nat.lt_add_one, Nat.zero_lt_succ, ↓oEq_int, ↓oNe_int, ↓oEq_str, ↓oNe_str, ↓oEq_bl, ↓oNe_bl, decide_eq_true_eq, Bool.false_eq_true, ↓u_while, ↓ownAt, List.all_cons, List.all_nil, Bool.and_true, List.getD_cons_zero, List.getD_cons_succ, Bool.not_false, ↓oLe_sign]
    rw [if_neg (by omega)]
    exact ⟨by decide, rfl, fin _ (abc_of (by decide +kernel))⟩
theorem joinL_nil : ∀ ys : List (List Nat), TL.joinL [] ys = ys.flatten
  | [] => rfl
  | [p] => by simp [TL.joinL]
  | p :: q :: r => by
    have ih := joinL_nil (q :: r)
    show p ++ ([] ++ TL.joinL [] (q :: r)) = _
    rw [ih]
    simp
theorem flat_ones (cs : List Nat) : (cs.map fun c => [c]).flatten = cs := by
  induction cs with
  | nil => rfl
  | cons c cs ih => simpa using ih
theorem sum_ones : ∀ cs : List Nat, (cs.map ((fun (x : List Nat) => x.length) ∘ fun c => [c])).sum = cs.length
  | [] => rfl
  | c :: cs => by
    have ih := sum_ones cs
    rw [List.map_cons, List.sum_cons, ih, List.length_cons]
    show 1 + cs.length = _
    omega
def S__law_word : FnSpec := mkSpec (α := Hand × List Nat × Int × Int) [true, false, false, false] false (fun x => [x.1.d, .str x.2.1, .int x.2.2.1, .int x.2.2.2]) (fun x => x.1.Ok ∧ Abc x.2.1 ∧ 1 ≤ x.2.2.1 ∧ x.2.2.1 ≤ x.2.2.2 ∧ x.2.2.2 ≤ 1000) fun x r os => ∃ (h' : Hand) (l : List Nat), h'.Ok ∧ Signs l ∧ 1 ≤ l.length ∧ (l.length : Int) ≤ x.2.2.2 ∧ r = .str l ∧ os = [h'.d]
/-- _law_word: slots 0 _law_hand_here, 1 _law_signs, 2 _law_least, 3 _law_most, 4 _law_many, 5 _law_k -/
def D__law_word : DTS := (dSeq (dSet 4 (dUp (dBin oAdd (dVar 2) (dFz (dCallIo S__law_take 0 (dCons (dBin oAdd (dBin oSub (dVar 3) (dVar 2)) (dC (.int 1))) dNil)))))) (dRet (dUp (dJoin (dC (.str [])) (dFz (dLc (dRng1 (dCons (dVar 4) dNil)) (dgName 5) dYes (dBinS 1 oIx (dFz (dCallIo S__law_take 0 (dCons (dLenS 1) dNil)))) [5]))))))
theorem sem__law_word : ∀ ds Kd, S__law_word.ds ds Kd → D__law_word (endsOf S__law_word Kd) (env0 6 [true, false, false, false] ds) := by
  rintro ds Kd ⟨⟨h, l, a, b⟩, rfl, ⟨ok, abc, a1, a2, a3⟩, post⟩
  simp only at ok abc a1 a2 a3 post
  show D__law_word (endsOf S__law_word Kd) [.io h.d, .fz (.str l), .fz (.int a), .fz (.int b), .un, .un]
  unfold D__law_word
  refine seq_gen fun k hk => ?_
  simp only [↓dSeq, ↓dNext, ↓dBreak, ↓dCont, ↓dNever, ↓dRet, ↓dRetN, ↓dDrop, ↓dSet, ↓dIf, ↓dAug, ↓dAsg, ↓dPar, ↓dVar, ↓dMove, ↓dC, ↓dFz, ↓dUp, ↓dNil, ↓dCons, ↓dTup, ↓dLst, ↓dBin, ↓dUn, ↓dChain, ↓dTest, ↓dAnd, ↓dOr, ↓dNot, ↓dAndV, ↓dOrV, ↓dNotV, ↓dIfE, ↓dgName, ↓dgNil, ↓dgCons, ↓dgTup, ↓dIt, ↓dRng1, ↓dRng2, ↓dZip, ↓dEnum, ↓u_for, ↓u_lc, ↓dYes, ↓u_call, ↓u_callF, ↓u_callIo, ↓dCB, ↓dCBF, ↓dBinS, ↓dLenS, ↓dSl, ↓dSlS, ↓dNo, ↓dPt, ↓dStL, ↓dApp, ↓dExt, ↓dJoin, ↓dRg1, ↓dRg2, ↓dTupRg, ↓dLstRg, ↓oSub, ↓oMulI, ↓oMul, ↓oFdiv, ↓oMod, ↓oPow, ↓oShr, ↓oXor, ↓oNeg, ↓oAdd, ↓oAug, ↓oLt, ↓oLe, ↓oGt, ↓oGe, ↓oI, ↓oIx, ↓oLen, ↓oInt, ↓oOrd, ↓oAbs, ↓oStL, ↓oIn, ↓oNin, ↓oInB, ↓isi_int, ↓isi_int_bl, ↓isi_int_str, ↓isi_int_tup, ↓isi_int_lst, ↓isi_str, ↓isi_str_int, ↓isi_tup, ↓isi_tup_int, ↓isi_tup_str, ↓isi_tup_lst, ↓isi_lst, ↓isi_lst_tup, ↓isi_lst_int, ↓isi_lst_str, ↓cv, ↓Cell.val, ↓Cell.up, ↓Cell.own, ↓lenD, ↓itemsOf, List.getElem?_cons_zero, List.getElem?_cons_succ, List.set_cons_zero, List.set_cons_succ, Option.bind_some, Option.isSome_some, List.length_cons, List.length_nil, true_and, and_true, ↓ixN_lit, ↓atI_lit, ↓reduceIte, Nat.reduceAdd, Nat.reduceLT, Nat.reduceSub, Nat.zero_add, Nat.reduceLeDiff, Nat.lt_add_one, Nat.zero_lt_succ, ↓oEq_int, ↓oNe_int, ↓oEq_str, ↓oNe_str, ↓oEq_bl, ↓oNe_bl, decide_eq_true_eq, Bool.false_eq_true, ↓u_while, ↓ownAt, List.all_cons, List.all_nil, Bool.and_true, List.getD_cons_zero, List.getD_cons_succ, Bool.not_false, ↓oLe_sign]
  refine ⟨rfl, onM (h, b - a + 1) rfl ⟨ok, by show 1 ≤ b - a + 1; omega, by show b - a + 1 < 1073741824; omega⟩ ?_⟩
  rintro r os ⟨j, h', rfl, k0, k1, rfl, ok'⟩
  have k1 : j < b - a + 1 := k1
  simp only [ioB, wipeE, fr_take, ↓dSeq, ↓dNext, ↓dBreak, ↓dCont, ↓dNever, ↓dRet, ↓dRetN, ↓dDrop, ↓dSet, ↓dIf, ↓dAug, ↓dAsg, ↓dPar, ↓dVar, ↓dMove, ↓dC, ↓dFz, ↓dUp, ↓dNil, ↓dCons, ↓dTup, ↓dLst, ↓dBin, ↓dUn, ↓dChain, ↓dTest, ↓dAnd, ↓dOr, ↓dNot, ↓dAndV, ↓dOrV, ↓dNotV, ↓dIfE, ↓dgName, ↓dgNil, ↓dgCons, ↓dgTup, ↓dIt, ↓dRng1, ↓dRng2, ↓dZip, ↓dEnum, ↓u_for, ↓u_lc, ↓dYes, ↓u_call, ↓u_callF, ↓u_callIo, ↓dCB, ↓dCBF, ↓dBinS, ↓dLenS, ↓dSl, ↓dSlS, ↓dNo, ↓dPt, ↓dStL, ↓dApp, ↓dExt, ↓dJoin, ↓dRg1, ↓dRg2, ↓dTupRg, ↓dLstRg, ↓oSub, ↓oMulI, ↓oMul, ↓oFdiv, ↓oMod, ↓oPow, ↓oShr, ↓oXor, ↓oNeg, ↓oAdd, ↓oAug, ↓oLt, ↓oLe, ↓oGt, ↓oGe, ↓oI, ↓oIx, ↓oLen, ↓oInt, ↓oOrd, ↓oAbs, ↓oStL, ↓oIn, ↓oNin, ↓oInB, ↓isi_int, ↓isi_int_bl, ↓isi_int_str, ↓isi_int_tup, ↓isi_int_lst, ↓isi_str, ↓isi_str_int, ↓isi_tup, ↓isi_tup_int, ↓isi_tup_str, ↓isi_tup_lst, ↓isi_lst, ↓isi_lst_tup, ↓isi_lst_int, ↓isi_lst_str, ↓cv, ↓Cell.val, ↓Cell.up, ↓Cell.own, ↓lenD, ↓itemsOf, List.getElem?_cons_zero, List.getElem?_cons_succ, List.set_cons_zero, List.set_cons_succ, Option.bind_some, Option.isSome_some, List.length_cons, List.length_nil, true_and, and_true, ↓ixN_lit, ↓atI_lit, ↓reduceIte, Nat.reduceAdd, Nat.reduceLT, Nat.reduceSub, Nat.zero_add, Nat.reduceLeDiff, Nat.lt_add_one, Nat.zero_lt_succ, ↓oEq_int, ↓oNe_int, ↓oEq_str, ↓oNe_str, ↓oEq_bl, ↓oNe_bl, decide_eq_true_eq, Bool.false_eq_true, ↓u_while, ↓ownAt, List.all_cons, List.all_nil, Bool.and_true, List.getD_cons_zero, List.getD_cons_succ, Bool.not_false, ↓oLe_sign]
  subst hk
  simp only [↓dSeq, ↓dNext, ↓dBreak, ↓dCont, ↓dNever, ↓dRet, ↓dRetN, ↓dDrop, ↓dSet, ↓dIf, ↓dAug, ↓dAsg, ↓dPar, ↓dVar, ↓dMove, ↓dC, ↓dFz, ↓dUp, ↓dNil, ↓dCons, ↓dTup, ↓dLst, ↓dBin, ↓dUn, ↓dChain, ↓dTest, ↓dAnd, ↓dOr, ↓dNot, ↓dAndV, ↓dOrV, ↓dNotV, ↓dIfE, ↓dgName, ↓dgNil, ↓dgCons, ↓dgTup, ↓dIt, ↓dRng1, ↓dRng2, ↓dZip, ↓dEnum, ↓u_for, ↓u_lc, ↓dYes, ↓u_call, ↓u_callF, ↓u_callIo, ↓dCB, ↓dCBF, ↓dBinS, ↓dLenS, ↓dSl, ↓dSlS, ↓dNo, ↓dPt, ↓dStL, ↓dApp, ↓dExt, ↓dJoin, ↓dRg1, ↓dRg2, ↓dTupRg, ↓dLstRg, ↓oSub, ↓oMulI, ↓oMul, ↓oFdiv, ↓oMod, ↓oPow, ↓oShr, ↓oXor, ↓oNeg, ↓oAdd, ↓oAug, ↓oLt, ↓oLe, ↓oGt, ↓oGe, ↓oI, ↓oIx, ↓oLen, ↓oInt, ↓oOrd, ↓oAbs, ↓oStL, ↓oIn, ↓oNin, ↓oInB, ↓isi_int, ↓isi_int_bl, ↓isi_int_str, ↓isi_int_tup, ↓isi_int_lst, ↓isi_str, ↓isi_str_int, ↓isi_tup, ↓isi_tup_int, ↓isi_tup_str, ↓isi_tup_lst, ↓isi_lst, ↓isi_lst_tup, ↓isi_lst_int, ↓isi_lst_str, ↓cv, ↓Cell.val, ↓Cell.up, ↓Cell.own, ↓lenD, ↓itemsOf, List.getElem?_cons_zero, List.getElem?_cons_succ, List.set_cons_zero, List.set_cons_succ, Option.bind_some, Option.isSome_some, List.length_cons, List.length_nil, true_and, and_true, ↓ixN_lit, ↓atI_lit, ↓reduceIte, Nat.reduceAdd, Nat.reduceLT, Nat.reduceSub, Nat.zero_add, Nat.reduceLeDiff, Nat.lt_add_one, Nat.zero_lt_succ, ↓oEq_int, ↓oNe_int, ↓oEq_str, ↓oNe_str, ↓oEq_bl, ↓oNe_bl, decide_eq_true_eq, Bool.false_eq_true, ↓u_while, ↓ownAt, List.all_cons, List.all_nil, Bool.and_true, List.getD_cons_zero, List.getD_cons_succ, Bool.not_false, ↓oLe_sign]
  refine ⟨by omega, by omega, lcB_of (lcW_inv (fun rest acc ρ => ∃ (h2 : Hand) (cs : List Nat) (x : Cell), h2.Ok ∧ (∀ c ∈ cs, c ∈ l) ∧ cs.length + rest.length = (a + j).toNat ∧ acc = cs.map (fun c => .str [c]) ∧ ρ = [.io h2.d, .fz (.str l), .fz (.int a), .fz (.int b), .fz (.int (a + j)), x]) ?_ ?_ _ _ _ ⟨h', [], .un, ok', by simp, by rw [rangeD_length]; simp, rfl, rfl⟩)⟩
  · rintro x xs acc ρ kT kF ⟨h2, cs, x5, ok2, hc, hl, rfl, rfl⟩ hT hF
    simp only [wipeE, ↓dSeq, ↓dNext, ↓dBreak, ↓dCont, ↓dNever, ↓dRet, ↓dRetN, ↓dDrop, ↓dSet, ↓dIf, ↓dAug, ↓dAsg, ↓dPar, ↓dVar, ↓dMove, ↓dC, ↓dFz, ↓dUp, ↓dNil, ↓dCons, ↓dTup, ↓dLst, ↓dBin, ↓dUn, ↓dChain, ↓dTest, ↓dAnd, ↓dOr, ↓dNot, ↓dAndV, ↓dOrV, ↓dNotV, ↓dIfE, ↓dgName, ↓dgNil, ↓dgCons, ↓dgTup, ↓dIt, ↓dRng1, ↓dRng2, ↓dZip, ↓dEnum, ↓u_for, ↓u_lc, ↓dYes, ↓u_call, ↓u_callF, ↓u_callIo, ↓dCB, ↓dCBF, ↓dBinS, ↓dLenS, ↓dSl, ↓dSlS, ↓dNo, ↓dPt, ↓dStL, ↓dApp, ↓dExt, ↓dJoin, ↓dRg1, ↓dRg2, ↓dTupRg, ↓dLstRg, ↓oSub, ↓oMulI, ↓oMul, ↓oFdiv, ↓oMod, ↓oPow, ↓oShr, ↓oXor, ↓oNeg, ↓oAdd, ↓oAug, ↓oLt, ↓oLe, ↓oGt, ↓oGe, ↓oI, ↓oIx, ↓oLen, ↓oInt, ↓oOrd, ↓oAbs, ↓oStL, ↓oIn, ↓oNin, ↓oInB, ↓isi_int, ↓isi_int_bl, ↓isi_int_str, ↓isi_int_tup, ↓isi_int_lst, ↓isi_str, ↓isi_str_int, ↓isi_tup, ↓isi_tup_int, ↓isi_tup_str, ↓isi_tup_lst, ↓isi_lst, ↓isi_lst_tup, ↓isi_lst_int, ↓isi_lst_str, ↓cv, ↓Cell.val, ↓Cell.up, ↓Cell.own, ↓lenD, ↓itemsOf, List.getElem?_cons_zero, List.getElem?_cons_succ, List.set_cons_zero, List.set_cons_succ, Option.bind_some, Option.isSome_some, List.length_cons, List.length_nil, true_and, and_true, ↓ixN_lit, ↓atI_lit, ↓reduceIte, Nat.reduceAdd, Nat.reduceLT, Nat.reduceSub, Nat.zero_add, Nat.reduceLeDiff, Nat.lt_add_one, Nat.zero_lt_succ, ↓oEq_int, ↓oNe_int, ↓oEq_str, ↓oNe_str, ↓oEq_bl, ↓oNe_bl, decide_eq_true_eq, Bool.false_eq_true, ↓u_while, ↓ownAt, List.all_cons, List.all_nil, Bool.and_true, List.getD_cons_zero, List.getD_cons_succ, Bool.not_false, ↓oLe_sign]
    refine ⟨rfl, onM (h2, (l.length : Int)) rfl ⟨ok2, by have := abc.2.1; show (1 : Int) ≤ l.length; omega, by have := abc.2.2; show (l.length : Int) < 1073741824; omega⟩ ?_⟩
    rintro r os ⟨i, h3, rfl, i0, i1, rfl, ok3⟩
    obtain ⟨c, hcl, ec⟩ := atI_mem (xs := l) i0 i1
    simp only [ioB, wipeE, fr_take, ↓dSeq, ↓dNext, ↓dBreak, ↓dCont, ↓dNever, ↓dRet, ↓dRetN, ↓dDrop, ↓dSet, ↓dIf, ↓dAug, ↓dAsg, ↓dPar, ↓dVar, ↓dMove, ↓dC, ↓dFz, ↓dUp, ↓dNil, ↓dCons, ↓dTup, ↓dLst, ↓dBin, ↓dUn, ↓dChain, ↓dTest, ↓dAnd, ↓dOr, ↓dNot, ↓dAndV, ↓dOrV, ↓dNotV, ↓dIfE, ↓dgName, ↓dgNil, ↓dgCons, ↓dgTup, ↓dIt, ↓dRng1, ↓dRng2, ↓dZip, ↓dEnum, ↓u_for, ↓u_lc, ↓dYes, ↓u_call, ↓u_callF, ↓u_callIo, ↓dCB, ↓dCBF, ↓dBinS, ↓dLenS, ↓dSl, ↓dSlS, ↓dNo, ↓dPt, ↓dStL, ↓dApp, ↓dExt, ↓dJoin, ↓dRg1, ↓dRg2, ↓dTupRg, ↓dLstRg, ↓oSub, ↓oMulI, ↓oMul, ↓oFdiv, ↓oMod, ↓oPow, ↓oShr, ↓oXor, ↓oNeg, ↓oAdd, ↓oAug, ↓oLt, ↓oLe, ↓oGt, ↓oGe, ↓oI, ↓oIx, ↓oLen, ↓oInt, ↓oOrd, ↓oAbs, ↓oStL, ↓oIn, ↓oNin, ↓oInB, ↓isi_int, ↓isi_int_bl, ↓isi_int_str, ↓isi_int_tup, ↓isi_int_lst, ↓isi_str, ↓isi_str_int, ↓isi_tup, ↓isi_tup_int, ↓isi_tup_str, ↓isi_tup_lst, ↓isi_lst, ↓isi_lst_tup, ↓isi_lst_int, ↓isi_lst_str, ↓cv, ↓Cell.val, ↓Cell.up, ↓Cell.own, ↓lenD, ↓itemsOf, List.getElem?_cons_zero, List.getElem?_cons_succ, List.set_cons_zero, List.set_cons_succ, Option.bind_some, Option.isSome_some, List.length_cons, List.length_nil, true_and, and_true, ↓ixN_lit, ↓atI_lit, ↓reduceIte, Nat.reduceAdd, Nat.reduceLT, Nat.reduceSub, Nat.zero_add, Nat.reduceLeDiff, Nat.lt_add_one, Nat.zero_lt_succ, ↓oEq_int, ↓oNe_int, ↓oEq_str, ↓oNe_str, ↓oEq_bl, ↓oNe_bl, decide_eq_true_eq, Bool.false_eq_true, ↓u_while, ↓ownAt, List.all_cons, List.all_nil, Bool.and_true, List.getD_cons_zero, List.getD_cons_succ, Bool.not_false, ↓oLe_sign, ec]
    refine hT _ _ ⟨h3, cs ++ [c], _, ok3, fun z hz => ?_, ?_, by rw [List.map_append] <;> rfl, rfl⟩
    · rcases List.mem_append.mp hz with z1 | z1
      · exact hc z z1
      · rw [List.mem_singleton.mp z1]; exact hcl
    · rw [List.length_append, ← hl]; simp; omega
  · rintro acc ρ ⟨h2, cs, x5, ok2, hc, hl, rfl, rfl⟩
    have e1 : strsOf (cs.map fun c => D.str [c]) = some (cs.map fun c => [c]) := strsOf_map _ cs
    have e2 : ((cs.map fun c => [c]).map fun (x : List Nat) => x.length).sum = cs.length := by
      rw [List.map_map]
      exact sum_ones cs
    have hl' : cs.length = (a + j).toNat := by simpa using hl
    simp only [restE, ↓dSeq, ↓dNext, ↓dBreak, ↓dCont, ↓dNever, ↓dRet, ↓dRetN, ↓dDrop, ↓dSet, ↓dIf, ↓dAug, ↓dAsg, ↓dPar, ↓dVar, ↓dMove, ↓dC, ↓dFz, ↓dUp, ↓dNil, ↓dCons, ↓dTup, ↓dLst, ↓dBin, ↓dUn, ↓dChain, ↓dTest, ↓dAnd, ↓dOr, ↓dNot, ↓dAndV, ↓dOrV, ↓dNotV, ↓dIfE, ↓dgName, ↓dgNil, ↓dgCons, ↓dgTup, ↓dIt, ↓dRng1, ↓dRng2, ↓dZip, ↓dEnum, ↓u_for, ↓u_lc, ↓dYes, ↓u_call, ↓u_callF, ↓u_callIo, ↓dCB, ↓dCBF, ↓dBinS, ↓dLenS, ↓dSl, ↓dSlS, ↓dNo, ↓dPt, ↓dStL, ↓dApp, ↓dExt, ↓dJoin, ↓dRg1, ↓dRg2, ↓dTupRg, ↓dLstRg, ↓oSub, ↓oMulI, ↓oMul, ↓oFdiv, ↓oMod, ↓oPow, ↓oShr, ↓oXor, ↓oNeg, ↓oAdd, ↓oAug, ↓oLt, ↓oLe, ↓oGt, ↓oGe, ↓oI, ↓oIx, ↓oLen, ↓oInt, ↓oOrd, ↓oAbs, ↓oStL, ↓oIn, ↓oNin, ↓oInB, ↓isi_int, ↓isi_int_bl, ↓isi_int_str, ↓isi_int_tup, ↓isi_int_lst, ↓isi_str, ↓isi_str_int, ↓isi_tup, ↓isi_tup_int, ↓isi_tup_str, ↓isi_tup_lst, ↓isi_lst, ↓isi_lst_tup, ↓isi_lst_int, ↓isi_lst_str, ↓cv, ↓Cell.val, ↓Cell.up, ↓Cell.own, ↓lenD, ↓itemsOf, List.getElem?_cons_zero, List.getElem?_cons_succ, List.set_cons_zero, List.set_cons_succ, Option.bind_some, Option.isSome_some, List.length_cons, List.length_nil, true_and, and_true, ↓ixN_lit, ↓atI_lit, ↓reduceIte, Nat.reduceAdd, Nat.reduceLT, Nat.reduceSub, Nat.zero_add, Nat.reduceLeDiff, Nat.lt_add_one, Nat.zero_lt_succ, ↓oEq_int, ↓oNe_int, ↓oEq_str, ↓oNe_str, ↓oEq_bl, ↓oNe_bl, decide_eq_true_eq, Bool.false_eq_true, ↓u_while, ↓ownAt, List.all_cons, List.all_nil, Bool.and_true, List.getD_cons_zero, List.getD_cons_succ, Bool.not_false, ↓oLe_sign, itemsLT, e1, joinL_nil, flat_ones]
    refine ⟨?_, rfl, post _ _ ⟨h2, cs, ok2, fun c h => abc.1 c (hc c h), by omega, by omega, rfl, rfl⟩⟩
    rw [e2]
    simp
    omega
/-- a menu: some short words -/
def Menu (ws : List (List Nat)) : Prop := (∀ w ∈ ws, Signs w ∧ 1 ≤ w.length ∧ w.length ≤ 4) ∧ 1 ≤ ws.length ∧ ws.length ≤ 10
def S__law_menu : FnSpec := mkSpec (α := Hand) [true] true (fun x => [x.d]) (fun x => x.Ok) fun x r os => ∃ (h' : Hand) (ws : List (List Nat)), h'.Ok ∧ Menu ws ∧ r = .lst (sl ws) ∧ os = [h'.d]
theorem fr_alpha : S__law_alphabet.fresh = false := rfl
theorem fr_word : S__law_word.fresh = false := rfl
theorem fr_pick : S__law_pick.fresh = false := rfl
theorem fr_menu : S__law_menu.fresh = true := rfl
/-- _law_menu: slots 0 _law_hand_here, 1 _law_signs, 2 _law_most, 3 _law_k -/
def D__law_menu : DTS := (dSeq (dSet 1 (dUp (dFz (dCallIo S__law_alphabet 0 dNil)))) (dSeq (dSet 2 (dUp (dBin oAdd (dC (.int 1)) (dBin oMul (dC (.int 3)) (dFz (dCallIo S__law_take 0 (dCons (dC (.int 2)) dNil))))))) (dRet (dLc (dRng1 (dCons (dBin oAdd (dC (.int 2)) (dFz (dCallIo S__law_take 0 (dCons (dC (.int 5)) dNil)))) dNil)) (dgName 3) dYes (dFz (dCallIo S__law_word 0 (dCons (dVar 1) (dCons (dC (.int 1)) (dCons (dVar 2) dNil))))) [3]))))
theorem sem__law_menu : ∀ ds Kd, S__law_menu.ds ds Kd → D__law_menu (endsOf S__law_menu Kd) (env0 4 [true] ds) := by
  rintro ds Kd ⟨h, rfl, ok, post⟩
  show D__law_menu (endsOf S__law_menu Kd) [.io h.d, .un, .un, .un]
  unfold D__law_menu
  refine seq_gen fun k hk => ?_
  simp only [↓dSeq, ↓dNext, ↓dBreak, ↓dCont, ↓dNever, ↓dRet, ↓dRetN, ↓dDrop, ↓dSet, ↓dIf, ↓dAug, ↓dAsg, ↓dPar, ↓dVar, ↓dMove, ↓dC, ↓dFz, ↓dUp, ↓dNil, ↓dCons, ↓dTup, ↓dLst, ↓dBin, ↓dUn, ↓dChain, ↓dTest, ↓dAnd, ↓dOr, ↓dNot, ↓dAndV, ↓dOrV, ↓dNotV, ↓dIfE, ↓dgName, ↓dgNil, ↓dgCons, ↓dgTup, ↓dIt, ↓dRng1, ↓dRng2, ↓dZip, ↓dEnum, ↓u_for, ↓u_lc, ↓dYes, ↓u_call, ↓u_callF, ↓u_callIo, ↓dCB, ↓dCBF, ↓dBinS, ↓dLenS, ↓dSl, ↓dSlS, ↓dNo, ↓dPt, ↓dStL, ↓dApp, ↓dExt, ↓dJoin, ↓dRg1, ↓dRg2, ↓dTupRg, ↓dLstRg, ↓oSub, ↓oMulI, ↓oMul, ↓oFdiv, ↓oMod, ↓oPow, ↓oShr, ↓oXor, ↓oNeg, ↓oAdd, ↓oAug, ↓oLt, ↓oLe, ↓oGt, ↓oGe, ↓oI, ↓oIx, ↓oLen, ↓oInt, ↓oOrd, ↓oAbs, ↓oStL, ↓oIn, ↓oNin, ↓oInB, ↓isi_int, ↓isi_int_bl, ↓isi_int_str, ↓isi_int_tup, ↓isi_int_lst, ↓isi_str, ↓isi_str_int, ↓isi_tup, ↓isi_tup_int, ↓isi_tup_str, ↓isi_tup_lst, ↓isi_lst, ↓isi_lst_tup, ↓isi_lst_int, ↓isi_lst_str, ↓cv, ↓Cell.val, ↓Cell.up, ↓Cell.own, ↓lenD, ↓itemsOf, List.getElem?_cons_zero, List.getElem?_cons_succ, List.set_cons_zero, List.set_cons_succ, Option.bind_some, Option.isSome_some, List.length_cons, List.length_nil, true_and, and_true, ↓ixN_lit, ↓atI_lit, ↓reduceIte, Nat.reduceAdd, Nat.reduceLT, Nat.reduceSub, Nat.zero_add, Nat.reduceLeDiff, Nat.lt_add_one, Nat.zero_lt_succ, ↓oEq_int, ↓oNe_int, ↓oEq_str, ↓oNe_str, ↓oEq_bl, ↓oNe_bl, decide_eq_true_eq, Bool.false_eq_true, ↓u_while, ↓ownAt, List.all_cons, List.all_nil, Bool.and_true, List.getD_cons_zero, List.getD_cons_succ, Bool.not_false, ↓oLe_sign]
  refine ⟨rfl, onM h rfl ok ?_⟩
  rintro r os ⟨h', l, ok', abc, rfl, rfl⟩
  simp only [ioB, wipeE, fr_alpha, ↓dSeq, ↓dNext, ↓dBreak, ↓dCont, ↓dNever, ↓dRet, ↓dRetN, ↓dDrop, ↓dSet, ↓dIf, ↓dAug, ↓dAsg, ↓dPar, ↓dVar, ↓dMove, ↓dC, ↓dFz, ↓dUp, ↓dNil, ↓dCons, ↓dTup, ↓dLst, ↓dBin, ↓dUn, ↓dChain, ↓dTest, ↓dAnd, ↓dOr, ↓dNot, ↓dAndV, ↓dOrV, ↓dNotV, ↓dIfE, ↓dgName, ↓dgNil, ↓dgCons, ↓dgTup, ↓dIt, ↓dRng1, ↓dRng2, ↓dZip, ↓dEnum, ↓u_for, ↓u_lc, ↓dYes, ↓u_call, ↓u_callF, ↓u_callIo, ↓dCB, ↓dCBF, ↓dBinS, ↓dLenS, ↓dSl, ↓dSlS, ↓dNo, ↓dPt, ↓dStL, ↓dApp, ↓dExt, ↓dJoin, ↓dRg1, ↓dRg2, ↓dTupRg, ↓dLstRg, ↓oSub, ↓oMulI, ↓oMul, ↓oFdiv, ↓oMod, ↓oPow, ↓oShr, ↓oXor, ↓oNeg, ↓oAdd, ↓oAug, ↓oLt, ↓oLe, ↓oGt, ↓oGe, ↓oI, ↓oIx, ↓oLen, ↓oInt, ↓oOrd, ↓oAbs, ↓oStL, ↓oIn, ↓oNin, ↓oInB, ↓isi_int, ↓isi_int_bl, ↓isi_int_str, ↓isi_int_tup, ↓isi_int_lst, ↓isi_str, ↓isi_str_int, ↓isi_tup, ↓isi_tup_int, ↓isi_tup_str, ↓isi_tup_lst, ↓isi_lst, ↓isi_lst_tup, ↓isi_lst_int, ↓isi_lst_str, ↓cv, ↓Cell.val, ↓Cell.up, ↓Cell.own, ↓lenD, ↓itemsOf, List.getElem?_cons_zero, List.getElem?_cons_succ, List.set_cons_zero, List.set_cons_succ, Option.bind_some, Option.isSome_some, List.length_cons, List.length_nil, true_and, and_true, ↓ixN_lit, ↓atI_lit, ↓reduceIte, Nat.reduceAdd, Nat.reduceLT, Nat.reduceSub, Nat.zero_add, Nat.reduceLeDiff, Nat.lt_add_one, Nat.zero_lt_succ, ↓oEq_int, ↓oNe_int, ↓oEq_str, ↓oNe_str, ↓oEq_bl, ↓oNe_bl, decide_eq_true_eq, Bool.false_eq_true, ↓u_while, ↓ownAt, List.all_cons, List.all_nil, Bool.and_true, List.getD_cons_zero, List.getD_cons_succ, Bool.not_false, ↓oLe_sign]
  subst hk
  refine seq_gen fun k hk => ?_
  simp only [↓dSeq, ↓dNext, ↓dBreak, ↓dCont, ↓dNever, ↓dRet, ↓dRetN, ↓dDrop, ↓dSet, ↓dIf, ↓dAug, ↓dAsg, ↓dPar, ↓dVar, ↓dMove, ↓dC, ↓dFz, ↓dUp, ↓dNil, ↓dCons, ↓dTup, ↓dLst, ↓dBin, ↓dUn, ↓dChain, ↓dTest, ↓dAnd, ↓dOr, ↓dNot, ↓dAndV, ↓dOrV, ↓dNotV, ↓dIfE, ↓dgName, ↓dgNil, ↓dgCons, ↓dgTup, ↓dIt, ↓dRng1, ↓dRng2, ↓dZip, ↓dEnum, ↓u_for, ↓u_lc, ↓dYes, ↓u_call, ↓u_callF, ↓u_callIo, ↓dCB, ↓dCBF, ↓dBinS, ↓dLenS, ↓dSl, ↓dSlS, ↓dNo, ↓dPt, ↓dStL, ↓dApp, ↓dExt, ↓dJoin, ↓dRg1, ↓dRg2, ↓dTupRg, ↓dLstRg, ↓oSub, ↓oMulI, ↓oMul, ↓oFdiv, ↓oMod, ↓oPow, ↓oShr, ↓oXor, ↓oNeg, ↓oAdd, ↓oAug, ↓oLt, ↓oLe, ↓oGt, ↓oGe, ↓oI, ↓oIx, ↓oLen, ↓oInt, ↓oOrd, ↓oAbs, ↓oStL, ↓oIn, ↓oNin, ↓oInB, ↓isi_int, ↓isi_int_bl, ↓isi_int_str, ↓isi_int_tup, ↓isi_int_lst, ↓isi_str, ↓isi_str_int, ↓isi_tup, ↓isi_tup_int, ↓isi_tup_str, ↓isi_tup_lst, ↓isi_lst, ↓isi_lst_tup, ↓isi_lst_int, ↓isi_lst_str, ↓cv, ↓Cell.val, ↓Cell.up, ↓Cell.own, ↓lenD, ↓itemsOf, List.getElem?_cons_zero, List.getElem?_cons_succ, List.set_cons_zero, List.set_cons_succ, Option.bind_some, Option.isSome_some, List.length_cons, List.length_nil, true_and, and_true, ↓ixN_lit, ↓atI_lit, ↓reduceIte, Nat.reduceAdd, Nat.reduceLT, Nat.reduceSub, Nat.zero_add, Nat.reduceLeDiff, Nat.lt_add_one, Nat.zero_lt_succ, ↓oEq_int, ↓oNe_int, ↓oEq_str, ↓oNe_str, ↓oEq_bl, ↓oNe_bl, decide_eq_true_eq, Bool.false_eq_true, ↓u_while, ↓ownAt, List.all_cons, List.all_nil, Bool.and_true, List.getD_cons_zero, List.getD_cons_succ, Bool.not_false, ↓oLe_sign]
  refine ⟨rfl, onM (h', 2) rfl ⟨ok', by show (1 : Int) ≤ 2; decide, by show (2 : Int) < 1073741824; decide⟩ ?_⟩
  rintro r os ⟨j, h2, rfl, k0, k1, rfl, ok2⟩
  have k1 : j < 2 := k1
  simp only [ioB, wipeE, fr_take, ↓dSeq, ↓dNext, ↓dBreak, ↓dCont, ↓dNever, ↓dRet, ↓dRetN, ↓dDrop, ↓dSet, ↓dIf, ↓dAug, ↓dAsg, ↓dPar, ↓dVar, ↓dMove, ↓dC, ↓dFz, ↓dUp, ↓dNil, ↓dCons, ↓dTup, ↓dLst, ↓dBin, ↓dUn, ↓dChain, ↓dTest, ↓dAnd, ↓dOr, ↓dNot, ↓dAndV, ↓dOrV, ↓dNotV, ↓dIfE, ↓dgName, ↓dgNil, ↓dgCons, ↓dgTup, ↓dIt, ↓dRng1, ↓dRng2, ↓dZip, ↓dEnum, ↓u_for, ↓u_lc, ↓dYes, ↓u_call, ↓u_callF, ↓u_callIo, ↓dCB, ↓dCBF, ↓dBinS, ↓dLenS, ↓dSl, ↓dSlS, ↓dNo, ↓dPt, ↓dStL, ↓dApp, ↓dExt, ↓dJoin, ↓dRg1, ↓dRg2, ↓dTupRg, ↓dLstRg, ↓oSub, ↓oMulI, ↓oMul, ↓oFdiv, ↓oMod, ↓oPow, ↓oShr, ↓oXor, ↓oNeg, ↓oAdd, ↓oAug, ↓oLt, ↓oLe, ↓oGt, ↓oGe, ↓oI, ↓oIx, ↓oLen, ↓oInt, ↓oOrd, ↓oAbs, ↓oStL, ↓oIn, ↓oNin, ↓oInB, ↓isi_int, ↓isi_int_bl, ↓isi_int_str, ↓isi_int_tup, ↓isi_int_lst, ↓isi_str, ↓isi_str_int, ↓isi_tup, ↓isi_tup_int, ↓isi_tup_str, ↓isi_tup_lst, ↓isi_lst, ↓isi_lst_tup, ↓isi_lst_int, ↓isi_lst_str, ↓cv, ↓Cell.val, ↓Cell.up, ↓Cell.own, ↓lenD, ↓itemsOf, List.getElem?_cons_zero, List.getElem?_cons_succ, List.set_cons_zero, List.set_cons_succ, Option.bind_some, Option.isSome_some, List.length_cons, List.length_nil, true_and, and_true, ↓ixN_lit, ↓atI_lit, ↓reduceIte, Nat.reduceAdd, Nat.reduceLT, Nat.reduceSub, Nat.zero_add, Nat.reduceLeDiff, Nat.lt_add_one, Nat.zero_lt_succ, ↓oEq_int, ↓oNe_int, ↓oEq_str, ↓oNe_str, ↓oEq_bl, ↓oNe_bl, decide_eq_true_eq, Bool.false_eq_true, ↓u_while, ↓ownAt, List.all_cons, List.all_nil, Bool.and_true, List.getD_cons_zero, List.getD_cons_succ, Bool.not_false, ↓oLe_sign]
  refine ⟨.inl ⟨by decide, by decide⟩, ?_⟩
  subst hk
  simp only [↓dSeq, ↓dNext, ↓dBreak, ↓dCont, ↓dNever, ↓dRet, ↓dRetN, ↓dDrop, ↓dSet, ↓dIf, ↓dAug, ↓dAsg, ↓dPar, ↓dVar, ↓dMove, ↓dC, ↓dFz, ↓dUp, ↓dNil, ↓dCons, ↓dTup, ↓dLst, ↓dBin, ↓dUn, ↓dChain, ↓dTest, ↓dAnd, ↓dOr, ↓dNot, ↓dAndV, ↓dOrV, ↓dNotV, ↓dIfE, ↓dgName, ↓dgNil, ↓dgCons, ↓dgTup, ↓dIt, ↓dRng1, ↓dRng2, ↓dZip, ↓dEnum, ↓u_for, ↓u_lc, ↓dYes, ↓u_call, ↓u_callF, ↓u_callIo, ↓dCB, ↓dCBF, ↓dBinS, ↓dLenS, ↓dSl, ↓dSlS, ↓dNo, ↓dPt, ↓dStL, ↓dApp, ↓dExt, ↓dJoin, ↓dRg1, ↓dRg2, ↓dTupRg, ↓dLstRg, ↓oSub, ↓oMulI, ↓oMul, ↓oFdiv, ↓oMod, ↓oPow, ↓oShr, ↓oXor, ↓oNeg, ↓oAdd, ↓oAug, ↓oLt, ↓oLe, ↓oGt, ↓oGe, ↓oI, ↓oIx, ↓oLen, ↓oInt, ↓oOrd, ↓oAbs, ↓oStL, ↓oIn, ↓oNin, ↓oInB, ↓isi_int, ↓isi_int_bl, ↓isi_int_str, ↓isi_int_tup, ↓isi_int_lst, ↓isi_str, ↓isi_str_int, ↓isi_tup, ↓isi_tup_int, ↓isi_tup_str, ↓isi_tup_lst, ↓isi_lst, ↓isi_lst_tup, ↓isi_lst_int, ↓isi_lst_str, ↓cv, ↓Cell.val, ↓Cell.up, ↓Cell.own, ↓lenD, ↓itemsOf, List.getElem?_cons_zero, List.getElem?_cons_succ, List.set_cons_zero, List.set_cons_succ, Option.bind_some, Option.isSome_some, List.length_cons, List.length_nil, true_and, and_true, ↓ixN_lit, ↓atI_lit, ↓reduceIte, Nat.reduceAdd, Nat.reduceLT, Nat.reduceSub, Nat.zero_add, Nat.reduceLeDiff, Nat.lt_add_one, Nat.zero_lt_succ, ↓oEq_int, ↓oNe_int, ↓oEq_str, ↓oNe_str, ↓oEq_bl, ↓oNe_bl, decide_eq_true_eq, Bool.false_eq_true, ↓u_while, ↓ownAt, List.all_cons, List.all_nil, Bool.and_true, List.getD_cons_zero, List.getD_cons_succ, Bool.not_false, ↓oLe_sign]
  refine ⟨rfl, onM (h2, 5) rfl ⟨ok2, by show (1 : Int) ≤ 5; decide, by show (5 : Int) < 1073741824; decide⟩ ?_⟩
  rintro r os ⟨i, h3, rfl, i0, i1, rfl, ok3⟩
  have i1 : i < 5 := i1
  simp only [ioB, wipeE, fr_take, ↓dSeq, ↓dNext, ↓dBreak, ↓dCont, ↓dNever, ↓dRet, ↓dRetN, ↓dDrop, ↓dSet, ↓dIf, ↓dAug, ↓dAsg, ↓dPar, ↓dVar, ↓dMove, ↓dC, ↓dFz, ↓dUp, ↓dNil, ↓dCons, ↓dTup, ↓dLst, ↓dBin, ↓dUn, ↓dChain, ↓dTest, ↓dAnd, ↓dOr, ↓dNot, ↓dAndV, ↓dOrV, ↓dNotV, ↓dIfE, ↓dgName, ↓dgNil, ↓dgCons, ↓dgTup, ↓dIt, ↓dRng1, ↓dRng2, ↓dZip, ↓dEnum, ↓u_for, ↓u_lc, ↓dYes, ↓u_call, ↓u_callF, ↓u_callIo, ↓dCB, ↓dCBF, ↓dBinS, ↓dLenS, ↓dSl, ↓dSlS, ↓dNo, ↓dPt, ↓dStL, ↓dApp, ↓dExt, ↓dJoin, ↓dRg1, ↓dRg2, ↓dTupRg, ↓dLstRg, ↓oSub, ↓oMulI, ↓oMul, ↓oFdiv, ↓oMod, ↓oPow, ↓oShr, ↓oXor, ↓oNeg, ↓oAdd, ↓oAug, ↓oLt, ↓oLe, ↓oGt, ↓oGe, ↓oI, ↓oIx, ↓oLen, ↓oInt, ↓oOrd, ↓oAbs, ↓oStL, ↓oIn, ↓oNin, ↓oInB, ↓isi_int, ↓isi_int_bl, ↓isi_int_str, ↓isi_int_tup, ↓isi_int_lst, ↓isi_str, ↓isi_str_int, ↓isi_tup, ↓isi_tup_int, ↓isi_tup_str, ↓isi_tup_lst, ↓isi_lst, ↓isi_lst_tup, ↓isi_lst_int, ↓isi_lst_str, ↓cv, ↓Cell.val, ↓Cell.up, ↓Cell.own, ↓lenD, ↓itemsOf, List.getElem?_cons_zero, List.getElem?_cons_succ, List.set_cons_zero, List.set_cons_succ, Option.bind_some, Option.isSome_some, List.length_cons, List.length_nil, true_and, and_true, ↓ixN_lit, ↓atI_lit, ↓reduceIte, Nat.reduceAdd, Nat.reduceLT, Nat.reduceSub, Nat.zero_add, Nat.reduceLeDiff, Nat.lt_add_one, Nat.zero_lt_succ, ↓oEq_int, ↓oNe_int, ↓oEq_str, ↓oNe_str, ↓oEq_bl, ↓oNe_bl, decide_eq_true_eq, Bool.false_eq_true, ↓u_while, ↓ownAt, List.all_cons, List.all_nil, Bool.and_true, List.getD_cons_zero, List.getD_cons_succ, Bool.not_false, ↓oLe_sign]
  refine ⟨by omega, by omega, lcB_of (lcW_inv (fun rest acc ρ => ∃ (h4 : Hand) (ws : List (List Nat)) (x : Cell), h4.Ok ∧ (∀ w ∈ ws, Signs w ∧ 1 ≤ w.length ∧ w.length ≤ 4) ∧ ws.length + rest.length = (2 + i).toNat ∧ acc = sl ws ∧ ρ = [.io h4.d, .fz (.str l), .fz (.int (1 + 3 * j)), x]) ?_ ?_ _ _ _ ⟨h3, [], .un, ok3, by simp, by rw [rangeD_length]; simp, rfl, rfl⟩)⟩
  · rintro x xs acc ρ kT kF ⟨h4, ws, x5, ok4, hw, hl, rfl, rfl⟩ hT hF
    simp only [wipeE, ↓dSeq, ↓dNext, ↓dBreak, ↓dCont, ↓dNever, ↓dRet, ↓dRetN, ↓dDrop, ↓dSet, ↓dIf, ↓dAug, ↓dAsg, ↓dPar, ↓dVar, ↓dMove, ↓dC, ↓dFz, ↓dUp, ↓dNil, ↓dCons, ↓dTup, ↓dLst, ↓dBin, ↓dUn, ↓dChain, ↓dTest, ↓dAnd, ↓dOr, ↓dNot, ↓dAndV, ↓dOrV, ↓dNotV, ↓dIfE, ↓dgName, ↓dgNil, ↓dgCons, ↓dgTup, ↓dIt, ↓dRng1, ↓dRng2, ↓dZip, ↓dEnum, ↓u_for, ↓u_lc, ↓dYes, ↓u_call, ↓u_callF, ↓u_callIo, ↓dCB, ↓dCBF, ↓dBinS, ↓dLenS, ↓dSl, ↓dSlS, ↓dNo, ↓dPt, ↓dStL, ↓dApp, ↓dExt, ↓dJoin, ↓dRg1, ↓dRg2, ↓dTupRg, ↓dLstRg, ↓oSub, ↓oMulI, ↓oMul, ↓oFdiv, ↓oMod, ↓oPow, ↓oShr, ↓oXor, ↓oNeg, ↓oAdd, ↓oAug, ↓oLt, ↓oLe, ↓oGt, ↓oGe, ↓oI, ↓oIx, ↓oLen, ↓oInt, ↓oOrd, ↓oAbs, ↓oStL, ↓oIn, ↓oNin, ↓oInB, ↓isi_int, ↓isi_int_bl, ↓isi_int_str, ↓isi_int_tup, ↓isi_int_lst, ↓isi_str, ↓isi_str_int, ↓isi_tup, ↓isi_tup_int, ↓isi_tup_str, ↓isi_tup_lst, ↓isi_lst, ↓isi_lst_tup, ↓isi_lst_int, ↓isi_lst_str, ↓cv, ↓Cell.val, ↓Cell.up, ↓Cell.own, ↓lenD, ↓itemsOf, List.getElem?_cons_zero, List.getElem?_cons_succ, List.set_cons_zero, List.set_cons_succ, Option.bind_some, Option.isSome_some, List.length_cons, List.length_nil, true_and, and_true, ↓ixN_lit, ↓atI_lit, ↓reduceIte, Nat.reduceAdd, Nat.reduceLT, Nat.reduceSub, Nat.zero_add, Nat.reduceLeDiff, Nat.lt_add_one, Nat.zero_lt_succ, ↓oEq_int, ↓oNe_int, ↓oEq_str, ↓oNe_str, ↓oEq_bl, ↓oNe_bl, decide_eq_true_eq, Bool.false_eq_true, ↓u_while, ↓ownAt, List.all_cons, List.all_nil, Bool.and_true, List.getD_cons_zero, List.getD_cons_succ, Bool.not_false, ↓oLe_sign]
    refine ⟨rfl, onM (h4, l, 1, 1 + 3 * j) rfl ⟨ok4, abc, by show (1 : Int) ≤ 1; decide, by show 1 ≤ 1 + 3 * j; omega, by show 1 + 3 * j ≤ 1000; omega⟩ ?_⟩
    rintro r os ⟨h5, w, ok5, hs, w1, w2, rfl, rfl⟩
    have w2 : (w.length : Int) ≤ 1 + 3 * j := w2
    simp only [ioB, wipeE, fr_word, ↓dSeq, ↓dNext, ↓dBreak, ↓dCont, ↓dNever, ↓dRet, ↓dRetN, ↓dDrop, ↓dSet, ↓dIf, ↓dAug, ↓dAsg, ↓dPar, ↓dVar, ↓dMove, ↓dC, ↓dFz, ↓dUp, ↓dNil, ↓dCons, ↓dTup, ↓dLst, ↓dBin, ↓dUn, ↓dChain, ↓dTest, ↓dAnd, ↓dOr, ↓dNot, ↓dAndV, ↓dOrV, ↓dNotV, ↓dIfE, ↓dgName, ↓dgNil, ↓dgCons, ↓dgTup, ↓dIt, ↓dRng1, ↓dRng2, ↓dZip, ↓dEnum, ↓u_for, ↓u_lc, ↓dYes, ↓u_call, ↓u_callF, ↓u_callIo, ↓dCB, ↓dCBF, ↓dBinS, ↓dLenS, ↓dSl, ↓dSlS, ↓dNo, ↓dPt, ↓dStL, ↓dApp, ↓dExt, ↓dJoin, ↓dRg1, ↓dRg2, ↓dTupRg, ↓dLstRg, ↓oSub, ↓oMulI, ↓oMul, ↓oFdiv, ↓oMod, ↓oPow, ↓oShr, ↓oXor, ↓oNeg, ↓oAdd, ↓oAug, ↓oLt, ↓oLe, ↓oGt, ↓oGe, ↓oI, ↓oIx, ↓oLen, ↓oInt, ↓oOrd, ↓oAbs, ↓oStL, ↓oIn, ↓oNin, ↓oInB, ↓isi_int, ↓isi_int_bl, ↓isi_int_str, ↓isi_int_tup, ↓isi_int_lst, ↓isi_str, ↓isi_str_int, ↓isi_tup, ↓isi_tup_int, ↓isi_tup_str, ↓isi_tup_lst, ↓isi_lst, ↓isi_lst_tup, ↓isi_lst_int, ↓isi_lst_str, ↓cv, ↓Cell.val, ↓Cell.up, ↓Cell.own, ↓lenD, ↓itemsOf, List.getElem?_cons_zero, List.getElem?_cons_succ, List.set_cons_zero, List.set_cons_succ, Option.bind_some, Option.isSome_some, List.length_cons, List.length_nil, true_and, and_true, ↓ixN_lit, ↓atI_lit, ↓reduceIte, Nat.reduceAdd, Nat.reduceLT, Nat.reduceSub, Nat.zero_add, Nat.reduceLeDiff, Nat.lt_add_one, Nat.zero_lt_succ, ↓oEq_int, ↓oNe_int, ↓oEq_str, ↓oNe_str, ↓oEq_bl, ↓oNe_bl, decide_eq_true_eq, Bool.false_eq_true, ↓u_while, ↓ownAt, List.all_cons, List.all_nil, Bool.and_true, List.getD_cons_zero, List.getD_cons_succ, Bool.not_false, ↓oLe_sign]
    refine hT _ _ ⟨h5, ws ++ [w], _, ok5, fun z hz => ?_, ?_, by unfold sl; rw [List.map_append] <;> rfl, rfl⟩
    · rcases List.mem_append.mp hz with z1 | z1
      · exact hw z z1
      · rw [List.mem_singleton.mp z1]; exact ⟨hs, w1, by omega⟩
    · rw [List.length_append, ← hl]; simp; omega
  · rintro acc ρ ⟨h4, ws, x5, ok4, hw, hl, rfl, rfl⟩
    have hl' : ws.length = (2 + i).toNat := by simpa using hl
    simp only [restE, ↓dSeq, ↓dNext, ↓dBreak, ↓dCont, ↓dNever, ↓dRet, ↓dRetN, ↓dDrop, ↓dSet, ↓dIf, ↓dAug, ↓dAsg, ↓dPar, ↓dVar, ↓dMove, ↓dC, ↓dFz, ↓dUp, ↓dNil, ↓dCons, ↓dTup, ↓dLst, ↓dBin, ↓dUn, ↓dChain, ↓dTest, ↓dAnd, ↓dOr, ↓dNot, ↓dAndV, ↓dOrV, ↓dNotV, ↓dIfE, ↓dgName, ↓dgNil, ↓dgCons, ↓dgTup, ↓dIt, ↓dRng1, ↓dRng2, ↓dZip, ↓dEnum, ↓u_for, ↓u_lc, ↓dYes, ↓u_call, ↓u_callF, ↓u_callIo, ↓dCB, ↓dCBF, ↓dBinS, ↓dLenS, ↓dSl, ↓dSlS, ↓dNo, ↓dPt, ↓dStL, ↓dApp, ↓dExt, ↓dJoin, ↓dRg1, ↓dRg2, ↓dTupRg, ↓dLstRg, ↓oSub, ↓oMulI, ↓oMul, ↓oFdiv, ↓oMod, ↓oPow, ↓oShr, ↓oXor, ↓oNeg, ↓oAdd, ↓oAug, ↓oLt, ↓oLe, ↓oGt, ↓oGe, ↓oI, ↓oIx, ↓oLen, ↓oInt, ↓oOrd, ↓oAbs, ↓oStL, ↓oIn, ↓oNin, ↓oInB, ↓isi_int, ↓isi_int_bl, ↓isi_int_str, ↓isi_int_tup, ↓isi_int_lst, ↓isi_str, ↓isi_str_int, ↓isi_tup, ↓isi_tup_int, ↓isi_tup_str, ↓isi_tup_lst, ↓isi_lst, ↓isi_lst_tup, ↓isi_lst_int, ↓isi_lst_str, ↓cv, ↓Cell.val, ↓Cell.up, ↓Cell.own, ↓lenD, ↓itemsOf, List.getElem?_cons_zero, List.getElem?_cons_succ, List.set_cons_zero, List.set_cons_succ, Option.bind_some, Option.isSome_some, List.length_cons, List.length_nil, true_and, and_true, ↓ixN_lit, ↓atI_lit, ↓reduceIte, Nat.reduceAdd, Nat.reduceLT, Nat.reduceSub, Nat.zero_add, Nat.reduceLeDiff, Nat.lt_add_one, Nat.zero_lt_succ, ↓oEq_int, ↓oNe_int, ↓oEq_str, ↓oNe_str, ↓oEq_bl, ↓oNe_bl, decide_eq_true_eq, Bool.false_eq_true, ↓u_while, ↓ownAt, List.all_cons, List.all_nil, Bool.and_true, List.getD_cons_zero, List.getD_cons_succ, Bool.not_false, ↓oLe_sign]
    exact post _ _ ⟨h4, ws, ok4, ⟨hw, by omega, by omega⟩, rfl, rfl⟩
def S__law_some : FnSpec := mkSpec (α := Hand × List (List Nat) × Int) [true, false, false] false (fun x => [x.1.d, .lst (sl x.2.1), .int x.2.2]) (fun x => x.1.Ok ∧ Menu x.2.1 ∧ 0 ≤ x.2.2 ∧ x.2.2 ≤ 1000) fun x r os => ∃ (h' : Hand) (ws : List (List Nat)), h'.Ok ∧ (∀ w ∈ ws, w ∈ x.2.1) ∧ (ws.length : Int) ≤ x.2.2 ∧ r = .tup (sl ws) ∧ os = [h'.d]
theorem fr_some : S__law_some.fresh = false := rfl
/-- _law_some: slots 0 _law_hand_here, 1 _law_menu_here, 2 _law_most, 3 _law_k -/
def D__law_some : DTS := (dRet (dUp (dCB oTuple (dCons (dFz (dLc (dRng1 (dCons (dFz (dCallIo S__law_take 0 (dCons (dBin oAdd (dVar 2) (dC (.int 1))) dNil))) dNil)) (dgName 3) dYes (dFz (dCallIo S__law_pick 0 (dCons (dVar 1) dNil))) [3])) dNil))))
theorem sem__law_some : ∀ ds Kd, S__law_some.ds ds Kd → D__law_some (endsOf S__law_some Kd) (env0 4 [true, false, false] ds) := by
  rintro ds Kd ⟨⟨h, ms, b⟩, rfl, ⟨ok, mn, b0, b1⟩, post⟩
  simp only at ok mn b0 b1 post
  show D__law_some (endsOf S__law_some Kd) [.io h.d, .fz (.lst (sl ms)), .fz (.int b), .un]
  simp only [↓D__law_some, ↓dSeq, ↓dNext, ↓dBreak, ↓dCont, ↓dNever, ↓dRet, ↓dRetN, ↓dDrop, ↓dSet, ↓dIf, ↓dAug, ↓dAsg, ↓dPar, ↓dVar, ↓dMove, ↓dC, ↓dFz, ↓dUp, ↓dNil, ↓dCons, ↓dTup, ↓dLst, ↓dBin, ↓dUn, ↓dChain, ↓dTest, ↓dAnd, ↓dOr, ↓dNot, ↓dAndV, ↓dOrV, ↓dNotV, ↓dIfE, ↓dgName, ↓dgNil, ↓dgCons, ↓dgTup, ↓dIt, ↓dRng1, ↓dRng2, ↓dZip, ↓dEnum, ↓u_for, ↓u_lc, ↓dYes, ↓u_call, ↓u_callF, ↓u_callIo, ↓dCB, ↓dCBF, ↓dBinS, ↓dLenS, ↓dSl, ↓dSlS, ↓dNo, ↓dPt, ↓dStL, ↓dApp, ↓dExt, ↓dJoin, ↓dRg1, ↓dRg2, ↓dTupRg, ↓dLstRg, ↓oSub, ↓oMulI, ↓oMul, ↓oFdiv, ↓oMod, ↓oPow, ↓oShr, ↓oXor, ↓oNeg, ↓oAdd, ↓oAug, ↓oLt, ↓oLe, ↓oGt, ↓oGe, ↓oI, ↓oIx, ↓oLen, ↓oInt, ↓oOrd, ↓oAbs, ↓oStL, ↓oIn, ↓oNin, ↓oInB, ↓isi_int, ↓isi_int_bl, ↓isi_int_str, ↓isi_int_tup, ↓isi_int_lst, ↓isi_str, ↓isi_str_int, ↓isi_tup, ↓isi_tup_int, ↓isi_tup_str, ↓isi_tup_lst, ↓isi_lst, ↓isi_lst_tup, ↓isi_lst_int, ↓isi_lst_str, ↓cv, ↓Cell.val, ↓Cell.up, ↓Cell.own, ↓lenD, ↓itemsOf, List.getElem?_cons_zero, List.getElem?_cons_succ, List.set_cons_zero, List.set_cons_succ, Option.bind_some, Option.isSome_some, List.length_cons, List.length_nil, true_and, and_true, ↓ixN_lit, ↓atI_lit, ↓reduceIte, Nat.reduceAdd, Nat.reduceLT, Nat.reduceSub, Nat.zero_add, Nat.reduceLeDiff, Nat.lt_add_one, Nat.zero_lt_succ, ↓oEq_int, ↓oNe_int, ↓oEq_str, ↓oNe_str, ↓oEq_bl, ↓oNe_bl, decide_eq_true_eq, Bool.false_eq_true, ↓u_while, ↓ownAt, List.all_cons, List.all_nil, Bool.and_true, List.getD_cons_zero, List.getD_cons_succ, Bool.not_false, ↓oLe_sign]
  refine ⟨rfl, onM (h, b + 1) rfl ⟨ok, by show 1 ≤ b + 1; omega, by show b + 1 < 1073741824; omega⟩ ?_⟩
  rintro r os ⟨i, h3, rfl, i0, i1, rfl, ok3⟩
  have i1 : i < b + 1 := i1
  simp only [ioB, wipeE, fr_take, ↓dSeq, ↓dNext, ↓dBreak, ↓dCont, ↓dNever, ↓dRet, ↓dRetN, ↓dDrop, ↓dSet, ↓dIf, ↓dAug, ↓dAsg, ↓dPar, ↓dVar, ↓dMove, ↓dC, ↓dFz, ↓dUp, ↓dNil, ↓dCons, ↓dTup, ↓dLst, ↓dBin, ↓dUn, ↓dChain, ↓dTest, ↓dAnd, ↓dOr, ↓dNot, ↓dAndV, ↓dOrV, ↓dNotV, ↓dIfE, ↓dgName, ↓dgNil, ↓dgCons, ↓dgTup, ↓dIt, ↓dRng1, ↓dRng2, ↓dZip, ↓dEnum, ↓u_for, ↓u_lc, ↓dYes, ↓u_call, ↓u_callF, ↓u_callIo, ↓dCB, ↓dCBF, ↓dBinS, ↓dLenS, ↓dSl, ↓dSlS, ↓dNo, ↓dPt, ↓dStL, ↓dApp, ↓dExt, ↓dJoin, ↓dRg1, ↓dRg2, ↓dTupRg, ↓dLstRg, ↓oSub, ↓oMulI, ↓oMul, ↓oFdiv, ↓oMod, ↓oPow, ↓oShr, ↓oXor, ↓oNeg, ↓oAdd, ↓oAug, ↓oLt, ↓oLe, ↓oGt, ↓oGe, ↓oI, ↓oIx, ↓oLen, ↓oInt, ↓oOrd, ↓oAbs, ↓oStL, ↓oIn, ↓oNin, ↓oInB, ↓isi_int, ↓isi_int_bl, ↓isi_int_str, ↓isi_int_tup, ↓isi_int_lst, ↓isi_str, ↓isi_str_int, ↓isi_tup, ↓isi_tup_int, ↓isi_tup_str, ↓isi_tup_lst, ↓isi_lst, ↓isi_lst_tup, ↓isi_lst_int, ↓isi_lst_str, ↓cv, ↓Cell.val, ↓Cell.up, ↓Cell.own, ↓lenD, ↓itemsOf, List.getElem?_cons_zero, List.getElem?_cons_succ, List.set_cons_zero, List.set_cons_succ, Option.bind_some, Option.isSome_some, List.length_cons, List.length_nil, true_and, and_true, ↓ixN_lit, ↓atI_lit, ↓reduceIte, Nat.reduceAdd, Nat.reduceLT, Nat.reduceSub, Nat.zero_add, Nat.reduceLeDiff, Nat.lt_add_one, Nat.zero_lt_succ, ↓oEq_int, ↓oNe_int, ↓oEq_str, ↓oNe_str, ↓oEq_bl, ↓oNe_bl, decide_eq_true_eq, Bool.false_eq_true, ↓u_while, ↓ownAt, List.all_cons, List.all_nil, Bool.and_true, List.getD_cons_zero, List.getD_cons_succ, Bool.not_false, ↓oLe_sign]
  refine ⟨by omega, by omega, lcB_of (lcW_inv (fun rest acc ρ => ∃ (h4 : Hand) (ws : List (List Nat)) (x : Cell), h4.Ok ∧ (∀ w ∈ ws, w ∈ ms) ∧ ws.length + rest.length = i.toNat ∧ acc = sl ws ∧ ρ = [.io h4.d, .fz (.lst (sl ms)), .fz (.int b), x]) ?_ ?_ _ _ _ ⟨h3, [], .un, ok3, by simp, by rw [rangeD_length]; simp, rfl, rfl⟩)⟩
  · rintro x xs acc ρ kT kF ⟨h4, ws, x5, ok4, hw, hl, rfl, rfl⟩ hT hF
    simp only [wipeE, ↓dSeq, ↓dNext, ↓dBreak, ↓dCont, ↓dNever, ↓dRet, ↓dRetN, ↓dDrop, ↓dSet, ↓dIf, ↓dAug, ↓dAsg, ↓dPar, ↓dVar, ↓dMove, ↓dC, ↓dFz, ↓dUp, ↓dNil, ↓dCons, ↓dTup, ↓dLst, ↓dBin, ↓dUn, ↓dChain, ↓dTest, ↓dAnd, ↓dOr, ↓dNot, ↓dAndV, ↓dOrV, ↓dNotV, ↓dIfE, ↓dgName, ↓dgNil, ↓dgCons, ↓dgTup, ↓dIt, ↓dRng1, ↓dRng2, ↓dZip, ↓dEnum, ↓u_for, ↓u_lc, ↓dYes, ↓u_call, ↓u_callF, ↓u_callIo, ↓dCB, ↓dCBF, ↓dBinS, ↓dLenS, ↓dSl, ↓dSlS, ↓dNo, ↓dPt, ↓dStL, ↓dApp, ↓dExt, ↓dJoin, ↓dRg1, ↓dRg2, ↓dTupRg, ↓dLstRg, ↓oSub, ↓oMulI, ↓oMul, ↓oFdiv, ↓oMod, ↓oPow, ↓oShr, ↓oXor, ↓oNeg, ↓oAdd, ↓oAug, ↓oLt, ↓oLe, ↓oGt, ↓oGe, ↓oI, ↓oIx, ↓oLen, ↓oInt, ↓oOrd, ↓oAbs, ↓oStL, ↓oIn, ↓oNin, ↓oInB, ↓isi_int, ↓isi_int_bl, ↓isi_int_str, ↓isi_int_tup, ↓isi_int_lst, ↓isi_str, ↓isi_str_int, ↓isi_tup, ↓isi_tup_int, ↓isi_tup_str, ↓isi_tup_lst, ↓isi_lst, ↓isi_lst_tup, ↓isi_lst_int, ↓isi_lst_str, ↓cv, ↓Cell.val, ↓Cell.up, ↓Cell.own, ↓lenD, ↓itemsOf, List.getElem?_cons_zero, List.getElem?_cons_succ, List.set_cons_zero, List.set_cons_succ, Option.bind_some, Option.isSome_some, List.length_cons, List.length_nil, true_and, and_true, ↓ixN_lit, ↓atI_lit, ↓reduceIte, Nat.reduceAdd, Nat.reduceLT, Nat.reduceSub, Nat.zero_add, Nat.reduceLeDiff, Nat.lt_add_one, Nat.zero_lt_succ, ↓oEq_int, ↓oNe_int, ↓oEq_str, ↓oNe_str, ↓oEq_bl, ↓oNe_bl, decide_eq_true_eq, Bool.false_eq_true, ↓u_while, ↓ownAt, List.all_cons, List.all_nil, Bool.and_true, List.getD_cons_zero, List.getD_cons_succ, Bool.not_false, ↓oLe_sign]
    refine ⟨rfl, onM (h4, sl ms) rfl ⟨ok4, by show 1 ≤ (sl ms).length; rw [sl_length]; exact mn.2.1, by show (sl ms).length < 1000000; rw [sl_length]; have := mn.2.2; omega⟩ ?_⟩
    rintro r os ⟨h5, ok5, hr, rfl⟩
    obtain ⟨w, hwm, rfl⟩ := List.mem_map.mp hr
    simp only [ioB, wipeE, fr_pick, ↓dSeq, ↓dNext, ↓dBreak, ↓dCont, ↓dNever, ↓dRet, ↓dRetN, ↓dDrop, ↓dSet, ↓dIf, ↓dAug, ↓dAsg, ↓dPar, ↓dVar, ↓dMove, ↓dC, ↓dFz, ↓dUp, ↓dNil, ↓dCons, ↓dTup, ↓dLst, ↓dBin, ↓dUn, ↓dChain, ↓dTest, ↓dAnd, ↓dOr, ↓dNot, ↓dAndV, ↓dOrV, ↓dNotV, ↓dIfE, ↓dgName, ↓dgNil, ↓dgCons, ↓dgTup, ↓dIt, ↓dRng1, ↓dRng2, ↓dZip, ↓dEnum, ↓u_for, ↓u_lc, ↓dYes, ↓u_call, ↓u_callF, ↓u_callIo, ↓dCB, ↓dCBF, ↓dBinS, ↓dLenS, ↓dSl, ↓dSlS, ↓dNo, ↓dPt, ↓dStL, ↓dApp, ↓dExt, ↓dJoin, ↓dRg1, ↓dRg2, ↓dTupRg, ↓dLstRg, ↓oSub, ↓oMulI, ↓oMul, ↓oFdiv, ↓oMod, ↓oPow, ↓oShr, ↓oXor, ↓oNeg, ↓oAdd, ↓oAug, ↓oLt, ↓oLe, ↓oGt, ↓oGe, ↓oI, ↓oIx, ↓oLen, ↓oInt, ↓oOrd, ↓oAbs, ↓oStL, ↓oIn, ↓oNin, ↓oInB, ↓isi_int, ↓isi_int_bl, ↓isi_int_str, ↓isi_int_tup, ↓isi_int_lst, ↓isi_str, ↓isi_str_int, ↓isi_tup, ↓isi_tup_int, ↓isi_tup_str, ↓isi_tup_lst, ↓isi_lst, ↓isi_lst_tup, ↓isi_lst_int, ↓isi_lst_str, ↓cv, ↓Cell.val, ↓Cell.up, ↓Cell.own, ↓lenD, ↓itemsOf, List.getElem?_cons_zero, List.getElem?_cons_succ, List.set_cons_zero, List.set_cons_succ, Option.bind_some, Option.isSome_some, List.length_cons, List.length_nil, true_and, and_true, ↓ixN_lit, ↓atI_lit, ↓reduceIte, Nat.reduceAdd, Nat.reduceLT, Nat.reduceSub, Nat.zero_add, Nat.reduceLeDiff, Nat.lt_add_one, Nat.zero_lt_succ, ↓oEq_int, ↓oNe_int, ↓oEq_str, ↓oNe_str, ↓oEq_bl, ↓oNe_bl, decide_eq_true_eq, Bool.false_eq_true, ↓u_while, ↓ownAt, List.all_cons, List.all_nil, Bool.and_true, List.getD_cons_zero, List.getD_cons_succ, Bool.not_false, ↓oLe_sign]
    refine hT _ _ ⟨h5, ws ++ [w], _, ok5, fun z hz => ?_, ?_, by unfold sl; rw [List.map_append] <;> rfl, rfl⟩
    · rcases List.mem_append.mp hz with z1 | z1
      · exact hw z z1
      · rw [List.mem_singleton.mp z1]; exact hwm
    · rw [List.length_append, ← hl]; simp; omega
  · rintro acc ρ ⟨h4, ws, x5, ok4, hw, hl, rfl, rfl⟩
    have hl' : ws.length = i.toNat := by simpa using hl
    simp only [restE, ↓dSeq, ↓dNext, ↓dBreak, ↓dCont, ↓dNever, ↓dRet, ↓dRetN, ↓dDrop, ↓dSet, ↓dIf, ↓dAug, ↓dAsg, ↓dPar, ↓dVar, ↓dMove, ↓dC, ↓dFz, ↓dUp, ↓dNil, ↓dCons, ↓dTup, ↓dLst, ↓dBin, ↓dUn, ↓dChain, ↓dTest, ↓dAnd, ↓dOr, ↓dNot, ↓dAndV, ↓dOrV, ↓dNotV, ↓dIfE, ↓dgName, ↓dgNil, ↓dgCons, ↓dgTup, ↓dIt, ↓dRng1, ↓dRng2, ↓dZip, ↓dEnum, ↓u_for, ↓u_lc, ↓dYes, ↓u_call, ↓u_callF, ↓u_callIo, ↓dCB, ↓dCBF, ↓dBinS, ↓dLenS, ↓dSl, ↓dSlS, ↓dNo, ↓dPt, ↓dStL, ↓dApp, ↓dExt, ↓dJoin, ↓dRg1, ↓dRg2, ↓dTupRg, ↓dLstRg, ↓oSub, ↓oMulI, ↓oMul, ↓oFdiv, ↓oMod, ↓oPow, ↓oShr, ↓oXor, ↓oNeg, ↓oAdd, ↓oAug, ↓oLt, ↓oLe, ↓oGt, ↓oGe, ↓oI, ↓oIx, ↓oLen, ↓oInt, ↓oOrd, ↓oAbs, ↓oStL, ↓oIn, ↓oNin, ↓oInB, ↓isi_int, ↓isi_int_bl, ↓isi_int_str, ↓isi_int_tup, ↓isi_int_lst, ↓isi_str, ↓isi_str_int, ↓isi_tup, ↓isi_tup_int, ↓isi_tup_str, ↓isi_tup_lst, ↓isi_lst, ↓isi_lst_tup, ↓isi_lst_int, ↓isi_lst_str, ↓cv, ↓Cell.val, ↓Cell.up, ↓Cell.own, ↓lenD, ↓itemsOf, List.getElem?_cons_zero, List.getElem?_cons_succ, List.set_cons_zero, List.set_cons_succ, Option.bind_some, Option.isSome_some, List.length_cons, List.length_nil, true_and, and_true, ↓ixN_lit, ↓atI_lit, ↓reduceIte, Nat.reduceAdd, Nat.reduceLT, Nat.reduceSub, Nat.zero_add, Nat.reduceLeDiff, Nat.lt_add_one, Nat.zero_lt_succ, ↓oEq_int, ↓oNe_int, ↓oEq_str, ↓oNe_str, ↓oEq_bl, ↓oNe_bl, decide_eq_true_eq, Bool.false_eq_true, ↓u_while, ↓ownAt, List.all_cons, List.all_nil, Bool.and_true, List.getD_cons_zero, List.getD_cons_succ, Bool.not_false, ↓oLe_sign, oTuple]
    exact ⟨rfl, post _ _ ⟨h4, ws, ok4, hw, by show (ws.length : Int) ≤ b; omega, rfl, rfl⟩⟩
end DL


namespace DL
open PySem PySem.Spec PyProof.Rows L2
theorem fr_levels : S_levels.fresh = true := rfl
def hand0 (ns : List Int) : Hand := ⟨ns, 0, 0, 1, 0⟩
theorem hand0_ok (ns : List Int) : (hand0 ns).Ok := ⟨by show (0 : Int) ≤ 0; decide, by show (0 : Int) ≤ 0; decide, by show (0 : Int) ≤ 1; decide, by show (1 : Int) < 2147483648; decide⟩
theorem sl_append (a b : List (List Nat)) : sl a ++ sl b = sl (a ++ b) := by simp [sl]
theorem nm_mid {a m b : List (List Nat)} {i : Nat} (h : i < m.length) : nm (a ++ m ++ b) (a.length + i) = nm m i := by
  unfold nm
  rw [List.append_assoc, List.getD_eq_getElem?_getD, List.getD_eq_getElem?_getD, List.getElem?_append_right (by omega), List.getElem?_append_left (by omega), Nat.add_sub_cancel_left]
theorem near_rows {a b m c d : List (List Nat)} {at_ : Nat} (h1 : 7 ≤ at_) (h2 : at_ + 2 < m.length) : Near (a ++ m ++ b) (c ++ m ++ d) (a.length + at_) (c.length + at_) := by
  refine ⟨by omega, by omega, by simp; omega, by simp; omega, fun e he => ?_⟩
  rw [show a.length + at_ - 7 + e = a.length + (at_ - 7 + e) by omega, show c.length + at_ - 7 + e = c.length + (at_ - 7 + e) by omega, nm_mid (by omega), nm_mid (by omega)]
theorem ones_flat : ∀ {ws : List (List Nat)}, (∀ w ∈ ws, w.length = 1) → ws.flatten.map (fun c => [c]) = ws
  | [], _ => rfl
  | w :: ws, h => by
    have ih := ones_flat (ws := ws) fun x hx => h x (List.mem_cons_of_mem _ hx)
    have h1 := h w (List.mem_cons_self ..)
    match w, h1 with
    | [c], _ =>
      show [c] :: (ws.flatten.map fun c => [c]) = [c] :: ws
      rw [ih]
theorem ones_len {ws : List (List Nat)} (h : ∀ w ∈ ws, w.length = 1) : ws.flatten.length = ws.length := by
  have := congrArg List.length (ones_flat h)
  rw [List.length_map] at this
  exact this
theorem signs_flat {ws : List (List Nat)} (h : ∀ w ∈ ws, Signs w) : Signs ws.flatten := fun c hc => by
  obtain ⟨w, hw, hc⟩ := List.mem_flatten.mp hc
  exact h w hw c hc
theorem sum_len_ones : ∀ {ws : List (List Nat)}, (∀ w ∈ ws, w.length = 1) → (ws.map fun (x : List Nat) => x.length).sum = ws.length
  | [], _ => rfl
  | w :: ws, h => by
    have ih := sum_len_ones (ws := ws) fun x hx => h x (List.mem_cons_of_mem _ hx)
    rw [List.map_cons, List.sum_cons, ih, h w (List.mem_cons_self ..), List.length_cons]
    omega
theorem strsOf_sl (xs : List (List Nat)) : strsOf (sl xs) = some xs := strsOf_str xs
abbrev Rw := List (List (List Nat) × List (List Nat))
def rowsD (m : List (List Nat)) (rs : Rw) : List D := rs.map fun p => .tup (sl (p.1 ++ m ++ p.2))
def shiftsD (rs : Rw) : List D := rs.map fun p => .int (p.1.length : Nat)
/-- law: slots 0 _law_script, 1 _law_hand_here, 2 _law_menu_here, 3 _law_middle, 4 _law_rows, 5 _law_shifts, 6 _law_k, 7 _law_ahead, 8 _law_told, 9 _law_at, 10 _law_found, 11 _law_name -/
def D_law : DTS := (dSeq (dSet 2 (dUp (dFz (dCallIo S__law_menu 1 dNil)))) (dSeq (dSet 3 (dUp (dCB oTuple (dCons (dFz (dLc (dRng1 (dCons (dBin oAdd (dC (.int 10)) (dFz (dCallIo S__law_take 1 (dCons (dC (.int 6)) dNil)))) dNil)) (dgName 6) dYes (dFz (dCallIo S__law_pick 1 (dCons (dVar 2) dNil))) [6])) dNil)))) (dSeq (dSet 4 (dLst dNil)) (dSeq (dSet 5 (dLst dNil)) (dSeq (dFor (dRng1 (dCons (dC (.int 2)) dNil)) (dgName 6) (dSeq (dSet 7 (dUp (dFz (dCallIo S__law_some 1 (dCons (dVar 2) (dCons (dC (.int 20)) dNil)))))) (dSeq (dApp 4 (dBin oAdd (dBin oAdd (dVar 7) (dVar 3)) (dFz (dCallIo S__law_some 1 (dCons (dVar 2) (dCons (dC (.int 20)) dNil)))))) (dApp 5 (dLenS 7))))) (dSeq (dSet 8 (dUp (dFz (dLst (dCons (dCall S_groups (dCons (dBinS 4 oIx (dC (.int 0))) dNil)) (dCons (dCall S_groups (dCons (dBinS 4 oIx (dC (.int 1))) dNil)) dNil)))))) (dSeq (dFor (dRng2 (dCons (dC (.int 7)) (dCons (dBin oSub (dLenS 3) (dC (.int 2))) dNil))) (dgName 9) (dIf (dTest (dBin oNe (dBin oIn (dBin oAdd (dBinS 5 oIx (dC (.int 0))) (dVar 9)) (dBinS 8 oIx (dC (.int 0)))) (dBin oIn (dBin oAdd (dBinS 5 oIx (dC (.int 1))) (dVar 9)) (dBinS 8 oIx (dC (.int 1)))))) (dRet (dUp (dC (.bl false)))) dNext)) (dSeq (dIf (dTest (dBin oEq (dCB oLen (dCons (dFz (dLc (dIt (dVar 2)) (dgName 11) (dTest (dBin oGt (dLenS 11) (dC (.int 1)))) (dVar 11) [11])) dNil)) (dC (.int 0)))) (dFor (dRng1 (dCons (dC (.int 2)) dNil)) (dgName 6) (dSeq (dSet 10 (dUp (dFz (dCallF S_levels (dCons (dJoin (dC (.str [])) (dBinS 4 oIx (dVar 6))) dNil))))) (dIf (dNot (dTest (dCall S__law_same (dCons (dBinS 10 oIx (dC (.int 1))) (dCons (dBinS 8 oIx (dVar 6)) dNil))))) (dRet (dUp (dC (.bl false)))) dNext))) dNext) (dRet (dUp (dC (.bl true))))))))))))
theorem sem_law : ∀ ns, ns.length ≤ 63 → D_law lawEnds (.un :: .ow (hdA ns) :: List.replicate (12 - 2) .un) := by
  intro ns _
  show D_law lawEnds [.un, .ow (hand0 ns).d, .un, .un, .un, .un, .un, .un, .un, .un, .un, .un]
  unfold D_law
  -- the menu
  refine seq_gen fun k hk => ?_
  simp only [↓dSeq, ↓dNext, ↓dBreak, ↓dCont, ↓dNever, ↓dRet, ↓dRetN, ↓dDrop, ↓dSet, ↓dIf, ↓dAug, ↓dAsg, ↓dPar, ↓dVar, ↓dMove, ↓dC, ↓dFz, ↓dUp, ↓dNil, ↓dCons, ↓dTup, ↓dLst, ↓dBin, ↓dUn, ↓dChain, ↓dTest, ↓dAnd, ↓dOr, ↓dNot, ↓dAndV, ↓dOrV, ↓dNotV, ↓dIfE, ↓dgName, ↓dgNil, ↓dgCons, ↓dgTup, ↓dIt, ↓dRng1, ↓dRng2, ↓dZip, ↓dEnum, ↓u_for, ↓u_lc, ↓dYes, ↓u_call, ↓u_callF, ↓u_callIo, ↓dCB, ↓dCBF, ↓dBinS, ↓dLenS, ↓dSl, ↓dSlS, ↓dNo, ↓dPt, ↓dStL, ↓dApp, ↓dExt, ↓dJoin, ↓dRg1, ↓dRg2, ↓dTupRg, ↓dLstRg, ↓oSub, ↓oMulI, ↓oMul, ↓oFdiv, ↓oMod, ↓oPow, ↓oShr, ↓oXor, ↓oNeg, ↓oAdd, ↓oAug, ↓oLt, ↓oLe, ↓oGt, ↓oGe, ↓oI, ↓oIx, ↓oLen, ↓oInt, ↓oOrd, ↓oAbs, ↓oStL, ↓oIn, ↓oNin, ↓oInB, ↓isi_int, ↓isi_int_bl, ↓isi_int_str, ↓isi_int_tup, ↓isi_int_lst, ↓isi_str, ↓isi_str_int, ↓isi_tup, ↓isi_tup_int, ↓isi_tup_str, ↓isi_tup_lst, ↓isi_lst, ↓isi_lst_tup, ↓isi_lst_int, ↓isi_lst_str, ↓cv, ↓Cell.val, ↓Cell.up, ↓Cell.own, ↓lenD, ↓itemsOf, List.getElem?_cons_zero, List.getElem?_cons_succ, List.set_cons_zero, List.set_cons_succ, Option.bind_some, Option.isSome_some, List.length_cons, List.length_nil, true_and, and_true, ↓ixN_lit, ↓atI_lit, ↓reduceIte, Nat.reduceAdd, Nat.reduceLT, Nat.reduceSub, Nat.zero_add, Nat.reduceLeDiff, Nat.lt_add_one, Nat.zero_lt_succ, ↓oEq_int, ↓oNe_int, ↓oEq_str, ↓oNe_str, ↓oEq_bl, ↓oNe_bl, decide_eq_true_eq, Bool.false_eq_true, ↓u_while, ↓ownAt, List.all_cons, List.all_nil, Bool.and_true, List.getD_cons_zero, List.getD_cons_succ, Bool.not_false, ↓oLe_sign]
  refine ⟨rfl, onM (hand0 ns) rfl (hand0_ok ns) ?_⟩
  rintro r os ⟨h1, ms, ok1, mn, rfl, rfl⟩
  simp only [ioB, wipeE, fr_menu, ↓dSeq, ↓dNext, ↓dBreak, ↓dCont, ↓dNever, ↓dRet, ↓dRetN, ↓dDrop, ↓dSet, ↓dIf, ↓dAug, ↓dAsg, ↓dPar, ↓dVar, ↓dMove, ↓dC, ↓dFz, ↓dUp, ↓dNil, ↓dCons, ↓dTup, ↓dLst, ↓dBin, ↓dUn, ↓dChain, ↓dTest, ↓dAnd, ↓dOr, ↓dNot, ↓dAndV, ↓dOrV, ↓dNotV, ↓dIfE, ↓dgName, ↓dgNil, ↓dgCons, ↓dgTup, ↓dIt, ↓dRng1, ↓dRng2, ↓dZip, ↓dEnum, ↓u_for, ↓u_lc, ↓dYes, ↓u_call, ↓u_callF, ↓u_callIo, ↓dCB, ↓dCBF, ↓dBinS, ↓dLenS, ↓dSl, ↓dSlS, ↓dNo, ↓dPt, ↓dStL, ↓dApp, ↓dExt, ↓dJoin, ↓dRg1, ↓dRg2, ↓dTupRg, ↓dLstRg, ↓oSub, ↓oMulI, ↓oMul, ↓oFdiv, ↓oMod, ↓oPow, ↓oShr, ↓oXor, ↓oNeg, ↓oAdd, ↓oAug, ↓oLt, ↓oLe, ↓oGt, ↓oGe, ↓oI, ↓oIx, ↓oLen, ↓oInt, ↓oOrd, ↓oAbs, ↓oStL, ↓oIn, ↓oNin, ↓oInB, ↓isi_int, ↓isi_int_bl, ↓isi_int_str, ↓isi_int_tup, ↓isi_int_lst, ↓isi_str, ↓isi_str_int, ↓isi_tup, ↓isi_tup_int, ↓isi_tup_str, ↓isi_tup_lst, ↓isi_lst, ↓isi_lst_tup, ↓isi_lst_int, ↓isi_lst_str, ↓cv, ↓Cell.val, ↓Cell.up, ↓Cell.own, ↓lenD, ↓itemsOf, List.getElem?_cons_zero, List.getElem?_cons_succ, List.set_cons_zero, List.set_cons_succ, Option.bind_some, Option.isSome_some, List.length_cons, List.length_nil, true_and, and_true, ↓ixN_lit, ↓atI_lit, ↓reduceIte, Nat.reduceAdd, Nat.reduceLT, Nat.reduceSub, Nat.zero_add, Nat.reduceLeDiff, Nat.lt_add_one, Nat.zero_lt_succ, ↓oEq_int, ↓oNe_int, ↓oEq_str, ↓oNe_str, ↓oEq_bl, ↓oNe_bl, decide_eq_true_eq, Bool.false_eq_true, ↓u_while, ↓ownAt, List.all_cons, List.all_nil, Bool.and_true, List.getD_cons_zero, List.getD_cons_succ, Bool.not_false, ↓oLe_sign]
  subst hk
  -- the middle
  refine seq_gen fun k hk => ?_
  simp only [↓dSeq, ↓dNext, ↓dBreak, ↓dCont, ↓dNever, ↓dRet, ↓dRetN, ↓dDrop, ↓dSet, ↓dIf, ↓dAug, ↓dAsg, ↓dPar, ↓dVar, ↓dMove, ↓dC, ↓dFz, ↓dUp, ↓dNil, ↓dCons, ↓dTup, ↓dLst, ↓dBin, ↓dUn, ↓dChain, ↓dTest, ↓dAnd, ↓dOr, ↓dNot, ↓dAndV, ↓dOrV, ↓dNotV, ↓dIfE, ↓dgName, ↓dgNil, ↓dgCons, ↓dgTup, ↓dIt, ↓dRng1, ↓dRng2, ↓dZip, ↓dEnum, ↓u_for, ↓u_lc, ↓dYes, ↓u_call, ↓u_callF, ↓u_callIo, ↓dCB, ↓dCBF, ↓dBinS, ↓dLenS, ↓dSl, ↓dSlS, ↓dNo, ↓dPt, ↓dStL, ↓dApp, ↓dExt, ↓dJoin, ↓dRg1, ↓dRg2, ↓dTupRg, ↓dLstRg, ↓oSub, ↓oMulI, ↓oMul, ↓oFdiv, ↓oMod, ↓oPow, ↓oShr, ↓oXor, ↓oNeg, ↓oAdd, ↓oAug, ↓oLt, ↓oLe, ↓oGt, ↓oGe, ↓oI, ↓oIx, ↓oLen, ↓oInt, ↓oOrd, ↓oAbs, ↓oStL, ↓oIn, ↓oNin, ↓oInB, ↓isi_int, ↓isi_int_bl, ↓isi_int_str, ↓isi_int_tup, ↓isi_int_lst, ↓isi_str, ↓isi_str_int, ↓isi_tup, ↓isi_tup_int, ↓isi_tup_str, ↓isi_tup_lst, ↓isi_lst, ↓isi_lst_tup, ↓isi_lst_int, ↓isi_lst_str, ↓cv, ↓Cell.val, ↓Cell.up, ↓Cell.own, ↓lenD, ↓itemsOf, List.getElem?_cons_zero, List.getElem?_cons_succ, List.set_cons_zero, List.set_cons_succ, Option.bind_some, Option.isSome_some, List.length_cons, List.length_nil, true_and, and_true, ↓ixN_lit, ↓atI_lit, ↓reduceIte, Nat.reduceAdd, Nat.reduceLT, Nat.reduceSub, Nat.zero_add, Nat.reduceLeDiff, Nat.lt_add_one, Nat.zero_lt_succ, ↓oEq_int, ↓oNe_int, ↓oEq_str, ↓oNe_str, ↓oEq_bl, ↓oNe_bl, decide_eq_true_eq, Bool.false_eq_true, ↓u_while, ↓ownAt, List.all_cons, List.all_nil, Bool.and_true, List.getD_cons_zero, List.getD_cons_succ, Bool.not_false, ↓oLe_sign]
  refine ⟨rfl, onM (h1, 6) rfl ⟨ok1, by show (1 : Int) ≤ 6; decide, by show (6 : Int) < 1073741824; decide⟩ ?_⟩
  rintro r os ⟨j, h2, rfl, j0, j1, rfl, ok2⟩
  have j1 : j < 6 := j1
  simp only [ioB, wipeE, fr_take, ↓dSeq, ↓dNext, ↓dBreak, ↓dCont, ↓dNever, ↓dRet, ↓dRetN, ↓dDrop, ↓dSet, ↓dIf, ↓dAug, ↓dAsg, ↓dPar, ↓dVar, ↓dMove, ↓dC, ↓dFz, ↓dUp, ↓dNil, ↓dCons, ↓dTup, ↓dLst, ↓dBin, ↓dUn, ↓dChain, ↓dTest, ↓dAnd, ↓dOr, ↓dNot, ↓dAndV, ↓dOrV, ↓dNotV, ↓dIfE, ↓dgName, ↓dgNil, ↓dgCons, ↓dgTup, ↓dIt, ↓dRng1, ↓dRng2, ↓dZip, ↓dEnum, ↓u_for, ↓u_lc, ↓dYes, ↓u_call, ↓u_callF, ↓u_callIo, ↓dCB, ↓dCBF, ↓dBinS, ↓dLenS, ↓dSl, ↓dSlS, ↓dNo, ↓dPt, ↓dStL, ↓dApp, ↓dExt, ↓dJoin, ↓dRg1, ↓dRg2, ↓dTupRg, ↓dLstRg, ↓oSub, ↓oMulI, ↓oMul, ↓oFdiv, ↓oMod, ↓oPow, ↓oShr, ↓oXor, ↓oNeg, ↓oAdd, ↓oAug, ↓oLt, ↓oLe, ↓oGt, ↓oGe, ↓oI, ↓oIx, ↓oLen, ↓oInt, ↓oOrd, ↓oAbs, ↓oStL, ↓oIn, ↓oNin, ↓oInB, ↓isi_int, ↓isi_int_bl, ↓isi_int_str, ↓isi_int_tup, ↓isi_int_lst, ↓isi_str, ↓isi_str_int, ↓isi_tup, ↓isi_tup_int, ↓isi_tup_str, ↓isi_tup_lst, ↓isi_lst, ↓isi_lst_tup, ↓isi_lst_int, ↓isi_lst_str, ↓cv, ↓Cell.val, ↓Cell.up, ↓Cell.own, ↓lenD, ↓itemsOf, List.getElem?_cons_zero, List.getElem?_cons_succ, List.set_cons_zero, List.set_cons_succ, Option.bind_some, Option.isSome_some, List.length_cons, List.length_nil, true_and, and_true, ↓ixN_lit, ↓atI_lit, ↓reduceIte, Nat.reduceAdd, Nat.reduceLT, Nat.reduceSub, Nat.zero_add, Nat.reduceLeDiff, Nat.lt_add_one, Nat.zero_lt_succ, ↓oEq_int, ↓oNe_int, ↓oEq_str, ↓oNe_str, ↓oEq_bl, ↓oNe_bl, decide_eq_true_eq, Bool.false_eq_true, ↓u_while, ↓ownAt, List.all_cons, List.all_nil, Bool.and_true, List.getD_cons_zero, List.getD_cons_succ, Bool.not_false, ↓oLe_sign]
  refine ⟨by omega, by omega, lcB_of (lcW_inv (fun rest acc ρ => ∃ (h4 : Hand) (ws : List (List Nat)) (x : Cell), h4.Ok ∧ (∀ w ∈ ws, w ∈ ms) ∧ ws.length + rest.length = (10 + j).toNat ∧ acc = sl ws ∧ ρ = [.un, .ow h4.d, .fz (.lst (sl ms)), .un, .un, .un, x, .un, .un, .un, .un, .un]) ?_ ?_ _ _ _ ⟨h2, [], .un, ok2, by simp, by rw [rangeD_length]; simp, rfl, rfl⟩)⟩
  · rintro x xs acc ρ kT kF ⟨h4, ws, x5, ok4, hw, hl, rfl, rfl⟩ hT hF
    simp only [wipeE, ↓dSeq, ↓dNext, ↓dBreak, ↓dCont, ↓dNever, ↓dRet, ↓dRetN, ↓dDrop, ↓dSet, ↓dIf, ↓dAug, ↓dAsg, ↓dPar, ↓dVar, ↓dMove, ↓dC, ↓dFz, ↓dUp, ↓dNil, ↓dCons, ↓dTup, ↓dLst, ↓dBin, ↓dUn, ↓dChain, ↓dTest, ↓dAnd, ↓dOr, ↓dNot, ↓dAndV, ↓dOrV, ↓dNotV, ↓dIfE, ↓dgName, ↓dgNil, ↓dgCons, ↓dgTup, ↓dIt, ↓dRng1, ↓dRng2, ↓dZip, ↓dEnum, ↓u_for, ↓u_lc, ↓dYes, ↓u_call, ↓u_callF, ↓u_callIo, ↓dCB, ↓dCBF, ↓dBinS, ↓dLenS, ↓dSl, ↓dSlS, ↓dNo, ↓dPt, ↓dStL, ↓dApp, ↓dExt, ↓dJoin, ↓dRg1, ↓dRg2, ↓dTupRg, ↓dLstRg, ↓oSub, ↓oMulI, ↓oMul, ↓oFdiv, ↓oMod, ↓oPow, ↓oShr, ↓oXor, ↓oNeg, ↓oAdd, ↓oAug, ↓oLt, ↓oLe, ↓oGt, ↓oGe, ↓oI, ↓oIx, ↓oLen, ↓oInt, ↓oOrd, ↓oAbs, ↓oStL, ↓oIn, ↓oNin, ↓oInB, ↓isi_int, ↓isi_int_bl, ↓isi_int_str, ↓isi_int_tup, ↓isi_int_lst, ↓isi_str, ↓isi_str_int, ↓isi_tup, ↓isi_tup_int, ↓isi_tup_str, ↓isi_tup_lst, ↓isi_lst, ↓isi_lst_tup, ↓isi_lst_int, ↓isi_lst_str, ↓cv, ↓Cell.val, ↓Cell.up, ↓Cell.own, ↓lenD, ↓itemsOf, List.getElem?_cons_zero, List.getElem?_cons_succ, List.set_cons_zero, List.set_cons_succ, Option.bind_some, Option.isSome_some, List.length_cons, List.length_nil, true_and, and_true, ↓ixN_lit, ↓atI_lit, ↓reduceIte, Nat.reduceAdd, Nat.reduceLT, Nat.reduceSub, Nat.zero_add, Nat.reduceLeDiff, Nat.lt_add_one, Nat.zero_lt_succ, ↓oEq_int, ↓oNe_int, ↓oEq_str, ↓oNe_str, ↓oEq_bl, ↓oNe_bl, decide_eq_true_eq, Bool.false_eq_true, ↓u_while, ↓ownAt, List.all_cons, List.all_nil, Bool.and_true, List.getD_cons_zero, List.getD_cons_succ, Bool.not_false, ↓oLe_sign]
    refine ⟨rfl, onM (h4, sl ms) rfl ⟨ok4, by show 1 ≤ (sl ms).length; rw [sl_length]; exact mn.2.1, by show (sl ms).length < 1000000; rw [sl_length]; have := mn.2.2; omega⟩ ?_⟩
    rintro r os ⟨h5, ok5, hr, rfl⟩
    obtain ⟨w, hwm, rfl⟩ := List.mem_map.mp hr
    simp only [ioB, wipeE, fr_pick, ↓dSeq, ↓dNext, ↓dBreak, ↓dCont, ↓dNever, ↓dRet, ↓dRetN, ↓dDrop, ↓dSet, ↓dIf, ↓dAug, ↓dAsg, ↓dPar, ↓dVar, ↓dMove, ↓dC, ↓dFz, ↓dUp, ↓dNil, ↓dCons, ↓dTup, ↓dLst, ↓dBin, ↓dUn, ↓dChain, ↓dTest, ↓dAnd, ↓dOr, ↓dNot, ↓dAndV, ↓dOrV, ↓dNotV, ↓dIfE, ↓dgName, ↓dgNil, ↓dgCons, ↓dgTup, ↓dIt, ↓dRng1, ↓dRng2, ↓dZip, ↓dEnum, ↓u_for, ↓u_lc, ↓dYes, ↓u_call, ↓u_callF, ↓u_callIo, ↓dCB, ↓dCBF, ↓dBinS, ↓dLenS, ↓dSl, ↓dSlS, ↓dNo, ↓dPt, ↓dStL, ↓dApp, ↓dExt, ↓dJoin, ↓dRg1, ↓dRg2, ↓dTupRg, ↓dLstRg, ↓oSub, ↓oMulI, ↓oMul, ↓oFdiv, ↓oMod, ↓oPow, ↓oShr, ↓oXor, ↓oNeg, ↓oAdd, ↓oAug, ↓oLt, ↓oLe, ↓oGt, ↓oGe, ↓oI, ↓oIx, ↓oLen, ↓oInt, ↓oOrd, ↓oAbs, ↓oStL, ↓oIn, ↓oNin, ↓oInB, ↓isi_int, ↓isi_int_bl, ↓isi_int_str, ↓isi_int_tup, ↓isi_int_lst, ↓isi_str, ↓isi_str_int, ↓isi_tup, ↓isi_tup_int, ↓isi_tup_str, ↓isi_tup_lst, ↓isi_lst, ↓isi_lst_tup, ↓isi_lst_int, ↓isi_lst_str, ↓cv, ↓Cell.val, ↓Cell.up, ↓Cell.own, ↓lenD, ↓itemsOf, List.getElem?_cons_zero, List.getElem?_cons_succ, List.set_cons_zero, List.set_cons_succ, Option.bind_some, Option.isSome_some, List.length_cons, List.length_nil, true_and, and_true, ↓ixN_lit, ↓atI_lit, ↓reduceIte, Nat.reduceAdd, Nat.reduceLT, Nat.reduceSub, Nat.zero_add, Nat.reduceLeDiff, Nat.lt_add_one, Nat.zero_lt_succ, ↓oEq_int, ↓oNe_int, ↓oEq_str, ↓oNe_str, ↓oEq_bl, ↓oNe_bl, decide_eq_true_eq, Bool.false_eq_true, ↓u_while, ↓ownAt, List.all_cons, List.all_nil, Bool.and_true, List.getD_cons_zero, List.getD_cons_succ, Bool.not_false, ↓oLe_sign]
    refine hT _ _ ⟨h5, ws ++ [w], _, ok5, fun z hz => ?_, ?_, by unfold sl; rw [List.map_append] <;> rfl, rfl⟩
    · rcases List.mem_append.mp hz with z1 | z1
      · exact hw z z1
      · rw [List.mem_singleton.mp z1]; exact hwm
    · rw [List.length_append, ← hl]; simp; omega
  rintro acc ρ ⟨h3, md, x5, ok3, hmd, hml, rfl, rfl⟩
  have hml : md.length = (10 + j).toNat := by simpa using hml
  simp only [restE, ↓dSeq, ↓dNext, ↓dBreak, ↓dCont, ↓dNever, ↓dRet, ↓dRetN, ↓dDrop, ↓dSet, ↓dIf, ↓dAug, ↓dAsg, ↓dPar, ↓dVar, ↓dMove, ↓dC, ↓dFz, ↓dUp, ↓dNil, ↓dCons, ↓dTup, ↓dLst, ↓dBin, ↓dUn, ↓dChain, ↓dTest, ↓dAnd, ↓dOr, ↓dNot, ↓dAndV, ↓dOrV, ↓dNotV, ↓dIfE, ↓dgName, ↓dgNil, ↓dgCons, ↓dgTup, ↓dIt, ↓dRng1, ↓dRng2, ↓dZip, ↓dEnum, ↓u_for, ↓u_lc, ↓dYes, ↓u_call, ↓u_callF, ↓u_callIo, ↓dCB, ↓dCBF, ↓dBinS, ↓dLenS, ↓dSl, ↓dSlS, ↓dNo, ↓dPt, ↓dStL, ↓dApp, ↓dExt, ↓dJoin, ↓dRg1, ↓dRg2, ↓dTupRg, ↓dLstRg, ↓oSub, ↓oMulI, ↓oMul, ↓oFdiv, ↓oMod, ↓oPow, ↓oShr, ↓oXor, ↓oNeg, ↓oAdd, ↓oAug, ↓oLt, ↓oLe, ↓oGt, ↓oGe, ↓oI, ↓oIx, ↓oLen, ↓oInt, ↓oOrd, ↓oAbs, ↓oStL, ↓oIn, ↓oNin, ↓oInB, ↓isi_int, ↓isi_int_bl, ↓isi_int_str, ↓isi_int_tup, ↓isi_int_lst, ↓isi_str, ↓isi_str_int, ↓isi_tup, ↓isi_tup_int, ↓isi_tup_str, ↓isi_tup_lst, ↓isi_lst, ↓isi_lst_tup, ↓isi_lst_int, ↓isi_lst_str, ↓cv, ↓Cell.val, ↓Cell.up, ↓Cell.own, ↓lenD, ↓itemsOf, List.getElem?_cons_zero, List.getElem?_cons_succ, List.set_cons_zero, List.set_cons_succ, Option.bind_some, Option.isSome_some, List.length_cons, List.length_nil, true_and, and_true, ↓ixN_lit, ↓atI_lit, ↓reduceIte, Nat.reduceAdd, Nat.reduceLT, Nat.reduceSub, Nat.zero_add, Nat.reduceLeDiff, Nat.lt_add_one, Nat.zero_lt_succ, ↓oEq_int, ↓oNe_int, ↓oEq_str, ↓oNe_str, ↓oEq_bl, ↓oNe_bl, decide_eq_true_eq, Bool.false_eq_true, ↓u_while, ↓ownAt, List.all_cons, List.all_nil, Bool.and_true, List.getD_cons_zero, List.getD_cons_succ, Bool.not_false, ↓oLe_sign, oTuple]
  subst hk
  refine seq_gen fun k hk => ?_
  simp only [↓dSeq, ↓dNext, ↓dBreak, ↓dCont, ↓dNever, ↓dRet, ↓dRetN, ↓dDrop, ↓dSet, ↓dIf, ↓dAug, ↓dAsg, ↓dPar, ↓dVar, ↓dMove, ↓dC, ↓dFz, ↓dUp, ↓dNil, ↓dCons, ↓dTup, ↓dLst, ↓dBin, ↓dUn, ↓dChain, ↓dTest, ↓dAnd, ↓dOr, ↓dNot, ↓dAndV, ↓dOrV, ↓dNotV, ↓dIfE, ↓dgName, ↓dgNil, ↓dgCons, ↓dgTup, ↓dIt, ↓dRng1, ↓dRng2, ↓dZip, ↓dEnum, ↓u_for, ↓u_lc, ↓dYes, ↓u_call, ↓u_callF, ↓u_callIo, ↓dCB, ↓dCBF, ↓dBinS, ↓dLenS, ↓dSl, ↓dSlS, ↓dNo, ↓dPt, ↓dStL, ↓dApp, ↓dExt, ↓dJoin, ↓dRg1, ↓dRg2, ↓dTupRg, ↓dLstRg, ↓oSub, ↓oMulI, ↓oMul, ↓oFdiv, ↓oMod, ↓oPow, ↓oShr, ↓oXor, ↓oNeg, ↓oAdd, ↓oAug, ↓oLt, ↓oLe, ↓oGt, ↓oGe, ↓oI, ↓oIx, ↓oLen, ↓oInt, ↓oOrd, ↓oAbs, ↓oStL, ↓oIn, ↓oNin, ↓oInB, ↓isi_int, ↓isi_int_bl, ↓isi_int_str, ↓isi_int_tup, ↓isi_int_lst, ↓isi_str, ↓isi_str_int, ↓isi_tup, ↓isi_tup_int, ↓isi_tup_str, ↓isi_tup_lst, ↓isi_lst, ↓isi_lst_tup, ↓isi_lst_int, ↓isi_lst_str, ↓cv, ↓Cell.val, ↓Cell.up, ↓Cell.own, ↓lenD, ↓itemsOf, List.getElem?_cons_zero, List.getElem?_cons_succ, List.set_cons_zero, List.set_cons_succ, Option.bind_some, Option.isSome_some, List.length_cons, List.length_nil, true_and, and_true, ↓ixN_lit, ↓atI_lit, ↓reduceIte, Nat.reduceAdd, Nat.reduceLT, Nat.reduceSub, Nat.zero_add, Nat.reduceLeDiff, Nat.lt_add_one, Nat.zero_lt_succ, ↓oEq_int, ↓oNe_int, ↓oEq_str, ↓oNe_str, ↓oEq_bl, ↓oNe_bl, decide_eq_true_eq, Bool.false_eq_true, ↓u_while, ↓ownAt, List.all_cons, List.all_nil, Bool.and_true, List.getD_cons_zero, List.getD_cons_succ, Bool.not_false, ↓oLe_sign]
  refine ⟨by decide, ?_⟩
  subst hk
  refine seq_gen fun k hk => ?_
  simp only [↓dSeq, ↓dNext, ↓dBreak, ↓dCont, ↓dNever, ↓dRet, ↓dRetN, ↓dDrop, ↓dSet, ↓dIf, ↓dAug, ↓dAsg, ↓dPar, ↓dVar, ↓dMove, ↓dC, ↓dFz, ↓dUp, ↓dNil, ↓dCons, ↓dTup, ↓dLst, ↓dBin, ↓dUn, ↓dChain, ↓dTest, ↓dAnd, ↓dOr, ↓dNot, ↓dAndV, ↓dOrV, ↓dNotV, ↓dIfE, ↓dgName, ↓dgNil, ↓dgCons, ↓dgTup, ↓dIt, ↓dRng1, ↓dRng2, ↓dZip, ↓dEnum, ↓u_for, ↓u_lc, ↓dYes, ↓u_call, ↓u_callF, ↓u_callIo, ↓dCB, ↓dCBF, ↓dBinS, ↓dLenS, ↓dSl, ↓dSlS, ↓dNo, ↓dPt, ↓dStL, ↓dApp, ↓dExt, ↓dJoin, ↓dRg1, ↓dRg2, ↓dTupRg, ↓dLstRg, ↓oSub, ↓oMulI, ↓oMul, ↓oFdiv, ↓oMod, ↓oPow, ↓oShr, ↓oXor, ↓oNeg, ↓oAdd, ↓oAug, ↓oLt, ↓oLe, ↓oGt, ↓oGe, ↓oI, ↓oIx, ↓oLen, ↓oInt, ↓oOrd, ↓oAbs, ↓oStL, ↓oIn, ↓oNin, ↓oInB, ↓isi_int, ↓isi_int_bl, ↓isi_int_str, ↓isi_int_tup, ↓isi_int_lst, ↓isi_str, ↓isi_str_int, ↓isi_tup, ↓isi_tup_int, ↓isi_tup_str, ↓isi_tup_lst, ↓isi_lst, ↓isi_lst_tup, ↓isi_lst_int, ↓isi_lst_str, ↓cv, ↓Cell.val, ↓Cell.up, ↓Cell.own, ↓lenD, ↓itemsOf, List.getElem?_cons_zero, List.getElem?_cons_succ, List.set_cons_zero, List.set_cons_succ, Option.bind_some, Option.isSome_some, List.length_cons, List.length_nil, true_and, and_true, ↓ixN_lit, ↓atI_lit, ↓reduceIte, Nat.reduceAdd, Nat.reduceLT, Nat.reduceSub, Nat.zero_add, Nat.reduceLeDiff, Nat.lt_add_one, Nat.zero_lt_succ, ↓oEq_int, ↓oNe_int, ↓oEq_str, ↓oNe_str, ↓oEq_bl, ↓oNe_bl, decide_eq_true_eq, Bool.false_eq_true, ↓u_while, ↓ownAt, List.all_cons, List.all_nil, Bool.and_true, List.getD_cons_zero, List.getD_cons_succ, Bool.not_false, ↓oLe_sign]
  refine ⟨by decide, ?_⟩
  subst hk
  -- the two rows
  refine seq_gen fun k hk => ?_
  simp only [↓dSeq, ↓dNext, ↓dBreak, ↓dCont, ↓dNever, ↓dRet, ↓dRetN, ↓dDrop, ↓dSet, ↓dIf, ↓dAug, ↓dAsg, ↓dPar, ↓dVar, ↓dMove, ↓dC, ↓dFz, ↓dUp, ↓dNil, ↓dCons, ↓dTup, ↓dLst, ↓dBin, ↓dUn, ↓dChain, ↓dTest, ↓dAnd, ↓dOr, ↓dNot, ↓dAndV, ↓dOrV, ↓dNotV, ↓dIfE, ↓dgName, ↓dgNil, ↓dgCons, ↓dgTup, ↓dIt, ↓dRng1, ↓dRng2, ↓dZip, ↓dEnum, ↓u_for, ↓u_lc, ↓dYes, ↓u_call, ↓u_callF, ↓u_callIo, ↓dCB, ↓dCBF, ↓dBinS, ↓dLenS, ↓dSl, ↓dSlS, ↓dNo, ↓dPt, ↓dStL, ↓dApp, ↓dExt, ↓dJoin, ↓dRg1, ↓dRg2, ↓dTupRg, ↓dLstRg, ↓oSub, ↓oMulI, ↓oMul, ↓oFdiv, ↓oMod, ↓oPow, ↓oShr, ↓oXor, ↓oNeg, ↓oAdd, ↓oAug, ↓oLt, ↓oLe, ↓oGt, ↓oGe, ↓oI, ↓oIx, ↓oLen, ↓oInt, ↓oOrd, ↓oAbs, ↓oStL, ↓oIn, ↓oNin, ↓oInB, ↓isi_int, ↓isi_int_bl, ↓isi_int_str, ↓isi_int_tup, ↓isi_int_lst, ↓isi_str, ↓isi_str_int, ↓isi_tup, ↓isi_tup_int, ↓isi_tup_str, ↓isi_tup_lst, ↓isi_lst, ↓isi_lst_tup, ↓isi_lst_int, ↓isi_lst_str, ↓cv, ↓Cell.val, ↓Cell.up, ↓Cell.own, ↓lenD, ↓itemsOf, List.getElem?_cons_zero, List.getElem?_cons_succ, List.set_cons_zero, List.set_cons_succ, Option.bind_some, Option.isSome_some, List.length_cons, List.length_nil, true_and, and_true, ↓ixN_lit, ↓atI_lit, ↓reduceIte, Nat.reduceAdd, Nat.reduceLT, Nat.reduceSub, Nat.zero_add, Nat.reduceLeDiff, Nat.lt_add_one, Nat.zero_lt_succ, ↓oEq_int, ↓oNe_int, ↓oEq_str, ↓oNe_str, ↓oEq_bl, ↓oNe_bl, decide_eq_true_eq, Bool.false_eq_true, ↓u_while, ↓ownAt, List.all_cons, List.all_nil, Bool.and_true, List.getD_cons_zero, List.getD_cons_succ, Bool.not_false, ↓oLe_sign]
  refine ⟨by decide, by decide, forB_of (forW_inv (fun rest ρ => ∃ (h4 : Hand) (rs : Rw) (x6 x7 : Cell), h4.Ok ∧ (∀ p ∈ rs, (∀ w ∈ p.1, w ∈ ms) ∧ (∀ w ∈ p.2, w ∈ ms) ∧ p.1.length ≤ 20 ∧ p.2.length ≤ 20) ∧ rs.length + rest.length = 2 ∧
    ρ = [.un, .ow h4.d, .fz (.lst (sl ms)), .fz (.tup (sl md)), .ow (.lst (rowsD md rs)), .ow (.lst (shiftsD rs)), x6, x7, .un, .un, .un, .un]) ?_ ?_ _ _ ⟨h3, [], .un, .un, ok3, by simp, rfl, rfl⟩)⟩
  · rintro x xs ρ k2 ⟨h4, rs, x6, x7, ok4, hrs, hl, rfl⟩ hk2
    have hl' : rs.length + (xs.length + 1) = 2 := by simpa using hl
    simp only [dgName]
    refine seq_gen fun k3 hk3 => ?_
    simp only [↓dSeq, ↓dNext, ↓dBreak, ↓dCont, ↓dNever, ↓dRet, ↓dRetN, ↓dDrop, ↓dSet, ↓dIf, ↓dAug, ↓dAsg, ↓dPar, ↓dVar, ↓dMove, ↓dC, ↓dFz, ↓dUp, ↓dNil, ↓dCons, ↓dTup, ↓dLst, ↓dBin, ↓dUn, ↓dChain, ↓dTest, ↓dAnd, ↓dOr, ↓dNot, ↓dAndV, ↓dOrV, ↓dNotV, ↓dIfE, ↓dgName, ↓dgNil, ↓dgCons, ↓dgTup, ↓dIt, ↓dRng1, ↓dRng2, ↓dZip, ↓dEnum, ↓u_for, ↓u_lc, ↓dYes, ↓u_call, ↓u_callF, ↓u_callIo, ↓dCB, ↓dCBF, ↓dBinS, ↓dLenS, ↓dSl, ↓dSlS, ↓dNo, ↓dPt, ↓dStL, ↓dApp, ↓dExt, ↓dJoin, ↓dRg1, ↓dRg2, ↓dTupRg, ↓dLstRg, ↓oSub, ↓oMulI, ↓oMul, ↓oFdiv, ↓oMod, ↓oPow, ↓oShr, ↓oXor, ↓oNeg, ↓oAdd, ↓oAug, ↓oLt, ↓oLe, ↓oGt, ↓oGe, ↓oI, ↓oIx, ↓oLen, ↓oInt, ↓oOrd, ↓oAbs, ↓oStL, ↓oIn, ↓oNin, ↓oInB, ↓isi_int, ↓isi_int_bl, ↓isi_int_str, ↓isi_int_tup, ↓isi_int_lst, ↓isi_str, ↓isi_str_int, ↓isi_tup, ↓isi_tup_int, ↓isi_tup_str, ↓isi_tup_lst, ↓isi_lst, ↓isi_lst_tup, ↓isi_lst_int, ↓isi_lst_str, ↓cv, ↓Cell.val, ↓Cell.up, ↓Cell.own, ↓lenD, ↓itemsOf, List.getElem?_cons_zero, List.getElem?_cons_succ, List.set_cons_zero, List.set_cons_succ, Option.bind_some, Option.isSome_some, List.length_cons, List.length_nil, true_and, and_true, ↓ixN_lit, ↓atI_lit, ↓reduceIte, Nat.reduceAdd, Nat.reduceLT, Nat.reduceSub, Nat.zero_add, Nat.reduceLeDiff, Nat.lt_add_one, Nat.zero_lt_succ, ↓oEq_int, ↓oNe_int, ↓oEq_str, ↓oNe_str, ↓oEq_bl, ↓oNe_bl, decide_eq_true_eq, Bool.false_eq_true, ↓u_while, ↓ownAt, List.all_cons, List.all_nil, Bool.and_true, List.getD_cons_zero, List.getD_cons_succ, Bool.not_false, ↓oLe_sign]
    refine ⟨rfl, onM (h4, ms, 20) rfl ⟨ok4, mn, by show (0 : Int) ≤ 20; decide, by show (20 : Int) ≤ 1000; decide⟩ ?_⟩
    rintro r os ⟨h5, aw, ok5, haw, hal, rfl, rfl⟩
    have hal : (aw.length : Int) ≤ 20 := hal
    simp only [ioB, wipeE, fr_some, ↓dSeq, ↓dNext, ↓dBreak, ↓dCont, ↓dNever, ↓dRet, ↓dRetN, ↓dDrop, ↓dSet, ↓dIf, ↓dAug, ↓dAsg, ↓dPar, ↓dVar, ↓dMove, ↓dC, ↓dFz, ↓dUp, ↓dNil, ↓dCons, ↓dTup, ↓dLst, ↓dBin, ↓dUn, ↓dChain, ↓dTest, ↓dAnd, ↓dOr, ↓dNot, ↓dAndV, ↓dOrV, ↓dNotV, ↓dIfE, ↓dgName, ↓dgNil, ↓dgCons, ↓dgTup, ↓dIt, ↓dRng1, ↓dRng2, ↓dZip, ↓dEnum, ↓u_for, ↓u_lc, ↓dYes, ↓u_call, ↓u_callF, ↓u_callIo, ↓dCB, ↓dCBF, ↓dBinS, ↓dLenS, ↓dSl, ↓dSlS, ↓dNo, ↓dPt, ↓dStL, ↓dApp, ↓dExt, ↓dJoin, ↓dRg1, ↓dRg2, ↓dTupRg, ↓dLstRg, ↓oSub, ↓oMulI, ↓oMul, ↓oFdiv, ↓oMod, ↓oPow, ↓oShr, ↓oXor, ↓oNeg, ↓oAdd, ↓oAug, ↓oLt, ↓oLe, ↓oGt, ↓oGe, ↓oI, ↓oIx, ↓oLen, ↓oInt, ↓oOrd, ↓oAbs, ↓oStL, ↓oIn, ↓oNin, ↓oInB, ↓isi_int, ↓isi_int_bl, ↓isi_int_str, ↓isi_int_tup, ↓isi_int_lst, ↓isi_str, ↓isi_str_int, ↓isi_tup, ↓isi_tup_int, ↓isi_tup_str, ↓isi_tup_lst, ↓isi_lst, ↓isi_lst_tup, ↓isi_lst_int, ↓isi_lst_str, ↓cv, ↓Cell.val, ↓Cell.up, ↓Cell.own, ↓lenD, ↓itemsOf, List.getElem?_cons_zero, List.getElem?_cons_succ, List.set_cons_zero, List.set_cons_succ, Option.bind_some, Option.isSome_some, List.length_cons, List.length_nil, true_and, and_true, ↓ixN_lit, ↓atI_lit, ↓reduceIte, Nat.reduceAdd, Nat.reduceLT, Nat.reduceSub, Nat.zero_add, Nat.reduceLeDiff, Nat.lt_add_one, Nat.zero_lt_succ, ↓oEq_int, ↓oNe_int, ↓oEq_str, ↓oNe_str, ↓oEq_bl, ↓oNe_bl, decide_eq_true_eq, Bool.false_eq_true, ↓u_while, ↓ownAt, List.all_cons, List.all_nil, Bool.and_true, List.getD_cons_zero, List.getD_cons_succ, Bool.not_false, ↓oLe_sign]
    subst hk3
    refine seq_gen fun k3 hk3 => ?_
    simp only [↓dSeq, ↓dNext, ↓dBreak, ↓dCont, ↓dNever, ↓dRet, ↓dRetN, ↓dDrop, ↓dSet, ↓dIf, ↓dAug, ↓dAsg, ↓dPar, ↓dVar, ↓dMove, ↓dC, ↓dFz, ↓dUp, ↓dNil, ↓dCons, ↓dTup, ↓dLst, ↓dBin, ↓dUn, ↓dChain, ↓dTest, ↓dAnd, ↓dOr, ↓dNot, ↓dAndV, ↓dOrV, ↓dNotV, ↓dIfE, ↓dgName, ↓dgNil, ↓dgCons, ↓dgTup, ↓dIt, ↓dRng1, ↓dRng2, ↓dZip, ↓dEnum, ↓u_for, ↓u_lc, ↓dYes, ↓u_call, ↓u_callF, ↓u_callIo, ↓dCB, ↓dCBF, ↓dBinS, ↓dLenS, ↓dSl, ↓dSlS, ↓dNo, ↓dPt, ↓dStL, ↓dApp, ↓dExt, ↓dJoin, ↓dRg1, ↓dRg2, ↓dTupRg, ↓dLstRg, ↓oSub, ↓oMulI, ↓oMul, ↓oFdiv, ↓oMod, ↓oPow, ↓oShr, ↓oXor, ↓oNeg, ↓oAdd, ↓oAug, ↓oLt, ↓oLe, ↓oGt, ↓oGe, ↓oI, ↓oIx, ↓oLen, ↓oInt, ↓oOrd, ↓oAbs, ↓oStL, ↓oIn, ↓oNin, ↓oInB, ↓isi_int, ↓isi_int_bl, ↓isi_int_str, ↓isi_int_tup, ↓isi_int_lst, ↓isi_str, ↓isi_str_int, ↓isi_tup, ↓isi_tup_int, ↓isi_tup_str, ↓isi_tup_lst, ↓isi_lst, ↓isi_lst_tup, ↓isi_lst_int, ↓isi_lst_str, ↓cv, ↓Cell.val, ↓Cell.up, ↓Cell.own, ↓lenD, ↓itemsOf, List.getElem?_cons_zero, List.getElem?_cons_succ, List.set_cons_zero, List.set_cons_succ, Option.bind_some, Option.isSome_some, List.length_cons, List.length_nil, true_and, and_true, ↓ixN_lit, ↓atI_lit, ↓reduceIte, Nat.reduceAdd, Nat.reduceLT, Nat.reduceSub, Nat.zero_add, Nat.reduceLeDiff, Nat.lt_add_one, Nat.zero_lt_succ, ↓oEq_int, ↓oNe_int, ↓oEq_str, ↓oNe_str, ↓oEq_bl, ↓oNe_bl, decide_eq_true_eq, Bool.false_eq_true, ↓u_while, ↓ownAt, List.all_cons, List.all_nil, Bool.and_true, List.getD_cons_zero, List.getD_cons_succ, Bool.not_false, ↓oLe_sign, sl_append]
    refine ⟨⟨_, rfl⟩, by rw [sl_length, sl_length]; show _ ≤ 16777216; omega, rfl, onM (h5, ms, 20) rfl ⟨ok5, mn, by show (0 : Int) ≤ 20; decide, by show (20 : Int) ≤ 1000; decide⟩ ?_⟩
    rintro r os ⟨h6, bw, ok6, hbw, hbl, rfl, rfl⟩
    have hbl : (bw.length : Int) ≤ 20 := hbl
    simp only [ioB, wipeE, fr_some, ↓dSeq, ↓dNext, ↓dBreak, ↓dCont, ↓dNever, ↓dRet, ↓dRetN, ↓dDrop, ↓dSet, ↓dIf, ↓dAug, ↓dAsg, ↓dPar, ↓dVar, ↓dMove, ↓dC, ↓dFz, ↓dUp, ↓dNil, ↓dCons, ↓dTup, ↓dLst, ↓dBin, ↓dUn, ↓dChain, ↓dTest, ↓dAnd, ↓dOr, ↓dNot, ↓dAndV, ↓dOrV, ↓dNotV, ↓dIfE, ↓dgName, ↓dgNil, ↓dgCons, ↓dgTup, ↓dIt, ↓dRng1, ↓dRng2, ↓dZip, ↓dEnum, ↓u_for, ↓u_lc, ↓dYes, ↓u_call, ↓u_callF, ↓u_callIo, ↓dCB, ↓dCBF, ↓dBinS, ↓dLenS, ↓dSl, ↓dSlS, ↓dNo, ↓dPt, ↓dStL, ↓dApp, ↓dExt, ↓dJoin, ↓dRg1, ↓dRg2, ↓dTupRg, ↓dLstRg, ↓oSub, ↓oMulI, ↓oMul, ↓oFdiv, ↓oMod, ↓oPow, ↓oShr, ↓oXor, ↓oNeg, ↓oAdd, ↓oAug, ↓oLt, ↓oLe, ↓oGt, ↓oGe, ↓oI, ↓oIx, ↓oLen, ↓oInt, ↓oOrd, ↓oAbs, ↓oStL, ↓oIn, ↓oNin, ↓oInB, ↓isi_int, ↓isi_int_bl, ↓isi_int_str, ↓isi_int_tup, ↓isi_int_lst, ↓isi_str, ↓isi_str_int, ↓isi_tup, ↓isi_tup_int, ↓isi_tup_str, ↓isi_tup_lst, ↓isi_lst, ↓isi_lst_tup, ↓isi_lst_int, ↓isi_lst_str, ↓cv, ↓Cell.val, ↓Cell.up, ↓Cell.own, ↓lenD, ↓itemsOf, List.getElem?_cons_zero, List.getElem?_cons_succ, List.set_cons_zero, List.set_cons_succ, Option.bind_some, Option.isSome_some, List.length_cons, List.length_nil, true_and, and_true, ↓ixN_lit, ↓atI_lit, ↓reduceIte, Nat.reduceAdd, Nat.reduceLT, Nat.reduceSub, Nat.zero_add, Nat.reduceLeDiff, Nat.lt_add_one, Nat.zero_lt_succ, ↓oEq_int, ↓oNe_int, ↓oEq_str, ↓oNe_str, ↓oEq_bl, ↓oNe_bl, decide_eq_true_eq, Bool.false_eq_true, ↓u_while, ↓ownAt, List.all_cons, List.all_nil, Bool.and_true, List.getD_cons_zero, List.getD_cons_succ, Bool.not_false, ↓oLe_sign, sl_append]
    refine ⟨by rw [sl_length, sl_length, List.length_append]; show _ ≤ 16777216; omega, by unfold rowsD; rw [List.length_map]; show _ < 16777216; omega, ?_⟩
    subst hk3
    simp only [↓dSeq, ↓dNext, ↓dBreak, ↓dCont, ↓dNever, ↓dRet, ↓dRetN, ↓dDrop, ↓dSet, ↓dIf, ↓dAug, ↓dAsg, ↓dPar, ↓dVar, ↓dMove, ↓dC, ↓dFz, ↓dUp, ↓dNil, ↓dCons, ↓dTup, ↓dLst, ↓dBin, ↓dUn, ↓dChain, ↓dTest, ↓dAnd, ↓dOr, ↓dNot, ↓dAndV, ↓dOrV, ↓dNotV, ↓dIfE, ↓dgName, ↓dgNil, ↓dgCons, ↓dgTup, ↓dIt, ↓dRng1, ↓dRng2, ↓dZip, ↓dEnum, ↓u_for, ↓u_lc, ↓dYes, ↓u_call, ↓u_callF, ↓u_callIo, ↓dCB, ↓dCBF, ↓dBinS, ↓dLenS, ↓dSl, ↓dSlS, ↓dNo, ↓dPt, ↓dStL, ↓dApp, ↓dExt, ↓dJoin, ↓dRg1, ↓dRg2, ↓dTupRg, ↓dLstRg, ↓oSub, ↓oMulI, ↓oMul, ↓oFdiv, ↓oMod, ↓oPow, ↓oShr, ↓oXor, ↓oNeg, ↓oAdd, ↓oAug, ↓oLt, ↓oLe, ↓oGt, ↓oGe, ↓oI, ↓oIx, ↓oLen, ↓oInt, ↓oOrd, ↓oAbs, ↓oStL, ↓oIn, ↓oNin, ↓oInB, ↓isi_int, ↓isi_int_bl, ↓isi_int_str, ↓isi_int_tup, ↓isi_int_lst, ↓isi_str, ↓isi_str_int, ↓isi_tup, ↓isi_tup_int, ↓isi_tup_str, ↓isi_tup_lst, ↓isi_lst, ↓isi_lst_tup, ↓isi_lst_int, ↓isi_lst_str, ↓cv, ↓Cell.val, ↓Cell.up, ↓Cell.own, ↓lenD, ↓itemsOf, List.getElem?_cons_zero, List.getElem?_cons_succ, List.set_cons_zero, List.set_cons_succ, Option.bind_some, Option.isSome_some, List.length_cons, List.length_nil, true_and, and_true, ↓ixN_lit, ↓atI_lit, ↓reduceIte, Nat.reduceAdd, Nat.reduceLT, Nat.reduceSub, Nat.zero_add, Nat.reduceLeDiff, Nat.lt_add_one, Nat.zero_lt_succ, ↓oEq_int, ↓oNe_int, ↓oEq_str, ↓oNe_str, ↓oEq_bl, ↓oNe_bl, decide_eq_true_eq, Bool.false_eq_true, ↓u_while, ↓ownAt, List.all_cons, List.all_nil, Bool.and_true, List.getD_cons_zero, List.getD_cons_succ, Bool.not_false, ↓oLe_sign]
    refine ⟨⟨_, rfl⟩, by unfold shiftsD; rw [List.length_map]; show _ < 16777216; omega, ?_⟩
    have e1 : rowsD md rs ++ [D.tup (sl (aw ++ md ++ bw))] = rowsD md (rs ++ [(aw, bw)]) := by unfold rowsD; rw [List.map_append] <;> rfl
    have e2 : shiftsD rs ++ [D.int ((sl aw).length : Nat)] = shiftsD (rs ++ [(aw, bw)]) := by unfold shiftsD; rw [List.map_append, sl_length] <;> rfl
    rw [e1, e2]
    refine hk2 _ ⟨h6, rs ++ [(aw, bw)], _, _, ok6, fun p hp => ?_, ?_, rfl⟩
    · rcases List.mem_append.mp hp with z | z
      · exact hrs p z
      · rw [List.mem_singleton.mp z]
        exact ⟨haw, hbw, by show aw.length ≤ 20; omega, by show bw.length ≤ 20; omega⟩
    · rw [List.length_append, List.length_singleton]; omega
  rintro ρ ⟨h4, rs, x6, x7, ok4, hrs, hl, rfl⟩
  have hl' : rs.length = 2 := by simpa using hl
  obtain ⟨p, q, rfl⟩ : ∃ p q, rs = [p, q] := by
    match rs, hl' with
    | [p, q], _ => exact ⟨p, q, rfl⟩
  have hp := hrs p (by simp)
  have hq := hrs q (by simp)
  have inMs : ∀ (u : List (List Nat) × List (List Nat)), ((∀ w ∈ u.1, w ∈ ms) ∧ (∀ w ∈ u.2, w ∈ ms) ∧ u.1.length ≤ 20 ∧ u.2.length ≤ 20) → ∀ w ∈ u.1 ++ md ++ u.2, w ∈ ms := by
    intro u hu w hw
    rcases List.mem_append.mp hw with hw | hw
    · rcases List.mem_append.mp hw with hw | hw
      · exact hu.1 w hw
      · exact hmd w hw
    · exact hu.2.1 w hw
  have rowLen : ∀ (u : List (List Nat) × List (List Nat)), ((∀ w ∈ u.1, w ∈ ms) ∧ (∀ w ∈ u.2, w ∈ ms) ∧ u.1.length ≤ 20 ∧ u.2.length ≤ 20) → 10 ≤ (u.1 ++ md ++ u.2).length ∧ (u.1 ++ md ++ u.2).length ≤ 55 := by
    intro u hu
    rw [List.length_append, List.length_append]
    omega
  have rowOk : ∀ (u : List (List Nat) × List (List Nat)), ((∀ w ∈ u.1, w ∈ ms) ∧ (∀ w ∈ u.2, w ∈ ms) ∧ u.1.length ≤ 20 ∧ u.2.length ≤ 20) → (u.1 ++ md ++ u.2) ≠ [] ∧ (∀ x ∈ u.1 ++ md ++ u.2, Signs x ∧ x ≠ []) ∧ (u.1 ++ md ++ u.2).length ≤ 1000000 := by
    intro u hu
    have hlen := rowLen u hu
    refine ⟨fun z => ?_, fun x hx => ?_, by omega⟩
    · rw [z] at hlen; simp at hlen
    · obtain ⟨w1, w2, _⟩ := mn.1 x (inMs u hu x hx)
      exact ⟨w1, fun z => by rw [z] at w2; simp at w2⟩
  have hm2 := mn.2.2
  show k [.un, .ow h4.d, .fz (.lst (sl ms)), .fz (.tup (sl md)), .ow (.lst [.tup (sl (p.1 ++ md ++ p.2)), .tup (sl (q.1 ++ md ++ q.2))]), .ow (.lst [.int (p.1.length : Nat), .int (q.1.length : Nat)]), x6, x7, .un, .un, .un, .un]
  generalize hP : p.1 ++ md ++ p.2 = P
  generalize hQ : q.1 ++ md ++ q.2 = Q
  have okP := rowOk p hp
  have okQ := rowOk q hq
  have lenP := rowLen p hp
  have lenQ := rowLen q hq
  have inP := inMs p hp
  have inQ := inMs q hq
  rw [hP] at okP lenP inP
  rw [hQ] at okQ lenQ inQ
  subst hk
  -- told
  refine seq_gen fun k hk => ?_
  simp only [↓dSeq, ↓dNext, ↓dBreak, ↓dCont, ↓dNever, ↓dRet, ↓dRetN, ↓dDrop, ↓dSet, ↓dIf, ↓dAug, ↓dAsg, ↓dPar, ↓dVar, ↓dMove, ↓dC, ↓dFz, ↓dUp, ↓dNil, ↓dCons, ↓dTup, ↓dLst, ↓dBin, ↓dUn, ↓dChain, ↓dTest, ↓dAnd, ↓dOr, ↓dNot, ↓dAndV, ↓dOrV, ↓dNotV, ↓dIfE, ↓dgName, ↓dgNil, ↓dgCons, ↓dgTup, ↓dIt, ↓dRng1, ↓dRng2, ↓dZip, ↓dEnum, ↓u_for, ↓u_lc, ↓dYes, ↓u_call, ↓u_callF, ↓u_callIo, ↓dCB, ↓dCBF, ↓dBinS, ↓dLenS, ↓dSl, ↓dSlS, ↓dNo, ↓dPt, ↓dStL, ↓dApp, ↓dExt, ↓dJoin, ↓dRg1, ↓dRg2, ↓dTupRg, ↓dLstRg, ↓oSub, ↓oMulI, ↓oMul, ↓oFdiv, ↓oMod, ↓oPow, ↓oShr, ↓oXor, ↓oNeg, ↓oAdd, ↓oAug, ↓oLt, ↓oLe, ↓oGt, ↓oGe, ↓oI, ↓oIx, ↓oLen, ↓oInt, ↓oOrd, ↓oAbs, ↓oStL, ↓oIn, ↓oNin, ↓oInB, ↓isi_int, ↓isi_int_bl, ↓isi_int_str, ↓isi_int_tup, ↓isi_int_lst, ↓isi_str, ↓isi_str_int, ↓isi_tup, ↓isi_tup_int, ↓isi_tup_str, ↓isi_tup_lst, ↓isi_lst, ↓isi_lst_tup, ↓isi_lst_int, ↓isi_lst_str, ↓cv, ↓Cell.val, ↓Cell.up, ↓Cell.own, ↓lenD, ↓itemsOf, List.getElem?_cons_zero, List.getElem?_cons_succ, List.set_cons_zero, List.set_cons_succ, Option.bind_some, Option.isSome_some, List.length_cons, List.length_nil, true_and, and_true, ↓ixN_lit, ↓atI_lit, ↓reduceIte, Nat.reduceAdd, Nat.reduceLT, Nat.reduceSub, Nat.zero_add, Nat.reduceLeDiff, Nat.lt_add_one, Nat.zero_lt_succ, ↓oEq_int, ↓oNe_int, ↓oEq_str, ↓oNe_str, ↓oEq_bl, ↓oNe_bl, decide_eq_true_eq, Bool.false_eq_true, ↓u_while, ↓ownAt, List.all_cons, List.all_nil, Bool.and_true, List.getD_cons_zero, List.getD_cons_succ, Bool.not_false, ↓oLe_sign]
  refine ⟨rfl, onF P rfl okP ?_⟩
  simp only [↓dSeq, ↓dNext, ↓dBreak, ↓dCont, ↓dNever, ↓dRet, ↓dRetN, ↓dDrop, ↓dSet, ↓dIf, ↓dAug, ↓dAsg, ↓dPar, ↓dVar, ↓dMove, ↓dC, ↓dFz, ↓dUp, ↓dNil, ↓dCons, ↓dTup, ↓dLst, ↓dBin, ↓dUn, ↓dChain, ↓dTest, ↓dAnd, ↓dOr, ↓dNot, ↓dAndV, ↓dOrV, ↓dNotV, ↓dIfE, ↓dgName, ↓dgNil, ↓dgCons, ↓dgTup, ↓dIt, ↓dRng1, ↓dRng2, ↓dZip, ↓dEnum, ↓u_for, ↓u_lc, ↓dYes, ↓u_call, ↓u_callF, ↓u_callIo, ↓dCB, ↓dCBF, ↓dBinS, ↓dLenS, ↓dSl, ↓dSlS, ↓dNo, ↓dPt, ↓dStL, ↓dApp, ↓dExt, ↓dJoin, ↓dRg1, ↓dRg2, ↓dTupRg, ↓dLstRg, ↓oSub, ↓oMulI, ↓oMul, ↓oFdiv, ↓oMod, ↓oPow, ↓oShr, ↓oXor, ↓oNeg, ↓oAdd, ↓oAug, ↓oLt, ↓oLe, ↓oGt, ↓oGe, ↓oI, ↓oIx, ↓oLen, ↓oInt, ↓oOrd, ↓oAbs, ↓oStL, ↓oIn, ↓oNin, ↓oInB, ↓isi_int, ↓isi_int_bl, ↓isi_int_str, ↓isi_int_tup, ↓isi_int_lst, ↓isi_str, ↓isi_str_int, ↓isi_tup, ↓isi_tup_int, ↓isi_tup_str, ↓isi_tup_lst, ↓isi_lst, ↓isi_lst_tup, ↓isi_lst_int, ↓isi_lst_str, ↓cv, ↓Cell.val, ↓Cell.up, ↓Cell.own, ↓lenD, ↓itemsOf, List.getElem?_cons_zero, List.getElem?_cons_succ, List.set_cons_zero, List.set_cons_succ, Option.bind_some, Option.isSome_some, List.length_cons, List.length_nil, true_and, and_true, ↓ixN_lit, ↓atI_lit, ↓reduceIte, Nat.reduceAdd, Nat.reduceLT, Nat.reduceSub, Nat.zero_add, Nat.reduceLeDiff, Nat.lt_add_one, Nat.zero_lt_succ, ↓oEq_int, ↓oNe_int, ↓oEq_str, ↓oNe_str, ↓oEq_bl, ↓oNe_bl, decide_eq_true_eq, Bool.false_eq_true, ↓u_while, ↓ownAt, List.all_cons, List.all_nil, Bool.and_true, List.getD_cons_zero, List.getD_cons_succ, Bool.not_false, ↓oLe_sign]
  refine ⟨rfl, onF Q rfl okQ ?_⟩
  simp only [↓dSeq, ↓dNext, ↓dBreak, ↓dCont, ↓dNever, ↓dRet, ↓dRetN, ↓dDrop, ↓dSet, ↓dIf, ↓dAug, ↓dAsg, ↓dPar, ↓dVar, ↓dMove, ↓dC, ↓dFz, ↓dUp, ↓dNil, ↓dCons, ↓dTup, ↓dLst, ↓dBin, ↓dUn, ↓dChain, ↓dTest, ↓dAnd, ↓dOr, ↓dNot, ↓dAndV, ↓dOrV, ↓dNotV, ↓dIfE, ↓dgName, ↓dgNil, ↓dgCons, ↓dgTup, ↓dIt, ↓dRng1, ↓dRng2, ↓dZip, ↓dEnum, ↓u_for, ↓u_lc, ↓dYes, ↓u_call, ↓u_callF, ↓u_callIo, ↓dCB, ↓dCBF, ↓dBinS, ↓dLenS, ↓dSl, ↓dSlS, ↓dNo, ↓dPt, ↓dStL, ↓dApp, ↓dExt, ↓dJoin, ↓dRg1, ↓dRg2, ↓dTupRg, ↓dLstRg, ↓oSub, ↓oMulI, ↓oMul, ↓oFdiv, ↓oMod, ↓oPow, ↓oShr, ↓oXor, ↓oNeg, ↓oAdd, ↓oAug, ↓oLt, ↓oLe, ↓oGt, ↓oGe, ↓oI, ↓oIx, ↓oLen, ↓oInt, ↓oOrd, ↓oAbs, ↓oStL, ↓oIn, ↓oNin, ↓oInB, ↓isi_int, ↓isi_int_bl, ↓isi_int_str, ↓isi_int_tup, ↓isi_int_lst, ↓isi_str, ↓isi_str_int, ↓isi_tup, ↓isi_tup_int, ↓isi_tup_str, ↓isi_tup_lst, ↓isi_lst, ↓isi_lst_tup, ↓isi_lst_int, ↓isi_lst_str, ↓cv, ↓Cell.val, ↓Cell.up, ↓Cell.own, ↓lenD, ↓itemsOf, List.getElem?_cons_zero, List.getElem?_cons_succ, List.set_cons_zero, List.set_cons_succ, Option.bind_some, Option.isSome_some, List.length_cons, List.length_nil, true_and, and_true, ↓ixN_lit, ↓atI_lit, ↓reduceIte, Nat.reduceAdd, Nat.reduceLT, Nat.reduceSub, Nat.zero_add, Nat.reduceLeDiff, Nat.lt_add_one, Nat.zero_lt_succ, ↓oEq_int, ↓oNe_int, ↓oEq_str, ↓oNe_str, ↓oEq_bl, ↓oNe_bl, decide_eq_true_eq, Bool.false_eq_true, ↓u_while, ↓ownAt, List.all_cons, List.all_nil, Bool.and_true, List.getD_cons_zero, List.getD_cons_succ, Bool.not_false, ↓oLe_sign]
  refine ⟨by show 2 ≤ 16777216; decide, ?_⟩
  subst hk
  -- the places
  refine seq_gen fun k hk => ?_
  simp only [↓dSeq, ↓dNext, ↓dBreak, ↓dCont, ↓dNever, ↓dRet, ↓dRetN, ↓dDrop, ↓dSet, ↓dIf, ↓dAug, ↓dAsg, ↓dPar, ↓dVar, ↓dMove, ↓dC, ↓dFz, ↓dUp, ↓dNil, ↓dCons, ↓dTup, ↓dLst, ↓dBin, ↓dUn, ↓dChain, ↓dTest, ↓dAnd, ↓dOr, ↓dNot, ↓dAndV, ↓dOrV, ↓dNotV, ↓dIfE, ↓dgName, ↓dgNil, ↓dgCons, ↓dgTup, ↓dIt, ↓dRng1, ↓dRng2, ↓dZip, ↓dEnum, ↓u_for, ↓u_lc, ↓dYes, ↓u_call, ↓u_callF, ↓u_callIo, ↓dCB, ↓dCBF, ↓dBinS, ↓dLenS, ↓dSl, ↓dSlS, ↓dNo, ↓dPt, ↓dStL, ↓dApp, ↓dExt, ↓dJoin, ↓dRg1, ↓dRg2, ↓dTupRg, ↓dLstRg, ↓oSub, ↓oMulI, ↓oMul, ↓oFdiv, ↓oMod, ↓oPow, ↓oShr, ↓oXor, ↓oNeg, ↓oAdd, ↓oAug, ↓oLt, ↓oLe, ↓oGt, ↓oGe, ↓oI, ↓oIx, ↓oLen, ↓oInt, ↓oOrd, ↓oAbs, ↓oStL, ↓oIn, ↓oNin, ↓oInB, ↓isi_int, ↓isi_int_bl, ↓isi_int_str, ↓isi_int_tup, ↓isi_int_lst, ↓isi_str, ↓isi_str_int, ↓isi_tup, ↓isi_tup_int, ↓isi_tup_str, ↓isi_tup_lst, ↓isi_lst, ↓isi_lst_tup, ↓isi_lst_int, ↓isi_lst_str, ↓cv, ↓Cell.val, ↓Cell.up, ↓Cell.own, ↓lenD, ↓itemsOf, List.getElem?_cons_zero, List.getElem?_cons_succ, List.set_cons_zero, List.set_cons_succ, Option.bind_some, Option.isSome_some, List.length_cons, List.length_nil, true_and, and_true, ↓ixN_lit, ↓atI_lit, ↓reduceIte, Nat.reduceAdd, Nat.reduceLT, Nat.reduceSub, Nat.zero_add, Nat.reduceLeDiff, Nat.lt_add_one, Nat.zero_lt_succ, ↓oEq_int, ↓oNe_int, ↓oEq_str, ↓oNe_str, ↓oEq_bl, ↓oNe_bl, decide_eq_true_eq, Bool.false_eq_true, ↓u_while, ↓ownAt, List.all_cons, List.all_nil, Bool.and_true, List.getD_cons_zero, List.getD_cons_succ, Bool.not_false, ↓oLe_sign, sl_length]
  refine ⟨⟨by decide, by decide, by omega, by omega⟩, by omega, ?_⟩
  have er : rangeD 7 ((md.length : Int) - 2 - 7).toNat = il ((List.range ((md.length : Int) - 2 - 7).toNat).map (7 + ·)) := rangeD_il 7 _
  rw [er]
  refine forB_of (forW_inv (fun rest ρ => ∃ (as : List Nat) (x9 : Cell), rest = il as ∧ (∀ i ∈ as, 7 ≤ i ∧ i + 2 < md.length) ∧
    ρ = [.un, .ow h4.d, .fz (.lst (sl ms)), .fz (.tup (sl md)), .ow (.lst [.tup (sl P), .tup (sl Q)]), .ow (.lst [.int (p.1.length : Nat), .int (q.1.length : Nat)]), x6, x7, .fz (.lst [.tup (il (groupsL P)), .tup (il (groupsL Q))]), x9, .un, .un]) ?_ ?_ _ _ ⟨_, .un, rfl, fun i hi => ?_, rfl⟩)
  · rintro x xs ρ k2 ⟨as, x9, e, has, rfl⟩ hk2
    cases as with
    | nil => cases e
    | cons a as =>
      cases e
      obtain ⟨a1, a2⟩ := has a (List.mem_cons_self ..)
      have i1 : ((p.1.length : Nat) : Int) + ((a : Nat) : Int) = ((p.1.length + a : Nat) : Int) := by omega
      have i2 : ((q.1.length : Nat) : Int) + ((a : Nat) : Int) = ((q.1.length + a : Nat) : Int) := by omega
      have nr : (p.1.length + a ∈ groupsL P) ↔ (q.1.length + a ∈ groupsL Q) := by
        rw [← hP, ← hQ]
        exact near_iff (near_rows a1 a2)
      have ed : decide (p.1.length + a ∈ groupsL P) = decide (q.1.length + a ∈ groupsL Q) := by
        by_cases c : p.1.length + a ∈ groupsL P
        · rw [decide_eq_true c, decide_eq_true (nr.mp c)]
        · rw [decide_eq_false c, decide_eq_false fun z => c (nr.mpr z)]
      have pl1 : ∀ n : Nat, (D.int ((n : Nat) : Int)).pl = true := fun _ => rfl
      have dp1 : ∀ n : Nat, (D.int ((n : Nat) : Int)).dep = 0 := fun _ => by simp only [D.dep]
      simp only [↓dSeq, ↓dNext, ↓dBreak, ↓dCont, ↓dNever, ↓dRet, ↓dRetN, ↓dDrop, ↓dSet, ↓dIf, ↓dAug, ↓dAsg, ↓dPar, ↓dVar, ↓dMove, ↓dC, ↓dFz, ↓dUp, ↓dNil, ↓dCons, ↓dTup, ↓dLst, ↓dBin, ↓dUn, ↓dChain, ↓dTest, ↓dAnd, ↓dOr, ↓dNot, ↓dAndV, ↓dOrV, ↓dNotV, ↓dIfE, ↓dgName, ↓dgNil, ↓dgCons, ↓dgTup, ↓dIt, ↓dRng1, ↓dRng2, ↓dZip, ↓dEnum, ↓u_for, ↓u_lc, ↓dYes, ↓u_call, ↓u_callF, ↓u_callIo, ↓dCB, ↓dCBF, ↓dBinS, ↓dLenS, ↓dSl, ↓dSlS, ↓dNo, ↓dPt, ↓dStL, ↓dApp, ↓dExt, ↓dJoin, ↓dRg1, ↓dRg2, ↓dTupRg, ↓dLstRg, ↓oSub, ↓oMulI, ↓oMul, ↓oFdiv, ↓oMod, ↓oPow, ↓oShr, ↓oXor, ↓oNeg, ↓oAdd, ↓oAug, ↓oLt, ↓oLe, ↓oGt, ↓oGe, ↓oI, ↓oIx, ↓oLen, ↓oInt, ↓oOrd, ↓oAbs, ↓oStL, ↓oIn, ↓oNin, ↓oInB, ↓isi_int, ↓isi_int_bl, ↓isi_int_str, ↓isi_int_tup, ↓isi_int_lst, ↓isi_str, ↓isi_str_int, ↓isi_tup, ↓isi_tup_int, ↓isi_tup_str, ↓isi_tup_lst, ↓isi_lst, ↓isi_lst_tup, ↓isi_lst_int, ↓isi_lst_str, ↓cv, ↓Cell.val, ↓Cell.up, ↓Cell.own, ↓lenD, ↓itemsOf, List.getElem?_cons_zero, List.getElem?_cons_succ, List.set_cons_zero, List.set_cons_succ, Option.bind_some, Option.isSome_some, List.length_cons, List.length_nil, true_and, and_true, ↓ixN_lit, ↓atI_lit, ↓reduceIte, Nat.reduceAdd, Nat.reduceLT, Nat.reduceSub, Nat.zero_add, Nat.reduceLeDiff, Nat.lt_add_one, Nat.zero_lt_succ, ↓oEq_int, ↓oNe_int, ↓oEq_str, ↓oNe_str, ↓oEq_bl, ↓oNe_bl, decide_eq_true_eq, Bool.false_eq_true, ↓u_while, ↓ownAt, List.all_cons, List.all_nil, Bool.and_true, List.getD_cons_zero, List.getD_cons_succ, Bool.not_false, ↓oLe_sign, i1, i2, pl1, pls_il, dp1, any_il, ed, Nat.zero_le]
      have e3 : (!(decide (q.1.length + a ∈ groupsL Q) == decide (q.1.length + a ∈ groupsL Q))) = false := by simp
      rw [e3]
      simp only [↓dSeq, ↓dNext, ↓dBreak, ↓dCont, ↓dNever, ↓dRet, ↓dRetN, ↓dDrop, ↓dSet, ↓dIf, ↓dAug, ↓dAsg, ↓dPar, ↓dVar, ↓dMove, ↓dC, ↓dFz, ↓dUp, ↓dNil, ↓dCons, ↓dTup, ↓dLst, ↓dBin, ↓dUn, ↓dChain, ↓dTest, ↓dAnd, ↓dOr, ↓dNot, ↓dAndV, ↓dOrV, ↓dNotV, ↓dIfE, ↓dgName, ↓dgNil, ↓dgCons, ↓dgTup, ↓dIt, ↓dRng1, ↓dRng2, ↓dZip, ↓dEnum, ↓u_for, ↓u_lc, ↓dYes, ↓u_call, ↓u_callF, ↓u_callIo, ↓dCB, ↓dCBF, ↓dBinS, ↓dLenS, ↓dSl, ↓dSlS, ↓dNo, ↓dPt, ↓dStL, ↓dApp, ↓dExt, ↓dJoin, ↓dRg1, ↓dRg2, ↓dTupRg, ↓dLstRg, ↓oSub, ↓oMulI, ↓oMul, ↓oFdiv, ↓oMod, ↓oPow, ↓oShr, ↓oXor, ↓oNeg, ↓oAdd, ↓oAug, ↓oLt, ↓oLe, ↓oGt, ↓oGe, ↓oI, ↓oIx, ↓oLen, ↓oInt, ↓oOrd, ↓oAbs, ↓oStL, ↓oIn, ↓oNin, ↓oInB, ↓isi_int, ↓isi_int_bl, ↓isi_int_str, ↓isi_int_tup, ↓isi_int_lst, ↓isi_str, ↓isi_str_int, ↓isi_tup, ↓isi_tup_int, ↓isi_tup_str, ↓isi_tup_lst, ↓isi_lst, ↓isi_lst_tup, ↓isi_lst_int, ↓isi_lst_str, ↓cv, ↓Cell.val, ↓Cell.up, ↓Cell.own, ↓lenD, ↓itemsOf, List.getElem?_cons_zero, List.getElem?_cons_succ, List.set_cons_zero, List.set_cons_succ, Option.bind_some, Option.isSome_some, List.length_cons, List.length_nil, true_and, and_true, ↓ixN_lit, ↓atI_lit, ↓reduceIte, Nat.reduceAdd, Nat.reduceLT, Nat.reduceSub, Nat.zero_add, Nat.reduceLeDiff, Nat.lt_add_one, Nat.zero_lt_succ, ↓oEq_int, ↓oNe_int, ↓oEq_str, ↓oNe_str, ↓oEq_bl, ↓oNe_bl, decide_eq_true_eq, Bool.false_eq_true, ↓u_while, ↓ownAt, List.all_cons, List.all_nil, Bool.and_true, List.getD_cons_zero, List.getD_cons_succ, Bool.not_false, ↓oLe_sign]
      exact hk2 _ ⟨as, _, rfl, fun i hi => has i (List.mem_cons_of_mem _ hi), rfl⟩
  · rintro ρ ⟨as, x9, e, has, rfl⟩
    subst hk
    -- the levels
    dsimp only
    refine seq_gen fun k hk => if_gen fun kA kB hA hB => ?_
    simp only [↓dSeq, ↓dNext, ↓dBreak, ↓dCont, ↓dNever, ↓dRet, ↓dRetN, ↓dDrop, ↓dSet, ↓dIf, ↓dAug, ↓dAsg, ↓dPar, ↓dVar, ↓dMove, ↓dC, ↓dFz, ↓dUp, ↓dNil, ↓dCons, ↓dTup, ↓dLst, ↓dBin, ↓dUn, ↓dChain, ↓dTest, ↓dAnd, ↓dOr, ↓dNot, ↓dAndV, ↓dOrV, ↓dNotV, ↓dIfE, ↓dgName, ↓dgNil, ↓dgCons, ↓dgTup, ↓dIt, ↓dRng1, ↓dRng2, ↓dZip, ↓dEnum, ↓u_for, ↓u_lc, ↓dYes, ↓u_call, ↓u_callF, ↓u_callIo, ↓dCB, ↓dCBF, ↓dBinS, ↓dLenS, ↓dSl, ↓dSlS, ↓dNo, ↓dPt, ↓dStL, ↓dApp, ↓dExt, ↓dJoin, ↓dRg1, ↓dRg2, ↓dTupRg, ↓dLstRg, ↓oSub, ↓oMulI, ↓oMul, ↓oFdiv, ↓oMod, ↓oPow, ↓oShr, ↓oXor, ↓oNeg, ↓oAdd, ↓oAug, ↓oLt, ↓oLe, ↓oGt, ↓oGe, ↓oI, ↓oIx, ↓oLen, ↓oInt, ↓oOrd, ↓oAbs, ↓oStL, ↓oIn, ↓oNin, ↓oInB, ↓isi_int, ↓isi_int_bl, ↓isi_int_str, ↓isi_int_tup, ↓isi_int_lst, ↓isi_str, ↓isi_str_int, ↓isi_tup, ↓isi_tup_int, ↓isi_tup_str, ↓isi_tup_lst, ↓isi_lst, ↓isi_lst_tup, ↓isi_lst_int, ↓isi_lst_str, ↓cv, ↓Cell.val, ↓Cell.up, ↓Cell.own, ↓lenD, ↓itemsOf, List.getElem?_cons_zero, List.getElem?_cons_succ, List.set_cons_zero, List.set_cons_succ, Option.bind_some, Option.isSome_some, List.length_cons, List.length_nil, true_and, and_true, ↓ixN_lit, ↓atI_lit, ↓reduceIte, Nat.reduceAdd, Nat.reduceLT, Nat.reduceSub, Nat.zero_add, Nat.reduceLeDiff, Nat.lt_add_one, Nat.zero_lt_succ, ↓oEq_int, ↓oNe_int, ↓oEq_str, ↓oNe_str, ↓oEq_bl, ↓oNe_bl, decide_eq_true_eq, Bool.false_eq_true, ↓u_while, ↓ownAt, List.all_cons, List.all_nil, Bool.and_true, List.getD_cons_zero, List.getD_cons_succ, Bool.not_false, ↓oLe_sign]
    refine lcB_of (lcW_pure _ (fun d => match d with | .str l => decide (1 < l.length) | _ => false) (fun d => d) _ (fun x hx kT kF hT hF => ?_) fun ρ' hw => ?_)
    · obtain ⟨c, hc, rfl⟩ := List.mem_map.mp hx
      simp only [wipeE, ↓dSeq, ↓dNext, ↓dBreak, ↓dCont, ↓dNever, ↓dRet, ↓dRetN, ↓dDrop, ↓dSet, ↓dIf, ↓dAug, ↓dAsg, ↓dPar, ↓dVar, ↓dMove, ↓dC, ↓dFz, ↓dUp, ↓dNil, ↓dCons, ↓dTup, ↓dLst, ↓dBin, ↓dUn, ↓dChain, ↓dTest, ↓dAnd, ↓dOr, ↓dNot, ↓dAndV, ↓dOrV, ↓dNotV, ↓dIfE, ↓dgName, ↓dgNil, ↓dgCons, ↓dgTup, ↓dIt, ↓dRng1, ↓dRng2, ↓dZip, ↓dEnum, ↓u_for, ↓u_lc, ↓dYes, ↓u_call, ↓u_callF, ↓u_callIo, ↓dCB, ↓dCBF, ↓dBinS, ↓dLenS, ↓dSl, ↓dSlS, ↓dNo, ↓dPt, ↓dStL, ↓dApp, ↓dExt, ↓dJoin, ↓dRg1, ↓dRg2, ↓dTupRg, ↓dLstRg, ↓oSub, ↓oMulI, ↓oMul, ↓oFdiv, ↓oMod, ↓oPow, ↓oShr, ↓oXor, ↓oNeg, ↓oAdd, ↓oAug, ↓oLt, ↓oLe, ↓oGt, ↓oGe, ↓oI, ↓oIx, ↓oLen, ↓oInt, ↓oOrd, ↓oAbs, ↓oStL, ↓oIn, ↓oNin, ↓oInB, ↓isi_int, ↓isi_int_bl, ↓isi_int_str, ↓isi_int_tup, ↓isi_int_lst, ↓isi_str, ↓isi_str_int, ↓isi_tup, ↓isi_tup_int, ↓isi_tup_str, ↓isi_tup_lst, ↓isi_lst, ↓isi_lst_tup, ↓isi_lst_int, ↓isi_lst_str, ↓cv, ↓Cell.val, ↓Cell.up, ↓Cell.own, ↓lenD, ↓itemsOf, List.getElem?_cons_zero, List.getElem?_cons_succ, List.set_cons_zero, List.set_cons_succ, Option.bind_some, Option.isSome_some, List.length_cons, List.length_nil, true_and, and_true, ↓ixN_lit, ↓atI_lit, ↓reduceIte, Nat.reduceAdd, Nat.reduceLT, Nat.reduceSub, Nat.zero_add, Nat.reduceLeDiff, Nat.lt_add_one, Nat.zero_lt_succ, ↓oEq_int, ↓oNe_int, ↓oEq_str, ↓oNe_str, ↓oEq_bl, ↓oNe_bl, decide_eq_true_eq, Bool.false_eq_true, ↓u_while, ↓ownAt, List.all_cons, List.all_nil, Bool.and_true, List.getD_cons_zero, List.getD_cons_succ, Bool.not_false, ↓oLe_sign]
      have hT' : decide (1 < c.length) = true → _ := hT
      have hF' : decide (1 < c.length) = false → _ := hF
      by_cases z : 1 < c.length
      · rw [if_pos (by omega)]
        exact hT' (decide_eq_true z) _ rfl
      · rw [if_neg (by omega)]
        exact hF' (decide_eq_false z) _ rfl
    · simp only [rest_of_wipe hw, ↓dSeq, ↓dNext, ↓dBreak, ↓dCont, ↓dNever, ↓dRet, ↓dRetN, ↓dDrop, ↓dSet, ↓dIf, ↓dAug, ↓dAsg, ↓dPar, ↓dVar, ↓dMove, ↓dC, ↓dFz, ↓dUp, ↓dNil, ↓dCons, ↓dTup, ↓dLst, ↓dBin, ↓dUn, ↓dChain, ↓dTest, ↓dAnd, ↓dOr, ↓dNot, ↓dAndV, ↓dOrV, ↓dNotV, ↓dIfE, ↓dgName, ↓dgNil, ↓dgCons, ↓dgTup, ↓dIt, ↓dRng1, ↓dRng2, ↓dZip, ↓dEnum, ↓u_for, ↓u_lc, ↓dYes, ↓u_call, ↓u_callF, ↓u_callIo, ↓dCB, ↓dCBF, ↓dBinS, ↓dLenS, ↓dSl, ↓dSlS, ↓dNo, ↓dPt, ↓dStL, ↓dApp, ↓dExt, ↓dJoin, ↓dRg1, ↓dRg2, ↓dTupRg, ↓dLstRg, ↓oSub, ↓oMulI, ↓oMul, ↓oFdiv, ↓oMod, ↓oPow, ↓oShr, ↓oXor, ↓oNeg, ↓oAdd, ↓oAug, ↓oLt, ↓oLe, ↓oGt, ↓oGe, ↓oI, ↓oIx, ↓oLen, ↓oInt, ↓oOrd, ↓oAbs, ↓oStL, ↓oIn, ↓oNin, ↓oInB, ↓isi_int, ↓isi_int_bl, ↓isi_int_str, ↓isi_int_tup, ↓isi_int_lst, ↓isi_str, ↓isi_str_int, ↓isi_tup, ↓isi_tup_int, ↓isi_tup_str, ↓isi_tup_lst, ↓isi_lst, ↓isi_lst_tup, ↓isi_lst_int, ↓isi_lst_str, ↓cv, ↓Cell.val, ↓Cell.up, ↓Cell.own, ↓lenD, ↓itemsOf, List.getElem?_cons_zero, List.getElem?_cons_succ, List.set_cons_zero, List.set_cons_succ, Option.bind_some, Option.isSome_some, List.length_cons, List.length_nil, true_and, and_true, ↓ixN_lit, ↓atI_lit, ↓reduceIte, Nat.reduceAdd, Nat.reduceLT, Nat.reduceSub, Nat.zero_add, Nat.reduceLeDiff, Nat.lt_add_one, Nat.zero_lt_succ, ↓oEq_int, ↓oNe_int, ↓oEq_str, ↓oNe_str, ↓oEq_bl, ↓oNe_bl, decide_eq_true_eq, Bool.false_eq_true, ↓u_while, ↓ownAt, List.all_cons, List.all_nil, Bool.and_true, List.getD_cons_zero, List.getD_cons_succ, Bool.not_false, ↓oLe_sign]
      have fin : k [.un, .ow h4.d, .fz (.lst (sl ms)), .fz (.tup (sl md)), .ow (.lst [.tup (sl P), .tup (sl Q)]), .ow (.lst [.int (p.1.length : Nat), .int (q.1.length : Nat)]), x6, x7, .fz (.lst [.tup (il (groupsL P)), .tup (il (groupsL Q))]), x9, .un, .un] := by
        subst hk
        simp only [↓dSeq, ↓dNext, ↓dBreak, ↓dCont, ↓dNever, ↓dRet, ↓dRetN, ↓dDrop, ↓dSet, ↓dIf, ↓dAug, ↓dAsg, ↓dPar, ↓dVar, ↓dMove, ↓dC, ↓dFz, ↓dUp, ↓dNil, ↓dCons, ↓dTup, ↓dLst, ↓dBin, ↓dUn, ↓dChain, ↓dTest, ↓dAnd, ↓dOr, ↓dNot, ↓dAndV, ↓dOrV, ↓dNotV, ↓dIfE, ↓dgName, ↓dgNil, ↓dgCons, ↓dgTup, ↓dIt, ↓dRng1, ↓dRng2, ↓dZip, ↓dEnum, ↓u_for, ↓u_lc, ↓dYes, ↓u_call, ↓u_callF, ↓u_callIo, ↓dCB, ↓dCBF, ↓dBinS, ↓dLenS, ↓dSl, ↓dSlS, ↓dNo, ↓dPt, ↓dStL, ↓dApp, ↓dExt, ↓dJoin, ↓dRg1, ↓dRg2, ↓dTupRg, ↓dLstRg, ↓oSub, ↓oMulI, ↓oMul, ↓oFdiv, ↓oMod, ↓oPow, ↓oShr, ↓oXor, ↓oNeg, ↓oAdd, ↓oAug, ↓oLt, ↓oLe, ↓oGt, ↓oGe, ↓oI, ↓oIx, ↓oLen, ↓oInt, ↓oOrd, ↓oAbs, ↓oStL, ↓oIn, ↓oNin, ↓oInB, ↓isi_int, ↓isi_int_bl, ↓isi_int_str, ↓isi_int_tup, ↓isi_int_lst, ↓isi_str, ↓isi_str_int, ↓isi_tup, ↓isi_tup_int, ↓isi_tup_str, ↓isi_tup_lst, ↓isi_lst, ↓isi_lst_tup, ↓isi_lst_int, ↓isi_lst_str, ↓cv, ↓Cell.val, ↓Cell.up, ↓Cell.own, ↓lenD, ↓itemsOf, List.getElem?_cons_zero, List.getElem?_cons_succ, List.set_cons_zero, List.set_cons_succ, Option.bind_some, Option.isSome_some, List.length_cons, List.length_nil, true_and, and_true, ↓ixN_lit, ↓atI_lit, ↓reduceIte, Nat.reduceAdd, Nat.reduceLT, Nat.reduceSub, Nat.zero_add, Nat.reduceLeDiff, Nat.lt_add_one, Nat.zero_lt_succ, ↓oEq_int, ↓oNe_int, ↓oEq_str, ↓oNe_str, ↓oEq_bl, ↓oNe_bl, decide_eq_true_eq, Bool.false_eq_true, ↓u_while, ↓ownAt, List.all_cons, List.all_nil, Bool.and_true, List.getD_cons_zero, List.getD_cons_succ, Bool.not_false, ↓oLe_sign]
        rfl
      by_cases z : (((sl ms).filter fun d => match d with | .str l => decide (1 < l.length) | _ => false).map fun d => d).length = 0
      · rw [if_pos (by omega)]
        subst hA
        have one : ∀ w ∈ ms, w.length = 1 := by
          intro w hw2
          have l1 := (mn.1 w hw2).2.1
          by_cases c : 1 < w.length
          · rw [List.map_id'] at z
            have z2 := List.eq_nil_of_length_eq_zero z
            have : D.str w ∈ ((sl ms).filter fun d => match d with | .str l => decide (1 < l.length) | _ => false) := List.mem_filter.mpr ⟨List.mem_map.mpr ⟨w, hw2, rfl⟩, decide_eq_true c⟩
            rw [z2] at this
            cases this
          · omega
        simp only [↓dSeq, ↓dNext, ↓dBreak, ↓dCont, ↓dNever, ↓dRet, ↓dRetN, ↓dDrop, ↓dSet, ↓dIf, ↓dAug, ↓dAsg, ↓dPar, ↓dVar, ↓dMove, ↓dC, ↓dFz, ↓dUp, ↓dNil, ↓dCons, ↓dTup, ↓dLst, ↓dBin, ↓dUn, ↓dChain, ↓dTest, ↓dAnd, ↓dOr, ↓dNot, ↓dAndV, ↓dOrV, ↓dNotV, ↓dIfE, ↓dgName, ↓dgNil, ↓dgCons, ↓dgTup, ↓dIt, ↓dRng1, ↓dRng2, ↓dZip, ↓dEnum, ↓u_for, ↓u_lc, ↓dYes, ↓u_call, ↓u_callF, ↓u_callIo, ↓dCB, ↓dCBF, ↓dBinS, ↓dLenS, ↓dSl, ↓dSlS, ↓dNo, ↓dPt, ↓dStL, ↓dApp, ↓dExt, ↓dJoin, ↓dRg1, ↓dRg2, ↓dTupRg, ↓dLstRg, ↓oSub, ↓oMulI, ↓oMul, ↓oFdiv, ↓oMod, ↓oPow, ↓oShr, ↓oXor, ↓oNeg, ↓oAdd, ↓oAug, ↓oLt, ↓oLe, ↓oGt, ↓oGe, ↓oI, ↓oIx, ↓oLen, ↓oInt, ↓oOrd, ↓oAbs, ↓oStL, ↓oIn, ↓oNin, ↓oInB, ↓isi_int, ↓isi_int_bl, ↓isi_int_str, ↓isi_int_tup, ↓isi_int_lst, ↓isi_str, ↓isi_str_int, ↓isi_tup, ↓isi_tup_int, ↓isi_tup_str, ↓isi_tup_lst, ↓isi_lst, ↓isi_lst_tup, ↓isi_lst_int, ↓isi_lst_str, ↓cv, ↓Cell.val, ↓Cell.up, ↓Cell.own, ↓lenD, ↓itemsOf, List.getElem?_cons_zero, List.getElem?_cons_succ, List.set_cons_zero, List.set_cons_succ, Option.bind_some, Option.isSome_some, List.length_cons, List.length_nil, true_and, and_true, ↓ixN_lit, ↓atI_lit, ↓reduceIte, Nat.reduceAdd, Nat.reduceLT, Nat.reduceSub, Nat.zero_add, Nat.reduceLeDiff, Nat.lt_add_one, Nat.zero_lt_succ, ↓oEq_int, ↓oNe_int, ↓oEq_str, ↓oNe_str, ↓oEq_bl, ↓oNe_bl, decide_eq_true_eq, Bool.false_eq_true, ↓u_while, ↓ownAt, List.all_cons, List.all_nil, Bool.and_true, List.getD_cons_zero, List.getD_cons_succ, Bool.not_false, ↓oLe_sign]
        have turn : ∀ (R : List (List Nat)) (kk : Env → Prop) (ii : Int) (y6 y10 : Cell), (∀ w ∈ R, w ∈ ms) → 10 ≤ R.length → R.length ≤ 55 → atI [D.tup (sl P), D.tup (sl Q)] ii = some (.tup (sl R)) → atI [D.tup (il (groupsL P)), D.tup (il (groupsL Q))] ii = some (.tup (il (groupsL R))) →
            (∀ y10', kk [.un, .ow h4.d, .fz (.lst (sl ms)), .fz (.tup (sl md)), .ow (.lst [.tup (sl P), .tup (sl Q)]), .ow (.lst [.int (p.1.length : Nat), .int (q.1.length : Nat)]), .fz (.int ii), x7, .fz (.lst [.tup (il (groupsL P)), .tup (il (groupsL Q))]), x9, y10', .un]) →
            dSeq (dSet 10 (dUp (dFz (dCallF S_levels (dCons (dJoin (dC (.str [])) (dBinS 4 oIx (dVar 6))) dNil))))) (dIf (dNot (dTest (dCall S__law_same (dCons (dBinS 10 oIx (dC (.int 1))) (dCons (dBinS 8 oIx (dVar 6)) dNil))))) (dRet (dUp (dC (.bl false)))) dNext) { nx := kk, rt := lawEnds.rt, bk := k, ct := kk } [.un, .ow h4.d, .fz (.lst (sl ms)), .fz (.tup (sl md)), .ow (.lst [.tup (sl P), .tup (sl Q)]), .ow (.lst [.int (p.1.length : Nat), .int (q.1.length : Nat)]), .fz (.int ii), x7, .fz (.lst [.tup (il (groupsL P)), .tup (il (groupsL Q))]), x9, y10, .un] := by
          intro R kk ii y6 y10 hR r1 r2 a1 a2 hkk
          have o1 : ∀ w ∈ R, w.length = 1 := fun w h => one w (hR w h)
          have fl := ones_len o1
          refine seq_gen fun k3 hk3 => ?_
          simp only [↓dSeq, ↓dNext, ↓dBreak, ↓dCont, ↓dNever, ↓dRet, ↓dRetN, ↓dDrop, ↓dSet, ↓dIf, ↓dAug, ↓dAsg, ↓dPar, ↓dVar, ↓dMove, ↓dC, ↓dFz, ↓dUp, ↓dNil, ↓dCons, ↓dTup, ↓dLst, ↓dBin, ↓dUn, ↓dChain, ↓dTest, ↓dAnd, ↓dOr, ↓dNot, ↓dAndV, ↓dOrV, ↓dNotV, ↓dIfE, ↓dgName, ↓dgNil, ↓dgCons, ↓dgTup, ↓dIt, ↓dRng1, ↓dRng2, ↓dZip, ↓dEnum, ↓u_for, ↓u_lc, ↓dYes, ↓u_call, ↓u_callF, ↓u_callIo, ↓dCB, ↓dCBF, ↓dBinS, ↓dLenS, ↓dSl, ↓dSlS, ↓dNo, ↓dPt, ↓dStL, ↓dApp, ↓dExt, ↓dJoin, ↓dRg1, ↓dRg2, ↓dTupRg, ↓dLstRg, ↓oSub, ↓oMulI, ↓oMul, ↓oFdiv, ↓oMod, ↓oPow, ↓oShr, ↓oXor, ↓oNeg, ↓oAdd, ↓oAug, ↓oLt, ↓oLe, ↓oGt, ↓oGe, ↓oI, ↓oIx, ↓oLen, ↓oInt, ↓oOrd, ↓oAbs, ↓oStL, ↓oIn, ↓oNin, ↓oInB, ↓isi_int, ↓isi_int_bl, ↓isi_int_str, ↓isi_int_tup, ↓isi_int_lst, ↓isi_str, ↓isi_str_int, ↓isi_tup, ↓isi_tup_int, ↓isi_tup_str, ↓isi_tup_lst, ↓isi_lst, ↓isi_lst_tup, ↓isi_lst_int, ↓isi_lst_str, ↓cv, ↓Cell.val, ↓Cell.up, ↓Cell.own, ↓lenD, ↓itemsOf, List.getElem?_cons_zero, List.getElem?_cons_succ, List.set_cons_zero, List.set_cons_succ, Option.bind_some, Option.isSome_some, List.length_cons, List.length_nil, true_and, and_true, ↓ixN_lit, ↓atI_lit, ↓reduceIte, Nat.reduceAdd, Nat.reduceLT, Nat.reduceSub, Nat.zero_add, Nat.reduceLeDiff, Nat.lt_add_one, Nat.zero_lt_succ, ↓oEq_int, ↓oNe_int, ↓oEq_str, ↓oNe_str, ↓oEq_bl, ↓oNe_bl, decide_eq_true_eq, Bool.false_eq_true, ↓u_while, ↓ownAt, List.all_cons, List.all_nil, Bool.and_true, List.getD_cons_zero, List.getD_cons_succ, Bool.not_false, ↓oLe_sign, a1, itemsLT, strsOf_sl, joinL_nil]
          refine ⟨by rw [sum_len_ones o1]; simp; omega, rfl, onM R.flatten rfl ⟨signs_flat fun w h => (mn.1 w (hR w h)).1, by omega⟩ ?_⟩
          rintro r os ⟨rfl, more, rfl, hm⟩
          obtain ⟨more2, rfl⟩ := hm (by omega)
          simp only [↓dSeq, ↓dNext, ↓dBreak, ↓dCont, ↓dNever, ↓dRet, ↓dRetN, ↓dDrop, ↓dSet, ↓dIf, ↓dAug, ↓dAsg, ↓dPar, ↓dVar, ↓dMove, ↓dC, ↓dFz, ↓dUp, ↓dNil, ↓dCons, ↓dTup, ↓dLst, ↓dBin, ↓dUn, ↓dChain, ↓dTest, ↓dAnd, ↓dOr, ↓dNot, ↓dAndV, ↓dOrV, ↓dNotV, ↓dIfE, ↓dgName, ↓dgNil, ↓dgCons, ↓dgTup, ↓dIt, ↓dRng1, ↓dRng2, ↓dZip, ↓dEnum, ↓u_for, ↓u_lc, ↓dYes, ↓u_call, ↓u_callF, ↓u_callIo, ↓dCB, ↓dCBF, ↓dBinS, ↓dLenS, ↓dSl, ↓dSlS, ↓dNo, ↓dPt, ↓dStL, ↓dApp, ↓dExt, ↓dJoin, ↓dRg1, ↓dRg2, ↓dTupRg, ↓dLstRg, ↓oSub, ↓oMulI, ↓oMul, ↓oFdiv, ↓oMod, ↓oPow, ↓oShr, ↓oXor, ↓oNeg, ↓oAdd, ↓oAug, ↓oLt, ↓oLe, ↓oGt, ↓oGe, ↓oI, ↓oIx, ↓oLen, ↓oInt, ↓oOrd, ↓oAbs, ↓oStL, ↓oIn, ↓oNin, ↓oInB, ↓isi_int, ↓isi_int_bl, ↓isi_int_str, ↓isi_int_tup, ↓isi_int_lst, ↓isi_str, ↓isi_str_int, ↓isi_tup, ↓isi_tup_int, ↓isi_tup_str, ↓isi_tup_lst, ↓isi_lst, ↓isi_lst_tup, ↓isi_lst_int, ↓isi_lst_str, ↓cv, ↓Cell.val, ↓Cell.up, ↓Cell.own, ↓lenD, ↓itemsOf, List.getElem?_cons_zero, List.getElem?_cons_succ, List.set_cons_zero, List.set_cons_succ, Option.bind_some, Option.isSome_some, List.length_cons, List.length_nil, true_and, and_true, ↓ixN_lit, ↓atI_lit, ↓reduceIte, Nat.reduceAdd, Nat.reduceLT, Nat.reduceSub, Nat.zero_add, Nat.reduceLeDiff, Nat.lt_add_one, Nat.zero_lt_succ, ↓oEq_int, ↓oNe_int, ↓oEq_str, ↓oNe_str, ↓oEq_bl, ↓oNe_bl, decide_eq_true_eq, Bool.false_eq_true, ↓u_while, ↓ownAt, List.all_cons, List.all_nil, Bool.and_true, List.getD_cons_zero, List.getD_cons_succ, Bool.not_false, ↓oLe_sign]
          subst hk3
          have e5 : nextB R.flatten (List.range R.flatten.length) = groupsL R := by
            rw [nextB_range, ones_flat o1]
          have e6 : (tl (List.range R.flatten.length :: nextB R.flatten (List.range R.flatten.length) :: more2))[1]? = some (.tup (il (groupsL R))) := by
            rw [← e5] <;> rfl
          have a2' := a2
          simp only [↓dSeq, ↓dNext, ↓dBreak, ↓dCont, ↓dNever, ↓dRet, ↓dRetN, ↓dDrop, ↓dSet, ↓dIf, ↓dAug, ↓dAsg, ↓dPar, ↓dVar, ↓dMove, ↓dC, ↓dFz, ↓dUp, ↓dNil, ↓dCons, ↓dTup, ↓dLst, ↓dBin, ↓dUn, ↓dChain, ↓dTest, ↓dAnd, ↓dOr, ↓dNot, ↓dAndV, ↓dOrV, ↓dNotV, ↓dIfE, ↓dgName, ↓dgNil, ↓dgCons, ↓dgTup, ↓dIt, ↓dRng1, ↓dRng2, ↓dZip, ↓dEnum, ↓u_for, ↓u_lc, ↓dYes, ↓u_call, ↓u_callF, ↓u_callIo, ↓dCB, ↓dCBF, ↓dBinS, ↓dLenS, ↓dSl, ↓dSlS, ↓dNo, ↓dPt, ↓dStL, ↓dApp, ↓dExt, ↓dJoin, ↓dRg1, ↓dRg2, ↓dTupRg, ↓dLstRg, ↓oSub, ↓oMulI, ↓oMul, ↓oFdiv, ↓oMod, ↓oPow, ↓oShr, ↓oXor, ↓oNeg, ↓oAdd, ↓oAug, ↓oLt, ↓oLe, ↓oGt, ↓oGe, ↓oI, ↓oIx, ↓oLen, ↓oInt, ↓oOrd, ↓oAbs, ↓oStL, ↓oIn, ↓oNin, ↓oInB, ↓isi_int, ↓isi_int_bl, ↓isi_int_str, ↓isi_int_tup, ↓isi_int_lst, ↓isi_str, ↓isi_str_int, ↓isi_tup, ↓isi_tup_int, ↓isi_tup_str, ↓isi_tup_lst, ↓isi_lst, ↓isi_lst_tup, ↓isi_lst_int, ↓isi_lst_str, ↓cv, ↓Cell.val, ↓Cell.up, ↓Cell.own, ↓lenD, ↓itemsOf, List.getElem?_cons_zero, List.getElem?_cons_succ, List.set_cons_zero, List.set_cons_succ, Option.bind_some, Option.isSome_some, List.length_cons, List.length_nil, true_and, and_true, ↓ixN_lit, ↓atI_lit, ↓reduceIte, Nat.reduceAdd, Nat.reduceLT, Nat.reduceSub, Nat.zero_add, Nat.reduceLeDiff, Nat.lt_add_one, Nat.zero_lt_succ, ↓oEq_int, ↓oNe_int, ↓oEq_str, ↓oNe_str, ↓oEq_bl, ↓oNe_bl, decide_eq_true_eq, Bool.false_eq_true, ↓u_while, ↓ownAt, List.all_cons, List.all_nil, Bool.and_true, List.getD_cons_zero, List.getD_cons_succ, Bool.not_false, ↓oLe_sign, e6]
          rw [a2]
          simp only [↓dSeq, ↓dNext, ↓dBreak, ↓dCont, ↓dNever, ↓dRet, ↓dRetN, ↓dDrop, ↓dSet, ↓dIf, ↓dAug, ↓dAsg, ↓dPar, ↓dVar, ↓dMove, ↓dC, ↓dFz, ↓dUp, ↓dNil, ↓dCons, ↓dTup, ↓dLst, ↓dBin, ↓dUn, ↓dChain, ↓dTest, ↓dAnd, ↓dOr, ↓dNot, ↓dAndV, ↓dOrV, ↓dNotV, ↓dIfE, ↓dgName, ↓dgNil, ↓dgCons, ↓dgTup, ↓dIt, ↓dRng1, ↓dRng2, ↓dZip, ↓dEnum, ↓u_for, ↓u_lc, ↓dYes, ↓u_call, ↓u_callF, ↓u_callIo, ↓dCB, ↓dCBF, ↓dBinS, ↓dLenS, ↓dSl, ↓dSlS, ↓dNo, ↓dPt, ↓dStL, ↓dApp, ↓dExt, ↓dJoin, ↓dRg1, ↓dRg2, ↓dTupRg, ↓dLstRg, ↓oSub, ↓oMulI, ↓oMul, ↓oFdiv, ↓oMod, ↓oPow, ↓oShr, ↓oXor, ↓oNeg, ↓oAdd, ↓oAug, ↓oLt, ↓oLe, ↓oGt, ↓oGe, ↓oI, ↓oIx, ↓oLen, ↓oInt, ↓oOrd, ↓oAbs, ↓oStL, ↓oIn, ↓oNin, ↓oInB, ↓isi_int, ↓isi_int_bl, ↓isi_int_str, ↓isi_int_tup, ↓isi_int_lst, ↓isi_str, ↓isi_str_int, ↓isi_tup, ↓isi_tup_int, ↓isi_tup_str, ↓isi_tup_lst, ↓isi_lst, ↓isi_lst_tup, ↓isi_lst_int, ↓isi_lst_str, ↓cv, ↓Cell.val, ↓Cell.up, ↓Cell.own, ↓lenD, ↓itemsOf, List.getElem?_cons_zero, List.getElem?_cons_succ, List.set_cons_zero, List.set_cons_succ, Option.bind_some, Option.isSome_some, List.length_cons, List.length_nil, true_and, and_true, ↓ixN_lit, ↓atI_lit, ↓reduceIte, Nat.reduceAdd, Nat.reduceLT, Nat.reduceSub, Nat.zero_add, Nat.reduceLeDiff, Nat.lt_add_one, Nat.zero_lt_succ, ↓oEq_int, ↓oNe_int, ↓oEq_str, ↓oNe_str, ↓oEq_bl, ↓oNe_bl, decide_eq_true_eq, Bool.false_eq_true, ↓u_while, ↓ownAt, List.all_cons, List.all_nil, Bool.and_true, List.getD_cons_zero, List.getD_cons_succ, Bool.not_false, ↓oLe_sign]
          refine ⟨rfl, onF (groupsL R) rfl trivial ?_⟩
          simp only [↓dSeq, ↓dNext, ↓dBreak, ↓dCont, ↓dNever, ↓dRet, ↓dRetN, ↓dDrop, ↓dSet, ↓dIf, ↓dAug, ↓dAsg, ↓dPar, ↓dVar, ↓dMove, ↓dC, ↓dFz, ↓dUp, ↓dNil, ↓dCons, ↓dTup, ↓dLst, ↓dBin, ↓dUn, ↓dChain, ↓dTest, ↓dAnd, ↓dOr, ↓dNot, ↓dAndV, ↓dOrV, ↓dNotV, ↓dIfE, ↓dgName, ↓dgNil, ↓dgCons, ↓dgTup, ↓dIt, ↓dRng1, ↓dRng2, ↓dZip, ↓dEnum, ↓u_for, ↓u_lc, ↓dYes, ↓u_call, ↓u_callF, ↓u_callIo, ↓dCB, ↓dCBF, ↓dBinS, ↓dLenS, ↓dSl, ↓dSlS, ↓dNo, ↓dPt, ↓dStL, ↓dApp, ↓dExt, ↓dJoin, ↓dRg1, ↓dRg2, ↓dTupRg, ↓dLstRg, ↓oSub, ↓oMulI, ↓oMul, ↓oFdiv, ↓oMod, ↓oPow, ↓oShr, ↓oXor, ↓oNeg, ↓oAdd, ↓oAug, ↓oLt, ↓oLe, ↓oGt, ↓oGe, ↓oI, ↓oIx, ↓oLen, ↓oInt, ↓oOrd, ↓oAbs, ↓oStL, ↓oIn, ↓oNin, ↓oInB, ↓isi_int, ↓isi_int_bl, ↓isi_int_str, ↓isi_int_tup, ↓isi_int_lst, ↓isi_str, ↓isi_str_int, ↓isi_tup, ↓isi_tup_int, ↓isi_tup_str, ↓isi_tup_lst, ↓isi_lst, ↓isi_lst_tup, ↓isi_lst_int, ↓isi_lst_str, ↓cv, ↓Cell.val, ↓Cell.up, ↓Cell.own, ↓lenD, ↓itemsOf, List.getElem?_cons_zero, List.getElem?_cons_succ, List.set_cons_zero, List.set_cons_succ, Option.bind_some, Option.isSome_some, List.length_cons, List.length_nil, true_and, and_true, ↓ixN_lit, ↓atI_lit, ↓reduceIte, Nat.reduceAdd, Nat.reduceLT, Nat.reduceSub, Nat.zero_add, Nat.reduceLeDiff, Nat.lt_add_one, Nat.zero_lt_succ, ↓oEq_int, ↓oNe_int, ↓oEq_str, ↓oNe_str, ↓oEq_bl, ↓oNe_bl, decide_eq_true_eq, Bool.false_eq_true, ↓u_while, ↓ownAt, List.all_cons, List.all_nil, Bool.and_true, List.getD_cons_zero, List.getD_cons_succ, Bool.not_false, ↓oLe_sign, Bool.not_true]
          exact hkk _
        have er2 : rangeD 0 (Int.toNat 2) = [.int 0, .int 1] := rfl
        rw [er2]
        refine ⟨by decide, by decide, ?_⟩
        refine forB_of ?_
        show dSeq _ _ _ _
        refine turn P _ 0 x6 .un inP lenP.1 lenP.2 rfl rfl fun y10 => ?_
        show dSeq _ _ _ _
        refine turn Q _ 1 x6 y10 inQ lenQ.1 lenQ.2 rfl rfl fun y10 => ?_
        show k _
        subst hk
        simp only [↓dSeq, ↓dNext, ↓dBreak, ↓dCont, ↓dNever, ↓dRet, ↓dRetN, ↓dDrop, ↓dSet, ↓dIf, ↓dAug, ↓dAsg, ↓dPar, ↓dVar, ↓dMove, ↓dC, ↓dFz, ↓dUp, ↓dNil, ↓dCons, ↓dTup, ↓dLst, ↓dBin, ↓dUn, ↓dChain, ↓dTest, ↓dAnd, ↓dOr, ↓dNot, ↓dAndV, ↓dOrV, ↓dNotV, ↓dIfE, ↓dgName, ↓dgNil, ↓dgCons, ↓dgTup, ↓dIt, ↓dRng1, ↓dRng2, ↓dZip, ↓dEnum, ↓u_for, ↓u_lc, ↓dYes, ↓u_call, ↓u_callF, ↓u_callIo, ↓dCB, ↓dCBF, ↓dBinS, ↓dLenS, ↓dSl, ↓dSlS, ↓dNo, ↓dPt, ↓dStL, ↓dApp, ↓dExt, ↓dJoin, ↓dRg1, ↓dRg2, ↓dTupRg, ↓dLstRg, ↓oSub, ↓oMulI, ↓oMul, ↓oFdiv, ↓oMod, ↓oPow, ↓oShr, ↓oXor, ↓oNeg, ↓oAdd, ↓oAug, ↓oLt, ↓oLe, ↓oGt, ↓oGe, ↓oI, ↓oIx, ↓oLen, ↓oInt, ↓oOrd, ↓oAbs, ↓oStL, ↓oIn, ↓oNin, ↓oInB, ↓isi_int, ↓isi_int_bl, ↓isi_int_str, ↓isi_int_tup, ↓isi_int_lst, ↓isi_str, ↓isi_str_int, ↓isi_tup, ↓isi_tup_int, ↓isi_tup_str, ↓isi_tup_lst, ↓isi_lst, ↓isi_lst_tup, ↓isi_lst_int, ↓isi_lst_str, ↓cv, ↓Cell.val, ↓Cell.up, ↓Cell.own, ↓lenD, ↓itemsOf, List.getElem?_cons_zero, List.getElem?_cons_succ, List.set_cons_zero, List.set_cons_succ, Option.bind_some, Option.isSome_some, List.length_cons, List.length_nil, true_and, and_true, ↓ixN_lit, ↓atI_lit, ↓reduceIte, Nat.reduceAdd, Nat.reduceLT, Nat.reduceSub, Nat.zero_add, Nat.reduceLeDiff, Nat.lt_add_one, Nat.zero_lt_succ, ↓oEq_int, ↓oNe_int, ↓oEq_str, ↓oNe_str, ↓oEq_bl, ↓oNe_bl, decide_eq_true_eq, Bool.false_eq_true, ↓u_while, ↓ownAt, List.all_cons, List.all_nil, Bool.and_true, List.getD_cons_zero, List.getD_cons_succ, Bool.not_false, ↓oLe_sign]
        rfl
      · rw [if_neg (by omega)]
        subst hB
        exact fin
  · obtain ⟨i0, hi0, rfl⟩ := List.mem_map.mp hi
    have := List.mem_range.mp hi0
    omega
end DL

namespace DL
open PySem PySem.Spec PyProof.Rows L2
def topS (i : Nat) : Stmt := PySem.Challenge.pw_everypiece_k09_whole_groups_hang_on_ten.main.body.getD i (.Pass ⟨0, 0, 0, 0⟩)
abbrev st_are_signs : Stmt := topS 8
theorem sc_are_signs : FnScope ["thing", "sign"] ["thing"] (defScope st_are_signs) := ⟨rfl, rfl, rfl, by decide +kernel, rfl, by decide +kernel, by decide +kernel⟩
abbrev st_is_word : Stmt := topS 9
theorem sc_is_word : FnScope ["thing"] ["thing"] (defScope st_is_word) := ⟨rfl, rfl, rfl, by decide +kernel, rfl, by decide +kernel, by decide +kernel⟩
abbrev st_is_text : Stmt := topS 10
theorem sc_is_text : FnScope ["thing"] ["thing"] (defScope st_is_text) := ⟨rfl, rfl, rfl, by decide +kernel, rfl, by decide +kernel, by decide +kernel⟩
abbrev st_check_text : Stmt := topS 11
theorem sc_check_text : FnScope ["thing"] ["thing"] (defScope st_check_text) := ⟨rfl, rfl, rfl, by decide +kernel, rfl, by decide +kernel, by decide +kernel⟩
abbrev st_number_of_name : Stmt := topS 15
theorem sc_number_of_name : FnScope ["name", "found", "sign"] ["name"] (defScope st_number_of_name) := ⟨rfl, rfl, rfl, by decide +kernel, rfl, by decide +kernel, by decide +kernel⟩
abbrev st_lowest_unlike : Stmt := topS 16
theorem sc_lowest_unlike : FnScope ["one", "other", "unlike", "place"] ["one", "other"] (defScope st_lowest_unlike) := ⟨rfl, rfl, rfl, by decide +kernel, rfl, by decide +kernel, by decide +kernel⟩
abbrev st_next_coins : Stmt := topS 17
theorem sc_next_coins : FnScope ["row", "found", "ahead", "here", "place"] ["row"] (defScope st_next_coins) := ⟨rfl, rfl, rfl, by decide +kernel, rfl, by decide +kernel, by decide +kernel⟩
abbrev st_coins_of : Stmt := topS 18
theorem sc_coins_of : FnScope ["names", "found", "turn", "name"] ["names"] (defScope st_coins_of) := ⟨rfl, rfl, rfl, by decide +kernel, rfl, by decide +kernel, by decide +kernel⟩
abbrev st_are_names : Stmt := topS 19
theorem sc_are_names : FnScope ["thing", "name"] ["thing"] (defScope st_are_names) := ⟨rfl, rfl, rfl, by decide +kernel, rfl, by decide +kernel, by decide +kernel⟩
abbrev st_stretches : Stmt := topS 20
theorem sc_stretches : FnScope ["names", "found", "begin", "end"] ["names"] (defScope st_stretches) := ⟨rfl, rfl, rfl, by decide +kernel, rfl, by decide +kernel, by decide +kernel⟩
abbrev st_peaks : Stmt := topS 21
theorem sc_peaks : FnScope ["row", "at"] ["row"] (defScope st_peaks) := ⟨rfl, rfl, rfl, by decide +kernel, rfl, by decide +kernel, by decide +kernel⟩
abbrev st_groups_of : Stmt := topS 22
theorem sc_groups_of : FnScope ["names", "found", "begin", "end", "at"] ["names"] (defScope st_groups_of) := ⟨rfl, rfl, rfl, by decide +kernel, rfl, by decide +kernel, by decide +kernel⟩
abbrev st_groups : Stmt := topS 23
theorem sc_groups : FnScope ["names"] ["names"] (defScope st_groups) := ⟨rfl, rfl, rfl, by decide +kernel, rfl, by decide +kernel, by decide +kernel⟩
abbrev st_names_of : Stmt := topS 24
theorem sc_names_of : FnScope ["text", "begins", "ends", "begin", "end"] ["text", "begins"] (defScope st_names_of) := ⟨rfl, rfl, rfl, by decide +kernel, rfl, by decide +kernel, by decide +kernel⟩
abbrev st_levels_of : Stmt := topS 25
theorem sc_levels_of : FnScope ["text", "found", "begins", "number"] ["text"] (defScope st_levels_of) := ⟨rfl, rfl, rfl, by decide +kernel, rfl, by decide +kernel, by decide +kernel⟩
abbrev st_levels : Stmt := topS 26
theorem sc_levels : FnScope ["text"] ["text"] (defScope st_levels) := ⟨rfl, rfl, rfl, by decide +kernel, rfl, by decide +kernel, by decide +kernel⟩
abbrev st__law_hand : Stmt := topS 28
theorem sc__law_hand : FnScope ["_law_script"] ["_law_script"] (defScope st__law_hand) := ⟨rfl, rfl, rfl, by decide +kernel, rfl, by decide +kernel, by decide +kernel⟩
abbrev st__law_take : Stmt := topS 29
theorem sc__law_take : FnScope ["_law_hand_here", "_law_many", "_law_cell", "_law_found", "_law_number"] ["_law_hand_here", "_law_many"] (defScope st__law_take) := ⟨rfl, rfl, rfl, by decide +kernel, rfl, by decide +kernel, by decide +kernel⟩
abbrev st__law_pick : Stmt := topS 30
theorem sc__law_pick : FnScope ["_law_hand_here", "_law_things"] ["_law_hand_here", "_law_things"] (defScope st__law_pick) := ⟨rfl, rfl, rfl, by decide +kernel, rfl, by decide +kernel, by decide +kernel⟩
abbrev st__law_is_integer : Stmt := topS 31
theorem sc__law_is_integer : FnScope ["_law_thing"] ["_law_thing"] (defScope st__law_is_integer) := ⟨rfl, rfl, rfl, by decide +kernel, rfl, by decide +kernel, by decide +kernel⟩
abbrev st__law_same : Stmt := topS 32
theorem sc__law_same : FnScope ["_law_actual", "_law_due", "_law_one", "_law_other"] ["_law_actual", "_law_due"] (defScope st__law_same) := ⟨rfl, rfl, rfl, by decide +kernel, rfl, by decide +kernel, by decide +kernel⟩
abbrev st__law_alphabet : Stmt := topS 33
theorem sc__law_alphabet : FnScope ["_law_hand_here", "_law_way", "_law_signs"] ["_law_hand_here"] (defScope st__law_alphabet) := ⟨rfl, rfl, rfl, by decide +kernel, rfl, by decide +kernel, by decide +kernel⟩
abbrev st__law_word : Stmt := topS 34
theorem sc__law_word : FnScope ["_law_hand_here", "_law_signs", "_law_least", "_law_most", "_law_many", "_law_k"] ["_law_hand_here", "_law_signs", "_law_least", "_law_most"] (defScope st__law_word) := ⟨rfl, rfl, rfl, by decide +kernel, rfl, by decide +kernel, by decide +kernel⟩
abbrev st__law_menu : Stmt := topS 35
theorem sc__law_menu : FnScope ["_law_hand_here", "_law_signs", "_law_most", "_law_k"] ["_law_hand_here"] (defScope st__law_menu) := ⟨rfl, rfl, rfl, by decide +kernel, rfl, by decide +kernel, by decide +kernel⟩
abbrev st__law_some : Stmt := topS 36
theorem sc__law_some : FnScope ["_law_hand_here", "_law_menu_here", "_law_most", "_law_k"] ["_law_hand_here", "_law_menu_here", "_law_most"] (defScope st__law_some) := ⟨rfl, rfl, rfl, by decide +kernel, rfl, by decide +kernel, by decide +kernel⟩
abbrev st_law : Stmt := topS 37
theorem sc_law : FnScope ["_law_script", "_law_hand_here", "_law_menu_here", "_law_middle", "_law_rows", "_law_shifts", "_law_k", "_law_ahead", "_law_told", "_law_at", "_law_found", "_law_name"] ["_law_script"] (defScope st_law) := ⟨rfl, rfl, rfl, by decide +kernel, rfl, by decide +kernel, by decide +kernel⟩
structure Zs (mg : Str → Option Value) : Prop where
  z_isinstance : mg "isinstance" = none
  z_str : mg "str" = none
  z_all : mg "all" = none
  z_len : mg "len" = none
  z_ord : mg "ord" = none
  z_zip : mg "zip" = none
  z_range : mg "range" = none
  z_tuple : mg "tuple" = none
  z_list : mg "list" = none
  z_int : mg "int" = none
  z_bool : mg "bool" = none
  g_FIRST_SIGN : ∃ t, mg "FIRST_SIGN" = some (.str (S [32]) t)
  g_LAST_SIGN : ∃ t, mg "LAST_SIGN" = some (.str (S [126]) t)
  g_MOST_SIGNS : ∃ t, mg "MOST_SIGNS" = some (.int 2000 t)
  g_BASE : ∃ t, mg "BASE" = some (.int 128 t)
  g_ROUNDS : ∃ t, mg "ROUNDS" = some (.int 5 t)
section
variable {P : Program} {w : World} {K : PySem.W.Frag} {mg : Str → Option Value} {base : Heap}
theorem b_are_signs (Z : Zs mg) (f : Addr) (cdv : Value) (A : Around) (outer : List PySem.Env) (s : Shared) (H : Hp) (E : XK) (hr : Room 0 (A.deeper (envOfC "are_signs" (defScope st_are_signs) s.heap.objs.size f cdv))) :
    PSs (cxOf CX0 P w K mg base ["thing", "sign"] "are_signs" (defScope st_are_signs) f cdv A outer s H E).nox (defBody st_are_signs) (tS D_are_signs) :=
  (dss_one (ds_ret (dx_up (de_and (de_isi "str" (by decide +kernel) Z.z_isinstance Z.z_str (de_var 0 (pv 0))) (de_one (de_cb (cr_all' rfl) Z.z_all (da_cons (de_fz (dx_lc rfl sc_are_signs.nd (own := [("sign", 1)]) (di_any (de_var 0 (pv 0))) (blkOk_by (N := ["thing", "sign"]) (sc := defScope st_are_signs) (by decide +kernel)) (fun _ _ _ _ _ => (dg_name (i := 1) sc_are_signs.nd)) (fun _ _ _ _ _ => dts_nil) (fun _ _ _ _ _ => (de_chain or_le or_le (de_glS (l := [32]) Z.g_FIRST_SIGN) (de_var 1 (pv 1)) (de_glS (l := [126]) Z.g_LAST_SIGN) (fun ha hb hc ho ho2 => pe_chain ho ho2 ha hb hc))) (by decide))) da_nil)))))))
theorem b_number_of_name (Z : Zs mg) (f : Addr) (cdv : Value) (A : Around) (outer : List PySem.Env) (s : Shared) (H : Hp) (E : XK) (hr : Room 0 (A.deeper (envOfC "number_of_name" (defScope st_number_of_name) s.heap.objs.size f cdv))) :
    PSs (cxOf CX0 P w K mg base ["name", "found", "sign"] "number_of_name" (defScope st_number_of_name) f cdv A outer s H E).nox (defBody st_number_of_name) (tS D_number_of_name) :=
  (dss_cons (ds_set (i := 1) sc_number_of_name.nd (dx_up de_int))
  (dss_cons (ds_for PassesOwn.never rfl (di_any (de_var 0 (pv 0))) (dg_name (i := 2) sc_number_of_name.nd) (dss_one (ds_set (i := 1) sc_number_of_name.nd (dx_up (de_op or_add (de_op or_mul (de_var 1 (pv 1)) (de_glI Z.g_BASE)) (de_cb cr_ord Z.z_ord (da_cons (de_var 2 (pv 2)) da_nil)))))))
  (dss_one (ds_ret (dx_up (de_var 1 (pv 1)))))))
theorem b_lowest_unlike (Z : Zs mg) (f : Addr) (cdv : Value) (A : Around) (outer : List PySem.Env) (s : Shared) (H : Hp) (E : XK) (hr : Room 0 (A.deeper (envOfC "lowest_unlike" (defScope st_lowest_unlike) s.heap.objs.size f cdv))) :
    PSs (cxOf CX0 P w K mg base ["one", "other", "unlike", "place"] "lowest_unlike" (defScope st_lowest_unlike) f cdv A outer s H E).nox (defBody st_lowest_unlike) (tS D_lowest_unlike) :=
  (dss_cons (ds_set (i := 2) sc_lowest_unlike.nd (dx_up (de_op or_xor (de_var 0 (pv 0)) (de_var 1 (pv 1)))))
  (dss_cons (ds_set (i := 3) sc_lowest_unlike.nd (dx_up de_int))
  (dss_cons (ds_while PassesOwn.never (dt_cmp (or_eq hr) (de_op or_mod (de_var 2 (pv 2)) de_int) de_int (nomark _)) (dss_cons (ds_set (i := 2) sc_lowest_unlike.nd (dx_up (de_op or_fdiv (de_var 2 (pv 2)) de_int)))
  (dss_one (ds_aug (i := 3) sc_lowest_unlike.nd de_int ir_add))))
  (dss_one (ds_ret (dx_up (de_var 3 (pv 3))))))))
theorem b_stretches (Z : Zs mg) (f : Addr) (cdv : Value) (A : Around) (outer : List PySem.Env) (s : Shared) (H : Hp) (E : XK) (hr : Room 0 (A.deeper (envOfC "stretches" (defScope st_stretches) s.heap.objs.size f cdv))) :
    PSs (cxOf CX0 P w K mg base ["names", "found", "begin", "end"] "stretches" (defScope st_stretches) f cdv A outer s H E).nox (defBody st_stretches) (tS D_stretches) :=
  (dss_cons (ds_set (i := 1) sc_stretches.nd (dx_lst da_nil))
  (dss_cons (ds_set (i := 2) sc_stretches.nd (dx_up de_int))
  (dss_cons (ds_while PassesOwn.never (dt_cmp or_lt (de_var 2 (pv 2)) (de_lenS 0 Z.z_len (pv 0)) (nomark _)) (dss_cons (ds_set (i := 3) sc_stretches.nd (dx_up (de_op or_add (de_var 2 (pv 2)) de_int)))
  (dss_cons (ds_if (PW.pt (dw_and (dt_cmp or_lt (de_var 3 (pv 3)) (de_lenS 0 Z.z_len (pv 0)) (nomark _)) (dw_and1 (dt_cmp (or_eq hr) (de_ixS 0 (pv 0) (de_var 3 (pv 3))) (de_ixS 0 (pv 0) (de_var 2 (pv 2))) (nomark _))))) (dss_one (ds_while PassesOwn.never (PW.pt (dw_and (dt_cmp or_lt (de_var 3 (pv 3)) (de_lenS 0 Z.z_len (pv 0)) (nomark _)) (dw_and1 (dt_cmp (or_eq hr) (de_ixS 0 (pv 0) (de_var 3 (pv 3))) (de_ixS 0 (pv 0) (de_var 2 (pv 2))) (nomark _))))) (dss_one (ds_aug (i := 3) sc_stretches.nd de_int ir_add)))) (dss_one (ds_while PassesOwn.never (PW.pt (dw_and (dt_cmp or_lt (de_var 3 (pv 3)) (de_lenS 0 Z.z_len (pv 0)) (nomark _)) (dw_and1 (dt_not (PW.pt (dw_and (dt_cmp or_lt (de_op or_add (de_var 3 (pv 3)) de_int) (de_lenS 0 Z.z_len (pv 0)) (nomark _)) (dw_and1 (dt_cmp (or_eq hr) (de_ixS 0 (pv 0) (de_op or_add (de_var 3 (pv 3)) de_int)) (de_ixS 0 (pv 0) (de_var 3 (pv 3))) (nomark _))))))))) (dss_one (ds_aug (i := 3) sc_stretches.nd de_int ir_add)))))
  (dss_cons (ds_app 1 (pv 1) (de_tup (da_cons (de_var 2 (pv 2)) (da_cons (de_var 3 (pv 3)) da_nil))))
  (dss_one (ds_set (i := 2) sc_stretches.nd (dx_up (de_var 3 (pv 3)))))))))
  (dss_one (ds_ret (dx_move 1 (pv 1)))))))
theorem b_peaks (Z : Zs mg) (f : Addr) (cdv : Value) (A : Around) (outer : List PySem.Env) (s : Shared) (H : Hp) (E : XK) (hr : Room 0 (A.deeper (envOfC "peaks" (defScope st_peaks) s.heap.objs.size f cdv))) :
    PSs (cxOf CX0 P w K mg base ["row", "at"] "peaks" (defScope st_peaks) f cdv A outer s H E).nox (defBody st_peaks) (tS D_peaks) :=
  (dss_one (ds_ret (dx_lc rfl sc_peaks.nd (own := [("at", 1)]) (di_range2 (by rfl) Z.z_range (da_cons de_int (da_cons (de_op or_sub (de_lenS 0 Z.z_len (pv 0)) de_int) da_nil))) (blkOk_by (N := ["row", "at"]) (sc := defScope st_peaks) (by decide +kernel)) (fun _ _ _ _ _ => (dg_name (i := 1) sc_peaks.nd)) (fun _ _ _ _ _ => (pts_one (dt_chain or_lt or_gt (de_ixS 0 (pv 0) (de_op or_sub (de_var 1 (pv 1)) de_int)) (de_ixS 0 (pv 0) (de_var 1 (pv 1))) (de_ixS 0 (pv 0) (de_op or_add (de_var 1 (pv 1)) de_int)) (fun ha hb hc ho ho2 => pt_chain ho ho2 ha hb hc)))) (fun _ _ _ _ _ => (de_var 1 (pv 1))) (by decide))))
theorem b_names_of (Z : Zs mg) (f : Addr) (cdv : Value) (A : Around) (outer : List PySem.Env) (s : Shared) (H : Hp) (E : XK) (hr : Room 0 (A.deeper (envOfC "names_of" (defScope st_names_of) s.heap.objs.size f cdv))) :
    PSs (cxOf CX0 P w K mg base ["text", "begins", "ends", "begin", "end"] "names_of" (defScope st_names_of) f cdv A outer s H E).nox (defBody st_names_of) (tS D_names_of) :=
  (dss_cons (ds_set (i := 2) sc_names_of.nd (dx_up (de_op or_add (de_fz (dx_cty cr_list Z.z_list (da_cons (de_slS 1 (pv 1) (do_pt de_int) do_no) da_nil))) (de_fz (dx_lst (da_cons (de_lenS 0 Z.z_len (pv 0)) da_nil))))))
  (dss_one (ds_ret (dx_up (de_cty cr_tuple Z.z_tuple (da_cons (de_fz (dx_lc rfl sc_names_of.nd (own := [("begin", 3), ("end", 4)]) (di_zip (by rfl) Z.z_zip (da_cons (de_var 1 (pv 1)) (da_cons (de_var 2 (pv 2)) da_nil))) (blkOk_by (N := ["text", "begins", "ends", "begin", "end"]) (sc := defScope st_names_of) (by decide +kernel)) (fun _ _ _ _ _ => (dg_tup rfl (dgs_cons (dg_name (i := 3) sc_names_of.nd) (dgs_cons (dg_name (i := 4) sc_names_of.nd) dgs_nil)))) (fun _ _ _ _ _ => dts_nil) (fun _ _ _ _ _ => (de_slS 0 (pv 0) (do_pt (de_var 3 (pv 3))) (do_pt (de_var 4 (pv 4))))) (by decide))) da_nil))))))
theorem b__law_hand (Z : Zs mg) (f : Addr) (cdv : Value) (A : Around) (outer : List PySem.Env) (s : Shared) (H : Hp) (E : XK) :
    PSs (cxOf CX0 P w K mg base ["_law_script"] "_law_hand" (defScope st__law_hand) f cdv A outer s H E).nox (defBody st__law_hand) (tRet (tLst (tCons (tCB (fun xs H Q => ∃ p ys, xs = [V.ref p] ∧ (SqL K H p ys ∨ SqT K H p ys) ∧ ∀ l, H l = none → Q (.ref l) (upd H l (.lst ys))) (tCons (tVar 0) tNil)) (tCons (tC (.int 0)) (tCons (tC (.int 0)) (tCons (tC (.int 1)) (tCons (tC (.int 0)) tNil))))))) :=
  pss_one (ps_ret (pe_lst (pa_cons (pe_callTy call_list_of (by rfl) Z.z_list (by first | rfl | decide +kernel) (pa_cons (pv 0) pa_nil) (by decide) (by decide) (by rfl) (by rfl)) (pa_cons pe_int (pa_cons pe_int (pa_cons pe_int (pa_cons pe_int pa_nil)))))))
theorem b__law_take (Z : Zs mg) (f : Addr) (cdv : Value) (A : Around) (outer : List PySem.Env) (s : Shared) (H : Hp) (E : XK) (hr : Room 0 (A.deeper (envOfC "_law_take" (defScope st__law_take) s.heap.objs.size f cdv))) :
    PSs (cxOf CX0 P w K mg base ["_law_hand_here", "_law_many", "_law_cell", "_law_found", "_law_number"] "_law_take" (defScope st__law_take) f cdv A outer s H E).nox (defBody st__law_take) (tS D__law_take) :=
  (dss_cons (ds_stL 0 (pv 0) (de_op or_add (de_ixS 0 (pv 0) de_int) de_int) de_int)
  (dss_cons (ds_if (PW.pt (dw_and (dt_cmp (or_eq hr) (de_ixS 0 (pv 0) de_int) de_int (nomark _)) (dw_and1 (dt_cmp or_lt (de_ixS 0 (pv 0) de_int) (de_cb cr_len Z.z_len (da_cons (de_ixS 0 (pv 0) de_int) da_nil)) (nomark _))))) (dss_cons (ds_set (i := 2) sc__law_take.nd (dx_up (de_cty cr_int Z.z_int (da_cons (de_ix (de_ixS 0 (pv 0) de_int) (de_ixS 0 (pv 0) de_int)) da_nil))))
  (dss_cons (ds_stL 0 (pv 0) (de_op or_add (de_ixS 0 (pv 0) de_int) de_int) de_int)
  (dss_one (ds_if (dt_cmp or_ge (de_var 2 (pv 2)) (de_op or_pow de_int de_int) (nomark _)) (dss_one (ds_stL 0 (pv 0) (de_var 2 (pv 2)) de_int)) (dss_one (ds_stL 0 (pv 0) (de_op or_mod (de_cty cr_int Z.z_int (da_cons (de_op or_add (de_op or_add (de_op or_mul (de_ixS 0 (pv 0) de_int) de_int) (de_op or_mod (de_cty cr_int Z.z_int (da_cons (de_var 2 (pv 2)) da_nil)) de_int)) de_int) da_nil)) de_int) de_int)))))) dss_nil)
  (dss_cons (ds_if (dt_cmp or_gt (de_ixS 0 (pv 0) de_int) de_int (nomark _)) (dss_cons (ds_set (i := 3) sc__law_take.nd (dx_up (de_op or_mod (de_cty cr_int Z.z_int (da_cons (de_ixS 0 (pv 0) de_int) da_nil)) (de_var 1 (pv 1)))))
  (dss_cons (ds_stL 0 (pv 0) (de_op or_fdiv (de_cty cr_int Z.z_int (da_cons (de_ixS 0 (pv 0) de_int) da_nil)) (de_var 1 (pv 1))) de_int)
  (dss_one (ds_ret (dx_up (de_var 3 (pv 3))))))) dss_nil)
  (dss_cons (ds_stL 0 (pv 0) (de_op or_mod (de_cty cr_int Z.z_int (da_cons (de_op or_add (de_op or_mul (de_ixS 0 (pv 0) de_int) de_int) (de_op or_mul de_int (de_ixS 0 (pv 0) de_int))) da_nil)) de_int) de_int)
  (dss_cons (ds_set (i := 4) sc__law_take.nd (dx_up (de_op or_mod (de_cty cr_int Z.z_int (da_cons (de_op or_mul (de_ixS 0 (pv 0) de_int) (de_op or_add (de_op or_fdiv (de_ixS 0 (pv 0) de_int) de_int) de_int)) da_nil)) de_int)))
  (dss_cons (ds_set (i := 4) sc__law_take.nd (dx_up (de_op or_mod (de_cty cr_int Z.z_int (da_cons (de_op or_mul (de_var 4 (pv 4)) (de_op or_add (de_op or_fdiv (de_var 4 (pv 4)) de_int) de_int)) da_nil)) de_int)))
  (dss_one (ds_ret (dx_up (de_op or_mod (de_cty cr_int Z.z_int (da_cons (de_op or_fdiv (de_var 4 (pv 4)) de_int) da_nil)) (de_var 1 (pv 1))))))))))))
theorem b__law_is_integer (Z : Zs mg) (f : Addr) (cdv : Value) (A : Around) (outer : List PySem.Env) (s : Shared) (H : Hp) (E : XK) (hr : Room 0 (A.deeper (envOfC "_law_is_integer" (defScope st__law_is_integer) s.heap.objs.size f cdv))) :
    PSs (cxOf CX0 P w K mg base ["_law_thing"] "_law_is_integer" (defScope st__law_is_integer) f cdv A outer s H E).nox (defBody st__law_is_integer) (tS D__law_is_integer) :=
  (dss_one (ds_ret (dx_up (de_and (de_isi "int" (by decide +kernel) Z.z_isinstance Z.z_int (de_var 0 (pv 0))) (de_one (de_not (de_isi "bool" (by decide +kernel) Z.z_isinstance Z.z_bool (de_var 0 (pv 0)))))))))
theorem b_is_word (c_are_signs : Cl P w K mg base "are_signs" 1 ["thing"] S_are_signs) (Z : Zs mg) (f : Addr) (cdv : Value) (A : Around) (outer : List PySem.Env) (s : Shared) (H : Hp) (E : XK) (hr : Room 1 (A.deeper (envOfC "is_word" (defScope st_is_word) s.heap.objs.size f cdv))) :
    PSs (cxOf CX0 P w K mg base ["thing"] "is_word" (defScope st_is_word) f cdv A outer s H E).nox (defBody st_is_word) (tS D_is_word) :=
  (dss_one (ds_ret (dx_up (de_and (ce_call c_are_signs hr (da_cons (de_var 0 (pv 0)) da_nil)) (de_one (de_cmp or_gt (de_lenS 0 Z.z_len (pv 0)) de_int (nomark _)))))))
theorem b_is_text (c_are_signs : Cl P w K mg base "are_signs" 1 ["thing"] S_are_signs) (Z : Zs mg) (f : Addr) (cdv : Value) (A : Around) (outer : List PySem.Env) (s : Shared) (H : Hp) (E : XK) (hr : Room 1 (A.deeper (envOfC "is_text" (defScope st_is_text) s.heap.objs.size f cdv))) :
    PSs (cxOf CX0 P w K mg base ["thing"] "is_text" (defScope st_is_text) f cdv A outer s H E).nox (defBody st_is_text) (tS D_is_text) :=
  (dss_one (ds_ret (dx_up (de_and (ce_call c_are_signs hr (da_cons (de_var 0 (pv 0)) da_nil)) (de_one (de_cmp or_le (de_lenS 0 Z.z_len (pv 0)) (de_glI Z.g_MOST_SIGNS) (nomark _)))))))
theorem b_next_coins (c_lowest_unlike : Cl P w K mg base "lowest_unlike" 1 ["one", "other"] S_lowest_unlike) (Z : Zs mg) (f : Addr) (cdv : Value) (A : Around) (outer : List PySem.Env) (s : Shared) (H : Hp) (E : XK) (hr : Room 1 (A.deeper (envOfC "next_coins" (defScope st_next_coins) s.heap.objs.size f cdv))) :
    PSs (cxOf CX0 P w K mg base ["row", "found", "ahead", "here", "place"] "next_coins" (defScope st_next_coins) f cdv A outer s H E).nox (defBody st_next_coins) (tS D_next_coins) :=
  (dss_cons (ds_set (i := 1) sc_next_coins.nd (dx_lst (da_cons (de_op or_mod (de_ixS 0 (pv 0) de_int) de_int) da_nil)))
  (dss_cons (ds_for PassesOwn.never rfl (di_zip (by rfl) Z.z_zip (da_cons (de_var 0 (pv 0)) (da_cons (de_slS 0 (pv 0) (do_pt de_int) do_no) da_nil))) (dg_tup rfl (dgs_cons (dg_name (i := 2) sc_next_coins.nd) (dgs_cons (dg_name (i := 3) sc_next_coins.nd) dgs_nil))) (dss_cons (ds_set (i := 4) sc_next_coins.nd (dx_up (ce_call c_lowest_unlike hr (da_cons (de_var 2 (pv 2)) (da_cons (de_var 3 (pv 3)) da_nil)))))
  (dss_one (ds_app 1 (pv 1) (de_op or_add (de_op or_mul de_int (de_var 4 (pv 4))) (de_op or_mod (de_op or_shr (de_var 3 (pv 3)) (de_var 4 (pv 4))) de_int))))))
  (dss_one (ds_ret (dx_move 1 (pv 1))))))
theorem b__law_pick (c__law_take : Cl P w K mg base "_law_take" 1 ["_law_hand_here", "_law_many"] S__law_take) (Z : Zs mg) (f : Addr) (cdv : Value) (A : Around) (outer : List PySem.Env) (s : Shared) (H : Hp) (E : XK) (hr : Room 1 (A.deeper (envOfC "_law_pick" (defScope st__law_pick) s.heap.objs.size f cdv))) :
    PSs (cxOf CX0 P w K mg base ["_law_hand_here", "_law_things"] "_law_pick" (defScope st__law_pick) f cdv A outer s H E).nox (defBody st__law_pick) (tS D__law_pick) :=
  (dss_one (ds_ret (dx_up (de_ixS 1 (pv 1) (de_fz (cx_callIo (i := 0) c__law_take hr (pv 0) (da_cons (de_lenS 1 Z.z_len (pv 1)) da_nil)))))))
theorem b__law_alphabet (c__law_take : Cl P w K mg base "_law_take" 1 ["_law_hand_here", "_law_many"] S__law_take) (Z : Zs mg) (f : Addr) (cdv : Value) (A : Around) (outer : List PySem.Env) (s : Shared) (H : Hp) (E : XK) (hr : Room 1 (A.deeper (envOfC "_law_alphabet" (defScope st__law_alphabet) s.heap.objs.size f cdv))) :
    PSs (cxOf CX0 P w K mg base ["_law_hand_here", "_law_way", "_law_signs"] "_law_alphabet" (defScope st__law_alphabet) f cdv A outer s H E).nox (defBody st__law_alphabet) (tS D__law_alphabet) :=
  (dss_cons (ds_set (i := 1) sc__law_alphabet.nd (dx_up (de_fz (cx_callIo (i := 0) c__law_take hr (pv 0) (da_cons de_int da_nil)))))
  (dss_cons (ds_if (dt_cmp or_lt (de_var 1 (pv 1)) de_int (nomark _)) (dss_one (ds_ret (dx_up (de_ix (de_fz (dx_lst (da_cons (de_str [97, 98]) (da_cons (de_str [97, 98]) (da_cons (de_str [97, 98, 99]) (da_cons (de_str [97, 97, 98]) (da_cons (de_str [32, 126]) da_nil))))))) (de_var 1 (pv 1)))))) dss_nil)
  (dss_cons (ds_if (dt_cmp or_lt (de_var 1 (pv 1)) de_int (nomark _)) (dss_one (ds_ret (dx_up (de_str [48, 49])))) dss_nil)
  (dss_cons (ds_set (i := 2) sc__law_alphabet.nd (dx_up (de_str [32, 33, 34, 35, 36, 38, 39, 40, 41, 42, 43, 44, 45, 46, 47, 48, 49, 50, 51, 52, 53, 54, 55, 56, 57, 58, 59, 60, 61, 62, 63, 64, 65, 66, 67, 68, 69, 70, 71, 72, 73, 74, 75, 76, 77, 78, 79, 80, 81, 82, 83, 84, 85, 86, 87, 88, 89, 90, 91, 92, 93, 94, 95])))
  (dss_one (ds_ret (dx_up (de_op or_add (de_var 2 (pv 2)) (de_str [97, 98, 99, 100, 101, 102, 103, 104, 105, 106, 107, 108, 109, 110, 111, 112, 113, 114, 115, 116, 117, 118, 119, 120, 121, 122, 123, 124, 125, 126])))))))))
theorem b__law_word (c__law_take : Cl P w K mg base "_law_take" 1 ["_law_hand_here", "_law_many"] S__law_take) (Z : Zs mg) (f : Addr) (cdv : Value) (A : Around) (outer : List PySem.Env) (s : Shared) (H : Hp) (E : XK) (hr : Room 1 (A.deeper (envOfC "_law_word" (defScope st__law_word) s.heap.objs.size f cdv))) :
    PSs (cxOf CX0 P w K mg base ["_law_hand_here", "_law_signs", "_law_least", "_law_most", "_law_many", "_law_k"] "_law_word" (defScope st__law_word) f cdv A outer s H E).nox (defBody st__law_word) (tS D__law_word) :=
  (dss_cons (ds_set (i := 4) sc__law_word.nd (dx_up (de_op or_add (de_var 2 (pv 2)) (de_fz (cx_callIo (i := 0) c__law_take hr (pv 0) (da_cons (de_op or_add (de_op or_sub (de_var 3 (pv 3)) (de_var 2 (pv 2))) de_int) da_nil))))))
  (dss_one (ds_ret (dx_up (de_join (de_str []) (de_fz (dx_lc rfl sc__law_word.nd (own := [("_law_k", 5)]) (di_range1 (by rfl) Z.z_range (da_cons (de_var 4 (pv 4)) da_nil)) (blkOk_by (N := ["_law_hand_here", "_law_signs", "_law_least", "_law_most", "_law_many", "_law_k"]) (sc := defScope st__law_word) (by decide +kernel)) (fun _ _ _ _ _ => (dg_name (i := 5) sc__law_word.nd)) (fun _ _ _ _ _ => dts_nil) (fun _ _ _ _ _ => (de_ixS 1 (pv 1) (de_fz (cx_callIo (i := 0) c__law_take hr (pv 0) (da_cons (de_lenS 1 Z.z_len (pv 1)) da_nil))))) (by decide))))))))
theorem b_check_text (c_is_text : Cl P w K mg base "is_text" 2 ["thing"] S_is_text) (Z : Zs mg) (f : Addr) (cdv : Value) (A : Around) (outer : List PySem.Env) (s : Shared) (H : Hp) (E : XK) (hr : Room 2 (A.deeper (envOfC "check_text" (defScope st_check_text) s.heap.objs.size f cdv))) :
    PSs (cxOf CX0 P w K mg base ["thing"] "check_text" (defScope st_check_text) f cdv A outer s H E).nox (defBody st_check_text) (tS D_check_text) :=
  (dss_one (ds_if (dt_not (dt_val (ce_call c_is_text hr (da_cons (de_var 0 (pv 0)) da_nil)))) (dss_one ds_never) dss_nil))
theorem b_coins_of (c_number_of_name : Cl P w K mg base "number_of_name" 1 ["name"] S_number_of_name) (c_next_coins : Cl P w K mg base "next_coins" 2 ["row"] S_next_coins) (Z : Zs mg) (f : Addr) (cdv : Value) (A : Around) (outer : List PySem.Env) (s : Shared) (H : Hp) (E : XK) (hr : Room 2 (A.deeper (envOfC "coins_of" (defScope st_coins_of) s.heap.objs.size f cdv))) :
    PSs (cxOf CX0 P w K mg base ["names", "found", "turn", "name"] "coins_of" (defScope st_coins_of) f cdv A outer s H E).nox (defBody st_coins_of) (tS D_coins_of) :=
  (dss_cons (ds_setLc (i := 1) rfl sc_coins_of.nd rfl rfl (sw_true rfl rfl rfl (by decide +kernel)) (own := [("name", 3)]) (di_any (de_var 0 (pv 0))) (blkOk_by (N := ["names", "found", "turn", "name"]) (sc := defScope st_coins_of) (by decide +kernel)) (fun _ _ _ _ _ => (dg_name (i := 3) sc_coins_of.nd)) (fun _ _ _ _ _ => dts_nil) (fun _ _ _ _ _ => (ce_call c_number_of_name (hr.mono (by decide)) (da_cons (de_var 3 (pv 3)) da_nil))) (by decide))
  (dss_cons (ds_for PassesOwn.never rfl (di_range1 (by rfl) Z.z_range (da_cons (de_glI Z.g_ROUNDS) da_nil)) (dg_name (i := 2) sc_coins_of.nd) (dss_one (ds_set (i := 1) sc_coins_of.nd (cx_call c_next_coins hr (da_cons (de_var 1 (pv 1)) da_nil)))))
  (dss_one (ds_ret (dx_move 1 (pv 1))))))
theorem b_are_names (c_is_word : Cl P w K mg base "is_word" 2 ["thing"] S_is_word) (Z : Zs mg) (f : Addr) (cdv : Value) (A : Around) (outer : List PySem.Env) (s : Shared) (H : Hp) (E : XK) (hr : Room 2 (A.deeper (envOfC "are_names" (defScope st_are_names) s.heap.objs.size f cdv))) :
    PSs (cxOf CX0 P w K mg base ["thing", "name"] "are_names" (defScope st_are_names) f cdv A outer s H E).nox (defBody st_are_names) (tS D_are_names) :=
  (dss_one (ds_ret (dx_up (de_and (de_isi "tuple" (by decide +kernel) Z.z_isinstance Z.z_tuple (de_var 0 (pv 0))) (de_and (de_cmp or_gt (de_lenS 0 Z.z_len (pv 0)) de_int (nomark _)) (de_one (de_cb (cr_all' rfl) Z.z_all (da_cons (de_fz (dx_lc rfl sc_are_names.nd (own := [("name", 1)]) (di_any (de_var 0 (pv 0))) (blkOk_by (N := ["thing", "name"]) (sc := defScope st_are_names) (by decide +kernel)) (fun _ _ _ _ _ => (dg_name (i := 1) sc_are_names.nd)) (fun _ _ _ _ _ => dts_nil) (fun _ _ _ _ _ => (ce_call c_is_word hr (da_cons (de_var 1 (pv 1)) da_nil))) (by decide))) da_nil))))))))
theorem b__law_same (c__law_is_integer : Cl P w K mg base "_law_is_integer" 1 ["_law_thing"] S__law_is_integer) {SR : FnSpec} (hio : SR.io = [false, false]) (hfr : SR.fresh = false) {kR : Nat} (cR : Cl P w K mg base "_law_same" kR ["_law_actual", "_law_due"] SR) {kk : Nat} (hkR : kR ≤ kk) (hk : 1 ≤ kk) (Z : Zs mg) (f : Addr) (cdv : Value) (A : Around) (outer : List PySem.Env) (s : Shared) (H : Hp) (E : XK) (hr : Room kk (A.deeper (envOfC "_law_same" (defScope st__law_same) s.heap.objs.size f cdv))) :
    PSs (cxOf CX0 P w K mg base ["_law_actual", "_law_due", "_law_one", "_law_other"] "_law_same" (defScope st__law_same) f cdv A outer s H E).nox (defBody st__law_same) (tS (D__law_same SR)) :=
  (dss_cons (ds_if (dt_cmp or_is (de_var 1 (pv 1)) de_non (nomark _)) (dss_one (ds_ret (dx_up (de_cmp or_is (de_var 0 (pv 0)) de_non (nomark _))))) dss_nil)
  (dss_cons (ds_if (dt_cmp or_is (de_var 1 (pv 1)) de_bl (nomark _)) (dss_one (ds_ret (dx_up (de_cmp or_is (de_var 0 (pv 0)) de_bl (nomark _))))) dss_nil)
  (dss_cons (ds_if (dt_cmp or_is (de_var 1 (pv 1)) de_bl (nomark _)) (dss_one (ds_ret (dx_up (de_cmp or_is (de_var 0 (pv 0)) de_bl (nomark _))))) dss_nil)
  (dss_cons (ds_if (dt_val (de_isi "int" (by decide +kernel) Z.z_isinstance Z.z_int (de_var 1 (pv 1)))) (dss_one (ds_ret (dx_up (de_and (ce_call c__law_is_integer (hr.mono (by omega)) (da_cons (de_var 0 (pv 0)) da_nil)) (de_one (de_cmp (or_eq hr) (de_var 0 (pv 0)) (de_var 1 (pv 1)) (nomark _))))))) dss_nil)
  (dss_cons (ds_if (dt_val (de_isi "str" (by decide +kernel) Z.z_isinstance Z.z_str (de_var 1 (pv 1)))) (dss_one (ds_ret (dx_up (de_and (de_isi "str" (by decide +kernel) Z.z_isinstance Z.z_str (de_var 0 (pv 0))) (de_one (de_cmp (or_eq hr) (de_var 0 (pv 0)) (de_var 1 (pv 1)) (nomark _))))))) dss_nil)
  (dss_cons (ds_if (PW.pt (dw_or (dt_cmp (or_ne hr) (de_isi "tuple" (by decide +kernel) Z.z_isinstance Z.z_tuple (de_var 1 (pv 1))) (de_isi "tuple" (by decide +kernel) Z.z_isinstance Z.z_tuple (de_var 0 (pv 0))) (nomark _)) (dw_or1 (dt_cmp (or_ne hr) (de_isi "list" (by decide +kernel) Z.z_isinstance Z.z_list (de_var 1 (pv 1))) (de_isi "list" (by decide +kernel) Z.z_isinstance Z.z_list (de_var 0 (pv 0))) (nomark _))))) (dss_one (ds_ret (dx_up de_bl))) dss_nil)
  (dss_cons (ds_if (dt_cmp (or_ne hr) (de_lenS 0 Z.z_len (pv 0)) (de_lenS 1 Z.z_len (pv 1)) (nomark _)) (dss_one (ds_ret (dx_up de_bl))) dss_nil)
  (dss_cons (ds_for PassesOwn.never rfl (di_zip (by rfl) Z.z_zip (da_cons (de_var 0 (pv 0)) (da_cons (de_var 1 (pv 1)) da_nil))) (dg_tup rfl (dgs_cons (dg_name (i := 2) sc__law_same.nd) (dgs_cons (dg_name (i := 3) sc__law_same.nd) dgs_nil))) (dss_one (ds_if (dt_not (dt_val (ce_call cR (hr.mono hkR) (da_cons (de_var 2 (pv 2)) (da_cons (de_var 3 (pv 3)) da_nil)) (by rw [hio]; rfl) hfr))) (dss_one (ds_ret (dx_up de_bl))) dss_nil)))
  (dss_one (ds_ret (dx_up de_bl)))))))))))
theorem b__law_menu (c__law_alphabet : Cl P w K mg base "_law_alphabet" 2 ["_law_hand_here"] S__law_alphabet) (c__law_take : Cl P w K mg base "_law_take" 1 ["_law_hand_here", "_law_many"] S__law_take) (c__law_word : Cl P w K mg base "_law_word" 2 ["_law_hand_here", "_law_signs", "_law_least", "_law_most"] S__law_word) (Z : Zs mg) (f : Addr) (cdv : Value) (A : Around) (outer : List PySem.Env) (s : Shared) (H : Hp) (E : XK) (hr : Room 2 (A.deeper (envOfC "_law_menu" (defScope st__law_menu) s.heap.objs.size f cdv))) :
    PSs (cxOf CX0 P w K mg base ["_law_hand_here", "_law_signs", "_law_most", "_law_k"] "_law_menu" (defScope st__law_menu) f cdv A outer s H E).nox (defBody st__law_menu) (tS D__law_menu) :=
  (dss_cons (ds_set (i := 1) sc__law_menu.nd (dx_up (de_fz (cx_callIo (i := 0) c__law_alphabet hr (pv 0) da_nil))))
  (dss_cons (ds_set (i := 2) sc__law_menu.nd (dx_up (de_op or_add de_int (de_op or_mul de_int (de_fz (cx_callIo (i := 0) c__law_take (hr.mono (by decide)) (pv 0) (da_cons de_int da_nil)))))))
  (dss_one (ds_ret (dx_lc rfl sc__law_menu.nd (own := [("_law_k", 3)]) (di_range1 (by rfl) Z.z_range (da_cons (de_op or_add de_int (de_fz (cx_callIo (i := 0) c__law_take (hr.mono (by decide)) (pv 0) (da_cons de_int da_nil)))) da_nil)) (blkOk_by (N := ["_law_hand_here", "_law_signs", "_law_most", "_law_k"]) (sc := defScope st__law_menu) (by decide +kernel)) (fun _ _ _ _ _ => (dg_name (i := 3) sc__law_menu.nd)) (fun _ _ _ _ _ => dts_nil) (fun _ _ _ _ _ => (de_fz (cx_callIo (i := 0) c__law_word hr (pv 0) (da_cons (de_var 1 (pv 1)) (da_cons de_int (da_cons (de_var 2 (pv 2)) da_nil)))))) (by decide))))))
theorem b__law_some (c__law_take : Cl P w K mg base "_law_take" 1 ["_law_hand_here", "_law_many"] S__law_take) (c__law_pick : Cl P w K mg base "_law_pick" 2 ["_law_hand_here", "_law_things"] S__law_pick) (Z : Zs mg) (f : Addr) (cdv : Value) (A : Around) (outer : List PySem.Env) (s : Shared) (H : Hp) (E : XK) (hr : Room 2 (A.deeper (envOfC "_law_some" (defScope st__law_some) s.heap.objs.size f cdv))) :
    PSs (cxOf CX0 P w K mg base ["_law_hand_here", "_law_menu_here", "_law_most", "_law_k"] "_law_some" (defScope st__law_some) f cdv A outer s H E).nox (defBody st__law_some) (tS D__law_some) :=
  (dss_one (ds_ret (dx_up (de_cty cr_tuple Z.z_tuple (da_cons (de_fz (dx_lc rfl sc__law_some.nd (own := [("_law_k", 3)]) (di_range1 (by rfl) Z.z_range (da_cons (de_fz (cx_callIo (i := 0) c__law_take (hr.mono (by decide)) (pv 0) (da_cons (de_op or_add (de_var 2 (pv 2)) de_int) da_nil))) da_nil)) (blkOk_by (N := ["_law_hand_here", "_law_menu_here", "_law_most", "_law_k"]) (sc := defScope st__law_some) (by decide +kernel)) (fun _ _ _ _ _ => (dg_name (i := 3) sc__law_some.nd)) (fun _ _ _ _ _ => dts_nil) (fun _ _ _ _ _ => (de_fz (cx_callIo (i := 0) c__law_pick hr (pv 0) (da_cons (de_var 1 (pv 1)) da_nil)))) (by decide))) da_nil)))))
theorem b_groups_of (c_stretches : Cl P w K mg base "stretches" 1 ["names"] S_stretches) (c_peaks : Cl P w K mg base "peaks" 1 ["row"] S_peaks) (c_coins_of : Cl P w K mg base "coins_of" 3 ["names"] S_coins_of) (Z : Zs mg) (f : Addr) (cdv : Value) (A : Around) (outer : List PySem.Env) (s : Shared) (H : Hp) (E : XK) (hr : Room 3 (A.deeper (envOfC "groups_of" (defScope st_groups_of) s.heap.objs.size f cdv))) :
    PSs (cxOf CX0 P w K mg base ["names", "found", "begin", "end", "at"] "groups_of" (defScope st_groups_of) f cdv A outer s H E).nox (defBody st_groups_of) (tS D_groups_of) :=
  (dss_cons (ds_set (i := 1) sc_groups_of.nd (dx_lst da_nil))
  (dss_cons (ds_for PassesOwn.never rfl (di_any (de_fz (cx_call c_stretches (hr.mono (by decide)) (da_cons (de_var 0 (pv 0)) da_nil)))) (dg_tup rfl (dgs_cons (dg_name (i := 2) sc_groups_of.nd) (dgs_cons (dg_name (i := 3) sc_groups_of.nd) dgs_nil))) (dss_cons (ds_app 1 (pv 1) (de_var 2 (pv 2)))
  (dss_one (ds_if (PW.pt (dw_and (dt_cmp or_gt (de_op or_sub (de_var 3 (pv 3)) (de_var 2 (pv 2))) de_int (nomark _)) (dw_and1 (dt_cmp (or_ne hr) (de_ixS 0 (pv 0) (de_var 2 (pv 2))) (de_ixS 0 (pv 0) (de_op or_add (de_var 2 (pv 2)) de_int)) (nomark _))))) (dss_one (ds_ext 1 (pv 1) (de_fz (dx_lc rfl sc_groups_of.nd (own := [("at", 4)]) (di_any (de_fz (cx_call c_peaks (hr.mono (by decide)) (da_cons (de_fz (cx_call c_coins_of hr (da_cons (de_slS 0 (pv 0) (do_pt (de_var 2 (pv 2))) (do_pt (de_var 3 (pv 3)))) da_nil))) da_nil)))) (blkOk_by (N := ["names", "found", "begin", "end", "at"]) (sc := defScope st_groups_of) (by decide +kernel)) (fun _ _ _ _ _ => (dg_name (i := 4) sc_groups_of.nd)) (fun _ _ _ _ _ => dts_nil) (fun _ _ _ _ _ => (de_op or_add (de_var 2 (pv 2)) (de_var 4 (pv 4)))) (by decide))))) dss_nil))))
  (dss_one (ds_ret (dx_move 1 (pv 1))))))
theorem b_groups (c_are_names : Cl P w K mg base "are_names" 3 ["thing"] S_are_names) (c_groups_of : Cl P w K mg base "groups_of" 4 ["names"] S_groups_of) (Z : Zs mg) (f : Addr) (cdv : Value) (A : Around) (outer : List PySem.Env) (s : Shared) (H : Hp) (E : XK) (hr : Room 4 (A.deeper (envOfC "groups" (defScope st_groups) s.heap.objs.size f cdv))) :
    PSs (cxOf CX0 P w K mg base ["names"] "groups" (defScope st_groups) f cdv A outer s H E).nox (defBody st_groups) (tS D_groups) :=
  (dss_cons (ds_if (dt_not (dt_val (ce_call c_are_names (hr.mono (by decide)) (da_cons (de_var 0 (pv 0)) da_nil)))) (dss_one ds_never) dss_nil)
  (dss_one (ds_ret (dx_up (de_cty cr_tuple Z.z_tuple (da_cons (de_fz (cx_call c_groups_of hr (da_cons (de_var 0 (pv 0)) da_nil))) da_nil))))))
theorem b_levels_of (c_groups_of : Cl P w K mg base "groups_of" 4 ["names"] S_groups_of) (c_names_of : Cl P w K mg base "names_of" 1 ["text", "begins"] S_names_of) (Z : Zs mg) (f : Addr) (cdv : Value) (A : Around) (outer : List PySem.Env) (s : Shared) (H : Hp) (E : XK) (hr : Room 4 (A.deeper (envOfC "levels_of" (defScope st_levels_of) s.heap.objs.size f cdv))) :
    PSs (cxOf CX0 P w K mg base ["text", "found", "begins", "number"] "levels_of" (defScope st_levels_of) f cdv A outer s H E).nox (defBody st_levels_of) (tS D_levels_of) :=
  (dss_cons (ds_set (i := 1) sc_levels_of.nd (dx_lst (da_cons (de_tupRg rfl Z.z_tuple (drg_1 (by rfl) Z.z_range (de_lenS 0 Z.z_len (pv 0)))) da_nil)))
  (dss_cons (ds_while PassesOwn.never (dt_cmp or_gt (de_cb cr_len Z.z_len (da_cons (de_ixS 1 (pv 1) (de_un un_neg' de_int)) da_nil)) de_int (nomark _)) (dss_cons (ds_set (i := 2) sc_levels_of.nd (dx_up (de_ixS 1 (pv 1) (de_un un_neg' de_int))))
  (dss_one (ds_app 1 (pv 1) (de_cty cr_tuple Z.z_tuple (da_cons (de_fz (dx_lc rfl sc_levels_of.nd (own := [("number", 3)]) (di_any (de_fz (cx_call c_groups_of hr (da_cons (ce_call c_names_of (hr.mono (by decide)) (da_cons (de_var 0 (pv 0)) (da_cons (de_var 2 (pv 2)) da_nil))) da_nil)))) (blkOk_by (N := ["text", "found", "begins", "number"]) (sc := defScope st_levels_of) (by decide +kernel)) (fun _ _ _ _ _ => (dg_name (i := 3) sc_levels_of.nd)) (fun _ _ _ _ _ => dts_nil) (fun _ _ _ _ _ => (de_ixS 2 (pv 2) (de_var 3 (pv 3)))) (by decide))) da_nil))))))
  (dss_one (ds_ret (dx_move 1 (pv 1))))))
theorem b_levels (c_check_text : Cl P w K mg base "check_text" 3 ["thing"] S_check_text) (c_levels_of : Cl P w K mg base "levels_of" 5 ["text"] S_levels_of) (Z : Zs mg) (f : Addr) (cdv : Value) (A : Around) (outer : List PySem.Env) (s : Shared) (H : Hp) (E : XK) (hr : Room 5 (A.deeper (envOfC "levels" (defScope st_levels) s.heap.objs.size f cdv))) :
    PSs (cxOf CX0 P w K mg base ["text"] "levels" (defScope st_levels) f cdv A outer s H E).nox (defBody st_levels) (tS D_levels) :=
  (dss_cons (ds_expr (ce_call c_check_text (hr.mono (by decide)) (da_cons (de_var 0 (pv 0)) da_nil)))
  (dss_one (ds_ret (cx_call c_levels_of hr (da_cons (de_var 0 (pv 0)) da_nil)))))
theorem b_law {pre : List Int → Prop} {hd : List Int → D} {fH : Addr} {fdH : FuncData} (FH : FnOk P w K mg base CX0 1 fH fdH ["_law_script"] (spScr K pre hd)) (mH : mg "_law_hand" = some (.ref fH)) (kH : PySem.W.keepIn K (.ref fH) = true) (bH : Binds K fdH ["_law_script"] []) (c__law_menu : Cl P w K mg base "_law_menu" 3 ["_law_hand_here"] S__law_menu) (c__law_take : Cl P w K mg base "_law_take" 1 ["_law_hand_here", "_law_many"] S__law_take) (c__law_pick : Cl P w K mg base "_law_pick" 2 ["_law_hand_here", "_law_things"] S__law_pick) (c__law_some : Cl P w K mg base "_law_some" 3 ["_law_hand_here", "_law_menu_here", "_law_most"] S__law_some) (c_groups : Cl P w K mg base "groups" 5 ["names"] S_groups) (c_levels : Cl P w K mg base "levels" 6 ["text"] S_levels) (c__law_same : Cl P w K mg base "_law_same" 3 ["_law_actual", "_law_due"] S__law_same) (Z : Zs mg) (f : Addr) (cdv : Value) (A : Around) (outer : List PySem.Env) (s : Shared) (H : Hp) (E : XK) (hr : Room 6 (A.deeper (envOfC "law" (defScope st_law) s.heap.objs.size f cdv))) :
    PSs (cxOf CX0 P w K mg base ["_law_script", "_law_hand_here", "_law_menu_here", "_law_middle", "_law_rows", "_law_shifts", "_law_k", "_law_ahead", "_law_told", "_law_at", "_law_found", "_law_name"] "law" (defScope st_law) f cdv A outer s H E).nox (defBody st_law) (tSeq (tAsg (tCall (spScr K pre hd) [] E0 (tCons (tVar 0) tNil)) (gName 1)) (tS D_law)) :=
  pss_cons (ps_set (i := 1) sc_law.nd rfl (by first | exact .inl rfl | exact .inr rfl) (pe_call FH (hr.mono (by decide)) (by rfl) mH kH bH .nil pass0 (pa_cons (pv 0) pa_nil)))
  (dss_cons (ds_set (i := 2) sc_law.nd (dx_up (de_fz (cx_callIo (i := 1) c__law_menu (hr.mono (by decide)) (pv 1) da_nil))))
  (dss_cons (ds_set (i := 3) sc_law.nd (dx_up (de_cty cr_tuple Z.z_tuple (da_cons (de_fz (dx_lc rfl sc_law.nd (own := [("_law_k", 6)]) (di_range1 (by rfl) Z.z_range (da_cons (de_op or_add de_int (de_fz (cx_callIo (i := 1) c__law_take (hr.mono (by decide)) (pv 1) (da_cons de_int da_nil)))) da_nil)) (blkOk_by (N := ["_law_script", "_law_hand_here", "_law_menu_here", "_law_middle", "_law_rows", "_law_shifts", "_law_k", "_law_ahead", "_law_told", "_law_at", "_law_found", "_law_name"]) (sc := defScope st_law) (by decide +kernel)) (fun _ _ _ _ _ => (dg_name (i := 6) sc_law.nd)) (fun _ _ _ _ _ => dts_nil) (fun _ _ _ _ _ => (de_fz (cx_callIo (i := 1) c__law_pick (hr.mono (by decide)) (pv 1) (da_cons (de_var 2 (pv 2)) da_nil)))) (by decide))) da_nil))))
  (dss_cons (ds_set (i := 4) sc_law.nd (dx_lst da_nil))
  (dss_cons (ds_set (i := 5) sc_law.nd (dx_lst da_nil))
  (dss_cons (ds_for PassesOwn.never rfl (di_range1 (by rfl) Z.z_range (da_cons de_int da_nil)) (dg_name (i := 6) sc_law.nd) (dss_cons (ds_set (i := 7) sc_law.nd (dx_up (de_fz (cx_callIo (i := 1) c__law_some (hr.mono (by decide)) (pv 1) (da_cons (de_var 2 (pv 2)) (da_cons de_int da_nil))))))
  (dss_cons (ds_app 4 (pv 4) (de_op or_add (de_op or_add (de_var 7 (pv 7)) (de_var 3 (pv 3))) (de_fz (cx_callIo (i := 1) c__law_some (hr.mono (by decide)) (pv 1) (da_cons (de_var 2 (pv 2)) (da_cons de_int da_nil))))))
  (dss_one (ds_app 5 (pv 5) (de_lenS 7 Z.z_len (pv 7)))))))
  (dss_cons (ds_set (i := 8) sc_law.nd (dx_up (de_fz (dx_lst (da_cons (ce_call c_groups (hr.mono (by decide)) (da_cons (de_ixS 4 (pv 4) de_int) da_nil)) (da_cons (ce_call c_groups (hr.mono (by decide)) (da_cons (de_ixS 4 (pv 4) de_int) da_nil)) da_nil))))))
  (dss_cons (ds_for PassesOwn.never rfl (di_range2 (by rfl) Z.z_range (da_cons de_int (da_cons (de_op or_sub (de_lenS 3 Z.z_len (pv 3)) de_int) da_nil))) (dg_name (i := 9) sc_law.nd) (dss_one (ds_if (dt_cmp (or_ne hr) (de_cmp (or_in hr) (de_op or_add (de_ixS 5 (pv 5) de_int) (de_var 9 (pv 9))) (de_ixS 8 (pv 8) de_int) (by rfl)) (de_cmp (or_in hr) (de_op or_add (de_ixS 5 (pv 5) de_int) (de_var 9 (pv 9))) (de_ixS 8 (pv 8) de_int) (by rfl)) (nomark _)) (dss_one (ds_ret (dx_up de_bl))) dss_nil)))
  (dss_cons (ds_if (dt_cmp (or_eq hr) (de_cb cr_len Z.z_len (da_cons (de_fz (dx_lc rfl sc_law.nd (own := [("_law_name", 11)]) (di_any (de_var 2 (pv 2))) (blkOk_by (N := ["_law_script", "_law_hand_here", "_law_menu_here", "_law_middle", "_law_rows", "_law_shifts", "_law_k", "_law_ahead", "_law_told", "_law_at", "_law_found", "_law_name"]) (sc := defScope st_law) (by decide +kernel)) (fun _ _ _ _ _ => (dg_name (i := 11) sc_law.nd)) (fun _ _ _ _ _ => (pts_one (dt_cmp or_gt (de_lenS 11 Z.z_len (pv 11)) de_int (nomark _)))) (fun _ _ _ _ _ => (de_var 11 (pv 11))) (by decide))) da_nil)) de_int (nomark _)) (dss_one (ds_for PassesOwn.never rfl (di_range1 (by rfl) Z.z_range (da_cons de_int da_nil)) (dg_name (i := 6) sc_law.nd) (dss_cons (ds_set (i := 10) sc_law.nd (dx_up (de_fz (cx_call c_levels hr (da_cons (de_join (de_str []) (de_ixS 4 (pv 4) (de_var 6 (pv 6)))) da_nil)))))
  (dss_one (ds_if (dt_not (dt_val (ce_call c__law_same (hr.mono (by decide)) (da_cons (de_ixS 10 (pv 10) de_int) (da_cons (de_ixS 8 (pv 8) (de_var 6 (pv 6))) da_nil))))) (dss_one (ds_ret (dx_up de_bl))) dss_nil))))) dss_nil)
  (dss_one (ds_ret (dx_up de_bl)))))))))))
end
section
theorem all_mk {P : Program} {w : World} {K : PySem.W.Frag} {h : Heap} {mg : Str → Option Value} {fa f1 f2 f3 f4 f5 f6 f7 f8 f9 f10 f11 f12 f13 f14 f15 f16 f17 f18 f19 f20 f21 f22 f23 f24 f25 f26 : Addr} (X : K.In h) (G : h.Ns mainGlobals mg) (hfa : mg "law" = some (.ref fa))
    {od1 an1 od2 an2 od3 an3 od4 an4 od5 an5 od6 an6 od7 an7 od8 an8 od9 an9 od10 an10 od11 an11 od12 an12 od13 an13 od14 an14 od15 an15 od16 an16 od17 an17 od18 an18 od19 an19 od20 an20 od21 an21 od22 an22 od23 an23 od24 an24 od25 an25 od26 an26 : Option Addr} {sl1 sl2 sl3 sl4 sl5 sl6 sl7 sl8 sl9 sl10 sl11 sl12 sl13 sl14 sl15 sl16 sl17 sl18 sl19 sl20 sl21 sl22 sl23 sl24 sl25 sl26 : Array (Option Value)} {oc1 kV1 dc1 pm1 cd1 ct1 oc2 kV2 dc2 pm2 cd2 ct2 oc3 kV3 dc3 pm3 cd3 ct3 oc4 kV4 dc4 pm4 cd4 ct4 oc5 kV5 dc5 pm5 cd5 ct5 oc6 kV6 dc6 pm6 cd6 ct6 oc7 kV7 dc7 pm7 cd7 ct7 oc8 kV8 dc8 pm8 cd8 ct8 oc9 kV9 dc9 pm9 cd9 ct9 oc10 kV10 dc10 pm10 cd10 ct10 oc11 kV11 dc11 pm11 cd11 ct11 oc12 kV12 dc12 pm12 cd12 ct12 oc13 kV13 dc13 pm13 cd13 ct13 oc14 kV14 dc14 pm14 cd14 ct14 oc15 kV15 dc15 pm15 cd15 ct15 oc16 kV16 dc16 pm16 cd16 ct16 oc17 kV17 dc17 pm17 cd17 ct17 oc18 kV18 dc18 pm18 cd18 ct18 oc19 kV19 dc19 pm19 cd19 ct19 oc20 kV20 dc20 pm20 cd20 ct20 oc21 kV21 dc21 pm21 cd21 ct21 oc22 kV22 dc22 pm22 cd22 ct22 oc23 kV23 dc23 pm23 cd23 ct23 oc24 kV24 dc24 pm24 cd24 ct24 oc25 kV25 dc25 pm25 cd25 ct25 oc26 kV26 dc26 pm26 cd26 ct26 : Value} {t_FIRST_SIGN t_LAST_SIGN t_MOST_SIGNS t_BASE t_ROUNDS : Tok}
    (a1 : PySem.W.nsIn K mainGlobals "are_signs" = some (some (.ref f1))) (l1 : K.lookup f1 = some ⟨oc1, od1, .func (PySem.W.fnOf "are_signs" "are_signs" (defArgs st_are_signs) (defBody st_are_signs) (defScope st_are_signs) .none kV1 dc1 pm1 an1 cd1 ct1), sl1⟩) (c1 : PySem.W.codeIn K cd1 "are_signs" = true) (k1 : PySem.W.keepIn K (.ref f1) = true)
    (a2 : PySem.W.nsIn K mainGlobals "is_word" = some (some (.ref f2))) (l2 : K.lookup f2 = some ⟨oc2, od2, .func (PySem.W.fnOf "is_word" "is_word" (defArgs st_is_word) (defBody st_is_word) (defScope st_is_word) .none kV2 dc2 pm2 an2 cd2 ct2), sl2⟩) (c2 : PySem.W.codeIn K cd2 "is_word" = true) (k2 : PySem.W.keepIn K (.ref f2) = true)
    (a3 : PySem.W.nsIn K mainGlobals "is_text" = some (some (.ref f3))) (l3 : K.lookup f3 = some ⟨oc3, od3, .func (PySem.W.fnOf "is_text" "is_text" (defArgs st_is_text) (defBody st_is_text) (defScope st_is_text) .none kV3 dc3 pm3 an3 cd3 ct3), sl3⟩) (c3 : PySem.W.codeIn K cd3 "is_text" = true) (k3 : PySem.W.keepIn K (.ref f3) = true)
    (a4 : PySem.W.nsIn K mainGlobals "check_text" = some (some (.ref f4))) (l4 : K.lookup f4 = some ⟨oc4, od4, .func (PySem.W.fnOf "check_text" "check_text" (defArgs st_check_text) (defBody st_check_text) (defScope st_check_text) .none kV4 dc4 pm4 an4 cd4 ct4), sl4⟩) (c4 : PySem.W.codeIn K cd4 "check_text" = true) (k4 : PySem.W.keepIn K (.ref f4) = true)
    (a5 : PySem.W.nsIn K mainGlobals "number_of_name" = some (some (.ref f5))) (l5 : K.lookup f5 = some ⟨oc5, od5, .func (PySem.W.fnOf "number_of_name" "number_of_name" (defArgs st_number_of_name) (defBody st_number_of_name) (defScope st_number_of_name) .none kV5 dc5 pm5 an5 cd5 ct5), sl5⟩) (c5 : PySem.W.codeIn K cd5 "number_of_name" = true) (k5 : PySem.W.keepIn K (.ref f5) = true)
    (a6 : PySem.W.nsIn K mainGlobals "lowest_unlike" = some (some (.ref f6))) (l6 : K.lookup f6 = some ⟨oc6, od6, .func (PySem.W.fnOf "lowest_unlike" "lowest_unlike" (defArgs st_lowest_unlike) (defBody st_lowest_unlike) (defScope st_lowest_unlike) .none kV6 dc6 pm6 an6 cd6 ct6), sl6⟩) (c6 : PySem.W.codeIn K cd6 "lowest_unlike" = true) (k6 : PySem.W.keepIn K (.ref f6) = true)
    (a7 : PySem.W.nsIn K mainGlobals "next_coins" = some (some (.ref f7))) (l7 : K.lookup f7 = some ⟨oc7, od7, .func (PySem.W.fnOf "next_coins" "next_coins" (defArgs st_next_coins) (defBody st_next_coins) (defScope st_next_coins) .none kV7 dc7 pm7 an7 cd7 ct7), sl7⟩) (c7 : PySem.W.codeIn K cd7 "next_coins" = true) (k7 : PySem.W.keepIn K (.ref f7) = true)
    (a8 : PySem.W.nsIn K mainGlobals "coins_of" = some (some (.ref f8))) (l8 : K.lookup f8 = some ⟨oc8, od8, .func (PySem.W.fnOf "coins_of" "coins_of" (defArgs st_coins_of) (defBody st_coins_of) (defScope st_coins_of) .none kV8 dc8 pm8 an8 cd8 ct8), sl8⟩) (c8 : PySem.W.codeIn K cd8 "coins_of" = true) (k8 : PySem.W.keepIn K (.ref f8) = true)
    (a9 : PySem.W.nsIn K mainGlobals "are_names" = some (some (.ref f9))) (l9 : K.lookup f9 = some ⟨oc9, od9, .func (PySem.W.fnOf "are_names" "are_names" (defArgs st_are_names) (defBody st_are_names) (defScope st_are_names) .none kV9 dc9 pm9 an9 cd9 ct9), sl9⟩) (c9 : PySem.W.codeIn K cd9 "are_names" = true) (k9 : PySem.W.keepIn K (.ref f9) = true)
    (a10 : PySem.W.nsIn K mainGlobals "stretches" = some (some (.ref f10))) (l10 : K.lookup f10 = some ⟨oc10, od10, .func (PySem.W.fnOf "stretches" "stretches" (defArgs st_stretches) (defBody st_stretches) (defScope st_stretches) .none kV10 dc10 pm10 an10 cd10 ct10), sl10⟩) (c10 : PySem.W.codeIn K cd10 "stretches" = true) (k10 : PySem.W.keepIn K (.ref f10) = true)
    (a11 : PySem.W.nsIn K mainGlobals "peaks" = some (some (.ref f11))) (l11 : K.lookup f11 = some ⟨oc11, od11, .func (PySem.W.fnOf "peaks" "peaks" (defArgs st_peaks) (defBody st_peaks) (defScope st_peaks) .none kV11 dc11 pm11 an11 cd11 ct11), sl11⟩) (c11 : PySem.W.codeIn K cd11 "peaks" = true) (k11 : PySem.W.keepIn K (.ref f11) = true)
    (a12 : PySem.W.nsIn K mainGlobals "groups_of" = some (some (.ref f12))) (l12 : K.lookup f12 = some ⟨oc12, od12, .func (PySem.W.fnOf "groups_of" "groups_of" (defArgs st_groups_of) (defBody st_groups_of) (defScope st_groups_of) .none kV12 dc12 pm12 an12 cd12 ct12), sl12⟩) (c12 : PySem.W.codeIn K cd12 "groups_of" = true) (k12 : PySem.W.keepIn K (.ref f12) = true)
    (a13 : PySem.W.nsIn K mainGlobals "groups" = some (some (.ref f13))) (l13 : K.lookup f13 = some ⟨oc13, od13, .func (PySem.W.fnOf "groups" "groups" (defArgs st_groups) (defBody st_groups) (defScope st_groups) .none kV13 dc13 pm13 an13 cd13 ct13), sl13⟩) (c13 : PySem.W.codeIn K cd13 "groups" = true) (k13 : PySem.W.keepIn K (.ref f13) = true)
    (a14 : PySem.W.nsIn K mainGlobals "names_of" = some (some (.ref f14))) (l14 : K.lookup f14 = some ⟨oc14, od14, .func (PySem.W.fnOf "names_of" "names_of" (defArgs st_names_of) (defBody st_names_of) (defScope st_names_of) .none kV14 dc14 pm14 an14 cd14 ct14), sl14⟩) (c14 : PySem.W.codeIn K cd14 "names_of" = true) (k14 : PySem.W.keepIn K (.ref f14) = true)
    (a15 : PySem.W.nsIn K mainGlobals "levels_of" = some (some (.ref f15))) (l15 : K.lookup f15 = some ⟨oc15, od15, .func (PySem.W.fnOf "levels_of" "levels_of" (defArgs st_levels_of) (defBody st_levels_of) (defScope st_levels_of) .none kV15 dc15 pm15 an15 cd15 ct15), sl15⟩) (c15 : PySem.W.codeIn K cd15 "levels_of" = true) (k15 : PySem.W.keepIn K (.ref f15) = true)
    (a16 : PySem.W.nsIn K mainGlobals "levels" = some (some (.ref f16))) (l16 : K.lookup f16 = some ⟨oc16, od16, .func (PySem.W.fnOf "levels" "levels" (defArgs st_levels) (defBody st_levels) (defScope st_levels) .none kV16 dc16 pm16 an16 cd16 ct16), sl16⟩) (c16 : PySem.W.codeIn K cd16 "levels" = true) (k16 : PySem.W.keepIn K (.ref f16) = true)
    (a17 : PySem.W.nsIn K mainGlobals "_law_hand" = some (some (.ref f17))) (l17 : K.lookup f17 = some ⟨oc17, od17, .func (PySem.W.fnOf "_law_hand" "_law_hand" (defArgs st__law_hand) (defBody st__law_hand) (defScope st__law_hand) .none kV17 dc17 pm17 an17 cd17 ct17), sl17⟩) (c17 : PySem.W.codeIn K cd17 "_law_hand" = true) (k17 : PySem.W.keepIn K (.ref f17) = true)
    (a18 : PySem.W.nsIn K mainGlobals "_law_take" = some (some (.ref f18))) (l18 : K.lookup f18 = some ⟨oc18, od18, .func (PySem.W.fnOf "_law_take" "_law_take" (defArgs st__law_take) (defBody st__law_take) (defScope st__law_take) .none kV18 dc18 pm18 an18 cd18 ct18), sl18⟩) (c18 : PySem.W.codeIn K cd18 "_law_take" = true) (k18 : PySem.W.keepIn K (.ref f18) = true)
    (a19 : PySem.W.nsIn K mainGlobals "_law_pick" = some (some (.ref f19))) (l19 : K.lookup f19 = some ⟨oc19, od19, .func (PySem.W.fnOf "_law_pick" "_law_pick" (defArgs st__law_pick) (defBody st__law_pick) (defScope st__law_pick) .none kV19 dc19 pm19 an19 cd19 ct19), sl19⟩) (c19 : PySem.W.codeIn K cd19 "_law_pick" = true) (k19 : PySem.W.keepIn K (.ref f19) = true)
    (a20 : PySem.W.nsIn K mainGlobals "_law_is_integer" = some (some (.ref f20))) (l20 : K.lookup f20 = some ⟨oc20, od20, .func (PySem.W.fnOf "_law_is_integer" "_law_is_integer" (defArgs st__law_is_integer) (defBody st__law_is_integer) (defScope st__law_is_integer) .none kV20 dc20 pm20 an20 cd20 ct20), sl20⟩) (c20 : PySem.W.codeIn K cd20 "_law_is_integer" = true) (k20 : PySem.W.keepIn K (.ref f20) = true)
    (a21 : PySem.W.nsIn K mainGlobals "_law_same" = some (some (.ref f21))) (l21 : K.lookup f21 = some ⟨oc21, od21, .func (PySem.W.fnOf "_law_same" "_law_same" (defArgs st__law_same) (defBody st__law_same) (defScope st__law_same) .none kV21 dc21 pm21 an21 cd21 ct21), sl21⟩) (c21 : PySem.W.codeIn K cd21 "_law_same" = true) (k21 : PySem.W.keepIn K (.ref f21) = true)
    (a22 : PySem.W.nsIn K mainGlobals "_law_alphabet" = some (some (.ref f22))) (l22 : K.lookup f22 = some ⟨oc22, od22, .func (PySem.W.fnOf "_law_alphabet" "_law_alphabet" (defArgs st__law_alphabet) (defBody st__law_alphabet) (defScope st__law_alphabet) .none kV22 dc22 pm22 an22 cd22 ct22), sl22⟩) (c22 : PySem.W.codeIn K cd22 "_law_alphabet" = true) (k22 : PySem.W.keepIn K (.ref f22) = true)
    (a23 : PySem.W.nsIn K mainGlobals "_law_word" = some (some (.ref f23))) (l23 : K.lookup f23 = some ⟨oc23, od23, .func (PySem.W.fnOf "_law_word" "_law_word" (defArgs st__law_word) (defBody st__law_word) (defScope st__law_word) .none kV23 dc23 pm23 an23 cd23 ct23), sl23⟩) (c23 : PySem.W.codeIn K cd23 "_law_word" = true) (k23 : PySem.W.keepIn K (.ref f23) = true)
    (a24 : PySem.W.nsIn K mainGlobals "_law_menu" = some (some (.ref f24))) (l24 : K.lookup f24 = some ⟨oc24, od24, .func (PySem.W.fnOf "_law_menu" "_law_menu" (defArgs st__law_menu) (defBody st__law_menu) (defScope st__law_menu) .none kV24 dc24 pm24 an24 cd24 ct24), sl24⟩) (c24 : PySem.W.codeIn K cd24 "_law_menu" = true) (k24 : PySem.W.keepIn K (.ref f24) = true)
    (a25 : PySem.W.nsIn K mainGlobals "_law_some" = some (some (.ref f25))) (l25 : K.lookup f25 = some ⟨oc25, od25, .func (PySem.W.fnOf "_law_some" "_law_some" (defArgs st__law_some) (defBody st__law_some) (defScope st__law_some) .none kV25 dc25 pm25 an25 cd25 ct25), sl25⟩) (c25 : PySem.W.codeIn K cd25 "_law_some" = true) (k25 : PySem.W.keepIn K (.ref f25) = true)
    (a26 : PySem.W.nsIn K mainGlobals "law" = some (some (.ref f26))) (l26 : K.lookup f26 = some ⟨oc26, od26, .func (PySem.W.fnOf "law" "law" (defArgs st_law) (defBody st_law) (defScope st_law) .none kV26 dc26 pm26 an26 cd26 ct26), sl26⟩) (c26 : PySem.W.codeIn K cd26 "law" = true) (k26 : PySem.W.keepIn K (.ref f26) = true)
    (z_isinstance : PySem.W.nsIn K mainGlobals "isinstance" = some none)
    (z_str : PySem.W.nsIn K mainGlobals "str" = some none)
    (z_all : PySem.W.nsIn K mainGlobals "all" = some none)
    (z_len : PySem.W.nsIn K mainGlobals "len" = some none)
    (z_ord : PySem.W.nsIn K mainGlobals "ord" = some none)
    (z_zip : PySem.W.nsIn K mainGlobals "zip" = some none)
    (z_range : PySem.W.nsIn K mainGlobals "range" = some none)
    (z_tuple : PySem.W.nsIn K mainGlobals "tuple" = some none)
    (z_list : PySem.W.nsIn K mainGlobals "list" = some none)
    (z_int : PySem.W.nsIn K mainGlobals "int" = some none)
    (z_bool : PySem.W.nsIn K mainGlobals "bool" = some none)
    (g_FIRST_SIGN : PySem.W.nsIn K mainGlobals "FIRST_SIGN" = some (some (.str " " t_FIRST_SIGN)))
    (g_LAST_SIGN : PySem.W.nsIn K mainGlobals "LAST_SIGN" = some (some (.str "~" t_LAST_SIGN)))
    (g_MOST_SIGNS : PySem.W.nsIn K mainGlobals "MOST_SIGNS" = some (some (.int 2000 t_MOST_SIGNS)))
    (g_BASE : PySem.W.nsIn K mainGlobals "BASE" = some (some (.int 128 t_BASE)))
    (g_ROUNDS : PySem.W.nsIn K mainGlobals "ROUNDS" = some (some (.int 5 t_ROUNDS)))
    : ∃ fd : FuncData, (∀ (s : Shared) (v : Value), BindsTo s fd ⟨[v], []⟩ [("_law_script", v)]) ∧ ∀ base : Heap, K.In base → base.Ns mainGlobals mg → FnOk P w K mg base CX0 7 fa fd ["_law_script"] (spLawD K (fun ns => ns.length ≤ 63)) := by
  have e := hfa.symm.trans (PySem.W.mg_of X G a26)
  cases e
  have F1 := fun_mk (st := st_are_signs) l1 c1 k1
  have F2 := fun_mk (st := st_is_word) l2 c2 k2
  have F3 := fun_mk (st := st_is_text) l3 c3 k3
  have F4 := fun_mk (st := st_check_text) l4 c4 k4
  have F5 := fun_mk (st := st_number_of_name) l5 c5 k5
  have F6 := fun_mk (st := st_lowest_unlike) l6 c6 k6
  have F7 := fun_mk (st := st_next_coins) l7 c7 k7
  have F8 := fun_mk (st := st_coins_of) l8 c8 k8
  have F9 := fun_mk (st := st_are_names) l9 c9 k9
  have F10 := fun_mk (st := st_stretches) l10 c10 k10
  have F11 := fun_mk (st := st_peaks) l11 c11 k11
  have F12 := fun_mk (st := st_groups_of) l12 c12 k12
  have F13 := fun_mk (st := st_groups) l13 c13 k13
  have F14 := fun_mk (st := st_names_of) l14 c14 k14
  have F15 := fun_mk (st := st_levels_of) l15 c15 k15
  have F16 := fun_mk (st := st_levels) l16 c16 k16
  have F17 := fun_mk (st := st__law_hand) l17 c17 k17
  have F18 := fun_mk (st := st__law_take) l18 c18 k18
  have F19 := fun_mk (st := st__law_pick) l19 c19 k19
  have F20 := fun_mk (st := st__law_is_integer) l20 c20 k20
  have F21 := fun_mk (st := st__law_same) l21 c21 k21
  have F22 := fun_mk (st := st__law_alphabet) l22 c22 k22
  have F23 := fun_mk (st := st__law_word) l23 c23 k23
  have F24 := fun_mk (st := st__law_menu) l24 c24 k24
  have F25 := fun_mk (st := st__law_some) l25 c25 k25
  have F26 := fun_mk (st := st_law) l26 c26 k26
  have Z : Zs mg := ⟨PySem.W.mg_none_of X G z_isinstance, PySem.W.mg_none_of X G z_str, PySem.W.mg_none_of X G z_all, PySem.W.mg_none_of X G z_len, PySem.W.mg_none_of X G z_ord, PySem.W.mg_none_of X G z_zip, PySem.W.mg_none_of X G z_range, PySem.W.mg_none_of X G z_tuple, PySem.W.mg_none_of X G z_list, PySem.W.mg_none_of X G z_int, PySem.W.mg_none_of X G z_bool, ⟨_, PySem.W.mg_of X G g_FIRST_SIGN⟩, ⟨_, PySem.W.mg_of X G g_LAST_SIGN⟩, ⟨_, PySem.W.mg_of X G g_MOST_SIGNS⟩, ⟨_, PySem.W.mg_of X G g_BASE⟩, ⟨_, PySem.W.mg_of X G g_ROUNDS⟩⟩
  refine ⟨PySem.W.fnOf "law" "law" (defArgs st_law) (defBody st_law) (defScope st_law) .none kV26 dc26 pm26 an26 cd26 ct26, fun s v => .of_eq rfl, fun base _ _ => ?_⟩
  have B1 : Binds K _ ["thing"] [] := F1.binds (ps := ["thing"]) fun _ _ _ _ _ _ us hl => match us, hl with | [_], _ => rfl
  have P1 : Pl K mg "are_signs" st_are_signs ["thing"] := ⟨_, _, F1, PySem.W.mg_of X G a1, B1⟩
  have r1 : Cl P w K mg base "are_signs" 1 ["thing"] S_are_signs := P1.cl (k := 0) sc_are_signs rfl (by decide) (fun f cdv A outer s H E hr => b_are_signs  Z f cdv A outer s H E hr) sem_are_signs
  have B5 : Binds K _ ["name"] [] := F5.binds (ps := ["name"]) fun _ _ _ _ _ _ us hl => match us, hl with | [_], _ => rfl
  have P5 : Pl K mg "number_of_name" st_number_of_name ["name"] := ⟨_, _, F5, PySem.W.mg_of X G a5, B5⟩
  have r5 : Cl P w K mg base "number_of_name" 1 ["name"] S_number_of_name := P5.cl (k := 0) sc_number_of_name rfl (by decide) (fun f cdv A outer s H E hr => b_number_of_name  Z f cdv A outer s H E hr) sem_number_of_name
  have B6 : Binds K _ ["one", "other"] [] := F6.binds (ps := ["one", "other"]) fun _ _ _ _ _ _ us hl => match us, hl with | [_, _], _ => rfl
  have P6 : Pl K mg "lowest_unlike" st_lowest_unlike ["one", "other"] := ⟨_, _, F6, PySem.W.mg_of X G a6, B6⟩
  have r6 : Cl P w K mg base "lowest_unlike" 1 ["one", "other"] S_lowest_unlike := P6.cl (k := 0) sc_lowest_unlike rfl (by decide) (fun f cdv A outer s H E hr => b_lowest_unlike  Z f cdv A outer s H E hr) sem_lowest_unlike
  have B10 : Binds K _ ["names"] [] := F10.binds (ps := ["names"]) fun _ _ _ _ _ _ us hl => match us, hl with | [_], _ => rfl
  have P10 : Pl K mg "stretches" st_stretches ["names"] := ⟨_, _, F10, PySem.W.mg_of X G a10, B10⟩
  have r10 : Cl P w K mg base "stretches" 1 ["names"] S_stretches := P10.cl (k := 0) sc_stretches rfl (by decide) (fun f cdv A outer s H E hr => b_stretches  Z f cdv A outer s H E hr) sem_stretches
  have B11 : Binds K _ ["row"] [] := F11.binds (ps := ["row"]) fun _ _ _ _ _ _ us hl => match us, hl with | [_], _ => rfl
  have P11 : Pl K mg "peaks" st_peaks ["row"] := ⟨_, _, F11, PySem.W.mg_of X G a11, B11⟩
  have r11 : Cl P w K mg base "peaks" 1 ["row"] S_peaks := P11.cl (k := 0) sc_peaks rfl (by decide) (fun f cdv A outer s H E hr => b_peaks  Z f cdv A outer s H E hr) sem_peaks
  have B14 : Binds K _ ["text", "begins"] [] := F14.binds (ps := ["text", "begins"]) fun _ _ _ _ _ _ us hl => match us, hl with | [_, _], _ => rfl
  have P14 : Pl K mg "names_of" st_names_of ["text", "begins"] := ⟨_, _, F14, PySem.W.mg_of X G a14, B14⟩
  have r14 : Cl P w K mg base "names_of" 1 ["text", "begins"] S_names_of := P14.cl (k := 0) sc_names_of rfl (by decide) (fun f cdv A outer s H E hr => b_names_of  Z f cdv A outer s H E hr) sem_names_of
  have B17 : Binds K _ ["_law_script"] [] := F17.binds (ps := ["_law_script"]) fun _ _ _ _ _ _ us hl => match us, hl with | [_], _ => rfl
  have FH : FnOk P w K mg base CX0 1 f17 _ ["_law_script"] (spScr K (fun ns => ns.length ≤ 63) hdA) := handA_ok (k := 0) F17 sc__law_hand fun cdv A outer s H E' => b__law_hand Z _ cdv A outer s H E'
  have B18 : Binds K _ ["_law_hand_here", "_law_many"] [] := F18.binds (ps := ["_law_hand_here", "_law_many"]) fun _ _ _ _ _ _ us hl => match us, hl with | [_, _], _ => rfl
  have P18 : Pl K mg "_law_take" st__law_take ["_law_hand_here", "_law_many"] := ⟨_, _, F18, PySem.W.mg_of X G a18, B18⟩
  have r18 : Cl P w K mg base "_law_take" 1 ["_law_hand_here", "_law_many"] S__law_take := P18.cl (k := 0) sc__law_take rfl (by decide) (fun f cdv A outer s H E hr => b__law_take  Z f cdv A outer s H E hr) sem__law_take
  have B20 : Binds K _ ["_law_thing"] [] := F20.binds (ps := ["_law_thing"]) fun _ _ _ _ _ _ us hl => match us, hl with | [_], _ => rfl
  have P20 : Pl K mg "_law_is_integer" st__law_is_integer ["_law_thing"] := ⟨_, _, F20, PySem.W.mg_of X G a20, B20⟩
  have r20 : Cl P w K mg base "_law_is_integer" 1 ["_law_thing"] S__law_is_integer := P20.cl (k := 0) sc__law_is_integer rfl (by decide) (fun f cdv A outer s H E hr => b__law_is_integer  Z f cdv A outer s H E hr) sem__law_is_integer
  have B2 : Binds K _ ["thing"] [] := F2.binds (ps := ["thing"]) fun _ _ _ _ _ _ us hl => match us, hl with | [_], _ => rfl
  have P2 : Pl K mg "is_word" st_is_word ["thing"] := ⟨_, _, F2, PySem.W.mg_of X G a2, B2⟩
  have r2 : Cl P w K mg base "is_word" 2 ["thing"] S_is_word := P2.cl (k := 1) sc_is_word rfl (by decide) (fun f cdv A outer s H E hr => b_is_word r1 Z f cdv A outer s H E hr) sem_is_word
  have B3 : Binds K _ ["thing"] [] := F3.binds (ps := ["thing"]) fun _ _ _ _ _ _ us hl => match us, hl with | [_], _ => rfl
  have P3 : Pl K mg "is_text" st_is_text ["thing"] := ⟨_, _, F3, PySem.W.mg_of X G a3, B3⟩
  have r3 : Cl P w K mg base "is_text" 2 ["thing"] S_is_text := P3.cl (k := 1) sc_is_text rfl (by decide) (fun f cdv A outer s H E hr => b_is_text r1 Z f cdv A outer s H E hr) sem_is_text
  have B7 : Binds K _ ["row"] [] := F7.binds (ps := ["row"]) fun _ _ _ _ _ _ us hl => match us, hl with | [_], _ => rfl
  have P7 : Pl K mg "next_coins" st_next_coins ["row"] := ⟨_, _, F7, PySem.W.mg_of X G a7, B7⟩
  have r7 : Cl P w K mg base "next_coins" 2 ["row"] S_next_coins := P7.cl (k := 1) sc_next_coins rfl (by decide) (fun f cdv A outer s H E hr => b_next_coins r6 Z f cdv A outer s H E hr) sem_next_coins
  have B19 : Binds K _ ["_law_hand_here", "_law_things"] [] := F19.binds (ps := ["_law_hand_here", "_law_things"]) fun _ _ _ _ _ _ us hl => match us, hl with | [_, _], _ => rfl
  have P19 : Pl K mg "_law_pick" st__law_pick ["_law_hand_here", "_law_things"] := ⟨_, _, F19, PySem.W.mg_of X G a19, B19⟩
  have r19 : Cl P w K mg base "_law_pick" 2 ["_law_hand_here", "_law_things"] S__law_pick := P19.cl (k := 1) sc__law_pick rfl (by decide) (fun f cdv A outer s H E hr => b__law_pick r18 Z f cdv A outer s H E hr) sem__law_pick
  have B22 : Binds K _ ["_law_hand_here"] [] := F22.binds (ps := ["_law_hand_here"]) fun _ _ _ _ _ _ us hl => match us, hl with | [_], _ => rfl
  have P22 : Pl K mg "_law_alphabet" st__law_alphabet ["_law_hand_here"] := ⟨_, _, F22, PySem.W.mg_of X G a22, B22⟩
  have r22 : Cl P w K mg base "_law_alphabet" 2 ["_law_hand_here"] S__law_alphabet := P22.cl (k := 1) sc__law_alphabet rfl (by decide) (fun f cdv A outer s H E hr => b__law_alphabet r18 Z f cdv A outer s H E hr) sem__law_alphabet
  have B23 : Binds K _ ["_law_hand_here", "_law_signs", "_law_least", "_law_most"] [] := F23.binds (ps := ["_law_hand_here", "_law_signs", "_law_least", "_law_most"]) fun _ _ _ _ _ _ us hl => match us, hl with | [_, _, _, _], _ => rfl
  have P23 : Pl K mg "_law_word" st__law_word ["_law_hand_here", "_law_signs", "_law_least", "_law_most"] := ⟨_, _, F23, PySem.W.mg_of X G a23, B23⟩
  have r23 : Cl P w K mg base "_law_word" 2 ["_law_hand_here", "_law_signs", "_law_least", "_law_most"] S__law_word := P23.cl (k := 1) sc__law_word rfl (by decide) (fun f cdv A outer s H E hr => b__law_word r18 Z f cdv A outer s H E hr) sem__law_word
  have B4 : Binds K _ ["thing"] [] := F4.binds (ps := ["thing"]) fun _ _ _ _ _ _ us hl => match us, hl with | [_], _ => rfl
  have P4 : Pl K mg "check_text" st_check_text ["thing"] := ⟨_, _, F4, PySem.W.mg_of X G a4, B4⟩
  have r4 : Cl P w K mg base "check_text" 3 ["thing"] S_check_text := P4.cl (k := 2) sc_check_text rfl (by decide) (fun f cdv A outer s H E hr => b_check_text r3 Z f cdv A outer s H E hr) sem_check_text
  have B8 : Binds K _ ["names"] [] := F8.binds (ps := ["names"]) fun _ _ _ _ _ _ us hl => match us, hl with | [_], _ => rfl
  have P8 : Pl K mg "coins_of" st_coins_of ["names"] := ⟨_, _, F8, PySem.W.mg_of X G a8, B8⟩
  have r8 : Cl P w K mg base "coins_of" 3 ["names"] S_coins_of := P8.cl (k := 2) sc_coins_of rfl (by decide) (fun f cdv A outer s H E hr => b_coins_of r5 r7 Z f cdv A outer s H E hr) sem_coins_of
  have B9 : Binds K _ ["thing"] [] := F9.binds (ps := ["thing"]) fun _ _ _ _ _ _ us hl => match us, hl with | [_], _ => rfl
  have P9 : Pl K mg "are_names" st_are_names ["thing"] := ⟨_, _, F9, PySem.W.mg_of X G a9, B9⟩
  have r9 : Cl P w K mg base "are_names" 3 ["thing"] S_are_names := P9.cl (k := 2) sc_are_names rfl (by decide) (fun f cdv A outer s H E hr => b_are_names r2 Z f cdv A outer s H E hr) sem_are_names
  have B21 : Binds K _ ["_law_actual", "_law_due"] [] := F21.binds (ps := ["_law_actual", "_law_due"]) fun _ _ _ _ _ _ us hl => match us, hl with | [_, _], _ => rfl
  have P21 : Pl K mg "_law_same" st__law_same ["_law_actual", "_law_due"] := ⟨_, _, F21, PySem.W.mg_of X G a21, B21⟩
  have r21_0 := P21.never (P := P) (w := w) (base := base) [false, false]
  have r21_1 : Cl P w K mg base "_law_same" 2 ["_law_actual", "_law_due"] S_same0 := P21.cl (k := 1) sc__law_same rfl (by decide) (fun f cdv A outer s H E hr => b__law_same r20 rfl rfl r21_0 (by decide) (by decide) Z f cdv A outer s H E hr) sem_same0
  have r21_2 : Cl P w K mg base "_law_same" 3 ["_law_actual", "_law_due"] S__law_same := P21.cl (k := 2) sc__law_same rfl (by decide) (fun f cdv A outer s H E hr => b__law_same r20 rfl rfl r21_1 (by decide) (by decide) Z f cdv A outer s H E hr) sem__law_same
  have r21 := r21_2
  have B24 : Binds K _ ["_law_hand_here"] [] := F24.binds (ps := ["_law_hand_here"]) fun _ _ _ _ _ _ us hl => match us, hl with | [_], _ => rfl
  have P24 : Pl K mg "_law_menu" st__law_menu ["_law_hand_here"] := ⟨_, _, F24, PySem.W.mg_of X G a24, B24⟩
  have r24 : Cl P w K mg base "_law_menu" 3 ["_law_hand_here"] S__law_menu := P24.cl (k := 2) sc__law_menu rfl (by decide) (fun f cdv A outer s H E hr => b__law_menu r22 r18 r23 Z f cdv A outer s H E hr) sem__law_menu
  have B25 : Binds K _ ["_law_hand_here", "_law_menu_here", "_law_most"] [] := F25.binds (ps := ["_law_hand_here", "_law_menu_here", "_law_most"]) fun _ _ _ _ _ _ us hl => match us, hl with | [_, _, _], _ => rfl
  have P25 : Pl K mg "_law_some" st__law_some ["_law_hand_here", "_law_menu_here", "_law_most"] := ⟨_, _, F25, PySem.W.mg_of X G a25, B25⟩
  have r25 : Cl P w K mg base "_law_some" 3 ["_law_hand_here", "_law_menu_here", "_law_most"] S__law_some := P25.cl (k := 2) sc__law_some rfl (by decide) (fun f cdv A outer s H E hr => b__law_some r18 r19 Z f cdv A outer s H E hr) sem__law_some
  have B12 : Binds K _ ["names"] [] := F12.binds (ps := ["names"]) fun _ _ _ _ _ _ us hl => match us, hl with | [_], _ => rfl
  have P12 : Pl K mg "groups_of" st_groups_of ["names"] := ⟨_, _, F12, PySem.W.mg_of X G a12, B12⟩
  have r12 : Cl P w K mg base "groups_of" 4 ["names"] S_groups_of := P12.cl (k := 3) sc_groups_of rfl (by decide) (fun f cdv A outer s H E hr => b_groups_of r10 r11 r8 Z f cdv A outer s H E hr) sem_groups_of
  have B13 : Binds K _ ["names"] [] := F13.binds (ps := ["names"]) fun _ _ _ _ _ _ us hl => match us, hl with | [_], _ => rfl
  have P13 : Pl K mg "groups" st_groups ["names"] := ⟨_, _, F13, PySem.W.mg_of X G a13, B13⟩
  have r13 : Cl P w K mg base "groups" 5 ["names"] S_groups := P13.cl (k := 4) sc_groups rfl (by decide) (fun f cdv A outer s H E hr => b_groups r9 r12 Z f cdv A outer s H E hr) sem_groups
  have B15 : Binds K _ ["text"] [] := F15.binds (ps := ["text"]) fun _ _ _ _ _ _ us hl => match us, hl with | [_], _ => rfl
  have P15 : Pl K mg "levels_of" st_levels_of ["text"] := ⟨_, _, F15, PySem.W.mg_of X G a15, B15⟩
  have r15 : Cl P w K mg base "levels_of" 5 ["text"] S_levels_of := P15.cl (k := 4) sc_levels_of rfl (by decide) (fun f cdv A outer s H E hr => b_levels_of r12 r14 Z f cdv A outer s H E hr) sem_levels_of
  have B16 : Binds K _ ["text"] [] := F16.binds (ps := ["text"]) fun _ _ _ _ _ _ us hl => match us, hl with | [_], _ => rfl
  have P16 : Pl K mg "levels" st_levels ["text"] := ⟨_, _, F16, PySem.W.mg_of X G a16, B16⟩
  have r16 : Cl P w K mg base "levels" 6 ["text"] S_levels := P16.cl (k := 5) sc_levels rfl (by decide) (fun f cdv A outer s H E hr => b_levels r4 r15 Z f cdv A outer s H E hr) sem_levels
  exact law_D (k := 6) (E := E0) F26 sc_law (by decide) (fun cdv A outer s H E' hr => b_law FH (PySem.W.mg_of X G a17) F17.kp B17 r24 r18 r19 r25 r13 r16 r21 Z _ cdv A outer s H E' hr) sem_law
end
end DL
open PySem PySem.W PyProof.Rows
set_option maxHeartbeats 0 in
theorem PySem.Challenge.cw_everypiece_k09_whole_groups_hang_on_ten_holds : PySem.Challenge.rw_everypiece_k09_whole_groups_hang_on_ten.Holds := by
  w_on; o_law; k_head; (case hw => w_witness2)
  k_fill
  refine L2.walk_of (l := PySem.Challenge.rw_everypiece_k09_whole_groups_hang_on_ten) (n := 63) (k := 7) (x := "_law_script") (CX := fun _ => L2.CX0) (sp := fun w => DL.spLawD _ (fun ns => ns.length ≤ 63)) rfl (by decide) rfl ⟨rfl, by decide, by decide⟩ (fun w h Y => PySem.W.kIn_of Y) ?F (fun _ _ a ns hl _ hS => ⟨a, ns, rfl, hS, hl, fun _ => rfl⟩) (fun _ _ _ _ _ h => h)
  case F =>
    intro w mg fa h KX G hmg
    refine' DL.all_mk KX G hmg ?a1 ?l1 ?c1 ?k1 ?a2 ?l2 ?c2 ?k2 ?a3 ?l3 ?c3 ?k3 ?a4 ?l4 ?c4 ?k4 ?a5 ?l5 ?c5 ?k5 ?a6 ?l6 ?c6 ?k6 ?a7 ?l7 ?c7 ?k7 ?a8 ?l8 ?c8 ?k8 ?a9 ?l9 ?c9 ?k9 ?a10 ?l10 ?c10 ?k10 ?a11 ?l11 ?c11 ?k11 ?a12 ?l12 ?c12 ?k12 ?a13 ?l13 ?c13 ?k13 ?a14 ?l14 ?c14 ?k14 ?a15 ?l15 ?c15 ?k15 ?a16 ?l16 ?c16 ?k16 ?a17 ?l17 ?c17 ?k17 ?a18 ?l18 ?c18 ?k18 ?a19 ?l19 ?c19 ?k19 ?a20 ?l20 ?c20 ?k20 ?a21 ?l21 ?c21 ?k21 ?a22 ?l22 ?c22 ?k22 ?a23 ?l23 ?c23 ?k23 ?a24 ?l24 ?c24 ?k24 ?a25 ?l25 ?c25 ?k25 ?a26 ?l26 ?c26 ?k26 ?z_isinstance ?z_str ?z_all ?z_len ?z_ord ?z_zip ?z_range ?z_tuple ?z_list ?z_int ?z_bool ?g_FIRST_SIGN ?g_LAST_SIGN ?g_MOST_SIGNS ?g_BASE ?g_ROUNDS
    (case a1 => k_is)
    (case l1 => k_is)
    (case c1 => k_is)
    (case k1 => k_is)
    (case a2 => k_is)
    (case l2 => k_is)
    (case c2 => k_is)
    (case k2 => k_is)
    (case a3 => k_is)
    (case l3 => k_is)
    (case c3 => k_is)
    (case k3 => k_is)
    (case a4 => k_is)
    (case l4 => k_is)
    (case c4 => k_is)
    (case k4 => k_is)
    (case a5 => k_is)
    (case l5 => k_is)
    (case c5 => k_is)
    (case k5 => k_is)
    (case a6 => k_is)
    (case l6 => k_is)
    (case c6 => k_is)
    (case k6 => k_is)
    (case a7 => k_is)
    (case l7 => k_is)
    (case c7 => k_is)
    (case k7 => k_is)
    (case a8 => k_is)
    (case l8 => k_is)
    (case c8 => k_is)
    (case k8 => k_is)
    (case a9 => k_is)
    (case l9 => k_is)
    (case c9 => k_is)
    (case k9 => k_is)
    (case a10 => k_is)
    (case l10 => k_is)
    (case c10 => k_is)
    (case k10 => k_is)
    (case a11 => k_is)
    (case l11 => k_is)
    (case c11 => k_is)
    (case k11 => k_is)
    (case a12 => k_is)
    (case l12 => k_is)
    (case c12 => k_is)
    (case k12 => k_is)
    (case a13 => k_is)
    (case l13 => k_is)
    (case c13 => k_is)
    (case k13 => k_is)
    (case a14 => k_is)
    (case l14 => k_is)
    (case c14 => k_is)
    (case k14 => k_is)
    (case a15 => k_is)
    (case l15 => k_is)
    (case c15 => k_is)
    (case k15 => k_is)
    (case a16 => k_is)
    (case l16 => k_is)
    (case c16 => k_is)
    (case k16 => k_is)
    (case a17 => k_is)
    (case l17 => k_is)
    (case c17 => k_is)
    (case k17 => k_is)
    (case a18 => k_is)
    (case l18 => k_is)
    (case c18 => k_is)
    (case k18 => k_is)
    (case a19 => k_is)
    (case l19 => k_is)
    (case c19 => k_is)
    (case k19 => k_is)
    (case a20 => k_is)
    (case l20 => k_is)
    (case c20 => k_is)
    (case k20 => k_is)
    (case a21 => k_is)
    (case l21 => k_is)
    (case c21 => k_is)
    (case k21 => k_is)
    (case a22 => k_is)
    (case l22 => k_is)
    (case c22 => k_is)
    (case k22 => k_is)
    (case a23 => k_is)
    (case l23 => k_is)
    (case c23 => k_is)
    (case k23 => k_is)
    (case a24 => k_is)
    (case l24 => k_is)
    (case c24 => k_is)
    (case k24 => k_is)
    (case a25 => k_is)
    (case l25 => k_is)
    (case c25 => k_is)
    (case k25 => k_is)
    (case a26 => k_is)
    (case l26 => k_is)
    (case c26 => k_is)
    (case k26 => k_is)
    (case z_isinstance => k_is)
    (case z_str => k_is)
    (case z_all => k_is)
    (case z_len => k_is)
    (case z_ord => k_is)
    (case z_zip => k_is)
    (case z_range => k_is)
    (case z_tuple => k_is)
    (case z_list => k_is)
    (case z_int => k_is)
    (case z_bool => k_is)
    (case g_FIRST_SIGN => k_is)
    (case g_LAST_SIGN => k_is)
    (case g_MOST_SIGNS => k_is)
    (case g_BASE => k_is)
    (case g_ROUNDS => k_is)
