import PyProof.Rows.All
import Wide.All
import OpenK.AllK
import Wide.FinOn
import HandS.ForMost
import KE.DataEq
import HandS.TupAny
import HandS.TupLen
import HandS.IsInst
import HandS.Codes
import HandS.Conv
import PyProof.IsRules
import HandS.Iter
import KE.GoesMore
import KE.GoesEnum
import HandS.Deep
import HandS.Dict
import HandS.Style
import HandS.SetFor
import KE.SortData
import PyProof.StrOps2
import HandS.Text
import PySem.Challenge.RW_everypiece_k42_whole_runs_periods_and_bo
set_option Elab.async false
set_option linter.all false
set_option maxRecDepth 100000
/-! A layer over the hand layer: what a def does, said of plain data (D). -/
namespace DL
open PySem PySem.Spec PyProof.Rows L2

/-! ### data, and how a heap bears it -/
inductive D where
  | non | bl (b : Bool) | int (i : Int) | str (l : List Nat) | lst (xs : List D) | tup (xs : List D)
  | dic (t lk : Bool) (kvs : List (D × D)) | ins (C : Addr) (fs : List (Str × D)) | scr (a : Addr) (ns : List Int)
def S (l : List Nat) : Str := ⟨l.toArray⟩
theorem S_toList (x : Str) : S x.cps.toList = x := by
  cases x; rfl
theorem S_cps (l : List Nat) : (S l).cps.toList = l := rfl
theorem S_length (l : List Nat) : (S l).length = l.length := rfl
def kD : Key → D
  | .inl i => .int i
  | .inr x => .str x.cps.toList
def tD (k : List Key) : D := .tup (k.map kD)
mutual
inductive Rep (F : Hp) : V → D → Prop
  | non : Rep F .non .non
  | bl (b : Bool) : Rep F (.bl b) (.bl b)
  | int (i : Int) : Rep F (.int i) (.int i)
  | str {l : List Nat} (h : l.length ≤ sizeLine) : Rep F (.str (S l)) (.str l)
  | lst {a : Addr} {vs : List V} {ds : List D} (h : F a = some (.lst vs)) (r : Reps F vs ds) (z : ds.length ≤ sizeLine) : Rep F (.ref a) (.lst ds)
  | tup {a : Addr} {vs : List V} {ds : List D} (h : F a = some (.tup vs)) (r : Reps F vs ds) (z : ds.length ≤ sizeLine) : Rep F (.ref a) (.tup ds)
  | dK {a : Addr} {ks : List (Key × V)} {ds : List (D × D)} (h : F a = some (.dK ks)) (r : RepK F ks ds) : Rep F (.ref a) (.dic false false ds)
  | dT {a : Addr} {ks : List (List Key × V)} {ds : List (D × D)} (h : F a = some (.dT ks)) (r : RepT F ks ds) : Rep F (.ref a) (.dic true false ds)
  | dKf {a : Addr} {o : Obj} {ks : List (Key × V)} {ds : List (D × D)} (h : F a = some (.frz o (.dK ks))) (r : RepK F ks ds) : Rep F (.ref a) (.dic false true ds)
  | dTf {a : Addr} {o : Obj} {ks : List (List Key × V)} {ds : List (D × D)} (h : F a = some (.frz o (.dT ks))) (r : RepT F ks ds) : Rep F (.ref a) (.dic true true ds)
  | ins {a C dx : Addr} {fs : List (Str × V)} {ds : List (Str × D)} (h : F a = some (.ins C dx fs)) (r : RepF F fs ds) : Rep F (.ref a) (.ins C ds)
  | scr (a : Addr) (ns : List Int) : Rep F (.ref a) (.scr a ns)
inductive Reps (F : Hp) : List V → List D → Prop
  | nil : Reps F [] []
  | cons {v : V} {d : D} {vs : List V} {ds : List D} (r : Rep F v d) (t : Reps F vs ds) : Reps F (v :: vs) (d :: ds)
inductive RepK (F : Hp) : List (Key × V) → List (D × D) → Prop
  | nil : RepK F [] []
  | cons {k : Key} {v : V} {d : D} {ks : List (Key × V)} {ds : List (D × D)} (hk : Rep F (kV k) (kD k)) (r : Rep F v d) (t : RepK F ks ds) : RepK F ((k, v) :: ks) ((kD k, d) :: ds)
inductive RepT (F : Hp) : List (List Key × V) → List (D × D) → Prop
  | nil : RepT F [] []
  | cons {k : List Key} {v : V} {d : D} {ks : List (List Key × V)} {ds : List (D × D)} (hk : Reps F (k.map kV) (k.map kD)) (hz : k.length ≤ sizeLine) (r : Rep F v d) (t : RepT F ks ds) : RepT F ((k, v) :: ks) ((tD k, d) :: ds)
inductive RepF (F : Hp) : List (Str × V) → List (Str × D) → Prop
  | nil : RepF F [] []
  | cons {x : Str} {v : V} {d : D} {fs : List (Str × V)} {ds : List (Str × D)} (r : Rep F v d) (t : RepF F fs ds) : RepF F ((x, v) :: fs) ((x, d) :: ds)
end
def Ex (H H' : Hp) : Prop := ∀ a o, H a = some o → H' a = some o
theorem Ex.refl (H : Hp) : Ex H H := fun _ _ h => h
theorem Ex.trans {H H1 H2 : Hp} (a : Ex H H1) (b : Ex H1 H2) : Ex H H2 := fun x o h => b x o (a x o h)
theorem Ex.new {H : Hp} {p : Addr} {o : HO} (h : H p = none) : Ex H (upd H p o) := fun a u e => by
  rw [upd_ne (ne_of_none e h)]; exact e
theorem Ex.none {H H' : Hp} {p : Addr} (e : Ex H H') (h : H' p = none) : H p = none := by
  cases q : H p with
  | none => rfl
  | some o => rw [e p o q] at h; cases h
section
variable {F F' : Hp} (e : Ex F F')
include e
mutual
theorem Rep.mono : ∀ {v : V} {d : D}, Rep F v d → Rep F' v d
  | _, _, .non => .non
  | _, _, .bl b => .bl b
  | _, _, .int i => .int i
  | _, _, .str h => .str h
  | _, _, .lst h r z => .lst (e _ _ h) (Reps.mono r) z
  | _, _, .tup h r z => .tup (e _ _ h) (Reps.mono r) z
  | _, _, .dK h r => .dK (e _ _ h) (RepK.mono r)
  | _, _, .dT h r => .dT (e _ _ h) (RepT.mono r)
  | _, _, .dKf h r => .dKf (e _ _ h) (RepK.mono r)
  | _, _, .dTf h r => .dTf (e _ _ h) (RepT.mono r)
  | _, _, .ins h r => .ins (e _ _ h) (RepF.mono r)
  | _, _, .scr a ns => .scr a ns
theorem Reps.mono : ∀ {v : List V} {d : List D}, Reps F v d → Reps F' v d
  | _, _, .nil => .nil
  | _, _, .cons r t => .cons (Rep.mono r) (Reps.mono t)
theorem RepK.mono : ∀ {v : List (Key × V)} {d : List (D × D)}, RepK F v d → RepK F' v d
  | _, _, .nil => .nil
  | _, _, .cons hk r t => .cons (Rep.mono hk) (Rep.mono r) (RepK.mono t)
theorem RepT.mono : ∀ {v : List (List Key × V)} {d : List (D × D)}, RepT F v d → RepT F' v d
  | _, _, .nil => .nil
  | _, _, .cons hk hz r t => .cons (Reps.mono hk) hz (Rep.mono r) (RepT.mono t)
theorem RepF.mono : ∀ {v : List (Str × V)} {d : List (Str × D)}, RepF F v d → RepF F' v d
  | _, _, .nil => .nil
  | _, _, .cons r t => .cons (Rep.mono r) (RepF.mono t)
end
end
section
variable {F : Hp}
theorem Reps.length : ∀ {vs : List V} {ds : List D}, Reps F vs ds → vs.length = ds.length
  | _, _, .nil => rfl
  | _, _, .cons _ t => by rw [List.length_cons, List.length_cons, Reps.length t]
theorem Reps.get : ∀ {vs : List V} {ds : List D} {i : Nat} {d : D}, Reps F vs ds → ds[i]? = some d → ∃ v, vs[i]? = some v ∧ Rep F v d
  | _, _, _, _, .nil, h => by simp at h
  | _, _, 0, _, .cons r _, h => by simp at h; subst h; exact ⟨_, rfl, r⟩
  | _, _, i + 1, d, .cons _ t, h => by
    obtain ⟨v, h1, h2⟩ := Reps.get (i := i) (d := d) t (by simpa using h)
    exact ⟨v, by simpa using h1, h2⟩
theorem Reps.get2 : ∀ {vs : List V} {ds : List D} {i : Nat} {v : V}, Reps F vs ds → vs[i]? = some v → ∃ d, ds[i]? = some d ∧ Rep F v d
  | _, _, _, _, .nil, h => by simp at h
  | _, _, 0, _, .cons r _, h => by simp at h; subst h; exact ⟨_, rfl, r⟩
  | _, _, i + 1, d, .cons _ t, h => by
    obtain ⟨v, h1, h2⟩ := Reps.get2 (i := i) (v := d) t (by simpa using h)
    exact ⟨v, by simpa using h1, h2⟩
theorem Reps.append : ∀ {vs ws : List V} {ds es : List D}, Reps F vs ds → Reps F ws es → Reps F (vs ++ ws) (ds ++ es)
  | _, _, _, _, .nil, t => t
  | _, _, _, _, .cons r t, u => .cons r (Reps.append t u)
theorem Reps.take : ∀ {vs : List V} {ds : List D} (n : Nat), Reps F vs ds → Reps F (vs.take n) (ds.take n)
  | _, _, 0, _ => .nil
  | _, _, _ + 1, .nil => .nil
  | _, _, n + 1, .cons r t => .cons r (Reps.take n t)
theorem Reps.drop : ∀ {vs : List V} {ds : List D} (n : Nat), Reps F vs ds → Reps F (vs.drop n) (ds.drop n)
  | _, _, 0, r => r
  | _, _, _ + 1, .nil => .nil
  | _, _, n + 1, .cons _ t => Reps.drop n t
theorem Reps.set : ∀ {vs : List V} {ds : List D} (n : Nat) {v : V} {d : D}, Reps F vs ds → Rep F v d → Reps F (vs.set n v) (ds.set n d)
  | _, _, _, _, _, .nil, _ => .nil
  | _, _, 0, _, _, .cons _ t, q => .cons q t
  | _, _, n + 1, _, _, .cons r t, q => .cons r (Reps.set n t q)
theorem Reps.reverse : ∀ {vs : List V} {ds : List D}, Reps F vs ds → Reps F vs.reverse ds.reverse
  | _, _, .nil => .nil
  | _, _, .cons r t => by
    rw [List.reverse_cons, List.reverse_cons]
    exact (Reps.reverse t).append (.cons r .nil)
theorem Reps.dropLast : ∀ {vs : List V} {ds : List D}, Reps F vs ds → Reps F vs.dropLast ds.dropLast := fun {vs ds} r => by
  rw [List.dropLast_eq_take, List.dropLast_eq_take, r.length]
  exact r.take _
end

/-! ### what a def's slots hold -/
/-- nothing that is read; a value that stays; a list or dict of the def's own; one of the caller's that is written -/
inductive Cell where
  | un | fz (d : D) | ow (d : D) | io (d : D)
abbrev Env := List Cell
def Cell.own : Cell → Bool
  | .ow _ => true
  | .io _ => true
  | _ => false
def Cell.val : Cell → Option D
  | .un => none
  | .fz d => some d
  | .ow d => some d
  | .io d => some d
def Cell.up : Cell → D → Cell
  | .ow _, d => .ow d
  | .io _, d => .io d
  | c, _ => c
structure Gd where
  H0 : Hp
  F0 : Hp
  ios : List Addr
  iop : Nat → Option Addr
  pr : Hp
  nt : ∀ b o, pr b = some o → ∀ vs, o ≠ .tup vs
/-- an object of its own at a: its parts stay -/
def Own (F H : Hp) (a : Addr) : D → Prop
  | .lst ds => F a = none ∧ (∃ vs, H a = some (.lst vs) ∧ Reps F vs ds) ∧ ds.length ≤ sizeLine
  | .dic false false ds => F a = none ∧ ∃ ks, H a = some (.dK ks) ∧ RepK F ks ds
  | .dic true false ds => F a = none ∧ ∃ ks, H a = some (.dT ks) ∧ RepT F ks ds
  | _ => False
theorem Own.no {F H : Hp} {a : Addr} : ∀ {d : D}, Own F H a d → F a = none
  | .lst _, h => h.1
  | .dic false false _, h => h.1
  | .dic true false _, h => h.1
theorem Own.there {F H : Hp} {a : Addr} : ∀ {d : D}, Own F H a d → ∃ o, H a = some o
  | .lst _, ⟨_, ⟨vs, h, _⟩, _⟩ => ⟨_, h⟩
  | .dic false false _, ⟨_, ks, h, _⟩ => ⟨_, h⟩
  | .dic true false _, ⟨_, ks, h, _⟩ => ⟨_, h⟩
theorem Own.nt {F H : Hp} {a : Addr} {o : HO} (ho : H a = some o) : ∀ {d : D}, Own F H a d → ∀ vs, o ≠ .tup vs
  | .lst _, ⟨_, ⟨vs, h, _⟩, _⟩, ws, e => by rw [h] at ho; cases ho; cases e
  | .dic false false _, ⟨_, ks, h, _⟩, ws, e => by rw [h] at ho; cases ho; cases e
  | .dic true false _, ⟨_, ks, h, _⟩, ws, e => by rw [h] at ho; cases ho; cases e
theorem Own.mono {F H F' H' : Hp} {a : Addr} (e : Ex F F') (n : F' a = none) (h : ∀ o, H a = some o → H' a = some o) : ∀ {d : D}, Own F H a d → Own F' H' a d
  | .lst _, ⟨_, ⟨vs, q, r⟩, z⟩ => ⟨n, ⟨vs, h _ q, r.mono e⟩, z⟩
  | .dic false false _, ⟨_, ks, q, r⟩ => ⟨n, ks, h _ q, r.mono e⟩
  | .dic true false _, ⟨_, ks, q, r⟩ => ⟨n, ks, h _ q, r.mono e⟩
/-- it is kept from now on -/
theorem Own.freeze {F H : Hp} {a : Addr} {o : HO} (ho : H a = some o) : ∀ {d : D}, Own F H a d → Rep (upd F a o) (.ref a) d
  | .lst _, ⟨n, ⟨vs, q, r⟩, z⟩ => by
    rw [q] at ho; cases ho
    exact .lst upd_same (r.mono (Ex.new n)) z
  | .dic false false _, ⟨n, ks, q, r⟩ => by
    rw [q] at ho; cases ho
    exact .dK upd_same (r.mono (Ex.new n))
  | .dic true false _, ⟨n, ks, q, r⟩ => by
    rw [q] at ho; cases ho
    exact .dT upd_same (r.mono (Ex.new n))
def CellOk (g : Gd) (F H : Hp) (i : Nat) (v : Option V) : Cell → Prop
  | .un => True
  | .fz d => ∃ x, v = some x ∧ Rep F x d
  | .ow d => ∃ a, v = some (.ref a) ∧ Own F H a d ∧ g.H0 a = none
  | .io d => ∃ a, v = some (.ref a) ∧ Own F H a d ∧ a ∈ g.ios ∧ g.iop i = some a
structure EOk (g : Gd) (F : Hp) (σ : L2.St) (H : Hp) (ρ : Env) : Prop where
  len : σ.length = ρ.length
  cell : ∀ (i : Nat) (v : Option V) (c : Cell), σ[i]? = some v → ρ[i]? = some c → CellOk g F H i v c
  dist : ∀ (i j : Nat) (ci cj : Cell) (a : Addr), i ≠ j → ρ[i]? = some ci → ρ[j]? = some cj → ci.own = true → cj.own = true → σ[i]? = some (some (.ref a)) → σ[j]? = some (some (.ref a)) → False
  ex : Ex F H
  frame : ∀ b o, g.H0 b = some o → b ∉ g.ios → H b = some o
  new : ∀ b o, F b = some o → g.F0 b = some o ∨ g.H0 b = none ∨ ∃ vs, o = .tup vs
  iosH : ∀ a ∈ g.ios, ∃ o, H a = some o
  prot : ∀ b o, g.pr b = some o → H b = some o ∧ F b = none ∧ g.H0 b = none ∧ ∀ (i : Nat) (c : Cell), ρ[i]? = some c → c.own = true → σ[i]? ≠ some (some (.ref b))
/-- new things that stay: nothing else is turned -/
structure Grow (F H F' H' : Hp) : Prop where
  exF : Ex F F'
  ex : Ex F' H'
  keep : Ex H H'
  new : ∀ b o, F' b = some o → F b = some o ∨ H b = none ∨ ∃ vs, o = .tup vs
theorem Grow.refl {F H : Hp} (h : Ex F H) : Grow F H F H := ⟨Ex.refl _, h, Ex.refl _, fun _ _ h => .inl h⟩
theorem Grow.trans {F H F1 H1 F2 H2 : Hp} (a : Grow F H F1 H1) (b : Grow F1 H1 F2 H2) : Grow F H F2 H2 :=
  ⟨a.exF.trans b.exF, b.ex, a.keep.trans b.keep, fun c o h => (b.new c o h).elim (fun z => a.new c o z) fun z => .inr (z.elim (fun z => .inl (a.keep.none z)) .inr)⟩
theorem Grow.alloc {F H : Hp} {p : Addr} {o : HO} (e : Ex F H) (n : H p = none) : Grow F H (upd F p o) (upd H p o) :=
  ⟨Ex.new (e.none n), fun b u h => by
    by_cases hb : b = p
    · subst hb; rw [upd_same] at h ⊢; exact h
    · rw [upd_ne hb] at h ⊢; exact e b u h, Ex.new n, fun b u h => by
    by_cases hb : b = p
    · subst hb; exact .inr (.inl n)
    · rw [upd_ne hb] at h; exact .inl h⟩
/-- laid, tracked, but of no one's yet: F as it was -/
theorem Grow.laid {F H : Hp} {p : Addr} {o : HO} (e : Ex F H) (n : H p = none) : Grow F H F (upd H p o) :=
  ⟨Ex.refl _, e.trans (Ex.new n), Ex.new n, fun _ _ h => .inl h⟩
section
variable {g : Gd} {F F' H H' : Hp} {σ : L2.St} {ρ : Env}
theorem EOk.h0 (k : EOk g F σ H ρ) {b : Addr} (n : H b = none) : g.H0 b = none := by
  cases q : g.H0 b with
  | none => rfl
  | some o =>
    by_cases hb : b ∈ g.ios
    · obtain ⟨u, hu⟩ := k.iosH b hb
      rw [hu] at n; cases n
    · rw [k.frame b o q hb] at n; cases n
theorem CellOk.grow (G : Grow F H F' H') {j : Nat} {v : Option V} : ∀ {c : Cell}, CellOk g F H j v c → CellOk g F' H' j v c
  | .un, _ => trivial
  | .fz _, ⟨x, e, r⟩ => ⟨x, e, r.mono G.exF⟩
  | .ow _, ⟨a, e, r, n⟩ => ⟨a, e, r.mono G.exF (by
      cases q : F' a with
      | none => rfl
      | some o =>
        rcases G.new a o q with z | z | ⟨ws, z⟩
        · rw [r.no] at z; cases z
        · obtain ⟨u, hu⟩ := r.there; rw [z] at hu; cases hu
        · obtain ⟨u, hu⟩ := r.there
          have e1 := G.keep _ _ hu
          rw [G.ex _ _ q] at e1; cases e1
          exact absurd z (r.nt hu ws)) (G.keep a), n⟩
  | .io _, ⟨a, e, r, n⟩ => ⟨a, e, r.mono G.exF (by
      cases q : F' a with
      | none => rfl
      | some o =>
        rcases G.new a o q with z | z | ⟨ws, z⟩
        · rw [r.no] at z; cases z
        · obtain ⟨u, hu⟩ := r.there; rw [z] at hu; cases hu
        · obtain ⟨u, hu⟩ := r.there
          have e1 := G.keep _ _ hu
          rw [G.ex _ _ q] at e1; cases e1
          exact absurd z (r.nt hu ws)) (G.keep a), n⟩
theorem Grow.noF (G : Grow F H F' H') {b : Addr} {o : HO} (n : F b = none) (h : H b = some o) (nt : ∀ vs, o ≠ .tup vs) : F' b = none := by
  cases q : F' b with
  | none => rfl
  | some u =>
    rcases G.new b u q with z | z | ⟨ws, z⟩
    · rw [n] at z; cases z
    · rw [h] at z; cases z
    · have e1 := G.keep _ _ h
      rw [G.ex _ _ q] at e1; cases e1
      exact absurd z (nt ws)
theorem EOk.grow (k : EOk g F σ H ρ) (G : Grow F H F' H') : EOk g F' σ H' ρ where
  len := k.len
  cell := fun i v c h1 h2 => (k.cell i v c h1 h2).grow G
  dist := k.dist
  ex := G.ex
  frame := fun b o h n => G.keep b o (k.frame b o h n)
  new := fun b o h => (G.new b o h).elim (fun z => k.new b o z) fun z => .inr (z.elim (fun z => .inl (k.h0 z)) .inr)
  iosH := fun a ha => let ⟨o, h⟩ := k.iosH a ha; ⟨o, G.keep a o h⟩
  prot := fun b o h => let ⟨h1, h2, h3, h4⟩ := k.prot b o h; ⟨G.keep b o h1, G.noF h2 h1 (g.nt b o h), h3, h4⟩
theorem EOk.slot (k : EOk g F σ H ρ) {i : Nat} {c : Cell} (h : ρ[i]? = some c) : ∃ v, σ[i]? = some v ∧ CellOk g F H i v c := by
  have hi : i < ρ.length := (List.getElem?_eq_some_iff.mp h).1
  have hs : i < σ.length := by rw [k.len]; exact hi
  exact ⟨σ[i], List.getElem?_eq_getElem hs, k.cell i _ c (List.getElem?_eq_getElem hs) h⟩
theorem getElem?_set' {α : Type} {xs : List α} {i j : Nat} {x y : α} (h : (xs.set i x)[j]? = some y) : (j = i ∧ y = x ∧ i < xs.length) ∨ (j ≠ i ∧ xs[j]? = some y) := by
  by_cases e : i = j
  · subst e
    by_cases hl : i < xs.length
    · rw [List.getElem?_set_self hl] at h
      exact .inl ⟨rfl, (Option.some.inj h).symm, hl⟩
    · rw [List.getElem?_eq_none (by simpa using hl)] at h; cases h
  · rw [List.getElem?_set_ne e] at h
    exact .inr ⟨fun z => e z.symm, h⟩
/-- a slot takes a value that stays -/
theorem EOk.set (k : EOk g F σ H ρ) {i : Nat} {v : V} {d : D} (r : Rep F v d) : EOk g F (σ.set i (some v)) H (ρ.set i (.fz d)) where
  len := by rw [List.length_set, List.length_set, k.len]
  cell := fun j w c h1 h2 => by
    rcases getElem?_set' h1 with ⟨e, e2, _⟩ | ⟨e, h1⟩
    · subst e
      rcases getElem?_set' h2 with ⟨_, e3, _⟩ | ⟨ne, _⟩
      · subst e2 e3; exact ⟨v, rfl, r⟩
      · exact absurd rfl ne
    · rcases getElem?_set' h2 with ⟨e3, _, _⟩ | ⟨_, h2⟩
      · exact absurd e3 e
      · exact k.cell j w c h1 h2
  dist := fun i1 j1 ci cj a ne h1 h2 o1 o2 s1 s2 => by
    rcases getElem?_set' h1 with ⟨_, e, _⟩ | ⟨n1, h1⟩
    · subst e; cases o1
    rcases getElem?_set' h2 with ⟨_, e, _⟩ | ⟨n2, h2⟩
    · subst e; cases o2
    rw [List.getElem?_set_ne n1.symm] at s1
    rw [List.getElem?_set_ne n2.symm] at s2
    exact k.dist i1 j1 ci cj a ne h1 h2 o1 o2 s1 s2
  ex := k.ex
  frame := k.frame
  new := k.new
  iosH := k.iosH
  prot := fun b o h => by
    obtain ⟨h1, h2, h3, h4⟩ := k.prot b o h
    refine ⟨h1, h2, h3, fun j c hc ho => ?_⟩
    rcases getElem?_set' hc with ⟨_, e, _⟩ | ⟨n1, hc⟩
    · subst e; cases ho
    rw [List.getElem?_set_ne n1.symm]
    exact h4 j c hc ho
/-- a cell is forgotten -/
theorem EOk.forget (k : EOk g F σ H ρ) (i : Nat) (v : Option V) (hv : v = none ∨ σ[i]? = some v ∨ True) : EOk g F (σ.set i v) H (ρ.set i .un) where
  len := by rw [List.length_set, List.length_set, k.len]
  cell := fun j w c h1 h2 => by
    rcases getElem?_set' h2 with ⟨_, e3, _⟩ | ⟨ne, h2⟩
    · subst e3; trivial
    · rw [List.getElem?_set_ne ne.symm] at h1
      exact k.cell j w c h1 h2
  dist := fun i1 j1 ci cj a ne h1 h2 o1 o2 s1 s2 => by
    rcases getElem?_set' h1 with ⟨_, e, _⟩ | ⟨n1, h1⟩
    · subst e; cases o1
    rcases getElem?_set' h2 with ⟨_, e, _⟩ | ⟨n2, h2⟩
    · subst e; cases o2
    rw [List.getElem?_set_ne n1.symm] at s1
    rw [List.getElem?_set_ne n2.symm] at s2
    exact k.dist i1 j1 ci cj a ne h1 h2 o1 o2 s1 s2
  ex := k.ex
  frame := k.frame
  new := k.new
  iosH := k.iosH
  prot := fun b o h => by
    obtain ⟨h1, h2, h3, h4⟩ := k.prot b o h
    refine ⟨h1, h2, h3, fun j c hc ho => ?_⟩
    rcases getElem?_set' hc with ⟨_, e, _⟩ | ⟨n1, hc⟩
    · subst e; cases ho
    rw [List.getElem?_set_ne n1.symm]
    exact h4 j c hc ho
/-- a value at hand: it stays, or it is one's own (in no slot) -/
def Tmp (g : Gd) (F : Hp) (σ : L2.St) (H : Hp) (ρ : Env) (v : V) : Cell → Prop
  | .fz d => Rep F v d
  | .ow d => ∃ a, v = .ref a ∧ Own F H a d ∧ g.H0 a = none ∧ (∀ (i : Nat) (c : Cell), ρ[i]? = some c → c.own = true → σ[i]? ≠ some (some (.ref a))) ∧ g.pr a = none
  | _ => False
/-- a slot takes an object of one's own -/
theorem EOk.setOw (k : EOk g F σ H ρ) {i : Nat} {v : V} {d : D} (r : Tmp g F σ H ρ v (.ow d)) : EOk g F (σ.set i (some v)) H (ρ.set i (.ow d)) := by
  obtain ⟨a, rfl, own, h0, no, npr⟩ := r
  refine ⟨by rw [List.length_set, List.length_set, k.len], fun j w c h1 h2 => ?_, fun i1 j1 ci cj b ne h1 h2 o1 o2 s1 s2 => ?_, k.ex, k.frame, k.new, k.iosH, fun b o h => ?_⟩
  · rcases getElem?_set' h1 with ⟨e, e2, _⟩ | ⟨e, h1⟩
    · subst e
      rcases getElem?_set' h2 with ⟨_, e3, _⟩ | ⟨ne, _⟩
      · subst e2 e3; exact ⟨a, rfl, own, h0⟩
      · exact absurd rfl ne
    · rcases getElem?_set' h2 with ⟨e3, _, _⟩ | ⟨_, h2⟩
      · exact absurd e3 e
      · exact k.cell j w c h1 h2
  · rcases getElem?_set' h1 with ⟨e1, e, _⟩ | ⟨n1, h1⟩
    · rcases getElem?_set' h2 with ⟨e2, _, _⟩ | ⟨n2, h2⟩
      · exact ne (e1.trans e2.symm)
      · rw [List.getElem?_set_ne n2.symm] at s2
        rcases getElem?_set' s1 with ⟨_, e3, _⟩ | ⟨n3, _⟩
        · cases e3
          exact no j1 cj h2 o2 s2
        · exact n3 e1
    · rw [List.getElem?_set_ne n1.symm] at s1
      rcases getElem?_set' h2 with ⟨e2, _, _⟩ | ⟨n2, h2⟩
      · rcases getElem?_set' s2 with ⟨_, e3, _⟩ | ⟨n3, _⟩
        · cases e3
          exact no i1 ci h1 o1 s1
        · exact n3 e2
      · rw [List.getElem?_set_ne n2.symm] at s2
        exact k.dist i1 j1 ci cj b ne h1 h2 o1 o2 s1 s2
  · obtain ⟨h1, h2, h3, h4⟩ := k.prot b o h
    refine ⟨h1, h2, h3, fun j c hc ho => ?_⟩
    rcases getElem?_set' hc with ⟨e1, e, hl⟩ | ⟨n1, hc⟩
    · subst e1
      rw [List.getElem?_set_self (by rw [k.len]; exact hl)]
      intro z
      cases z
      rw [npr] at h; cases h
    · rw [List.getElem?_set_ne n1.symm]
      exact h4 j c hc ho
/-- what is at hand is kept from now on -/
theorem EOk.keepTmp (k : EOk g F σ H ρ) {v : V} {d : D} (r : Tmp g F σ H ρ v (.ow d)) : ∃ F', EOk g F' σ H ρ ∧ Ex F F' ∧ Rep F' v d := by
  obtain ⟨a, rfl, own, h0, no, npr⟩ := r
  obtain ⟨o, ho⟩ := own.there
  have nF := own.no
  have eF : Ex F (upd F a o) := Ex.new nF
  refine ⟨upd F a o, ⟨k.len, fun i v c h1 h2 => ?_, k.dist, fun b u hb => ?_, k.frame, fun b u hb => ?_, k.iosH, fun b u hb => ?_⟩, eF, own.freeze ho⟩
  · have q := k.cell i v c h1 h2
    cases c with
    | un => trivial
    | fz d => obtain ⟨x, e, r⟩ := q; exact ⟨x, e, r.mono eF⟩
    | ow d =>
      obtain ⟨b, e, r, n⟩ := q
      have hb : b ≠ a := fun z => no i _ h2 rfl (by rw [h1, e, z])
      exact ⟨b, e, r.mono eF (by rw [upd_ne hb]; exact r.no) fun _ z => z, n⟩
    | io d =>
      obtain ⟨b, e, r, n⟩ := q
      have hb : b ≠ a := fun z => no i _ h2 rfl (by rw [h1, e, z])
      exact ⟨b, e, r.mono eF (by rw [upd_ne hb]; exact r.no) fun _ z => z, n⟩
  · by_cases e : b = a
    · subst e; rw [upd_same] at hb; cases hb; exact ho
    · rw [upd_ne e] at hb; exact k.ex b u hb
  · by_cases e : b = a
    · subst e; exact .inr (.inl h0)
    · rw [upd_ne e] at hb; exact k.new b u hb
  · obtain ⟨h1, h2, h3, h4⟩ := k.prot b u hb
    have e : b ≠ a := fun z => by subst z; rw [npr] at hb; cases hb
    exact ⟨h1, by rw [upd_ne e]; exact h2, h3, h4⟩
/-- a slot's own object is taken out of it -/
theorem EOk.move (k : EOk g F σ H ρ) {i : Nat} {d : D} (h : ρ[i]? = some (.ow d)) : ∃ v, σ[i]? = some (some v) ∧ EOk g F σ H (ρ.set i .un) ∧ Tmp g F σ H (ρ.set i .un) v (.ow d) := by
  obtain ⟨v, hv, a, rfl, own, h0⟩ := k.slot h
  have k' := k.forget i (some (.ref a)) (.inr (.inr trivial))
  have es : σ.set i (some (V.ref a)) = σ := by
    apply List.ext_getElem?
    intro j
    by_cases e : i = j
    · subst e; rw [List.getElem?_set_self (List.getElem?_eq_some_iff.mp hv).1, hv]
    · rw [List.getElem?_set_ne e]
  rw [es] at k'
  refine ⟨.ref a, hv, k', a, rfl, own, h0, fun j c hc ho => ?_, ?_⟩
  · rcases getElem?_set' hc with ⟨_, e, _⟩ | ⟨n1, hc⟩
    · subst e; cases ho
    · exact fun z => k.dist j i c _ a n1 hc h ho rfl z hv
  · cases q : g.pr a with
    | none => rfl
    | some o => exact absurd hv ((k.prot a o q).2.2.2 i _ h rfl)
/-- .. and stays in it, kept from now on -/
theorem EOk.fix (k : EOk g F σ H ρ) {i : Nat} {d : D} (h : ρ[i]? = some (.ow d)) : ∃ F' v, σ[i]? = some (some v) ∧ EOk g F' σ H (ρ.set i (.fz d)) ∧ Ex F F' ∧ Rep F' v d := by
  obtain ⟨v, hv, k1, t⟩ := k.move h
  obtain ⟨F', k2, e, r⟩ := k1.keepTmp t
  have k3 := k2.set (i := i) r
  have es : σ.set i (some v) = σ := by
    apply List.ext_getElem?
    intro j
    by_cases e : i = j
    · subst e; rw [List.getElem?_set_self (List.getElem?_eq_some_iff.mp hv).1, hv]
    · rw [List.getElem?_set_ne e]
  rw [es, List.set_set] at k3
  exact ⟨F', v, hv, k3, e, r⟩
/-- a slot's own object is turned; what else is new stays -/
theorem EOk.turn (k : EOk g F σ H ρ) {i : Nat} {c : Cell} {a : Addr} {d' : D} (h : ρ[i]? = some c) (hc : c.own = true) (hv : σ[i]? = some (some (.ref a)))
    (exF : Ex F F') (ex : Ex F' H') (keep : ∀ b o, H b = some o → b ≠ a → H' b = some o) (new : ∀ b o, F' b = some o → F b = some o ∨ H b = none ∨ ∃ vs, o = .tup vs) (own : Own F' H' a d') : EOk g F' σ H' (ρ.set i (c.up d')) := by
  have hl : i < ρ.length := (List.getElem?_eq_some_iff.mp h).1
  have q0 := k.cell i _ c hv h
  have hown0 : ∃ d, Own F H a d := by
    cases c with
    | un => cases hc
    | fz _ => cases hc
    | ow d => obtain ⟨b, e, r, _⟩ := q0; cases e; exact ⟨d, r⟩
    | io d => obtain ⟨b, e, r, _⟩ := q0; cases e; exact ⟨d, r⟩
  obtain ⟨d0, r0⟩ := hown0
  have noF : ∀ {b : Addr} {o : HO}, F b = none → H b = some o → b ≠ a → (∀ vs, o ≠ .tup vs) → F' b = none := fun {b o} n hb ne nt => by
    cases q : F' b with
    | none => rfl
    | some u =>
      rcases new b u q with z | z | ⟨ws, z⟩
      · rw [n] at z; cases z
      · rw [hb] at z; cases z
      · have e1 := keep _ _ hb ne
        rw [ex _ _ q] at e1; cases e1
        exact absurd z (nt ws)
  refine ⟨by rw [List.length_set]; exact k.len, fun j v cj h1 h2 => ?_, fun i1 j1 ci cj b ne h1 h2 o1 o2 s1 s2 => ?_, ex, fun b o hb nb => ?_, fun b o hb => ?_, fun b hb => ?_, fun b o hb => ?_⟩
  · rcases getElem?_set' h2 with ⟨e, e2, _⟩ | ⟨ne, h2⟩
    · subst e e2
      rw [hv] at h1; cases h1
      cases c with
      | un => cases hc
      | fz _ => cases hc
      | ow d => obtain ⟨b, e, r, n⟩ := q0; cases e; exact ⟨a, rfl, own, n⟩
      | io d => obtain ⟨b, e, r, n⟩ := q0; cases e; exact ⟨a, rfl, own, n⟩
    · have q := k.cell j v cj h1 h2
      cases cj with
      | un => trivial
      | fz d => obtain ⟨x, e, r⟩ := q; exact ⟨x, e, r.mono exF⟩
      | ow d =>
        obtain ⟨b, e, r, n⟩ := q
        have hb : b ≠ a := fun z => k.dist j i _ _ a ne h2 h rfl hc (by rw [h1, e, z]) hv
        obtain ⟨o, ho⟩ := r.there
        exact ⟨b, e, r.mono exF (noF r.no ho hb (r.nt ho)) fun o z => keep b o z hb, n⟩
      | io d =>
        obtain ⟨b, e, r, n⟩ := q
        have hb : b ≠ a := fun z => k.dist j i _ _ a ne h2 h rfl hc (by rw [h1, e, z]) hv
        obtain ⟨o, ho⟩ := r.there
        exact ⟨b, e, r.mono exF (noF r.no ho hb (r.nt ho)) fun o z => keep b o z hb, n⟩
  · have back : ∀ {j : Nat} {cj : Cell}, (ρ.set i (c.up d'))[j]? = some cj → cj.own = true → ∃ cj', ρ[j]? = some cj' ∧ cj'.own = true := fun {j cj} hj ho => by
      rcases getElem?_set' hj with ⟨e, _, _⟩ | ⟨_, hj⟩
      · subst e; exact ⟨c, h, hc⟩
      · exact ⟨cj, hj, ho⟩
    obtain ⟨ci', x1, x2⟩ := back h1 o1
    obtain ⟨cj', y1, y2⟩ := back h2 o2
    exact k.dist i1 j1 ci' cj' b ne x1 y1 x2 y2 s1 s2
  · have hba : b ≠ a := fun z => by
      subst z
      cases c with
      | un => cases hc
      | fz _ => cases hc
      | ow d => obtain ⟨b', e, r, n⟩ := q0; cases e; rw [n] at hb; cases hb
      | io d => obtain ⟨b', e, r, n⟩ := q0; cases e; exact nb n.1
    exact keep b o (k.frame b o hb nb) hba
  · rcases new b o hb with z | z | z
    · exact k.new b o z
    · exact .inr (.inl (k.h0 z))
    · exact .inr (.inr z)
  · obtain ⟨o, ho⟩ := k.iosH b hb
    by_cases e : b = a
    · subst e; exact own.there
    · exact ⟨o, keep b o ho e⟩
  · obtain ⟨h1, h2, h3, h4⟩ := k.prot b o hb
    have e : b ≠ a := fun z => h4 i c h hc (by rw [hv, z])
    refine ⟨keep b o h1 e, noF h2 h1 e (g.nt b o hb), h3, fun j cj hj ho => ?_⟩
    rcases getElem?_set' hj with ⟨e, _, _⟩ | ⟨_, hj⟩
    · subst e; exact h4 j c h hc
    · exact h4 j cj hj ho
end
end DL

namespace DL
open PySem PySem.Spec PyProof.Rows L2

/-! ### meanings over data -/
abbrev DTE := Env → (D → Env → Prop) → Prop
abbrev DTX := Env → (Cell → Env → Prop) → Prop
abbrev DTT := Env → (Bool → Env → Prop) → Prop
abbrev DTA := Env → (List D → Env → Prop) → Prop
structure DEnds where
  nx : Env → Prop
  rt : Cell → Env → Prop
  bk : Env → Prop
  ct : Env → Prop
abbrev DTS := DEnds → Env → Prop
def tE (de : DTE) : TE := fun σ H Q => ∃ g F ρ Qd, EOk g F σ H ρ ∧ de ρ Qd ∧ ∀ F' H' ρ' v d, EOk g F' σ H' ρ' → Ex F F' → Rep F' v d → Qd d ρ' → Q v H'
def tX (dx : DTX) : TE := fun σ H Q => ∃ g F ρ Qd, EOk g F σ H ρ ∧ dx ρ Qd ∧ ∀ F' H' ρ' v c, EOk g F' σ H' ρ' → Ex F F' → Tmp g F' σ H' ρ' v c → Qd c ρ' → Q v H'
def tT (dt : DTT) : TT := fun σ H Q => ∃ g F ρ Qd, EOk g F σ H ρ ∧ dt ρ Qd ∧ ∀ F' H' ρ' b, EOk g F' σ H' ρ' → Ex F F' → Qd b ρ' → Q b H'
def tA (da : DTA) : TA := fun σ H Q => ∃ g F ρ Qd, EOk g F σ H ρ ∧ da ρ Qd ∧ ∀ F' H' ρ' vs ds, EOk g F' σ H' ρ' → Ex F F' → Reps F' vs ds → Qd ds ρ' → Q vs H'
structure SimEnds (g : Gd) (F : Hp) (Dd : DEnds) (Dv : Ends) : Prop where
  nx : ∀ F' σ' H' ρ', EOk g F' σ' H' ρ' → Ex F F' → Dd.nx ρ' → Dv.nx σ' H'
  rt : ∀ F' σ' H' ρ' v c, EOk g F' σ' H' ρ' → Ex F F' → Tmp g F' σ' H' ρ' v c → Dd.rt c ρ' → Dv.rt v H'
  bk : ∀ F' σ' H' ρ', EOk g F' σ' H' ρ' → Ex F F' → Dd.bk ρ' → Dv.bk σ' H'
  ct : ∀ F' σ' H' ρ', EOk g F' σ' H' ρ' → Ex F F' → Dd.ct ρ' → Dv.ct σ' H'
theorem SimEnds.mono {g : Gd} {F F' : Hp} {Dd : DEnds} {Dv : Ends} (h : SimEnds g F Dd Dv) (e : Ex F F') : SimEnds g F' Dd Dv :=
  ⟨fun _ _ _ _ k x => h.nx _ _ _ _ k (e.trans x), fun _ _ _ _ _ _ k x => h.rt _ _ _ _ _ _ k (e.trans x), fun _ _ _ _ k x => h.bk _ _ _ _ k (e.trans x), fun _ _ _ _ k x => h.ct _ _ _ _ k (e.trans x)⟩
def tS (ds : DTS) : TS := fun Dv σ H => ∃ g F ρ Dd, EOk g F σ H ρ ∧ ds Dd ρ ∧ SimEnds g F Dd Dv

section
variable {X : Cx} {e a b c : Expr} {t t' : TE} {pos : Pos}
theorem pe_imp (h : PE X e t) (i : ∀ σ H Q, t' σ H Q → t σ H Q) : PE X e t' := ⟨fun pins s σ H Q I q => h.run pins s σ H Q I (i σ H Q q)⟩
theorem pt_imp {t t' : TT} (h : PT X e t) (i : ∀ σ H Q, t' σ H Q → t σ H Q) : PT X e t' := ⟨fun pins s σ H Q I q => h.run pins s σ H Q I (i σ H Q q)⟩
theorem pw_imp {t t' : TT} (h : PW X e t) (i : ∀ σ H Q, t' σ H Q → t σ H Q) : PW X e t' := ⟨fun wh pins s σ H Q I q => h.run wh pins s σ H Q I (i σ H Q q)⟩
theorem pa_imp {es : List Expr} {t t' : TA} (h : PA X es t) (i : ∀ σ H Q, t' σ H Q → t σ H Q) : PA X es t' := ⟨fun p pins s σ H Q I q => h.run p pins s σ H Q I (i σ H Q q)⟩
theorem ps_imp {st : Stmt} {t t' : TS} (h : PS X st t) (i : ∀ D σ H, t' D σ H → t D σ H) : PS X st t' := ⟨fun pins s σ H D I q => h.run pins s σ H D I (i D σ H q)⟩
theorem pss_imp {st : List Stmt} {t t' : TS} (h : PSs X st t) (i : ∀ D σ H, t' D σ H → t D σ H) : PSs X st t' := ⟨fun pins s σ H D I q => h.run pins s σ H D I (i D σ H q)⟩
theorem opr_imp {f : Value → Value → Sem Value} {r r' : R2} (h : OpR X f r) (i : ∀ x y H Q, r' x y H Q → r x y H Q) : OpR X f r' := fun pins s σ H x y v u Q I rx ry q => h pins s σ H x y v u Q I rx ry (i x y H Q q)

/-! ### names, constants -/
def dVar (i : Nat) : DTE := fun ρ Q => match ρ[i]? with
  | some (.fz d) => Q d ρ
  | some (.ow d) => Q d (ρ.set i (.fz d))
  | _ => False
theorem de_var (i : Nat) {x : Str} (h : PE X (.Name x pos) (tVar i)) : PE X (.Name x pos) (tE (dVar i)) := by
  refine pe_imp h fun σ H Q ⟨g, F, ρ, Qd, k, h, c⟩ => ?_
  unfold dVar at h
  split at h
  · rename_i d hd
    obtain ⟨v, hv, y, ey, r⟩ := k.slot hd
    subst ey
    exact ⟨y, hv, c F H ρ y d k (Ex.refl _) r h⟩
  · rename_i d hd
    obtain ⟨F', v, hv, k', ex, r⟩ := k.fix hd
    exact ⟨v, hv, c F' H _ v d k' ex r h⟩
  · exact h.elim
/-- a name that is handed on: what is one's own goes with it -/
def dMove (i : Nat) : DTX := fun ρ Q => match ρ[i]? with
  | some (.fz d) => Q (.fz d) ρ
  | some (.ow d) => Q (.ow d) (ρ.set i .un)
  | _ => False
theorem dx_move (i : Nat) {x : Str} (h : PE X (.Name x pos) (tVar i)) : PE X (.Name x pos) (tX (dMove i)) := by
  refine pe_imp h fun σ H Q ⟨g, F, ρ, Qd, k, h, c⟩ => ?_
  unfold dMove at h
  split at h
  · rename_i d hd
    obtain ⟨v, hv, y, ey, r⟩ := k.slot hd
    subst ey
    exact ⟨y, hv, c F H ρ y (.fz d) k (Ex.refl _) r h⟩
  · rename_i d hd
    obtain ⟨v, hv, k', r⟩ := k.move hd
    exact ⟨v, hv, c F H _ v (.ow d) k' (Ex.refl _) r h⟩
  · exact h.elim
def dC (d : D) : DTE := fun ρ Q => Q d ρ
theorem de_c {v : V} {d : D} (h : PE X e (tC v)) (r : ∀ F, Rep F v d) : PE X e (tE (dC d)) := by
  refine pe_imp h fun σ H Q ⟨g, F, ρ, Qd, k, h, c⟩ => ?_
  exact c F H ρ v d k (Ex.refl _) (r F) h
theorem de_int {i : Int} {j} : PE X (.Constant (.int i) j pos) (tE (dC (.int i))) := de_c pe_int fun _ => .int i
theorem de_bl {i : Bool} {j} : PE X (.Constant (.bool i) j pos) (tE (dC (.bl i))) := de_c pe_bl fun _ => .bl i
theorem de_non {j} : PE X (.Constant .none j pos) (tE (dC .non)) := de_c pe_non fun _ => .non
theorem de_str {x : Str} {j} (l : List Nat) (h : x.cps.toList = l := by rfl) (z : l.length ≤ sizeLine := by decide) : PE X (.Constant (.str x) j pos) (tE (dC (.str l))) := by
  subst h
  exact de_c pe_str fun F => by
    have q := Rep.str (F := F) z
    rw [S_toList] at q
    exact q
/-- from what is at hand to what stays; and back -/
def dFz (dx : DTX) : DTE := fun ρ Q => dx ρ fun c ρ' => match c with
  | .fz d => Q d ρ'
  | .ow d => Q d ρ'
  | _ => False
theorem de_fz {dx : DTX} (h : PE X e (tX dx)) : PE X e (tE (dFz dx)) := by
  refine pe_imp h fun σ H Q ⟨g, F, ρ, Qd, k, h, c⟩ => ?_
  refine ⟨g, F, ρ, _, k, h, fun F' H' ρ' v cl k' ex t q => ?_⟩
  cases cl with
  | un => exact q.elim
  | io d => exact q.elim
  | fz d => exact c F' H' ρ' v d k' ex t q
  | ow d =>
    obtain ⟨F'', k'', ex', r⟩ := k'.keepTmp t
    exact c F'' H' ρ' v d k'' (ex.trans ex') r q
def dUp (de : DTE) : DTX := fun ρ Q => de ρ fun d ρ' => Q (.fz d) ρ'
theorem dx_up {de : DTE} (h : PE X e (tE de)) : PE X e (tX (dUp de)) := by
  refine pe_imp h fun σ H Q ⟨g, F, ρ, Qd, k, h, c⟩ => ?_
  exact ⟨g, F, ρ, _, k, h, fun F' H' ρ' v d k' ex t q => c F' H' ρ' v (.fz d) k' ex t q⟩

/-! ### argument lists, displays -/
def dNil : DTA := fun ρ Q => Q [] ρ
def dCons (de : DTE) (da : DTA) : DTA := fun ρ Q => de ρ fun d ρ1 => da ρ1 fun ds ρ2 => Q (d :: ds) ρ2
theorem da_nil : PA X [] (tA dNil) := pa_imp pa_nil fun σ H Q ⟨g, F, ρ, Qd, k, h, c⟩ => c F H ρ [] [] k (Ex.refl _) .nil h
theorem da_cons {es : List Expr} {de : DTE} {da : DTA} (ha : PE X e (tE de)) (hr : PA X es (tA da)) (hs : starEach (e :: es) X.env = (false, eval e X.env) :: starEach es X.env := by rfl) : PA X (e :: es) (tA (dCons de da)) := by
  refine pa_imp (pa_cons ha hr hs) fun σ H Q ⟨g, F, ρ, Qd, k, h, c⟩ => ?_
  refine ⟨g, F, ρ, _, k, h, fun F1 H1 ρ1 v d k1 e1 r1 h1 => ⟨g, F1, ρ1, _, k1, h1, fun F2 H2 ρ2 vs ds k2 e2 r2 h2 => ?_⟩⟩
  exact c F2 H2 ρ2 (v :: vs) (d :: ds) k2 (e1.trans e2) (.cons (r1.mono e2) r2) h2
def dTup (da : DTA) : DTE := fun ρ Q => da ρ fun ds ρ' => ds.length ≤ sizeLine ∧ Q (.tup ds) ρ'
theorem de_tup {es : List Expr} {x1} {da : DTA} (h : PA X es (tA da)) : PE X (.Tuple es x1 pos) (tE (dTup da)) := by
  refine pe_imp (pe_tup h) fun σ H Q ⟨g, F, ρ, Qd, k, h, c⟩ => ?_
  refine ⟨g, F, ρ, _, k, h, fun F1 H1 ρ1 vs ds k1 e1 r1 ⟨z, h1⟩ => ⟨by rw [r1.length]; exact z, fun p hp => ?_⟩⟩
  have G := Grow.alloc (o := .tup vs) k1.ex hp
  exact c _ _ ρ1 _ (.tup ds) (k1.grow G) (e1.trans G.exF) (.tup upd_same (r1.mono G.exF) z) h1
def dLst (da : DTA) : DTX := fun ρ Q => da ρ fun ds ρ' => ds.length ≤ sizeLine ∧ Q (.ow (.lst ds)) ρ'
/-- a new object of one's own -/
theorem EOk.newOw {g : Gd} {F H : Hp} {σ : L2.St} {ρ : Env} (k : EOk g F σ H ρ) {p : Addr} {o : HO} {d : D} (hp : H p = none) (own : Own F (upd H p o) p d) :
    EOk g F σ (upd H p o) ρ ∧ Tmp g F σ (upd H p o) ρ (.ref p) (.ow d) := by
  have G := Grow.laid (o := o) k.ex hp
  refine ⟨k.grow G, p, rfl, own, k.h0 hp, fun i c hc ho z => ?_, ?_⟩
  · have q := k.cell i _ c z hc
    cases c with
    | un => cases ho
    | fz _ => cases ho
    | ow d => obtain ⟨b, e, r, _⟩ := q; cases e; obtain ⟨u, hu⟩ := r.there; rw [hp] at hu; cases hu
    | io d => obtain ⟨b, e, r, _⟩ := q; cases e; obtain ⟨u, hu⟩ := r.there; rw [hp] at hu; cases hu
  · cases q : g.pr p with
    | none => rfl
    | some u => have := (k.prot p u q).1; rw [hp] at this; cases this
theorem dx_lst {es : List Expr} {da : DTA} (h : PA X es (tA da)) : PE X (.List es pos) (tX (dLst da)) := by
  refine pe_imp (pe_lst h) fun σ H Q ⟨g, F, ρ, Qd, k, h, c⟩ => ?_
  refine ⟨g, F, ρ, _, k, h, fun F1 H1 ρ1 vs ds k1 e1 r1 ⟨z, h1⟩ => ⟨by rw [r1.length]; exact z, fun p hp => ?_⟩⟩
  obtain ⟨k2, t⟩ := k1.newOw (o := .lst vs) (d := .lst ds) hp ⟨k1.ex.none hp, ⟨vs, upd_same, r1⟩, z⟩
  exact c _ _ ρ1 _ _ k2 e1 t h1

/-! ### operators by data -/
abbrev DOp := D → D → (D → Prop) → Prop
abbrev DUn := D → (D → Prop) → Prop
def rO (o : DOp) : R2 := fun x y H Q => ∃ F d e Qd, Ex F H ∧ Rep F x d ∧ Rep F y e ∧ o d e Qd ∧ ∀ F' H' v r, Grow F H F' H' → Rep F' v r → Qd r → Q v H'
def rU (o : DUn) : V → Hp → VK → Prop := fun x H Q => ∃ F d Qd, Ex F H ∧ Rep F x d ∧ o d Qd ∧ ∀ F' H' v r, Grow F H F' H' → Rep F' v r → Qd r → Q v H'
def dBin (o : DOp) (da db : DTE) : DTE := fun ρ Q => da ρ fun d ρ1 => db ρ1 fun e ρ2 => o d e fun r => Q r ρ2
def dUn (o : DUn) (da : DTE) : DTE := fun ρ Q => da ρ fun d ρ1 => o d fun r => Q r ρ1
theorem t_bin {o : DOp} {da db : DTE} {σ : L2.St} {H : Hp} {Q : VK} (h : tE (dBin o da db) σ H Q) : tOp (rO o) (tE da) (tE db) σ H Q := by
  obtain ⟨g, F, ρ, Qd, k, h, c⟩ := h
  refine ⟨g, F, ρ, _, k, h, fun F1 H1 ρ1 x d k1 e1 r1 h1 => ⟨g, F1, ρ1, _, k1, h1, fun F2 H2 ρ2 y e k2 e2 r2 h2 => ?_⟩⟩
  exact ⟨F2, d, e, _, k2.ex, r1.mono e2, r2, h2, fun F3 H3 v r G r3 q => c F3 H3 ρ2 v r (k2.grow G) ((e1.trans e2).trans G.exF) r3 q⟩
theorem t_un {o : DUn} {da : DTE} {σ : L2.St} {H : Hp} {Q : VK} (h : tE (dUn o da) σ H Q) : tUn (rU o) (tE da) σ H Q := by
  obtain ⟨g, F, ρ, Qd, k, h, c⟩ := h
  refine ⟨g, F, ρ, _, k, h, fun F1 H1 ρ1 x d k1 e1 r1 h1 => ?_⟩
  exact ⟨F1, d, _, k1.ex, r1, h1, fun F3 H3 v r G r3 q => c F3 H3 ρ1 v r (k1.grow G) (e1.trans G.exF) r3 q⟩
section
variable {da db dc : DTE}
theorem de_op {op : Operator} {o : DOp} (ho : OpR X (binaryOp op) (rO o)) (ha : PE X a (tE da)) (hb : PE X b (tE db)) : PE X (.BinOp a op b pos) (tE (dBin o da db)) :=
  pe_imp (pe_op ho ha hb) fun _ _ _ h => t_bin h
theorem de_un {op : UnaryOp} {o : DUn} (ho : UnR X (unaryOp op) (rU o)) (ha : PE X a (tE da)) : PE X (.UnaryOp op a pos) (tE (dUn o da)) :=
  pe_imp (pe_un ho ha) fun _ _ _ h => t_un h
theorem de_cmp {op : CmpOp} {o : DOp} (ho : OpR X (compareOp op) (rO o)) (ha : PE X a (tE da)) (hb : PE X b (tE db)) (hm : behindInMarks op b = false) : PE X (.Compare a [op] [b] pos) (tE (dBin o da db)) :=
  pe_imp (pe_cmpR ho ha hb hm) fun _ _ _ h => t_bin h
end
def oI (C : Int → Int → Prop) (g : Int → Int → D) : DOp := fun d e K => match d, e with
  | .int i, .int j => C i j ∧ K (g i j)
  | _, _ => False
theorem or_I {f : Value → Value → Sem Value} {C : Int → Int → Prop} {g : Int → Int → Int} (h : OpR X f (rI C fun i j => .int (g i j))) : OpR X f (rO (oI C fun i j => .int (g i j))) := by
  refine opr_imp h fun x y H Q ⟨F, d, e, Qd, ex, r1, r2, o, c⟩ => ?_
  cases d <;> cases e <;> first | exact o.elim | skip
  obtain ⟨hc, o⟩ := o
  cases r1
  cases r2
  exact ⟨_, _, rfl, rfl, hc, c F H _ _ (Grow.refl ex) (.int _) o⟩
theorem or_I0 {f : Value → Value → Sem Value} {g : Int → Int → Int} (h : OpR X f (rI0 fun i j => .int (g i j))) : OpR X f (rO (oI (fun _ _ => True) fun i j => .int (g i j))) := by
  refine opr_imp h fun x y H Q ⟨F, d, e, Qd, ex, r1, r2, o, c⟩ => ?_
  cases d <;> cases e <;> first | exact o.elim | skip
  obtain ⟨hc, o⟩ := o
  cases r1
  cases r2
  exact ⟨_, _, rfl, rfl, c F H _ _ (Grow.refl ex) (.int _) o⟩
theorem or_B0 {f : Value → Value → Sem Value} {g : Int → Int → Bool} (h : OpR X f (rI0 fun i j => .bl (g i j))) : OpR X f (rO (oI (fun _ _ => True) fun i j => .bl (g i j))) := by
  refine opr_imp h fun x y H Q ⟨F, d, e, Qd, ex, r1, r2, o, c⟩ => ?_
  cases d <;> cases e <;> first | exact o.elim | skip
  obtain ⟨hc, o⟩ := o
  cases r1
  cases r2
  exact ⟨_, _, rfl, rfl, c F H _ _ (Grow.refl ex) (.bl _) o⟩
def T2 : Int → Int → Prop := fun _ _ => True
def oSub : DOp := oI (fun _ _ => True) fun i j => .int (i - j)
theorem or_sub : OpR X (binaryOp .Sub) (rO oSub) := or_I0 op_sub
def oMulI : DOp := oI CMul fun i j => .int (i * j)
theorem or_mulI : OpR X (binaryOp .Mult) (rO oMulI) := or_I op_mul
def oFdiv : DOp := oI CDiv fun i j => .int (i / j)
theorem or_fdiv : OpR X (binaryOp .FloorDiv) (rO oFdiv) := or_I op_fdiv
def oMod : DOp := oI (fun _ j => 0 < j) fun i j => .int (i % j)
theorem or_mod : OpR X (binaryOp .Mod) (rO oMod) := or_I op_mod
def oPow : DOp := oI CPow fun i j => .int (i ^ j.toNat)
theorem or_pow : OpR X (binaryOp .Pow) (rO oPow) := or_I op_pow
def oShr : DOp := oI (fun _ j => 0 ≤ j) fun i j => .int (i / 2 ^ j.toNat)
theorem or_shr : OpR X (binaryOp .RShift) (rO oShr) := or_I op_shr
def oXor : DOp := oI (fun _ _ => True) fun i j => .int (Builtin.bitXor i j)
theorem or_xor : OpR X (binaryOp .BitXor) (rO oXor) := or_I0 op_xor
def oNeg : DUn := fun d K => match d with
  | .int i => K (.int (-i))
  | _ => False
theorem un_neg' : UnR X (unaryOp .USub) (rU oNeg) := by
  intro pins s σ H x v Q I rx ⟨F, d, Qd, ex, r1, o, c⟩
  cases d <;> first | exact o.elim | skip
  cases r1
  exact un_neg pins s σ H _ v Q I rx ⟨_, rfl, c F H _ _ (Grow.refl ex) (.int _) o⟩
/-- x + y -/
def oAdd : DOp := fun d e K => match d, e with
  | .int i, .int j => K (.int (i + j))
  | .str x, .str y => x.length + y.length ≤ sizeLine ∧ K (.str (x ++ y))
  | .lst x, .lst y => x.length + y.length ≤ sizeLine ∧ K (.lst (x ++ y))
  | .tup x, .tup y => x.length + y.length ≤ sizeLine ∧ K (.tup (x ++ y))
  | _, _ => False
theorem S_append (x y : List Nat) : S x ++ S y = S (x ++ y) := by
  show (⟨x.toArray ++ y.toArray⟩ : Str) = ⟨(x ++ y).toArray⟩
  simp
theorem or_add : OpR X (binaryOp .Add) (rO oAdd) := by
  intro pins s σ H x y v u Q I rx ry ⟨F, d, e, Qd, ex, r1, r2, o, c⟩
  cases d <;> cases e <;> first | exact o.elim | skip
  · cases r1; cases r2
    exact op_add pins s σ H _ _ v u Q I rx ry ⟨_, _, rfl, rfl, c F H _ _ (Grow.refl ex) (.int _) o⟩
  · obtain ⟨z, o⟩ := o
    cases r1; cases r2
    refine op_add_str pins s σ H _ _ v u Q I rx ry ⟨_, _, rfl, rfl, z, ?_⟩
    rw [S_append]
    exact c F H _ _ (Grow.refl ex) (.str (by rw [List.length_append]; exact z)) o
  · obtain ⟨z, o⟩ := o
    cases r1 with
    | @lst a1 vs1 _ h1 q1 z1 =>
      cases r2 with
      | @lst a2 vs2 _ h2 q2 z2 =>
        refine op_cat pins s σ H _ _ v u Q I rx ry ⟨_, _, _, _, rfl, rfl, ex _ _ h1, ex _ _ h2, by rw [q1.length, q2.length]; exact z, fun p hp => ?_⟩
        have G := Grow.alloc (o := .lst (vs1 ++ vs2)) ex hp
        exact c _ _ _ _ G (.lst upd_same ((q1.append q2).mono G.exF) (by rw [List.length_append]; exact z)) o
  · obtain ⟨z, o⟩ := o
    cases r1 with
    | @tup a1 vs1 _ h1 q1 z1 =>
      cases r2 with
      | @tup a2 vs2 _ h2 q2 z2 =>
        refine op_catA pins s σ H _ _ v u Q I rx ry ⟨_, _, _, _, rfl, rfl, .of (ex _ _ h1), .of (ex _ _ h2), by rw [q1.length, q2.length]; exact z, fun hn => ?_, fun hn hm => ?_, fun hn hm p hp => ?_⟩
        · subst hn
          cases q1
          exact c F H _ _ (Grow.refl ex) (.tup h2 q2 z2) o
        · subst hm
          cases q2
          rw [List.append_nil] at o
          exact c F H _ _ (Grow.refl ex) (.tup h1 q1 z1) o
        · have G := Grow.alloc (o := .tup (vs1 ++ vs2)) ex hp
          exact c _ _ _ _ G (.tup upd_same ((q1.append q2).mono G.exF) (by rw [List.length_append]; exact z)) o
/-! comparisons of numbers and texts -/
def ltL (x y : List Nat) : Bool := decide (x < y)
def oLt : DOp := fun d e K => match d, e with
  | .int i, .int j => K (.bl (decide (i < j)))
  | .str x, .str y => K (.bl (ltL x y))
  | _, _ => False
def oLe : DOp := fun d e K => match d, e with
  | .int i, .int j => K (.bl (decide (i ≤ j)))
  | .str x, .str y => K (.bl (!ltL y x))
  | _, _ => False
def oGt : DOp := fun d e K => match d, e with
  | .int i, .int j => K (.bl (decide (j < i)))
  | .str x, .str y => K (.bl (ltL y x))
  | _, _ => False
def oGe : DOp := fun d e K => match d, e with
  | .int i, .int j => K (.bl (decide (j ≤ i)))
  | .str x, .str y => K (.bl (!ltL x y))
  | _, _ => False
theorem or_lt : OpR X (compareOp .Lt) (rO oLt) := by
  intro pins s σ H x y v u Q I rx ry ⟨F, d, e, Qd, ex, r1, r2, o, c⟩
  cases d <;> cases e <;> first | exact o.elim | skip
  · cases r1; cases r2
    exact op_lt pins s σ H _ _ v u Q I rx ry ⟨_, _, rfl, rfl, c F H _ _ (Grow.refl ex) (.bl _) o⟩
  · cases r1; cases r2
    exact op_lt_str pins s σ H _ _ v u Q I rx ry ⟨_, _, rfl, rfl, c F H _ _ (Grow.refl ex) (.bl _) o⟩
theorem or_le : OpR X (compareOp .LtE) (rO oLe) := by
  intro pins s σ H x y v u Q I rx ry ⟨F, d, e, Qd, ex, r1, r2, o, c⟩
  cases d <;> cases e <;> first | exact o.elim | skip
  · cases r1; cases r2
    exact op_le pins s σ H _ _ v u Q I rx ry ⟨_, _, rfl, rfl, c F H _ _ (Grow.refl ex) (.bl _) o⟩
  · cases r1; cases r2
    exact op_le_str pins s σ H _ _ v u Q I rx ry ⟨_, _, rfl, rfl, c F H _ _ (Grow.refl ex) (.bl _) o⟩
theorem or_gt : OpR X (compareOp .Gt) (rO oGt) := by
  intro pins s σ H x y v u Q I rx ry ⟨F, d, e, Qd, ex, r1, r2, o, c⟩
  cases d <;> cases e <;> first | exact o.elim | skip
  · cases r1; cases r2
    exact op_gt pins s σ H _ _ v u Q I rx ry ⟨_, _, rfl, rfl, c F H _ _ (Grow.refl ex) (.bl _) o⟩
  · cases r1; cases r2
    exact op_gt_str pins s σ H _ _ v u Q I rx ry ⟨_, _, rfl, rfl, c F H _ _ (Grow.refl ex) (.bl _) o⟩
theorem or_ge : OpR X (compareOp .GtE) (rO oGe) := by
  intro pins s σ H x y v u Q I rx ry ⟨F, d, e, Qd, ex, r1, r2, o, c⟩
  cases d <;> cases e <;> first | exact o.elim | skip
  · cases r1; cases r2
    exact op_ge pins s σ H _ _ v u Q I rx ry ⟨_, _, rfl, rfl, c F H _ _ (Grow.refl ex) (.bl _) o⟩
  · cases r1; cases r2
    exact op_ge_str pins s σ H _ _ v u Q I rx ry ⟨_, _, rfl, rfl, c F H _ _ (Grow.refl ex) (.bl _) o⟩
end
end DL

namespace DL
open PySem PySem.Spec PyProof.Rows L2
section
variable {X : Cx} {e a b c : Expr} {pos : Pos} {da db dc : DTE} {dt du : DTT}

/-! ### tests -/
def dTest (de : DTE) : DTT := fun ρ Q => de ρ fun d ρ' => match d with
  | .bl b => Q b ρ'
  | _ => False
theorem t_test {de : DTE} {σ : L2.St} {H : Hp} {Q : Bool → Hp → Prop} (h : tT (dTest de) σ H Q) : tTest (tE de) σ H Q := by
  obtain ⟨g, F, ρ, Qd, k, h, c⟩ := h
  refine ⟨g, F, ρ, _, k, h, fun F1 H1 ρ1 v d k1 e1 r1 h1 => ?_⟩
  cases d <;> first | exact h1.elim | skip
  cases r1
  exact ⟨_, rfl, c F1 H1 ρ1 _ k1 e1 h1⟩
theorem dt_val (h : PE X e (tE da)) (he : ∀ whole, isTrue e X.env whole = (do let v ← whole; standAt e.pos; holding [v] (truthy v)) := by intro _; rfl) : PT X e (tT (dTest da)) :=
  pt_imp (pt_val h he) fun _ _ _ q => t_test q
theorem dt_cmp {op : CmpOp} {o : DOp} (ho : OpR X (compareOp op) (rO o)) (ha : PE X a (tE da)) (hb : PE X b (tE db)) (hm : behindInMarks op b = false) : PT X (.Compare a [op] [b] pos) (tT (dTest (dBin o da db))) := by
  refine pt_imp (pt_cmpR ho ha hb hm) fun σ H Q q => ?_
  obtain ⟨g, F, ρ, Qd, k, h, c⟩ := q
  refine t_bin ⟨g, F, ρ, _, k, h, fun F1 H1 ρ1 v d k1 e1 r1 h1 => ?_⟩
  cases d <;> first | exact h1.elim | skip
  cases r1
  exact ⟨_, rfl, c F1 H1 ρ1 _ k1 e1 h1⟩
/-- a < b < c -/
def dChain (o o' : DOp) (da db dc : DTE) : DTE := fun ρ Q => da ρ fun d ρ1 => db ρ1 fun e ρ2 => o d e fun r => match r with
  | .bl true => dc ρ2 fun f ρ3 => o' e f fun q => Q q ρ3
  | .bl false => Q (.bl false) ρ2
  | _ => False
theorem t_chain {o o' : DOp} {σ : L2.St} {H : Hp} {Q : VK} (h : tE (dChain o o' da db dc) σ H Q) : tChain (rO o) (rO o') (tE da) (tE db) (tE dc) σ H Q := by
  obtain ⟨g, F, ρ, Qd, k, h, c⟩ := h
  refine ⟨g, F, ρ, _, k, h, fun F1 H1 ρ1 x d k1 e1 r1 h1 => ⟨g, F1, ρ1, _, k1, h1, fun F2 H2 ρ2 y e k2 e2 r2 h2 => ?_⟩⟩
  refine ⟨F2, d, e, _, k2.ex, r1.mono e2, r2, h2, fun F3 H3 v r G r3 q => ?_⟩
  cases r <;> first | exact q.elim | skip
  rename_i bb
  cases r3
  refine ⟨bb, rfl, ?_⟩
  cases bb with
  | false =>
    rw [if_neg Bool.false_ne_true]
    exact c F3 H3 ρ2 _ _ (k2.grow G) ((e1.trans e2).trans G.exF) (.bl _) q
  | true =>
    rw [if_pos rfl]
    refine ⟨g, F3, ρ2, _, k2.grow G, q, fun F4 H4 ρ3 z f k4 e4 r4 h4 => ?_⟩
    exact ⟨F4, e, f, _, k4.ex, (r2.mono G.exF).mono e4, r4, h4, fun F5 H5 v5 r5 G5 rr q5 => c F5 H5 ρ3 _ _ (k4.grow G5) ((((e1.trans e2).trans G.exF).trans e4).trans G5.exF) rr q5⟩
theorem de_chain {op op' : CmpOp} {o o' : DOp} (ho : OpR X (compareOp op) (rO o)) (ho' : OpR X (compareOp op') (rO o')) (ha : PE X a (tE da)) (hb : PE X b (tE db)) (hc : PE X c (tE dc)) (h : ∀ {t t' tc : TE} {r r' : R2}, PE X a t → PE X b t' → PE X c tc → OpR X (compareOp op) r → OpR X (compareOp op') r' → PE X (.Compare a [op, op'] [b, c] pos) (tChain r r' t t' tc)) :
    PE X (.Compare a [op, op'] [b, c] pos) (tE (dChain o o' da db dc)) := pe_imp (h ha hb hc ho ho') fun _ _ _ q => t_chain q
theorem dt_chain {op op' : CmpOp} {o o' : DOp} (ho : OpR X (compareOp op) (rO o)) (ho' : OpR X (compareOp op') (rO o')) (ha : PE X a (tE da)) (hb : PE X b (tE db)) (hc : PE X c (tE dc)) (h : ∀ {t t' tc : TE} {r r' : R2}, PE X a t → PE X b t' → PE X c tc → OpR X (compareOp op) r → OpR X (compareOp op') r' → PT X (.Compare a [op, op'] [b, c] pos) (tTest (tChain r r' t t' tc))) :
    PT X (.Compare a [op, op'] [b, c] pos) (tT (dTest (dChain o o' da db dc))) := by
  refine pt_imp (h ha hb hc ho ho') fun σ H Q q => ?_
  obtain ⟨g, F, ρ, Qd, k, h, c⟩ := q
  refine t_chain ⟨g, F, ρ, _, k, h, fun F1 H1 ρ1 v d k1 e1 r1 h1 => ?_⟩
  cases d <;> first | exact h1.elim | skip
  cases r1
  exact ⟨_, rfl, c F1 H1 ρ1 _ k1 e1 h1⟩
def dAnd (dt du : DTT) : DTT := fun ρ Q => dt ρ fun b ρ' => if b = true then du ρ' Q else Q false ρ'
def dOr (dt du : DTT) : DTT := fun ρ Q => dt ρ fun b ρ' => if b = true then Q true ρ' else du ρ' Q
def dNot (dt : DTT) : DTT := fun ρ Q => dt ρ fun b ρ' => Q (!b) ρ'
variable {rest : List Expr}
theorem dw_and1 (ha : PT X a (tT dt)) : PW X (.BoolOp .And [a] pos) (tT dt) := pw_and1 ha
theorem dw_or1 (ha : PT X a (tT dt)) : PW X (.BoolOp .Or [a] pos) (tT dt) := pw_or1 ha
theorem dw_and (ha : PT X a (tT dt)) (hb : PW X (.BoolOp .And (b :: rest) pos) (tT du)) : PW X (.BoolOp .And (a :: b :: rest) pos) (tT (dAnd dt du)) := by
  refine pw_imp (pw_and ha hb) fun σ H Q ⟨g, F, ρ, Qd, k, h, c⟩ => ?_
  refine ⟨g, F, ρ, _, k, h, fun F1 H1 ρ1 b k1 e1 h1 => ?_⟩
  cases b with
  | true =>
    rw [if_pos rfl] at h1 ⊢
    exact ⟨g, F1, ρ1, Qd, k1, h1, fun F2 H2 ρ2 b k2 e2 q => c F2 H2 ρ2 b k2 (e1.trans e2) q⟩
  | false =>
    rw [if_neg Bool.false_ne_true] at h1 ⊢
    exact c F1 H1 ρ1 _ k1 e1 h1
theorem dw_or (ha : PT X a (tT dt)) (hb : PW X (.BoolOp .Or (b :: rest) pos) (tT du)) : PW X (.BoolOp .Or (a :: b :: rest) pos) (tT (dOr dt du)) := by
  refine pw_imp (pw_or ha hb) fun σ H Q ⟨g, F, ρ, Qd, k, h, c⟩ => ?_
  refine ⟨g, F, ρ, _, k, h, fun F1 H1 ρ1 b k1 e1 h1 => ?_⟩
  cases b with
  | true =>
    rw [if_pos rfl] at h1 ⊢
    exact c F1 H1 ρ1 _ k1 e1 h1
  | false =>
    rw [if_neg Bool.false_ne_true] at h1 ⊢
    exact ⟨g, F1, ρ1, Qd, k1, h1, fun F2 H2 ρ2 b k2 e2 q => c F2 H2 ρ2 b k2 (e1.trans e2) q⟩
theorem dt_not (ha : PT X a (tT dt)) : PT X (.UnaryOp .Not a pos) (tT (dNot dt)) := by
  refine pt_imp (pt_not ha) fun σ H Q ⟨g, F, ρ, Qd, k, h, c⟩ => ?_
  exact ⟨g, F, ρ, _, k, h, fun F1 H1 ρ1 b k1 e1 h1 => c F1 H1 ρ1 _ k1 e1 h1⟩
/-- .. as values: all but the last a flag -/
def dAndV (da db : DTE) : DTE := fun ρ Q => da ρ fun d ρ' => match d with
  | .bl true => db ρ' Q
  | .bl false => Q (.bl false) ρ'
  | _ => False
def dOrV (da db : DTE) : DTE := fun ρ Q => da ρ fun d ρ' => match d with
  | .bl true => Q (.bl true) ρ'
  | .bl false => db ρ' Q
  | _ => False
def dNotV (da : DTE) : DTE := fun ρ Q => da ρ fun d ρ' => match d with
  | .bl b => Q (.bl (!b)) ρ'
  | _ => False
theorem de_and (ha : PE X a (tE da)) (hb : PE X (.BoolOp .And (b :: rest) pos) (tE db)) : PE X (.BoolOp .And (a :: b :: rest) pos) (tE (dAndV da db)) := by
  refine pe_imp (pe_and ha hb) fun σ H Q ⟨g, F, ρ, Qd, k, h, c⟩ => ?_
  refine ⟨g, F, ρ, _, k, h, fun F1 H1 ρ1 v d k1 e1 r1 h1 => ?_⟩
  cases d <;> first | exact h1.elim | skip
  rename_i bb
  cases r1
  refine ⟨bb, rfl, ?_⟩
  cases bb with
  | true =>
    rw [if_pos rfl]
    exact ⟨g, F1, ρ1, Qd, k1, h1, fun F2 H2 ρ2 v d k2 e2 r q => c F2 H2 ρ2 v d k2 (e1.trans e2) r q⟩
  | false =>
    rw [if_neg Bool.false_ne_true]
    exact c F1 H1 ρ1 _ _ k1 e1 (.bl _) h1
theorem de_or (ha : PE X a (tE da)) (hb : PE X (.BoolOp .Or (b :: rest) pos) (tE db)) : PE X (.BoolOp .Or (a :: b :: rest) pos) (tE (dOrV da db)) := by
  refine pe_imp (pe_or ha hb) fun σ H Q ⟨g, F, ρ, Qd, k, h, c⟩ => ?_
  refine ⟨g, F, ρ, _, k, h, fun F1 H1 ρ1 v d k1 e1 r1 h1 => ?_⟩
  cases d <;> first | exact h1.elim | skip
  rename_i bb
  cases r1
  refine ⟨bb, rfl, ?_⟩
  cases bb with
  | true =>
    rw [if_pos rfl]
    exact c F1 H1 ρ1 _ _ k1 e1 (.bl _) h1
  | false =>
    rw [if_neg Bool.false_ne_true]
    exact ⟨g, F1, ρ1, Qd, k1, h1, fun F2 H2 ρ2 v d k2 e2 r q => c F2 H2 ρ2 v d k2 (e1.trans e2) r q⟩
theorem de_one {op} (h : PE X a (tE da)) : PE X (.BoolOp op [a] pos) (tE da) := pe_one h
theorem de_not (ha : PE X a (tE da)) : PE X (.UnaryOp .Not a pos) (tE (dNotV da)) := by
  refine pe_imp (pe_not ha) fun σ H Q ⟨g, F, ρ, Qd, k, h, c⟩ => ?_
  refine ⟨g, F, ρ, _, k, h, fun F1 H1 ρ1 v d k1 e1 r1 h1 => ?_⟩
  cases d <;> first | exact h1.elim | skip
  cases r1
  exact ⟨_, rfl, c F1 H1 ρ1 _ _ k1 e1 (.bl _) h1⟩
def dIfE (dt : DTT) (da db : DTX) : DTX := fun ρ Q => dt ρ fun b ρ' => if b = true then da ρ' Q else db ρ' Q
theorem dx_ifE {da db : DTX} (hc : PT X c (tT dt)) (ha : PE X a (tX da)) (hb : PE X b (tX db)) : PE X (.IfExp c a b pos) (tX (dIfE dt da db)) := by
  refine pe_imp (pe_ifExp hc ha hb) fun σ H Q ⟨g, F, ρ, Qd, k, h, c⟩ => ?_
  refine ⟨g, F, ρ, _, k, h, fun F1 H1 ρ1 b k1 e1 h1 => ?_⟩
  cases b with
  | true =>
    rw [if_pos rfl] at h1 ⊢
    exact ⟨g, F1, ρ1, Qd, k1, h1, fun F2 H2 ρ2 v d k2 e2 r q => c F2 H2 ρ2 v d k2 (e1.trans e2) r q⟩
  | false =>
    rw [if_neg Bool.false_ne_true] at h1 ⊢
    exact ⟨g, F1, ρ1, Qd, k1, h1, fun F2 H2 ρ2 v d k2 e2 r q => c F2 H2 ρ2 v d k2 (e1.trans e2) r q⟩
end

/-! ### statements -/
section
variable {X : Cx} {e a b c : Expr} {pos : Pos} {da db dc : DTE} {dt du : DTT} {ds dz : DTS} {st : Stmt} {rest : List Stmt}
def dNext : DTS := fun D ρ => D.nx ρ
def dSeq (t u : DTS) : DTS := fun D ρ => t { D with nx := u D } ρ
theorem dss_nil : PSs X [] (tS dNext) := pss_imp pss_nil fun D σ H ⟨g, F, ρ, Dd, k, h, s⟩ => s.nx F σ H ρ k (Ex.refl _) h
theorem dss_cons (h1 : PS X st (tS ds)) (h2 : PSs X rest (tS dz)) : PSs X (st :: rest) (tS (dSeq ds dz)) := by
  refine pss_imp (pss_cons h1 h2) fun D σ H ⟨g, F, ρ, Dd, k, h, s⟩ => ?_
  exact ⟨g, F, ρ, _, k, h, ⟨fun F' σ' H' ρ' k' e h' => ⟨g, F', ρ', Dd, k', h', s.mono e⟩, s.rt, s.bk, s.ct⟩⟩
theorem dss_one (h1 : PS X st (tS ds)) : PSs X [st] (tS ds) := pss_one h1
def dBreak : DTS := fun D ρ => D.bk ρ
def dCont : DTS := fun D ρ => D.ct ρ
theorem ds_pass : PS X (.Pass pos) (tS dNext) := ps_imp ps_pass fun D σ H ⟨g, F, ρ, Dd, k, h, s⟩ => s.nx F σ H ρ k (Ex.refl _) h
theorem ds_break : PS X (.Break pos) (tS dBreak) := ps_imp ps_break fun D σ H ⟨g, F, ρ, Dd, k, h, s⟩ => s.bk F σ H ρ k (Ex.refl _) h
theorem ds_cont : PS X (.Continue pos) (tS dCont) := ps_imp ps_continue fun D σ H ⟨g, F, ρ, Dd, k, h, s⟩ => s.ct F σ H ρ k (Ex.refl _) h
def dNever : DTS := fun _ _ => False
theorem ds_never : PS X st (tS dNever) := ps_imp ps_never fun D σ H ⟨g, F, ρ, Dd, k, h, s⟩ => h
def dRet (dx : DTX) : DTS := fun D ρ => dx ρ fun c ρ' => D.rt c ρ'
theorem ds_ret {dx : DTX} (h : PE X e (tX dx)) : PS X (.Return (some e) pos) (tS (dRet dx)) := by
  refine ps_imp (ps_ret h) fun D σ H ⟨g, F, ρ, Dd, k, h, s⟩ => ?_
  exact ⟨g, F, ρ, _, k, h, fun F' H' ρ' v c k' e t q => s.rt F' σ H' ρ' v c k' e t q⟩
def dRetN : DTS := fun D ρ => D.rt (.fz .non) ρ
theorem ds_retN : PS X (.Return none pos) (tS dRetN) := ps_imp ps_retN fun D σ H ⟨g, F, ρ, Dd, k, h, s⟩ => s.rt F σ H ρ V.non (.fz .non) k (Ex.refl _) (Rep.non (F := F)) h
def dDrop (de : DTE) : DTS := fun D ρ => de ρ fun _ ρ' => D.nx ρ'
theorem ds_expr (h : PE X e (tE da)) (hs : swapsWith e none pos.line X.env = pure false := by rfl) : PS X (.Expr e pos) (tS (dDrop da)) := by
  refine ps_imp (ps_expr h hs) fun D σ H ⟨g, F, ρ, Dd, k, h, s⟩ => ?_
  exact ⟨g, F, ρ, _, k, h, fun F' H' ρ' v c k' e t q => s.nx F' σ H' ρ' k' e q⟩
/-- x = e -/
def dSet (i : Nat) (dx : DTX) : DTS := fun D ρ => dx ρ fun c ρ' => D.nx (ρ'.set i c)
theorem t_set {i : Nat} {dx : DTX} {te : TE} (hi : ∀ σ H Q, tX dx σ H Q → te σ H Q) {D : Ends} {σ : L2.St} {H : Hp} (h : tS (dSet i dx) D σ H) : tAsg te (gName i) D σ H := by
  obtain ⟨g, F, ρ, Dd, k, h, s⟩ := h
  refine hi _ _ _ ⟨g, F, ρ, _, k, h, fun F' H' ρ' v c k' e t q => ?_⟩
  cases c with
  | un => exact t.elim
  | io d => exact t.elim
  | fz d => exact s.nx F' _ H' _ (k'.set t) e q
  | ow d => exact s.nx F' _ H' _ (k'.setOw t) e q
theorem ds_set {i : Nat} {x : Str} {dx : DTX} {pos' : Pos} (hN : X.N.Nodup) (he : PE X e (tX dx)) (hi : X.N[i]? = some x := by rfl) (hx : Loc X.env.scope x := by first | exact Or.inl rfl | exact Or.inr rfl) (hs : swapsWith e (some (.Name x pos')) pos.line X.env = pure false := by rfl)
    (hf : X.fn x = true ∨ X.env.scope.names.lookup x = some .local := by first | exact .inl rfl | exact .inr rfl | assumption) : PS X (.Assign [.Name x pos'] e pos) (tS (dSet i dx)) :=
  ps_imp (ps_set hN hi hx he hs hf) fun D σ H h => t_set (fun _ _ _ q => q) h
def dIf (dt : DTT) (ds dz : DTS) : DTS := fun D ρ => dt ρ fun b ρ' => if b = true then ds D ρ' else dz D ρ'
theorem ds_if {xs ys : List Stmt} (hc : PT X c (tT dt)) (ha : PSs X xs (tS ds)) (hb : PSs X ys (tS dz)) : PS X (.If c xs ys pos) (tS (dIf dt ds dz)) := by
  refine ps_imp (ps_if hc ha hb) fun D σ H ⟨g, F, ρ, Dd, k, h, s⟩ => ?_
  refine ⟨g, F, ρ, _, k, h, fun F1 H1 ρ1 b k1 e1 h1 => ?_⟩
  cases b with
  | true => rw [if_pos rfl] at h1 ⊢; exact ⟨g, F1, ρ1, Dd, k1, h1, s.mono e1⟩
  | false => rw [if_neg Bool.false_ne_true] at h1 ⊢; exact ⟨g, F1, ρ1, Dd, k1, h1, s.mono e1⟩
def dWhile (dt : DTT) (db : DTS) : DTS := fun D ρ => ∃ W : Nat → Env → Prop, (∃ m, W m ρ) ∧ ∀ m ρ, W m ρ → dt ρ fun b ρ1 => if b = true then
  db { nx := fun ρ' => ∃ m', m' < m ∧ W m' ρ', ct := fun ρ' => ∃ m', m' < m ∧ W m' ρ', bk := D.nx, rt := D.rt } ρ1 else D.nx ρ1
theorem ds_while {body : List Stmt} (hp : PassesOwn (model X.prog X.w) X.A X.env X.xe) (hc : PT X c (tT dt)) (hb : PSs X body (tS ds)) : PS X (.While c body [] pos) (tS (dWhile dt ds)) := by
  refine ps_imp (ps_while hp hc hb) fun D σ H ⟨g, F, ρ, Dd, k, ⟨W, ⟨m0, w0⟩, turn⟩, s⟩ => ?_
  refine ⟨fun m σ H => ∃ F' ρ', EOk g F' σ H ρ' ∧ Ex F F' ∧ W m ρ', ⟨m0, F, ρ, k, Ex.refl _, w0⟩, fun m σ1 H1 ⟨F1, ρ1, k1, e1, w1⟩ => ?_⟩
  refine ⟨g, F1, ρ1, _, k1, turn m ρ1 w1, fun F2 H2 ρ2 b k2 e2 h2 => ?_⟩
  cases b with
  | true =>
    rw [if_pos rfl] at h2 ⊢
    refine ⟨fun σ' H' => ∃ F' ρ', EOk g F' σ' H' ρ' ∧ Ex F F' ∧ ∃ m', m' < m ∧ W m' ρ', fun σ' H' ⟨F', ρ', k', e', m', hm, w'⟩ => ⟨m', hm, F', ρ', k', e', w'⟩, ?_⟩
    refine ⟨g, F2, ρ2, _, k2, h2, ⟨fun F' σ' H' ρ' k' e' q => ⟨F', ρ', k', (e1.trans e2).trans e', q⟩, fun F' σ' H' ρ' v c k' e' t q => s.rt F' σ' H' ρ' v c k' ((e1.trans e2).trans e') t q, fun F' σ' H' ρ' k' e' q => s.nx F' σ' H' ρ' k' ((e1.trans e2).trans e') q, fun F' σ' H' ρ' k' e' q => ⟨F', ρ', k', (e1.trans e2).trans e', q⟩⟩⟩
  | false =>
    rw [if_neg Bool.false_ne_true] at h2 ⊢
    exact s.nx F2 σ1 H2 ρ2 k2 (e1.trans e2) h2
/-- x op= e -/
def dAug (i : Nat) (o : DOp) (de : DTE) : DTS := fun D ρ => match ρ[i]? with
  | some (.fz d) => de ρ fun e ρ1 => o d e fun r => D.nx (ρ1.set i (.fz r))
  | _ => False
theorem ds_aug {i : Nat} {x : Str} {op : Operator} {o : DOp} {pos' : Pos} (hN : X.N.Nodup) (he : PE X e (tE da)) (ho : OpR X (inplaceOp op) (rO o)) (hi : X.N[i]? = some x := by rfl) (hx : Loc X.env.scope x := by first | exact Or.inl rfl | exact Or.inr rfl)
    (hf : X.fn x = true ∨ X.env.scope.names.lookup x = some .local := by first | exact .inl rfl | exact .inr rfl | assumption) : PS X (.AugAssign (.Name x pos') op e pos) (tS (dAug i o da)) := by
  refine ps_imp (ps_aug hN hi hx he ho hf) fun D σ H ⟨g, F, ρ, Dd, k, h, s⟩ => ?_
  unfold dAug at h
  split at h
  · rename_i d hd
    obtain ⟨v, hv, y, ey, r⟩ := k.slot hd
    subst ey
    refine ⟨y, hv, g, F, ρ, _, k, h, fun F1 H1 ρ1 z e k1 e1 r1 h1 => ?_⟩
    exact ⟨F1, d, e, _, k1.ex, r.mono e1, r1, h1, fun F3 H3 w r G r3 q => s.nx F3 _ H3 _ ((k1.grow G).set r3) (e1.trans G.exF) q⟩
  · exact h.elim
def oAug : DOp := fun d e K => match d, e with
  | .int i, .int j => K (.int (i + j))
  | .str x, .str y => x.length + y.length ≤ sizeLine ∧ K (.str (x ++ y))
  | _, _ => False
theorem ir_add : OpR X (inplaceOp .Add) (rO oAug) := by
  intro pins s σ H x y v u Q I rx ry ⟨F, d, e, Qd, ex, r1, r2, o, c⟩
  cases d <;> cases e <;> first | exact o.elim | skip
  · cases r1; cases r2
    exact iop_add pins s σ H _ _ v u Q I rx ry ⟨_, _, rfl, rfl, c F H _ _ (Grow.refl ex) (.int _) o⟩
  · obtain ⟨z, o⟩ := o
    cases r1; cases r2
    refine iop_add_str pins s σ H _ _ v u Q I rx ry ⟨_, _, rfl, rfl, z, ?_⟩
    rw [S_append]
    exact c F H _ _ (Grow.refl ex) (.str (by rw [List.length_append]; exact z)) o
theorem ir_sub : OpR X (inplaceOp .Sub) (rO oSub) := or_I0 iop_sub
end

/-! ### targets -/
abbrev DTG := D → Env → (Env → Prop) → Prop
abbrev DTGs := List D → Env → (Env → Prop) → Prop
def Agree (sl : List Nat) (σ σ' : L2.St) : Prop := σ'.length = σ.length ∧ ∀ j, j ∉ sl → σ'[j]? = σ[j]?
def tG (sl : List Nat) (dg : DTG) : TG := fun v σ H Q => ∃ g F ρ x Qd, EOk g F σ H ρ ∧ Rep F v x ∧ dg x ρ Qd ∧ ∀ F' σ' H' ρ', EOk g F' σ' H' ρ' → Ex F F' → Agree sl σ σ' → Qd ρ' → Q σ' H'
def tGs (sl : List Nat) (dg : DTGs) : TGs := fun v σ H Q => ∃ g F ρ x Qd, EOk g F σ H ρ ∧ Reps F v x ∧ dg x ρ Qd ∧ ∀ F' σ' H' ρ', EOk g F' σ' H' ρ' → Ex F F' → Agree sl σ σ' → Qd ρ' → Q σ' H'
section
variable {X : Cx} {pos : Pos} {tg e : Expr} {es : List Expr} {dg : DTG} {dgs : DTGs} {sl sl' : List Nat}
theorem pg_imp {t t' : TG} (h : PG X tg t) (i : ∀ v σ H Q, t' v σ H Q → t v σ H Q) : PG X tg t' := ⟨fun pins s σ H v u Q I r q => h.run pins s σ H v u Q I r (i v σ H Q q)⟩
theorem pgs_imp {t t' : TGs} (h : PGs X es t) (i : ∀ v σ H Q, t' v σ H Q → t v σ H Q) : PGs X es t' := ⟨fun pins s σ H v u Q I r q => h.run pins s σ H v u Q I r (i v σ H Q q)⟩
def dgName (i : Nat) : DTG := fun x ρ Q => Q (ρ.set i (.fz x))
theorem dg_name {i : Nat} {x : Str} (hN : X.N.Nodup) (hi : X.N[i]? = some x := by rfl) (hx : Loc X.env.scope x := by first | exact Or.inl rfl | exact Or.inr rfl) (hf : X.fn x = true ∨ X.env.scope.names.lookup x = some .local := by first | exact .inl rfl | exact .inr rfl | assumption) : PG X (.Name x pos) (tG [i] (dgName i)) := by
  refine pg_imp (pg_name hN hi hx hf) fun v σ H Q ⟨g, F, ρ, x, Qd, k, r, h, c⟩ => ?_
  refine c F _ H _ (k.set r) (Ex.refl _) ⟨List.length_set, fun j hj => ?_⟩ h
  rw [List.getElem?_set_ne (fun z => hj (by simp [z]))]
def dgNil : DTGs := fun xs ρ Q => match xs with
  | [] => Q ρ
  | _ => False
def dgCons (dg : DTG) (dgs : DTGs) : DTGs := fun xs ρ Q => match xs with
  | x :: r => dg x ρ fun ρ' => dgs r ρ' Q
  | [] => False
theorem dgs_nil : PGs X [] (tGs [] dgNil) := pgs_imp pgs_nil fun v σ H Q ⟨g, F, ρ, x, Qd, k, r, h, c⟩ => by
  cases r with
  | nil => exact ⟨rfl, c F σ H ρ k (Ex.refl _) ⟨rfl, fun _ _ => rfl⟩ h⟩
  | cons _ _ => exact h.elim
theorem dgs_cons (h1 : PG X e (tG sl dg)) (h2 : PGs X es (tGs sl' dgs)) (hs : (assignEach (e :: es) X.env).map (·.2) = assign e X.env :: (assignEach es X.env).map (·.2) := by rfl) : PGs X (e :: es) (tGs (sl ++ sl') (dgCons dg dgs)) := by
  refine pgs_imp (pgs_cons h1 h2 hs) fun v σ H Q ⟨g, F, ρ, x, Qd, k, r, h, c⟩ => ?_
  cases r with
  | nil => exact h.elim
  | cons r t =>
    refine ⟨_, _, rfl, g, F, ρ, _, _, k, r, h, fun F1 σ1 H1 ρ1 k1 e1 s1 h1 => ?_⟩
    refine ⟨g, F1, ρ1, _, _, k1, t.mono e1, h1, fun F2 σ2 H2 ρ2 k2 e2 s2 h2 => c F2 σ2 H2 ρ2 k2 (e1.trans e2) ⟨s2.1.trans s1.1, fun j hj => ?_⟩ h2⟩
    rw [s2.2 j (fun z => hj (List.mem_append_right _ z)), s1.2 j (fun z => hj (List.mem_append_left _ z))]
def dgTup (n : Nat) (dgs : DTGs) : DTG := fun x ρ Q => match x with
  | .tup xs => xs.length = n ∧ dgs xs ρ Q
  | _ => False
theorem dg_tup {k : Nat} {n : Nat} (hc : X.calm = true) (h : PGs X es (tGs sl dgs)) (hn : (assignEach es X.env).length = n := by rfl) (hst : (assignEach es X.env).findIdx? (·.1) = none := by rfl) : PG X (.Tuple es k pos) (tG sl (dgTup n dgs)) := by
  refine pg_imp (pg_tup hc h hn hst) fun v σ H Q ⟨g, F, ρ, x, Qd, k, r, h, c⟩ => ?_
  cases x <;> first | exact h.elim | skip
  obtain ⟨hl, h⟩ := h
  cases r with
  | tup h1 q1 z => exact ⟨_, _, rfl, .of (k.ex _ _ h1), by rw [q1.length]; exact hl, g, F, ρ, _, _, k, q1, h, c⟩
/-- target = e -/
def dAsg (de : DTE) (dg : DTG) : DTS := fun D ρ => de ρ fun d ρ' => dg d ρ' D.nx
theorem ds_asg {de : DTE} (he : PE X e (tE de)) (hg : PG X tg (tG sl dg)) (hs : swapsWithSole [tg] e pos.line X.env = pure false := by rfl) (hw : swappedStores [tg] e X.env = pure none := by rfl)
    (h1 : (assignEach [tg] X.env).map (·.2) = [assign tg X.env] := by rfl) : PS X (.Assign [tg] e pos) (tS (dAsg de dg)) := by
  refine ps_imp (ps_asg he hg hs hw h1) fun D σ H ⟨g, F, ρ, Dd, k, h, s⟩ => ?_
  refine ⟨g, F, ρ, _, k, h, fun F' H' ρ' v c k' e t q => ?_⟩
  exact ⟨g, F', ρ', _, _, k', t, q, fun F2 σ2 H2 ρ2 k2 e2 _ q2 => s.nx F2 σ2 H2 ρ2 k2 (e.trans e2) q2⟩
/-- x, y = a, b -/
def dPar (i j : Nat) (da : DTA) : DTS := fun D ρ => da ρ fun ds ρ' => match ds with
  | [d, e] => D.nx ((ρ'.set i (.fz d)).set j (.fz e))
  | _ => False
theorem ds_par {i j : Nat} {x y : Str} {a b : Expr} {da : DTA} {px py pt : Pos} {kt k2 pt2} (hc : X.calm = true) (hN : X.N.Nodup) (hi : X.N[i]? = some x) (hj : X.N[j]? = some y) (hij : i ≠ j)
    (hx : X.env.scope.names.lookup x = some .local) (hy : X.env.scope.names.lookup y = some .local) (ha : PA X [a, b] (tA da))
    (hw : swappedStores [.Tuple [.Name x px, .Name y py] kt pt] (.Tuple [a, b] k2 pt2) X.env = pure (some [x, y]) := by rfl)
    (hs : swapsWithSole [.Tuple [.Name x px, .Name y py] kt pt] (.Tuple [a, b] k2 pt2) pos.line X.env = pure false := by rfl) :
    PS X (.Assign [.Tuple [.Name x px, .Name y py] kt pt] (.Tuple [a, b] k2 pt2) pos) (tS (dPar i j da)) := by
  refine ps_imp (ps_par hc hN hi hj hij hx hy ha hw hs) fun D σ H ⟨g, F, ρ, Dd, k, h, s⟩ => ?_
  refine ⟨g, F, ρ, _, k, h, fun F' H' ρ' vs ds k' e t q => ?_⟩
  match ds, q, t with
  | [d, e1], q, t =>
    cases t with
    | cons r1 t =>
      cases t with
      | cons r2 t =>
        cases t
        exact ⟨_, _, rfl, s.nx F' _ H' _ ((k'.set r1).set r2) e q⟩
end

/-! ### what is walked -/
abbrev DTI := Env → (List D → Env → Prop) → Prop
def YOk (F H : Hp) (v : V) (x : D) (H2 : Hp) : Prop :=
  (H2 = H ∧ Rep F v x) ∨ (∃ T vs ds, H T = none ∧ H2 = upd H T (.tup vs) ∧ v = .ref T ∧ Reps F vs ds ∧ x = .tup ds ∧ ds.length ≤ sizeLine) ∨
    ∃ T vs ds, H2 = H ∧ H T = some (.tup vs) ∧ v = .ref T ∧ Reps F vs ds ∧ x = .tup ds ∧ ds.length ≤ sizeLine
structure ItD (F : Hp) (J : It) (items : List D) : Prop where
  z : items.length ≤ sizeLine
  go : ∀ i H x, Ex F H → items[i]? = some x → J.go i H ∧ ∀ v H2, J.yld i H v H2 → YOk F H v x H2
  stop : ∀ H, Ex F H → J.stop items.length H
def tI (di : DTI) : TI := fun σ H R => ∃ g F ρ Qd, EOk g F σ H ρ ∧ di ρ Qd ∧ ∀ F' H' ρ' J items, EOk g F' σ H' ρ' → Ex F F' → ItD F' J items → Qd items ρ' → R J H'
/-- a list, a tuple, a text -/
def itemsOf : D → Option (List D)
  | .lst xs => some xs
  | .tup xs => some xs
  | .str l => some (l.map fun c => .str [c])
  | _ => none
def dIt (de : DTE) : DTI := fun ρ Q => de ρ fun d ρ' => match itemsOf d with
  | some xs => Q xs ρ'
  | none => False
section
variable {X : Cx} {tg e a b c : Expr} {da db dc : DTE} {pos : Pos} {K : PySem.W.Frag}
theorem itd_list {F : Hp} {a : Addr} {vs : List V} {ds : List D} (h : F a = some (.lst vs)) (r : Reps F vs ds) (z : ds.length ≤ sizeLine) : ItD F (Itl K a) ds := by
  refine ⟨z, fun i H x ex hx => ?_, fun H ex => ⟨vs, .of (ex _ _ h), by rw [r.length]; exact Nat.le_refl _⟩⟩
  obtain ⟨v, hv, rv⟩ := r.get hx
  refine ⟨⟨vs, v, .of (ex _ _ h), hv⟩, fun w H2 ⟨e, q⟩ => .inl ⟨e, ?_⟩⟩
  have := q vs (.of (ex _ _ h))
  rw [hv] at this; cases this
  exact rv
theorem itd_tup {F : Hp} {a : Addr} {vs : List V} {ds : List D} (h : F a = some (.tup vs)) (r : Reps F vs ds) (z : ds.length ≤ sizeLine) : ItD F (Itt K a) ds := by
  refine ⟨z, fun i H x ex hx => ?_, fun H ex => ⟨vs, .of (ex _ _ h), by rw [r.length]; exact Nat.le_refl _⟩⟩
  obtain ⟨v, hv, rv⟩ := r.get hx
  refine ⟨⟨vs, v, .of (ex _ _ h), hv⟩, fun w H2 ⟨e, q⟩ => .inl ⟨e, ?_⟩⟩
  have := q vs (.of (ex _ _ h))
  rw [hv] at this; cases this
  exact rv
theorem itd_str {F : Hp} {l : List Nat} (z : l.length ≤ sizeLine) : ItD F (Its (S l)) (l.map fun c => .str [c]) := by
  refine ⟨by rw [List.length_map]; exact z, fun i H x ex hx => ?_, fun H ex => ?_⟩
  · rw [List.getElem?_map] at hx
    cases hl : l[i]? with
    | none => rw [hl] at hx; cases hx
    | some n =>
      rw [hl] at hx
      cases hx
      refine ⟨(by show i < l.toArray.size; rw [List.size_toArray]; exact (List.getElem?_eq_some_iff.mp hl).1), fun v H2 ⟨e1, c1, h1, h2⟩ => .inl ⟨e1, ?_⟩⟩
      have h1' : l.toArray[i]? = some c1 := h1
      rw [List.getElem?_toArray, hl] at h1'
      cases h1'
      subst h2
      exact .str (l := [n]) (by show 1 ≤ 16777216; decide)
  · show l.toArray.size ≤ _
    rw [List.size_toArray, List.length_map]
    exact Nat.le_refl _
theorem di_any (he : PE X e (tE da)) : PI X tg e (tI (dIt da)) := by
  refine ⟨fun pins s σ H R I h => ?_⟩
  obtain ⟨g, F, ρ, Qd, k, h, cn⟩ := h
  refine thn (he.run pins s σ H (fun v H' => ∃ F' ρ' d, EOk g F' σ H' ρ' ∧ Ex F F' ∧ Rep F' v d ∧ (match itemsOf d with | some xs => Qd xs ρ' | none => False)) I ⟨g, F, ρ, _, k, h, fun F' H' ρ' v d k' e r q => ⟨F', ρ', d, k', e, r, q⟩⟩) fun v s1 ⟨x, H1, I1, r1, F1, ρ1, d, k1, e1, rd, q⟩ => ?_
  cases d <;> first | exact q.elim | skip
  · rename_i l
    cases rd with
    | str z =>
      obtain ⟨t, rfl⟩ := r1
      have q2 := cn F1 H1 ρ1 (Its (S l)) _ k1 e1 (itd_str z) q
      cases ha : (S l).cps.all (· < 128)
      · exact wpAny_pyIter_wide ha (pi_one (tk := s1.toks) I1 _ (turn_str _ (S l) t "str_iterator" (.inr rfl)) ⟨_, Heap.get?_push_size _ rfl, rfl, rfl⟩ q2)
      · exact wpAny_pyIter_ascii ha (pi_one (tk := s1.toks) I1 _ (turn_str _ (S l) t "str_ascii_iterator" (.inl rfl)) ⟨_, Heap.get?_push_size _ rfl, rfl, rfl⟩ q2)
  · cases rd with
    | @lst a vs _ h1 r z =>
      cases r1
      have q2 := cn F1 H1 ρ1 (Itl X.K a) _ k1 e1 (itd_list h1 r z) q
      obtain ⟨its, rv, p, hz⟩ := I1.list (.of (k1.ex _ _ h1))
      exact wpAny_pyIter_list p.isList (pi_one (tk := s1.toks) I1 _ (turn_list a _) ⟨_, Heap.get?_push_size _ rfl, rfl, rfl⟩ q2)
  · cases rd with
    | @tup a vs _ h1 r z =>
      cases r1
      have q2 := cn F1 H1 ρ1 (Itt X.K a) _ k1 e1 (itd_tup h1 r z) q
      obtain ⟨its, rv, p, hz⟩ := I1.tuple (.of (k1.ex _ _ h1))
      exact wpAny_pyIter_tuple (show s1.heap.IsTuple a its.toArray from p) (pi_one (tk := s1.toks) I1 _ (turn_tuple a _) ⟨_, Heap.get?_push_size _ rfl, rfl, rfl⟩ q2)
theorem pi_imp {t t' : TI} (h : PI X tg e t) (i : ∀ σ H R, t' σ H R → t σ H R) : PI X tg e t' := ⟨fun pins s σ H R I q => h.run pins s σ H R I (i σ H R q)⟩
/-- lo, lo + 1, .., n of them -/
def rangeD (lo : Int) (n : Nat) : List D := (List.range n).map fun (k : Nat) => D.int (lo + ((k : Nat) : Int))
theorem rangeD_length (lo : Int) (n : Nat) : (rangeD lo n).length = n := by simp [rangeD]
theorem itd_range {F : Hp} {lo : Int} {n : Nat} (z : n ≤ sizeLine) : ItD F (Itr lo n) (rangeD lo n) := by
  refine ⟨by rw [rangeD_length]; exact z, fun i H x ex hx => ?_, fun H ex => ?_⟩
  · unfold rangeD at hx
    rw [List.getElem?_map] at hx
    cases hl : (List.range n)[i]? with
    | none => rw [hl] at hx; cases hx
    | some m =>
      rw [hl] at hx
      cases hx
      obtain ⟨h1, h2⟩ := List.getElem?_eq_some_iff.mp hl
      rw [List.getElem_range] at h2
      subst h2
      refine ⟨(by show i < n; simpa using h1), fun v H2 ⟨e1, e2⟩ => .inl ⟨e1, ?_⟩⟩
      subst e2
      exact .int _
  · show n ≤ _
    rw [rangeD_length]
    exact Nat.le_refl _
def dRng1 (da : DTA) : DTI := fun ρ Q => da ρ fun ds ρ' => match ds with
  | [.int j] => j ≤ 16777216 ∧ -(2 ^ 62) ≤ j ∧ Q (rangeD 0 j.toNat) ρ'
  | _ => False
def dRng2 (da : DTA) : DTI := fun ρ Q => da ρ fun ds ρ' => match ds with
  | [.int i, .int j] => (-(2 ^ 62) ≤ i ∧ i < 2 ^ 62 ∧ -(2 ^ 62) ≤ j ∧ j < 2 ^ 62) ∧ (j - i).toNat ≤ 16777216 ∧ Q (rangeD i (j - i).toNat) ρ'
  | _ => False
theorem di_range1 {da : DTA} {p : Pos} (hg : Gl X "range") (hm : X.mg "range" = none) (ha : PA X [a] (tA da)) (hs : starEach [a] X.env = [(false, eval a X.env)] := by rfl) : PI X tg (.Call (.Name "range" p) [a] [] pos) (tI (dRng1 da)) := by
  refine pi_imp (pi_range1 hg hm ha hs) fun σ H R ⟨g, F, ρ, Qd, k, h, c⟩ => ?_
  refine ⟨g, F, ρ, _, k, h, fun F1 H1 ρ1 vs ds k1 e1 r1 q => ?_⟩
  match ds, q, r1 with
  | [.int j], ⟨h1, h2, q⟩, r1 =>
    cases r1 with
    | cons r t =>
      cases t
      cases r
      exact ⟨j, rfl, h2, by omega, c F1 H1 ρ1 _ _ k1 e1 (itd_range (by show _ ≤ 16777216; omega)) q⟩
theorem di_range2 {da : DTA} {p : Pos} (hg : Gl X "range") (hm : X.mg "range" = none) (ha : PA X [a, b] (tA da)) (hs : starEach [a, b] X.env = [(false, eval a X.env), (false, eval b X.env)] := by rfl) (hs2 : starEach [b] X.env = [(false, eval b X.env)] := by rfl) :
    PI X tg (.Call (.Name "range" p) [a, b] [] pos) (tI (dRng2 da)) := by
  refine pi_imp (pi_range2 hg hm ha hs hs2) fun σ H R ⟨g, F, ρ, Qd, k, h, c⟩ => ?_
  refine ⟨g, F, ρ, _, k, h, fun F1 H1 ρ1 vs ds k1 e1 r1 q => ?_⟩
  match ds, q, r1 with
  | [.int i, .int j], ⟨h1, h2, q⟩, r1 =>
    cases r1 with
    | cons r t =>
      cases t with
      | cons r' t =>
        cases t
        cases r
        cases r'
        exact ⟨i, j, rfl, h1, c F1 H1 ρ1 _ _ k1 e1 (itd_range (by show _ ≤ 16777216; omega)) q⟩
end

/-! ### for -/
def forW (tg : DTG) (body : DTS) (D0 : DEnds) : List D → Env → Prop
  | [], ρ => D0.nx ρ
  | x :: xs, ρ => tg x ρ fun ρ2 => body { nx := forW tg body D0 xs, ct := forW tg body D0 xs, bk := D0.nx, rt := D0.rt } ρ2
def dFor (di : DTI) (tg : DTG) (body : DTS) : DTS := fun D0 ρ => di ρ fun items ρ1 => forW tg body D0 items ρ1
/-- what an iterator yields stands in a heap -/
theorem EOk.yield {g : Gd} {F H H2 : Hp} {σ : L2.St} {ρ : Env} {v : V} {x : D} (k : EOk g F σ H ρ) {F1 : Hp} (e : Ex F1 F) (y : YOk F1 H v x H2) : ∃ F2, EOk g F2 σ H2 ρ ∧ Ex F F2 ∧ Rep F2 v x := by
  rcases y with ⟨rfl, r⟩ | ⟨T, vs, ds, hT, rfl, rfl, r, rfl, z⟩ | ⟨T, vs, ds, rfl, hT, rfl, r, rfl, z⟩
  · exact ⟨F, k, Ex.refl _, r.mono e⟩
  · have G := Grow.alloc (o := .tup vs) k.ex hT
    exact ⟨_, k.grow G, G.exF, .tup upd_same ((r.mono e).mono G.exF) z⟩
  · cases q : F T with
    | some o =>
      have := k.ex T o q
      rw [hT] at this
      cases this
      exact ⟨F, k, Ex.refl _, .tup q (r.mono e) z⟩
    | none =>
      have exF : Ex F (upd F T (.tup vs)) := Ex.new q
      have G : Grow F H2 (upd F T (.tup vs)) H2 := ⟨exF, fun b o h => by
        by_cases eb : b = T
        · subst eb; rw [upd_same] at h; cases h; exact hT
        · rw [upd_ne eb] at h; exact k.ex b o h, Ex.refl _, fun b o h => by
        by_cases eb : b = T
        · subst eb; rw [upd_same] at h; cases h; exact .inr (.inr ⟨vs, rfl⟩)
        · rw [upd_ne eb] at h; exact .inl h⟩
      exact ⟨_, k.grow G, exF, .tup upd_same ((r.mono e).mono exF) z⟩
section
variable {X : Cx} {tg e iter : Expr} {di : DTI} {dg : DTG} {ds : DTS} {pos : Pos} {sl : List Nat} {body : List Stmt}
theorem drop_of {α : Type} {xs : List α} {i : Nat} (h : i < xs.length) : xs.drop i = xs[i] :: xs.drop (i + 1) := (List.getElem_cons_drop (h := h)).symm
theorem ds_for (hp : PassesOwn (model X.prog X.w) X.A X.env X.xe) (hc : X.calm = true) (hi : PI X tg iter (tI di)) (hg : PG X tg (tG sl dg)) (hb : PSs X body (tS ds))
    (hs : ∀ x, foldedSetIterable iter X.env x = pure x := by intro _; rfl) : PS X (.For tg iter body [] pos) (tS (dFor di dg ds)) := by
  refine ps_imp (ps_for hp hc hi hg hb hs) fun D σ H ⟨g, F, ρ, Dd, k, h, s⟩ => ?_
  refine ⟨g, F, ρ, _, k, h, fun F1 H1 ρ1 J items k1 e1 it h1 => ?_⟩
  refine ⟨fun i m σ H => ∃ F' ρ', m = items.length - i ∧ i ≤ items.length ∧ EOk g F' σ H ρ' ∧ Ex F1 F' ∧ forW dg ds Dd (items.drop i) ρ', ⟨items.length, F1, ρ1, by simp, Nat.zero_le _, k1, Ex.refl _, h1⟩, ?_⟩
  rintro i m σ2 H2 ⟨F2, ρ2, rfl, hi2, k2, e2, w2⟩
  by_cases hlt : i < items.length
  · right
    rw [drop_of hlt] at w2
    obtain ⟨go, yl⟩ := it.go i H2 items[i] (e2.trans k2.ex) (List.getElem?_eq_getElem hlt)
    refine ⟨go, fun σ' H' => ∃ F' ρ', EOk g F' σ' H' ρ' ∧ Ex F1 F' ∧ forW dg ds Dd (items.drop (i + 1)) ρ', fun σ' H' ⟨F', ρ', k', e', w'⟩ => ⟨items.length - (i + 1), by omega, F', ρ', rfl, hlt, k', e', w'⟩, fun v H3 hy => ?_⟩
    obtain ⟨F3, k3, e3, r3⟩ := k2.yield e2 (yl v H3 hy)
    have w2 : dg items[i] ρ2 fun ρ2 => ds { nx := forW dg ds Dd (items.drop (i + 1)), ct := forW dg ds Dd (items.drop (i + 1)), bk := Dd.nx, rt := Dd.rt } ρ2 := w2
    refine ⟨g, F3, ρ2, _, _, k3, r3, w2, fun F4 σ4 H4 ρ4 k4 e4 _ w4 => ?_⟩
    have e5 := (e2.trans e3).trans e4
    refine ⟨g, F4, ρ4, _, k4, w4, ⟨fun F' σ' H' ρ' k' e' q => ⟨F', ρ', k', e5.trans e', q⟩, fun F' σ' H' ρ' v c k' e' t q => s.rt F' σ' H' ρ' v c k' ((e1.trans e5).trans e') t q, fun F' σ' H' ρ' k' e' q => s.nx F' σ' H' ρ' k' ((e1.trans e5).trans e') q, fun F' σ' H' ρ' k' e' q => ⟨F', ρ', k', e5.trans e', q⟩⟩⟩
  · have ei : i = items.length := by omega
    subst ei
    left
    rw [List.drop_length] at w2
    exact ⟨it.stop H2 (e2.trans k2.ex), s.nx F2 σ2 H2 ρ2 k2 (e1.trans e2) w2⟩
end
end DL

namespace DL
open PySem PySem.Spec PyProof.Rows L2

/-! ### list comprehensions -/
def wipeE (ρ : Env) : List Nat → Env
  | [] => ρ
  | v :: vs => (wipeE ρ vs).set v .un
def restE (o ρ : Env) : List Nat → Env
  | [] => ρ
  | v :: vs => (restE o ρ vs).set v (o.getD v .un)
def lcW (tg : DTG) (tt : DTT) (te : DTE) (vs : List Nat) : List D → List D → Env → (List D → Env → Prop) → Prop
  | [], acc, ρ, K => K acc ρ
  | x :: xs, acc, ρ, K => tg x (wipeE ρ vs) fun ρ2 => tt ρ2 fun b ρ3 => if b = true then te ρ3 fun y ρ4 => lcW tg tt te vs xs (acc ++ [y]) ρ4 K else lcW tg tt te vs xs acc ρ3 K
def dLc (di : DTI) (tg : DTG) (tt : DTT) (te : DTE) (vs : List Nat) : DTX := fun ρ Q => di ρ fun items ρ1 => (vs.all fun v => !(ρ1.getD v .un).own) = true ∧ lcW tg tt te vs items [] ρ1 fun acc ρ2 => Q (.ow (.lst acc)) (restE ρ1 ρ2 vs)
def dYes : DTT := fun ρ Q => Q true ρ
theorem wipeE_length (ρ : Env) : ∀ vs, (wipeE ρ vs).length = ρ.length
  | [] => rfl
  | v :: vs => by unfold wipeE; rw [List.length_set, wipeE_length ρ vs]
theorem restE_length (o ρ : Env) : ∀ vs, (restE o ρ vs).length = ρ.length
  | [] => rfl
  | v :: vs => by unfold restE; rw [List.length_set, restE_length o ρ vs]
theorem wipeE_mem {ρ : Env} {j : Nat} : ∀ {vs : List Nat}, j ∈ vs → j < ρ.length → (wipeE ρ vs)[j]? = some .un
  | v :: vs, h, hl => by
    unfold wipeE
    by_cases e : v = j
    · subst e; rw [List.getElem?_set_self (by rw [wipeE_length]; exact hl)]
    · rw [List.getElem?_set_ne e]
      exact wipeE_mem ((List.mem_cons.mp h).resolve_left fun z => e z.symm) hl
theorem wipeE_not {ρ : Env} {j : Nat} : ∀ {vs : List Nat}, j ∉ vs → (wipeE ρ vs)[j]? = ρ[j]?
  | [], _ => rfl
  | v :: vs, h => by
    unfold wipeE
    rw [List.getElem?_set_ne (fun z => h (by simp [z])), wipeE_not fun z => h (List.mem_cons_of_mem _ z)]
theorem restE_mem {o ρ : Env} {j : Nat} : ∀ {vs : List Nat}, j ∈ vs → j < ρ.length → (restE o ρ vs)[j]? = some (o.getD j .un)
  | v :: vs, h, hl => by
    unfold restE
    by_cases e : v = j
    · subst e; rw [List.getElem?_set_self (by rw [restE_length]; exact hl)]
    · rw [List.getElem?_set_ne e]
      exact restE_mem ((List.mem_cons.mp h).resolve_left fun z => e z.symm) hl
theorem restE_not {o ρ : Env} {j : Nat} : ∀ {vs : List Nat}, j ∉ vs → (restE o ρ vs)[j]? = ρ[j]?
  | [], _ => rfl
  | v :: vs, h => by
    unfold restE
    rw [List.getElem?_set_ne (fun z => h (by simp [z])), restE_not fun z => h (List.mem_cons_of_mem _ z)]
theorem wipe_mem {σ : L2.St} {j : Nat} : ∀ {vs : List Nat}, j ∈ vs → j < σ.length → (wipe σ vs)[j]? = some none
  | v :: vs, h, hl => by
    unfold wipe
    by_cases e : v = j
    · subst e; rw [List.getElem?_set_self (by rw [wipe_length]; exact hl)]
    · rw [List.getElem?_set_ne e]
      exact wipe_mem ((List.mem_cons.mp h).resolve_left fun z => e z.symm) hl
theorem wipe_not {σ : L2.St} {j : Nat} : ∀ {vs : List Nat}, j ∉ vs → (wipe σ vs)[j]? = σ[j]?
  | [], _ => rfl
  | v :: vs, h => by
    unfold wipe
    rw [List.getElem?_set_ne (fun z => h (by simp [z])), wipe_not fun z => h (List.mem_cons_of_mem _ z)]
section
variable {g : Gd} {F F' H H' : Hp} {σ : L2.St} {ρ : Env}
theorem EOk.wipe (k : EOk g F σ H ρ) : ∀ vs, EOk g F (L2.wipe σ vs) H (wipeE ρ vs)
  | [] => k
  | v :: vs => (k.wipe vs).forget v none (.inl rfl)
/-- the slots of a block as they were ahead of it -/
theorem EOk.rest {ρ0 : Env} {F0 H0 : Hp} {vs : List Nat} (k0 : EOk g F0 σ H0 ρ0) (e : Ex F0 F) (hv : (vs.all fun v => !(ρ0.getD v .un).own) = true) (k : EOk g F (L2.wipe σ vs) H (wipeE ρ vs)) : EOk g F σ H (restE ρ0 ρ vs) := by
  have hl : σ.length = ρ.length := by
    have := k.len
    rw [wipe_length, wipeE_length] at this
    exact this
  have hv' : ∀ v ∈ vs, (ρ0.getD v .un).own = false := fun v h => by
    have := List.all_eq_true.mp hv v h
    simpa using this
  have inv : ∀ {j : Nat} {c : Cell}, (restE ρ0 ρ vs)[j]? = some c → c.own = true → j ∉ vs ∧ ρ[j]? = some c := fun {j c} h ho => by
    by_cases hj : j ∈ vs
    · have hlt : j < ρ.length := by
        have := (List.getElem?_eq_some_iff.mp h).1
        rw [restE_length] at this
        exact this
      rw [restE_mem hj hlt] at h
      have e2 := hv' j hj
      cases h
      rw [ho] at e2; cases e2
    · rw [restE_not hj] at h
      exact ⟨hj, h⟩
  refine ⟨by rw [restE_length]; exact hl, fun j v c h1 h2 => ?_, fun i j ci cj a ne h1 h2 o1 o2 s1 s2 => ?_, k.ex, k.frame, k.new, k.iosH, fun b o h => ?_⟩
  · by_cases hj : j ∈ vs
    · have hlt : j < ρ.length := by
        have := (List.getElem?_eq_some_iff.mp h2).1
        rw [restE_length] at this
        exact this
      rw [restE_mem hj hlt] at h2
      cases h2
      have e2 := hv' j hj
      cases hc : ρ0.getD j .un with
      | un => trivial
      | ow d => rw [hc] at e2; cases e2
      | io d => rw [hc] at e2; cases e2
      | fz d =>
        have h0 : ρ0[j]? = some (.fz d) := by
          cases q : ρ0[j]? with
          | none => rw [List.getD_eq_getElem?_getD, q] at hc; cases hc
          | some c => rw [List.getD_eq_getElem?_getD, q] at hc; cases hc; rfl
        obtain ⟨x, e3, r⟩ := k0.cell j v _ h1 h0
        exact ⟨x, e3, r.mono e⟩
    · rw [restE_not hj] at h2
      exact k.cell j v c (by rw [wipe_not hj]; exact h1) (by rw [wipeE_not hj]; exact h2)
  · obtain ⟨n1, r1⟩ := inv h1 o1
    obtain ⟨n2, r2⟩ := inv h2 o2
    exact k.dist i j ci cj a ne (by rw [wipeE_not n1]; exact r1) (by rw [wipeE_not n2]; exact r2) o1 o2 (by rw [wipe_not n1]; exact s1) (by rw [wipe_not n2]; exact s2)
  · obtain ⟨h1, h2, h3, h4⟩ := k.prot b o h
    refine ⟨h1, h2, h3, fun j c hc ho => ?_⟩
    obtain ⟨n1, r1⟩ := inv hc ho
    have := h4 j c (by rw [wipeE_not n1]; exact r1) ho
    rw [wipe_not n1] at this
    exact this
/-- one's own object that is in no slot: kept by -/
abbrev Gd.with (g : Gd) (a : Addr) (ws : List V) : Gd := { g with
  pr := upd g.pr a (.lst ws)
  nt := fun b o h vs => by
    by_cases e : b = a
    · subst e; rw [upd_same] at h; cases h; exact fun z => nomatch z
    · rw [upd_ne e] at h; exact g.nt b o h vs }
theorem CellOk.with_ {a : Addr} {o : List V} {i : Nat} {v : Option V} : ∀ {c : Cell}, CellOk g F H i v c → CellOk (g.with a o) F H i v c
  | .un, _ => trivial
  | .fz _, h => h
  | .ow _, h => h
  | .io _, h => h
theorem CellOk.without {a : Addr} {o : List V} {i : Nat} {v : Option V} : ∀ {c : Cell}, CellOk (g.with a o) F H i v c → CellOk g F H i v c
  | .un, _ => trivial
  | .fz _, h => h
  | .ow _, h => h
  | .io _, h => h
theorem EOk.protect (k : EOk g F σ H ρ) {a : Addr} {o : List V} {d : D} (ho : H a = some (.lst o)) (t : Tmp g F σ H ρ (.ref a) (.ow d)) : EOk (g.with a o) F σ H ρ := by
  obtain ⟨b, eb, own, h0, no, npr⟩ := t
  cases eb
  refine ⟨k.len, fun i v c h1 h2 => (k.cell i v c h1 h2).with_, k.dist, k.ex, k.frame, k.new, k.iosH, fun c u h => ?_⟩
  by_cases e : c = a
  · subst e
    have h' : upd g.pr c (.lst o) c = some u := h
    rw [upd_same] at h'; cases h'
    exact ⟨ho, own.no, h0, no⟩
  · have h' : upd g.pr a (.lst o) c = some u := h
    rw [upd_ne e] at h'
    exact k.prot c u h'
theorem EOk.unprotect {a : Addr} {o : List V} (k : EOk (g.with a o) F σ H ρ) (n : g.pr a = none) {d : D} (hd : F a = none → Own F H a d) : EOk g F σ H ρ ∧ Tmp g F σ H ρ (.ref a) (.ow d) := by
  obtain ⟨h1, h2, h3, h4⟩ := k.prot a (.lst o) upd_same
  refine ⟨⟨k.len, fun i v c h1 h2 => (k.cell i v c h1 h2).without, k.dist, k.ex, k.frame, k.new, k.iosH, fun c u h => ?_⟩, a, rfl, hd h2, h3, h4, n⟩
  have e : c ≠ a := fun z => by subst z; rw [n] at h; cases h
  exact k.prot c u (by show upd g.pr a (.lst o) c = some u; rw [upd_ne e]; exact h)
theorem EOk.reprotect {a : Addr} {o o' : List V} (k : EOk (g.with a o) F σ H ρ) : EOk (g.with a o') F σ (upd H a (.lst o')) ρ := by
  obtain ⟨h1, h2, h3, h4⟩ := k.prot a (.lst o) upd_same
  have keep : ∀ b u, H b = some u → b ≠ a → upd H a (.lst o') b = some u := fun b u h e => by rw [upd_ne e]; exact h
  have neF : ∀ b u, F b = some u → b ≠ a := fun b u h e => by subst e; rw [h2] at h; cases h
  refine ⟨k.len, fun i v c h1' h2' => ?_, k.dist, fun b u h => keep b u (k.ex b u h) (neF b u h), fun b u h n => keep b u (k.frame b u h n) (fun e => by subst e; rw [h3] at h; cases h), k.new, fun b hb => ?_, fun b u h => ?_⟩
  · have q := k.cell i v c h1' h2'
    cases c with
    | un => trivial
    | fz d => exact q
    | ow d =>
      obtain ⟨b, e, r, n⟩ := q
      have hb : b ≠ a := fun z => h4 i _ h2' rfl (by rw [h1', e, z])
      exact ⟨b, e, r.mono (Ex.refl _) r.no fun u z => keep b u z hb, n⟩
    | io d =>
      obtain ⟨b, e, r, n⟩ := q
      have hb : b ≠ a := fun z => h4 i _ h2' rfl (by rw [h1', e, z])
      exact ⟨b, e, r.mono (Ex.refl _) r.no fun u z => keep b u z hb, n⟩
  · obtain ⟨u, hu⟩ := k.iosH b hb
    by_cases e : b = a
    · subst e; exact ⟨_, upd_same⟩
    · exact ⟨u, keep b u hu e⟩
  · by_cases e : b = a
    · subst e
      have h' : upd g.pr b (.lst o') b = some u := h
      rw [upd_same] at h'; cases h'
      exact ⟨upd_same, h2, h3, h4⟩
    · have h' : upd g.pr a (.lst o') b = some u := h
      rw [upd_ne e] at h'
      obtain ⟨x1, x2, x3, x4⟩ := k.prot b u (by show upd g.pr a (.lst o) b = some u; rw [upd_ne e]; exact h')
      exact ⟨keep b u x1 e, x2, x3, x4⟩
end
section
variable {X : Cx} {elt tg iter : Expr} {ifs : List Expr} {scope : Scope} {own : List (Str × Nat)} {pos : Pos} {di : DTI} {dg : DTG} {dt : DTT} {de : DTE} {sl : List Nat}
theorem list_ext_wipe {σ σ' : L2.St} {sl vs : List Nat} (hl : σ.length = σ'.length) (h : ∀ j, j ∉ sl → σ'[j]? = σ[j]?) (hs : ∀ j ∈ sl, j ∈ vs) : L2.wipe σ' vs = L2.wipe σ vs := by
  apply List.ext_getElem?
  intro j
  by_cases hj : j ∈ vs
  · by_cases hlt : j < σ.length
    · rw [wipe_mem hj hlt, wipe_mem hj (by rw [← hl]; exact hlt)]
    · rw [List.getElem?_eq_none (by rw [wipe_length]; omega), List.getElem?_eq_none (by rw [wipe_length]; omega)]
  · rw [wipe_not hj, wipe_not hj, h j fun z => hj (hs j z)]
theorem wipe_wipe {σ : L2.St} {vs : List Nat} : L2.wipe (L2.wipe σ vs) vs = L2.wipe σ vs := by
  apply List.ext_getElem?
  intro j
  by_cases hj : j ∈ vs
  · by_cases hlt : j < σ.length
    · rw [wipe_mem hj (by rw [wipe_length]; exact hlt), wipe_mem hj hlt]
    · rw [List.getElem?_eq_none (by rw [wipe_length, wipe_length]; omega), List.getElem?_eq_none (by rw [wipe_length]; omega)]
  · rw [wipe_not hj]
theorem t_lc {vs : List Nat} (hs : ∀ j ∈ sl, j ∈ vs) {σ : L2.St} {H : Hp} {Q : VK} (h : tX (dLc di dg dt de vs) σ H Q) : tLc (tI di) (tG sl dg) (tT dt) (tE de) vs σ H Q := by
  obtain ⟨g, F, ρ, Qd, k, h, c⟩ := h
  refine ⟨g, F, ρ, _, k, h, fun F1 H1 ρ1 J items k1 e1 it ⟨hv, h1⟩ L hL => ?_⟩
  obtain ⟨k2, t2⟩ := k1.newOw (o := .lst []) (d := .lst []) hL ⟨k1.ex.none hL, ⟨[], upd_same, .nil⟩, Nat.zero_le _⟩
  have k3 := k2.protect upd_same t2
  have npr : g.pr L = none := by obtain ⟨b, eb, _, _, _, n⟩ := t2; cases eb; exact n
  let K : List D → Env → Prop := fun acc ρ2 => Qd (.ow (.lst acc)) (restE ρ1 ρ2 vs)
  refine ⟨fun i m H => m = items.length - i ∧ i ≤ items.length ∧ ∃ F' ρ' av ad, EOk (g.with L av) F' (L2.wipe σ vs) H (wipeE ρ' vs) ∧ Ex F1 F' ∧ Reps F' av ad ∧ ad.length ≤ i ∧ lcW dg dt de vs (items.drop i) ad ρ' K,
    ⟨items.length, by simp, Nat.zero_le _, F1, ρ1, [], [], k3.wipe vs, Ex.refl _, .nil, Nat.le_refl _, h1⟩, ?_⟩
  rintro i m H2 ⟨rfl, hi2, F2, ρ2, av, ad, k2, e2, ra, za, w2⟩
  by_cases hlt : i < items.length
  · right
    rw [drop_of hlt] at w2
    obtain ⟨go, yl⟩ := it.go i H2 items[i] (e2.trans k2.ex) (List.getElem?_eq_getElem hlt)
    refine ⟨go, fun H' => i + 1 ≤ items.length ∧ ∃ F' ρ' av ad, EOk (g.with L av) F' (L2.wipe σ vs) H' (wipeE ρ' vs) ∧ Ex F1 F' ∧ Reps F' av ad ∧ ad.length ≤ i + 1 ∧ lcW dg dt de vs (items.drop (i + 1)) ad ρ' K, fun H' ⟨a1, a2⟩ => ⟨items.length - (i + 1), by omega, rfl, a1, a2⟩, fun v H3 hy => ?_⟩
    obtain ⟨F3, k3, e3, r3⟩ := k2.yield e2 (yl v H3 hy)
    refine ⟨_, F3, _, _, _, k3, r3, w2, fun F4 σ4 H4 ρ4 k4 e4 s4 w4 => ?_⟩
    have es : L2.wipe σ4 vs = L2.wipe σ vs := by
      rw [list_ext_wipe s4.1.symm s4.2 hs, wipe_wipe]
    refine ⟨es, _, F4, ρ4, _, k4, w4, fun F5 H5 ρ5 b k5 e5 w5 => ?_⟩
    have e25 := ((e2.trans e3).trans e4).trans e5
    have ra5 := ra.mono ((e3.trans e4).trans e5)
    cases b with
    | true =>
      rw [if_pos rfl] at w5
      show tE de σ4 H5 _
      refine ⟨_, F5, ρ5, _, k5, w5, fun F6 H6 ρ6 y d k6 e6 r6 w6 => ?_⟩
      have hz := it.z
      have hL6 := (k6.prot L _ upd_same).1
      have hs2 : (sizeLine : Nat) = 16777216 := rfl
      refine ⟨av, hL6, by rw [ra5.length]; omega, hlt, F6, ρ6, av ++ [y], ad ++ [d], ?_, e25.trans e6, (ra5.mono e6).append (.cons r6 .nil), by rw [List.length_append]; simp; omega, w6⟩
      have k7 := (k6.wipe vs).reprotect (o' := av ++ [y])
      rw [es] at k7
      exact k7
    | false =>
      rw [if_neg Bool.false_ne_true] at w5
      have k7 := k5.wipe vs
      rw [es] at k7
      exact ⟨hlt, F5, ρ5, av, ad, k7, e25, ra5, by omega, w5⟩
  · left
    have ei : i = items.length := by omega
    subst ei
    rw [List.drop_length] at w2
    have hz := it.z
    obtain ⟨k3, t3⟩ := k2.unprotect npr (d := .lst ad) fun n => ⟨n, ⟨av, (k2.prot L _ upd_same).1, ra⟩, by omega⟩
    refine ⟨it.stop H2 (e2.trans k2.ex), ?_⟩
    have k4 := k1.rest e2 hv k3
    refine c F2 H2 _ _ _ k4 (e1.trans e2) ?_ w2
    obtain ⟨b, eb, own, h0, no, np⟩ := t3
    cases eb
    refine ⟨L, rfl, own, h0, fun j cj hj ho z => ?_, np⟩
    -- an owned slot holding L would have been there from the start
    obtain ⟨o, hoL⟩ := own.there
    by_cases hjv : j ∈ vs
    · have hlt' : j < ρ2.length := by
        have := (List.getElem?_eq_some_iff.mp hj).1
        rw [restE_length] at this
        exact this
      rw [restE_mem hjv hlt'] at hj
      cases hj
      have := List.all_eq_true.mp hv j hjv
      rw [ho] at this
      cases this
    · rw [restE_not hjv] at hj
      exact no j cj (by rw [wipeE_not hjv]; exact hj) ho (by rw [wipe_not hjv]; exact z)
theorem dx_lc (hc : X.calm = true) (hN : X.N.Nodup) (hi : PI X tg iter (tI di)) (ok : BlkOk X.N X.env.scope scope own)
    (hg : ∀ (s : Shared) (H : Hp) (C : Addr) (cl : List (Str × Addr)) (fp : List Addr), PG (X.blk s H scope (compEnvC scope cl C X.env) fp) tg (tG sl dg)) (ht : ∀ (s : Shared) (H : Hp) (C : Addr) (cl : List (Str × Addr)) (fp : List Addr), PTs (X.blk s H scope (compEnvC scope cl C X.env) fp) ifs (tT dt))
    (he : ∀ (s : Shared) (H : Hp) (C : Addr) (cl : List (Str × Addr)) (fp : List Addr), PE (X.blk s H scope (compEnvC scope cl C X.env) fp) elt (tE de)) (hsl : ∀ j ∈ sl, j ∈ own.map (·.2)) (hs : ∀ x, foldedSetIterable iter X.env x = pure x := by intro _; rfl) :
    PE X (.ListComp elt [⟨tg, iter, ifs, 0⟩] scope pos) (tX (dLc di dg dt de (own.map (·.2)))) :=
  pe_imp (pe_lc hc hN hi ok hg ht he hs) fun _ _ _ h => t_lc hsl h
theorem ds_setLc {i : Nat} {y : Str} {py spos : Pos} (hc : X.calm = true) (hN : X.N.Nodup) (hy : X.N[i]? = some y) (hyl : X.env.scope.names.lookup y = some .local)
    (hsw : swapsWith (.ListComp elt [⟨tg, iter, ifs, 0⟩] scope pos) (some (.Name y py)) spos.line X.env = pure true) (hi : PI X tg iter (tI di)) (ok : BlkOk X.N X.env.scope scope own)
    (hg : ∀ (s : Shared) (H : Hp) (C : Addr) (cl : List (Str × Addr)) (fp : List Addr), PG (X.blk s H scope (compEnvC scope cl C X.env) fp) tg (tG sl dg)) (ht : ∀ (s : Shared) (H : Hp) (C : Addr) (cl : List (Str × Addr)) (fp : List Addr), PTs (X.blk s H scope (compEnvC scope cl C X.env) fp) ifs (tT dt))
    (he : ∀ (s : Shared) (H : Hp) (C : Addr) (cl : List (Str × Addr)) (fp : List Addr), PE (X.blk s H scope (compEnvC scope cl C X.env) fp) elt (tE de)) (hsl : ∀ j ∈ sl, j ∈ own.map (·.2)) (hs : ∀ x, foldedSetIterable iter X.env x = pure x := by intro _; rfl) :
    PS X (.Assign [.Name y py] (.ListComp elt [⟨tg, iter, ifs, 0⟩] scope pos) spos) (tS (dSet i (dLc di dg dt de (own.map (·.2))))) :=
  ps_imp (ps_setLc hc hN hy hyl hsw hi ok hg ht he hs) fun D σ H h => t_set (fun _ _ _ q => t_lc hsl q) h
theorem dts_nil : PTs X [] (tT dYes) := ⟨fun pins s σ H Q I ⟨g, F, ρ, Qd, k, h, c⟩ => pts_nil.run pins s σ H Q I (c F H ρ true k (Ex.refl _) h)⟩
end
end DL

namespace DL
open PySem PySem.Spec PyProof.Rows L2

/-! ### what a def promises, over data -/
/-- io: which parameters are written; fresh: it hands back an object of the caller's own -/
structure FnSpec where
  io : List Bool
  fresh : Bool
  ds : List D → (D → List D → Prop) → Prop
  mono : ∀ xs K K', (∀ r os, K r os → K' r os) → ds xs K → ds xs K'
/-- by a precondition and what it hands back -/
def mkSpec {α : Type} (io : List Bool) (fresh : Bool) (args : α → List D) (pre : α → Prop) (post : α → D → List D → Prop) : FnSpec where
  io := io
  fresh := fresh
  ds xs K := ∃ x, xs = args x ∧ pre x ∧ ∀ r os, post x r os → K r os
  mono := fun xs K K' h ⟨x, e, p, q⟩ => ⟨x, e, p, fun r os z => h r os (q r os z)⟩
def ArgsOk (F H : Hp) : List Bool → List V → List D → List Addr → Prop
  | [], [], [], [] => True
  | false :: bs, v :: vs, d :: ds, as => Rep F v d ∧ ArgsOk F H bs vs ds as
  | true :: bs, v :: vs, d :: ds, a :: as => v = .ref a ∧ Own F H a d ∧ ArgsOk F H bs vs ds as
  | _, _, _, _ => False
def OutsOk (F H : Hp) : List Addr → List D → Prop
  | [], [] => True
  | a :: as, d :: ds => Own F H a d ∧ OutsOk F H as ds
  | _, _ => False
def ResOk (fresh : Bool) (H F' H' : Hp) (v : V) (r : D) : Prop := match fresh with
  | true => ∃ a, v = .ref a ∧ Own F' H' a r ∧ H a = none
  | false => Rep F' v r
structure Behind (F H : Hp) (as : List Addr) (F' H' : Hp) : Prop where
  exF : Ex F F'
  ex : Ex F' H'
  new : ∀ b o, F' b = some o → F b = some o ∨ H b = none ∨ ∃ vs, o = .tup vs
  keep : ∀ b o, H b = some o → b ∉ as → H' b = some o
def spD (S : FnSpec) : Sp := fun vs H Q _ => ∃ F ds as, Ex F H ∧ ArgsOk F H S.io vs ds as ∧ as.Nodup ∧ S.ds ds fun r outs =>
  ∀ v F' H', Behind F H as F' H' → OutsOk F' H' as outs → ResOk S.fresh H F' H' v r → Q v H'
theorem ArgsOk.len {F H : Hp} : ∀ {bs : List Bool} {vs : List V} {ds : List D} {as : List Addr}, ArgsOk F H bs vs ds as → vs.length = bs.length ∧ ds.length = bs.length
  | [], [], [], [], _ => ⟨rfl, rfl⟩
  | false :: bs, v :: vs, d :: ds, as, h => by
    obtain ⟨h1, h2⟩ := ArgsOk.len h.2
    exact ⟨by simp [h1], by simp [h2]⟩
  | true :: bs, v :: vs, d :: ds, a :: as, h => by
    obtain ⟨h1, h2⟩ := ArgsOk.len h.2.2
    exact ⟨by simp [h1], by simp [h2]⟩
theorem spD_len {S : FnSpec} {n : Nat} (hn : S.io.length = n) {vs : List V} {H : Hp} {Q : VK} {E : XK} (h : spD S vs H Q E) : vs.length = n := by
  obtain ⟨F, ds, as, _, h, _⟩ := h
  rw [h.len.1, hn]
/-- the slots at the begin -/
def cells0 : List Bool → List D → Env
  | false :: bs, d :: ds => .fz d :: cells0 bs ds
  | true :: bs, d :: ds => .io d :: cells0 bs ds
  | _, _ => []
def env0 (n : Nat) (io : List Bool) (ds : List D) : Env := cells0 io ds ++ List.replicate (n - ds.length) .un
/-- what the written parameters hold at the end -/
def outs : List Bool → Env → Option (List D)
  | [], _ => some []
  | true :: bs, .io d :: ρ => (outs bs ρ).map (d :: ·)
  | false :: bs, _ :: ρ => outs bs ρ
  | _, _ => none
def endsOf (S : FnSpec) (K : D → List D → Prop) : DEnds where
  nx ρ := S.fresh = false ∧ match outs S.io ρ with
    | some os => K .non os
    | none => False
  rt c ρ := match c, outs S.io ρ with
    | .fz d, some os => S.fresh = false ∧ K d os
    | .ow d, some os => K d os
    | _, _ => False
  bk _ := False
  ct _ := False
def iopOf : List Bool → List Addr → Nat → Option Addr
  | true :: bs, a :: as, 0 => some a
  | true :: bs, a :: as, n + 1 => iopOf bs as n
  | false :: bs, as, 0 => none
  | false :: bs, as, n + 1 => iopOf bs as n
  | _, _, _ => none
theorem cells0_length {F H : Hp} : ∀ {bs : List Bool} {vs : List V} {ds : List D} {as : List Addr}, ArgsOk F H bs vs ds as → (cells0 bs ds).length = ds.length
  | [], [], [], [], _ => rfl
  | false :: bs, v :: vs, d :: ds, as, h => by simp [cells0, cells0_length h.2]
  | true :: bs, v :: vs, d :: ds, a :: as, h => by simp [cells0, cells0_length h.2.2]
theorem ArgsOk.cell {F H : Hp} : ∀ {bs : List Bool} {vs : List V} {ds : List D} {as : List Addr} {i : Nat} {v : V} {c : Cell}, ArgsOk F H bs vs ds as → vs[i]? = some v → (cells0 bs ds)[i]? = some c →
    (∃ d, c = .fz d ∧ Rep F v d) ∨ ∃ d a, c = .io d ∧ v = .ref a ∧ Own F H a d ∧ a ∈ as ∧ iopOf bs as i = some a
  | [], [], [], [], i, v, c, _, h, _ => by simp at h
  | false :: bs, v :: vs, d :: ds, as, 0, w, c, h, h1, h2 => by
    simp [cells0] at h1 h2
    subst h1 h2
    exact .inl ⟨d, rfl, h.1⟩
  | false :: bs, v :: vs, d :: ds, as, i + 1, w, c, h, h1, h2 => by
    simp only [cells0, List.getElem?_cons_succ] at h1 h2
    have q := ArgsOk.cell h.2 h1 h2
    exact q
  | true :: bs, v :: vs, d :: ds, a :: as, 0, w, c, h, h1, h2 => by
    simp [cells0] at h1 h2
    subst h1 h2
    exact .inr ⟨d, a, rfl, h.1, h.2.1, List.mem_cons_self, rfl⟩
  | true :: bs, v :: vs, d :: ds, a :: as, i + 1, w, c, h, h1, h2 => by
    simp only [cells0, List.getElem?_cons_succ] at h1 h2
    rcases ArgsOk.cell h.2.2 h1 h2 with q | ⟨d', a', e1, e2, o, m, p⟩
    · exact .inl q
    · exact .inr ⟨d', a', e1, e2, o, List.mem_cons_of_mem _ m, p⟩
theorem iopOf_inj : ∀ {bs : List Bool} {as : List Addr} {i j : Nat} {a : Addr}, as.Nodup → iopOf bs as i = some a → iopOf bs as j = some a → i = j
  | true :: bs, b :: as, 0, 0, a, _, _, _ => rfl
  | true :: bs, b :: as, 0, j + 1, a, n, h1, h2 => by
    simp only [iopOf] at h1 h2
    cases h1
    exact absurd (mem_of h2) (List.nodup_cons.mp n).1
  | true :: bs, b :: as, i + 1, 0, a, n, h1, h2 => by
    simp only [iopOf] at h1 h2
    cases h2
    exact absurd (mem_of h1) (List.nodup_cons.mp n).1
  | true :: bs, b :: as, i + 1, j + 1, a, n, h1, h2 => by
    simp only [iopOf] at h1 h2
    rw [iopOf_inj (List.nodup_cons.mp n).2 h1 h2]
  | false :: bs, as, 0, j, a, n, h1, h2 => by simp [iopOf] at h1
  | false :: bs, as, i + 1, 0, a, n, h1, h2 => by simp [iopOf] at h2
  | false :: bs, as, i + 1, j + 1, a, n, h1, h2 => by
    simp only [iopOf] at h1 h2
    rw [iopOf_inj n h1 h2]
  | [], as, i, j, a, n, h1, h2 => by simp [iopOf] at h1
  | true :: bs, [], i, j, a, n, h1, h2 => by simp [iopOf] at h1
where
  mem_of : ∀ {bs : List Bool} {as : List Addr} {i : Nat} {a : Addr}, iopOf bs as i = some a → a ∈ as
    | true :: bs, b :: as, 0, a, h => by simp only [iopOf] at h; cases h; exact List.mem_cons_self
    | true :: bs, b :: as, i + 1, a, h => by simp only [iopOf] at h; exact List.mem_cons_of_mem _ (mem_of h)
    | false :: bs, as, 0, a, h => by simp [iopOf] at h
    | false :: bs, as, i + 1, a, h => by simp only [iopOf] at h; exact mem_of h
    | [], as, i, a, h => by simp [iopOf] at h
    | true :: bs, [], i, a, h => by simp [iopOf] at h
theorem start_get {N : List Str} {vs : List V} {i : Nat} {v : Option V} (h : (L2.start N vs)[i]? = some v) : (i < vs.length ∧ ∃ x, vs[i]? = some x ∧ v = some x) ∨ (vs.length ≤ i ∧ v = none) := by
  unfold L2.start at h
  by_cases hl : i < vs.length
  · rw [List.getElem?_append_left (by simpa using hl), List.getElem?_map] at h
    rw [List.getElem?_eq_getElem hl] at h ⊢
    exact .inl ⟨hl, _, rfl, (Option.some.inj h).symm⟩
  · rw [List.getElem?_append_right (by simpa using Nat.le_of_not_lt hl)] at h
    obtain ⟨h1, h2⟩ := List.getElem?_eq_some_iff.mp h
    rw [List.getElem_replicate] at h2
    exact .inr ⟨Nat.le_of_not_lt hl, h2.symm⟩
theorem env0_get {n : Nat} {io : List Bool} {ds : List D} (hl : (cells0 io ds).length = ds.length) {i : Nat} {c : Cell} (h : (env0 n io ds)[i]? = some c) : (i < ds.length ∧ (cells0 io ds)[i]? = some c) ∨ (ds.length ≤ i ∧ c = .un) := by
  unfold env0 at h
  by_cases hi : i < ds.length
  · rw [List.getElem?_append_left (by rw [hl]; exact hi)] at h
    exact .inl ⟨hi, h⟩
  · rw [List.getElem?_append_right (by rw [hl]; omega)] at h
    obtain ⟨h1, h2⟩ := List.getElem?_eq_some_iff.mp h
    rw [List.getElem_replicate] at h2
    exact .inr ⟨Nat.le_of_not_lt hi, h2.symm⟩
theorem EOk.begin {F H : Hp} {N : List Str} {io : List Bool} {vs : List V} {ds : List D} {as : List Addr} (e : Ex F H) (ok : ArgsOk F H io vs ds as) (nd : as.Nodup) (hN : io.length ≤ N.length) :
    EOk ⟨H, F, as, iopOf io as, fun _ => none, nofun⟩ F (L2.start N vs) H (env0 N.length io ds) := by
  have l1 := ok.len.1
  have l2 := ok.len.2
  have cl := cells0_length ok
  have own : ∀ {i : Nat} {c : Cell} {a : Addr}, (env0 N.length io ds)[i]? = some c → c.own = true → (L2.start N vs)[i]? = some (some (.ref a)) → iopOf io as i = some a := fun {i c a} h1 h2 h3 => by
    rcases env0_get cl h1 with ⟨_, h1⟩ | ⟨_, h1⟩
    · rcases start_get h3 with ⟨_, x, hx, ex⟩ | ⟨_, ex⟩
      · cases ex
        rcases ok.cell hx h1 with ⟨d, e1, _⟩ | ⟨d, b, e1, e2, _, _, p⟩
        · subst e1; cases h2
        · cases e2; exact p
      · cases ex
    · subst h1; cases h2
  refine ⟨?_, fun i v c h1 h2 => ?_, fun i j ci cj a ne h1 h2 o1 o2 s1 s2 => ne (iopOf_inj nd (own h1 o1 s1) (own h2 o2 s2)), e, fun b o h _ => h, fun b o h => .inl h, fun a ha => ?_, fun b o h => by cases h⟩
  · unfold L2.start env0
    rw [List.length_append, List.length_append, List.length_map, List.length_replicate, List.length_replicate, cl]
    omega
  · rcases env0_get cl h2 with ⟨_, h2⟩ | ⟨_, h2⟩
    · rcases start_get h1 with ⟨_, x, hx, ex⟩ | ⟨hl, ex⟩
      · subst ex
        rcases ok.cell hx h2 with ⟨d, e1, r⟩ | ⟨d, a, e1, e2, o, m, p⟩
        · subst e1; exact ⟨x, rfl, r⟩
        · subst e1 e2; exact ⟨a, rfl, o, m, p⟩
      · have := (List.getElem?_eq_some_iff.mp h2).1
        omega
    · subst h2; trivial
  · clear own
    induction io generalizing vs ds as with
    | nil =>
      cases vs <;> cases ds <;> cases as <;> first | exact ok.elim | cases ha
    | cons b bs ih =>
      cases vs with
      | nil => cases b <;> exact ok.elim
      | cons v vs =>
        cases ds with
        | nil => cases b <;> exact ok.elim
        | cons d ds =>
          cases b with
          | false =>
            exact ih ok.2 nd (by simp at hN; omega) ok.2.len.1 ok.2.len.2 (cells0_length ok.2) ha
          | true =>
            cases as with
            | nil => exact ok.elim
            | cons a0 as =>
              rcases List.mem_cons.mp ha with e | ha
              · subst e; exact ok.2.1.there
              · exact ih ok.2.2 (List.nodup_cons.mp nd).2 (by simp at hN; omega) ok.2.2.len.1 ok.2.2.len.2 (cells0_length ok.2.2) ha
theorem outs_ok {F H : Hp} {g : Gd} {io0 : List Bool} {as0 : List Addr} (hg : g.iop = iopOf io0 as0) : ∀ {io : List Bool} {as : List Addr} {ρ : Env} {os : List D} (n : Nat),
    (∀ i, iopOf io0 as0 (n + i) = iopOf io as i) → (∀ i c, ρ[i]? = some c → ∃ v, CellOk g F H (n + i) v c) → (∀ a, a ∈ as ↔ ∃ i, iopOf io as i = some a) → as.length = (io.filter id).length → outs io ρ = some os → OutsOk F H as os
  | [], [], _, _, _, _, _, _, _, h => by simp [outs] at h; subst h; trivial
  | [], a :: as, _, _, _, _, _, _, hl, _ => by simp at hl
  | true :: bs, [], _, _, _, _, _, _, hl, _ => by simp at hl
  | true :: bs, a :: as, ρ, os, n, hi, hc, hm, hl, h => by
    cases ρ with
    | nil => simp [outs] at h
    | cons c ρ =>
      cases c with
      | io d =>
        simp only [outs] at h
        cases ho : outs bs ρ with
        | none => rw [ho] at h; cases h
        | some os' =>
          rw [ho] at h
          cases h
          obtain ⟨v, b, e, own, mem, p⟩ := hc 0 _ rfl
          rw [hg] at p
          have := hi 0
          rw [p] at this
          simp only [iopOf] at this
          cases this
          refine ⟨own, outs_ok (g := g) hg (n + 1) (fun i => ?_) (fun i c h => ?_) (fun x => ?_) (by simpa using hl) ho⟩
          · have := hi (i + 1)
            simp only [iopOf] at this
            rw [← this]
            congr 1
            omega
          · obtain ⟨v, q⟩ := hc (i + 1) c (by simpa using h)
            rw [show n + 1 + i = n + (i + 1) by omega]
            exact ⟨v, q⟩
          · exact iop_mem (by simpa using hl) x
      | un => simp [outs] at h
      | fz d => simp [outs] at h
      | ow d => simp [outs] at h
  | false :: bs, as, ρ, os, n, hi, hc, hm, hl, h => by
    cases ρ with
    | nil => simp [outs] at h
    | cons c ρ =>
      simp only [outs] at h
      refine outs_ok (g := g) hg (n + 1) (fun i => ?_) (fun i c h => ?_) (fun x => ?_) (by simpa using hl) h
      · have := hi (i + 1)
        simp only [iopOf] at this
        rw [← this]
        congr 1
        omega
      · obtain ⟨v, q⟩ := hc (i + 1) c (by simpa using h)
        rw [show n + 1 + i = n + (i + 1) by omega]
        exact ⟨v, q⟩
      · exact iop_mem (by simpa using hl) x
where
  iop_mem : ∀ {io : List Bool} {as : List Addr}, as.length = (io.filter id).length → ∀ x, x ∈ as ↔ ∃ i, iopOf io as i = some x
    | [], [], _, x => by simp [iopOf]
    | [], a :: as, h, x => by simp at h
    | true :: bs, [], h, x => by simp at h
    | true :: bs, a :: as, h, x => by
      have ih := iop_mem (io := bs) (as := as) (by simpa using h) x
      constructor
      · intro hx
        rcases List.mem_cons.mp hx with e | hx
        · exact ⟨0, by rw [e]; rfl⟩
        · obtain ⟨i, hi⟩ := ih.mp hx
          exact ⟨i + 1, hi⟩
      · rintro ⟨i, hi⟩
        cases i with
        | zero => cases hi; exact List.mem_cons_self
        | succ i => exact List.mem_cons_of_mem _ (ih.mpr ⟨i, hi⟩)
    | false :: bs, as, h, x => by
      have ih := iop_mem (io := bs) (as := as) (by simpa using h) x
      constructor
      · intro hx
        obtain ⟨i, hi⟩ := ih.mp hx
        exact ⟨i + 1, hi⟩
      · rintro ⟨i, hi⟩
        cases i with
        | zero => cases hi
        | succ i => exact ih.mpr ⟨i, hi⟩
theorem ArgsOk.as_len {F H : Hp} : ∀ {bs : List Bool} {vs : List V} {ds : List D} {as : List Addr}, ArgsOk F H bs vs ds as → as.length = (bs.filter id).length
  | [], [], [], [], _ => rfl
  | false :: bs, v :: vs, d :: ds, as, h => by simpa using ArgsOk.as_len h.2
  | true :: bs, v :: vs, d :: ds, a :: as, h => by simpa using ArgsOk.as_len h.2.2
section
variable {P : Program} {w : World} {K : PySem.W.Frag} {mg : Str → Option Value} {base : Heap}
/-- THE RULE for a def: its body's meaning over data keeps its promise over data -/
theorem fn_D {x qual : Str} {st : Stmt} {f : Addr} {fd : FuncData} {N ps : List Str} {k : Nat} {S : FnSpec} {db : DTS} (FF : Fun K x qual st f fd) (sc : FnScope N ps (defScope st)) (hn : S.io.length = ps.length) (hN : ps.length ≤ N.length)
    (body : ∀ (cdv : Value) (A : Around) (outer : List PySem.Env) (s : Shared) (H : Hp) (E : XK), Room k (A.deeper (envOfC qual (defScope st) s.heap.objs.size f cdv)) → PSs (cxOf CX0 P w K mg base N qual (defScope st) f cdv A outer s H E).nox (defBody st) (tS db))
    (sem : ∀ ds Kd, S.ds ds Kd → db (endsOf S Kd) (env0 N.length S.io ds)) : FnOk P w K mg base CX0 (k + 1) f fd ps (spD S) := by
  refine FF.ok sc (fun vs H Q E h => spD_len hn h) fun cdv A outer s H vs Q E hr h => ?_
  obtain ⟨F, ds, as, ex, ok, nd, h⟩ := h
  have k0 := EOk.begin (N := N) ex ok nd (by rw [hn]; exact hN)
  have fin : ∀ {F' σ' H' ρ'} {os : List D}, EOk ⟨H, F, as, iopOf S.io as, fun _ => none, nofun⟩ F' σ' H' ρ' → Ex F F' → outs S.io ρ' = some os → Behind F H as F' H' ∧ OutsOk F' H' as os := fun {F' σ' H' ρ' os} k' e' ho => by
    refine ⟨⟨e', k'.ex, k'.new, k'.frame⟩, ?_⟩
    refine outs_ok (g := ⟨H, F, as, iopOf S.io as, fun _ => none, nofun⟩) (io0 := S.io) (as0 := as) rfl 0 (fun i => by rw [Nat.zero_add]) (fun i c hc => ?_) (outs_ok.iop_mem ok.as_len) ok.as_len ho
    obtain ⟨v, _, q⟩ := k'.slot hc
    rw [Nat.zero_add]
    exact ⟨v, q⟩
  refine ⟨tS db, body cdv A outer s H E hr, _, F, _, _, k0, sem ds _ h, ⟨fun F' σ' H' ρ' k' e' q => ?_, fun F' σ' H' ρ' v c k' e' t q => ?_, fun _ _ _ _ _ _ q => q.elim, fun _ _ _ _ _ _ q => q.elim⟩⟩
  · obtain ⟨hf, q⟩ := q
    cases ho : outs S.io ρ' with
    | none => rw [ho] at q; exact q.elim
    | some os =>
      rw [ho] at q
      obtain ⟨b1, b2⟩ := fin k' e' ho
      exact q _ F' H' b1 b2 (by rw [hf]; exact Rep.non (F := F'))
  · cases ho : outs S.io ρ' with
    | none =>
      simp only [endsOf, ho] at q
    | some os =>
      obtain ⟨b1, b2⟩ := fin k' e' ho
      cases c with
      | un => exact t.elim
      | io d => exact t.elim
      | fz d =>
        simp only [endsOf, ho] at q
        exact q.2 v F' H' b1 b2 (by rw [q.1]; exact t)
      | ow d =>
        simp only [endsOf, ho] at q
        cases hf : S.fresh with
        | true =>
          obtain ⟨a, e1, own, h0, _⟩ := t
          exact q v F' H' b1 b2 (by rw [hf]; exact ⟨a, e1, own, h0⟩)
        | false =>
          obtain ⟨F2, k2, e2, r⟩ := k'.keepTmp t
          obtain ⟨b3, b4⟩ := fin k2 (e'.trans e2) ho
          exact q v F2 H' b3 b4 (by rw [hf]; exact r)
end

/-! ### calls -/
def dCall (S : FnSpec) (da : DTA) : DTE := fun ρ Q => da ρ fun ds ρ' => ds.length = S.io.length ∧ S.ds ds fun r _ => Q r ρ'
def dCallF (S : FnSpec) (da : DTA) : DTX := fun ρ Q => da ρ fun ds ρ' => ds.length = S.io.length ∧ S.ds ds fun r _ => Q (.ow r) ρ'
/-- the first argument is written: the name in the slot i -/
def dCallIo (S : FnSpec) (i : Nat) (da : DTA) : DTX := fun ρ Q => (∃ c, ρ[i]? = some c ∧ c.own = true) ∧ da ρ fun ds ρ' => match ρ'[i]? with
  | some c => ds.length + 1 = S.io.length ∧ c.own = true ∧ match c.val with
    | some d => S.ds (d :: ds) fun r os => match os with
      | [d'] => Q (if S.fresh = true then .ow r else .fz r) (ρ'.set i (c.up d'))
      | _ => False
    | none => False
  | none => False
theorem ArgsOk.plain {F H : Hp} : ∀ {bs : List Bool} {vs : List V} {ds : List D}, Reps F vs ds → ds.length = bs.length → (bs.all fun b => !b) = true → ArgsOk F H bs vs ds []
  | [], _, _, .nil, _, _ => trivial
  | [], _, _, .cons _ _, h, _ => by simp at h
  | false :: bs, _, _, .nil, h, _ => by simp at h
  | false :: bs, _, _, .cons r t, h, ha => ⟨r, ArgsOk.plain t (by simpa using h) (by simpa using ha)⟩
  | true :: bs, _, _, _, _, ha => by simp at ha
section
variable {g : Gd} {F F' H H' : Hp} {σ : L2.St} {ρ : Env}
theorem Behind.grow {as : List Addr} (b : Behind F H as F' H') (ha : as = []) : Grow F H F' H' := by
  subst ha
  exact ⟨b.exF, b.ex, fun x o h => b.keep x o h (by simp), b.new⟩
theorem EOk.tmpOf (k : EOk g F σ H ρ) {a : Addr} {d : D} (hn : H a = none) (k' : EOk g F' σ H' ρ) (own : Own F' H' a d) : Tmp g F' σ H' ρ (.ref a) (.ow d) := by
  refine ⟨a, rfl, own, k.h0 hn, fun j c hc ho z => ?_, ?_⟩
  · have q := k.cell j _ c z hc
    cases c with
    | un => cases ho
    | fz _ => cases ho
    | ow d => obtain ⟨b, e, r, _⟩ := q; cases e; obtain ⟨u, hu⟩ := r.there; rw [hn] at hu; cases hu
    | io d => obtain ⟨b, e, r, _⟩ := q; cases e; obtain ⟨u, hu⟩ := r.there; rw [hn] at hu; cases hu
  · cases q : g.pr a with
    | none => rfl
    | some o => have := (k.prot a o q).1; rw [hn] at this; cases this
end
section
variable {X : Cx} {CX : CXT} {k : Nat} {f : Addr} {fd : FuncData} {ps : List Str} {S : FnSpec} {x : Str} {p pos : Pos} {e : Expr} {es : List Expr} {da : DTA}
theorem t_call {σ : L2.St} {H : Hp} {Q : VK} (hio : (S.io.all fun b => !b) = true) (hf : S.fresh = false) (h : tE (dCall S da) σ H Q) : tCall (spD S) [] E0 (tA da) σ H Q := by
  obtain ⟨g, F, ρ, Qd, kk, h, c⟩ := h
  refine ⟨g, F, ρ, _, kk, h, fun F1 H1 ρ1 vs ds k1 e1 r1 ⟨hl, h1⟩ => ?_⟩
  show spD S (vs ++ []) H1 Q E0
  rw [List.append_nil]
  refine ⟨F1, ds, [], k1.ex, ArgsOk.plain r1 hl hio, .nil, S.mono _ _ _ (fun r os q v F' H' b o rr => ?_) h1⟩
  rw [hf] at rr
  exact c F' H' ρ1 v r (k1.grow (b.grow rfl)) (e1.trans b.exF) rr q
theorem t_callF {σ : L2.St} {H : Hp} {Q : VK} (hio : (S.io.all fun b => !b) = true) (hf : S.fresh = true) (h : tX (dCallF S da) σ H Q) : tCall (spD S) [] E0 (tA da) σ H Q := by
  obtain ⟨g, F, ρ, Qd, kk, h, c⟩ := h
  refine ⟨g, F, ρ, _, kk, h, fun F1 H1 ρ1 vs ds k1 e1 r1 ⟨hl, h1⟩ => ?_⟩
  show spD S (vs ++ []) H1 Q E0
  rw [List.append_nil]
  refine ⟨F1, ds, [], k1.ex, ArgsOk.plain r1 hl hio, .nil, S.mono _ _ _ (fun r os q v F' H' b o rr => ?_) h1⟩
  rw [hf] at rr
  obtain ⟨a, ev, own, hn⟩ := rr
  subst ev
  have k2 := k1.grow (b.grow rfl)
  exact c F' H' ρ1 _ (.ow r) k2 (e1.trans b.exF) (k1.tmpOf hn k2 own) q
theorem t_callIo {i : Nat} {bs : List Bool} {σ : L2.St} {H : Hp} {Q : VK} (hio : S.io = true :: bs) (hbs : (bs.all fun b => !b) = true) (h : tX (dCallIo S i da) σ H Q) : tCall (spD S) [] E0 (tCons (tVar i) (tA da)) σ H Q := by
  obtain ⟨g, F, ρ, Qd, kk, ⟨⟨c0, hc0, ho0⟩, h⟩, c⟩ := h
  obtain ⟨v0, hv0, q0⟩ := kk.slot hc0
  have ha : ∃ a, v0 = some (.ref a) := by
    cases c0 with
    | un => cases ho0
    | fz _ => cases ho0
    | ow d => obtain ⟨a, e, _⟩ := q0; exact ⟨a, e⟩
    | io d => obtain ⟨a, e, _⟩ := q0; exact ⟨a, e⟩
  obtain ⟨a, rfl⟩ := ha
  refine ⟨.ref a, hv0, g, F, ρ, _, kk, h, fun F1 H1 ρ1 vs ds k1 e1 r1 h1 => ?_⟩
  show spD S ((V.ref a :: vs) ++ []) H1 Q E0
  rw [List.append_nil]
  cases hc1 : ρ1[i]? with
  | none => rw [hc1] at h1; exact h1.elim
  | some c1 =>
    rw [hc1] at h1
    obtain ⟨hl, ho1, h1⟩ := h1
    have q1 := k1.cell i _ c1 hv0 hc1
    obtain ⟨d, hd, own⟩ : ∃ d, c1.val = some d ∧ Own F1 H1 a d := by
      cases c1 with
      | un => cases ho1
      | fz _ => cases ho1
      | ow d => obtain ⟨b, e, o, _⟩ := q1; cases e; exact ⟨d, rfl, o⟩
      | io d => obtain ⟨b, e, o, _⟩ := q1; cases e; exact ⟨d, rfl, o⟩
    rw [hd] at h1
    refine ⟨F1, d :: ds, [a], k1.ex, ?_, by simp, S.mono _ _ _ (fun r os q v F' H' b o rr => ?_) h1⟩
    · rw [hio]
      exact ⟨rfl, own, ArgsOk.plain r1 (by rw [hio] at hl; simpa using hl) hbs⟩
    · match os, o, q with
      | [d'], o, q =>
        have k2 := k1.turn hc1 ho1 hv0 b.exF b.ex (fun x u hx ne => b.keep x u hx (by simpa using ne)) b.new o.1
        cases hf : S.fresh with
        | false =>
          rw [hf] at rr q
          exact c F' H' _ v (.fz r) k2 (e1.trans b.exF) rr q
        | true =>
          rw [hf] at rr q
          obtain ⟨a2, ev, own2, hn⟩ := rr
          subst ev
          refine c F' H' _ _ (.ow r) k2 (e1.trans b.exF) ?_ q
          refine ⟨a2, rfl, own2, k1.h0 hn, fun j cj hj hoj z => ?_, ?_⟩
          · -- an owned slot's object was there ahead of the call
            have hj' : ∃ cj', ρ1[j]? = some cj' ∧ cj'.own = true := by
              rcases getElem?_set' hj with ⟨e, _, _⟩ | ⟨_, hj⟩
              · subst e; exact ⟨c1, hc1, ho1⟩
              · exact ⟨cj, hj, hoj⟩
            obtain ⟨cj', hj1, hj2⟩ := hj'
            have qj := k1.cell j _ cj' z hj1
            cases cj' with
            | un => cases hj2
            | fz _ => cases hj2
            | ow d => obtain ⟨x, ex, r, _⟩ := qj; cases ex; obtain ⟨u, hu⟩ := r.there; rw [hn] at hu; cases hu
            | io d => obtain ⟨x, ex, r, _⟩ := qj; cases ex; obtain ⟨u, hu⟩ := r.there; rw [hn] at hu; cases hu
          · cases qp : g.pr a2 with
            | none => rfl
            | some o => have := (k1.prot a2 o qp).1; rw [hn] at this; cases this
theorem de_call (F : FnOk X.prog X.w X.K X.mg X.base CX0 k f fd ps (spD S)) (hr : Room k X.A) (hm : X.mg x = some (.ref f)) (hk : PySem.W.keepIn X.K (.ref f) = true) (hb : Binds X.K fd ps []) (hio : (S.io.all fun b => !b) = true) (hf : S.fresh = false) (ha : PA X (e :: es) (tA da))
    (hg : Gl X x := by rfl) (hdb : (x == ("__debug__" : Str)) = false := by decide) (he : starEach (e :: es) X.env = (false, eval e X.env) :: starEach es X.env := by rfl) (hpl : (backTo pos (starEach es X.env)).any (·.1) = false := by rfl) :
    PE X (.Call (.Name x p) (e :: es) [] pos) (tE (dCall S da)) :=
  pe_imp (pe_call F hr hg hm hk hb .nil pass0 ha hdb he hpl) fun _ _ _ h => t_call hio hf h
theorem dx_call (F : FnOk X.prog X.w X.K X.mg X.base CX0 k f fd ps (spD S)) (hr : Room k X.A) (hm : X.mg x = some (.ref f)) (hk : PySem.W.keepIn X.K (.ref f) = true) (hb : Binds X.K fd ps []) (hio : (S.io.all fun b => !b) = true) (hf : S.fresh = true) (ha : PA X (e :: es) (tA da))
    (hg : Gl X x := by rfl) (hdb : (x == ("__debug__" : Str)) = false := by decide) (he : starEach (e :: es) X.env = (false, eval e X.env) :: starEach es X.env := by rfl) (hpl : (backTo pos (starEach es X.env)).any (·.1) = false := by rfl) :
    PE X (.Call (.Name x p) (e :: es) [] pos) (tX (dCallF S da)) :=
  pe_imp (pe_call F hr hg hm hk hb .nil pass0 ha hdb he hpl) fun _ _ _ h => t_callF hio hf h
theorem dx_callIo {i : Nat} {bs : List Bool} {y : Str} {q : Pos} (F : FnOk X.prog X.w X.K X.mg X.base CX0 k f fd ps (spD S)) (hr : Room k X.A) (hm : X.mg x = some (.ref f)) (hk : PySem.W.keepIn X.K (.ref f) = true) (hb : Binds X.K fd ps []) (hio : S.io = true :: bs) (hbs : (bs.all fun b => !b) = true)
    (hy : PE X (.Name y q) (tVar i)) (ha : PA X es (tA da))
    (hg : Gl X x := by rfl) (hdb : (x == ("__debug__" : Str)) = false := by decide) (he : starEach (.Name y q :: es) X.env = (false, eval (.Name y q) X.env) :: starEach es X.env := by rfl) (hpl : (backTo pos (starEach es X.env)).any (·.1) = false := by rfl) :
    PE X (.Call (.Name x p) (.Name y q :: es) [] pos) (tX (dCallIo S i da)) :=
  pe_imp (pe_call F hr hg hm hk hb .nil pass0 (pa_cons hy ha he) hdb he hpl) fun _ _ _ h => t_callIo hio hbs h
end
end DL

namespace DL
open PySem PySem.Spec PyProof.Rows L2
/-! ### calls of built-ins -/
abbrev DFn := List D → (D → Prop) → Prop
def rC (o : DFn) : List V → Hp → VK → Prop := fun xs H Q => ∃ F ds Qd, Ex F H ∧ Reps F xs ds ∧ o ds Qd ∧ ∀ F' H' v r, Grow F H F' H' → Rep F' v r → Qd r → Q v H'
/-- .. that hand back a new object -/
def rCF (o : DFn) : List V → Hp → VK → Prop := fun xs H Q => ∃ F ds Qd, Ex F H ∧ Reps F xs ds ∧ o ds Qd ∧ ∀ F' H' a r, Grow F H F' H' → Own F' H' a r → H a = none → Qd r → Q (.ref a) H'
def dCB (o : DFn) (da : DTA) : DTE := fun ρ Q => da ρ fun ds ρ' => o ds fun r => Q r ρ'
def dCBF (o : DFn) (da : DTA) : DTX := fun ρ Q => da ρ fun ds ρ' => o ds fun r => Q (.ow r) ρ'
section
variable {X : Cx} {e a b c : Expr} {es : List Expr} {pos p : Pos} {da db dc : DTE} {daa : DTA} {x : Str} {o : DFn}
theorem t_cb {σ : L2.St} {H : Hp} {Q : VK} (h : tE (dCB o daa) σ H Q) : tCB (rC o) (tA daa) σ H Q := by
  obtain ⟨g, F, ρ, Qd, k, h, c⟩ := h
  refine ⟨g, F, ρ, _, k, h, fun F1 H1 ρ1 vs ds k1 e1 r1 h1 => ?_⟩
  exact ⟨F1, ds, _, k1.ex, r1, h1, fun F3 H3 v r G r3 q => c F3 H3 ρ1 v r (k1.grow G) (e1.trans G.exF) r3 q⟩
theorem t_cbf {σ : L2.St} {H : Hp} {Q : VK} (h : tX (dCBF o daa) σ H Q) : tCB (rCF o) (tA daa) σ H Q := by
  obtain ⟨g, F, ρ, Qd, k, h, c⟩ := h
  refine ⟨g, F, ρ, _, k, h, fun F1 H1 ρ1 vs ds k1 e1 r1 h1 => ?_⟩
  refine ⟨F1, ds, _, k1.ex, r1, h1, fun F3 H3 a r G own hn q => ?_⟩
  have k2 := k1.grow G
  exact c F3 H3 ρ1 _ (.ow r) k2 (e1.trans G.exF) (k1.tmpOf hn k2 own) q
theorem de_cb {id : String} (hc : CallR X (.builtin id) (rC o)) (hm : X.mg x = none) (ha : PA X (e :: es) (tA daa)) (hg : Gl X x := by rfl) (hv : bootBuiltins x = some (.builtin id) := by first | rfl | decide +kernel) (hn : x ≠ "__name__" := by decide) (hdb : (x == ("__debug__" : Str)) = false := by decide)
    (he : starEach (e :: es) X.env = (false, eval e X.env) :: starEach es X.env := by rfl) (hpl : (backTo pos (starEach es X.env)).any (·.1) = false := by rfl) : PE X (.Call (.Name x p) (e :: es) [] pos) (tE (dCB o daa)) :=
  pe_imp (pe_callB hc hg hm hv ha hn hdb he hpl) fun _ _ _ h => t_cb h
theorem de_cty {T : String} (hc : CallR X (.type T) (rC o)) (hm : X.mg x = none) (ha : PA X (e :: es) (tA daa)) (hg : Gl X x := by rfl) (hv : bootBuiltins x = some (.type T) := by first | rfl | decide +kernel) (hn : x ≠ "__name__" := by decide) (hdb : (x == ("__debug__" : Str)) = false := by decide)
    (he : starEach (e :: es) X.env = (false, eval e X.env) :: starEach es X.env := by rfl) (hpl : (backTo pos (starEach es X.env)).any (·.1) = false := by rfl) : PE X (.Call (.Name x p) (e :: es) [] pos) (tE (dCB o daa)) :=
  pe_imp (pe_callTy hc hg hm hv ha hn hdb he hpl) fun _ _ _ h => t_cb h
theorem dx_cb {id : String} (hc : CallR X (.builtin id) (rCF o)) (hm : X.mg x = none) (ha : PA X (e :: es) (tA daa)) (hg : Gl X x := by rfl) (hv : bootBuiltins x = some (.builtin id) := by first | rfl | decide +kernel) (hn : x ≠ "__name__" := by decide) (hdb : (x == ("__debug__" : Str)) = false := by decide)
    (he : starEach (e :: es) X.env = (false, eval e X.env) :: starEach es X.env := by rfl) (hpl : (backTo pos (starEach es X.env)).any (·.1) = false := by rfl) : PE X (.Call (.Name x p) (e :: es) [] pos) (tX (dCBF o daa)) :=
  pe_imp (pe_callB hc hg hm hv ha hn hdb he hpl) fun _ _ _ h => t_cbf h
theorem dx_cty {T : String} (hc : CallR X (.type T) (rCF o)) (hm : X.mg x = none) (ha : PA X (e :: es) (tA daa)) (hg : Gl X x := by rfl) (hv : bootBuiltins x = some (.type T) := by first | rfl | decide +kernel) (hn : x ≠ "__name__" := by decide) (hdb : (x == ("__debug__" : Str)) = false := by decide)
    (he : starEach (e :: es) X.env = (false, eval e X.env) :: starEach es X.env := by rfl) (hpl : (backTo pos (starEach es X.env)).any (·.1) = false := by rfl) : PE X (.Call (.Name x p) (e :: es) [] pos) (tX (dCBF o daa)) :=
  pe_imp (pe_callTy hc hg hm hv ha hn hdb he hpl) fun _ _ _ h => t_cbf h
theorem callR_imp {f : Value} {r r' : List V → Hp → VK → Prop} (h : CallR X f r) (i : ∀ xs H Q, r' xs H Q → r xs H Q) : CallR X f r' := fun pins s σ H xs us Q I rv q => h pins s σ H xs us Q I rv (i xs H Q q)
theorem RepK.length {F : Hp} : ∀ {ks : List (Key × V)} {ds : List (D × D)}, RepK F ks ds → ks.length = ds.length
  | _, _, .nil => rfl
  | _, _, .cons _ _ t => by rw [List.length_cons, List.length_cons, RepK.length t]
theorem RepT.length {F : Hp} : ∀ {ks : List (List Key × V)} {ds : List (D × D)}, RepT F ks ds → ks.length = ds.length
  | _, _, .nil => rfl
  | _, _, .cons _ _ _ t => by rw [List.length_cons, List.length_cons, RepT.length t]
/-- len -/
def lenD : D → Option Nat
  | .lst xs => some xs.length
  | .tup xs => some xs.length
  | .str l => some l.length
  | .dic false _ ks => some ks.length
  | .dic true false ks => some ks.length
  | _ => none
def oLen : DFn := fun ds K => match ds with
  | [d] => match lenD d with
    | some n => K (.int (n : Int))
    | none => False
  | _ => False
theorem len_dic {pins : List (Addr × Obj)} {σ : L2.St} {F H : Hp} {s : Shared} {us : List Value} {Q : VK} {v : V} {t lk : Bool} {ks : List (D × D)} (ex : Ex F H) (r : Rep F v (.dic t lk ks)) (hn : lenD (.dic t lk ks) = some ks.length) (I : Inv X pins σ H s) (rv : Vals [v] us) (q : Q (.int (ks.length : Nat)) H) :
    wpAny (model X.prog X.w) X.A (call (.builtin "len") us) (EP X pins σ Q) X.xe s := by
  cases r with
  | dK h rr => exact call_lenD pins s σ H _ us Q I rv ⟨_, _, rfl, ex _ _ h, by rw [rr.length]; exact q⟩
  | dT h rr => exact call_len_dT pins s σ H _ us Q I rv ⟨_, _, rfl, ex _ _ h, by rw [rr.length]; exact q⟩
  | dKf h rr =>
    cases rv with
    | cons r1 rv =>
      cases rv
      cases r1
      exact d_len I (.inr ⟨_, ex _ _ h⟩) fun t s' I' => ⟨.int _, H, I', ⟨t, rfl⟩, by rw [rr.length]; exact q⟩
  | dTf h rr => cases hn
theorem cr_len : CallR X (.builtin "len") (rC oLen) := by
  intro pins s σ H xs us Q I rv ⟨F, ds, Qd, ex, r, o, c⟩
  match ds, r, o with
  | [d], r, o =>
    cases r with
    | cons r t =>
      cases t
      cases d <;> first | exact o.elim | skip
      · cases r with
        | str z => exact call_len pins s σ H _ us Q I rv ⟨_, _, rfl, ⟨z, rfl⟩, c F H _ _ (Grow.refl ex) (.int _) o⟩
      · cases r with
        | lst h q z => exact call_len pins s σ H _ us Q I rv ⟨_, _, rfl, .inl ⟨_, .of (ex _ _ h), rfl⟩, by rw [q.length]; exact c F H _ _ (Grow.refl ex) (.int _) o⟩
      · cases r with
        | tup h q z => exact call_len pins s σ H _ us Q I rv ⟨_, _, rfl, .inr ⟨_, .of (ex _ _ h), rfl⟩, by rw [q.length]; exact c F H _ _ (Grow.refl ex) (.int _) o⟩
      · rename_i t lk ks
        cases t <;> cases lk <;> first | exact o.elim | exact len_dic ex r rfl I rv (c F H _ _ (Grow.refl ex) (.int _) o)
end

/-! ### what a slot holds, read on the way -/
def RepB (F H : Hp) (v : V) (d : D) : Prop := Rep F v d ∨ ∃ a, v = .ref a ∧ Own F H a d
def cv (ρ : Env) (i : Nat) : Option D := (ρ[i]?).bind Cell.val
theorem EOk.read {g : Gd} {F H : Hp} {σ : L2.St} {ρ : Env} (k : EOk g F σ H ρ) {i : Nat} {d : D} (h : cv ρ i = some d) : ∃ v, σ[i]? = some (some v) ∧ RepB F H v d := by
  unfold cv at h
  cases hc : ρ[i]? with
  | none => rw [hc] at h; cases h
  | some c =>
    rw [hc] at h
    obtain ⟨v, hv, q⟩ := k.slot hc
    cases c with
    | un => cases h
    | fz d' => cases h; obtain ⟨x, e, r⟩ := q; subst e; exact ⟨x, hv, .inl r⟩
    | ow d' => cases h; obtain ⟨a, e, r, _⟩ := q; subst e; exact ⟨_, hv, .inr ⟨a, rfl, r⟩⟩
    | io d' => cases h; obtain ⟨a, e, r, _⟩ := q; subst e; exact ⟨_, hv, .inr ⟨a, rfl, r⟩⟩
section
variable {F H : Hp}
theorem RepB.lst {v : V} {ds : List D} (ex : Ex F H) : RepB F H v (.lst ds) → ∃ a vs, v = .ref a ∧ H a = some (.lst vs) ∧ Reps F vs ds ∧ ds.length ≤ sizeLine
  | .inl (.lst h r z) => ⟨_, _, rfl, ex _ _ h, r, z⟩
  | .inr ⟨a, e, _, ⟨vs, h, r⟩, z⟩ => ⟨a, vs, e, h, r, z⟩
theorem RepB.tup {v : V} {ds : List D} (ex : Ex F H) : RepB F H v (.tup ds) → ∃ a vs, v = .ref a ∧ H a = some (.tup vs) ∧ F a = some (.tup vs) ∧ Reps F vs ds ∧ ds.length ≤ sizeLine
  | .inl (.tup h r z) => ⟨_, _, rfl, ex _ _ h, h, r, z⟩
  | .inr ⟨a, e, o⟩ => o.elim
theorem RepB.str {v : V} {l : List Nat} : RepB F H v (.str l) → v = .str (S l) ∧ l.length ≤ sizeLine
  | .inl (.str z) => ⟨rfl, z⟩
  | .inr ⟨a, e, o⟩ => o.elim
theorem Rep.dicR {v : V} {t lk : Bool} {ds : List (D × D)} (ex : Ex F H) : Rep F v (.dic t lk ds) → ∃ a, v = .ref a ∧ ((t = false ∧ ∃ ks, Rd H a (.dK ks) ∧ RepK F ks ds) ∨ (t = true ∧ ∃ ks, Rd H a (.dT ks) ∧ RepT F ks ds))
  | .dK h r => ⟨_, rfl, .inl ⟨rfl, _, .inl (ex _ _ h), r⟩⟩
  | .dT h r => ⟨_, rfl, .inr ⟨rfl, _, .inl (ex _ _ h), r⟩⟩
  | .dKf h r => ⟨_, rfl, .inl ⟨rfl, _, .inr ⟨_, ex _ _ h⟩, r⟩⟩
  | .dTf h r => ⟨_, rfl, .inr ⟨rfl, _, .inr ⟨_, ex _ _ h⟩, r⟩⟩
theorem Own.dicR {a : Addr} {t lk : Bool} {ds : List (D × D)} : Own F H a (.dic t lk ds) → lk = false ∧ ((t = false ∧ ∃ ks, H a = some (.dK ks) ∧ RepK F ks ds) ∨ (t = true ∧ ∃ ks, H a = some (.dT ks) ∧ RepT F ks ds)) := fun h => by
  cases t <;> cases lk <;> first | exact h.elim | skip
  · exact ⟨rfl, .inl ⟨rfl, h.2⟩⟩
  · exact ⟨rfl, .inr ⟨rfl, h.2⟩⟩
theorem RepB.dic {v : V} {t lk : Bool} {ds : List (D × D)} (ex : Ex F H) : RepB F H v (.dic t lk ds) → ∃ a, v = .ref a ∧ ((t = false ∧ ∃ ks, Rd H a (.dK ks) ∧ RepK F ks ds) ∨ (t = true ∧ ∃ ks, Rd H a (.dT ks) ∧ RepT F ks ds))
  | .inl r => r.dicR ex
  | .inr ⟨a, e, o⟩ => by
    obtain ⟨_, ⟨h, ks, q, r⟩ | ⟨h, ks, q, r⟩⟩ := o.dicR
    · exact ⟨a, e, .inl ⟨h, ks, .inl q, r⟩⟩
    · exact ⟨a, e, .inr ⟨h, ks, .inl q, r⟩⟩
end
def rO1 (o : DOp) : R2 := fun x y H Q => ∃ F d e Qd, Ex F H ∧ RepB F H x d ∧ Rep F y e ∧ o d e Qd ∧ ∀ F' H' v r, Grow F H F' H' → Rep F' v r → Qd r → Q v H'
theorem rO_rO1 {o : DOp} {x y : V} {H : Hp} {Q : VK} : rO o x y H Q → rO1 o x y H Q := fun ⟨F, d, e, Qd, ex, r1, r2, h, c⟩ => ⟨F, d, e, Qd, ex, .inl r1, r2, h, c⟩
def dBinS (i : Nat) (o : DOp) (db : DTE) : DTE := fun ρ Q => (cv ρ i).isSome = true ∧ db ρ fun e ρ2 => match cv ρ2 i with
  | some d => o d e fun r => Q r ρ2
  | none => False
theorem t_binS {i : Nat} {o : DOp} {db : DTE} {σ : L2.St} {H : Hp} {Q : VK} (h : tE (dBinS i o db) σ H Q) : tOp (rO1 o) (tVar i) (tE db) σ H Q := by
  obtain ⟨g, F, ρ, Qd, k, ⟨h0, h⟩, c⟩ := h
  obtain ⟨d0, hd0⟩ := Option.isSome_iff_exists.mp h0
  obtain ⟨v, hv, _⟩ := k.read hd0
  refine ⟨v, hv, g, F, ρ, _, k, h, fun F1 H1 ρ1 y e k1 e1 r1 h1 => ?_⟩
  cases hc : cv ρ1 i with
  | none => rw [hc] at h1; exact h1.elim
  | some d =>
    rw [hc] at h1
    obtain ⟨v', hv', rb⟩ := k1.read hc
    rw [hv] at hv'
    cases hv'
    exact ⟨F1, d, e, _, k1.ex, rb, r1, h1, fun F3 H3 w r G r3 q => c F3 H3 ρ1 w r (k1.grow G) (e1.trans G.exF) r3 q⟩
/-! ### items, slices -/
def oIx : DOp := fun d e K => match d, e with
  | .lst xs, .int i => match atI xs i with
    | some x => K x
    | none => False
  | .tup xs, .int i => match atI xs i with
    | some x => K x
    | none => False
  | .str l, .int i => match atI l i with
    | some n => K (.str [n])
    | none => False
  | _, _ => False
theorem atI_reps {F : Hp} {vs : List V} {ds : List D} (r : Reps F vs ds) {i : Int} {d : D} (h : atI ds i = some d) : ∃ v, atI vs i = some v ∧ Rep F v d := by
  unfold atI at h ⊢
  rw [r.length]
  cases hx : ixN ds.length i with
  | none => rw [hx] at h; cases h
  | some j =>
    rw [hx] at h
    exact r.get h
section
variable {X : Cx} {e a b c lo hi : Expr} {es : List Expr} {pos p p2 : Pos} {da db dc : DTE} {daa : DTA} {x : Str} {o : DFn}
theorem ix_any : IxR X (rO1 oIx) := by
  intro value slice pins s σ H x y v u Q I rx ry ⟨F, d, e, Qd, ex, r1, r2, o, c⟩ hs
  cases d <;> cases e <;> first | exact o.elim | skip
  · rename_i l i
    cases r2
    obtain ⟨rfl, z⟩ := r1.str
    cases ha : atI l i with
    | none => simp only [oIx, ha] at o
    | some n =>
      simp only [oIx, ha] at o
      exact ix_str value slice pins s σ H _ _ v u Q I rx ry ⟨_, _, _, rfl, rfl, z, ha, c F H _ _ (Grow.refl ex) (.str (l := [n]) (by show 1 ≤ 16777216; decide)) o⟩ hs
  · rename_i xs i
    cases r2
    obtain ⟨a, vs, rfl, h, r, z⟩ := r1.lst ex
    cases ha : atI xs i with
    | none => simp only [oIx, ha] at o
    | some d =>
      simp only [oIx, ha] at o
      obtain ⟨w, hw, rw'⟩ := atI_reps r ha
      exact ix_list value slice pins s σ H _ _ v u Q I rx ry ⟨_, _, _, _, rfl, rfl, .of h, hw, c F H _ _ (Grow.refl ex) rw' o⟩ hs
  · rename_i xs i
    cases r2
    obtain ⟨a, vs, rfl, h, _, r, z⟩ := r1.tup ex
    cases ha : atI xs i with
    | none => simp only [oIx, ha] at o
    | some d =>
      simp only [oIx, ha] at o
      obtain ⟨w, hw, rw'⟩ := atI_reps r ha
      exact ix_tup value slice pins s σ H _ _ v u Q I rx ry ⟨_, _, _, _, rfl, rfl, .of h, hw, c F H _ _ (Grow.refl ex) rw' o⟩ hs
theorem de_ix (ha : PE X a (tE da)) (hb : PE X b (tE db)) (hs : PlainIx b := by intro _ _; rfl) : PE X (.Subscript a b pos) (tE (dBin oIx da db)) :=
  pe_imp (pe_ix ix_any ha hb hs) fun σ H Q h => by
    obtain ⟨g, F, ρ, Qd, k, h, c⟩ := t_bin h
    exact ⟨g, F, ρ, Qd, k, h, fun F' H' ρ' v d k' e' r q => by
      obtain ⟨g2, F2, ρ2, Q2, k2, h2, c2⟩ := c F' H' ρ' v d k' e' r q
      exact ⟨g2, F2, ρ2, Q2, k2, h2, fun F3 H3 ρ3 w e3 k3 e4 r3 q3 => rO_rO1 (c2 F3 H3 ρ3 w e3 k3 e4 r3 q3)⟩⟩
theorem de_ixS (i : Nat) {q : Pos} (ha : PE X (.Name x q) (tVar i)) (hb : PE X b (tE db)) (hs : PlainIx b := by intro _ _; rfl) : PE X (.Subscript (.Name x q) b pos) (tE (dBinS i oIx db)) :=
  pe_imp (pe_ix ix_any ha hb hs) fun _ _ _ h => t_binS h
/-- len(x), x a name -/
def dLenS (i : Nat) : DTE := fun ρ Q => match cv ρ i with
  | some d => match lenD d with
    | some n => Q (.int (n : Int)) ρ
    | none => False
  | none => False
theorem cr_lenB : CallR X (.builtin "len") (fun xs H Q => ∃ F d v n, xs = [v] ∧ Ex F H ∧ RepB F H v d ∧ lenD d = some n ∧ Q (.int (n : Int)) H) := by
  intro pins s σ H xs us Q I rv ⟨F, d, v, n, exs, ex, r, hn, q⟩
  subst exs
  cases d <;> first | (cases hn; done) | skip
  · obtain ⟨rfl, z⟩ := r.str
    cases hn
    exact call_len pins s σ H _ us Q I rv ⟨_, _, rfl, ⟨z, rfl⟩, q⟩
  · obtain ⟨a, vs, rfl, h, rr, z⟩ := r.lst ex
    cases hn
    exact call_len pins s σ H _ us Q I rv ⟨_, _, rfl, .inl ⟨_, .of h, rfl⟩, by rw [rr.length]; exact q⟩
  · obtain ⟨a, vs, rfl, h, _, rr, z⟩ := r.tup ex
    cases hn
    exact call_len pins s σ H _ us Q I rv ⟨_, _, rfl, .inr ⟨_, .of h, rfl⟩, by rw [rr.length]; exact q⟩
  · rename_i t lk ks
    have en : n = ks.length := by cases t <;> cases lk <;> first | (cases hn; rfl) | (cases hn; done)
    subst en
    rcases r with r | ⟨a, e, o⟩
    · exact len_dic ex r hn I rv q
    · subst e
      obtain ⟨_, ⟨_, ks, h, rr⟩ | ⟨_, ks, h, rr⟩⟩ := o.dicR
      · exact call_lenD pins s σ H _ us Q I rv ⟨_, _, rfl, h, by rw [rr.length]; exact q⟩
      · exact call_len_dT pins s σ H _ us Q I rv ⟨_, _, rfl, h, by rw [rr.length]; exact q⟩
theorem de_lenS (i : Nat) {q : Pos} (hm : X.mg "len" = none) (ha : PE X (.Name x q) (tVar i)) (hg : Gl X "len" := by rfl)
    (he : starEach [.Name x q] X.env = (false, eval (.Name x q) X.env) :: starEach [] X.env := by rfl) (hpl : (backTo pos (starEach [] X.env)).any (·.1) = false := by rfl) : PE X (.Call (.Name "len" p) [.Name x q] [] pos) (tE (dLenS i)) := by
  refine pe_imp (pe_callB cr_lenB hg hm boot_len (pa_cons ha pa_nil he) (by decide) (by decide) he hpl) fun σ H Q ⟨g, F, ρ, Qd, k, h, c⟩ => ?_
  unfold dLenS at h
  cases hc : cv ρ i with
  | none => rw [hc] at h; exact h.elim
  | some d =>
    rw [hc] at h
    cases hn : lenD d with
    | none => simp only [hn] at h
    | some n =>
      simp only [hn] at h
      obtain ⟨v, hv, rb⟩ := k.read hc
      exact ⟨v, hv, F, d, v, n, rfl, k.ex, rb, hn, c F H ρ _ _ k (Ex.refl _) (.int _) h⟩
/-- a[lo:hi] -/
def cutG {α : Type} (xs : List α) (lo hi : Option Int) : List α := (xs.drop (HT.sIx xs.length 0 lo)).take (HT.sIx xs.length xs.length hi - HT.sIx xs.length 0 lo)
theorem cutG_length {α : Type} (xs : List α) (lo hi : Option Int) : (cutG xs lo hi).length ≤ xs.length := by
  unfold cutG
  rw [List.length_take, List.length_drop]
  omega
abbrev DTO := Env → (Option Int → Env → Prop) → Prop
def tO (d : DTO) : TO := fun σ H Q => ∃ g F ρ Qd, EOk g F σ H ρ ∧ d ρ Qd ∧ ∀ F' H' ρ' o, EOk g F' σ H' ρ' → Ex F F' → Qd o ρ' → Q o H'
def dNo : DTO := fun ρ Q => Q none ρ
def dPt (de : DTE) : DTO := fun ρ Q => de ρ fun d ρ' => match d with
  | .int i => Q (some i) ρ'
  | _ => False
theorem po_imp {o : Option Expr} {t t' : TO} (h : PO X o t) (i : ∀ σ H Q, t' σ H Q → t σ H Q) : PO X o t' := ⟨fun pins s σ H Q I q => h.run pins s σ H Q I (i σ H Q q)⟩
theorem do_no : PO X none (tO dNo) := po_imp po_none fun σ H Q ⟨g, F, ρ, Qd, k, h, c⟩ => c F H ρ none k (Ex.refl _) h
theorem do_pt (h : PE X e (tE da)) : PO X (some e) (tO (dPt da)) := by
  refine po_imp (po_some h) fun σ H Q ⟨g, F, ρ, Qd, k, h, c⟩ => ?_
  refine ⟨g, F, ρ, _, k, h, fun F1 H1 ρ1 v d k1 e1 r1 h1 => ?_⟩
  cases d <;> first | exact h1.elim | skip
  cases r1
  exact ⟨_, rfl, c F1 H1 ρ1 _ k1 e1 h1⟩
def oSl : D → Option Int → Option Int → (D → Prop) → Prop := fun d lo hi K => match d with
  | .lst xs => K (.lst (cutG xs lo hi))
  | .tup xs => K (.tup (cutG xs lo hi))
  | .str l => K (.str (cutG l lo hi))
  | _ => False
def rSl (K : PySem.W.Frag) : V → Option Int → Option Int → Hp → VK → Prop := fun x lo hi H Q => rSlL K x lo hi H Q ∨ (rSlA K x lo hi H Q ∨ rSlS x lo hi H Q)
theorem sl_any : SlR X (rSl X.K) := sl_list.or (sl_tupA.or sl_str)
theorem r_sl {K : PySem.W.Frag} {F H : Hp} {v : V} {d : D} {lo hi : Option Int} {Qd : D → Prop} {Q : VK} (ex : Ex F H) (r : RepB F H v d) (h : oSl d lo hi Qd) (c : ∀ F' H' v r, Grow F H F' H' → Rep F' v r → Qd r → Q v H') : rSl K v lo hi H Q := by
  cases d <;> first | exact h.elim | skip
  · obtain ⟨rfl, z⟩ := r.str
    rename_i l
    refine .inr (.inr ⟨_, rfl, z, ?_⟩)
    have e : cutS (S l) lo hi = S (cutG l lo hi) := rfl
    rw [e]
    exact c F H _ _ (Grow.refl ex) (.str (Nat.le_trans (cutG_length _ _ _) z)) h
  · rename_i xs
    obtain ⟨a, vs, rfl, hh, rr, z⟩ := r.lst ex
    refine .inl ⟨_, _, rfl, .of hh, fun p hp => ?_⟩
    have G := Grow.alloc (o := .lst (cutV vs lo hi)) ex hp
    have e : Reps F (cutV vs lo hi) (cutG xs lo hi) := by
      unfold cutV cutG
      rw [rr.length]
      exact (rr.drop _).take _
    exact c _ _ _ _ G (.lst upd_same (e.mono G.exF) (Nat.le_trans (cutG_length _ _ _) z)) h
  · rename_i xs
    obtain ⟨a, vs, rfl, hh, hF, rr, z⟩ := r.tup ex
    have e : Reps F (cutV vs lo hi) (cutG xs lo hi) := by
      unfold cutV cutG
      rw [rr.length]
      exact (rr.drop _).take _
    refine .inr (.inl ⟨_, _, rfl, .of hh, fun hn => ?_, fun hn p hp => ?_⟩)
    · have e2 : cutG xs lo hi = xs := by
        unfold cutG
        rw [rr.length] at hn
        rw [hn.1, hn.2, List.drop_zero, Nat.sub_zero, List.take_length]
      have h : Qd (.tup (cutG xs lo hi)) := h
      rw [e2] at h
      exact c F H _ _ (Grow.refl ex) (.tup hF rr z) h
    · have G := Grow.alloc (o := .tup (cutV vs lo hi)) ex hp
      exact c _ _ _ _ G (.tup upd_same (e.mono G.exF) (Nat.le_trans (cutG_length _ _ _) z)) h
def dSl (da : DTE) (dl dh : DTO) : DTE := fun ρ Q => da ρ fun d ρ1 => dl ρ1 fun lo ρ2 => dh ρ2 fun hi ρ3 => oSl d lo hi fun r => Q r ρ3
theorem de_sl {lo hi : Option Expr} {dl dh : DTO} (ha : PE X a (tE da)) (hl : PO X lo (tO dl)) (hh : PO X hi (tO dh)) : PE X (.Subscript a (.Slice lo hi none p2) pos) (tE (dSl da dl dh)) := by
  refine pe_imp (pe_slice sl_any ha hl hh) fun σ H Q ⟨g, F, ρ, Qd, k, h, c⟩ => ?_
  refine ⟨g, F, ρ, _, k, h, fun F1 H1 ρ1 v d k1 e1 r1 h1 => ⟨g, F1, ρ1, _, k1, h1, fun F2 H2 ρ2 lo k2 e2 h2 => ⟨g, F2, ρ2, _, k2, h2, fun F3 H3 ρ3 hi k3 e3 h3 => ?_⟩⟩⟩
  exact r_sl k3.ex (.inl ((r1.mono e2).mono e3)) h3 fun F' H' w r G rr q => c F' H' ρ3 w r (k3.grow G) (((e1.trans e2).trans e3).trans G.exF) rr q
def dSlS (i : Nat) (dl dh : DTO) : DTE := fun ρ Q => (cv ρ i).isSome = true ∧ dl ρ fun lo ρ2 => dh ρ2 fun hi ρ3 => match cv ρ3 i with
  | some d => oSl d lo hi fun r => Q r ρ3
  | none => False
theorem de_slS (i : Nat) {q : Pos} {lo hi : Option Expr} {dl dh : DTO} (ha : PE X (.Name x q) (tVar i)) (hl : PO X lo (tO dl)) (hh : PO X hi (tO dh)) : PE X (.Subscript (.Name x q) (.Slice lo hi none p2) pos) (tE (dSlS i dl dh)) := by
  refine pe_imp (pe_slice sl_any ha hl hh) fun σ H Q ⟨g, F, ρ, Qd, k, ⟨h0, h⟩, c⟩ => ?_
  obtain ⟨d0, hd0⟩ := Option.isSome_iff_exists.mp h0
  obtain ⟨v, hv, _⟩ := k.read hd0
  refine ⟨v, hv, g, F, ρ, _, k, h, fun F2 H2 ρ2 lo k2 e2 h2 => ⟨g, F2, ρ2, _, k2, h2, fun F3 H3 ρ3 hi k3 e3 h3 => ?_⟩⟩
  cases hc : cv ρ3 i with
  | none => rw [hc] at h3; exact h3.elim
  | some d =>
    rw [hc] at h3
    obtain ⟨v', hv', rb⟩ := k3.read hc
    rw [hv] at hv'
    cases hv'
    exact r_sl k3.ex rb h3 fun F' H' w r G rr q => c F' H' ρ3 w r (k3.grow G) ((e2.trans e3).trans G.exF) rr q
/-- x[::-1] of a list or a text is below -/
theorem e_step : True := trivial
end
end DL

namespace DL
open PySem PySem.Spec PyProof.Rows L2
section
variable {X : Cx} {e a b c lo hi : Expr} {es : List Expr} {pos p p2 : Pos} {da db dc : DTE} {daa : DTA} {x : Str} {o : DFn}
/-! ### stores into one's own list -/
def oStL : List D → D → D → Option (List D) := fun xs j v => match j with
  | .int k => match ixN xs.length k with
    | some n => some (xs.set n v)
    | none => none
  | _ => none
/-- x[j] = v, x a name of a list -/
def dStL (i : Nat) (dv dj : DTE) : DTS := fun D ρ => dv ρ fun v ρ1 => (cv ρ1 i).isSome = true ∧ dj ρ1 fun j ρ2 => match ρ2[i]? with
  | some c => c.own = true ∧ match c.val with
    | some (.lst xs) => match oStL xs j v with
      | some ys => D.nx (ρ2.set i (c.up (.lst ys)))
      | none => False
    | _ => False
  | none => False
theorem own_lst {g : Gd} {F H : Hp} {σ : L2.St} {ρ : Env} (k : EOk g F σ H ρ) {i : Nat} {c : Cell} {xs : List D} (h : ρ[i]? = some c) (hc : c.own = true) (hv : c.val = some (.lst xs)) :
    ∃ a vs, σ[i]? = some (some (.ref a)) ∧ H a = some (.lst vs) ∧ Reps F vs xs ∧ xs.length ≤ sizeLine ∧ F a = none := by
  obtain ⟨v, hs, q⟩ := k.slot h
  cases c with
  | un => cases hc
  | fz _ => cases hc
  | ow d => cases hv; obtain ⟨a, e, ⟨n, ⟨vs, h1, r⟩, z⟩, _⟩ := q; subst e; exact ⟨a, vs, hs, h1, r, z, n⟩
  | io d => cases hv; obtain ⟨a, e, ⟨n, ⟨vs, h1, r⟩, z⟩, _⟩ := q; subst e; exact ⟨a, vs, hs, h1, r, z, n⟩
/-- the list in a slot becomes another one -/
theorem EOk.setLst {g : Gd} {F H : Hp} {σ : L2.St} {ρ : Env} (k : EOk g F σ H ρ) {i : Nat} {c : Cell} {a : Addr} {ws : List V} {ys : List D} (h : ρ[i]? = some c) (hc : c.own = true) (hs : σ[i]? = some (some (.ref a))) (n : F a = none) (r : Reps F ws ys) (z : ys.length ≤ sizeLine) :
    EOk g F σ (upd H a (.lst ws)) (ρ.set i (c.up (.lst ys))) :=
  k.turn h hc hs (Ex.refl _) (fun b u hb => by rw [upd_ne (ne_of_none hb n)]; exact k.ex b u hb) (fun b u hb ne => by rw [upd_ne ne]; exact hb) (fun _ _ h => .inl h) ⟨n, ⟨ws, upd_same, r⟩, z⟩
theorem ds_stL (i : Nat) {q : Pos} (hx : PE X (.Name x q) (tVar i)) (hv : PE X e (tE da)) (hj : PE X b (tE db))
    (ha : ∀ v, assign (.Subscript (.Name x q) b p) X.env v = (do
      let ov ← holding [v] (eval (.Name x q) X.env)
      let iv ← holding [v, ov] (eval b X.env)
      standAt p
      holding [v, ov, iv] (setItem ov iv v)
      release [v, ov, iv] []) := by intro _; rfl)
    (hs : swapsWithSole [.Subscript (.Name x q) b p] e pos.line X.env = pure false := by rfl) (hw : swappedStores [.Subscript (.Name x q) b p] e X.env = pure none := by rfl)
    (h1 : (assignEach [.Subscript (.Name x q) b p] X.env).map (·.2) = [assign (.Subscript (.Name x q) b p) X.env] := by rfl) :
    PS X (.Assign [.Subscript (.Name x q) b p] e pos) (tS (dStL i da db)) := by
  refine ps_imp (ps_asg hv (pg_sub hx hj set_list ha) hs hw h1) fun D σ H ⟨g, F, ρ, Dd, k, h, s⟩ => ?_
  refine ⟨g, F, ρ, _, k, h, fun F1 H1 ρ1 v d k1 e1 r1 ⟨h0, h1⟩ => ?_⟩
  obtain ⟨d0, hd0⟩ := Option.isSome_iff_exists.mp h0
  obtain ⟨w, hw, _⟩ := k1.read hd0
  refine ⟨w, hw, g, F1, ρ1, _, k1, h1, fun F2 H2 ρ2 y j k2 e2 r2 h2 => ?_⟩
  cases hc : ρ2[i]? with
  | none => rw [hc] at h2; exact h2.elim
  | some c =>
    rw [hc] at h2
    obtain ⟨ho, h2⟩ := h2
    cases hl : c.val with
    | none => rw [hl] at h2; exact h2.elim
    | some d1 =>
      cases d1 with
      | lst xs =>
        simp only [hl] at h2
        obtain ⟨a, vs, hs, hH, r, z, n⟩ := own_lst k2 hc ho hl
        rw [hw] at hs
        cases hs
        cases j <;> first | (simp only [oStL] at h2; done) | skip
        rename_i jj
        cases hx : ixN xs.length jj with
        | none => simp only [oStL, hx] at h2
        | some m =>
          simp only [oStL, hx] at h2
          cases r2
          refine ⟨a, vs, jj, m, rfl, rfl, hH, by rw [r.length]; exact hx, ?_⟩
          exact s.nx F2 σ _ _ (k2.setLst hc ho hw n (r.set m (r1.mono e2)) (by rw [List.length_set]; exact z)) (e1.trans e2) h2
      | _ => rw [hl] at h2; exact h2.elim
/-- x.append(v), x a name of a list -/
def dApp (i : Nat) (dv : DTE) : DTS := fun D ρ => (∃ xs, cv ρ i = some (.lst xs)) ∧ dv ρ fun v ρ2 => match ρ2[i]? with
  | some c => c.own = true ∧ match c.val with
    | some (.lst xs) => xs.length < sizeLine ∧ D.nx (ρ2.set i (c.up (.lst (xs ++ [v]))))
    | _ => False
  | none => False
theorem RepB.ty {K : PySem.W.Frag} {F H : Hp} {v : V} {xs : List D} (ex : Ex F H) (r : RepB F H v (.lst xs)) : tyV K "list" v H := by
  obtain ⟨a, vs, rfl, h, _, _⟩ := r.lst ex
  exact .inl ⟨rfl, vs, .of h⟩
theorem ds_app (i : Nat) {q apos : Pos} (hx : PE X (.Name x q) (tVar i)) (hv : PE X e (tE da))
    (hbase : attributeBase (.Name x q) "append" X.env (eval (.Name x q) X.env) = eval (.Name x q) X.env := by rfl)
    (hfew : ((backTo p (starEach [e] X.env)).all (fun x => !x.1) && (backToKw p (keywordEach [] X.env)).all (fun x => x.1.isSome)
      && decide ([e].length + ([] : List Keyword).length + (if ([] : List Keyword).isEmpty then 0 else 1) < 30)) = true := by rfl)
    (hline : (apos.endLine == p.line) = true := by rfl) (he : starEach [e] X.env = (false, eval e X.env) :: starEach [] X.env := by rfl) (hplain : (backTo p (starEach [] X.env)).any (·.1) = false := by rfl)
    (hsw : swapsWith (.Call (.Attribute (.Name x q) "append" apos) [e] [] p) none pos.line X.env = pure false := by rfl) :
    PS X (.Expr (.Call (.Attribute (.Name x q) "append" apos) [e] [] p) pos) (tS (dApp i da)) := by
  refine ps_imp (ps_expr (pe_bm PySem.F.plainAttrs_list PySem.F.slot_list_append PySem.F.type_list_append mt_append hx (pa_cons hv pa_nil he) hbase hfew hline he hplain) hsw) fun D σ H ⟨g, F, ρ, Dd, k, ⟨⟨xs0, h0⟩, h⟩, s⟩ => ?_
  obtain ⟨w, hw, rb⟩ := k.read h0
  refine ⟨w, hw, rb.ty k.ex, g, F, ρ, _, k, h, fun F1 H1 ρ1 v d k1 e1 r1 h1 => ?_⟩
  cases hc : ρ1[i]? with
  | none => rw [hc] at h1; exact h1.elim
  | some c =>
    rw [hc] at h1
    obtain ⟨ho, h1⟩ := h1
    cases hl : c.val with
    | none => rw [hl] at h1; exact h1.elim
    | some d1 =>
      cases d1 with
      | lst xs =>
        simp only [hl] at h1
        obtain ⟨a, vs, hs, hH, r, z, n⟩ := own_lst k1 hc ho hl
        rw [hw] at hs
        cases hs
        refine ⟨a, vs, v, rfl, rfl, hH, by rw [r.length]; exact h1.1, ?_⟩
        exact s.nx F1 σ _ _ (k1.setLst hc ho hw n (r.append (.cons r1 .nil)) (by rw [List.length_append]; exact h1.1)) e1 h1.2
      | _ => rw [hl] at h1; exact h1.elim
/-- x.extend(v) -/
def dExt (i : Nat) (dv : DTE) : DTS := fun D ρ => (∃ xs, cv ρ i = some (.lst xs)) ∧ dv ρ fun v ρ2 => match ρ2[i]? with
  | some c => c.own = true ∧ match c.val, v with
    | some (.lst xs), .lst ys => xs.length + ys.length ≤ sizeLine ∧ D.nx (ρ2.set i (c.up (.lst (xs ++ ys))))
    | _, _ => False
  | none => False
theorem ds_ext (i : Nat) {q apos : Pos} (hx : PE X (.Name x q) (tVar i)) (hv : PE X e (tE da))
    (hbase : attributeBase (.Name x q) "extend" X.env (eval (.Name x q) X.env) = eval (.Name x q) X.env := by rfl)
    (hfew : ((backTo p (starEach [e] X.env)).all (fun x => !x.1) && (backToKw p (keywordEach [] X.env)).all (fun x => x.1.isSome)
      && decide ([e].length + ([] : List Keyword).length + (if ([] : List Keyword).isEmpty then 0 else 1) < 30)) = true := by rfl)
    (hline : (apos.endLine == p.line) = true := by rfl) (he : starEach [e] X.env = (false, eval e X.env) :: starEach [] X.env := by rfl) (hplain : (backTo p (starEach [] X.env)).any (·.1) = false := by rfl)
    (hsw : swapsWith (.Call (.Attribute (.Name x q) "extend" apos) [e] [] p) none pos.line X.env = pure false := by rfl) :
    PS X (.Expr (.Call (.Attribute (.Name x q) "extend" apos) [e] [] p) pos) (tS (dExt i da)) := by
  refine ps_imp (ps_expr (pe_bm PySem.F.plainAttrs_list PySem.F.slot_list_extend PySem.F.type_list_extend mt_extend hx (pa_cons hv pa_nil he) hbase hfew hline he hplain) hsw) fun D σ H ⟨g, F, ρ, Dd, k, ⟨⟨xs0, h0⟩, h⟩, s⟩ => ?_
  obtain ⟨w, hw, rb⟩ := k.read h0
  refine ⟨w, hw, rb.ty k.ex, g, F, ρ, _, k, h, fun F1 H1 ρ1 v d k1 e1 r1 h1 => ?_⟩
  cases hc : ρ1[i]? with
  | none => rw [hc] at h1; exact h1.elim
  | some c =>
    rw [hc] at h1
    obtain ⟨ho, h1⟩ := h1
    cases hl : c.val with
    | none => rw [hl] at h1; exact h1.elim
    | some d1 =>
      cases d1 <;> first | (simp only [hl] at h1; done) | skip
      cases d <;> first | (simp only [hl] at h1; done) | skip
      simp only [hl] at h1
      obtain ⟨a, vs, hs, hH, r, z, n⟩ := own_lst k1 hc ho hl
      rw [hw] at hs
      cases hs
      cases r1 with
      | @lst a2 vs2 _ h2 q2 z2 =>
        refine ⟨a, a2, vs, vs2, rfl, rfl, hH, k1.ex _ _ h2, by rw [r.length, q2.length]; exact h1.1, ?_⟩
        exact s.nx F1 σ _ _ (k1.setLst hc ho hw n (r.append q2) (by rw [List.length_append]; exact h1.1)) e1 h1.2

/-! ### isinstance -/
def tyN : D → Option String
  | .non => some "NoneType"
  | .bl _ => some "bool"
  | .int _ => some "int"
  | .str _ => some "str"
  | .lst _ => some "list"
  | .tup _ => some "tuple"
  | .dic _ false _ => some "dict"
  | .dic _ true _ => none
  | .ins _ _ => none
  | .scr _ _ => none
def isiB (a T : String) : Bool := (a == T) || ((a == "bool") && (T == "int"))
def oIsi (T : String) : DUn := fun d K => match tyN d with
  | some a => K (.bl (isiB a T))
  | none => False
def tyNs : List String := ["NoneType", "bool", "int", "str", "list", "tuple", "dict"]
theorem tyN_mem : ∀ {d : D} {a : String}, tyN d = some a → a ∈ tyNs
  | .non, _, h => by cases h; decide
  | .bl _, _, h => by cases h; decide
  | .int _, _, h => by cases h; decide
  | .str _, _, h => by cases h; decide
  | .lst _, _, h => by cases h; decide
  | .tup _, _, h => by cases h; decide
  | .dic _ false _, _, h => by cases h; decide
  | .dic _ true _, _, h => by cases h
theorem Rep.tyOf {K : PySem.W.Frag} {F H : Hp} (ex : Ex F H) {v : V} {a : String} : ∀ {d : D}, Rep F v d → tyN d = some a → TyOf K H v (.type a)
  | .non, .non, h => by cases h; exact .non
  | .bl _, .bl b, h => by cases h; exact .bl b
  | .int _, .int b, h => by cases h; exact .int b
  | .str _, .str b, h => by cases h; exact .str _
  | .lst _, .lst q _ _, h => by cases h; exact .lst (ex _ _ q)
  | .tup _, .tup q _ _, h => by cases h; exact .tup (ex _ _ q)
  | .dic _ _ _, .dK q _, h => by cases h; exact .dK (ex _ _ q)
  | .dic _ _ _, .dT q _, h => by cases h; exact .dT (ex _ _ q)
  | .dic _ _ _, .dKf q _, h => by cases h
  | .dic _ _ _, .dTf q _, h => by cases h
def isiT (T : String) : Bool := tyNs.all fun a => kitB a T == some (isiB a T)
theorem de_isi (T : String) {y : Str} {q : Pos} (hT : isiT T = true) (hm : X.mg "isinstance" = none) (hmT : X.mg y = none) (ha : PE X a (tE da)) (hy : bootBuiltins y = some (.type T) := by first | rfl | decide +kernel) (hg : Gl X "isinstance" := by rfl) (hgT : Gl X y := by rfl)
    (hny : y ≠ "__name__" := by decide) (hdy : (y == ("__debug__" : Str)) = false := by decide)
    (he : starEach [a, .Name y q] X.env = (false, eval a X.env) :: starEach [.Name y q] X.env := by rfl) (he2 : starEach [.Name y q] X.env = (false, eval (.Name y q) X.env) :: starEach [] X.env := by rfl) (hpl : (backTo pos (starEach [.Name y q] X.env)).any (·.1) = false := by rfl)
    (hb : bootBuiltins "isinstance" = some (.builtin "isinstance") := by decide +kernel) :
    PE X (.Call (.Name "isinstance" p) [a, .Name y q] [] pos) (tE (dUn (oIsi T) da)) := by
  refine pe_imp (pe_callB call_isi hg hm hb (pa_cons ha (pa_cons (pe_bltn (v := .ty T) hgT hmT hy rfl hny hdy) pa_nil he2) he) (by decide) (by decide) he hpl) fun σ H Q ⟨g, F, ρ, Qd, k, h, c⟩ => ?_
  refine ⟨g, F, ρ, _, k, h, fun F1 H1 ρ1 v d k1 e1 r1 h1 => ?_⟩
  cases ht : tyN d with
  | none => simp only [oIsi, ht] at h1
  | some t =>
    simp only [oIsi, ht] at h1
    refine ⟨v, .ty T, .type t, .type T, isiB t T, rfl, .ty T, .base (r1.tyOf k1.ex ht), ?_, c F1 H1 ρ1 _ _ k1 e1 (.bl _) h1⟩
    exact kit_ty (by simpa using List.all_eq_true.mp hT t (tyN_mem ht))

/-! ### is -/
/-- d is e, e None or a flag -/
def D.isNon : D → Bool
  | .non => true
  | _ => false
def oIs : DOp := fun d e K => match e with
  | .non => K (.bl d.isNon)
  | .bl b => K (.bl (match d with | .bl a => a == b | _ => false))
  | _ => False
def oIsN : DOp := fun d e K => match e with
  | .non => K (.bl (!d.isNon))
  | .bl b => K (.bl (match d with | .bl a => !(a == b) | _ => true))
  | _ => False
theorem or_is : OpR X (compareOp .Is) (rO oIs) := by
  intro pins s σ H x y v u Q I rx ry ⟨F, d, e, Qd, ex, r1, r2, o, c⟩
  cases e <;> first | exact o.elim | skip
  · cases r2
    refine op_isN pins s σ H _ _ v u Q I rx ry ⟨rfl, ?_⟩
    have : decide (x = V.non) = d.isNon := by
      cases r1 <;> first | rfl | simp
    rw [this]
    exact c F H _ _ (Grow.refl ex) (.bl _) o
  · rename_i b
    cases r2
    cases (show u = Value.bool b from ry)
    cases r1 with
    | non => cases (show v = Value.none from rx); exact wpAny_is_other rfl (fun z => nomatch z) ⟨.bl false, H, I, rfl, c F H _ _ (Grow.refl ex) (.bl _) o⟩
    | bl a =>
      cases (show v = Value.bool a from rx)
      have o : Qd (.bl (a == b)) := o
      by_cases e : a = b
      · subst e
        exact wpAny_is_self rfl ⟨.bl true, H, I, rfl, c F H _ _ (Grow.refl ex) (.bl _) (by simpa using o)⟩
      · exact wpAny_is_other rfl (fun z => e (Value.bool.inj z)) ⟨.bl false, H, I, rfl, c F H _ _ (Grow.refl ex) (.bl _) (by rw [beq_eq_false_iff_ne.mpr e] at o; exact o)⟩
    | int i => obtain ⟨t, rfl⟩ := rx; exact wpAny_is_other rfl (fun z => nomatch z) ⟨.bl false, H, I, rfl, c F H _ _ (Grow.refl ex) (.bl _) o⟩
    | str z => obtain ⟨t, rfl⟩ := rx; exact wpAny_is_other rfl (fun z => nomatch z) ⟨.bl false, H, I, rfl, c F H _ _ (Grow.refl ex) (.bl _) o⟩
    | lst h q z => cases (show v = Value.ref _ from rx); exact wpAny_is_other rfl (fun z => nomatch z) ⟨.bl false, H, I, rfl, c F H _ _ (Grow.refl ex) (.bl _) o⟩
    | tup h q z => cases (show v = Value.ref _ from rx); exact wpAny_is_other rfl (fun z => nomatch z) ⟨.bl false, H, I, rfl, c F H _ _ (Grow.refl ex) (.bl _) o⟩
    | dK h q => cases (show v = Value.ref _ from rx); exact wpAny_is_other rfl (fun z => nomatch z) ⟨.bl false, H, I, rfl, c F H _ _ (Grow.refl ex) (.bl _) o⟩
    | dT h q => cases (show v = Value.ref _ from rx); exact wpAny_is_other rfl (fun z => nomatch z) ⟨.bl false, H, I, rfl, c F H _ _ (Grow.refl ex) (.bl _) o⟩
    | dKf h q => cases (show v = Value.ref _ from rx); exact wpAny_is_other rfl (fun z => nomatch z) ⟨.bl false, H, I, rfl, c F H _ _ (Grow.refl ex) (.bl _) o⟩
    | dTf h q => cases (show v = Value.ref _ from rx); exact wpAny_is_other rfl (fun z => nomatch z) ⟨.bl false, H, I, rfl, c F H _ _ (Grow.refl ex) (.bl _) o⟩
    | ins h q => cases (show v = Value.ref _ from rx); exact wpAny_is_other rfl (fun z => nomatch z) ⟨.bl false, H, I, rfl, c F H _ _ (Grow.refl ex) (.bl _) o⟩
    | scr a ns => cases (show v = Value.ref _ from rx); exact wpAny_is_other rfl (fun z => nomatch z) ⟨.bl false, H, I, rfl, c F H _ _ (Grow.refl ex) (.bl _) o⟩
theorem or_isN : OpR X (compareOp .IsNot) (rO oIsN) := by
  intro pins s σ H x y v u Q I rx ry ⟨F, d, e, Qd, ex, r1, r2, o, c⟩
  cases e <;> first | exact o.elim | skip
  · cases r2
    refine op_notN pins s σ H _ _ v u Q I rx ry ⟨rfl, ?_⟩
    have : (!decide (x = V.non)) = !d.isNon := by
      cases r1 <;> first | rfl | simp
    rw [this]
    exact c F H _ _ (Grow.refl ex) (.bl _) o
  · rename_i b
    cases r2
    cases (show u = Value.bool b from ry)
    cases r1 with
    | non => cases (show v = Value.none from rx); exact wpAny_isNot_other rfl (fun z => nomatch z) ⟨.bl true, H, I, rfl, c F H _ _ (Grow.refl ex) (.bl _) o⟩
    | bl a =>
      cases (show v = Value.bool a from rx)
      have o : Qd (.bl (!(a == b))) := o
      by_cases e : a = b
      · subst e
        exact wpAny_isNot_self rfl ⟨.bl false, H, I, rfl, c F H _ _ (Grow.refl ex) (.bl _) (by simpa using o)⟩
      · exact wpAny_isNot_other rfl (fun z => e (Value.bool.inj z)) ⟨.bl true, H, I, rfl, c F H _ _ (Grow.refl ex) (.bl _) (by rw [beq_eq_false_iff_ne.mpr e] at o; exact o)⟩
    | int i => obtain ⟨t, rfl⟩ := rx; exact wpAny_isNot_other rfl (fun z => nomatch z) ⟨.bl true, H, I, rfl, c F H _ _ (Grow.refl ex) (.bl _) o⟩
    | str z => obtain ⟨t, rfl⟩ := rx; exact wpAny_isNot_other rfl (fun z => nomatch z) ⟨.bl true, H, I, rfl, c F H _ _ (Grow.refl ex) (.bl _) o⟩
    | lst h q z => cases (show v = Value.ref _ from rx); exact wpAny_isNot_other rfl (fun z => nomatch z) ⟨.bl true, H, I, rfl, c F H _ _ (Grow.refl ex) (.bl _) o⟩
    | tup h q z => cases (show v = Value.ref _ from rx); exact wpAny_isNot_other rfl (fun z => nomatch z) ⟨.bl true, H, I, rfl, c F H _ _ (Grow.refl ex) (.bl _) o⟩
    | dK h q => cases (show v = Value.ref _ from rx); exact wpAny_isNot_other rfl (fun z => nomatch z) ⟨.bl true, H, I, rfl, c F H _ _ (Grow.refl ex) (.bl _) o⟩
    | dT h q => cases (show v = Value.ref _ from rx); exact wpAny_isNot_other rfl (fun z => nomatch z) ⟨.bl true, H, I, rfl, c F H _ _ (Grow.refl ex) (.bl _) o⟩
    | dKf h q => cases (show v = Value.ref _ from rx); exact wpAny_isNot_other rfl (fun z => nomatch z) ⟨.bl true, H, I, rfl, c F H _ _ (Grow.refl ex) (.bl _) o⟩
    | dTf h q => cases (show v = Value.ref _ from rx); exact wpAny_isNot_other rfl (fun z => nomatch z) ⟨.bl true, H, I, rfl, c F H _ _ (Grow.refl ex) (.bl _) o⟩
    | ins h q => cases (show v = Value.ref _ from rx); exact wpAny_isNot_other rfl (fun z => nomatch z) ⟨.bl true, H, I, rfl, c F H _ _ (Grow.refl ex) (.bl _) o⟩
    | scr a ns => cases (show v = Value.ref _ from rx); exact wpAny_isNot_other rfl (fun z => nomatch z) ⟨.bl true, H, I, rfl, c F H _ _ (Grow.refl ex) (.bl _) o⟩
end
end DL

namespace DL
open PySem PySem.Spec PyProof.Rows L2
/-! ### data as the library's data; == -/
mutual
def D.py : D → PyData
  | .non => .none
  | .bl b => .bool b
  | .int i => .int i
  | .str l => .str (S l)
  | .lst xs => .list (pys xs)
  | .tup xs => .tuple (pys xs)
  | .dic _ _ _ => .dict []
  | .ins _ _ => .dict []
  | .scr _ _ => .dict []
def pys : List D → List PyData
  | [] => []
  | x :: xs => x.py :: pys xs
end
mutual
/-- no dict and no instance within -/
def D.pl : D → Bool
  | .dic _ _ _ => false
  | .ins _ _ => false
  | .scr _ _ => false
  | .lst xs => pls xs
  | .tup xs => pls xs
  | _ => true
def pls : List D → Bool
  | [] => true
  | x :: xs => x.pl && pls xs
end
mutual
/-- how deep -/
def D.dep : D → Nat
  | .lst xs => deps xs + 1
  | .tup xs => deps xs + 1
  | _ => 0
def deps : List D → Nat
  | [] => 0
  | x :: xs => max x.dep (deps xs)
end
mutual
/-- a == b -/
def D.eq : D → D → Bool
  | .non, .non => true
  | .bl a, .bl b => a == b
  | .bl a, .int j => (if a then 1 else 0) == j
  | .int i, .bl b => i == (if b then 1 else 0)
  | .int i, .int j => i == j
  | .str x, .str y => x == y
  | .lst x, .lst y => eqs x y
  | .tup x, .tup y => eqs x y
  | _, _ => false
def eqs : List D → List D → Bool
  | [], [] => true
  | x :: xs, y :: ys => x.eq y && eqs xs ys
  | _, _ => false
end
mutual
theorem pl_plain : ∀ d : D, d.pl = true → d.py.plain = true
  | .non, _ => rfl
  | .bl _, _ => rfl
  | .int _, _ => rfl
  | .str _, _ => rfl
  | .lst xs, h => pls_plain xs h
  | .tup xs, h => pls_plain xs h
  | .dic _ _ _, h => by cases h
  | .ins _ _, h => by cases h
  | .scr _ _, h => by cases h
theorem pls_plain : ∀ ds : List D, pls ds = true → PyData.plainAll (pys ds) = true
  | [], _ => rfl
  | x :: xs, h => by
    simp only [pls, Bool.and_eq_true] at h
    simp only [pys, PyData.plainAll, pl_plain x h.1, pls_plain xs h.2, Bool.and_self]
end
mutual
theorem dep_py : ∀ d : D, d.py.depth ≤ d.dep + 1
  | .non => Nat.zero_le _
  | .bl _ => Nat.zero_le _
  | .int _ => Nat.zero_le _
  | .str _ => Nat.zero_le _
  | .lst xs => by
    show PyData.depthAll (pys xs) + 1 ≤ deps xs + 1 + 1
    have := deps_py xs
    omega
  | .tup xs => by
    show PyData.depthAll (pys xs) + 1 ≤ deps xs + 1 + 1
    have := deps_py xs
    omega
  | .dic _ _ _ => by show 0 + 1 ≤ _; simp [D.dep]
  | .ins _ _ => by show 0 + 1 ≤ _; simp [D.dep]
  | .scr _ _ => by show 0 + 1 ≤ _; simp [D.dep]
theorem deps_py : ∀ ds : List D, PyData.depthAll (pys ds) ≤ deps ds + 1
  | [] => Nat.zero_le _
  | x :: xs => by
    show max x.py.depth (PyData.depthAll (pys xs)) ≤ max x.dep (deps xs) + 1
    have := dep_py x
    have := deps_py xs
    omega
end
theorem S_beq (x y : List Nat) : (S x == S y) = (x == y) := by
  by_cases h : x = y
  · subst h; simp
  · rw [beq_eq_false_iff_ne.mpr h]
    refine beq_eq_false_iff_ne.mpr fun e => h ?_
    have := congrArg (fun z : Str => z.cps.toList) e
    simpa [S] using this
mutual
theorem eq_py : ∀ a b : D, a.pl = true → b.pl = true → PyData.eqv a.py b.py = a.eq b
  | .non, b, _, hb => by cases b <;> first | rfl | cases hb
  | .bl x, b, _, hb => by cases b <;> first | rfl | cases hb
  | .int x, b, _, hb => by cases b <;> first | rfl | cases hb
  | .str x, b, _, hb => by
    cases b <;> first | rfl | cases hb | skip
    exact S_beq _ _
  | .lst xs, b, ha, hb => by
    cases b <;> first | rfl | cases hb | skip
    exact eqs_py _ _ ha hb
  | .tup xs, b, ha, hb => by
    cases b <;> first | rfl | cases hb | skip
    exact eqs_py _ _ ha hb
  | .dic _ _ _, _, h, _ => by cases h
  | .ins _ _, _, h, _ => by cases h
  | .scr _ _, _, h, _ => by cases h
theorem eqs_py : ∀ xs ys : List D, pls xs = true → pls ys = true → PyData.eqvAll (pys xs) (pys ys) = eqs xs ys
  | [], [], _, _ => rfl
  | [], y :: ys, _, _ => rfl
  | x :: xs, [], _, _ => rfl
  | x :: xs, y :: ys, h1, h2 => by
    simp only [pls, Bool.and_eq_true] at h1 h2
    show (PyData.eqv x.py y.py && PyData.eqvAll (pys xs) (pys ys)) = (x.eq y && eqs xs ys)
    rw [eq_py x y h1.1 h2.1, eqs_py xs ys h1.2 h2.2]
end
mutual
theorem Rep.dp {K : PySem.W.Frag} {F H : Hp} (ex : Ex F H) : ∀ {v : V} {d : D}, Rep F v d → d.pl = true → Dp K H v d.py
  | _, _, .non, _ => .non
  | _, _, .bl b, _ => .bl b
  | _, _, .int i, _ => .int i
  | _, _, .str z, _ => .str _
  | _, _, .lst h r z, p => .lst (.of (ex _ _ h)) (Reps.dp ex r p)
  | _, _, .tup h r z, p => .tup (.of (ex _ _ h)) (Reps.dp ex r p)
  | _, _, .dK _ _, p => absurd p (by simp [D.pl])
  | _, _, .dT _ _, p => absurd p (by simp [D.pl])
  | _, _, .dKf _ _, p => absurd p (by simp [D.pl])
  | _, _, .dTf _ _, p => absurd p (by simp [D.pl])
  | _, _, .ins _ _, p => absurd p (by simp [D.pl])
  | _, _, .scr _ _, p => absurd p (by simp [D.pl])
theorem Reps.dp {K : PySem.W.Frag} {F H : Hp} (ex : Ex F H) : ∀ {v : List V} {d : List D}, Reps F v d → pls d = true → DpAll K H v (pys d)
  | _, _, .nil, _ => .nil
  | _, _, .cons r t, p => by
    simp only [pls, Bool.and_eq_true] at p
    exact .cons (Rep.dp ex r p.1) (Reps.dp ex t p.2)
end
def oEq : DOp := fun d e K => d.pl = true ∧ e.pl = true ∧ (d.dep ≤ 50 ∨ e.dep ≤ 50) ∧ K (.bl (d.eq e))
def oNe : DOp := fun d e K => d.pl = true ∧ e.pl = true ∧ (d.dep ≤ 50 ∨ e.dep ≤ 50) ∧ K (.bl (!d.eq e))
section
variable {X : Cx} {e a b c lo hi : Expr} {es : List Expr} {pos p p2 : Pos} {da db dc : DTE} {daa : DTA} {x : Str} {o : DFn} {k : Nat}
theorem or_eq (hr : Room k X.A) : OpR X (compareOp .Eq) (rO oEq) := by
  intro pins s σ H x y v u Q I rx ry ⟨F, d, e, Qd, ex, r1, r2, ⟨p1, p2, hd, o⟩, c⟩
  obtain ⟨as, q1⟩ := Dp.reads I d.py x v (r1.dp ex p1) rx
  obtain ⟨bs, q2⟩ := Dp.reads I e.py y u (r2.dp ex p2) ry
  have h1 := dep_py d
  have h2 := dep_py e
  have h3 := hr.units
  refine SeqAt.eq_plain q1 q2 (pl_plain d p1) (pl_plain e p2) (by omega) ⟨.bl _, H, I, rfl, ?_⟩
  rw [eq_py d e p1 p2]
  exact c F H _ _ (Grow.refl ex) (.bl _) o
theorem or_ne (hr : Room k X.A) : OpR X (compareOp .NotEq) (rO oNe) := by
  intro pins s σ H x y v u Q I rx ry ⟨F, d, e, Qd, ex, r1, r2, ⟨p1, p2, hd, o⟩, c⟩
  obtain ⟨as, q1⟩ := Dp.reads I d.py x v (r1.dp ex p1) rx
  obtain ⟨bs, q2⟩ := Dp.reads I e.py y u (r2.dp ex p2) ry
  have h1 := dep_py d
  have h2 := dep_py e
  have h3 := hr.units
  refine SeqAt.ne_plain q1 q2 (pl_plain d p1) (pl_plain e p2) (by omega) ⟨.bl _, H, I, rfl, ?_⟩
  rw [eq_py d e p1 p2]
  exact c F H _ _ (Grow.refl ex) (.bl _) o

/-! ### more built-ins -/
def oInt : DFn := fun ds K => match ds with
  | [d] => match d with
    | .int i => K (.int i)
    | .bl b => K (.int (if b then 1 else 0))
    | _ => False
  | _ => False
theorem cr_int : CallR X (.type "int") (rC oInt) := by
  intro pins s σ H xs us Q I rv ⟨F, ds, Qd, ex, r, o, c⟩
  match ds, r, o with
  | [d], r, o =>
    cases r with
    | cons r t =>
      cases t
      cases d <;> first | exact o.elim | skip
      · cases r; exact call_int1 pins s σ H _ us Q I rv (.inr ⟨_, rfl, c F H _ _ (Grow.refl ex) (.int _) o⟩)
      · cases r; exact call_int1 pins s σ H _ us Q I rv (.inl ⟨_, rfl, c F H _ _ (Grow.refl ex) (.int _) o⟩)
def oOrd : DFn := fun ds K => match ds with
  | [d] => match d with
    | .str [n] => K (.int (n : Int))
    | _ => False
  | _ => False
theorem cr_ord : CallR X (.builtin "ord") (rC oOrd) := by
  intro pins s σ H xs us Q I rv ⟨F, ds, Qd, ex, r, o, c⟩
  match ds, r, o with
  | [d], r, o =>
    cases r with
    | cons r t =>
      cases t
      cases d <;> first | exact o.elim | skip
      rename_i l
      match l, r, o with
      | [n], r, o =>
      cases r
      exact call_ord pins s σ H _ us Q I rv ⟨_, rfl, rfl, c F H _ _ (Grow.refl ex) (.int _) o⟩
def oAbs : DFn := fun ds K => match ds with
  | [d] => match d with
    | .int i => K (.int (if i < 0 then -i else i))
    | _ => False
  | _ => False
theorem cr_abs : CallR X (.builtin "abs") (rC oAbs) := by
  intro pins s σ H xs us Q I rv ⟨F, ds, Qd, ex, r, o, c⟩
  match ds, r, o with
  | [d], r, o =>
    cases r with
    | cons r t =>
      cases t
      cases d <;> first | exact o.elim | skip
      cases r
      exact call_abs pins s σ H _ us Q I rv ⟨_, rfl, c F H _ _ (Grow.refl ex) (.int _) o⟩
def oMax2 : DFn := fun ds K => match ds with
  | [d, e] => match d, e with
    | .int i, .int j => K (.int (max i j))
    | _, _ => False
  | _ => False
def oMin2 : DFn := fun ds K => match ds with
  | [d, e] => match d, e with
    | .int i, .int j => K (.int (min i j))
    | _, _ => False
  | _ => False
theorem cr_max2 (hc : X.calm = true) : CallR X (.builtin "max") (rC oMax2) := by
  intro pins s σ H xs us Q I rv ⟨F, ds, Qd, ex, r, o, c⟩
  match ds, r, o with
  | [d, e], r, o =>
    cases r with
    | cons r t =>
      cases t with
      | cons r2 t =>
        cases t
        cases d <;> first | exact o.elim | skip
        cases e <;> first | exact o.elim | skip
        rename_i i j
        cases r
        cases r2
        refine call_max2 hc pins s σ H _ us Q I rv ⟨_, _, rfl, ?_⟩
        have : (if j > i then j else i) = max i j := by omega
        rw [this]
        exact c F H _ _ (Grow.refl ex) (.int _) o
theorem cr_min2 (hc : X.calm = true) : CallR X (.builtin "min") (rC oMin2) := by
  intro pins s σ H xs us Q I rv ⟨F, ds, Qd, ex, r, o, c⟩
  match ds, r, o with
  | [d, e], r, o =>
    cases r with
    | cons r t =>
      cases t with
      | cons r2 t =>
        cases t
        cases d <;> first | exact o.elim | skip
        cases e <;> first | exact o.elim | skip
        rename_i i j
        cases r
        cases r2
        refine call_min2 hc pins s σ H _ us Q I rv ⟨_, _, rfl, ?_⟩
        have : (if j < i then j else i) = min i j := by omega
        rw [this]
        exact c F H _ _ (Grow.refl ex) (.int _) o
def boolsOf : List D → Option (List Bool)
  | [] => some []
  | .bl b :: r => (boolsOf r).map (b :: ·)
  | _ => none
theorem reps_bools {F : Hp} : ∀ {vs : List V} {ds : List D} {bs : List Bool}, Reps F vs ds → boolsOf ds = some bs → vs = bs.map V.bl
  | _, _, _, .nil, h => by cases h; rfl
  | _, .bl b :: r, bs, .cons q t, h => by
    simp only [boolsOf] at h
    cases hb : boolsOf r with
    | none => rw [hb] at h; cases h
    | some cs =>
      rw [hb] at h
      cases h
      cases q
      rw [reps_bools t hb]
      rfl
def intsOf : List D → Option (List Int)
  | [] => some []
  | .int b :: r => (intsOf r).map (b :: ·)
  | _ => none
theorem reps_ints {F : Hp} : ∀ {vs : List V} {ds : List D} {bs : List Int}, Reps F vs ds → intsOf ds = some bs → vs = bs.map V.int
  | _, _, _, .nil, h => by cases h; rfl
  | _, .int b :: r, bs, .cons q t, h => by
    simp only [intsOf] at h
    cases hb : intsOf r with
    | none => rw [hb] at h; cases h
    | some cs =>
      rw [hb] at h
      cases h
      cases q
      rw [reps_ints t hb]
      rfl
def strsOf : List D → Option (List (List Nat))
  | [] => some []
  | .str b :: r => (strsOf r).map (b :: ·)
  | _ => none
theorem reps_strs {F : Hp} : ∀ {vs : List V} {ds : List D} {bs : List (List Nat)}, Reps F vs ds → strsOf ds = some bs → vs = (bs.map S).map V.str
  | _, _, _, .nil, h => by cases h; rfl
  | _, .str b :: r, bs, .cons q t, h => by
    simp only [strsOf] at h
    cases hb : strsOf r with
    | none => rw [hb] at h; cases h
    | some cs =>
      rw [hb] at h
      cases h
      cases q
      rw [reps_strs t hb]
      rfl
def oAny : DFn := fun ds K => match ds with
  | [d] => match d with
    | .lst xs => match boolsOf xs with
      | some bs => K (.bl (bs.any id))
      | none => False
    | _ => False
  | _ => False
def oAll : DFn := fun ds K => match ds with
  | [d] => match d with
    | .lst xs => match boolsOf xs with
      | some bs => K (.bl (bs.all id))
      | none => False
    | _ => False
  | _ => False
def oSum : DFn := fun ds K => match ds with
  | [d] => match d with
    | .lst xs => match intsOf xs with
      | some bs => K (.int bs.sum)
      | none => False
    | _ => False
  | _ => False
theorem cr_any' (hc : X.calm = true) : CallR X (.builtin "any") (rC oAny) := by
  intro pins s σ H xs us Q I rv ⟨F, ds, Qd, ex, r, o, c⟩
  match ds, r, o with
  | [d], r, o =>
    cases r with
    | cons r t =>
      cases t
      cases d <;> first | exact o.elim | skip
      rename_i xs
      cases r with
      | lst h q z =>
        cases hb : boolsOf xs with
        | none => simp only [oAny, hb] at o
        | some bs =>
          simp only [oAny, hb] at o
          refine cr_any hc pins s σ H _ us Q I rv ⟨_, bs, rfl, ?_, c F H _ _ (Grow.refl ex) (.bl _) o⟩
          rw [← reps_bools q hb]
          exact .of (ex _ _ h)
theorem cr_all' (hc : X.calm = true) : CallR X (.builtin "all") (rC oAll) := by
  intro pins s σ H xs us Q I rv ⟨F, ds, Qd, ex, r, o, c⟩
  match ds, r, o with
  | [d], r, o =>
    cases r with
    | cons r t =>
      cases t
      cases d <;> first | exact o.elim | skip
      rename_i xs
      cases r with
      | lst h q z =>
        cases hb : boolsOf xs with
        | none => simp only [oAll, hb] at o
        | some bs =>
          simp only [oAll, hb] at o
          refine cr_all hc pins s σ H _ us Q I rv ⟨_, bs, rfl, ?_, c F H _ _ (Grow.refl ex) (.bl _) o⟩
          rw [← reps_bools q hb]
          exact .of (ex _ _ h)
theorem cr_sum' (hc : X.calm = true) : CallR X (.builtin "sum") (rC oSum) := by
  intro pins s σ H xs us Q I rv ⟨F, ds, Qd, ex, r, o, c⟩
  match ds, r, o with
  | [d], r, o =>
    cases r with
    | cons r t =>
      cases t
      cases d <;> first | exact o.elim | skip
      rename_i xs
      cases r with
      | lst h q z =>
        cases hb : intsOf xs with
        | none => simp only [oSum, hb] at o
        | some bs =>
          simp only [oSum, hb] at o
          refine cr_sum hc pins s σ H _ us Q I rv ⟨_, bs, rfl, ?_, c F H _ _ (Grow.refl ex) (.int _) o⟩
          rw [← reps_ints q hb]
          exact .of (ex _ _ h)
/-- list(xs): a new one -/
def oList : DFn := fun ds K => match ds with
  | [d] => match d with
    | .lst xs => K (.lst xs)
    | .tup xs => K (.lst xs)
    | _ => False
  | _ => False
theorem cr_list : CallR X (.type "list") (rCF oList) := by
  intro pins s σ H xs us Q I rv ⟨F, ds, Qd, ex, r, o, c⟩
  match ds, r, o with
  | [d], r, o =>
    cases r with
    | cons r t =>
      cases t
      cases d <;> first | exact o.elim | skip
      · cases r with
        | lst h q z => exact call_list_of pins s σ H _ us Q I rv ⟨_, _, rfl, .inl (.of (ex _ _ h)), fun l hl => c F _ l (.lst _) (Grow.laid ex hl) ⟨ex.none hl, ⟨_, upd_same, q⟩, z⟩ hl o⟩
      · cases r with
        | tup h q z => exact call_list_of pins s σ H _ us Q I rv ⟨_, _, rfl, .inr (.of (ex _ _ h)), fun l hl => c F _ l (.lst _) (Grow.laid ex hl) ⟨ex.none hl, ⟨_, upd_same, q⟩, z⟩ hl o⟩
def oTuple : DFn := fun ds K => match ds with
  | [d] => match d with
    | .lst xs => K (.tup xs)
    | .tup xs => K (.tup xs)
    | _ => False
  | _ => False
theorem cr_tuple : CallR X (.type "tuple") (rC oTuple) := by
  intro pins s σ H xs us Q I rv ⟨F, ds, Qd, ex, r, o, c⟩
  match ds, r, o with
  | [d], r, o =>
    cases r with
    | cons r t =>
      cases t
      cases d <;> first | exact o.elim | skip
      · cases r with
        | @lst a vs _ h q z =>
          refine call_tuple_of pins s σ H _ us Q I rv ⟨_, _, rfl, .inl ⟨.of (ex _ _ h), fun l hl => ?_⟩⟩
          have G := Grow.alloc (o := .tup vs) ex hl
          exact c _ _ _ _ G (.tup upd_same (q.mono G.exF) z) o
      · cases r with
        | tup h q z => exact call_tuple_of pins s σ H _ us Q I rv ⟨_, _, rfl, .inr ⟨.of (ex _ _ h), c F H _ _ (Grow.refl ex) (.tup h q z) o⟩⟩
/-- sep.join(xs) -/
def itemsLT : D → Option (List D)
  | .lst xs => some xs
  | .tup xs => some xs
  | _ => none
def dJoin (da db : DTE) : DTE := fun ρ Q => da ρ fun d ρ1 => match d with
  | .str l => db ρ1 fun e ρ2 => match (itemsLT e).bind strsOf with
    | some ys => (ys.map (·.length)).sum + ys.length * l.length ≤ 16777216 ∧ Q (.str (TL.joinL l ys)) ρ2
    | none => False
  | _ => False
theorem joinL_len (l : List Nat) : ∀ ys : List (List Nat), (TL.joinL l ys).length ≤ (ys.map (·.length)).sum + ys.length * l.length
  | [] => Nat.zero_le _
  | [x] => by simp [TL.joinL]
  | x :: y :: r => by
    have h := joinL_len l (y :: r)
    show (x ++ (l ++ TL.joinL l (y :: r))).length ≤ _
    simp only [List.length_append, List.map_cons, List.sum_cons, List.length_cons] at h ⊢
    have e : (r.length + 1 + 1) * l.length = (r.length + 1) * l.length + l.length := by rw [Nat.succ_mul]
    omega
theorem join_S' (a : List Nat) (ys : List (List Nat)) : Txt.join (S a) (ys.map S) = S (TL.joinL a ys) := by
  have h1 : ∀ zs : List (List Nat), zs.map S = zs.map (fun l => (⟨l.toArray⟩ : Str)) := fun _ => rfl
  exact SX.join_S a ys
theorem de_join {apos : Pos} (ha : PE X a (tE da)) (hb : PE X b (tE db)) (hs : starEach [b] X.env = [(false, eval b X.env)] := by rfl) (hbase : attributeBase a "join" X.env (eval a X.env) = eval a X.env := by rfl) (hline : (apos.endLine == pos.line) = true := by rfl) :
    PE X (.Call (.Attribute a "join" apos) [b] [] pos) (tE (dJoin da db)) := by
  have hp := pe_join ha hb hs hbase hline (pos := pos) (apos := apos)
  refine pe_imp hp fun σ H Q ⟨g, F, ρ, Qd, k, h, c⟩ => ?_
  refine ⟨g, F, ρ, _, k, h, fun F1 H1 ρ1 v d k1 e1 r1 h1 => ?_⟩
  cases d <;> first | exact h1.elim | skip
  rename_i l
  cases r1
  refine ⟨⟨_, rfl⟩, g, F1, ρ1, _, k1, h1, fun F2 H2 ρ2 w e k2 e2 r2 h2 => ?_⟩
  cases hx : (itemsLT e).bind strsOf with
  | none => rw [hx] at h2; exact h2.elim
  | some ys =>
    rw [hx] at h2
    obtain ⟨hz, h2⟩ := h2
    have hl : ((ys.map S).map (·.length)).sum + (ys.map S).length * (S l).length ≤ 16777216 := by
      rw [List.map_map, List.length_map]
      exact hz
    have hr : Rep F2 (.str (Txt.join (S l) (ys.map S))) (.str (TL.joinL l ys)) := by
      rw [join_S']
      exact .str (Nat.le_trans (joinL_len l ys) hz)
    have fin := c F2 H2 ρ2 _ _ k2 (e1.trans e2) hr h2
    cases e <;> first | (cases hx; done) | skip
    · cases r2 with
      | lst h q z =>
        refine ⟨S l, _, ys.map S, rfl, rfl, .inl ?_, hl, fin⟩
        rw [← reps_strs q hx]
        exact .of (k2.ex _ _ h)
    · cases r2 with
      | tup h q z =>
        refine ⟨S l, _, ys.map S, rfl, rfl, .inr ?_, hl, fin⟩
        rw [← reps_strs q hx]
        exact .of (k2.ex _ _ h)
/-- tuple(range(..)), list(range(..)) -/
abbrev DTR := Env → (Int → Int → Env → Prop) → Prop
def tR (dr : DTR) : L2.St → Hp → (Int → Int → Hp → Prop) → Prop := fun σ H Q => ∃ g F ρ Qd, EOk g F σ H ρ ∧ dr ρ Qd ∧ ∀ F' H' ρ' i j, EOk g F' σ H' ρ' → Ex F F' → Qd i j ρ' → Q i j H'
def dRg1 (de : DTE) : DTR := fun ρ Q => de ρ fun d ρ' => match d with
  | .int n => Q 0 n ρ'
  | _ => False
def dRg2 (da db : DTE) : DTR := fun ρ Q => da ρ fun d ρ1 => db ρ1 fun e ρ2 => match d, e with
  | .int i, .int j => Q i j ρ2
  | _, _ => False
theorem prg_imp {t t' : L2.St → Hp → (Int → Int → Hp → Prop) → Prop} (h : PRg X e t) (i : ∀ σ H Q, t' σ H Q → t σ H Q) : PRg X e t' := fun pins s σ H Q I q => h pins s σ H Q I (i σ H Q q)
theorem drg_1 (hg : Gl X "range") (hm : X.mg "range" = none) (ha : PE X a (tE da)) (na : starEach [a] X.env = (false, eval a X.env) :: starEach [] X.env := by rfl) : PRg X (.Call (.Name "range" p) [a] [] pos) (tR (dRg1 da)) :=
  prg_imp (prg_1 hg hm ha na) fun σ H Q ⟨g, F, ρ, Qd, k, h, c⟩ => ⟨g, F, ρ, _, k, h, fun F1 H1 ρ1 v d k1 e1 r1 h1 => by
    cases d <;> first | exact h1.elim | skip
    cases r1
    exact ⟨_, rfl, c F1 H1 ρ1 _ _ k1 e1 h1⟩⟩
theorem drg_2 (hg : Gl X "range") (hm : X.mg "range" = none) (ha : PE X a (tE da)) (hb : PE X b (tE db)) (na : starEach [a, b] X.env = (false, eval a X.env) :: starEach [b] X.env := by rfl)
    (nb : starEach [b] X.env = (false, eval b X.env) :: starEach [] X.env := by rfl) (hp : (backTo pos (starEach [b] X.env)).any (·.1) = false := by rfl) : PRg X (.Call (.Name "range" p) [a, b] [] pos) (tR (dRg2 da db)) :=
  prg_imp (prg_2 hg hm ha hb na nb hp) fun σ H Q ⟨g, F, ρ, Qd, k, h, c⟩ => ⟨g, F, ρ, _, k, h, fun F1 H1 ρ1 v d k1 e1 r1 h1 => ⟨g, F1, ρ1, _, k1, h1, fun F2 H2 ρ2 w e k2 e2 r2 h2 => by
    cases d <;> first | exact h2.elim | skip
    cases e <;> first | exact h2.elim | skip
    cases r1
    cases r2
    exact ⟨_, _, rfl, rfl, c F2 H2 ρ2 _ _ k2 (e1.trans e2) h2⟩⟩⟩
def dTupRg (dr : DTR) : DTE := fun ρ Q => dr ρ fun i j ρ' => RgOk i j ∧ Q (.tup (rangeD i (j - i).toNat)) ρ'
def dLstRg (dr : DTR) : DTX := fun ρ Q => dr ρ fun i j ρ' => RgOk i j ∧ Q (.ow (.lst (rangeD i (j - i).toNat))) ρ'
theorem reps_map {F : Hp} {α : Type} {f : α → V} {h : α → D} (r : ∀ a, Rep F (f a) (h a)) : ∀ xs : List α, Reps F (xs.map f) (xs.map h)
  | [] => .nil
  | x :: xs => .cons (r x) (reps_map r xs)
theorem reps_rg {F : Hp} {i j : Int} : Reps F (rgV i j) (rangeD i (j - i).toNat) := reps_map (fun _ => .int _) _
theorem de_tupRg {dr : DTR} (hc : X.calm = true) (hm : X.mg "tuple" = none) (he : PRg X e (tR dr)) (hg : Gl X "tuple" := by rfl) (na : starEach [e] X.env = (false, eval e X.env) :: starEach [] X.env := by rfl) : PE X (.Call (.Name "tuple" p) [e] [] pos) (tE (dTupRg dr)) :=
  pe_imp (pe_tupRg hc hg hm he na) fun σ H Q ⟨g, F, ρ, Qd, k, h, c⟩ => ⟨g, F, ρ, _, k, h, fun F1 H1 ρ1 i j k1 e1 ⟨ok, h1⟩ => ⟨ok, fun q hq => by
    have G := Grow.alloc (o := .tup (rgV i j)) k1.ex hq
    exact c _ _ ρ1 _ _ (k1.grow G) (e1.trans G.exF) (.tup upd_same reps_rg (by rw [rangeD_length]; exact ok.2.2.2.2)) h1⟩⟩
theorem dx_lstRg {dr : DTR} (hc : X.calm = true) (hm : X.mg "list" = none) (he : PRg X e (tR dr)) (hg : Gl X "list" := by rfl) (na : starEach [e] X.env = (false, eval e X.env) :: starEach [] X.env := by rfl) : PE X (.Call (.Name "list" p) [e] [] pos) (tX (dLstRg dr)) :=
  pe_imp (pe_listRg hc hg hm he na) fun σ H Q ⟨g, F, ρ, Qd, k, h, c⟩ => ⟨g, F, ρ, _, k, h, fun F1 H1 ρ1 i j k1 e1 ⟨ok, h1⟩ => ⟨ok, fun q hq => by
    obtain ⟨k2, t⟩ := k1.newOw (o := .lst (rgV i j)) (d := .lst (rangeD i (j - i).toNat)) hq ⟨k1.ex.none hq, ⟨_, upd_same, reps_rg⟩, by rw [rangeD_length]; exact ok.2.2.2.2⟩
    exact c _ _ ρ1 _ _ k2 e1 t h1⟩⟩
end
end DL

namespace DL
open PySem PySem.Spec PyProof.Rows L2

/-! ### enumerate, zip over lists, tuples, texts -/
inductive Src where
  | lst (a : Addr) (vs : List V) | tup (a : Addr) (vs : List V) | txt (x : Str) (t : Tok)
def Src.vals : Src → List V
  | .lst _ vs => vs
  | .tup _ vs => vs
  | .txt x _ => x.cps.toList.map fun c => .str ⟨#[c]⟩
def Src.At (H : Hp) : Src → Prop
  | .lst a vs => H a = some (.lst vs)
  | .tup a vs => H a = some (.tup vs)
  | .txt _ _ => True
def Src.itr : Src → Addr → Nat → Heap → Prop
  | .lst a _, it, i, h => h.IsListIter it a i
  | .tup a _, it, i, h => h.IsTupleIter it a i
  | .txt x t, it, i, h => h.IsStrIter it (strIterType x) x t i
def Src.fp : Src → List Addr
  | .lst a _ => [a]
  | .tup a _ => [a]
  | .txt _ _ => []
def Src.v : Src → Value
  | .lst a _ => .ref a
  | .tup a _ => .ref a
  | .txt x t => .str x t
theorem Src.At.mono {H H' : Hp} (e : Ex H H') : ∀ {sr : Src}, sr.At H → sr.At H'
  | .lst _ _, h => e _ _ h
  | .tup _ _, h => e _ _ h
  | .txt _ _, _ => trivial
theorem Src.itr_keep {it : Addr} {i : Nat} {h h' : Heap} (k : ∀ o, h.get? it = some o → h'.get? it = some o) : ∀ {sr : Src}, sr.itr it i h → sr.itr it i h'
  | .lst _ _, st => Heap.IsListIter.at st k
  | .tup _ _, st => Heap.IsTupleIter.at st k
  | .txt _ _, st => let ⟨o, ho, r⟩ := st; ⟨o, k o ho, r⟩
theorem Src.itr_obj {it : Addr} {i : Nat} {h : Heap} : ∀ {sr : Src}, sr.itr it i h → ∃ o, h.get? it = some o ∧ ∀ v, o.data ≠ .cell v
  | .lst _ _, ⟨o, ho, _, d⟩ => ⟨o, ho, fun v z => by rw [d] at z; cases z⟩
  | .tup _ _, ⟨o, ho, _, d⟩ => ⟨o, ho, fun v z => by rw [d] at z; cases z⟩
  | .txt _ _, ⟨o, ho, _, d⟩ => ⟨o, ho, fun v z => by rw [d] at z; cases z⟩
structure Src.Dr (P : Program) (w : World) (A : Around) (sr : Src) (it : Addr) (h : Heap) (Pn : Nat → Value → Prop) (C : Heap → Prop) : Prop where
  dr : Draws P w A it (it :: sr.fp) sr.vals.length Pn (fun i h => sr.itr it i h ∧ C h)
  now : C h
  rel : ∀ i u, Pn i u → ∃ v, sr.vals[i]? = some v ∧ RelV v u
  lt : ∀ b ∈ sr.fp, b < h.objs.size
section
variable {X : Cx} {pins : List (Addr × Obj)} {σ : L2.St} {H : Hp} {s : Shared}
theorem Src.draws (I : Inv X pins σ H s) {A : Around} (hh : A.handled = none) (it : Addr) : ∀ {sr : Src}, sr.At H → (it ∉ sr.fp) → ∃ Pn C, sr.Dr X.prog X.w A it s.heap Pn C
  | .lst a vs, ha, hn => by
    obtain ⟨its, rv, p, hz⟩ := I.list (xs := vs) (.of ha)
    have hl := rv.length
    refine ⟨fun i v => its.toArray[i]? = some v, fun h => h.IsList a its.toArray, ⟨?_, p.isList, fun i u hu => ?_, fun b hb => ?_⟩⟩
    · have D := Draws.list (prog := X.prog) (w := X.w) hh it a (fun e => hn (by rw [e]; exact List.mem_cons_self ..)) its.toArray
      have e : its.toArray.size = (Src.lst a vs).vals.length := by rw [List.size_toArray, ← hl]; rfl
      rw [e] at D
      exact D
    · obtain ⟨hi, e⟩ := Array.getElem?_eq_some_iff.mp hu
      have hi' : i < vs.length := by rw [hl]; simpa using hi
      obtain ⟨u2, h2, r2⟩ := rv.get (List.getElem?_eq_getElem hi')
      refine ⟨_, List.getElem?_eq_getElem hi', ?_⟩
      have : its.toArray[i]? = some u2 := by simpa using h2
      rw [hu] at this
      cases this
      exact r2
    · have : b = a := by simpa [Src.fp] using hb
      rw [this]; exact p.lt
  | .tup a vs, ha, hn => by
    obtain ⟨its, rv, p, hz⟩ := I.tuple (xs := vs) (.of ha)
    have hl := rv.length
    refine ⟨fun i v => its.toArray[i]? = some v, fun h => h.IsTuple a its.toArray, ⟨?_, p, fun i u hu => ?_, fun b hb => ?_⟩⟩
    · have D := Draws.tuple (prog := X.prog) (w := X.w) hh it a (fun e => hn (by rw [e]; exact List.mem_cons_self ..)) its.toArray
      have e : its.toArray.size = (Src.tup a vs).vals.length := by rw [List.size_toArray, ← hl]; rfl
      rw [e] at D
      exact D
    · obtain ⟨hi, e⟩ := Array.getElem?_eq_some_iff.mp hu
      have hi' : i < vs.length := by rw [hl]; simpa using hi
      obtain ⟨u2, h2, r2⟩ := rv.get (List.getElem?_eq_getElem hi')
      refine ⟨_, List.getElem?_eq_getElem hi', ?_⟩
      have : its.toArray[i]? = some u2 := by simpa using h2
      rw [hu] at this
      cases this
      exact r2
    · have : b = a := by simpa [Src.fp] using hb
      obtain ⟨o, ho, _⟩ := id p
      rw [this]; exact Heap.lt_size ho
  | .txt x t, ha, hn => by
    refine ⟨fun i v => ∃ c u, x.cps[i]? = some c ∧ v = .str ⟨#[c]⟩ u, fun _ => True, ⟨?_, trivial, fun i u hu => ?_, fun b hb => by cases hb⟩⟩
    · have D := Draws.text (prog := X.prog) (w := X.w) hh it x t
      have e : x.cps.size = (Src.txt x t).vals.length := by simp [Src.vals]
      rw [e] at D
      exact ⟨fun i h st => D.live i h st.1, fun i h h' st k => ⟨D.frame i h h' st.1 k, trivial⟩, fun i s Q E hi st q => D.item i s Q E hi st.1 fun x h' tk p st' sb => q x h' tk p ⟨st', trivial⟩ sb, fun s Q E st q => D.done s Q E st.1 q⟩
    · obtain ⟨c, t2, hc, e⟩ := hu
      subst e
      refine ⟨.str ⟨#[c]⟩, ?_, ⟨t2, rfl⟩⟩
      show (x.cps.toList.map _)[i]? = _
      rw [List.getElem?_map, Array.getElem?_toList, hc] <;> rfl
/-- what a source's iterator is at first -/
def Src.o : Src → Obj
  | .lst a _ => { cls := .type "list_iterator", data := .fields #[.ref a, .int 0 0] }
  | .tup a _ => { cls := .type "tuple_iterator", data := .fields #[.ref a, .int 0 0] }
  | .txt x t => { cls := .type (strIterType x), data := .fields #[.str x t, .int 0 0] }
theorem Src.begins (I : Inv X pins σ H s) : ∀ {sr : Src}, sr.At H → ∃ C, Begins sr.v sr.o C ∧ C s.heap
  | .lst a vs, ha => by
    obtain ⟨its, rv, p, hz⟩ := I.list (xs := vs) (.of ha)
    exact ⟨_, begins_list a its.toArray, p.isList⟩
  | .tup a vs, ha => by
    obtain ⟨its, rv, p, hz⟩ := I.tuple (xs := vs) (.of ha)
    exact ⟨_, begins_tuple a its.toArray, p⟩
  | .txt x t, ha => ⟨_, begins_text x t, trivial⟩
theorem Src.itr0 {it : Addr} {h : Heap} : ∀ {sr : Src}, h.get? it = some sr.o → sr.itr it 0 h
  | .lst _ _, e => ⟨_, e, rfl, rfl⟩
  | .tup _ _, e => ⟨_, e, rfl, rfl⟩
  | .txt _ _, e => ⟨_, e, rfl, rfl⟩
end
/-- zip -/
def Iz (s1 s2 : Src) : It :=
  ⟨fun i H => s1.At H ∧ s2.At H ∧ i < min s1.vals.length s2.vals.length,
    fun i H v H' => ∃ T x y, v = .ref T ∧ H T = none ∧ H' = upd H T (.tup [x, y]) ∧ s1.vals[i]? = some x ∧ s2.vals[i]? = some y,
    fun i H => s1.At H ∧ s2.At H ∧ i = min s1.vals.length s2.vals.length⟩
theorem turn_iz {P : Program} {w : World} {K : PySem.W.Frag} {elts : List Expr} {kk : Nat} {tpos : Pos} {s1 s2 : Src} {N : Nat} (l1 : ∀ b ∈ s1.fp, b < N) (l2 : ∀ b ∈ s2.fp, b < N) :
    Turn P w K (.Tuple elts kk tpos) (Iz s1 s2) [N + 4, N + 2, N + 3, N, N + 1] (N + 4) (fun i h => IsZip h (N + 4) (N + 2) (N + 3) .none ∧ IsTupOf2 h (N + 2) (.ref N) (.ref (N + 1)) ∧ (∃ x y, IsTupOf2 h (N + 3) x y) ∧ s1.itr N i h ∧ s2.itr (N + 1) i h) where
  mem := by simp
  obj := fun i h st c hc => by
    obtain ⟨hz, hTI, ⟨x, y, hTO⟩, h1, h2⟩ := st
    have e' : c = N + 4 ∨ c = N + 2 ∨ c = N + 3 ∨ c = N ∨ c = N + 1 := by simpa using hc
    rcases e' with q | q | q | q | q
    · rw [q]; exact ⟨_, hz, fun v q => nomatch q⟩
    · rw [q]; exact ⟨_, hTI, fun v q => nomatch q⟩
    · rw [q]; exact ⟨_, hTO, fun v q => nomatch q⟩
    · rw [q]; exact Src.itr_obj h1
    · rw [q]; exact Src.itr_obj h2
  keep := fun i h h' st k => by
    obtain ⟨hz, hTI, ⟨x, y, hTO⟩, h1, h2⟩ := st
    exact ⟨k _ (by simp) _ hz, k _ (by simp) _ hTI, ⟨x, y, k _ (by simp) _ hTO⟩, Src.itr_keep (k _ (by simp)) h1, Src.itr_keep (k _ (by simp)) h2⟩
  item := by
    intro X hP hw hK hc i pins s σ H E I hf st hg
    subst hP hw hK
    obtain ⟨hz, hTI, ⟨x0, y0, hTO⟩, h1, h2⟩ := st
    obtain ⟨a1, a2, hlt⟩ := hg
    have hhd : X.A.in1.handled = none := I.ok.hd hc
    obtain ⟨P1, C1, D1⟩ := Src.draws I (A := X.A.in1) hhd N a1 (fun z => Nat.lt_irrefl _ (l1 _ z))
    obtain ⟨P2, C2, D2⟩ := Src.draws I (A := X.A.in1) hhd (N + 1) a2 (fun z => by have := l2 _ z; exact absurd this (Nat.not_lt.mpr (Nat.le_succ N)))
    have W := WalksT.zipD2 (zip_sep2 l1 l2) D1.dr D2.dr
    refine W.item i s _ _ hlt ⟨hz, hTI, ⟨x0, y0, hTO⟩, ⟨h1, D1.now⟩, ⟨h2, D2.now⟩⟩ fun T vals h' tk ⟨u1, u2, p1, p2, ev⟩ hT isT mid kk => ?_
    subst ev
    refine ⟨_, rfl, W.go elts _ tpos i T { s with heap := h', toks := tk } _ _ mid fun h'' ⟨z'', TI'', TO'', ⟨i1'', _⟩, ⟨i2'', _⟩⟩ k2 => ?_⟩
    obtain ⟨v1, q1, r1⟩ := D1.rel i u1 p1
    obtain ⟨v2, q2, r2⟩ := D2.rel i u2 p2
    have nT := W.apart i T h' mid
    obtain ⟨o, ho, hcl, nn, hd⟩ := isT
    have hT2 : h''.get? T = some o := k2 T o nT ho
    have new : ObjOk X.prog X.w (upd H T (.tup [v1, v2])) h'' T (.tup [v1, v2]) :=
      ⟨by show 2 ≤ sizeLine; decide, [u1, u2], .cons r1 (.cons r2 .nil), ⟨o, hT2, hcl, nn, hd⟩⟩
    have I1 : Inv X pins σ (upd H T (.tup [v1, v2])) { s with heap := h'', toks := tk } :=
      I.turnedNew (ch := [N + 4, N + 2, N + 3, N, N + 1]) (fun c o hb q => by
        have nb : c ∉ [N + 4, N + 3, N, N + 1] := fun z => hb (by
          have : c = N + 4 ∨ c = N + 3 ∨ c = N ∨ c = N + 1 := by simpa using z
          rcases this with e | e | e | e <;> simp [e])
        exact k2 c o nb (kk c o nb q)) hf hT new
    refine ⟨.ref T, _, I1, rfl, ⟨T, v1, v2, rfl, I.hok.fresh hT, rfl, q1, q2⟩, ⟨z'', TI'', TO'', i1'', i2''⟩, fun c hcm => ?_⟩
    have hlt2 : c < s.heap.objs.size := by
      have e' : c = N + 4 ∨ c = N + 2 ∨ c = N + 3 ∨ c = N ∨ c = N + 1 := by simpa using hcm
      rcases e' with q | q | q | q | q
      · rw [q]; exact Heap.lt_size hz
      · rw [q]; exact Heap.lt_size hTI
      · rw [q]; exact Heap.lt_size hTO
      · rw [q]; obtain ⟨_, e1, _⟩ := Src.itr_obj h1; exact Heap.lt_size e1
      · rw [q]; obtain ⟨_, e1, _⟩ := Src.itr_obj h2; exact Heap.lt_size e1
    rw [upd_ne (Nat.ne_of_lt (Nat.lt_of_lt_of_le hlt2 hT))]
    exact (hf c hcm).1
  done := by
    intro X hP hw hK hc i pins s σ H E I hf st hg
    subst hP hw hK
    obtain ⟨hz, hTI, ⟨x0, y0, hTO⟩, h1, h2⟩ := st
    obtain ⟨a1, a2, hi⟩ := hg
    have hhd : X.A.in1.handled = none := I.ok.hd hc
    obtain ⟨P1, C1, D1⟩ := Src.draws I (A := X.A.in1) hhd N a1 (fun z => Nat.lt_irrefl _ (l1 _ z))
    obtain ⟨P2, C2, D2⟩ := Src.draws I (A := X.A.in1) hhd (N + 1) a2 (fun z => by have := l2 _ z; exact absurd this (Nat.not_lt.mpr (Nat.le_succ N)))
    have W := WalksT.zipD2 (zip_sep2 l1 l2) D1.dr D2.dr
    rw [hi] at h1 h2
    exact W.done s _ _ ⟨hz, hTI, ⟨x0, y0, hTO⟩, ⟨h1, D1.now⟩, ⟨h2, D2.now⟩⟩ fun h' tk kk => ⟨rfl, I.turnedL (t' := tk) (ch := [N + 4, N + 2, N + 3, N, N + 1]) (fun c o hb q => by
      have nb : c ∉ [N + 4, N + 3, N, N + 1] := fun z => hb (by
        have : c = N + 4 ∨ c = N + 3 ∨ c = N ∨ c = N + 1 := by simpa using z
        rcases this with e | e | e | e <;> simp [e])
      exact kk c o nb q) hf⟩
  self := fun A i s Q E st h => wpAny_pyIter_zip st.1 h
/-- enumerate -/
def In (k : Int) (s1 : Src) : It :=
  ⟨fun i H => s1.At H ∧ i < s1.vals.length,
    fun i H v H' => ∃ T x, v = .ref T ∧ H T = none ∧ H' = upd H T (.tup [.int (k + (i : Nat)), x]) ∧ s1.vals[i]? = some x,
    fun i H => s1.At H ∧ i = s1.vals.length⟩
theorem turn_in {P : Program} {w : World} {K : PySem.W.Frag} {elts : List Expr} {kk : Nat} {tpos : Pos} {s1 : Src} {N : Nat} {k : Int} (l1 : ∀ b ∈ s1.fp, b < N) :
    Turn P w K (.Tuple elts kk tpos) (In k s1) [N + 1, N] (N + 1) (fun i h => (∃ old, IsEnum h (N + 1) N (k + (i : Int)) old) ∧ s1.itr N i h) where
  mem := by simp
  obj := fun i h st c hc => by
    obtain ⟨⟨old, hz⟩, h1⟩ := st
    have e' : c = N + 1 ∨ c = N := by simpa using hc
    rcases e' with q | q
    · rw [q]; exact ⟨_, hz, fun v q => nomatch q⟩
    · rw [q]; exact Src.itr_obj h1
  keep := fun i h h' st k => by
    obtain ⟨⟨old, hz⟩, h1⟩ := st
    exact ⟨⟨old, k _ (by simp) _ hz⟩, Src.itr_keep (k _ (by simp)) h1⟩
  item := by
    intro X hP hw hK hc i pins s σ H E I hf st hg
    subst hP hw hK
    obtain ⟨⟨old, hz⟩, h1⟩ := st
    obtain ⟨a1, hlt⟩ := hg
    have hhd : X.A.in1.handled = none := I.ok.hd hc
    obtain ⟨P1, C1, D1⟩ := Src.draws I (A := X.A.in1) hhd N a1 (fun z => Nat.lt_irrefl _ (l1 _ z))
    have ne : (N + 1 : Nat) ≠ N := Nat.succ_ne_self N
    have W := WalksT.enumFrom k D1.dr (N + 1) ne (fun z => by
      rcases List.mem_cons.mp z with e | z
      · exact ne e
      · exact absurd (l1 _ z) (Nat.not_lt.mpr (Nat.le_succ N))) (List.mem_cons_self ..)
    refine W.item i s _ _ hlt ⟨⟨old, hz⟩, ⟨h1, D1.now⟩⟩ fun T vals h' tk ⟨t1, u1, p1, ev⟩ hT isT mid kk => ?_
    subst ev
    refine ⟨_, rfl, W.go elts _ tpos i T { s with heap := h', toks := tk } _ _ mid fun h'' ⟨z'', ⟨i1'', _⟩⟩ k2 => ?_⟩
    obtain ⟨v1, q1, r1⟩ := D1.rel i u1 p1
    have nT := W.apart i T h' mid
    obtain ⟨o, ho, hcl, nn, hd⟩ := isT
    have hT2 : h''.get? T = some o := k2 T o nT ho
    have new : ObjOk X.prog X.w (upd H T (.tup [.int (k + (i : Nat)), v1])) h'' T (.tup [.int (k + (i : Nat)), v1]) :=
      ⟨by show 2 ≤ sizeLine; decide, [.int (k + (i : Nat)) t1, u1], .cons ⟨_, rfl⟩ (.cons r1 .nil), ⟨o, hT2, hcl, nn, hd⟩⟩
    have I1 : Inv X pins σ (upd H T (.tup [.int (k + (i : Nat)), v1])) { s with heap := h'', toks := tk } :=
      I.turnedNew (ch := [N + 1, N]) (fun c o hb q => k2 c o hb (kk c o hb q)) hf hT new
    refine ⟨.ref T, _, I1, rfl, ⟨T, v1, rfl, I.hok.fresh hT, rfl, q1⟩, ⟨z'', i1''⟩, fun c hcm => ?_⟩
    have hlt2 : c < s.heap.objs.size := by
      have e' : c = N + 1 ∨ c = N := by simpa using hcm
      rcases e' with q | q
      · rw [q]; exact Heap.lt_size hz
      · rw [q]; obtain ⟨_, e1, _⟩ := Src.itr_obj h1; exact Heap.lt_size e1
    rw [upd_ne (Nat.ne_of_lt (Nat.lt_of_lt_of_le hlt2 hT))]
    exact (hf c hcm).1
  done := by
    intro X hP hw hK hc i pins s σ H E I hf st hg
    subst hP hw hK
    obtain ⟨⟨old, hz⟩, h1⟩ := st
    obtain ⟨a1, hi⟩ := hg
    have hhd : X.A.in1.handled = none := I.ok.hd hc
    obtain ⟨P1, C1, D1⟩ := Src.draws I (A := X.A.in1) hhd N a1 (fun z => Nat.lt_irrefl _ (l1 _ z))
    have ne : (N + 1 : Nat) ≠ N := Nat.succ_ne_self N
    have W := WalksT.enumFrom k D1.dr (N + 1) ne (fun z => by
      rcases List.mem_cons.mp z with e | z
      · exact ne e
      · exact absurd (l1 _ z) (Nat.not_lt.mpr (Nat.le_succ N))) (List.mem_cons_self ..)
    subst hi
    exact W.done s _ _ ⟨⟨old, hz⟩, ⟨h1, D1.now⟩⟩ fun h' tk kk => ⟨rfl, I.turnedL (t' := tk) (ch := [N + 1, N]) (fun c o hb q => kk c o hb q) hf⟩
  self := fun A i s Q E st h => let ⟨⟨_, he⟩, _⟩ := st; wpAny_pyIter_enum he h

theorem meets_enum1 {v : Value} {o : Obj} {H : Heap → Prop} (B : Begins v o H) :
    Meets (Builtin.«enumerate.__new__» ⟨[.type "enumerate", v], []⟩) (fun _ R s => H s.heap ∧
      R (.ok (.ret (.ref (s.heap.push o).objs.size))) { s with heap := (s.heap.push o).push { cls := .type "enumerate", data := .fields #[.none, .bool false, .ref s.heap.objs.size, rawInt 0, .none, .none] } }) :=
  .of_wp fun prog w A R s h => by
    obtain ⟨hp, g, d, tk, os⟩ := s; obtain ⟨h1, h⟩ := h
    have hsub := sub_enumerate
    have q1 : ∀ {A' : Around} {E : Value → Shared → Prop} {Q : Value → Shared → Prop}, Q (.ref hp.objs.size) ⟨hp.push o, g, d, tk, os⟩ → wpAny (model prog w) A' (pyIter v) Q E ⟨hp, g, d, tk, os⟩ :=
      fun q => B.iter prog w _ _ ⟨hp, g, d, tk, os⟩ _ h1 q
    wp_walk using q1
    refine wpAny_stack_any fun st => wpAny_pure ?_
    split
    · rename_i c _ _ _ _ _
      cases (c == Value.type "enumerate")
      · wp_walk using q1
        exact ⟨_, rfl, h⟩
      · wp_walk using q1
        exact ⟨_, rfl, h⟩
    · wp_walk using q1
      exact ⟨_, rfl, h⟩
theorem enum_begins1 {prog : Program} {w : World} {A : Around} {E : Value → Shared → Prop} {s : Shared} {v : Value} {o : Obj} {H : Heap → Prop} {Q : Value → Shared → Prop} (B : Begins v o H) (h1 : H s.heap)
    (h : ∀ h', IsEnum h' (s.heap.objs.size + 1) s.heap.objs.size 0 .none → h'.get? s.heap.objs.size = some o → h'.objs.size = s.heap.objs.size + 2 →
      (∀ b o, s.heap.get? b = some o → h'.get? b = some o) → Q (.ref (s.heap.objs.size + 1)) { s with heap := h' }) :
    wpAny (model prog w) A (call (.type "enumerate") [v]) Q E s := by
  refine callType_new F.called_enumerate (by decide) (F.typeCall_enumerate_1 _) (F.newCall_enumerate_1 _) (fun obj => F.args_object_init_2 obj _) F.entry_enumerate_new
    (meets_enum1 B) ⟨h1, ?_⟩
  have hz : (s.heap.push o).objs.size = s.heap.objs.size + 1 := Heap.size_push ..
  show _ ∧ _
  rw [hz]
  have he : IsEnum ((s.heap.push o).push { cls := .type "enumerate", data := .fields #[.none, .bool false, .ref s.heap.objs.size, rawInt 0, .none, .none] }) (s.heap.objs.size + 1) s.heap.objs.size 0 .none := by
    have := Heap.get?_push_size (s.heap.push o) (o := { cls := .type "enumerate", data := .fields #[.none, .bool false, .ref s.heap.objs.size, rawInt 0, .none, .none] }) rfl
    rw [hz] at this; exact this
  refine ⟨⟨_, he, rfl⟩, h _ he (Heap.get?_push_of_some _ (Heap.get?_push_size _ B.free)) (by rw [Heap.size_push, hz]) fun b o x => Heap.get?_push_of_some _ (Heap.get?_push_of_some _ x)⟩

/-! ### .. over data -/
def pairsD (xs ys : List D) : List D := (List.zip xs ys).map fun p => .tup [p.1, p.2]
def enumD (k : Int) (xs : List D) : List D := xs.mapIdx fun i x => .tup [.int (k + ((i : Nat) : Int)), x]
def dZip (da : DTA) : DTI := fun ρ Q => da ρ fun ds ρ' => match ds with
  | [d, e] => match itemsOf d, itemsOf e with
    | some xs, some ys => Q (pairsD xs ys) ρ'
    | _, _ => False
  | _ => False
def dEnum (da : DTA) : DTI := fun ρ Q => da ρ fun ds ρ' => match ds with
  | [d] => match itemsOf d with
    | some xs => Q (enumD 0 xs) ρ'
    | none => False
  | [d, .int k] => match itemsOf d with
    | some xs => -(2 ^ 63) ≤ k ∧ k < 2 ^ 63 ∧ Q (enumD k xs) ρ'
    | none => False
  | _ => False
/-- a value that is walked is a source -/
theorem src_of {F H : Hp} {v : V} {u : Value} {d : D} {xs : List D} (e : Ex F H) (r : Rep F v d) (rv : RelV v u) (hx : itemsOf d = some xs) : ∃ sr : Src, sr.v = u ∧ sr.At F ∧ xs.length ≤ sizeLine ∧ sr.vals.length = xs.length ∧ ∀ (i : Nat) (x : D), xs[i]? = some x → ∃ w, sr.vals[i]? = some w ∧ Rep F w x := by
  cases d <;> first | (cases hx; done) | skip
  · rename_i l
    cases hx
    cases r with
    | str z =>
      obtain ⟨t, rfl⟩ := rv
      refine ⟨.txt (S l) t, rfl, trivial, by rw [List.length_map]; exact z, by simp [Src.vals, S], fun i x hx => ?_⟩
      rw [List.getElem?_map] at hx
      cases hl : l[i]? with
      | none => rw [hl] at hx; cases hx
      | some n =>
        rw [hl] at hx
        cases hx
        refine ⟨.str ⟨#[n]⟩, ?_, .str (l := [n]) (by show 1 ≤ 16777216; decide)⟩
        show (l.toArray.toList.map _)[i]? = _
        rw [List.getElem?_map, hl] <;> rfl
  · cases hx
    cases r with
    | @lst a vs _ h1 r z =>
      cases rv
      exact ⟨.lst a vs, rfl, h1, z, r.length, fun i x hx => r.get hx⟩
  · cases hx
    cases r with
    | @tup a vs _ h1 r z =>
      cases rv
      exact ⟨.tup a vs, rfl, h1, z, r.length, fun i x hx => r.get hx⟩
theorem itd_zip {F : Hp} {s1 s2 : Src} {xs ys : List D} (a1 : s1.At F) (a2 : s2.At F) (l1 : s1.vals.length = xs.length) (l2 : s2.vals.length = ys.length) (z : xs.length ≤ sizeLine) (r1 : ∀ (i : Nat) (x : D), xs[i]? = some x → ∃ w, s1.vals[i]? = some w ∧ Rep F w x) (r2 : ∀ (i : Nat) (x : D), ys[i]? = some x → ∃ w, s2.vals[i]? = some w ∧ Rep F w x) : ItD F (Iz s1 s2) (pairsD xs ys) := by
  have hl : (pairsD xs ys).length = min xs.length ys.length := by simp [pairsD]
  refine ⟨by rw [hl]; omega, fun i H x ex hx => ?_, fun H ex => ⟨a1.mono ex, a2.mono ex, by rw [hl, l1, l2]⟩⟩
  have hi : i < (pairsD xs ys).length := (List.getElem?_eq_some_iff.mp hx).1
  refine ⟨⟨a1.mono ex, a2.mono ex, by rw [l1, l2, ← hl]; exact hi⟩, fun v H2 ⟨T, x', y', ev, hT, eH, q1, q2⟩ => .inr (.inl ?_)⟩
  have h1 : i < xs.length := by omega
  have h2 : i < ys.length := by omega
  obtain ⟨w1, e1, p1⟩ := r1 i xs[i] (List.getElem?_eq_getElem h1)
  obtain ⟨w2, e2, p2⟩ := r2 i ys[i] (List.getElem?_eq_getElem h2)
  rw [q1] at e1; cases e1
  rw [q2] at e2; cases e2
  refine ⟨T, [x', y'], [xs[i], ys[i]], hT, eH, ev, (Reps.cons p1 (.cons p2 .nil)), ?_, by show 2 ≤ 16777216; decide⟩
  have : (pairsD xs ys)[i]? = some (.tup [xs[i], ys[i]]) := by
    unfold pairsD
    have e : (List.zip xs ys)[i]? = some (xs[i], ys[i]) := List.getElem?_zip_eq_some.mpr ⟨List.getElem?_eq_getElem h1, List.getElem?_eq_getElem h2⟩
    rw [List.getElem?_map, e] <;> rfl
  rw [this] at hx
  cases hx
  rfl
theorem itd_enum {F : Hp} {s1 : Src} {k : Int} {xs : List D} (a1 : s1.At F) (l1 : s1.vals.length = xs.length) (z : xs.length ≤ sizeLine) (r1 : ∀ (i : Nat) (x : D), xs[i]? = some x → ∃ w, s1.vals[i]? = some w ∧ Rep F w x) : ItD F (In k s1) (enumD k xs) := by
  have hl : (enumD k xs).length = xs.length := by simp [enumD]
  refine ⟨by rw [hl]; exact z, fun i H x ex hx => ?_, fun H ex => ⟨a1.mono ex, by rw [hl, l1]⟩⟩
  have hi : i < (enumD k xs).length := (List.getElem?_eq_some_iff.mp hx).1
  refine ⟨⟨a1.mono ex, by rw [l1, ← hl]; exact hi⟩, fun v H2 ⟨T, x', ev, hT, eH, q1⟩ => .inr (.inl ?_)⟩
  have h1 : i < xs.length := by omega
  obtain ⟨w1, e1, p1⟩ := r1 i xs[i] (List.getElem?_eq_getElem h1)
  rw [q1] at e1; cases e1
  refine ⟨T, _, [.int (k + ((i : Nat) : Int)), xs[i]], hT, eH, ev, (Reps.cons (.int _) (.cons p1 .nil)), ?_, by show 2 ≤ 16777216; decide⟩
  have : (enumD k xs)[i]? = some (.tup [.int (k + ((i : Nat) : Int)), xs[i]]) := by
    unfold enumD
    rw [List.getElem?_mapIdx, List.getElem?_eq_getElem h1] <;> rfl
  rw [this] at hx
  cases hx
  rfl
section
variable {X : Cx} {a b : Expr} {pos : Pos} {da : DTA} {p tpos : Pos} {elts : List Expr} {kk : Nat}
theorem di_zip (hg : Gl X "zip") (hm : X.mg "zip" = none) (ha : PA X [a, b] (tA da))
    (hs : starEach [a, b] X.env = (false, eval a X.env) :: starEach [b] X.env := by rfl) (hpl : (backTo pos (starEach [b] X.env)).any (·.1) = false := by rfl) :
    PI X (.Tuple elts kk tpos) (.Call (.Name "zip" p) [a, b] [] pos) (tI (dZip da)) := by
  refine ⟨fun pins s σ H R I ⟨g, F, ρ, Qd, k, h, c⟩ => ?_⟩
  refine Call_ (ld_blt I hg hm PyProof.Rows.boot_zip (PyProof.Rows.callWith_type1 (thn (ha.run pos pins s σ H (fun vs H1 => ∃ F1 ρ1 d e xs ys, EOk g F1 σ H1 ρ1 ∧ Ex F F1 ∧ Reps F1 vs [d, e] ∧ itemsOf d = some xs ∧ itemsOf e = some ys ∧ Qd (pairsD xs ys) ρ1) I ⟨g, F, ρ, _, k, h, fun F1 H1 ρ1 vs ds k1 e1 r1 q => ?_⟩) fun us s1 ⟨vs, H1, I1, rr, q1⟩ => ?_) hs hpl))
  · match ds, q, r1 with
    | [d, e], q, r1 =>
      cases h1 : itemsOf d with
      | none => simp only [h1] at q
      | some xs =>
        cases h2 : itemsOf e with
        | none => simp only [h1, h2] at q
        | some ys =>
          simp only [h1, h2] at q
          exact ⟨F1, ρ1, d, e, xs, ys, k1, e1, r1, h1, h2, q⟩
  · obtain ⟨F1, ρ1, d, e, xs, ys, k1, e1, r1, h1, h2, q⟩ := q1
    cases r1 with
    | cons ra r1 =>
      cases r1 with
      | cons rb r1 =>
        cases r1
        cases rr with
        | cons rv rr =>
          cases rr with
          | cons rw' rr =>
            cases rr
            obtain ⟨S1, ev1, a1, z1, l1, g1⟩ := src_of k1.ex ra rv h1
            obtain ⟨S2, ev2, a2, z2, l2, g2⟩ := src_of k1.ex rb rw' h2
            subst ev1 ev2
            have lt : ∀ {sr : Src}, sr.At H1 → ∀ b ∈ sr.fp, b < s1.heap.objs.size := fun {sr} ha b hb => by
              cases sr with
              | lst a vs =>
                obtain ⟨its, rv, p, hz⟩ := I1.list (xs := vs) (.of ha)
                have : b = a := by simpa [Src.fp] using hb
                rw [this]; exact p.lt
              | tup a vs =>
                obtain ⟨its, rv, p, hz⟩ := I1.tuple (xs := vs) (.of ha)
                have : b = a := by simpa [Src.fp] using hb
                obtain ⟨o, ho, _⟩ := id p
                rw [this]; exact Heap.lt_size ho
              | txt x t => cases hb
            obtain ⟨C1, B1, c1⟩ := Src.begins I1 (a1.mono k1.ex)
            obtain ⟨C2, B2, c2⟩ := Src.begins I1 (a2.mono k1.ex)
            refine zip_begins2 B1 B2 c1 c2 fun h' hz hTI hTO hi1 hi2 hsz hk => wpAny_pyIter_zip hz ?_
            have I2 : Inv X pins σ H1 { s1 with heap := h' } := I1.kept (t' := s1.toks) hk
            have fresh5 : ∀ c, c ∈ [s1.heap.objs.size + 4, s1.heap.objs.size + 2, s1.heap.objs.size + 3, s1.heap.objs.size, s1.heap.objs.size + 1] → FpOk X pins H1 c := fun c hcm => by
              have e' : c = s1.heap.objs.size + 4 ∨ c = s1.heap.objs.size + 2 ∨ c = s1.heap.objs.size + 3 ∨ c = s1.heap.objs.size ∨ c = s1.heap.objs.size + 1 := by simpa using hcm
              have hle : s1.heap.objs.size ≤ c := by
                rcases e' with z | z | z | z | z
                · rw [z]; exact Nat.le_add_right _ _
                · rw [z]; exact Nat.le_add_right _ _
                · rw [z]; exact Nat.le_add_right _ _
                · rw [z]; exact Nat.le_refl _
                · rw [z]; exact Nat.le_add_right _ _
              exact I1.fpOk hle (I1.hok.fresh hle)
            exact ⟨s1.heap.objs.size + 4, [s1.heap.objs.size + 4, s1.heap.objs.size + 2, s1.heap.objs.size + 3, s1.heap.objs.size, s1.heap.objs.size + 1], _, _, H1, rfl, I2, turn_iz (N := s1.heap.objs.size) (lt (a1.mono k1.ex)) (lt (a2.mono k1.ex)), ⟨hz, hTI, ⟨_, _, hTO⟩, Src.itr0 hi1, Src.itr0 hi2⟩, fresh5, c F1 H1 ρ1 _ _ k1 e1 (itd_zip a1 a2 l1 l2 z1 g1 g2) q⟩
theorem enum_end {pins : List (Addr × Obj)} {σ : L2.St} {H1 F1 F : Hp} {s1 : Shared} {R : It → Hp → Prop} {g : Gd} {ρ1 : Env} {Qd : List D → Env → Prop} {k : Int} {xs : List D} {S1 : Src} (I1 : Inv X pins σ H1 s1) (k1 : EOk g F1 σ H1 ρ1) (e1 : Ex F F1)
    (c : ∀ F' H' ρ' J items, EOk g F' σ H' ρ' → Ex F F' → ItD F' J items → Qd items ρ' → R J H') (a1 : S1.At F1) (z1 : xs.length ≤ sizeLine) (l1 : S1.vals.length = xs.length) (g1 : ∀ (i : Nat) (x : D), xs[i]? = some x → ∃ w, S1.vals[i]? = some w ∧ Rep F1 w x) (q : Qd (enumD k xs) ρ1)
    {h' : Heap} (he : IsEnum h' (s1.heap.objs.size + 1) s1.heap.objs.size k .none) (hi : h'.get? s1.heap.objs.size = some S1.o) (hk : ∀ b o, s1.heap.get? b = some o → h'.get? b = some o) :
    wpAny (model X.prog X.w) X.A (pyIter (.ref (s1.heap.objs.size + 1))) (PIE X pins σ (.Tuple elts kk tpos) R) X.xe { s1 with heap := h' } := by
  refine wpAny_pyIter_enum he ?_
  have I2 : Inv X pins σ H1 { s1 with heap := h' } := I1.kept (t' := s1.toks) hk
  have lt : ∀ b ∈ S1.fp, b < s1.heap.objs.size := fun b hb => by
    have ha := a1.mono k1.ex
    cases S1 with
    | lst a vs =>
      obtain ⟨its, rv, p, hz⟩ := I1.list (xs := vs) (.of ha)
      have : b = a := by simpa [Src.fp] using hb
      rw [this]; exact p.lt
    | tup a vs =>
      obtain ⟨its, rv, p, hz⟩ := I1.tuple (xs := vs) (.of ha)
      have : b = a := by simpa [Src.fp] using hb
      obtain ⟨o, ho, _⟩ := id p
      rw [this]; exact Heap.lt_size ho
    | txt x t => cases hb
  refine ⟨s1.heap.objs.size + 1, [s1.heap.objs.size + 1, s1.heap.objs.size], _, _, H1, rfl, I2, turn_in (N := s1.heap.objs.size) (k := k) lt, ⟨⟨.none, ?_⟩, Src.itr0 hi⟩, fun b hb => ?_, c F1 H1 ρ1 _ _ k1 e1 (itd_enum a1 l1 z1 g1) q⟩
  · have e0 : k + ((0 : Nat) : Int) = k := by simp
    show IsEnum h' _ _ (k + ((0 : Nat) : Int)) _
    rw [e0]; exact he
  · have e' : b = s1.heap.objs.size + 1 ∨ b = s1.heap.objs.size := by simpa using hb
    have hle : s1.heap.objs.size ≤ b := by
      rcases e' with z | z
      · rw [z]; exact Nat.le_add_right _ _
      · rw [z]; exact Nat.le_refl _
    exact I1.fpOk hle (I1.hok.fresh hle)
theorem di_enum (hg : Gl X "enumerate") (hm : X.mg "enumerate" = none) {es : List Expr} (ha : PA X (a :: es) (tA da)) (hs : starEach (a :: es) X.env = (false, eval a X.env) :: starEach es X.env := by rfl) (hpl : (backTo pos (starEach es X.env)).any (·.1) = false := by rfl) :
    PI X (.Tuple elts kk tpos) (.Call (.Name "enumerate" p) (a :: es) [] pos) (tI (dEnum da)) := by
  refine ⟨fun pins s σ H R I ⟨g, F, ρ, Qd, k, h, c⟩ => ?_⟩
  refine Call_ (ld_blt I hg hm boot_enumerate (PyProof.Rows.callWith_type1 (thn (ha.run pos pins s σ H (fun vs H1 => ∃ F1 ρ1 d xs, EOk g F1 σ H1 ρ1 ∧ Ex F F1 ∧ itemsOf d = some xs ∧ ((Reps F1 vs [d] ∧ Qd (enumD 0 xs) ρ1) ∨ ∃ k0, Reps F1 vs [d, .int k0] ∧ -(2 ^ 63) ≤ k0 ∧ k0 < 2 ^ 63 ∧ Qd (enumD k0 xs) ρ1)) I ⟨g, F, ρ, _, k, h, fun F1 H1 ρ1 vs ds k1 e1 r1 q => ?_⟩) fun us s1 ⟨vs, H1, I1, rr, q1⟩ => ?_) hs hpl))
  · match ds, q, r1 with
    | [d], q, r1 =>
      cases h1 : itemsOf d with
      | none => simp only [h1] at q
      | some xs =>
        simp only [h1] at q
        exact ⟨F1, ρ1, d, xs, k1, e1, h1, .inl ⟨r1, q⟩⟩
    | [d, .int k0], q, r1 =>
      cases h1 : itemsOf d with
      | none => simp only [h1] at q
      | some xs =>
        simp only [h1] at q
        exact ⟨F1, ρ1, d, xs, k1, e1, h1, .inr ⟨k0, r1, q⟩⟩
  · obtain ⟨F1, ρ1, d, xs, k1, e1, h1, q | ⟨k0, q1, b1, b2, q⟩⟩ := q1
    · obtain ⟨r1, q⟩ := q
      cases r1 with
      | cons ra r1 =>
        cases r1
        cases rr with
        | cons rv rr =>
          cases rr
          obtain ⟨S1, ev1, a1, z1, l1, g1⟩ := src_of k1.ex ra rv h1
          subst ev1
          obtain ⟨C1, B1, c1⟩ := Src.begins I1 (a1.mono k1.ex)
          exact enum_begins1 B1 c1 fun h' he hi hsz hk => enum_end I1 k1 e1 c a1 z1 l1 g1 q he hi hk
    · cases q1 with
      | cons ra r1 =>
        cases r1 with
        | cons rb r1 =>
          cases r1
          cases rr with
          | cons rv rr =>
            cases rr with
            | cons rw' rr =>
              cases rr
              obtain ⟨S1, ev1, a1, z1, l1, g1⟩ := src_of k1.ex ra rv h1
              subst ev1
              cases rb
              obtain ⟨t, rfl⟩ := rw'
              obtain ⟨C1, B1, c1⟩ := Src.begins I1 (a1.mono k1.ex)
              exact enum_begins B1 c1 b1 b2 fun h' he hi hsz hk => enum_end I1 k1 e1 c a1 z1 l1 g1 q he hi hk
end
end DL

namespace DL
open PySem PySem.Spec PyProof.Rows L2

/-! ### x in y -/
def inS (x y : List Nat) : Bool := match x with
  | [c] => decide (c ∈ y)
  | x => !(Builtin.Str.occurrences (S y) (S x) 0 (S y).length 1).isEmpty
def oInB (neg : Bool) : DOp := fun d e K => match e with
  | .lst xs => d.pl = true ∧ pls xs = true ∧ d.dep ≤ 50 ∧ K (.bl (if neg = true then !(xs.any fun z => z.eq d) else xs.any fun z => z.eq d))
  | .tup xs => d.pl = true ∧ pls xs = true ∧ d.dep ≤ 50 ∧ K (.bl (if neg = true then !(xs.any fun z => z.eq d) else xs.any fun z => z.eq d))
  | .str y => match d with
    | .str x => K (.bl (if neg = true then !inS x y else inS x y))
    | _ => False
  | _ => False
def oIn : DOp := oInB false
def oNin : DOp := oInB true
theorem any_py : ∀ (xs : List D) (d : D), d.pl = true → pls xs = true → ((pys xs).any fun y => PyData.eqv y d.py) = xs.any fun z => z.eq d
  | [], _, _, _ => rfl
  | x :: xs, d, h, p => by
    simp only [pls, Bool.and_eq_true] at p
    have ih := any_py xs d h p.2
    show (PyData.eqv x.py d.py || (pys xs).any fun y => PyData.eqv y d.py) = (x.eq d || xs.any fun z => z.eq d)
    rw [ih, eq_py x d p.1 h]
section
variable {X : Cx} {k : Nat}
theorem or_in (hr : Room k X.A) : OpR X (compareOp .In) (rO oIn) := by
  intro pins s σ H x y v u Q I rx ry ⟨F, d, e, Qd, ex, r1, r2, o, c⟩
  have h3 := hr.units
  cases e with
  | str yl =>
    cases d <;> first | exact o.elim | skip
    rename_i xl
    cases r1; cases r2
    have o : Qd (.bl (inS xl yl)) := o
    match xl, o with
    | [a], o => exact op_in_sign pins s σ H _ _ v u Q I rx ry ⟨a, S yl, rfl, rfl, c F H _ _ (Grow.refl ex) (.bl _) o⟩
    | [], o => exact op_in_str pins s σ H _ _ v u Q I rx ry ⟨S [], S yl, rfl, rfl, c F H _ _ (Grow.refl ex) (.bl _) o⟩
    | a :: b :: r, o => exact op_in_str pins s σ H _ _ v u Q I rx ry ⟨S (a :: b :: r), S yl, rfl, rfl, c F H _ _ (Grow.refl ex) (.bl _) o⟩
  | lst xs =>
    obtain ⟨p1, p2, hd, o⟩ := o
    obtain ⟨as, q1⟩ := Dp.reads I d.py x v (r1.dp ex p1) rx
    obtain ⟨bs, q2⟩ := Dp.reads I (D.lst xs).py y u (r2.dp ex p2) ry
    have h1 := dep_py d
    refine SeqAt.in_list_data q2 q1 (pls_plain xs p2) (pl_plain d p1) (by omega) ⟨.bl _, H, I, rfl, ?_⟩
    rw [any_py xs d p1 p2]
    exact c F H _ _ (Grow.refl ex) (.bl _) o
  | tup xs =>
    obtain ⟨p1, p2, hd, o⟩ := o
    obtain ⟨as, q1⟩ := Dp.reads I d.py x v (r1.dp ex p1) rx
    obtain ⟨bs, q2⟩ := Dp.reads I (D.tup xs).py y u (r2.dp ex p2) ry
    have h1 := dep_py d
    refine SeqAt.in_tuple_data q2 q1 (pls_plain xs p2) (pl_plain d p1) (by omega) ⟨.bl _, H, I, rfl, ?_⟩
    rw [any_py xs d p1 p2]
    exact c F H _ _ (Grow.refl ex) (.bl _) o
  | _ => exact o.elim
theorem or_nin (hr : Room k X.A) : OpR X (compareOp .NotIn) (rO oNin) := by
  intro pins s σ H x y v u Q I rx ry ⟨F, d, e, Qd, ex, r1, r2, o, c⟩
  have h3 := hr.units
  cases e with
  | str yl =>
    cases d <;> first | exact o.elim | skip
    rename_i xl
    cases r1; cases r2
    have o : Qd (.bl (!inS xl yl)) := o
    match xl, o with
    | [a], o => exact op_notIn_sign pins s σ H _ _ v u Q I rx ry ⟨a, S yl, rfl, rfl, c F H _ _ (Grow.refl ex) (.bl _) o⟩
    | [], o => exact op_notIn_str pins s σ H _ _ v u Q I rx ry ⟨S [], S yl, rfl, rfl, c F H _ _ (Grow.refl ex) (.bl _) o⟩
    | a :: b :: r, o => exact op_notIn_str pins s σ H _ _ v u Q I rx ry ⟨S (a :: b :: r), S yl, rfl, rfl, c F H _ _ (Grow.refl ex) (.bl _) o⟩
  | lst xs =>
    obtain ⟨p1, p2, hd, o⟩ := o
    obtain ⟨as, q1⟩ := Dp.reads I d.py x v (r1.dp ex p1) rx
    obtain ⟨bs, q2⟩ := Dp.reads I (D.lst xs).py y u (r2.dp ex p2) ry
    have h1 := dep_py d
    refine SeqAt.notIn_list_data q2 q1 (pls_plain xs p2) (pl_plain d p1) (by omega) ⟨.bl _, H, I, rfl, ?_⟩
    rw [any_py xs d p1 p2]
    exact c F H _ _ (Grow.refl ex) (.bl _) o
  | tup xs =>
    obtain ⟨p1, p2, hd, o⟩ := o
    obtain ⟨as, q1⟩ := Dp.reads I d.py x v (r1.dp ex p1) rx
    obtain ⟨bs, q2⟩ := Dp.reads I (D.tup xs).py y u (r2.dp ex p2) ry
    have h1 := dep_py d
    refine SeqAt.notIn_tuple_data q2 q1 (pls_plain xs p2) (pl_plain d p1) (by omega) ⟨.bl _, H, I, rfl, ?_⟩
    rw [any_py xs d p1 p2]
    exact c F H _ _ (Grow.refl ex) (.bl _) o
  | _ => exact o.elim

/-! ### constants of a module -/
theorem de_glI {x : Str} {i : Int} {pos : Pos} (h : ∃ t, X.mg x = some (.int i t)) (hg : Gl X x := by rfl) (hd : (x == ("__debug__" : Str)) = false := by decide) : PE X (.Name x pos) (tE (dC (.int i))) := by
  obtain ⟨t, h⟩ := h
  exact de_c (pe_glob (v := .int i) hg h ⟨t, rfl⟩ hd) fun _ => .int i
theorem de_glS {x : Str} {l : List Nat} {pos : Pos} (h : ∃ t, X.mg x = some (.str (S l) t)) (z : l.length ≤ sizeLine := by decide) (hg : Gl X x := by rfl) (hd : (x == ("__debug__" : Str)) = false := by decide) : PE X (.Name x pos) (tE (dC (.str l))) := by
  obtain ⟨t, h⟩ := h
  exact de_c (pe_glob (v := .str (S l)) hg h ⟨t, rfl⟩ hd) fun _ => .str z
end

/-! ### a def that may be called -/
structure Cl (P : Program) (w : World) (K : PySem.W.Frag) (mg : Str → Option Value) (base : Heap) (x : Str) (k : Nat) (ps : List Str) (S : FnSpec) : Prop where
  ex : ∃ f fd, FnOk P w K mg base CX0 k f fd ps (spD S) ∧ mg x = some (.ref f) ∧ PySem.W.keepIn K (.ref f) = true ∧ Binds K fd ps []
/-- the same, of no promise yet -/
structure Pl (K : PySem.W.Frag) (mg : Str → Option Value) (x : Str) (st : Stmt) (ps : List Str) : Prop where
  ex : ∃ f fd, Fun K x x st f fd ∧ mg x = some (.ref f) ∧ Binds K fd ps []
def noSpec (io : List Bool) : FnSpec where
  io := io
  fresh := false
  ds _ _ := False
  mono _ _ _ _ h := h
section
variable {P : Program} {w : World} {K : PySem.W.Frag} {mg : Str → Option Value} {base : Heap} {x : Str} {st : Stmt} {ps N : List Str} {k j : Nat} {Sp : FnSpec} {db : DTS}
theorem Cl.mono (C : Cl P w K mg base x j ps Sp) (h : j ≤ k) : Cl P w K mg base x k ps Sp := by
  obtain ⟨f, fd, F, r⟩ := C.ex
  exact ⟨f, fd, F.mono h, r⟩
theorem Pl.never (p : Pl K mg x st ps) (io : List Bool) : Cl P w K mg base x 0 ps (noSpec io) := by
  obtain ⟨f, fd, F, m, b⟩ := p.ex
  refine ⟨f, fd, ⟨fun vs H Q E h => ?_, fun A outer s H args us vs Q E hr e0 hb r h => ?_⟩, m, F.kp, b⟩
  · obtain ⟨_, _, _, _, _, _, h⟩ := h; exact h.elim
  · obtain ⟨_, _, _, _, _, _, h⟩ := h; exact h.elim
theorem Pl.cl (p : Pl K mg x st ps) (sc : FnScope N ps (defScope st)) (hn : Sp.io.length = ps.length) (hN : ps.length ≤ N.length)
    (body : ∀ (f : Addr) (cdv : Value) (A : Around) (outer : List PySem.Env) (s : Shared) (H : Hp) (E : XK), Room k (A.deeper (envOfC x (defScope st) s.heap.objs.size f cdv)) → PSs (cxOf CX0 P w K mg base N x (defScope st) f cdv A outer s H E).nox (defBody st) (tS db))
    (sem : ∀ ds Kd, Sp.ds ds Kd → db (endsOf Sp Kd) (env0 N.length Sp.io ds)) : Cl P w K mg base x (k + 1) ps Sp := by
  obtain ⟨f, fd, F, m, b⟩ := p.ex
  exact ⟨f, fd, fn_D F sc hn hN (fun cdv A outer s H E hr => body f cdv A outer s H E hr) sem, m, F.kp, b⟩
end
section
variable {X : Cx} {k : Nat} {ps : List Str} {Sp : FnSpec} {x : Str} {p pos : Pos} {e : Expr} {es : List Expr} {da : DTA}
theorem ce_call (C : Cl X.prog X.w X.K X.mg X.base x k ps Sp) (hr : Room k X.A) (ha : PA X (e :: es) (tA da)) (hio : (Sp.io.all fun b => !b) = true := by rfl) (hf : Sp.fresh = false := by rfl)
    (hg : Gl X x := by rfl) (hdb : (x == ("__debug__" : Str)) = false := by decide) (he : starEach (e :: es) X.env = (false, eval e X.env) :: starEach es X.env := by rfl) (hpl : (backTo pos (starEach es X.env)).any (·.1) = false := by rfl) :
    PE X (.Call (.Name x p) (e :: es) [] pos) (tE (dCall Sp da)) := by
  obtain ⟨f, fd, F, m, kp, b⟩ := C.ex
  exact de_call F hr m kp b hio hf ha hg hdb he hpl
theorem cx_call (C : Cl X.prog X.w X.K X.mg X.base x k ps Sp) (hr : Room k X.A) (ha : PA X (e :: es) (tA da)) (hio : (Sp.io.all fun b => !b) = true := by rfl) (hf : Sp.fresh = true := by rfl)
    (hg : Gl X x := by rfl) (hdb : (x == ("__debug__" : Str)) = false := by decide) (he : starEach (e :: es) X.env = (false, eval e X.env) :: starEach es X.env := by rfl) (hpl : (backTo pos (starEach es X.env)).any (·.1) = false := by rfl) :
    PE X (.Call (.Name x p) (e :: es) [] pos) (tX (dCallF Sp da)) := by
  obtain ⟨f, fd, F, m, kp, b⟩ := C.ex
  exact dx_call F hr m kp b hio hf ha hg hdb he hpl
theorem cx_callIo {i : Nat} {bs : List Bool} {y : Str} {q : Pos} (C : Cl X.prog X.w X.K X.mg X.base x k ps Sp) (hr : Room k X.A) (hy : PE X (.Name y q) (tVar i)) (ha : PA X es (tA da)) (hio : Sp.io = true :: bs := by rfl) (hbs : (bs.all fun b => !b) = true := by rfl)
    (hg : Gl X x := by rfl) (hdb : (x == ("__debug__" : Str)) = false := by decide) (he : starEach (.Name y q :: es) X.env = (false, eval (.Name y q) X.env) :: starEach es X.env := by rfl) (hpl : (backTo pos (starEach es X.env)).any (·.1) = false := by rfl) :
    PE X (.Call (.Name x p) (.Name y q :: es) [] pos) (tX (dCallIo Sp i da)) := by
  obtain ⟨f, fd, F, m, kp, b⟩ := C.ex
  exact dx_callIo F hr m kp b hio hbs hy ha hg hdb he hpl
end
end DL

namespace DL
open PySem PySem.Spec PyProof.Rows L2

/-! ### x * y -/
def repL {α : Type} (xs : List α) (n : Nat) : List α := (List.replicate n xs).flatten
theorem repL_length {α : Type} (xs : List α) (n : Nat) : (repL xs n).length = n * xs.length := by
  unfold repL
  induction n with
  | zero => simp
  | succ n ih => rw [List.replicate_succ, List.flatten_cons, List.length_append, ih, Nat.succ_mul, Nat.add_comm]
def oMul : DOp := fun d e K => match d, e with
  | .int i, .int j => CMul i j ∧ K (.int (i * j))
  | _, _ => False
section
variable {X : Cx} {elt tg iter : Expr} {ifs : List Expr} {scope : Scope} {own : List (Str × Nat)} {pos : Pos} {di : DTI} {dg : DTG} {dt : DTT} {de : DTE} {sl : List Nat}
theorem or_mul : OpR X (binaryOp .Mult) (rO oMul) := by
  intro pins s σ H x y v u Q I rx ry ⟨F, d, e, Qd, ex, r1, r2, o, c⟩
  cases d <;> cases e <;> first | exact o.elim | skip
  obtain ⟨hc, o⟩ := o
  cases r1; cases r2
  exact op_mul pins s σ H _ _ v u Q I rx ry ⟨_, _, rfl, rfl, hc, c F H _ _ (Grow.refl ex) (.int _) o⟩
/-- y = [..], kept from now on -/
theorem tx_fz {dx : DTX} {σ : L2.St} {H : Hp} {Q : VK} (h : tX (dUp (dFz dx)) σ H Q) : tX dx σ H Q := by
  obtain ⟨g, F, ρ, Qd, k, h, c⟩ := h
  refine ⟨g, F, ρ, _, k, h, fun F' H' ρ' v cl k' ex t q => ?_⟩
  cases cl with
  | un => exact q.elim
  | io d => exact q.elim
  | fz d => exact c F' H' ρ' v _ k' ex t q
  | ow d =>
    obtain ⟨F'', k'', ex', r⟩ := k'.keepTmp t
    exact c F'' H' ρ' v (.fz d) k'' (ex.trans ex') r q
theorem ds_setLcF {i : Nat} {y : Str} {py spos : Pos} (hc : X.calm = true) (hN : X.N.Nodup) (hy : X.N[i]? = some y) (hyl : X.env.scope.names.lookup y = some .local)
    (hsw : swapsWith (.ListComp elt [⟨tg, iter, ifs, 0⟩] scope pos) (some (.Name y py)) spos.line X.env = pure true) (hi : PI X tg iter (tI di)) (ok : BlkOk X.N X.env.scope scope own)
    (hg : ∀ (s : Shared) (H : Hp) (C : Addr) (cl : List (Str × Addr)) (fp : List Addr), PG (X.blk s H scope (compEnvC scope cl C X.env) fp) tg (tG sl dg)) (ht : ∀ (s : Shared) (H : Hp) (C : Addr) (cl : List (Str × Addr)) (fp : List Addr), PTs (X.blk s H scope (compEnvC scope cl C X.env) fp) ifs (tT dt))
    (he : ∀ (s : Shared) (H : Hp) (C : Addr) (cl : List (Str × Addr)) (fp : List Addr), PE (X.blk s H scope (compEnvC scope cl C X.env) fp) elt (tE de)) (hsl : ∀ j ∈ sl, j ∈ own.map (·.2)) (hs : ∀ x, foldedSetIterable iter X.env x = pure x := by intro _; rfl) :
    PS X (.Assign [.Name y py] (.ListComp elt [⟨tg, iter, ifs, 0⟩] scope pos) spos) (tS (dSet i (dUp (dFz (dLc di dg dt de (own.map (·.2))))))) :=
  ps_imp (ps_setLc hc hN hy hyl hsw hi ok hg ht he hs) fun D σ H h => t_set (fun _ _ _ q => t_lc hsl (tx_fz q)) h
end
end DL

namespace DL
open PySem PySem.Spec PyProof.Rows L2

/-! ### plain laws of reading -/
theorem ixN_nat (n L : Nat) : ixN L ((n : Nat) : Int) = if n < L then some n else none := by
  unfold ixN
  rw [if_pos (by omega)]
  by_cases h : n < L
  · rw [if_pos (by omega), if_pos h, Int.toNat_natCast]
  · rw [if_neg (by omega), if_neg h]
theorem ixN_lit (n L : Nat) : ixN L (no_index (OfNat.ofNat n : Int)) = if n < L then some n else none := ixN_nat n L
theorem atI_natE {α : Type} (xs : List α) (n : Nat) : atI xs ((n : Nat) : Int) = xs[n]? := by
  unfold atI
  rw [ixN_nat]
  by_cases h : n < xs.length
  · rw [if_pos h, Option.bind_some]
  · rw [if_neg h, List.getElem?_eq_none (by omega)] <;> rfl
theorem atI_lit {α : Type} (xs : List α) (n : Nat) : atI xs (no_index (OfNat.ofNat n : Int)) = xs[n]? := atI_natE xs n
theorem atI_pos {α : Type} {xs : List α} {i : Int} (h0 : 0 ≤ i) : atI xs i = xs[i.toNat]? := by
  obtain ⟨n, rfl⟩ := Int.eq_ofNat_of_zero_le h0
  exact atI_natE xs n
theorem atI_map {α β : Type} (f : α → β) (xs : List α) (i : Int) : atI (xs.map f) i = (atI xs i).map f := by
  unfold atI
  rw [List.length_map]
  cases ixN xs.length i with
  | none => rfl
  | some n => simp
theorem atI_in {α : Type} {xs : List α} {i : Int} (h0 : 0 ≤ i) (h1 : i < xs.length) : ∃ x, atI xs i = some x ∧ xs[i.toNat]? = some x ∧ x ∈ xs := by
  have h : i.toNat < xs.length := by omega
  exact ⟨xs[i.toNat], by rw [atI_pos h0, List.getElem?_eq_getElem h], List.getElem?_eq_getElem h, List.getElem_mem h⟩
/-- one statement, then the others -/
theorem seq_gen {a b : DTS} {E : DEnds} {ρ : Env} (h : ∀ k : Env → Prop, k = b E → a { E with nx := k } ρ) : dSeq a b E ρ := h _ rfl
theorem if_gen {c : DTT} {a b : DTS} {E : DEnds} {ρ : Env} (h : ∀ kA kB : Env → Prop, kA = a E → kB = b E → c ρ fun t ρ' => if t = true then kA ρ' else kB ρ') : dIf c a b E ρ := h _ _ rfl rfl
theorem oEq_int {i j : Int} {K : D → Prop} : oEq (.int i) (.int j) K ↔ K (.bl (decide (i = j))) := by
  have e : D.eq (.int i) (.int j) = decide (i = j) := by
    show (i == j) = decide (i = j)
    by_cases h : i = j
    · subst h; simp
    · simp [h]
  unfold oEq
  rw [e]
  exact ⟨fun h => h.2.2.2, fun h => ⟨rfl, rfl, .inl (by simp only [D.dep]; decide), h⟩⟩
theorem oNe_int {i j : Int} {K : D → Prop} : oNe (.int i) (.int j) K ↔ K (.bl (decide (i ≠ j))) := by
  have e : (!D.eq (.int i) (.int j)) = decide (i ≠ j) := by
    show (!(i == j)) = decide (i ≠ j)
    by_cases h : i = j
    · subst h; simp
    · simp [h]
  unfold oNe
  rw [e]
  exact ⟨fun h => h.2.2.2, fun h => ⟨rfl, rfl, .inl (by simp only [D.dep]; decide), h⟩⟩
theorem oEq_str {x y : List Nat} {K : D → Prop} : oEq (.str x) (.str y) K ↔ K (.bl (decide (x = y))) := by
  have e : D.eq (.str x) (.str y) = decide (x = y) := by
    show (x == y) = decide (x = y)
    by_cases h : x = y
    · subst h; simp
    · simp [h]
  unfold oEq
  rw [e]
  exact ⟨fun h => h.2.2.2, fun h => ⟨rfl, rfl, .inl (by simp only [D.dep]; decide), h⟩⟩
theorem oNe_str {x y : List Nat} {K : D → Prop} : oNe (.str x) (.str y) K ↔ K (.bl (decide (x ≠ y))) := by
  have e : (!D.eq (.str x) (.str y)) = decide (x ≠ y) := by
    show (!(x == y)) = decide (x ≠ y)
    by_cases h : x = y
    · subst h; simp
    · simp [h]
  unfold oNe
  rw [e]
  exact ⟨fun h => h.2.2.2, fun h => ⟨rfl, rfl, .inl (by simp only [D.dep]; decide), h⟩⟩
theorem oEq_bl {x y : Bool} {K : D → Prop} : oEq (.bl x) (.bl y) K ↔ K (.bl (x == y)) :=
  ⟨fun h => h.2.2.2, fun h => ⟨rfl, rfl, .inl (by simp only [D.dep]; decide), h⟩⟩
theorem oNe_bl {x y : Bool} {K : D → Prop} : oNe (.bl x) (.bl y) K ↔ K (.bl (!(x == y))) :=
  ⟨fun h => h.2.2.2, fun h => ⟨rfl, rfl, .inl (by simp only [D.dep]; decide), h⟩⟩
theorem dWhile_iff {dt : DTT} {db : DTS} {E : DEnds} {ρ : Env} (W : Nat → Env → Prop) (m0 : Nat) (h0 : W m0 ρ)
    (h : ∀ m ρ, W m ρ → dt ρ fun b ρ1 => if b = true then db { nx := fun ρ' => ∃ m', m' < m ∧ W m' ρ', ct := fun ρ' => ∃ m', m' < m ∧ W m' ρ', bk := E.nx, rt := E.rt } ρ1 else E.nx ρ1) : dWhile dt db E ρ := ⟨W, ⟨m0, h0⟩, h⟩
/-! ### boxes: what stands in one is left alone by simp -/
class Bx (α : Type) where
  out : α
def lcB [b : Bx (DTG × DTT × DTE × List Nat × (List D → Env → Prop))] (xs acc : List D) (ρ : Env) : Prop := lcW b.out.1 b.out.2.1 b.out.2.2.1 b.out.2.2.2.1 xs acc ρ b.out.2.2.2.2
def forB [b : Bx (DTG × DTS × DEnds)] (xs : List D) (ρ : Env) : Prop := forW b.out.1 b.out.2.1 b.out.2.2 xs ρ
def whB [b : Bx (DTT × DTS × DEnds)] (ρ : Env) : Prop := dWhile b.out.1 b.out.2.1 b.out.2.2 ρ
def onB [b : Bx (D → List D → Prop)] (Sp : FnSpec) (ds : List D) : Prop := Sp.ds ds b.out
theorem u_lc {di : DTI} {tg : DTG} {tt : DTT} {te : DTE} {vs : List Nat} {ρ : Env} {Q : Cell → Env → Prop} : dLc di tg tt te vs ρ Q = di ρ fun items ρ1 => (vs.all fun v => !(ρ1.getD v .un).own) = true ∧ @lcB ⟨(tg, tt, te, vs, fun acc ρ2 => Q (.ow (.lst acc)) (restE ρ1 ρ2 vs))⟩ items [] ρ1 := rfl
theorem u_for {di : DTI} {tg : DTG} {b : DTS} {E : DEnds} {ρ : Env} : dFor di tg b E ρ = di ρ fun items ρ1 => @forB ⟨(tg, b, E)⟩ items ρ1 := rfl
theorem u_while {dt : DTT} {db : DTS} {E : DEnds} {ρ : Env} : dWhile dt db E ρ = @whB ⟨(dt, db, E)⟩ ρ := rfl
theorem u_call {Sp : FnSpec} {da : DTA} {ρ : Env} {Q : D → Env → Prop} : dCall Sp da ρ Q = da ρ fun ds ρ' => ds.length = Sp.io.length ∧ @onB ⟨fun r _ => Q r ρ'⟩ Sp ds := rfl
theorem u_callF {Sp : FnSpec} {da : DTA} {ρ : Env} {Q : Cell → Env → Prop} : dCallF Sp da ρ Q = da ρ fun ds ρ' => ds.length = Sp.io.length ∧ @onB ⟨fun r _ => Q (.ow r) ρ'⟩ Sp ds := rfl
def ioB (Sp : FnSpec) (Q : Cell → Env → Prop) (i : Nat) (ρ' : Env) (c : Cell) (r : D) (os : List D) : Prop := match os with
  | [d'] => Q (if Sp.fresh = true then .ow r else .fz r) (ρ'.set i (c.up d'))
  | _ => False
def ownAt (ρ : Env) (i : Nat) : Bool := match ρ[i]? with
  | some c => c.own
  | none => false
theorem u_callIo {Sp : FnSpec} {i : Nat} {da : DTA} {ρ : Env} {Q : Cell → Env → Prop} : dCallIo Sp i da ρ Q ↔ (ownAt ρ i = true ∧ da ρ fun ds ρ' => match ρ'[i]? with
  | some c => ds.length + 1 = Sp.io.length ∧ c.own = true ∧ match c.val with
    | some d => @onB ⟨ioB Sp Q i ρ' c⟩ Sp (d :: ds)
    | none => False
  | none => False) := by
  have e : (∃ c, ρ[i]? = some c ∧ c.own = true) ↔ ownAt ρ i = true := by
    unfold ownAt
    cases ρ[i]? with
    | none => simp
    | some c => exact ⟨fun ⟨_, e, h⟩ => by cases e; exact h, fun h => ⟨c, rfl, h⟩⟩
  show ((∃ c, ρ[i]? = some c ∧ c.own = true) ∧ _) ↔ _
  rw [e]
  exact Iff.rfl
theorem lcB_of {tg : DTG} {tt : DTT} {te : DTE} {vs : List Nat} {K : List D → Env → Prop} {xs acc : List D} {ρ : Env} (h : lcW tg tt te vs xs acc ρ K) : @lcB ⟨(tg, tt, te, vs, K)⟩ xs acc ρ := h
theorem forB_of {tg : DTG} {b : DTS} {E : DEnds} {xs : List D} {ρ : Env} (h : forW tg b E xs ρ) : @forB ⟨(tg, b, E)⟩ xs ρ := h
theorem whB_of {dt : DTT} {db : DTS} {E : DEnds} {ρ : Env} (h : dWhile dt db E ρ) : @whB ⟨(dt, db, E)⟩ ρ := h
theorem onB_of {Sp : FnSpec} {K : D → List D → Prop} {ds : List D} (h : Sp.ds ds K) : @onB ⟨K⟩ Sp ds := h
theorem isi_int {i : Int} {K : D → Prop} : oIsi "int" (.int i) K ↔ K (.bl true) := by
  have e : isiB "int" "int" = true := by decide
  show K (.bl (isiB "int" "int")) ↔ _
  rw [e]
theorem isi_int_bl {i : Int} {K : D → Prop} : oIsi "bool" (.int i) K ↔ K (.bl false) := by
  have e : isiB "int" "bool" = false := by decide
  show K (.bl (isiB "int" "bool")) ↔ _
  rw [e]
theorem isi_int_str {i : Int} {K : D → Prop} : oIsi "str" (.int i) K ↔ K (.bl false) := by
  have e : isiB "int" "str" = false := by decide
  show K (.bl (isiB "int" "str")) ↔ _
  rw [e]
theorem isi_int_tup {i : Int} {K : D → Prop} : oIsi "tuple" (.int i) K ↔ K (.bl false) := by
  have e : isiB "int" "tuple" = false := by decide
  show K (.bl (isiB "int" "tuple")) ↔ _
  rw [e]
theorem isi_int_lst {i : Int} {K : D → Prop} : oIsi "list" (.int i) K ↔ K (.bl false) := by
  have e : isiB "int" "list" = false := by decide
  show K (.bl (isiB "int" "list")) ↔ _
  rw [e]
theorem isi_str {l : List Nat} {K : D → Prop} : oIsi "str" (.str l) K ↔ K (.bl true) := by
  have e : isiB "str" "str" = true := by decide
  show K (.bl (isiB "str" "str")) ↔ _
  rw [e]
theorem isi_str_int {l : List Nat} {K : D → Prop} : oIsi "int" (.str l) K ↔ K (.bl false) := by
  have e : isiB "str" "int" = false := by decide
  show K (.bl (isiB "str" "int")) ↔ _
  rw [e]
theorem isi_tup {l : List D} {K : D → Prop} : oIsi "tuple" (.tup l) K ↔ K (.bl true) := by
  have e : isiB "tuple" "tuple" = true := by decide
  show K (.bl (isiB "tuple" "tuple")) ↔ _
  rw [e]
theorem isi_tup_int {l : List D} {K : D → Prop} : oIsi "int" (.tup l) K ↔ K (.bl false) := by
  have e : isiB "tuple" "int" = false := by decide
  show K (.bl (isiB "tuple" "int")) ↔ _
  rw [e]
theorem isi_tup_str {l : List D} {K : D → Prop} : oIsi "str" (.tup l) K ↔ K (.bl false) := by
  have e : isiB "tuple" "str" = false := by decide
  show K (.bl (isiB "tuple" "str")) ↔ _
  rw [e]
theorem isi_tup_lst {l : List D} {K : D → Prop} : oIsi "list" (.tup l) K ↔ K (.bl false) := by
  have e : isiB "tuple" "list" = false := by decide
  show K (.bl (isiB "tuple" "list")) ↔ _
  rw [e]
theorem isi_lst {l : List D} {K : D → Prop} : oIsi "list" (.lst l) K ↔ K (.bl true) := by
  have e : isiB "list" "list" = true := by decide
  show K (.bl (isiB "list" "list")) ↔ _
  rw [e]
theorem isi_lst_tup {l : List D} {K : D → Prop} : oIsi "tuple" (.lst l) K ↔ K (.bl false) := by
  have e : isiB "list" "tuple" = false := by decide
  show K (.bl (isiB "list" "tuple")) ↔ _
  rw [e]
theorem isi_lst_int {l : List D} {K : D → Prop} : oIsi "int" (.lst l) K ↔ K (.bl false) := by
  have e : isiB "list" "int" = false := by decide
  show K (.bl (isiB "list" "int")) ↔ _
  rw [e]
theorem isi_lst_str {l : List D} {K : D → Prop} : oIsi "str" (.lst l) K ↔ K (.bl false) := by
  have e : isiB "list" "str" = false := by decide
  show K (.bl (isiB "list" "str")) ↔ _
  rw [e]
theorem ex_some {c : Cell} : (∃ c', some c = some c' ∧ c'.own = true) ↔ c.own = true := ⟨fun ⟨_, e, h⟩ => by cases e; exact h, fun h => ⟨c, rfl, h⟩⟩
end DL

namespace DL
open PySem PySem.Spec PyProof.Rows L2

/-! ### loops over data, by what stands between the turns -/
theorem forW_inv {tg : DTG} {body : DTS} {E : DEnds} (I : List D → Env → Prop)
    (h : ∀ (x : D) (xs : List D) (ρ : Env) (k : Env → Prop), I (x :: xs) ρ → (∀ ρ', I xs ρ' → k ρ') → tg x ρ fun ρ2 => body { nx := k, ct := k, bk := E.nx, rt := E.rt } ρ2)
    (hd : ∀ ρ, I [] ρ → E.nx ρ) : ∀ (xs : List D) (ρ : Env), I xs ρ → forW tg body E xs ρ
  | [], ρ, i => hd ρ i
  | x :: xs, ρ, i => h x xs ρ _ i fun ρ' i' => forW_inv I h hd xs ρ' i'
theorem lcW_inv {tg : DTG} {tt : DTT} {te : DTE} {vs : List Nat} {K : List D → Env → Prop} (I : List D → List D → Env → Prop)
    (h : ∀ (x : D) (xs acc : List D) (ρ : Env) (kT : D → Env → Prop) (kF : Env → Prop), I (x :: xs) acc ρ → (∀ y ρ', I xs (acc ++ [y]) ρ' → kT y ρ') → (∀ ρ', I xs acc ρ' → kF ρ') → tg x (wipeE ρ vs) fun ρ2 => tt ρ2 fun b ρ3 => if b = true then te ρ3 fun y ρ4 => kT y ρ4 else kF ρ3)
    (hd : ∀ acc ρ, I [] acc ρ → K acc ρ) : ∀ (xs acc : List D) (ρ : Env), I xs acc ρ → lcW tg tt te vs xs acc ρ K
  | [], acc, ρ, i => hd acc ρ i
  | x :: xs, acc, ρ, i => h x xs acc ρ (fun y ρ4 => lcW tg tt te vs xs (acc ++ [y]) ρ4 K) (fun ρ3 => lcW tg tt te vs xs acc ρ3 K) i (fun y ρ' i' => lcW_inv I h hd xs _ ρ' i') (fun ρ' i' => lcW_inv I h hd xs _ ρ' i')
theorem rest_of_wipe {ρ0 ρ' : Env} {vs : List Nat} (h : wipeE ρ' vs = wipeE ρ0 vs) : restE ρ0 ρ' vs = ρ0 := by
  have hl : ρ'.length = ρ0.length := by
    have := congrArg List.length h
    rw [wipeE_length, wipeE_length] at this
    exact this
  apply List.ext_getElem?
  intro j
  by_cases hj : j ∈ vs
  · by_cases hlt : j < ρ'.length
    · rw [restE_mem hj hlt, List.getElem?_eq_getElem (by rw [← hl]; exact hlt), List.getD_eq_getElem?_getD, List.getElem?_eq_getElem (by rw [← hl]; exact hlt)] <;> rfl
    · rw [List.getElem?_eq_none (by rw [restE_length]; omega), List.getElem?_eq_none (by omega)]
  · rw [restE_not hj, ← wipeE_not (ρ := ρ') hj, h, wipeE_not hj]
theorem wipe_wipeE {ρ : Env} {vs : List Nat} : wipeE (wipeE ρ vs) vs = wipeE ρ vs := by
  apply List.ext_getElem?
  intro j
  by_cases hj : j ∈ vs
  · by_cases hlt : j < ρ.length
    · rw [wipeE_mem hj (by rw [wipeE_length]; exact hlt), wipeE_mem hj hlt]
    · rw [List.getElem?_eq_none (by rw [wipeE_length, wipeE_length]; omega), List.getElem?_eq_none (by rw [wipeE_length]; omega)]
  · rw [wipeE_not hj]
/-- a comprehension whose parts turn no slot but its own -/
theorem lcW_pure {tg : DTG} {tt : DTT} {te : DTE} {vs : List Nat} {K : List D → Env → Prop} (ρ0 : Env) (P : D → Bool) (f : D → D) (items : List D)
    (h : ∀ x ∈ items, ∀ (kT : D → Env → Prop) (kF : Env → Prop), (P x = true → ∀ ρ', wipeE ρ' vs = wipeE ρ0 vs → kT (f x) ρ') → (P x = false → ∀ ρ', wipeE ρ' vs = wipeE ρ0 vs → kF ρ') →
      tg x (wipeE ρ0 vs) fun ρ2 => tt ρ2 fun b ρ3 => if b = true then te ρ3 fun y ρ4 => kT y ρ4 else kF ρ3)
    (hK : ∀ ρ', wipeE ρ' vs = wipeE ρ0 vs → K ((items.filter P).map f) ρ') : lcW tg tt te vs items [] ρ0 K := by
  refine lcW_inv (fun rest acc ρ => wipeE ρ vs = wipeE ρ0 vs ∧ ∃ pre, items = pre ++ rest ∧ acc = (pre.filter P).map f) (fun x xs acc ρ kT kF ⟨hw, pre, e1, e2⟩ hT hF => ?_) (fun acc ρ ⟨hw, pre, e1, e2⟩ => ?_) items [] ρ0 ⟨rfl, [], rfl, rfl⟩
  · rw [hw]
    refine h x (by rw [e1]; simp) _ _ (fun hp ρ' hw' => hT _ _ ⟨hw', pre ++ [x], by rw [e1]; simp, by rw [e2, List.filter_append, List.map_append]; simp [hp]⟩) fun hp ρ' hw' => hF _ ⟨hw', pre ++ [x], by rw [e1]; simp, by rw [e2, List.filter_append, List.map_append]; simp [hp]⟩
  · rw [List.append_nil] at e1
    subst e1 e2
    exact hK ρ hw
/-- .. without a test -/
theorem lcW_map {tg : DTG} {te : DTE} {vs : List Nat} {K : List D → Env → Prop} (ρ0 : Env) (f : D → D) (items : List D)
    (h : ∀ x ∈ items, ∀ (kT : D → Env → Prop), (∀ ρ', wipeE ρ' vs = wipeE ρ0 vs → kT (f x) ρ') → tg x (wipeE ρ0 vs) fun ρ2 => te ρ2 kT)
    (hK : ∀ ρ', wipeE ρ' vs = wipeE ρ0 vs → K (items.map f) ρ') : lcW tg dYes te vs items [] ρ0 K := by
  refine lcW_pure ρ0 (fun _ => true) f items (fun x hx kT kF hT hF => ?_) (fun ρ' hw => by rw [List.filter_eq_self.mpr (by simp)]; exact hK ρ' hw)
  exact h x hx kT fun ρ' hw => hT rfl ρ' hw
theorem cdiv_lit {i : Int} {j : Int} (h : 0 < j) (h2 : j < 1073741824) : CDiv i j := ⟨h, h2⟩
/-! ### signs -/
theorem ltL1 (a b : Nat) : ltL [a] [b] = decide (a < b) := by
  unfold ltL
  by_cases h : a < b
  · rw [decide_eq_true h, decide_eq_true]
    exact List.Lex.rel h
  · rw [decide_eq_false h, decide_eq_false]
    intro z
    rcases List.cons_lt_cons_iff.mp z with z | ⟨_, z⟩
    · exact h z
    · exact absurd z (by simp)
theorem oLe_sign {a b : Nat} {K : D → Prop} : oLe (.str [a]) (.str [b]) K ↔ K (.bl (decide (a ≤ b))) := by
  show K (.bl (!ltL [b] [a])) ↔ _
  rw [ltL1]
  have e : (!decide (b < a)) = decide (a ≤ b) := by
    by_cases h : b < a
    · rw [decide_eq_true h, decide_eq_false (by omega)]; rfl
    · rw [decide_eq_false h, decide_eq_true (by omega)]; rfl
  rw [e]
theorem oLt_int {i j : Int} {K : D → Prop} : oLt (.int i) (.int j) K ↔ K (.bl (decide (i < j))) := Iff.rfl
/-! ### lists of one kind -/
theorem boolsOf_map {α : Type} (f : α → Bool) : ∀ xs : List α, boolsOf (xs.map fun a => .bl (f a)) = some (xs.map f)
  | [] => rfl
  | x :: xs => by
    show (boolsOf (xs.map fun a => D.bl (f a))).map (f x :: ·) = some (f x :: xs.map f)
    rw [boolsOf_map f xs] <;> rfl
theorem strsOf_map {α : Type} (f : α → List Nat) : ∀ xs : List α, strsOf (xs.map fun a => .str (f a)) = some (xs.map f)
  | [] => rfl
  | x :: xs => by
    show (strsOf (xs.map fun a => D.str (f a))).map (f x :: ·) = some (f x :: xs.map f)
    rw [strsOf_map f xs] <;> rfl
theorem strsOf_str (xs : List (List Nat)) : strsOf (xs.map .str) = some xs := by
  have := strsOf_map (fun a => a) xs
  simpa using this
theorem intsOf_map {α : Type} (f : α → Int) : ∀ xs : List α, intsOf (xs.map fun a => .int (f a)) = some (xs.map f)
  | [] => rfl
  | x :: xs => by
    show (intsOf (xs.map fun a => D.int (f a))).map (f x :: ·) = some (f x :: xs.map f)
    rw [intsOf_map f xs] <;> rfl
/-- ints that are counts; texts -/
def il (xs : List Nat) : List D := xs.map fun (n : Nat) => D.int ((n : Nat) : Int)
def sl (xs : List (List Nat)) : List D := xs.map .str
theorem il_length (xs : List Nat) : (il xs).length = xs.length := by simp [il]
theorem sl_length (xs : List (List Nat)) : (sl xs).length = xs.length := by simp [sl]
theorem il_get {xs : List Nat} {i : Nat} : (il xs)[i]? = (xs[i]?).map fun (n : Nat) => D.int ((n : Nat) : Int) := by simp [il]
theorem sl_get {xs : List (List Nat)} {i : Nat} : (sl xs)[i]? = (xs[i]?).map .str := by simp [sl]
theorem pls_il : ∀ xs : List Nat, pls (il xs) = true
  | [] => rfl
  | x :: xs => by
    show (true && pls (il xs)) = true
    rw [pls_il xs] <;> rfl
theorem pls_sl : ∀ xs : List (List Nat), pls (sl xs) = true
  | [] => rfl
  | x :: xs => by
    show (true && pls (sl xs)) = true
    rw [pls_sl xs] <;> rfl
theorem eqs_il : ∀ xs ys : List Nat, eqs (il xs) (il ys) = decide (xs = ys)
  | [], [] => by simp [il, eqs]
  | [], y :: ys => by simp [il, eqs]
  | x :: xs, [] => by simp [il, eqs]
  | x :: xs, y :: ys => by
    have ih := eqs_il xs ys
    show (((x : Int) == (y : Int)) && eqs (il xs) (il ys)) = decide (x :: xs = y :: ys)
    rw [ih]
    by_cases h : x = y
    · subst h; simp
    · have h2 : ¬ ((x : Int) = (y : Int)) := by omega
      simp [h, h2]
theorem eqs_sl : ∀ xs ys : List (List Nat), eqs (sl xs) (sl ys) = decide (xs = ys)
  | [], [] => by simp [sl, eqs]
  | [], y :: ys => by simp [sl, eqs]
  | x :: xs, [] => by simp [sl, eqs]
  | x :: xs, y :: ys => by
    have ih := eqs_sl xs ys
    show ((x == y) && eqs (sl xs) (sl ys)) = decide (x :: xs = y :: ys)
    rw [ih]
    by_cases h : x = y
    · subst h; simp
    · simp [h]
theorem any_il (xs : List Nat) (n : Nat) : ((il xs).any fun z => z.eq (.int (n : Int))) = decide (n ∈ xs) := by
  induction xs with
  | nil => simp [il]
  | cons x xs ih =>
    show (((x : Int) == (n : Int)) || (il xs).any fun z => z.eq (.int (n : Int))) = decide (n ∈ x :: xs)
    rw [ih]
    by_cases h : x = n
    · subst h; simp
    · have h2 : ¬ ((x : Int) = (n : Int)) := by omega
      have h3 : ¬ n = x := fun e => h e.symm
      simp [h2, h3]
/-- slices between two counts -/
theorem cutG_nat {α : Type} (xs : List α) (a b : Nat) : cutG xs (some (a : Int)) (some (b : Int)) = (xs.drop a).take (b - a) := by
  unfold cutG
  rw [HT.sIx_nat, HT.sIx_nat]
  by_cases ha : a ≤ xs.length
  · have e1 : min a xs.length = a := by omega
    rw [e1]
    by_cases hb : b ≤ xs.length
    · have e2 : min b xs.length = b := by omega
      rw [e2]
    · have e2 : min b xs.length = xs.length := by omega
      rw [e2, List.take_of_length_le (by rw [List.length_drop]; omega), List.take_of_length_le (by rw [List.length_drop]; omega)]
  · have e1 : min a xs.length = xs.length := by omega
    rw [e1, List.drop_of_length_le (by omega : xs.length ≤ a), List.drop_of_length_le (Nat.le_refl _)]
    simp
theorem cutG_from {α : Type} (xs : List α) (a : Nat) : cutG xs (some (a : Int)) none = xs.drop a := by
  unfold cutG
  rw [HT.sIx_nat, HT.sIx_none]
  by_cases ha : a ≤ xs.length
  · have e1 : min a xs.length = a := by omega
    rw [e1, List.take_of_length_le (by rw [List.length_drop]; omega)]
  · have e1 : min a xs.length = xs.length := by omega
    rw [e1, List.drop_of_length_le (by omega : xs.length ≤ a), List.drop_of_length_le (Nat.le_refl _)]
    simp
theorem cutG_map {α β : Type} (f : α → β) (xs : List α) (lo hi : Option Int) : cutG (xs.map f) lo hi = (cutG xs lo hi).map f := by
  unfold cutG
  rw [List.length_map, ← List.map_drop, ← List.map_take]
end DL

namespace DL
open PySem PySem.Spec PyProof.Rows L2

/-! ### the script: read by one def, which hands back a new object of data -/
abbrev H0p : Hp := fun _ => none
/-- the script at a: a locked list, or one of the text's own; it stays -/
def ScrAt (K : PySem.W.Frag) (H0 : Hp) (a : Addr) (ns : List Int) : Prop := ∀ H, (∀ b o u, H0 b = some (.frz o u) → H b = some (.frz o u)) → SqL K H a (ns.map V.int)
theorem ScrAt.of {K : PySem.W.Frag} {H : Hp} {a : Addr} {ns : List Int} (o : Only H) (h : SqL K H a (ns.map V.int)) : ScrAt K H a ns := fun H' k => by
  rcases h with (h | ⟨ob, h⟩) | h
  · rcases o a with q | ⟨_, _, q⟩
    · rw [h] at q; cases q
    · rw [h] at q; cases q
  · exact .inl (.inr ⟨ob, k _ _ _ h⟩)
  · exact .inr h
def spScr (K : PySem.W.Frag) (pre : List Int → Prop) (hd : List Int → D → Prop) : L2.Sp := fun vs H Q _ => ∃ a ns, vs = [.ref a] ∧ ScrAt K H a ns ∧ pre ns ∧
  ∀ F' H' p d, Ex H H' → Ex F' H' → (∀ b o, F' b = some o → H b = none ∨ ∃ ws, o = .tup ws) → hd ns d → Own F' H' p d → H p = none → Q (.ref p) H'
def spLawD (K : PySem.W.Frag) (pre : List Int → Prop) : L2.Sp := fun vs H Q _ => ∃ a ns, vs = [.ref a] ∧ ScrAt K H a ns ∧ pre ns ∧ ∀ H', Q (.bl true) H'
/-- the law's own end -/
def lawEnds : DEnds where
  nx _ := False
  rt c _ := c = .fz (.bl true)
  bk _ := False
  ct _ := False
section
variable {P : Program} {w : World} {K : PySem.W.Frag} {mg : Str → Option Value} {base : Heap}
theorem law_D {st : Stmt} {x : Str} {N : List Str} {k : Nat} {pre : List Int → Prop} {hd : List Int → D → Prop} {db : DTS} {f : Addr} {fd : FuncData} {E : XK} (FF : Fun K x x st f fd) (sc : FnScope N ["_law_script"] (defScope st)) (hN : 2 ≤ N.length)
    (body : ∀ (cdv : Value) (A : Around) (outer : List PySem.Env) (s : Shared) (H : Hp) (E' : XK), Room k (A.deeper (envOfC x (defScope st) s.heap.objs.size f cdv)) →
      PSs (cxOf CX0 P w K mg base N x (defScope st) f cdv A outer s H E').nox (defBody st) (tSeq (tAsg (tCall (spScr K pre hd) [] E (tCons (tVar 0) tNil)) (gName 1)) (tS db)))
    (sem : ∀ ns d, pre ns → hd ns d → db lawEnds (.un :: .ow d :: List.replicate (N.length - 2) .un)) : FnOk P w K mg base CX0 (k + 1) f fd ["_law_script"] (spLawD K pre) := by
  refine FF.ok sc (fun vs H Q E h => ?_) (fun cdv A outer s H vs Q E h1 h => ⟨_, body cdv A outer s H E h1, ?_⟩)
  · obtain ⟨a, ns, rfl, _⟩ := h; rfl
  · obtain ⟨a, ns, rfl, hS, hp, q⟩ := h
    have es : L2.start N [V.ref a] = some (.ref a) :: none :: List.replicate (N.length - 2) none := by
      unfold L2.start
      show [some (V.ref a)] ++ List.replicate (N.length - 1) none = _
      obtain ⟨m, hm⟩ : ∃ m, N.length = m + 2 := ⟨N.length - 2, by omega⟩
      rw [hm, show m + 2 - 1 = m + 1 by omega, show m + 2 - 2 = m by omega, List.replicate_succ]
      rfl
    rw [es]
    refine ⟨.ref a, rfl, a, ns, rfl, hS, hp, fun F' H' p d ex exF new hhd own hpn => ?_⟩
    show tS db _ (some (.ref a) :: some (.ref p) :: List.replicate (N.length - 2) none) H'
    have un : ∀ {j : Nat} {c : Cell}, (Cell.un :: Cell.ow d :: List.replicate (N.length - 2) Cell.un)[j]? = some c → j = 1 ∧ c = .ow d ∨ c = .un := fun {j c} h => by
      cases j with
      | zero => cases h; exact .inr rfl
      | succ j =>
        cases j with
        | zero => cases h; exact .inl ⟨rfl, rfl⟩
        | succ j =>
          rw [List.getElem?_cons_succ, List.getElem?_cons_succ] at h
          have := List.mem_of_getElem? h
          exact .inr (List.eq_of_mem_replicate this)
    refine ⟨⟨H, H0p, [], fun _ => none, fun _ => none, nofun⟩, F', _, lawEnds, ⟨by simp, fun j v c h1 h2 => ?_, fun i j ci cj b ne h1 h2 o1 o2 s1 s2 => ?_, exF, fun b o h _ => ex b o h, fun b o h => .inr (new b o h), fun a ha => absurd ha (by simp), fun b o h => absurd (show (none : Option HO) = some o from h) (by simp)⟩, sem ns d hp hhd, ⟨fun _ _ _ _ _ _ h => h.elim, fun F3 σ3 H3 ρ3 v c k3 e3 t h => ?_, fun _ _ _ _ _ _ h => h.elim, fun _ _ _ _ _ _ h => h.elim⟩⟩
    · rcases un h2 with ⟨ej, ec⟩ | ec
      · subst ej ec
        cases h1
        exact ⟨p, rfl, own, hpn⟩
      · subst ec; trivial
    · rcases un h1 with ⟨ei, ec⟩ | ec
      · rcases un h2 with ⟨ej, ec2⟩ | ec2
        · exact ne (ei.trans ej.symm)
        · subst ec2; cases o2
      · subst ec; cases o1
    · have h : c = .fz (.bl true) := h
      subst h
      have t : Rep F3 v (.bl true) := t
      cases t
      exact q H3
/-- what the def that reads the script must hand back -/
def handEnds (hd : D → Prop) : DEnds where
  nx _ := False
  rt c _ := ∃ d, c = .ow d ∧ hd d
  bk _ := False
  ct _ := False
theorem hand_ok {st : Stmt} {x : Str} {N : List Str} {f : Addr} {fd : FuncData} {k : Nat} {pre : List Int → Prop} {hd : List Int → D → Prop} {db : Addr → List Int → DTS} (FF : Fun K x x st f fd) (sc : FnScope N ["_law_script"] (defScope st)) (hN : 1 ≤ N.length)
    (body : ∀ (a : Addr) (ns : List Int), pre ns → ∀ (cdv : Value) (A : Around) (outer : List PySem.Env) (s : Shared) (H : Hp) (E' : XK), ScrAt K H a ns → Room k (A.deeper (envOfC x (defScope st) s.heap.objs.size f cdv)) →
      PSs (cxOf CX0 P w K mg base N x (defScope st) f cdv A outer s H E').nox (defBody st) (tS (db a ns)))
    (sem : ∀ a ns, pre ns → db a ns (handEnds (hd ns)) (.fz (.scr a ns) :: List.replicate (N.length - 1) .un)) :
    FnOk P w K mg base CX0 (k + 1) f fd ["_law_script"] (spScr K pre hd) := by
  refine FF.ok sc (fun vs H Q E h => ?_) (fun cdv A outer s H vs Q E h1 h => ?_)
  · obtain ⟨a, ns, rfl, _⟩ := h; rfl
  · obtain ⟨a, ns, rfl, hS, hp, q⟩ := h
    refine ⟨_, body a ns hp cdv A outer s H E hS h1, ?_⟩
    have es : L2.start N [V.ref a] = some (.ref a) :: List.replicate (N.length - 1) none := by
      unfold L2.start
      rfl
    rw [es]
    have un : ∀ {j : Nat} {c : Cell}, (Cell.fz (.scr a ns) :: List.replicate (N.length - 1) Cell.un)[j]? = some c → j = 0 ∧ c = .fz (.scr a ns) ∨ c = .un := fun {j c} h => by
      cases j with
      | zero => cases h; exact .inl ⟨rfl, rfl⟩
      | succ j =>
        rw [List.getElem?_cons_succ] at h
        exact .inr (List.eq_of_mem_replicate (List.mem_of_getElem? h))
    refine ⟨⟨H, H0p, [], fun _ => none, fun _ => none, nofun⟩, H0p, _, handEnds (hd ns), ⟨by simp, fun j v c h1 h2 => ?_, fun i j ci cj b ne h1 h2 o1 o2 s1 s2 => ?_, fun b o h => absurd (show (none : Option HO) = some o from h) (by simp), fun b o h _ => h, fun b o h => absurd (show (none : Option HO) = some o from h) (by simp), fun a ha => absurd ha (by simp), fun b o h => absurd (show (none : Option HO) = some o from h) (by simp)⟩, sem a ns hp,
      ⟨fun _ _ _ _ _ _ h => h.elim, fun F3 σ3 H3 ρ3 v c k3 e3 t h => ?_, fun _ _ _ _ _ _ h => h.elim, fun _ _ _ _ _ _ h => h.elim⟩⟩
    · rcases un h2 with ⟨ej, ec⟩ | ec
      · subst ej ec
        cases h1
        exact ⟨_, rfl, .scr a ns⟩
      · subst ec; trivial
    · rcases un h1 with ⟨ei, ec⟩ | ec
      · subst ec; cases o1
      · subst ec; cases o1
    · obtain ⟨d, rfl, hdd⟩ := h
      obtain ⟨p, rfl, own, hpn, _⟩ := t
      exact q F3 H3 p d (fun b o h => k3.frame b o h (by simp)) k3.ex (fun b o h => (k3.new b o h).elim (fun z => absurd (show (none : Option HO) = some o from z) (by simp)) fun z => z) hdd own hpn
end
section
variable {X : Cx} {x : Str} {q p p2 pos : Pos} {lo hi : Option Expr} {dl dh : DTO} {a : Addr} {ns : List Int}
theorem ScrAt.at_ {pins : List (Addr × Obj)} {σ : L2.St} {H : Hp} {s : Shared} (h : ScrAt X.K X.H_0 a ns) (I : Inv X pins σ H s) : SqL X.K H a (ns.map V.int) := h H I.base.frzs
/-- script[lo:hi]: a new list -/
def dScrSl (i : Nat) (a : Addr) (ns : List Int) (dl dh : DTO) : DTE := fun ρ Q => ρ[i]? = some (.fz (.scr a ns)) ∧ dl ρ fun lo ρ2 => dh ρ2 fun hi ρ3 => Q (.lst ((cutG ns lo hi).map .int)) ρ3
def rSlScr (a : Addr) (ns : List Int) : V → Option Int → Option Int → Hp → VK → Prop := fun x lo hi H Q => x = .ref a ∧ ∀ p, H p = none → Q (.ref p) (upd H p (.lst (cutV (ns.map V.int) lo hi)))
theorem sl_scr (h : ScrAt X.K X.H_0 a ns) : SlR X (rSlScr a ns) := by
  intro pins s σ H x v vl vu lo hi sl Q I rx hs pl pu ⟨e, q⟩
  exact sl_list pins s σ H x v vl vu lo hi sl Q I rx hs pl pu ⟨a, _, e, h.at_ I, q⟩
theorem reps_ints' {F : Hp} : ∀ ns : List Int, Reps F (ns.map V.int) (ns.map D.int)
  | [] => .nil
  | n :: ns => .cons (.int n) (reps_ints' ns)
theorem de_scrSl (i : Nat) (hz : ns.length ≤ sizeLine) (h : ScrAt X.K X.H_0 a ns) (ha : PE X (.Name x q) (tVar i)) (hl : PO X lo (tO dl)) (hh : PO X hi (tO dh)) : PE X (.Subscript (.Name x q) (.Slice lo hi none p2) pos) (tE (dScrSl i a ns dl dh)) := by
  refine pe_imp (pe_slice (sl_scr h) ha hl hh) fun σ H Q ⟨g, F, ρ, Qd, k, ⟨h0, h1⟩, c⟩ => ?_
  obtain ⟨v, hv, y, ey, r⟩ := k.slot h0
  subst ey
  cases r
  refine ⟨.ref a, hv, g, F, ρ, _, k, h1, fun F2 H2 ρ2 lo k2 e2 h2 => ⟨g, F2, ρ2, _, k2, h2, fun F3 H3 ρ3 hi k3 e3 h3 => ⟨rfl, fun p hp => ?_⟩⟩⟩
  have G := Grow.alloc (o := .lst (cutV (ns.map V.int) lo hi)) k3.ex hp
  have ec : cutV (ns.map V.int) lo hi = (cutG ns lo hi).map V.int := cutG_map V.int ns lo hi
  refine c _ _ ρ3 _ _ (k3.grow G) ((e2.trans e3).trans G.exF) (.lst upd_same ?_ ?_) h3
  · rw [ec]; exact reps_ints' _
  · rw [List.length_map]; exact Nat.le_trans (cutG_length _ _ _) hz
/-- len(script), list(script) -/
def dScrLen (i : Nat) (a : Addr) (ns : List Int) : DTE := fun ρ Q => ρ[i]? = some (.fz (.scr a ns)) ∧ Q (.int (ns.length : Nat)) ρ
theorem de_scrLen (i : Nat) (h : ScrAt X.K X.H_0 a ns) (hm : X.mg "len" = none) (ha : PE X (.Name x q) (tVar i)) (hg : Gl X "len" := by rfl)
    (he : starEach [.Name x q] X.env = (false, eval (.Name x q) X.env) :: starEach [] X.env := by rfl) (hpl : (backTo pos (starEach [] X.env)).any (·.1) = false := by rfl) : PE X (.Call (.Name "len" p) [.Name x q] [] pos) (tE (dScrLen i a ns)) := by
  have cr : CallR X (.builtin "len") (fun xs H Q => xs = [.ref a] ∧ Q (.int (ns.length : Nat)) H) := by
    intro pins s σ H xs us Q I rv ⟨e, qq⟩
    subst e
    exact call_len pins s σ H _ us Q I rv ⟨_, _, rfl, .inl ⟨_, h.at_ I, rfl⟩, by rw [List.length_map]; exact qq⟩
  refine pe_imp (pe_callB cr hg hm boot_len (pa_cons ha pa_nil he) (by decide) (by decide) he hpl) fun σ H Q ⟨g, F, ρ, Qd, k, ⟨h0, h1⟩, c⟩ => ?_
  obtain ⟨v, hv, y, ey, r⟩ := k.slot h0
  subst ey
  cases r
  exact ⟨.ref a, hv, rfl, c F H ρ _ _ k (Ex.refl _) (.int _) h1⟩
def dScrList (i : Nat) (a : Addr) (ns : List Int) : DTX := fun ρ Q => ρ[i]? = some (.fz (.scr a ns)) ∧ Q (.ow (.lst (ns.map .int))) ρ
theorem dx_scrList (i : Nat) (hz : ns.length ≤ sizeLine) (h : ScrAt X.K X.H_0 a ns) (hm : X.mg "list" = none) (ha : PE X (.Name x q) (tVar i)) (hg : Gl X "list" := by rfl) (hv : bootBuiltins "list" = some (.type "list") := by first | rfl | decide +kernel)
    (he : starEach [.Name x q] X.env = (false, eval (.Name x q) X.env) :: starEach [] X.env := by rfl) (hpl : (backTo pos (starEach [] X.env)).any (·.1) = false := by rfl) : PE X (.Call (.Name "list" p) [.Name x q] [] pos) (tX (dScrList i a ns)) := by
  have cr : CallR X (.type "list") (fun xs H Q => xs = [.ref a] ∧ ∀ l, H l = none → Q (.ref l) (upd H l (.lst (ns.map V.int)))) := by
    intro pins s σ H xs us Q I rv ⟨e, qq⟩
    subst e
    exact call_list_of pins s σ H _ us Q I rv ⟨_, _, rfl, .inl (h.at_ I), qq⟩
  refine pe_imp (pe_callTy cr hg hm hv (pa_cons ha pa_nil he) (by decide) (by decide) he hpl) fun σ H Q ⟨g, F, ρ, Qd, k, ⟨h0, h1⟩, c⟩ => ?_
  obtain ⟨v, hv, y, ey, r⟩ := k.slot h0
  subst ey
  cases r
  refine ⟨.ref a, hv, rfl, fun l hl => ?_⟩
  obtain ⟨k2, t⟩ := k.newOw (o := .lst (ns.map V.int)) (d := .lst (ns.map .int)) hl ⟨k.ex.none hl, ⟨_, upd_same, reps_ints' ns⟩, by rw [List.length_map]; exact hz⟩
  exact c _ _ ρ _ _ k2 (Ex.refl _) t h1
end
end DL

namespace DL
open PySem PySem.Spec PyProof.Rows L2

/-! ### keys -/
def keyK : D → Option Key
  | .int i => some (.inl i)
  | .str l => some (.inr (S l))
  | _ => none
def keysK : List D → Option (List Key)
  | [] => some []
  | d :: ds => (keyK d).bind fun k => (keysK ds).map (k :: ·)
def keyT : D → Option (List Key)
  | .tup ds => keysK ds
  | _ => none
def okK (t : Bool) (d : D) : Bool := if t = true then (keyT d).isSome else (keyK d).isSome
theorem keyK_kD {d : D} {k : Key} (h : keyK d = some k) : kD k = d := by
  cases d <;> first | (cases h; rfl) | cases h
theorem keysK_kD : ∀ {ds : List D} {k : List Key}, keysK ds = some k → k.map kD = ds
  | [], _, h => by cases h; rfl
  | d :: ds, k, h => by
    cases h1 : keyK d with
    | none => simp [keysK, h1] at h
    | some k1 =>
      cases h2 : keysK ds with
      | none => simp [keysK, h1, h2] at h
      | some k2 =>
        simp [keysK, h1, h2] at h
        subst h
        rw [List.map_cons, keyK_kD h1, keysK_kD h2]
theorem keyT_tD {d : D} {k : List Key} (h : keyT d = some k) : tD k = d := by
  cases d <;> first | (cases h; done) | skip
  exact congrArg D.tup (keysK_kD h)
theorem kD_eq {k' k : Key} {d : D} (h : keyK d = some k) : (kD k').eq d = decide (k' = k) := by
  cases d <;> first | (cases h; done) | skip
  · cases h
    cases k' with
    | inl i =>
      rename_i j
      show (i == j) = decide (Sum.inl i = Sum.inl j)
      by_cases e : i = j
      · subst e; simp
      · simp [e]
    | inr x =>
      show false = _
      rw [decide_eq_false (fun z => nomatch z)]
  · cases h
    cases k' with
    | inl i =>
      show false = _
      rw [decide_eq_false (fun z => nomatch z)]
    | inr x =>
      rename_i l
      show (x.cps.toList == l) = decide (Sum.inr x = Sum.inr (S l))
      by_cases e : x.cps.toList = l
      · have : x = S l := by rw [← e, S_toList]
        rw [decide_eq_true (by rw [this])]
        simp [e]
      · rw [decide_eq_false (fun z => e (by cases z; rfl))]
        simp [e]
theorem ksD_eq : ∀ {ds : List D} {k' k : List Key}, keysK ds = some k → eqs (k'.map kD) ds = decide (k' = k)
  | [], [], _, h => by cases h; rfl
  | [], x :: xs, _, h => by cases h; simp [eqs]
  | d :: ds, k', k, h => by
    cases h1 : keyK d with
    | none => simp [keysK, h1] at h
    | some k1 =>
      cases h2 : keysK ds with
      | none => simp [keysK, h1, h2] at h
      | some k2 =>
        simp [keysK, h1, h2] at h
        subst h
        cases k' with
        | nil => simp [eqs]
        | cons x xs =>
          have q1 := kD_eq (k' := x) h1
          have q2 := ksD_eq (k' := xs) h2
          show ((kD x).eq d && eqs (xs.map kD) ds) = _
          rw [q1, q2]
          by_cases e : x = k1
          · subst e; simp
          · simp [e]
theorem tD_eq {k' k : List Key} {d : D} (h : keyT d = some k) : (tD k').eq d = decide (k' = k) := by
  cases d <;> first | (cases h; done) | skip
  exact ksD_eq h
theorem Rep.key {F : Hp} {y : V} {d : D} {k : Key} (r : Rep F y d) (h : keyK d = some k) : y = kV k := by
  cases d <;> first | (cases h; done) | skip
  · cases h; cases r; rfl
  · cases h; cases r; rfl
theorem Reps.keys {F : Hp} : ∀ {ys : List V} {ds : List D} {k : List Key}, Reps F ys ds → keysK ds = some k → ys = k.map kV
  | _, _, _, .nil, h => by cases h; rfl
  | _, _, k, @Reps.cons _ v d vs ds r t, h => by
    cases h1 : keyK d with
    | none => simp [keysK, h1] at h
    | some k1 =>
      cases h2 : keysK ds with
      | none => simp [keysK, h1, h2] at h
      | some k2 =>
        simp [keysK, h1, h2] at h
        subst h
        rw [List.map_cons, r.key h1, Reps.keys t h2]
theorem Rep.keyT {F : Hp} {y : V} {d : D} {k : List Key} (r : Rep F y d) (h : keyT d = some k) : ∃ b, y = .ref b ∧ F b = some (.tup (k.map kV)) ∧ k.length ≤ sizeLine ∧ Reps F (k.map kV) (k.map kD) := by
  cases d <;> first | (cases h; done) | skip
  cases r with
  | tup h1 r z =>
    have e := r.keys h
    have e2 := keysK_kD h
    subst e
    refine ⟨_, rfl, h1, ?_, ?_⟩
    · rw [← e2, List.length_map] at z; exact z
    · rw [e2]; exact r
/-! ### reading, writing a dict of data -/
def getDD (kvs : List (D × D)) (k : D) : Option D := (kvs.find? fun p => p.1.eq k).map (·.2)
def putDD (kvs : List (D × D)) (k v : D) : List (D × D) := if (kvs.any fun p => p.1.eq k) = true then kvs.map (fun p => if p.1.eq k = true then (p.1, v) else p) else kvs ++ [(k, v)]
section
variable {F : Hp}
theorem RepK.get {d : D} {k : Key} (h : keyK d = some k) : ∀ {ks : List (Key × V)} {ds : List (D × D)}, RepK F ks ds → (∃ v r, valV ks k = some v ∧ getDD ds d = some r ∧ Rep F v r) ∨ (valV ks k = none ∧ getDD ds d = none)
  | _, _, .nil => .inr ⟨rfl, rfl⟩
  | _, _, @RepK.cons _ k' v r ks ds hk rr t => by
    have q := kD_eq (k' := k') h
    by_cases e : k' = k
    · left
      refine ⟨v, r, valV_pos e, ?_, rr⟩
      rw [decide_eq_true e] at q
      simp [getDD, List.find?_cons, q]
    · rw [decide_eq_false e] at q
      have e1 : valV ((k', v) :: ks) k = valV ks k := valV_neg e
      have e2 : getDD ((kD k', r) :: ds) d = getDD ds d := by
        simp [getDD, List.find?_cons, q]
      rw [e1, e2]
      exact RepK.get h t
theorem RepK.any_ {d : D} {k : Key} (h : keyK d = some k) : ∀ {ks : List (Key × V)} {ds : List (D × D)}, RepK F ks ds → (ks.any fun kv => decide (kv.1 = k)) = ds.any fun p => p.1.eq d
  | _, _, .nil => rfl
  | _, _, @RepK.cons _ k' v r ks ds hk rr t => by
    rw [List.any_cons, List.any_cons, RepK.any_ h t]
    show (decide (k' = k) || _) = ((kD k').eq d || _)
    rw [kD_eq h]
theorem RepK.over {d : D} {k : Key} (h : keyK d = some k) {v : V} {r : D} (rv : Rep F v r) : ∀ {ks : List (Key × V)} {ds : List (D × D)}, RepK F ks ds → RepK F (ks.map fun kv => if kv.1 = k then (kv.1, v) else kv) (ds.map fun p => if p.1.eq d = true then (p.1, r) else p)
  | _, _, .nil => .nil
  | _, _, @RepK.cons _ k' v' r' ks ds hk rr t => by
    rw [List.map_cons, List.map_cons]
    have q := kD_eq (k' := k') h
    by_cases e : k' = k
    · rw [decide_eq_true e] at q
      rw [if_pos e, if_pos q]
      exact .cons hk rv (RepK.over h rv t)
    · rw [decide_eq_false e] at q
      rw [if_neg e, if_neg (by rw [q]; simp)]
      exact .cons hk rr (RepK.over h rv t)
theorem RepK.append : ∀ {ks ls : List (Key × V)} {ds es : List (D × D)}, RepK F ks ds → RepK F ls es → RepK F (ks ++ ls) (ds ++ es)
  | _, _, _, _, .nil, t => t
  | _, _, _, _, .cons a b t, u => .cons a b (RepK.append t u)
theorem RepK.put {d : D} {k : Key} (h : keyK d = some k) {y v : V} {r : D} (ry : Rep F y d) (rv : Rep F v r) {ks : List (Key × V)} {ds : List (D × D)} (t : RepK F ks ds) : RepK F (putK ks k v) (putDD ds d r) := by
  unfold putK putDD
  rw [RepK.any_ h t]
  by_cases e : (ds.any fun p => p.1.eq d) = true
  · rw [if_pos e, if_pos e]
    exact t.over h rv
  · rw [if_neg e, if_neg e]
    have e1 := ry.key h
    have e2 := keyK_kD h
    rw [e1, ← e2] at ry
    have := RepK.append t (.cons ry rv .nil)
    rw [e2] at this
    exact this
theorem RepT.get {d : D} {k : List Key} (h : keyT d = some k) : ∀ {ks : List (List Key × V)} {ds : List (D × D)}, RepT F ks ds → (∃ v r, valV ks k = some v ∧ getDD ds d = some r ∧ Rep F v r) ∨ (valV ks k = none ∧ getDD ds d = none)
  | _, _, .nil => .inr ⟨rfl, rfl⟩
  | _, _, @RepT.cons _ k' v r ks ds hk hz rr t => by
    have q := tD_eq (k' := k') h
    by_cases e : k' = k
    · left
      refine ⟨v, r, valV_pos e, ?_, rr⟩
      rw [decide_eq_true e] at q
      simp [getDD, List.find?_cons, q]
    · rw [decide_eq_false e] at q
      have e1 : valV ((k', v) :: ks) k = valV ks k := valV_neg e
      have e2 : getDD ((tD k', r) :: ds) d = getDD ds d := by
        simp [getDD, List.find?_cons, q]
      rw [e1, e2]
      exact RepT.get h t
theorem RepT.any_ {d : D} {k : List Key} (h : keyT d = some k) : ∀ {ks : List (List Key × V)} {ds : List (D × D)}, RepT F ks ds → (ks.any fun kv => decide (kv.1 = k)) = ds.any fun p => p.1.eq d
  | _, _, .nil => rfl
  | _, _, @RepT.cons _ k' v r ks ds hk hz rr t => by
    rw [List.any_cons, List.any_cons, RepT.any_ h t]
    show (decide (k' = k) || _) = ((tD k').eq d || _)
    rw [tD_eq h]
theorem RepT.over {d : D} {k : List Key} (h : keyT d = some k) {v : V} {r : D} (rv : Rep F v r) : ∀ {ks : List (List Key × V)} {ds : List (D × D)}, RepT F ks ds → RepT F (ks.map fun kv => if kv.1 = k then (kv.1, v) else kv) (ds.map fun p => if p.1.eq d = true then (p.1, r) else p)
  | _, _, .nil => .nil
  | _, _, @RepT.cons _ k' v' r' ks ds hk hz rr t => by
    rw [List.map_cons, List.map_cons]
    have q := tD_eq (k' := k') h
    by_cases e : k' = k
    · rw [decide_eq_true e] at q
      rw [if_pos e, if_pos q]
      exact .cons hk hz rv (RepT.over h rv t)
    · rw [decide_eq_false e] at q
      rw [if_neg e, if_neg (by rw [q]; simp)]
      exact .cons hk hz rr (RepT.over h rv t)
theorem RepT.append : ∀ {ks ls : List (List Key × V)} {ds es : List (D × D)}, RepT F ks ds → RepT F ls es → RepT F (ks ++ ls) (ds ++ es)
  | _, _, _, _, .nil, t => t
  | _, _, _, _, .cons a z b t, u => .cons a z b (RepT.append t u)
theorem RepT.put {d : D} {k : List Key} (h : keyT d = some k) {y v : V} {r : D} (ry : Rep F y d) (rv : Rep F v r) {ks : List (List Key × V)} {ds : List (D × D)} (t : RepT F ks ds) : RepT F (putK ks k v) (putDD ds d r) := by
  unfold putK putDD
  rw [RepT.any_ h t]
  by_cases e : (ds.any fun p => p.1.eq d) = true
  · rw [if_pos e, if_pos e]
    exact t.over h rv
  · rw [if_neg e, if_neg e]
    obtain ⟨b, _, _, hz, hk⟩ := ry.keyT h
    have := RepT.append t (.cons hk hz rv .nil)
    rw [keyT_tD h] at this
    exact this
end
/-! ### a dict is locked, and stays -/
section
variable {g : Gd} {F F' H H' : Hp} {σ : L2.St} {ρ : Env}
/-- an object at hand is turned into another, which is tracked from now on -/
theorem EOk.swapTmp (k : EOk g F σ H ρ) {a : Addr} {d : D} (t : Tmp g F σ H ρ (.ref a) (.ow d)) (o : HO) : EOk g (upd F a o) σ (upd H a o) ρ ∧ Ex F (upd F a o) := by
  obtain ⟨b, e, own, h0, no, npr⟩ := t
  cases e
  have nF := own.no
  have eF : Ex F (upd F a o) := Ex.new nF
  obtain ⟨u0, hu0⟩ := own.there
  refine ⟨⟨k.len, fun i v c h1 h2 => ?_, k.dist, fun b u hb => ?_, fun b u hb nb => ?_, fun b u hb => ?_, fun b hb => ?_, fun b u hb => ?_⟩, eF⟩
  · have q := k.cell i v c h1 h2
    cases c with
    | un => trivial
    | fz d => obtain ⟨x, e, r⟩ := q; exact ⟨x, e, r.mono eF⟩
    | ow d =>
      obtain ⟨b, e, r, n⟩ := q
      have hb : b ≠ a := fun z => no i _ h2 rfl (by rw [h1, e, z])
      exact ⟨b, e, r.mono eF (by rw [upd_ne hb]; exact r.no) fun o z => by rw [upd_ne hb]; exact z, n⟩
    | io d =>
      obtain ⟨b, e, r, n⟩ := q
      have hb : b ≠ a := fun z => no i _ h2 rfl (by rw [h1, e, z])
      exact ⟨b, e, r.mono eF (by rw [upd_ne hb]; exact r.no) fun o z => by rw [upd_ne hb]; exact z, n⟩
  · by_cases e : b = a
    · subst e; rw [upd_same] at hb ⊢; exact hb
    · rw [upd_ne e] at hb ⊢; exact k.ex b u hb
  · have e : b ≠ a := fun z => by subst z; rw [h0] at hb; cases hb
    rw [upd_ne e]; exact k.frame b u hb nb
  · by_cases e : b = a
    · subst e; exact .inr (.inl h0)
    · rw [upd_ne e] at hb; exact k.new b u hb
  · obtain ⟨u, hu⟩ := k.iosH b hb
    by_cases e : b = a
    · subst e; exact ⟨o, upd_same⟩
    · exact ⟨u, by rw [upd_ne e]; exact hu⟩
  · obtain ⟨h1, h2, h3, h4⟩ := k.prot b u hb
    have e : b ≠ a := fun z => by subst z; rw [npr] at hb; cases hb
    exact ⟨by rw [upd_ne e]; exact h1, by rw [upd_ne e]; exact h2, h3, h4⟩
theorem Own.dic_obj {a : Addr} {t : Bool} {kvs : List (D × D)} (o : Own F H a (.dic t false kvs)) : ∃ u, H a = some u ∧ Mut (some u) ∧ ∀ od : Obj, Ex F F' → F' a = some (.frz od u) → Rep F' (.ref a) (.dic t true kvs) := by
  cases t with
  | false =>
    obtain ⟨_, ks, h, r⟩ := o
    exact ⟨_, h, trivial, fun od e q => .dKf q (r.mono e)⟩
  | true =>
    obtain ⟨_, ks, h, r⟩ := o
    exact ⟨_, h, trivial, fun od e q => .dTf q (r.mono e)⟩
theorem EOk.lockD (k : EOk g F σ H ρ) {i : Nat} {t : Bool} {kvs : List (D × D)} (h : ρ[i]? = some (.ow (.dic t false kvs))) :
    ∃ a u, σ[i]? = some (some (.ref a)) ∧ H a = some u ∧ Mut (some u) ∧ ∀ od : Obj, ∃ F', EOk g F' σ (upd H a (.frz od u)) (ρ.set i (.fz (.dic t true kvs))) ∧ Ex F F' ∧ Rep F' (.ref a) (.dic t true kvs) ∧ F' a = some (.frz od u) := by
  obtain ⟨v, hv, k1, tm⟩ := k.move h
  obtain ⟨a, rfl, own, h0, no, npr⟩ := id tm
  obtain ⟨u, hu, mu, rf⟩ := own.dic_obj (F' := F)
  refine ⟨a, u, hv, hu, mu, fun od => ?_⟩
  obtain ⟨k2, e2⟩ := k1.swapTmp tm (.frz od u)
  obtain ⟨u', hu', _, rf'⟩ := own.dic_obj (F' := upd F a (.frz od u))
  rw [hu] at hu'
  cases hu'
  have r := rf' od e2 upd_same
  have k3 := k2.set (i := i) r
  have es : σ.set i (some (V.ref a)) = σ := by
    apply List.ext_getElem?
    intro j
    by_cases e : i = j
    · subst e; rw [List.getElem?_set_self (List.getElem?_eq_some_iff.mp hv).1, hv]
    · rw [List.getElem?_set_ne e]
  rw [es, List.set_set] at k3
  exact ⟨_, k3, e2, r, upd_same⟩
end
section
variable {X : Cx} {e a b : Expr} {pos p : Pos} {da db : DTE} {x : Str} {k : Nat}
/-- {}: a new dict, of plain keys or of tuples -/
def dDic (t : Bool) : DTX := fun ρ Q => Q (.ow (.dic t false [])) ρ
theorem dx_dicK : PE X (.Dict [] [] pos) (tX (dDic false)) := pe_imp pe_dnewK fun σ H Q ⟨g, F, ρ, Qd, k, h, c⟩ q hq => by
  obtain ⟨k2, t⟩ := k.newOw (o := .dK []) (d := .dic false false []) hq ⟨k.ex.none hq, [], upd_same, .nil⟩
  exact c _ _ ρ _ _ k2 (Ex.refl _) t h
theorem dx_dicT : PE X (.Dict [] [] pos) (tX (dDic true)) := pe_imp pe_dnewT fun σ H Q ⟨g, F, ρ, Qd, k, h, c⟩ q hq => by
  obtain ⟨k2, t⟩ := k.newOw (o := .dT []) (d := .dic true false []) hq ⟨k.ex.none hq, [], upd_same, .nil⟩
  exact c _ _ ρ _ _ k2 (Ex.refl _) t h
/-- a name of a dict that is read or walked from now on -/
def dLock (i : Nat) : DTE := fun ρ Q => match ρ[i]? with
  | some (.fz d) => Q d ρ
  | some (.ow (.dic t false kvs)) => Q (.dic t true kvs) (ρ.set i (.fz (.dic t true kvs)))
  | _ => False
theorem de_lock (i : Nat) {q : Pos} (h : PE X (.Name x q) (tVar i)) : PE X (.Name x q) (tE (dLock i)) := by
  refine ⟨fun pins s σ H Q I ⟨g, F, ρ, Qd, k, hd, c⟩ => ?_⟩
  unfold dLock at hd
  split at hd
  · rename_i d hc
    obtain ⟨v, hv, y, ey, r⟩ := k.slot hc
    subst ey
    exact h.run pins s σ H Q I ⟨y, hv, c F H ρ y d k (Ex.refl _) r hd⟩
  · rename_i t kvs hc
    obtain ⟨a, u, hv, hu, mu, lk⟩ := k.lockD hc
    obtain ⟨od, I1⟩ := I.lock hu mu
    obtain ⟨F', k', e', r, _⟩ := lk od
    exact h.run pins s σ _ Q I1 ⟨.ref a, hv, c F' _ _ _ _ k' e' r hd⟩
  · exact hd.elim
/-- what a dict gives for a key -/
theorem dget_of {F H : Hp} {v y : V} {t lk : Bool} {kvs : List (D × D)} {d : D} (ex : Ex F H) (r : RepB F H v (.dic t lk kvs)) (ry : Rep F y d) (ok : okK t d = true) :
    ∃ a o, v = .ref a ∧ DGet H a y o ∧ ((∃ w r, o = some w ∧ getDD kvs d = some r ∧ Rep F w r) ∨ (o = none ∧ getDD kvs d = none)) := by
  obtain ⟨a, e, ⟨rfl, ks, q, rr⟩ | ⟨rfl, ks, q, rr⟩⟩ := r.dic ex
  · cases h : keyK d with
    | none => simp [okK, h] at ok
    | some k =>
      refine ⟨a, valV ks k, e, .inl ⟨ks, k, q, ry.key h, rfl⟩, ?_⟩
      exact rr.get h
  · cases h : keyT d with
    | none => simp [okK, h] at ok
    | some k =>
      obtain ⟨b, ey, hb, _, _⟩ := ry.keyT h
      exact ⟨a, valV ks k, e, .inr ⟨ks, k, b, q, ey, ex _ _ hb, rfl⟩, rr.get h⟩
/-- d[k], d a name -/
def dGetS (i : Nat) (db : DTE) : DTE := fun ρ Q => (cv ρ i).isSome = true ∧ db ρ fun y ρ2 => match cv ρ2 i with
  | some (.dic t _ kvs) => okK t y = true ∧ match getDD kvs y with
    | some r => Q r ρ2
    | none => False
  | _ => False
theorem de_getS (i : Nat) {q : Pos} (hr : Room k X.A) (ha : PE X (.Name x q) (tVar i)) (hb : PE X b (tE db)) (hs : NoSl b := by intro _ _; rfl) : PE X (.Subscript (.Name x q) b pos) (tE (dGetS i db)) := by
  refine pe_imp (pe_dget (by have := hr.units; omega) ha hb hs) fun σ H Q ⟨g, F, ρ, Qd, k, ⟨h0, h⟩, c⟩ => ?_
  obtain ⟨d0, e0⟩ := Option.isSome_iff_exists.mp h0
  obtain ⟨w, hw, _⟩ := k.read e0
  refine ⟨w, hw, g, F, ρ, _, k, h, fun F1 H1 ρ1 y d k1 e1 r1 h1 => ?_⟩
  cases hc : cv ρ1 i with
  | none => simp only [hc] at h1
  | some dd =>
    cases dd <;> first | (simp only [hc] at h1; done) | skip
    rename_i t lk kvs
    simp only [hc] at h1
    obtain ⟨ok, h1⟩ := h1
    obtain ⟨w2, hw2, rb⟩ := k1.read hc
    rw [hw] at hw2
    cases hw2
    obtain ⟨a, o, e, dg, cs⟩ := dget_of k1.ex rb r1 ok
    rcases cs with ⟨w3, r3, eo, eg, rr⟩ | ⟨_, eg⟩
    · rw [eg] at h1
      subst eo
      exact ⟨a, w3, e, dg, c F1 H1 ρ1 w3 r3 k1 e1 rr h1⟩
    · rw [eg] at h1; exact h1.elim
/-- d[k], d what is read (kept) -/
def oGet : DOp := fun d y K => match d with
  | .dic t _ kvs => okK t y = true ∧ match getDD kvs y with
    | some r => K r
    | none => False
  | _ => False
theorem de_get (hr : Room k X.A) (ha : PE X a (tE da)) (hb : PE X b (tE db)) (hs : NoSl b := by intro _ _; rfl) : PE X (.Subscript a b pos) (tE (dBin oGet da db)) := by
  refine pe_imp (pe_dget (by have := hr.units; omega) ha hb hs) fun σ H Q ⟨g, F, ρ, Qd, k, h, c⟩ => ?_
  refine ⟨g, F, ρ, _, k, h, fun F1 H1 ρ1 v d k1 e1 r1 h1 => ⟨g, F1, ρ1, _, k1, h1, fun F2 H2 ρ2 y d2 k2 e2 r2 h2 => ?_⟩⟩
  cases d <;> first | exact h2.elim | skip
  rename_i t lk kvs
  obtain ⟨ok, h2⟩ := h2
  obtain ⟨a, o, e, dg, cs⟩ := dget_of k2.ex (.inl (r1.mono e2)) r2 ok
  rcases cs with ⟨w3, r3, eo, eg, rr⟩ | ⟨_, eg⟩
  · rw [eg] at h2
    subst eo
    exact ⟨a, w3, e, dg, c F2 H2 ρ2 w3 r3 k2 (e1.trans e2) rr h2⟩
  · rw [eg] at h2; exact h2.elim
/-- d[k] = v, d a name of one's own dict -/
def dStD (i : Nat) (dv dj : DTE) : DTS := fun D ρ => dv ρ fun v ρ1 => (cv ρ1 i).isSome = true ∧ dj ρ1 fun y ρ2 => match ρ2[i]? with
  | some c => c.own = true ∧ match c.val with
    | some (.dic t false kvs) => okK t y = true ∧ kvs.length < sizeLine ∧ D.nx (ρ2.set i (c.up (.dic t false (putDD kvs y v))))
    | _ => False
  | none => False
theorem ds_stD (i : Nat) {q : Pos} (hr : Room k X.A) (hx : PE X (.Name x q) (tVar i)) (hv : PE X e (tE da)) (hj : PE X b (tE db)) (hs : swapsWith e (some (.Subscript (.Name x q) b p)) pos.line X.env = pure false := by rfl) :
    PS X (.Assign [.Subscript (.Name x q) b p] e pos) (tS (dStD i da db)) := by
  refine ps_imp (ps_dput (by have := hr.units; omega) hx hj hv hs) fun D σ H ⟨g, F, ρ, Dd, k, h, s⟩ => ?_
  refine ⟨g, F, ρ, _, k, h, fun F1 H1 ρ1 v d k1 e1 r1 ⟨h0, h1⟩ => ?_⟩
  obtain ⟨d0, e0⟩ := Option.isSome_iff_exists.mp h0
  obtain ⟨w, hw, _⟩ := k1.read e0
  refine ⟨w, hw, g, F1, ρ1, _, k1, h1, fun F2 H2 ρ2 y d2 k2 e2 r2 h2 => ?_⟩
  cases hc : ρ2[i]? with
  | none => rw [hc] at h2; exact h2.elim
  | some c =>
    rw [hc] at h2
    obtain ⟨ho, h2⟩ := h2
    cases hl : c.val with
    | none => rw [hl] at h2; exact h2.elim
    | some dd =>
      cases dd <;> first | (simp only [hl] at h2; done) | skip
      rename_i t lk kvs
      cases lk with
      | true => simp only [hl] at h2
      | false =>
        simp only [hl] at h2
        obtain ⟨ok, hz, h2⟩ := h2
        obtain ⟨v2, hv2, q2⟩ := k2.slot hc
        rw [hw] at hv2
        cases hv2
        have own : ∃ a, w = .ref a ∧ Own F2 H2 a (.dic t false kvs) := by
          cases c with
          | un => cases ho
          | fz _ => cases ho
          | ow d => cases hl; obtain ⟨a, e, o, _⟩ := q2; cases e; exact ⟨a, rfl, o⟩
          | io d => cases hl; obtain ⟨a, e, o, _⟩ := q2; cases e; exact ⟨a, rfl, o⟩
        obtain ⟨a, rfl, own⟩ := own
        have keep : ∀ {ob : HO}, ∀ b o, H2 b = some o → b ≠ a → upd H2 a ob b = some o := fun b o hb ne => by rw [upd_ne ne]; exact hb
        have exn : ∀ {ob : HO}, Ex F2 (upd H2 a ob) := fun b u hb => by
          rw [upd_ne (ne_of_none hb own.no)]; exact k2.ex b u hb
        cases t with
        | false =>
          obtain ⟨nF, ks, hk, rr⟩ := own
          cases hkk : keyK d2 with
          | none => simp [okK, hkk] at ok
          | some kk =>
            refine ⟨a, _, rfl, .inl ⟨ks, kk, hk, r2.key hkk, by rw [rr.length]; exact hz, rfl⟩, ?_⟩
            have k3 := k2.turn hc ho hw (Ex.refl _) exn keep (fun _ _ h => .inl h) (d' := .dic false false (putDD kvs d2 d)) ⟨nF, _, upd_same, rr.put hkk r2 (r1.mono e2)⟩
            exact s.nx F2 σ _ _ k3 (e1.trans e2) h2
        | true =>
          obtain ⟨nF, ks, hk, rr⟩ := own
          cases hkk : keyT d2 with
          | none => simp [okK, hkk] at ok
          | some kk =>
            obtain ⟨b, ey, hb, _, _⟩ := r2.keyT hkk
            refine ⟨a, _, rfl, .inr ⟨ks, kk, b, hk, ey, k2.ex _ _ hb, by rw [rr.length]; exact hz, rfl⟩, ?_⟩
            have k3 := k2.turn hc ho hw (Ex.refl _) exn keep (fun _ _ h => .inl h) (d' := .dic true false (putDD kvs d2 d)) ⟨nF, _, upd_same, rr.put hkk r2 (r1.mono e2)⟩
            exact s.nx F2 σ _ _ k3 (e1.trans e2) h2
/-! ### in, of a name that is read on the way -/
def oInD (neg : Bool) : DOp := fun d e K => match e with
  | .dic t _ kvs => okK t d = true ∧ K (.bl (if neg = true then !(getDD kvs d).isSome else (getDD kvs d).isSome))
  | e => oInB neg d e K
def rO2 (o : DOp) : R2 := fun x y H Q => ∃ F d e Qd, Ex F H ∧ Rep F x d ∧ RepB F H y e ∧ o d e Qd ∧ ∀ F' H' v r, Grow F H F' H' → Rep F' v r → Qd r → Q v H'
theorem or_inB (hr : Room k X.A) : OpR X (compareOp .In) (rO2 (oInD false)) := by
  intro pins s σ H x y v u Q I rx ry ⟨F, d, e, Qd, ex, r1, r2, o, c⟩
  have h3 := hr.units
  rcases r2 with r2 | ⟨a, ea, own⟩
  · cases e with
    | dic t lk kvs =>
      obtain ⟨ok, o⟩ := o
      obtain ⟨a, oo, ey, dg, cs⟩ := dget_of ex (.inl r2) r1 ok
      subst ey
      cases ry
      refine d_in (by omega) I dg rx fun s' I' => ⟨.bl _, H, I', rfl, ?_⟩
      have e3 : (getDD kvs d).isSome = oo.isSome := by
        rcases cs with ⟨_, _, e1, e2, _⟩ | ⟨e1, e2⟩ <;> rw [e1, e2] <;> rfl
      rw [← e3]
      exact c F H _ _ (Grow.refl ex) (.bl _) o
    | non => exact o.elim
    | bl _ => exact o.elim
    | int _ => exact o.elim
    | str _ => exact or_in hr pins s σ H _ _ v u Q I rx ry ⟨F, d, _, Qd, ex, r1, r2, o, c⟩
    | lst _ => exact or_in hr pins s σ H _ _ v u Q I rx ry ⟨F, d, _, Qd, ex, r1, r2, o, c⟩
    | tup _ => exact or_in hr pins s σ H _ _ v u Q I rx ry ⟨F, d, _, Qd, ex, r1, r2, o, c⟩
    | ins _ _ => exact o.elim
    | scr _ _ => exact o.elim
  · subst ea
    cases e with
    | dic t lk kvs =>
      obtain ⟨ok, o⟩ := o
      obtain ⟨a2, oo, ey, dg, cs⟩ := dget_of ex (.inr ⟨a, rfl, own⟩) r1 ok
      cases ey
      cases ry
      refine d_in (by omega) I dg rx fun s' I' => ⟨.bl _, H, I', rfl, ?_⟩
      have e3 : (getDD kvs d).isSome = oo.isSome := by
        rcases cs with ⟨_, _, e1, e2, _⟩ | ⟨e1, e2⟩ <;> rw [e1, e2] <;> rfl
      rw [← e3]
      exact c F H _ _ (Grow.refl ex) (.bl _) o
    | lst xs =>
      obtain ⟨p1, p2, hd, o⟩ := o
      obtain ⟨nF, ⟨vs, hH, rr⟩, z⟩ := own
      obtain ⟨as, q1⟩ := Dp.reads I d.py x v (r1.dp ex p1) rx
      obtain ⟨bs, q2⟩ := Dp.reads I (D.lst xs).py (.ref a) u (.lst (.of hH) (rr.dp ex p2)) ry
      have h1 := dep_py d
      refine SeqAt.in_list_data q2 q1 (pls_plain xs p2) (pl_plain d p1) (by omega) ⟨.bl _, H, I, rfl, ?_⟩
      rw [any_py xs d p1 p2]
      exact c F H _ _ (Grow.refl ex) (.bl _) o
    | _ => exact own.elim
theorem or_ninB (hr : Room k X.A) : OpR X (compareOp .NotIn) (rO2 (oInD true)) := by
  intro pins s σ H x y v u Q I rx ry ⟨F, d, e, Qd, ex, r1, r2, o, c⟩
  have h3 := hr.units
  rcases r2 with r2 | ⟨a, ea, own⟩
  · cases e with
    | dic t lk kvs =>
      obtain ⟨ok, o⟩ := o
      obtain ⟨a, oo, ey, dg, cs⟩ := dget_of ex (.inl r2) r1 ok
      subst ey
      cases ry
      refine d_notIn (by omega) I dg rx fun s' I' => ⟨.bl _, H, I', rfl, ?_⟩
      have e3 : (getDD kvs d).isSome = oo.isSome := by
        rcases cs with ⟨_, _, e1, e2, _⟩ | ⟨e1, e2⟩ <;> rw [e1, e2] <;> rfl
      rw [← e3]
      exact c F H _ _ (Grow.refl ex) (.bl _) o
    | non => exact o.elim
    | bl _ => exact o.elim
    | int _ => exact o.elim
    | str _ => exact or_nin hr pins s σ H _ _ v u Q I rx ry ⟨F, d, _, Qd, ex, r1, r2, o, c⟩
    | lst _ => exact or_nin hr pins s σ H _ _ v u Q I rx ry ⟨F, d, _, Qd, ex, r1, r2, o, c⟩
    | tup _ => exact or_nin hr pins s σ H _ _ v u Q I rx ry ⟨F, d, _, Qd, ex, r1, r2, o, c⟩
    | ins _ _ => exact o.elim
    | scr _ _ => exact o.elim
  · subst ea
    cases e with
    | dic t lk kvs =>
      obtain ⟨ok, o⟩ := o
      obtain ⟨a2, oo, ey, dg, cs⟩ := dget_of ex (.inr ⟨a, rfl, own⟩) r1 ok
      cases ey
      cases ry
      refine d_notIn (by omega) I dg rx fun s' I' => ⟨.bl _, H, I', rfl, ?_⟩
      have e3 : (getDD kvs d).isSome = oo.isSome := by
        rcases cs with ⟨_, _, e1, e2, _⟩ | ⟨e1, e2⟩ <;> rw [e1, e2] <;> rfl
      rw [← e3]
      exact c F H _ _ (Grow.refl ex) (.bl _) o
    | lst xs =>
      obtain ⟨p1, p2, hd, o⟩ := o
      obtain ⟨nF, ⟨vs, hH, rr⟩, z⟩ := own
      obtain ⟨as, q1⟩ := Dp.reads I d.py x v (r1.dp ex p1) rx
      obtain ⟨bs, q2⟩ := Dp.reads I (D.lst xs).py (.ref a) u (.lst (.of hH) (rr.dp ex p2)) ry
      have h1 := dep_py d
      refine SeqAt.notIn_list_data q2 q1 (pls_plain xs p2) (pl_plain d p1) (by omega) ⟨.bl _, H, I, rfl, ?_⟩
      rw [any_py xs d p1 p2]
      exact c F H _ _ (Grow.refl ex) (.bl _) o
    | _ => exact own.elim
def dInS (i : Nat) (o : DOp) (da : DTE) : DTE := fun ρ Q => da ρ fun d ρ1 => match cv ρ1 i with
  | some e => o d e fun r => Q r ρ1
  | none => False
theorem t_inS {i : Nat} {o : DOp} {σ : L2.St} {H : Hp} {Q : VK} (h : tE (dInS i o da) σ H Q) : tOp (rO2 o) (tE da) (tVar i) σ H Q := by
  obtain ⟨g, F, ρ, Qd, k, h, c⟩ := h
  refine ⟨g, F, ρ, _, k, h, fun F1 H1 ρ1 v d k1 e1 r1 h1 => ?_⟩
  cases hc : cv ρ1 i with
  | none => simp only [hc] at h1
  | some e =>
    simp only [hc] at h1
    obtain ⟨w, hw, rb⟩ := k1.read hc
    exact ⟨w, hw, F1, d, e, _, k1.ex, r1, rb, h1, fun F3 H3 v3 r3 G rr q => c F3 H3 ρ1 v3 r3 (k1.grow G) (e1.trans G.exF) rr q⟩
theorem de_inS (i : Nat) {op : CmpOp} {o : DOp} {q : Pos} (ho : OpR X (compareOp op) (rO2 o)) (ha : PE X a (tE da)) (hx : PE X (.Name x q) (tVar i)) (hm : behindInMarks op (.Name x q) = false := by rfl) : PE X (.Compare a [op] [.Name x q] pos) (tE (dInS i o da)) :=
  pe_imp (pe_cmpR ho ha hx hm) fun _ _ _ h => t_inS h
theorem dt_inS (i : Nat) {op : CmpOp} {o : DOp} {q : Pos} (ho : OpR X (compareOp op) (rO2 o)) (ha : PE X a (tE da)) (hx : PE X (.Name x q) (tVar i)) (hm : behindInMarks op (.Name x q) = false := by rfl) : PT X (.Compare a [op] [.Name x q] pos) (tT (dTest (dInS i o da))) := by
  refine pt_imp (pt_cmpR ho ha hx hm) fun σ H Q q => ?_
  obtain ⟨g, F, ρ, Qd, k, h, c⟩ := q
  refine t_inS ⟨g, F, ρ, _, k, h, fun F1 H1 ρ1 v d k1 e1 r1 h1 => ?_⟩
  cases d <;> first | exact h1.elim | skip
  cases r1
  exact ⟨_, rfl, c F1 H1 ρ1 _ k1 e1 h1⟩
/-! ### a dict is walked by its keys -/
def dKeys (da : DTE) : DTI := fun ρ Q => da ρ fun d ρ' => match d with
  | .dic _ true kvs => kvs.length ≤ 16777216 ∧ Q (kvs.map (·.1)) ρ'
  | _ => False
theorem RepK.at_ {F : Hp} : ∀ {ks : List (Key × V)} {ds : List (D × D)} {i : Nat} {x : D}, RepK F ks ds → (ds.map (·.1))[i]? = some x → ∃ k v, ks[i]? = some (k, v) ∧ x = kD k ∧ Rep F (kV k) (kD k)
  | _, _, _, _, .nil, h => by simp at h
  | _, _, 0, x, @RepK.cons _ k v r ks ds hk rr t, h => by
    simp at h; subst h
    exact ⟨k, v, rfl, rfl, hk⟩
  | _, _, i + 1, x, .cons hk rr t, h => by
    obtain ⟨k, v, h1, h2⟩ := RepK.at_ (i := i) (x := x) t (by simpa using h)
    exact ⟨k, v, by simpa using h1, h2⟩
theorem RepT.at_ {F : Hp} : ∀ {ks : List (List Key × V)} {ds : List (D × D)} {i : Nat} {x : D}, RepT F ks ds → (ds.map (·.1))[i]? = some x → ∃ k v, ks[i]? = some (k, v) ∧ x = tD k ∧ Reps F (k.map kV) (k.map kD) ∧ k.length ≤ sizeLine
  | _, _, _, _, .nil, h => by simp at h
  | _, _, 0, x, @RepT.cons _ k v r ks ds hk hz rr t, h => by
    simp at h; subst h
    exact ⟨k, v, rfl, rfl, hk, hz⟩
  | _, _, i + 1, x, .cons hk hz rr t, h => by
    obtain ⟨k, v, h1, h2⟩ := RepT.at_ (i := i) (x := x) t (by simpa using h)
    exact ⟨k, v, by simpa using h1, h2⟩
theorem itd_dK {F : Hp} {a : Addr} {o : Obj} {ks : List (Key × V)} {ds : List (D × D)} (h : F a = some (.frz o (.dK ks))) (r : RepK F ks ds) (z : ds.length ≤ sizeLine) : ItD F (Itk a o ks) (ds.map (·.1)) := by
  refine ⟨by rw [List.length_map]; exact z, fun i H x ex hx => ?_, fun H ex => ⟨ex _ _ h, by rw [List.length_map, r.length]; exact Nat.le_refl _⟩⟩
  have hi : i < (ds.map (·.1)).length := (List.getElem?_eq_some_iff.mp hx).1
  rw [List.length_map] at hi
  refine ⟨⟨ex _ _ h, by rw [r.length]; exact hi⟩, fun v H2 ⟨eH, k, w, e1, e2⟩ => .inl ⟨eH, ?_⟩⟩
  obtain ⟨k', v', h1, h2, h3⟩ := r.at_ hx
  rw [e1] at h1
  cases h1
  rw [e2, h2]
  exact h3
theorem itd_dT {F : Hp} {a : Addr} {o : Obj} {ks : List (List Key × V)} {ds : List (D × D)} (h : F a = some (.frz o (.dT ks))) (r : RepT F ks ds) (z : ds.length ≤ sizeLine) : ItD F (Itkt a o ks) (ds.map (·.1)) := by
  refine ⟨by rw [List.length_map]; exact z, fun i H x ex hx => ?_, fun H ex => ⟨ex _ _ h, by rw [List.length_map, r.length]; exact Nat.le_refl _⟩⟩
  have hi : i < (ds.map (·.1)).length := (List.getElem?_eq_some_iff.mp hx).1
  rw [List.length_map] at hi
  refine ⟨⟨ex _ _ h, by rw [r.length]; exact hi⟩, fun v H2 ⟨eH, k, w, q, e1, e2, e3⟩ => .inr (.inr ?_)⟩
  obtain ⟨k', v', h1, h2, h3, h4⟩ := r.at_ hx
  rw [e1] at h1
  cases h1
  exact ⟨q, _, k.map kD, eH, e3, e2, h3, h2, by rw [List.length_map]; exact h4⟩
theorem di_keys {tg : Expr} (he : PE X e (tE da)) : PI X tg e (tI (dKeys da)) := by
  refine pi_imp (pi_keys he) fun σ H R ⟨g, F, ρ, Qd, k, h, c⟩ => ?_
  refine ⟨g, F, ρ, _, k, h, fun F1 H1 ρ1 v d k1 e1 r1 h1 => ?_⟩
  cases d <;> first | exact h1.elim | skip
  rename_i t lk kvs
  cases lk with
  | false => exact h1.elim
  | true =>
    obtain ⟨hz, h1⟩ := h1
    cases r1 with
    | dKf h r => exact ⟨_, _, rfl, .inl ⟨_, k1.ex _ _ h, c F1 H1 ρ1 _ _ k1 e1 (itd_dK h r hz) h1⟩⟩
    | dTf h r => exact ⟨_, _, rfl, .inr ⟨_, k1.ex _ _ h, c F1 H1 ρ1 _ _ k1 e1 (itd_dT h r hz) h1⟩⟩
/-! ### d.get(k), d.get(k, x); d what is read -/
def dGet1 (da db : DTE) : DTE := fun ρ Q => da ρ fun d ρ1 => match d with
  | .dic t _ kvs => db ρ1 fun y ρ2 => okK t y = true ∧ Q ((getDD kvs y).getD .non) ρ2
  | _ => False
def dGet2 (da db dc : DTE) : DTE := fun ρ Q => da ρ fun d ρ1 => match d with
  | .dic t _ kvs => db ρ1 fun y ρ2 => dc ρ2 fun z ρ3 => okK t y = true ∧ Q ((getDD kvs y).getD z) ρ3
  | _ => False
theorem isD_of {F H : Hp} {v : V} {t lk : Bool} {kvs : List (D × D)} (ex : Ex F H) (r : Rep F v (.dic t lk kvs)) : ∃ a, v = .ref a ∧ IsD H a := by
  obtain ⟨a, e, ⟨_, ks, q, _⟩ | ⟨_, ks, q, _⟩⟩ := r.dicR ex
  · exact ⟨a, e, .inl ⟨ks, q⟩⟩
  · exact ⟨a, e, .inr ⟨ks, q⟩⟩
theorem de_get1 {apos : Pos} (hr : Room k X.A) (ha : PE X a (tE da)) (hb : PE X b (tE db)) (m : M1 X a "get" apos b pos := by exact ⟨rfl, rfl, rfl, rfl⟩) : PE X (.Call (.Attribute a "get" apos) [b] [] pos) (tE (dGet1 da db)) := by
  refine pe_imp (pe_dget1 (by have := hr.units; omega) ha hb m) fun σ H Q ⟨g, F, ρ, Qd, k, h, c⟩ => ?_
  refine ⟨g, F, ρ, _, k, h, fun F1 H1 ρ1 v d k1 e1 r1 h1 => ?_⟩
  cases d <;> first | exact h1.elim | skip
  rename_i t lk kvs
  obtain ⟨a, ea, isd⟩ := isD_of k1.ex r1
  refine ⟨a, ea, isd, g, F1, ρ1, _, k1, h1, fun F2 H2 ρ2 y d2 k2 e2 r2 ⟨ok, h2⟩ => ?_⟩
  obtain ⟨a', o, ea', dg, cs⟩ := dget_of k2.ex (.inl (r1.mono e2)) r2 ok
  rw [ea] at ea'
  cases ea'
  refine ⟨o, dg, ?_⟩
  rcases cs with ⟨w3, r3, eo, eg, rr⟩ | ⟨eo, eg⟩
  · rw [eg] at h2; subst eo
    exact c F2 H2 ρ2 w3 r3 k2 (e1.trans e2) rr h2
  · rw [eg] at h2; subst eo
    exact c F2 H2 ρ2 _ _ k2 (e1.trans e2) .non h2
theorem de_get2 {apos : Pos} {cx : Expr} {dc : DTE} (hr : Room k X.A) (ha : PE X a (tE da)) (hb : PE X b (tE db)) (hc : PE X cx (tE dc)) (m : M2 X a "get" apos b cx pos := by exact ⟨rfl, rfl, rfl, rfl⟩) : PE X (.Call (.Attribute a "get" apos) [b, cx] [] pos) (tE (dGet2 da db dc)) := by
  refine pe_imp (pe_dget2 (by have := hr.units; omega) ha hb hc m) fun σ H Q ⟨g, F, ρ, Qd, k, h, c⟩ => ?_
  refine ⟨g, F, ρ, _, k, h, fun F1 H1 ρ1 v d k1 e1 r1 h1 => ?_⟩
  cases d <;> first | exact h1.elim | skip
  rename_i t lk kvs
  obtain ⟨a, ea, isd⟩ := isD_of k1.ex r1
  refine ⟨a, ea, isd, g, F1, ρ1, _, k1, h1, fun F2 H2 ρ2 y d2 k2 e2 r2 h2 => ⟨g, F2, ρ2, _, k2, h2, fun F3 H3 ρ3 z d3 k3 e3 r3 ⟨ok, h3⟩ => ?_⟩⟩
  obtain ⟨a', o, ea', dg, cs⟩ := dget_of k3.ex (.inl ((r1.mono e2).mono e3)) (r2.mono e3) ok
  rw [ea] at ea'
  cases ea'
  refine ⟨o, dg, ?_⟩
  rcases cs with ⟨w3, r4, eo, eg, rr⟩ | ⟨eo, eg⟩
  · rw [eg] at h3; subst eo
    exact c F3 H3 ρ3 w3 r4 k3 ((e1.trans e2).trans e3) rr h3
  · rw [eg] at h3; subst eo
    exact c F3 H3 ρ3 _ _ k3 ((e1.trans e2).trans e3) r3 h3
end
end DL

namespace DL
open PySem PySem.Spec PyProof.Rows L2

/-! ### text * int, list * int -/
theorem repL_one {α : Type} (l : List α) : repL l 1 = l := by simp [repL]
theorem repL_nil {α : Type} (n : Nat) : repL ([] : List α) n = [] := by
  apply List.eq_nil_of_length_eq_zero
  rw [repL_length]; simp
theorem foldl_reps (l : List Nat) : ∀ (n : Nat) (acc : List Nat), (List.replicate n l.toArray).foldl (fun x1 x2 => x1 ++ x2) acc.toArray = (acc ++ repL l n).toArray
  | 0, acc => by simp [repL]
  | n + 1, acc => by
    rw [List.replicate_succ, List.foldl_cons]
    have e : acc.toArray ++ l.toArray = (acc ++ l).toArray := by simp
    rw [e, foldl_reps l n (acc ++ l)]
    simp [repL, List.replicate_succ]
def oMulS : DOp := fun d e K => match d, e with
  | .int i, .int j => CMul i j ∧ K (.int (i * j))
  | .str l, .int n => -(2 ^ 62) ≤ n ∧ n < 2 ^ 31 ∧ l.length * n.toNat ≤ sizeLine ∧ K (.str (repL l n.toNat))
  | .lst l, .int n => -(2 ^ 62) ≤ n ∧ n < 2 ^ 31 ∧ l.length * n.toNat ≤ sizeLine ∧ K (.lst (repL l n.toNat))
  | _, _ => False
theorem Reps.rep {F : Hp} {vs : List V} {ds : List D} (r : Reps F vs ds) : ∀ n : Nat, Reps F (List.replicate n vs).flatten (repL ds n)
  | 0 => .nil
  | n + 1 => by
    unfold repL
    rw [List.replicate_succ, List.replicate_succ, List.flatten_cons, List.flatten_cons]
    exact r.append (Reps.rep r n)
section
variable {X : Cx} {e a b c : Expr} {es : List Expr} {pos p p2 : Pos} {da db dc : DTE} {k : Nat} {x : Str}
theorem or_mulS : OpR X (binaryOp .Mult) (rO oMulS) := by
  intro pins s σ H x y v u Q I rx ry ⟨F, d, e, Qd, ex, r1, r2, o, c⟩
  cases d <;> cases e <;> first | exact o.elim | skip
  · obtain ⟨hc, o⟩ := o
    cases r1; cases r2
    exact op_mul pins s σ H _ _ v u Q I rx ry ⟨_, _, rfl, rfl, hc, c F H _ _ (Grow.refl ex) (.int _) o⟩
  · rename_i l n
    obtain ⟨h1, h2, hz, o⟩ := o
    cases r1; cases r2
    obtain ⟨t, rfl⟩ := rx
    obtain ⟨t', rfl⟩ := ry
    have hz2 : l.length * n.toNat ≤ 16777216 := hz
    have hS : (S l).length = l.length := rfl
    by_cases hn : n < 1
    · refine PySem.P.mul_str_none hn (by omega) ⟨.str (S []), H, I.tok _, ⟨_, rfl⟩, ?_⟩
      have e0 : repL l n.toNat = [] := by rw [show n.toNat = 0 by omega]; rfl
      rw [e0] at o
      exact c F H _ _ (Grow.refl ex) (.str (by show 0 ≤ 16777216; decide)) o
    · have hl : (repL l n.toNat).length ≤ sizeLine := by rw [repL_length, Nat.mul_comm]; exact hz
      refine PySem.P.mul_str (by rw [decide_eq_false (by omega), decide_eq_false (by omega)]; rfl) (fun _ h3 h4 => ?_) (fun _ h3 => ?_) ?_
      · rw [Bool.or_eq_false_iff] at h3
        have hd : (l.length : Int) ≤ (2 ^ 63 - 1) / n := by
          refine (Int.le_ediv_iff_mul_le (by omega)).mpr ?_
          have e1 : ((l.length * n.toNat : Nat) : Int) = (l.length : Int) * n := by
            rw [Int.natCast_mul, Int.toNat_of_nonneg (by omega)]
          have e2 : ((l.length * n.toNat : Nat) : Int) ≤ 16777216 := Int.ofNat_le.mpr hz2
          rw [e1] at e2
          omega
        rw [hS] at h4
        omega
      · show decide ((S l).length * n.toNat > sizeLine) = false
        rw [hS]
        exact decide_eq_false (by show ¬ l.length * n.toNat > 16777216; omega)
      · rw [if_neg hn]
        by_cases h3 : (n == 1 || (S l).length == 0) = true
        · rw [if_pos h3]
          refine ⟨.str (S l), H, I, ⟨t, rfl⟩, ?_⟩
          have e0 : repL l n.toNat = l := by
            rcases (Bool.or_eq_true _ _).mp h3 with q | q
            · have : n = 1 := beq_iff_eq.mp q
              subst this
              exact repL_one l
            · have : l.length = 0 := beq_iff_eq.mp q
              have : l = [] := List.eq_nil_of_length_eq_zero this
              subst this
              exact repL_nil _
          rw [e0] at o hl
          exact c F H _ _ (Grow.refl ex) (.str hl) o
        · rw [if_neg h3]
          have ef : (⟨(List.replicate n.toNat (S l).cps).foldl (· ++ ·) #[]⟩ : Str) = S (repL l n.toNat) := by
            have := foldl_reps l n.toNat []
            rw [List.nil_append] at this
            show (⟨(List.replicate n.toNat l.toArray).foldl (· ++ ·) #[]⟩ : Str) = ⟨(repL l n.toNat).toArray⟩
            rw [← this]
          rw [ef]
          exact ⟨hl, .str _, H, I.tok _, ⟨_, rfl⟩, c F H _ _ (Grow.refl ex) (.str hl) o⟩
  · rename_i l n
    obtain ⟨h1, h2, hz, o⟩ := o
    cases r2
    cases r1 with
    | @lst a vs _ h r z =>
      refine op_rep pins s σ H _ _ v u Q I rx ry ⟨a, n, vs, rfl, rfl, ex _ _ h, by omega, by omega, by rw [r.length]; exact hz, fun q hq => ?_⟩
      have G := Grow.alloc (o := .lst (List.replicate n.toNat vs).flatten) ex hq
      exact c _ _ _ _ G (.lst upd_same ((r.rep n.toNat).mono G.exF) (by rw [repL_length, Nat.mul_comm]; exact hz)) o
/-- a new list of one's own: [..] * n -/
def dMulL (da : DTX) (db : DTE) : DTX := fun ρ Q => da ρ fun c ρ1 => match c with
  | .ow (.lst xs) => db ρ1 fun e ρ2 => match e with
    | .int n => -(2 ^ 62) ≤ n ∧ n < 2 ^ 31 ∧ xs.length * n.toNat ≤ sizeLine ∧ Q (.ow (.lst (repL xs n.toNat))) ρ2
    | _ => False
  | _ => False
theorem dx_mulL {dxa : DTX} (ha : PE X a (tX dxa)) (hb : PE X b (tE db)) : PE X (.BinOp a .Mult b pos) (tX (dMulL dxa db)) := by
  refine pe_imp (pe_op op_rep ha hb) fun σ H Q ⟨g, F, ρ, Qd, k, h, c⟩ => ?_
  refine ⟨g, F, ρ, _, k, h, fun F1 H1 ρ1 v cl k1 e1 t h1 => ?_⟩
  cases cl <;> first | exact h1.elim | skip
  rename_i d
  cases d <;> first | exact h1.elim | skip
  rename_i xs
  obtain ⟨F1', k1', e1', r1⟩ := k1.keepTmp t
  refine ⟨g, F1', ρ1, _, k1', h1, fun F2 H2 ρ2 y e k2 e2 r2 h2 => ?_⟩
  cases e <;> first | exact h2.elim | skip
  rename_i n
  obtain ⟨n1, n2, hz, h2⟩ := h2
  cases r2
  have r1' := r1.mono e2
  cases r1' with
  | @lst a vs _ h r z =>
    refine ⟨a, n, vs, rfl, rfl, k2.ex _ _ h, by omega, by omega, by rw [r.length]; exact hz, fun q hq => ?_⟩
    obtain ⟨k3, t3⟩ := k2.newOw (o := .lst (List.replicate n.toNat vs).flatten) (d := .lst (repL xs n.toNat)) hq ⟨k2.ex.none hq, ⟨_, upd_same, r.rep n.toNat⟩, by rw [repL_length, Nat.mul_comm]; exact hz⟩
    exact c F2 _ ρ2 _ _ k3 ((e1.trans e1').trans e2) t3 h2
/-! ### xs[::-1] -/
def dRev (da : DTE) : DTX := fun ρ Q => da ρ fun d ρ1 => match d with
  | .lst xs => Q (.ow (.lst xs.reverse)) ρ1
  | _ => False
theorem dx_rev {kk : Nat} {p1 p2 p3 : Pos} (ha : PE X a (tE da)) : PE X (.Subscript a (.Slice none none (some (.UnaryOp .USub (.Constant (.int 1) kk p1) p2)) p3) pos) (tX (dRev da)) := by
  refine pe_imp (pe_revL ha) fun σ H Q ⟨g, F, ρ, Qd, k, h, c⟩ => ?_
  refine ⟨g, F, ρ, _, k, h, fun F1 H1 ρ1 v d k1 e1 r1 h1 => ?_⟩
  cases d <;> first | exact h1.elim | skip
  cases r1 with
  | @lst a vs _ h r z =>
    refine ⟨a, vs, rfl, .of (k1.ex _ _ h), fun q hq => ?_⟩
    obtain ⟨k3, t3⟩ := k1.newOw (o := .lst vs.reverse) (d := .lst _) hq ⟨k1.ex.none hq, ⟨_, upd_same, r.reverse⟩, by rw [List.length_reverse]; exact z⟩
    exact c F1 _ ρ1 _ _ k3 e1 t3 h1
/-! ### str(n) -/
def strI (i : Int) : List Nat := (toString i : Str).cps.toList
def oStrI : DFn := fun ds K => match ds with
  | [.int i] => i.natAbs.log2 < 1920 ∧ (strI i).length ≤ sizeLine ∧ K (.str (strI i))
  | _ => False
theorem cr_strI : CallR X (.type "str") (rC oStrI) := by
  intro pins s σ H xs us Q I rv ⟨F, ds, Qd, ex, r, o, c⟩
  match ds, r, o with
  | [.int i], r, ⟨h1, h2, o⟩ =>
    cases r with
    | cons r2 t =>
      cases t
      cases r2
      refine call_str_int pins s σ H _ us Q I rv ⟨i, rfl, h1, ?_⟩
      have e : (toString i : Str) = S (strI i) := (S_toList _).symm
      rw [e]
      exact c F H _ _ (Grow.refl ex) (.str h2) o
/-! ### xs.count(n) -/
def dCount (da db : DTE) : DTE := fun ρ Q => da ρ fun d ρ1 => match d with
  | .lst xs => db ρ1 fun e ρ2 => match e with
    | .int k => match intsOf xs with
      | some ns => Q (.int (ns.count k : Nat)) ρ2
      | none => False
    | _ => False
  | _ => False
theorem de_count {apos : Pos} (ha : PE X a (tE da)) (hb : PE X b (tE db)) (hs : starEach [b] X.env = (false, eval b X.env) :: starEach [] X.env := by rfl) (hplain : (backTo pos (starEach [] X.env)).any (·.1) = false := by rfl)
    (hbase : attributeBase a "count" X.env (eval a X.env) = eval a X.env := by rfl)
    (hfew : ((backTo pos (starEach [b] X.env)).all (fun x => !x.1) && (backToKw pos (keywordEach [] X.env)).all (fun x => x.1.isSome)
      && decide ([b].length + ([] : List Keyword).length + (if ([] : List Keyword).isEmpty then 0 else 1) < 30)) = true := by rfl)
    (hline : (apos.endLine == pos.line) = true := by rfl) :
    PE X (.Call (.Attribute a "count" apos) [b] [] pos) (tE (dCount da db)) := by
  refine pe_imp (pe_bm PySem.F.plainAttrs_list PySem.F.slot_list_count PySem.F.type_list_count mt_lcount ha (pa_cons hb pa_nil hs) hbase hfew hline hs hplain) fun σ H Q ⟨g, F, ρ, Qd, k, h, c⟩ => ?_
  refine ⟨g, F, ρ, _, k, h, fun F1 H1 ρ1 v d k1 e1 r1 h1 => ?_⟩
  cases d <;> first | exact h1.elim | skip
  rename_i xs
  cases r1 with
  | @lst l vs _ hl r z =>
    refine ⟨.inl ⟨rfl, vs, .of (k1.ex _ _ hl)⟩, g, F1, ρ1, _, k1, h1, fun F2 H2 ρ2 y e k2 e2 r2 h2 => ?_⟩
    cases e <;> first | exact h2.elim | skip
    cases r2
    cases hi : intsOf xs with
    | none => simp only [hi] at h2
    | some ns =>
      simp only [hi] at h2
      have ev := reps_ints (r.mono e2) hi
      refine ⟨l, ns, _, rfl, rfl, ?_, c F2 H2 ρ2 _ _ k2 (e1.trans e2) (.int _) h2⟩
      rw [← ev]
      exact .of (k2.ex _ _ (e2 _ _ hl))
/-! ### sorted(xs) -/
def leD (a b : D) : Bool := PySem.W.dataLe false D.py a b
def oSorted : DFn := fun ds K => match ds with
  | [.lst xs] => pls xs = true ∧ (∀ d ∈ xs, d.dep ≤ 40) ∧ PySem.W.AllAlike (xs.map D.py) ∧ PySem.W.Sortable (xs.map D.py) ∧ K (.lst (xs.mergeSort leD))
  | _ => False
theorem pls_mem : ∀ {ds : List D} {d : D}, pls ds = true → d ∈ ds → d.pl = true
  | x :: xs, d, p, h => by
    simp only [pls, Bool.and_eq_true] at p
    rcases List.mem_cons.mp h with e | h
    · rw [e]; exact p.1
    · exact pls_mem p.2 h
theorem each_reps {F H : Hp} {pins : List (Addr × Obj)} {σ : L2.St} {s : Shared} (I : Inv X pins σ H s) (ex : Ex F H) : ∀ {vs : List V} {ds : List D} {us : List Value}, Reps F vs ds → Vals vs us → pls ds = true →
    PySem.W.EachIs (fun u d => ∃ v, RelV v u ∧ Rep F v d) us ds ∧ PySem.W.EachIs (fun u d => ∃ as, PySem.Reads s.heap u d.py as) us ds
  | _, _, _, .nil, .nil, _ => ⟨.nil, .nil⟩
  | _, _, _, .cons r t, .cons rv tv, p => by
    simp only [pls, Bool.and_eq_true] at p
    obtain ⟨h1, h2⟩ := each_reps I ex t tv p.2
    exact ⟨.cons ⟨_, rv, r⟩ h1, .cons (Dp.reads I _ _ _ (r.dp ex p.1) rv) h2⟩
theorem reps_each {F : Hp} : ∀ {us : List Value} {ds : List D}, PySem.W.EachIs (fun u d => ∃ v, RelV v u ∧ Rep F v d) us ds → ∃ vs, Vals vs us ∧ Reps F vs ds
  | _, _, .nil => ⟨[], .nil, .nil⟩
  | _, _, .cons ⟨v, h1, h2⟩ t => by
    obtain ⟨vs, t1, t2⟩ := reps_each t
    exact ⟨v :: vs, .cons h1 t1, .cons h2 t2⟩
theorem cr_sortedL (hr : Room k X.A) : CallR X (.builtin "sorted") (rCF oSorted) := by
  intro pins s σ H xs us Q I rv ⟨F, ds, Qd, ex, r, o, c⟩
  have h3 := hr.units
  match ds, r, o with
  | [.lst xs], r, ⟨hp, hd, hal, hso, o⟩ =>
    cases r with
    | cons r2 t =>
      cases t
      cases r2 with
      | @lst l vs _ h r z =>
        obtain ⟨u1, rfl, r1⟩ := vals1 rv
        · cases r1
          obtain ⟨its, rvs, pl, hz⟩ := I.list (xs := vs) (.of (ex _ _ h))
          obtain ⟨h1, h2⟩ := each_reps I ex r rvs hp
          refine PySem.W.sorted_data (enc := D.py) pl.isList h1 h2 hal hso z (fun d hdm => ?_) fun out ho eo => ?_
          · have := dep_py d
            have := hd d hdm
            omega
          · obtain ⟨ws, w1, w2⟩ := reps_each eo
            obtain ⟨cap, hc⟩ := sortedAll_at s.heap its out.toArray
            have hn : H (s.heap.objs.size + 1) = none := I.hok.fresh (Nat.le_succ _)
            have hz2 : (xs.mergeSort leD).length ≤ sizeLine := by rw [List.length_mergeSort]; exact z
            have zw : ws.length ≤ sizeLine := by rw [w2.length]; exact hz2
            refine ⟨.ref (s.heap.objs.size + 1), _, I.laid (a := s.heap.objs.size + 1) (o := .lst ws) (t' := s.toks) (fun _ _ => sortedAll_old) (Nat.le_succ _) ⟨zw, out, cap, w1, hc⟩, rfl, ?_⟩
            exact c F _ _ (.lst (xs.mergeSort leD)) (Grow.laid ex hn) ⟨ex.none hn, ⟨ws, upd_same, w2⟩, hz2⟩ hn o
end
/-! ### the order of data: ints, texts, pairs .. -/
theorem leD_int (i j : Int) : leD (.int i) (.int j) = decide (i ≤ j) := by
  show (!PySem.W.dataLt (.int j) (.int i)) = _
  have e := congrFun (congrFun (PySem.W.dataLe_int (fun b : Int => b)) i) j
  exact e
end DL

namespace DL
open PySem PySem.Spec PyProof.Rows L2

/-! ### words that every law uses -/
theorem cmul_l {i j : Int} (h : 0 ≤ i) (h2 : i < 2147483648) : CMul i j := .inl ⟨by omega, by omega⟩
theorem cmul_r {i j : Int} (h : 0 ≤ j) (h2 : j < 2147483648) : CMul i j := .inr ⟨by omega, by omega⟩
theorem modr {a M : Int} (h : 0 < M) (hM : M ≤ 2147483648) : 0 ≤ a % M ∧ a % M < 2147483648 := ⟨Int.emod_nonneg _ (by omega), Int.lt_of_lt_of_le (Int.emod_lt_of_pos _ h) hM⟩
theorem atI_mem {α : Type} {xs : List α} {k : Int} (h0 : 0 ≤ k) (h1 : k < (xs.length : Int)) : ∃ x, x ∈ xs ∧ atI xs k = some x := by
  obtain ⟨x, e, _, m⟩ := atI_in h0 h1
  exact ⟨x, m, e⟩
theorem onM {α : Type} {io : List Bool} {fresh : Bool} {args : α → List D} {pre : α → Prop} {pst : α → D → List D → Prop} {K : D → List D → Prop} {ds : List D} (x : α) (e : ds = args x) (h : pre x) (k : ∀ r os, pst x r os → K r os) : @onB ⟨K⟩ (mkSpec io fresh args pre pst) ds := ⟨x, e, h, k⟩
def fnSpec {α : Type} (n : Nat) (fresh : Bool) (args : α → List D) (pre : α → Prop) (f : α → D) : FnSpec := mkSpec (List.replicate n false) fresh args pre fun x r os => r = f x ∧ os = []
theorem onF {α : Type} {n : Nat} {fresh : Bool} {args : α → List D} {pre : α → Prop} {f : α → D} {K : D → List D → Prop} {ds : List D} (x : α) (e : ds = args x) (h : pre x) (k : K (f x) []) : @onB ⟨K⟩ (fnSpec n fresh args pre f) ds :=
  ⟨x, e, h, fun r os ⟨e1, e2⟩ => by rw [e1, e2]; exact k⟩
end DL

namespace DL
open PySem PySem.Spec PyProof.Rows L2

/-! ### loops counted by the place -/
theorem forI_inv {tg : DTG} {body : DTS} {E : DEnds} : ∀ {xs : List D} (I : Nat → Env → Prop)
    (_ : ∀ (m : Nat) (x : D) (ρ : Env) (k : Env → Prop), xs[m]? = some x → I m ρ → (∀ ρ', I (m + 1) ρ' → k ρ') → tg x ρ fun ρ2 => body { nx := k, ct := k, bk := E.nx, rt := E.rt } ρ2)
    (_ : ∀ ρ, I xs.length ρ → E.nx ρ) (ρ : Env) (_ : I 0 ρ), forW tg body E xs ρ
  | [], _, _, hd, ρ, i => hd ρ i
  | x :: xs, I, h, hd, ρ, i => h 0 x ρ _ rfl i fun ρ' i' => forI_inv (xs := xs) (fun m => I (m + 1)) (fun m y ρ2 k hy i2 hk => h (m + 1) y ρ2 k hy i2 hk) hd ρ' i'
theorem lcI_inv {tg : DTG} {tt : DTT} {te : DTE} {vs : List Nat} {K : List D → Env → Prop} : ∀ {xs : List D} (I : Nat → List D → Env → Prop)
    (_ : ∀ (m : Nat) (x : D) (acc : List D) (ρ : Env) (kT : D → Env → Prop) (kF : Env → Prop), xs[m]? = some x → I m acc ρ → (∀ y ρ', I (m + 1) (acc ++ [y]) ρ' → kT y ρ') → (∀ ρ', I (m + 1) acc ρ' → kF ρ') → tg x (wipeE ρ vs) fun ρ2 => tt ρ2 fun b ρ3 => if b = true then te ρ3 fun y ρ4 => kT y ρ4 else kF ρ3)
    (_ : ∀ acc ρ, I xs.length acc ρ → K acc ρ) (acc : List D) (ρ : Env) (_ : I 0 acc ρ), lcW tg tt te vs xs acc ρ K
  | [], _, _, hd, acc, ρ, i => hd acc ρ i
  | x :: xs, I, h, hd, acc, ρ, i => h 0 x acc ρ (fun y ρ4 => lcW tg tt te vs xs (acc ++ [y]) ρ4 K) (fun ρ3 => lcW tg tt te vs xs acc ρ3 K) rfl i (fun y ρ' i' => lcI_inv (xs := xs) (fun m => I (m + 1)) (fun m y acc2 ρ2 kT kF hy i2 a b => h (m + 1) y acc2 ρ2 kT kF hy i2 a b) hd _ ρ' i') (fun ρ' i' => lcI_inv (xs := xs) (fun m => I (m + 1)) (fun m y acc2 ρ2 kT kF hy i2 a b => h (m + 1) y acc2 ρ2 kT kF hy i2 a b) hd _ ρ' i')
theorem rangeD_get {lo : Int} {n m : Nat} {x : D} (h : (rangeD lo n)[m]? = some x) : m < n ∧ x = .int (lo + (m : Nat)) := by
  have hm : m < n := by
    obtain ⟨h', -⟩ := List.getElem?_eq_some_iff.mp h
    rw [rangeD_length] at h'
    exact h'
  refine ⟨hm, ?_⟩
  unfold rangeD at h
  rw [List.getElem?_map, List.getElem?_range hm] at h
  exact (Option.some.inj h).symm
theorem forN_inv {tg : DTG} {body : DTS} {E : DEnds} {lo : Int} {n : Nat} (I : Nat → Env → Prop)
    (h : ∀ (m : Nat) (ρ : Env) (k : Env → Prop), m < n → I m ρ → (∀ ρ', I (m + 1) ρ' → k ρ') → tg (.int (lo + (m : Nat))) ρ fun ρ2 => body { nx := k, ct := k, bk := E.nx, rt := E.rt } ρ2)
    (hd : ∀ ρ, I n ρ → E.nx ρ) (ρ : Env) (i : I 0 ρ) : forW tg body E (rangeD lo n) ρ :=
  forI_inv I (fun m x ρ k hx i hk => by
    obtain ⟨hm, rfl⟩ := rangeD_get hx
    exact h m ρ k hm i hk) (fun ρ i => hd ρ (by rw [rangeD_length] at i; exact i)) ρ i
theorem lcN_inv {tg : DTG} {tt : DTT} {te : DTE} {vs : List Nat} {K : List D → Env → Prop} {lo : Int} {n : Nat} (I : Nat → List D → Env → Prop)
    (h : ∀ (m : Nat) (acc : List D) (ρ : Env) (kT : D → Env → Prop) (kF : Env → Prop), m < n → I m acc ρ → (∀ y ρ', I (m + 1) (acc ++ [y]) ρ' → kT y ρ') → (∀ ρ', I (m + 1) acc ρ' → kF ρ') → tg (.int (lo + (m : Nat))) (wipeE ρ vs) fun ρ2 => tt ρ2 fun b ρ3 => if b = true then te ρ3 fun y ρ4 => kT y ρ4 else kF ρ3)
    (hd : ∀ acc ρ, I n acc ρ → K acc ρ) (acc : List D) (ρ : Env) (i : I 0 acc ρ) : lcW tg tt te vs (rangeD lo n) acc ρ K :=
  lcI_inv I (fun m x acc ρ kT kF hx i a b => by
    obtain ⟨hm, rfl⟩ := rangeD_get hx
    exact h m acc ρ kT kF hm i a b) (fun acc ρ i => hd acc ρ (by rw [rangeD_length] at i; exact i)) acc ρ i
theorem take_snoc {α : Type} {xs : List α} {m : Nat} {x : α} (h : xs[m]? = some x) : xs.take (m + 1) = xs.take m ++ [x] := by
  rw [List.take_add_one, h] <;> rfl
theorem cutG_to {α : Type} (xs : List α) (b : Nat) : cutG xs none (some (b : Int)) = xs.take b := by
  have h := cutG_nat xs 0 b
  rw [List.drop_zero, Nat.sub_zero] at h
  exact h
end DL


namespace DL
open PySem PySem.Spec PyProof.Rows L2

/-! ### the law's hand (another way of drawing) -/
structure Hand where
  cs : List Int
  i : Int
  p : Int
  r : Int
  c : Int
def Hand.d (h : Hand) : D := .lst [.lst (h.cs.map .int), .int h.i, .int h.p, .int h.r, .int h.c]
structure Hand.Ok (h : Hand) : Prop where
  i0 : 0 ≤ h.i
  p0 : 0 ≤ h.p
  r0 : 0 ≤ h.r
  r1 : h.r < 2147483648
def hdR (ns : List Int) (d : D) : Prop := ∃ h : Hand, h.Ok ∧ d = h.d



/-- _law_hand: slots 0 _law_script, 1 _law_cells, 2 _law_cell -/
def D__law_hand (a : Addr) (ns : List Int) : DTS := (dSeq (dSet 1 (dUp (dFz (dLc (dIt (dScrSl 0 a ns dNo (dPt (dC (.int 63))))) (dgName 2) dYes (dCB oAbs (dCons (dCB oInt (dCons (dVar 2) dNil)) dNil)) [2])))) (dRet (dLst (dCons (dVar 1) (dCons (dC (.int 0)) (dCons (dC (.int 0)) (dCons (dBin oAdd (dC (.int 1)) (dLenS 1)) (dCons (dC (.int 0)) dNil))))))))
theorem sem__law_hand : ∀ a ns, ns.length ≤ 63 → D__law_hand a ns (handEnds (hdR ns)) (.fz (.scr a ns) :: List.replicate (3 - 1) .un) := by
  intro a ns hz
  show D__law_hand a ns (handEnds (hdR ns)) [.fz (.scr a ns), .un, .un]
  unfold D__law_hand
  refine seq_gen fun k hk => ?_
  simp only [↓dSeq, ↓dNext, ↓dBreak, ↓dCont, ↓dNever, ↓dRet, ↓dRetN, ↓dDrop, ↓dSet, ↓dIf, ↓dAug, ↓dAsg, ↓dPar, ↓dVar, ↓dMove, ↓dC, ↓dFz, ↓dUp, ↓dNil, ↓dCons, ↓dTup, ↓dLst, ↓dBin, ↓dUn, ↓dChain, ↓dTest, ↓dAnd, ↓dOr, ↓dNot, ↓dAndV, ↓dOrV, ↓dNotV, ↓dIfE, ↓dgName, ↓dgNil, ↓dgCons, ↓dgTup, ↓dIt, ↓dRng1, ↓dRng2, ↓dZip, ↓dEnum, ↓u_for, ↓u_lc, ↓dYes, ↓u_call, ↓u_callF, ↓u_callIo, ↓dCB, ↓dCBF, ↓dBinS, ↓dLenS, ↓dSl, ↓dSlS, ↓dNo, ↓dPt, ↓dStL, ↓dApp, ↓dExt, ↓dJoin, ↓dRg1, ↓dRg2, ↓dTupRg, ↓dLstRg, ↓oSub, ↓oMulI, ↓oMul, ↓oFdiv, ↓oMod, ↓oPow, ↓oShr, ↓oXor, ↓oNeg, ↓oAdd, ↓oAug, ↓oLt, ↓oLe, ↓oGt, ↓oGe, ↓oI, ↓oIx, ↓oLen, ↓oInt, ↓oOrd, ↓oAbs, ↓oStL, ↓oIn, ↓oNin, ↓oInB, ↓isi_int, ↓isi_int_bl, ↓isi_int_str, ↓isi_int_tup, ↓isi_int_lst, ↓isi_str, ↓isi_str_int, ↓isi_tup, ↓isi_tup_int, ↓isi_tup_str, ↓isi_tup_lst, ↓isi_lst, ↓isi_lst_tup, ↓isi_lst_int, ↓isi_lst_str, ↓cv, ↓Cell.val, ↓Cell.up, ↓Cell.own, ↓lenD, ↓itemsOf, List.getElem?_cons_zero, List.getElem?_cons_succ, List.set_cons_zero, List.set_cons_succ, Option.bind_some, Option.isSome_some, List.length_cons, List.length_nil, true_and, and_true, ↓ixN_lit, ↓atI_lit, ↓reduceIte, Nat.reduceAdd, Nat.reduceLT, Nat.reduceSub, Nat.zero_add, Nat.reduceLeDiff, Nat.lt_add_one, Nat.zero_lt_succ, ↓oEq_int, ↓oNe_int, ↓oEq_str, ↓oNe_str, ↓oEq_bl, ↓oNe_bl, decide_eq_true_eq, Bool.false_eq_true, ↓u_while, ↓ownAt, List.all_cons, List.all_nil, Bool.and_true, List.getD_cons_zero, List.getD_cons_succ, Bool.not_false, ↓oLe_sign, ↓oMulS, ↓dDic, ↓dLock, ↓dGetS, ↓dStD, ↓dInS, ↓oInD, ↓dKeys, ↓dGet1, ↓dGet2, ↓dRev, ↓dMulL, ↓dCount, ↓dScrSl, ↓dScrLen, ↓dScrList, ↓oStrI]
  refine lcB_of (lcW_map _ (fun d => match d with | .int i => .int (if i < 0 then -i else i) | _ => .non) _ (fun x hx kT hT => ?_) fun ρ' hw => ?_)
  · obtain ⟨c, hc, rfl⟩ := List.mem_map.mp hx
    simp only [wipeE, ↓dSeq, ↓dNext, ↓dBreak, ↓dCont, ↓dNever, ↓dRet, ↓dRetN, ↓dDrop, ↓dSet, ↓dIf, ↓dAug, ↓dAsg, ↓dPar, ↓dVar, ↓dMove, ↓dC, ↓dFz, ↓dUp, ↓dNil, ↓dCons, ↓dTup, ↓dLst, ↓dBin, ↓dUn, ↓dChain, ↓dTest, ↓dAnd, ↓dOr, ↓dNot, ↓dAndV, ↓dOrV, ↓dNotV, ↓dIfE, ↓dgName, ↓dgNil, ↓dgCons, ↓dgTup, ↓dIt, ↓dRng1, ↓dRng2, ↓dZip, ↓dEnum, ↓u_for, ↓u_lc, ↓dYes, ↓u_call, ↓u_callF, ↓u_callIo, ↓dCB, ↓dCBF, ↓dBinS, ↓dLenS, ↓dSl, ↓dSlS, ↓dNo, ↓dPt, ↓dStL, ↓dApp, ↓dExt, ↓dJoin, ↓dRg1, ↓dRg2, ↓dTupRg, ↓dLstRg, ↓oSub, ↓oMulI, ↓oMul, ↓oFdiv, ↓oMod, ↓oPow, ↓oShr, ↓oXor, ↓oNeg, ↓oAdd, ↓oAug, ↓oLt, ↓oLe, ↓oGt, ↓oGe, ↓oI, ↓oIx, ↓oLen, ↓oInt, ↓oOrd, ↓oAbs, ↓oStL, ↓oIn, ↓oNin, ↓oInB, ↓isi_int, ↓isi_int_bl, ↓isi_int_str, ↓isi_int_tup, ↓isi_int_lst, ↓isi_str, ↓isi_str_int, ↓isi_tup, ↓isi_tup_int, ↓isi_tup_str, ↓isi_tup_lst, ↓isi_lst, ↓isi_lst_tup, ↓isi_lst_int, ↓isi_lst_str, ↓cv, ↓Cell.val, ↓Cell.up, ↓Cell.own, ↓lenD, ↓itemsOf, List.getElem?_cons_zero, List.getElem?_cons_succ, List.set_cons_zero, List.set_cons_succ, Option.bind_some, Option.isSome_some, List.length_cons, List.length_nil, true_and, and_true, ↓ixN_lit, ↓atI_lit, ↓reduceIte, Nat.reduceAdd, Nat.reduceLT, Nat.reduceSub, Nat.zero_add, Nat.reduceLeDiff, Nat.lt_add_one, Nat.zero_lt_succ, ↓oEq_int, ↓oNe_int, ↓oEq_str, ↓oNe_str, ↓oEq_bl, ↓oNe_bl, decide_eq_true_eq, Bool.false_eq_true, ↓u_while, ↓ownAt, List.all_cons, List.all_nil, Bool.and_true, List.getD_cons_zero, List.getD_cons_succ, Bool.not_false, ↓oLe_sign, ↓oMulS, ↓dDic, ↓dLock, ↓dGetS, ↓dStD, ↓dInS, ↓oInD, ↓dKeys, ↓dGet1, ↓dGet2, ↓dRev, ↓dMulL, ↓dCount, ↓dScrSl, ↓dScrLen, ↓dScrList, ↓oStrI]
    exact hT _ rfl
  · have em : (((cutG ns none (some 63)).map D.int).map fun d => match d with | .int i => D.int (if i < 0 then -i else i) | _ => .non) = ((cutG ns none (some 63)).map fun i => if i < 0 then -i else i).map D.int := by
      rw [List.map_map, List.map_map]
      rfl
    simp only [rest_of_wipe hw, ↓dSeq, ↓dNext, ↓dBreak, ↓dCont, ↓dNever, ↓dRet, ↓dRetN, ↓dDrop, ↓dSet, ↓dIf, ↓dAug, ↓dAsg, ↓dPar, ↓dVar, ↓dMove, ↓dC, ↓dFz, ↓dUp, ↓dNil, ↓dCons, ↓dTup, ↓dLst, ↓dBin, ↓dUn, ↓dChain, ↓dTest, ↓dAnd, ↓dOr, ↓dNot, ↓dAndV, ↓dOrV, ↓dNotV, ↓dIfE, ↓dgName, ↓dgNil, ↓dgCons, ↓dgTup, ↓dIt, ↓dRng1, ↓dRng2, ↓dZip, ↓dEnum, ↓u_for, ↓u_lc, ↓dYes, ↓u_call, ↓u_callF, ↓u_callIo, ↓dCB, ↓dCBF, ↓dBinS, ↓dLenS, ↓dSl, ↓dSlS, ↓dNo, ↓dPt, ↓dStL, ↓dApp, ↓dExt, ↓dJoin, ↓dRg1, ↓dRg2, ↓dTupRg, ↓dLstRg, ↓oSub, ↓oMulI, ↓oMul, ↓oFdiv, ↓oMod, ↓oPow, ↓oShr, ↓oXor, ↓oNeg, ↓oAdd, ↓oAug, ↓oLt, ↓oLe, ↓oGt, ↓oGe, ↓oI, ↓oIx, ↓oLen, ↓oInt, ↓oOrd, ↓oAbs, ↓oStL, ↓oIn, ↓oNin, ↓oInB, ↓isi_int, ↓isi_int_bl, ↓isi_int_str, ↓isi_int_tup, ↓isi_int_lst, ↓isi_str, ↓isi_str_int, ↓isi_tup, ↓isi_tup_int, ↓isi_tup_str, ↓isi_tup_lst, ↓isi_lst, ↓isi_lst_tup, ↓isi_lst_int, ↓isi_lst_str, ↓cv, ↓Cell.val, ↓Cell.up, ↓Cell.own, ↓lenD, ↓itemsOf, List.getElem?_cons_zero, List.getElem?_cons_succ, List.set_cons_zero, List.set_cons_succ, Option.bind_some, Option.isSome_some, List.length_cons, List.length_nil, true_and, and_true, ↓ixN_lit, ↓atI_lit, ↓reduceIte, Nat.reduceAdd, Nat.reduceLT, Nat.reduceSub, Nat.zero_add, Nat.reduceLeDiff, Nat.lt_add_one, Nat.zero_lt_succ, ↓oEq_int, ↓oNe_int, ↓oEq_str, ↓oNe_str, ↓oEq_bl, ↓oNe_bl, decide_eq_true_eq, Bool.false_eq_true, ↓u_while, ↓ownAt, List.all_cons, List.all_nil, Bool.and_true, List.getD_cons_zero, List.getD_cons_succ, Bool.not_false, ↓oLe_sign, ↓oMulS, ↓dDic, ↓dLock, ↓dGetS, ↓dStD, ↓dInS, ↓oInD, ↓dKeys, ↓dGet1, ↓dGet2, ↓dRev, ↓dMulL, ↓dCount, ↓dScrSl, ↓dScrLen, ↓dScrList, ↓oStrI]
    subst hk
    rw [em]
    have hl := cutG_length ns none (some 63)
    have hl2 : ((cutG ns none (some 63)).map fun i => if i < 0 then -i else i).length ≤ 63 := by rw [List.length_map]; omega
    generalize (cutG ns none (some 63)).map (fun i => if i < 0 then -i else i) = cs at hl2
    simp only [↓dSeq, ↓dNext, ↓dBreak, ↓dCont, ↓dNever, ↓dRet, ↓dRetN, ↓dDrop, ↓dSet, ↓dIf, ↓dAug, ↓dAsg, ↓dPar, ↓dVar, ↓dMove, ↓dC, ↓dFz, ↓dUp, ↓dNil, ↓dCons, ↓dTup, ↓dLst, ↓dBin, ↓dUn, ↓dChain, ↓dTest, ↓dAnd, ↓dOr, ↓dNot, ↓dAndV, ↓dOrV, ↓dNotV, ↓dIfE, ↓dgName, ↓dgNil, ↓dgCons, ↓dgTup, ↓dIt, ↓dRng1, ↓dRng2, ↓dZip, ↓dEnum, ↓u_for, ↓u_lc, ↓dYes, ↓u_call, ↓u_callF, ↓u_callIo, ↓dCB, ↓dCBF, ↓dBinS, ↓dLenS, ↓dSl, ↓dSlS, ↓dNo, ↓dPt, ↓dStL, ↓dApp, ↓dExt, ↓dJoin, ↓dRg1, ↓dRg2, ↓dTupRg, ↓dLstRg, ↓oSub, ↓oMulI, ↓oMul, ↓oFdiv, ↓oMod, ↓oPow, ↓oShr, ↓oXor, ↓oNeg, ↓oAdd, ↓oAug, ↓oLt, ↓oLe, ↓oGt, ↓oGe, ↓oI, ↓oIx, ↓oLen, ↓oInt, ↓oOrd, ↓oAbs, ↓oStL, ↓oIn, ↓oNin, ↓oInB, ↓isi_int, ↓isi_int_bl, ↓isi_int_str, ↓isi_int_tup, ↓isi_int_lst, ↓isi_str, ↓isi_str_int, ↓isi_tup, ↓isi_tup_int, ↓isi_tup_str, ↓isi_tup_lst, ↓isi_lst, ↓isi_lst_tup, ↓isi_lst_int, ↓isi_lst_str, ↓cv, ↓Cell.val, ↓Cell.up, ↓Cell.own, ↓lenD, ↓itemsOf, List.getElem?_cons_zero, List.getElem?_cons_succ, List.set_cons_zero, List.set_cons_succ, Option.bind_some, Option.isSome_some, List.length_cons, List.length_nil, true_and, and_true, ↓ixN_lit, ↓atI_lit, ↓reduceIte, Nat.reduceAdd, Nat.reduceLT, Nat.reduceSub, Nat.zero_add, Nat.reduceLeDiff, Nat.lt_add_one, Nat.zero_lt_succ, ↓oEq_int, ↓oNe_int, ↓oEq_str, ↓oNe_str, ↓oEq_bl, ↓oNe_bl, decide_eq_true_eq, Bool.false_eq_true, ↓u_while, ↓ownAt, List.all_cons, List.all_nil, Bool.and_true, List.getD_cons_zero, List.getD_cons_succ, Bool.not_false, ↓oLe_sign, ↓oMulS, ↓dDic, ↓dLock, ↓dGetS, ↓dStD, ↓dInS, ↓oInD, ↓dKeys, ↓dGet1, ↓dGet2, ↓dRev, ↓dMulL, ↓dCount, ↓dScrSl, ↓dScrLen, ↓dScrList, ↓oStrI, List.length_map]
    refine ⟨by decide, ?_⟩
    exact ⟨_, rfl, ⟨cs, 0, 0, 1 + (cs.length : Nat), 0⟩, ⟨by show (0 : Int) ≤ 0; decide, by show (0 : Int) ≤ 0; decide, by show (0 : Int) ≤ 1 + (cs.length : Nat); omega, by show 1 + ((cs.length : Nat) : Int) < 2147483648; omega⟩, rfl⟩
def S__law_draw : FnSpec := mkSpec (α := Hand × Int) [true, false] false (fun x => [x.1.d, .int x.2]) (fun x => x.1.Ok ∧ 1 ≤ x.2 ∧ x.2 < 1073741824) fun x r os => ∃ (k : Int) (h' : Hand), r = .int k ∧ 0 ≤ k ∧ k < x.2 ∧ os = [Hand.d h'] ∧ h'.Ok
theorem fr_draw : S__law_draw.fresh = false := rfl
/-- _law_draw: slots 0 _law_hand_here, 1 _law_many, 2 _law_cell, 3 _law_digit, 4 _law_number -/
def D__law_draw : DTS := (dSeq (dIf (dAnd (dTest (dBin oEq (dBinS 0 oIx (dC (.int 2))) (dC (.int 0)))) (dTest (dBin oLt (dBinS 0 oIx (dC (.int 1))) (dCB oLen (dCons (dBinS 0 oIx (dC (.int 0))) dNil))))) (dSeq (dSet 2 (dUp (dBin oIx (dBinS 0 oIx (dC (.int 0))) (dBinS 0 oIx (dC (.int 1)))))) (dSeq (dStL 0 (dBin oAdd (dBinS 0 oIx (dC (.int 1))) (dC (.int 1))) (dC (.int 1))) (dSeq (dStL 0 (dBin oMod (dCB oInt (dCons (dBin oAdd (dBin oAdd (dBin oMulS (dBinS 0 oIx (dC (.int 3))) (dC (.int 69621))) (dVar 2)) (dC (.int 11))) dNil)) (dC (.int 2147483629))) (dC (.int 3))) (dIf (dTest (dBin oGe (dVar 2) (dBin oPow (dC (.int 10)) (dC (.int 18))))) (dStL 0 (dVar 2) (dC (.int 2))) dNext)))) dNext) (dSeq (dIf (dTest (dBin oGt (dBinS 0 oIx (dC (.int 2))) (dC (.int 0)))) (dSeq (dSet 3 (dUp (dBin oMod (dCB oInt (dCons (dBinS 0 oIx (dC (.int 2))) dNil)) (dVar 1)))) (dSeq (dStL 0 (dBin oFdiv (dBinS 0 oIx (dC (.int 2))) (dVar 1)) (dC (.int 2))) (dRet (dUp (dVar 3))))) dNext) (dSeq (dStL 0 (dBin oAdd (dBinS 0 oIx (dC (.int 4))) (dC (.int 1))) (dC (.int 4))) (dSeq (dSet 4 (dUp (dBin oMod (dCB oInt (dCons (dBin oMulS (dCB oInt (dCons (dBin oAdd (dBinS 0 oIx (dC (.int 3))) (dBin oMulS (dC (.int 7919)) (dBinS 0 oIx (dC (.int 4))))) dNil)) (dC (.int 48271))) dNil)) (dC (.int 2147483647))))) (dSeq (dSet 4 (dUp (dBin oMod (dCB oInt (dCons (dBin oMulS (dVar 4) (dBin oAdd (dBin oFdiv (dVar 4) (dC (.int 1009))) (dC (.int 69621)))) dNil)) (dC (.int 2147483647))))) (dSeq (dSet 4 (dUp (dBin oMod (dCB oInt (dCons (dBin oMulS (dVar 4) (dBin oAdd (dBin oFdiv (dVar 4) (dC (.int 2003))) (dC (.int 40692)))) dNil)) (dC (.int 2147483399))))) (dRet (dUp (dBin oMod (dCB oInt (dCons (dBin oFdiv (dVar 4) (dC (.int 16))) dNil)) (dVar 1))))))))))
theorem sem__law_draw : ∀ ds Kd, S__law_draw.ds ds Kd → D__law_draw (endsOf S__law_draw Kd) (env0 5 [true, false] ds) := by
  rintro ds Kd ⟨⟨⟨cs, i, p, r, c⟩, m⟩, rfl, ⟨⟨i0, p0, r0, r1⟩, m1, m2⟩, post⟩
  simp only at i0 p0 r0 r1 m1 m2 post
  show D__law_draw (endsOf S__law_draw Kd) [.io (.lst [.lst (cs.map .int), .int i, .int p, .int r, .int c]), .fz (.int m), .un, .un, .un]
  unfold D__law_draw
  refine seq_gen fun k hk => ?_
  have fin : ∀ (i' p' r' c' : Int) (x : Cell), 0 ≤ i' → 0 ≤ p' → 0 ≤ r' → r' < 2147483648 → k [.io (.lst [.lst (cs.map .int), .int i', .int p', .int r', .int c']), .fz (.int m), x, .un, .un] := by
    intro i' p' r' c' x hi hp hr hr2
    subst hk
    refine seq_gen fun k hk => ?_
    refine if_gen fun kA kB hA hB => ?_
    simp only [↓dSeq, ↓dNext, ↓dBreak, ↓dCont, ↓dNever, ↓dRet, ↓dRetN, ↓dDrop, ↓dSet, ↓dIf, ↓dAug, ↓dAsg, ↓dPar, ↓dVar, ↓dMove, ↓dC, ↓dFz, ↓dUp, ↓dNil, ↓dCons, ↓dTup, ↓dLst, ↓dBin, ↓dUn, ↓dChain, ↓dTest, ↓dAnd, ↓dOr, ↓dNot, ↓dAndV, ↓dOrV, ↓dNotV, ↓dIfE, ↓dgName, ↓dgNil, ↓dgCons, ↓dgTup, ↓dIt, ↓dRng1, ↓dRng2, ↓dZip, ↓dEnum, ↓u_for, ↓u_lc, ↓dYes, ↓u_call, ↓u_callF, ↓u_callIo, ↓dCB, ↓dCBF, ↓dBinS, ↓dLenS, ↓dSl, ↓dSlS, ↓dNo, ↓dPt, ↓dStL, ↓dApp, ↓dExt, ↓dJoin, ↓dRg1, ↓dRg2, ↓dTupRg, ↓dLstRg, ↓oSub, ↓oMulI, ↓oMul, ↓oFdiv, ↓oMod, ↓oPow, ↓oShr, ↓oXor, ↓oNeg, ↓oAdd, ↓oAug, ↓oLt, ↓oLe, ↓oGt, ↓oGe, ↓oI, ↓oIx, ↓oLen, ↓oInt, ↓oOrd, ↓oAbs, ↓oStL, ↓oIn, ↓oNin, ↓oInB, ↓isi_int, ↓isi_int_bl, ↓isi_int_str, ↓isi_int_tup, ↓isi_int_lst, ↓isi_str, ↓isi_str_int, ↓isi_tup, ↓isi_tup_int, ↓isi_tup_str, ↓isi_tup_lst, ↓isi_lst, ↓isi_lst_tup, ↓isi_lst_int, ↓isi_lst_str, ↓cv, ↓Cell.val, ↓Cell.up, ↓Cell.own, ↓lenD, ↓itemsOf, List.getElem?_cons_zero, List.getElem?_cons_succ, List.set_cons_zero, List.set_cons_succ, Option.bind_some, Option.isSome_some, List.length_cons, List.length_nil, true_and, and_true, ↓ixN_lit, ↓atI_lit, ↓reduceIte, Nat.reduceAdd, Nat.reduceLT, Nat.reduceSub, Nat.zero_add, Nat.reduceLeDiff, Nat.lt_add_one, Nat.zero_lt_succ, ↓oEq_int, ↓oNe_int, ↓oEq_str, ↓oNe_str, ↓oEq_bl, ↓oNe_bl, decide_eq_true_eq, Bool.false_eq_true, ↓u_while, ↓ownAt, List.all_cons, List.all_nil, Bool.and_true, List.getD_cons_zero, List.getD_cons_succ, Bool.not_false, ↓oLe_sign, ↓oMulS, ↓dDic, ↓dLock, ↓dGetS, ↓dStD, ↓dInS, ↓oInD, ↓dKeys, ↓dGet1, ↓dGet2, ↓dRev, ↓dMulL, ↓dCount, ↓dScrSl, ↓dScrLen, ↓dScrList, ↓oStrI]
    by_cases hp0 : 0 < p'
    · rw [if_pos hp0]
      subst hA
      simp only [↓dSeq, ↓dNext, ↓dBreak, ↓dCont, ↓dNever, ↓dRet, ↓dRetN, ↓dDrop, ↓dSet, ↓dIf, ↓dAug, ↓dAsg, ↓dPar, ↓dVar, ↓dMove, ↓dC, ↓dFz, ↓dUp, ↓dNil, ↓dCons, ↓dTup, ↓dLst, ↓dBin, ↓dUn, ↓dChain, ↓dTest, ↓dAnd, ↓dOr, ↓dNot, ↓dAndV, ↓dOrV, ↓dNotV, ↓dIfE, ↓dgName, ↓dgNil, ↓dgCons, ↓dgTup, ↓dIt, ↓dRng1, ↓dRng2, ↓dZip, ↓dEnum, ↓u_for, ↓u_lc, ↓dYes, ↓u_call, ↓u_callF, ↓u_callIo, ↓dCB, ↓dCBF, ↓dBinS, ↓dLenS, ↓dSl, ↓dSlS, ↓dNo, ↓dPt, ↓dStL, ↓dApp, ↓dExt, ↓dJoin, ↓dRg1, ↓dRg2, ↓dTupRg, ↓dLstRg, ↓oSub, ↓oMulI, ↓oMul, ↓oFdiv, ↓oMod, ↓oPow, ↓oShr, ↓oXor, ↓oNeg, ↓oAdd, ↓oAug, ↓oLt, ↓oLe, ↓oGt, ↓oGe, ↓oI, ↓oIx, ↓oLen, ↓oInt, ↓oOrd, ↓oAbs, ↓oStL, ↓oIn, ↓oNin, ↓oInB, ↓isi_int, ↓isi_int_bl, ↓isi_int_str, ↓isi_int_tup, ↓isi_int_lst, ↓isi_str, ↓isi_str_int, ↓isi_tup, ↓isi_tup_int, ↓isi_tup_str, ↓isi_tup_lst, ↓isi_lst, ↓isi_lst_tup, ↓isi_lst_int, ↓isi_lst_str, ↓cv, ↓Cell.val, ↓Cell.up, ↓Cell.own, ↓lenD, ↓itemsOf, List.getElem?_cons_zero, List.getElem?_cons_succ, List.set_cons_zero, List.set_cons_succ, Option.bind_some, Option.isSome_some, List.length_cons, List.length_nil, true_and, and_true, ↓ixN_lit, ↓atI_lit, ↓reduceIte, Nat.reduceAdd, Nat.reduceLT, Nat.reduceSub, Nat.zero_add, Nat.reduceLeDiff, Nat.lt_add_one, Nat.zero_lt_succ, ↓oEq_int, ↓oNe_int, ↓oEq_str, ↓oNe_str, ↓oEq_bl, ↓oNe_bl, decide_eq_true_eq, Bool.false_eq_true, ↓u_while, ↓ownAt, List.all_cons, List.all_nil, Bool.and_true, List.getD_cons_zero, List.getD_cons_succ, Bool.not_false, ↓oLe_sign, ↓oMulS, ↓dDic, ↓dLock, ↓dGetS, ↓dStD, ↓dInS, ↓oInD, ↓dKeys, ↓dGet1, ↓dGet2, ↓dRev, ↓dMulL, ↓dCount, ↓dScrSl, ↓dScrLen, ↓dScrList, ↓oStrI]
      refine ⟨by omega, cdiv_lit (by omega) m2, ?_⟩
      refine ⟨rfl, post _ _ ⟨p' % m, ⟨cs, i', p' / m, r', c'⟩, rfl, Int.emod_nonneg _ (by omega), Int.emod_lt_of_pos _ (by omega), rfl, hi, Int.ediv_nonneg hp (by omega), hr, hr2⟩⟩
    · rw [if_neg hp0]
      subst hB
      simp only [↓dSeq, ↓dNext, ↓dBreak, ↓dCont, ↓dNever, ↓dRet, ↓dRetN, ↓dDrop, ↓dSet, ↓dIf, ↓dAug, ↓dAsg, ↓dPar, ↓dVar, ↓dMove, ↓dC, ↓dFz, ↓dUp, ↓dNil, ↓dCons, ↓dTup, ↓dLst, ↓dBin, ↓dUn, ↓dChain, ↓dTest, ↓dAnd, ↓dOr, ↓dNot, ↓dAndV, ↓dOrV, ↓dNotV, ↓dIfE, ↓dgName, ↓dgNil, ↓dgCons, ↓dgTup, ↓dIt, ↓dRng1, ↓dRng2, ↓dZip, ↓dEnum, ↓u_for, ↓u_lc, ↓dYes, ↓u_call, ↓u_callF, ↓u_callIo, ↓dCB, ↓dCBF, ↓dBinS, ↓dLenS, ↓dSl, ↓dSlS, ↓dNo, ↓dPt, ↓dStL, ↓dApp, ↓dExt, ↓dJoin, ↓dRg1, ↓dRg2, ↓dTupRg, ↓dLstRg, ↓oSub, ↓oMulI, ↓oMul, ↓oFdiv, ↓oMod, ↓oPow, ↓oShr, ↓oXor, ↓oNeg, ↓oAdd, ↓oAug, ↓oLt, ↓oLe, ↓oGt, ↓oGe, ↓oI, ↓oIx, ↓oLen, ↓oInt, ↓oOrd, ↓oAbs, ↓oStL, ↓oIn, ↓oNin, ↓oInB, ↓isi_int, ↓isi_int_bl, ↓isi_int_str, ↓isi_int_tup, ↓isi_int_lst, ↓isi_str, ↓isi_str_int, ↓isi_tup, ↓isi_tup_int, ↓isi_tup_str, ↓isi_tup_lst, ↓isi_lst, ↓isi_lst_tup, ↓isi_lst_int, ↓isi_lst_str, ↓cv, ↓Cell.val, ↓Cell.up, ↓Cell.own, ↓lenD, ↓itemsOf, List.getElem?_cons_zero, List.getElem?_cons_succ, List.set_cons_zero, List.set_cons_succ, Option.bind_some, Option.isSome_some, List.length_cons, List.length_nil, true_and, and_true, ↓ixN_lit, ↓atI_lit, ↓reduceIte, Nat.reduceAdd, Nat.reduceLT, Nat.reduceSub, Nat.zero_add, Nat.reduceLeDiff, Nat.lt_add_one, Nat.zero_lt_succ, ↓oEq_int, ↓oNe_int, ↓oEq_str, ↓oNe_str, ↓oEq_bl, ↓oNe_bl, decide_eq_true_eq, Bool.false_eq_true, ↓u_while, ↓ownAt, List.all_cons, List.all_nil, Bool.and_true, List.getD_cons_zero, List.getD_cons_succ, Bool.not_false, ↓oLe_sign, ↓oMulS, ↓dDic, ↓dLock, ↓dGetS, ↓dStD, ↓dInS, ↓oInD, ↓dKeys, ↓dGet1, ↓dGet2, ↓dRev, ↓dMulL, ↓dCount, ↓dScrSl, ↓dScrLen, ↓dScrList, ↓oStrI]
      subst hk
      refine seq_gen fun k hk => ?_
      simp only [↓dSeq, ↓dNext, ↓dBreak, ↓dCont, ↓dNever, ↓dRet, ↓dRetN, ↓dDrop, ↓dSet, ↓dIf, ↓dAug, ↓dAsg, ↓dPar, ↓dVar, ↓dMove, ↓dC, ↓dFz, ↓dUp, ↓dNil, ↓dCons, ↓dTup, ↓dLst, ↓dBin, ↓dUn, ↓dChain, ↓dTest, ↓dAnd, ↓dOr, ↓dNot, ↓dAndV, ↓dOrV, ↓dNotV, ↓dIfE, ↓dgName, ↓dgNil, ↓dgCons, ↓dgTup, ↓dIt, ↓dRng1, ↓dRng2, ↓dZip, ↓dEnum, ↓u_for, ↓u_lc, ↓dYes, ↓u_call, ↓u_callF, ↓u_callIo, ↓dCB, ↓dCBF, ↓dBinS, ↓dLenS, ↓dSl, ↓dSlS, ↓dNo, ↓dPt, ↓dStL, ↓dApp, ↓dExt, ↓dJoin, ↓dRg1, ↓dRg2, ↓dTupRg, ↓dLstRg, ↓oSub, ↓oMulI, ↓oMul, ↓oFdiv, ↓oMod, ↓oPow, ↓oShr, ↓oXor, ↓oNeg, ↓oAdd, ↓oAug, ↓oLt, ↓oLe, ↓oGt, ↓oGe, ↓oI, ↓oIx, ↓oLen, ↓oInt, ↓oOrd, ↓oAbs, ↓oStL, ↓oIn, ↓oNin, ↓oInB, ↓isi_int, ↓isi_int_bl, ↓isi_int_str, ↓isi_int_tup, ↓isi_int_lst, ↓isi_str, ↓isi_str_int, ↓isi_tup, ↓isi_tup_int, ↓isi_tup_str, ↓isi_tup_lst, ↓isi_lst, ↓isi_lst_tup, ↓isi_lst_int, ↓isi_lst_str, ↓cv, ↓Cell.val, ↓Cell.up, ↓Cell.own, ↓lenD, ↓itemsOf, List.getElem?_cons_zero, List.getElem?_cons_succ, List.set_cons_zero, List.set_cons_succ, Option.bind_some, Option.isSome_some, List.length_cons, List.length_nil, true_and, and_true, ↓ixN_lit, ↓atI_lit, ↓reduceIte, Nat.reduceAdd, Nat.reduceLT, Nat.reduceSub, Nat.zero_add, Nat.reduceLeDiff, Nat.lt_add_one, Nat.zero_lt_succ, ↓oEq_int, ↓oNe_int, ↓oEq_str, ↓oNe_str, ↓oEq_bl, ↓oNe_bl, decide_eq_true_eq, Bool.false_eq_true, ↓u_while, ↓ownAt, List.all_cons, List.all_nil, Bool.and_true, List.getD_cons_zero, List.getD_cons_succ, Bool.not_false, ↓oLe_sign, ↓oMulS, ↓dDic, ↓dLock, ↓dGetS, ↓dStD, ↓dInS, ↓oInD, ↓dKeys, ↓dGet1, ↓dGet2, ↓dRev, ↓dMulL, ↓dCount, ↓dScrSl, ↓dScrLen, ↓dScrList, ↓oStrI]
      subst hk
      refine seq_gen fun k hk => ?_
      simp only [↓dSeq, ↓dNext, ↓dBreak, ↓dCont, ↓dNever, ↓dRet, ↓dRetN, ↓dDrop, ↓dSet, ↓dIf, ↓dAug, ↓dAsg, ↓dPar, ↓dVar, ↓dMove, ↓dC, ↓dFz, ↓dUp, ↓dNil, ↓dCons, ↓dTup, ↓dLst, ↓dBin, ↓dUn, ↓dChain, ↓dTest, ↓dAnd, ↓dOr, ↓dNot, ↓dAndV, ↓dOrV, ↓dNotV, ↓dIfE, ↓dgName, ↓dgNil, ↓dgCons, ↓dgTup, ↓dIt, ↓dRng1, ↓dRng2, ↓dZip, ↓dEnum, ↓u_for, ↓u_lc, ↓dYes, ↓u_call, ↓u_callF, ↓u_callIo, ↓dCB, ↓dCBF, ↓dBinS, ↓dLenS, ↓dSl, ↓dSlS, ↓dNo, ↓dPt, ↓dStL, ↓dApp, ↓dExt, ↓dJoin, ↓dRg1, ↓dRg2, ↓dTupRg, ↓dLstRg, ↓oSub, ↓oMulI, ↓oMul, ↓oFdiv, ↓oMod, ↓oPow, ↓oShr, ↓oXor, ↓oNeg, ↓oAdd, ↓oAug, ↓oLt, ↓oLe, ↓oGt, ↓oGe, ↓oI, ↓oIx, ↓oLen, ↓oInt, ↓oOrd, ↓oAbs, ↓oStL, ↓oIn, ↓oNin, ↓oInB, ↓isi_int, ↓isi_int_bl, ↓isi_int_str, ↓isi_int_tup, ↓isi_int_lst, ↓isi_str, ↓isi_str_int, ↓isi_tup, ↓isi_tup_int, ↓isi_tup_str, ↓isi_tup_lst, ↓isi_lst, ↓isi_lst_tup, ↓isi_lst_int, ↓isi_lst_str, ↓cv, ↓Cell.val, ↓Cell.up, ↓Cell.own, ↓lenD, ↓itemsOf, List.getElem?_cons_zero, List.getElem?_cons_succ, List.set_cons_zero, List.set_cons_succ, Option.bind_some, Option.isSome_some, List.length_cons, List.length_nil, true_and, and_true, ↓ixN_lit, ↓atI_lit, ↓reduceIte, Nat.reduceAdd, Nat.reduceLT, Nat.reduceSub, Nat.zero_add, Nat.reduceLeDiff, Nat.lt_add_one, Nat.zero_lt_succ, ↓oEq_int, ↓oNe_int, ↓oEq_str, ↓oNe_str, ↓oEq_bl, ↓oNe_bl, decide_eq_true_eq, Bool.false_eq_true, ↓u_while, ↓ownAt, List.all_cons, List.all_nil, Bool.and_true, List.getD_cons_zero, List.getD_cons_succ, Bool.not_false, ↓oLe_sign, ↓oMulS, ↓dDic, ↓dLock, ↓dGetS, ↓dStD, ↓dInS, ↓oInD, ↓dKeys, ↓dGet1, ↓dGet2, ↓dRev, ↓dMulL, ↓dCount, ↓dScrSl, ↓dScrLen, ↓dScrList, ↓oStrI]
      refine ⟨.inl ⟨by decide, by decide⟩, .inr ⟨by decide, by decide⟩, by decide, ?_⟩
      generalize hr' : ((r' + 7919 * (c' + 1)) * 48271) % 2147483647 = n0
      have b2 := modr (a := (r' + 7919 * (c' + 1)) * 48271) (M := 2147483647) (by decide) (by decide)
      rw [hr'] at b2
      subst hk
      refine seq_gen fun k hk => ?_
      simp only [↓dSeq, ↓dNext, ↓dBreak, ↓dCont, ↓dNever, ↓dRet, ↓dRetN, ↓dDrop, ↓dSet, ↓dIf, ↓dAug, ↓dAsg, ↓dPar, ↓dVar, ↓dMove, ↓dC, ↓dFz, ↓dUp, ↓dNil, ↓dCons, ↓dTup, ↓dLst, ↓dBin, ↓dUn, ↓dChain, ↓dTest, ↓dAnd, ↓dOr, ↓dNot, ↓dAndV, ↓dOrV, ↓dNotV, ↓dIfE, ↓dgName, ↓dgNil, ↓dgCons, ↓dgTup, ↓dIt, ↓dRng1, ↓dRng2, ↓dZip, ↓dEnum, ↓u_for, ↓u_lc, ↓dYes, ↓u_call, ↓u_callF, ↓u_callIo, ↓dCB, ↓dCBF, ↓dBinS, ↓dLenS, ↓dSl, ↓dSlS, ↓dNo, ↓dPt, ↓dStL, ↓dApp, ↓dExt, ↓dJoin, ↓dRg1, ↓dRg2, ↓dTupRg, ↓dLstRg, ↓oSub, ↓oMulI, ↓oMul, ↓oFdiv, ↓oMod, ↓oPow, ↓oShr, ↓oXor, ↓oNeg, ↓oAdd, ↓oAug, ↓oLt, ↓oLe, ↓oGt, ↓oGe, ↓oI, ↓oIx, ↓oLen, ↓oInt, ↓oOrd, ↓oAbs, ↓oStL, ↓oIn, ↓oNin, ↓oInB, ↓isi_int, ↓isi_int_bl, ↓isi_int_str, ↓isi_int_tup, ↓isi_int_lst, ↓isi_str, ↓isi_str_int, ↓isi_tup, ↓isi_tup_int, ↓isi_tup_str, ↓isi_tup_lst, ↓isi_lst, ↓isi_lst_tup, ↓isi_lst_int, ↓isi_lst_str, ↓cv, ↓Cell.val, ↓Cell.up, ↓Cell.own, ↓lenD, ↓itemsOf, List.getElem?_cons_zero, List.getElem?_cons_succ, List.set_cons_zero, List.set_cons_succ, Option.bind_some, Option.isSome_some, List.length_cons, List.length_nil, true_and, and_true, ↓ixN_lit, ↓atI_lit, ↓reduceIte, Nat.reduceAdd, Nat.reduceLT, Nat.reduceSub, Nat.zero_add, Nat.reduceLeDiff, Nat.lt_add_one, Nat.zero_lt_succ, ↓oEq_int, ↓oNe_int, ↓oEq_str, ↓oNe_str, ↓oEq_bl, ↓oNe_bl, decide_eq_true_eq, Bool.false_eq_true, ↓u_while, ↓ownAt, List.all_cons, List.all_nil, Bool.and_true, List.getD_cons_zero, List.getD_cons_succ, Bool.not_false, ↓oLe_sign, ↓oMulS, ↓dDic, ↓dLock, ↓dGetS, ↓dStD, ↓dInS, ↓oInD, ↓dKeys, ↓dGet1, ↓dGet2, ↓dRev, ↓dMulL, ↓dCount, ↓dScrSl, ↓dScrLen, ↓dScrList, ↓oStrI]
      refine ⟨cdiv_lit (by decide) (by decide), cmul_l b2.1 b2.2, by decide, ?_⟩
      generalize hn : (n0 * (n0 / 1009 + 69621)) % 2147483647 = n1
      have b3 := modr (a := n0 * (n0 / 1009 + 69621)) (M := 2147483647) (by decide) (by decide)
      rw [hn] at b3
      subst hk
      refine seq_gen fun k hk => ?_
      simp only [↓dSeq, ↓dNext, ↓dBreak, ↓dCont, ↓dNever, ↓dRet, ↓dRetN, ↓dDrop, ↓dSet, ↓dIf, ↓dAug, ↓dAsg, ↓dPar, ↓dVar, ↓dMove, ↓dC, ↓dFz, ↓dUp, ↓dNil, ↓dCons, ↓dTup, ↓dLst, ↓dBin, ↓dUn, ↓dChain, ↓dTest, ↓dAnd, ↓dOr, ↓dNot, ↓dAndV, ↓dOrV, ↓dNotV, ↓dIfE, ↓dgName, ↓dgNil, ↓dgCons, ↓dgTup, ↓dIt, ↓dRng1, ↓dRng2, ↓dZip, ↓dEnum, ↓u_for, ↓u_lc, ↓dYes, ↓u_call, ↓u_callF, ↓u_callIo, ↓dCB, ↓dCBF, ↓dBinS, ↓dLenS, ↓dSl, ↓dSlS, ↓dNo, ↓dPt, ↓dStL, ↓dApp, ↓dExt, ↓dJoin, ↓dRg1, ↓dRg2, ↓dTupRg, ↓dLstRg, ↓oSub, ↓oMulI, ↓oMul, ↓oFdiv, ↓oMod, ↓oPow, ↓oShr, ↓oXor, ↓oNeg, ↓oAdd, ↓oAug, ↓oLt, ↓oLe, ↓oGt, ↓oGe, ↓oI, ↓oIx, ↓oLen, ↓oInt, ↓oOrd, ↓oAbs, ↓oStL, ↓oIn, ↓oNin, ↓oInB, ↓isi_int, ↓isi_int_bl, ↓isi_int_str, ↓isi_int_tup, ↓isi_int_lst, ↓isi_str, ↓isi_str_int, ↓isi_tup, ↓isi_tup_int, ↓isi_tup_str, ↓isi_tup_lst, ↓isi_lst, ↓isi_lst_tup, ↓isi_lst_int, ↓isi_lst_str, ↓cv, ↓Cell.val, ↓Cell.up, ↓Cell.own, ↓lenD, ↓itemsOf, List.getElem?_cons_zero, List.getElem?_cons_succ, List.set_cons_zero, List.set_cons_succ, Option.bind_some, Option.isSome_some, List.length_cons, List.length_nil, true_and, and_true, ↓ixN_lit, ↓atI_lit, ↓reduceIte, Nat.reduceAdd, Nat.reduceLT, Nat.reduceSub, Nat.zero_add, Nat.reduceLeDiff, Nat.lt_add_one, Nat.zero_lt_succ, ↓oEq_int, ↓oNe_int, ↓oEq_str, ↓oNe_str, ↓oEq_bl, ↓oNe_bl, decide_eq_true_eq, Bool.false_eq_true, ↓u_while, ↓ownAt, List.all_cons, List.all_nil, Bool.and_true, List.getD_cons_zero, List.getD_cons_succ, Bool.not_false, ↓oLe_sign, ↓oMulS, ↓dDic, ↓dLock, ↓dGetS, ↓dStD, ↓dInS, ↓oInD, ↓dKeys, ↓dGet1, ↓dGet2, ↓dRev, ↓dMulL, ↓dCount, ↓dScrSl, ↓dScrLen, ↓dScrList, ↓oStrI]
      refine ⟨cdiv_lit (by decide) (by decide), cmul_l b3.1 b3.2, by decide, ?_⟩
      generalize hn2 : (n1 * (n1 / 2003 + 40692)) % 2147483399 = n2
      subst hk
      simp only [↓dSeq, ↓dNext, ↓dBreak, ↓dCont, ↓dNever, ↓dRet, ↓dRetN, ↓dDrop, ↓dSet, ↓dIf, ↓dAug, ↓dAsg, ↓dPar, ↓dVar, ↓dMove, ↓dC, ↓dFz, ↓dUp, ↓dNil, ↓dCons, ↓dTup, ↓dLst, ↓dBin, ↓dUn, ↓dChain, ↓dTest, ↓dAnd, ↓dOr, ↓dNot, ↓dAndV, ↓dOrV, ↓dNotV, ↓dIfE, ↓dgName, ↓dgNil, ↓dgCons, ↓dgTup, ↓dIt, ↓dRng1, ↓dRng2, ↓dZip, ↓dEnum, ↓u_for, ↓u_lc, ↓dYes, ↓u_call, ↓u_callF, ↓u_callIo, ↓dCB, ↓dCBF, ↓dBinS, ↓dLenS, ↓dSl, ↓dSlS, ↓dNo, ↓dPt, ↓dStL, ↓dApp, ↓dExt, ↓dJoin, ↓dRg1, ↓dRg2, ↓dTupRg, ↓dLstRg, ↓oSub, ↓oMulI, ↓oMul, ↓oFdiv, ↓oMod, ↓oPow, ↓oShr, ↓oXor, ↓oNeg, ↓oAdd, ↓oAug, ↓oLt, ↓oLe, ↓oGt, ↓oGe, ↓oI, ↓oIx, ↓oLen, ↓oInt, ↓oOrd, ↓oAbs, ↓oStL, ↓oIn, ↓oNin, ↓oInB, ↓isi_int, ↓isi_int_bl, ↓isi_int_str, ↓isi_int_tup, ↓isi_int_lst, ↓isi_str, ↓isi_str_int, ↓isi_tup, ↓isi_tup_int, ↓isi_tup_str, ↓isi_tup_lst, ↓isi_lst, ↓isi_lst_tup, ↓isi_lst_int, ↓isi_lst_str, ↓cv, ↓Cell.val, ↓Cell.up, ↓Cell.own, ↓lenD, ↓itemsOf, List.getElem?_cons_zero, List.getElem?_cons_succ, List.set_cons_zero, List.set_cons_succ, Option.bind_some, Option.isSome_some, List.length_cons, List.length_nil, true_and, and_true, ↓ixN_lit, ↓atI_lit, ↓reduceIte, Nat.reduceAdd, Nat.reduceLT, Nat.reduceSub, Nat.zero_add, Nat.reduceLeDiff, Nat.lt_add_one, Nat.zero_lt_succ, ↓oEq_int, ↓oNe_int, ↓oEq_str, ↓oNe_str, ↓oEq_bl, ↓oNe_bl, decide_eq_true_eq, Bool.false_eq_true, ↓u_while, ↓ownAt, List.all_cons, List.all_nil, Bool.and_true, List.getD_cons_zero, List.getD_cons_succ, Bool.not_false, ↓oLe_sign, ↓oMulS, ↓dDic, ↓dLock, ↓dGetS, ↓dStD, ↓dInS, ↓oInD, ↓dKeys, ↓dGet1, ↓dGet2, ↓dRev, ↓dMulL, ↓dCount, ↓dScrSl, ↓dScrLen, ↓dScrList, ↓oStrI]
      refine ⟨cdiv_lit (by decide) (by decide), by omega, ?_⟩
      refine ⟨rfl, post _ _ ⟨n2 / 16 % m, ⟨cs, i', p', r', c' + 1⟩, rfl, Int.emod_nonneg _ (by omega), Int.emod_lt_of_pos _ (by omega), rfl, hi, hp, hr, hr2⟩⟩
  refine if_gen fun kA kB hA hB => ?_
  simp only [↓dSeq, ↓dNext, ↓dBreak, ↓dCont, ↓dNever, ↓dRet, ↓dRetN, ↓dDrop, ↓dSet, ↓dIf, ↓dAug, ↓dAsg, ↓dPar, ↓dVar, ↓dMove, ↓dC, ↓dFz, ↓dUp, ↓dNil, ↓dCons, ↓dTup, ↓dLst, ↓dBin, ↓dUn, ↓dChain, ↓dTest, ↓dAnd, ↓dOr, ↓dNot, ↓dAndV, ↓dOrV, ↓dNotV, ↓dIfE, ↓dgName, ↓dgNil, ↓dgCons, ↓dgTup, ↓dIt, ↓dRng1, ↓dRng2, ↓dZip, ↓dEnum, ↓u_for, ↓u_lc, ↓dYes, ↓u_call, ↓u_callF, ↓u_callIo, ↓dCB, ↓dCBF, ↓dBinS, ↓dLenS, ↓dSl, ↓dSlS, ↓dNo, ↓dPt, ↓dStL, ↓dApp, ↓dExt, ↓dJoin, ↓dRg1, ↓dRg2, ↓dTupRg, ↓dLstRg, ↓oSub, ↓oMulI, ↓oMul, ↓oFdiv, ↓oMod, ↓oPow, ↓oShr, ↓oXor, ↓oNeg, ↓oAdd, ↓oAug, ↓oLt, ↓oLe, ↓oGt, ↓oGe, ↓oI, ↓oIx, ↓oLen, ↓oInt, ↓oOrd, ↓oAbs, ↓oStL, ↓oIn, ↓oNin, ↓oInB, ↓isi_int, ↓isi_int_bl, ↓isi_int_str, ↓isi_int_tup, ↓isi_int_lst, ↓isi_str, ↓isi_str_int, ↓isi_tup, ↓isi_tup_int, ↓isi_tup_str, ↓isi_tup_lst, ↓isi_lst, ↓isi_lst_tup, ↓isi_lst_int, ↓isi_lst_str, ↓cv, ↓Cell.val, ↓Cell.up, ↓Cell.own, ↓lenD, ↓itemsOf, List.getElem?_cons_zero, List.getElem?_cons_succ, List.set_cons_zero, List.set_cons_succ, Option.bind_some, Option.isSome_some, List.length_cons, List.length_nil, true_and, and_true, ↓ixN_lit, ↓atI_lit, ↓reduceIte, Nat.reduceAdd, Nat.reduceLT, Nat.reduceSub, Nat.zero_add, Nat.reduceLeDiff, Nat.lt_add_one, Nat.zero_lt_succ, ↓oEq_int, ↓oNe_int, ↓oEq_str, ↓oNe_str, ↓oEq_bl, ↓oNe_bl, decide_eq_true_eq, Bool.false_eq_true, ↓u_while, ↓ownAt, List.all_cons, List.all_nil, Bool.and_true, List.getD_cons_zero, List.getD_cons_succ, Bool.not_false, ↓oLe_sign, ↓oMulS, ↓dDic, ↓dLock, ↓dGetS, ↓dStD, ↓dInS, ↓oInD, ↓dKeys, ↓dGet1, ↓dGet2, ↓dRev, ↓dMulL, ↓dCount, ↓dScrSl, ↓dScrLen, ↓dScrList, ↓oStrI]
  have hB2 : kB [.io (.lst [.lst (cs.map .int), .int i, .int p, .int r, .int c]), .fz (.int m), .un, .un, .un] := by
    subst hB
    exact fin _ _ _ _ _ i0 p0 r0 r1
  by_cases c1 : p = 0
  · rw [if_pos c1]
    by_cases c2 : i < (cs.map D.int).length
    · rw [if_pos c2]
      obtain ⟨x, hx, _, hm⟩ := atI_in i0 c2
      obtain ⟨z, _, rfl⟩ := List.mem_map.mp hm
      subst hA
      refine seq_gen fun k2 hk2 => ?_
      simp only [↓dSeq, ↓dNext, ↓dBreak, ↓dCont, ↓dNever, ↓dRet, ↓dRetN, ↓dDrop, ↓dSet, ↓dIf, ↓dAug, ↓dAsg, ↓dPar, ↓dVar, ↓dMove, ↓dC, ↓dFz, ↓dUp, ↓dNil, ↓dCons, ↓dTup, ↓dLst, ↓dBin, ↓dUn, ↓dChain, ↓dTest, ↓dAnd, ↓dOr, ↓dNot, ↓dAndV, ↓dOrV, ↓dNotV, ↓dIfE, ↓dgName, ↓dgNil, ↓dgCons, ↓dgTup, ↓dIt, ↓dRng1, ↓dRng2, ↓dZip, ↓dEnum, ↓u_for, ↓u_lc, ↓dYes, ↓u_call, ↓u_callF, ↓u_callIo, ↓dCB, ↓dCBF, ↓dBinS, ↓dLenS, ↓dSl, ↓dSlS, ↓dNo, ↓dPt, ↓dStL, ↓dApp, ↓dExt, ↓dJoin, ↓dRg1, ↓dRg2, ↓dTupRg, ↓dLstRg, ↓oSub, ↓oMulI, ↓oMul, ↓oFdiv, ↓oMod, ↓oPow, ↓oShr, ↓oXor, ↓oNeg, ↓oAdd, ↓oAug, ↓oLt, ↓oLe, ↓oGt, ↓oGe, ↓oI, ↓oIx, ↓oLen, ↓oInt, ↓oOrd, ↓oAbs, ↓oStL, ↓oIn, ↓oNin, ↓oInB, ↓isi_int, ↓isi_int_bl, ↓isi_int_str, ↓isi_int_tup, ↓isi_int_lst, ↓isi_str, ↓isi_str_int, ↓isi_tup, ↓isi_tup_int, ↓isi_tup_str, ↓isi_tup_lst, ↓isi_lst, ↓isi_lst_tup, ↓isi_lst_int, ↓isi_lst_str, ↓cv, ↓Cell.val, ↓Cell.up, ↓Cell.own, ↓lenD, ↓itemsOf, List.getElem?_cons_zero, List.getElem?_cons_succ, List.set_cons_zero, List.set_cons_succ, Option.bind_some, Option.isSome_some, List.length_cons, List.length_nil, true_and, and_true, ↓ixN_lit, ↓atI_lit, ↓reduceIte, Nat.reduceAdd, Nat.reduceLT, Nat.reduceSub, Nat.zero_add, Nat.reduceLeDiff, Nat.lt_add_one, Nat.zero_lt_succ, ↓oEq_int, ↓oNe_int, ↓oEq_str, ↓oNe_str, ↓oEq_bl, ↓oNe_bl, decide_eq_true_eq, Bool.false_eq_true, ↓u_while, ↓ownAt, List.all_cons, List.all_nil, Bool.and_true, List.getD_cons_zero, List.getD_cons_succ, Bool.not_false, ↓oLe_sign, ↓oMulS, ↓dDic, ↓dLock, ↓dGetS, ↓dStD, ↓dInS, ↓oInD, ↓dKeys, ↓dGet1, ↓dGet2, ↓dRev, ↓dMulL, ↓dCount, ↓dScrSl, ↓dScrLen, ↓dScrList, ↓oStrI, hx]
      subst hk2
      refine seq_gen fun k2 hk2 => ?_
      simp only [↓dSeq, ↓dNext, ↓dBreak, ↓dCont, ↓dNever, ↓dRet, ↓dRetN, ↓dDrop, ↓dSet, ↓dIf, ↓dAug, ↓dAsg, ↓dPar, ↓dVar, ↓dMove, ↓dC, ↓dFz, ↓dUp, ↓dNil, ↓dCons, ↓dTup, ↓dLst, ↓dBin, ↓dUn, ↓dChain, ↓dTest, ↓dAnd, ↓dOr, ↓dNot, ↓dAndV, ↓dOrV, ↓dNotV, ↓dIfE, ↓dgName, ↓dgNil, ↓dgCons, ↓dgTup, ↓dIt, ↓dRng1, ↓dRng2, ↓dZip, ↓dEnum, ↓u_for, ↓u_lc, ↓dYes, ↓u_call, ↓u_callF, ↓u_callIo, ↓dCB, ↓dCBF, ↓dBinS, ↓dLenS, ↓dSl, ↓dSlS, ↓dNo, ↓dPt, ↓dStL, ↓dApp, ↓dExt, ↓dJoin, ↓dRg1, ↓dRg2, ↓dTupRg, ↓dLstRg, ↓oSub, ↓oMulI, ↓oMul, ↓oFdiv, ↓oMod, ↓oPow, ↓oShr, ↓oXor, ↓oNeg, ↓oAdd, ↓oAug, ↓oLt, ↓oLe, ↓oGt, ↓oGe, ↓oI, ↓oIx, ↓oLen, ↓oInt, ↓oOrd, ↓oAbs, ↓oStL, ↓oIn, ↓oNin, ↓oInB, ↓isi_int, ↓isi_int_bl, ↓isi_int_str, ↓isi_int_tup, ↓isi_int_lst, ↓isi_str, ↓isi_str_int, ↓isi_tup, ↓isi_tup_int, ↓isi_tup_str, ↓isi_tup_lst, ↓isi_lst, ↓isi_lst_tup, ↓isi_lst_int, ↓isi_lst_str, ↓cv, ↓Cell.val, ↓Cell.up, ↓Cell.own, ↓lenD, ↓itemsOf, List.getElem?_cons_zero, List.getElem?_cons_succ, List.set_cons_zero, List.set_cons_succ, Option.bind_some, Option.isSome_some, List.length_cons, List.length_nil, true_and, and_true, ↓ixN_lit, ↓atI_lit, ↓reduceIte, Nat.reduceAdd, Nat.reduceLT, Nat.reduceSub, Nat.zero_add, Nat.reduceLeDiff, Nat.lt_add_one, Nat.zero_lt_succ, ↓oEq_int, ↓oNe_int, ↓oEq_str, ↓oNe_str, ↓oEq_bl, ↓oNe_bl, decide_eq_true_eq, Bool.false_eq_true, ↓u_while, ↓ownAt, List.all_cons, List.all_nil, Bool.and_true, List.getD_cons_zero, List.getD_cons_succ, Bool.not_false, ↓oLe_sign, ↓oMulS, ↓dDic, ↓dLock, ↓dGetS, ↓dStD, ↓dInS, ↓oInD, ↓dKeys, ↓dGet1, ↓dGet2, ↓dRev, ↓dMulL, ↓dCount, ↓dScrSl, ↓dScrLen, ↓dScrList, ↓oStrI]
      subst hk2
      refine seq_gen fun k2 hk2 => ?_
      simp only [↓dSeq, ↓dNext, ↓dBreak, ↓dCont, ↓dNever, ↓dRet, ↓dRetN, ↓dDrop, ↓dSet, ↓dIf, ↓dAug, ↓dAsg, ↓dPar, ↓dVar, ↓dMove, ↓dC, ↓dFz, ↓dUp, ↓dNil, ↓dCons, ↓dTup, ↓dLst, ↓dBin, ↓dUn, ↓dChain, ↓dTest, ↓dAnd, ↓dOr, ↓dNot, ↓dAndV, ↓dOrV, ↓dNotV, ↓dIfE, ↓dgName, ↓dgNil, ↓dgCons, ↓dgTup, ↓dIt, ↓dRng1, ↓dRng2, ↓dZip, ↓dEnum, ↓u_for, ↓u_lc, ↓dYes, ↓u_call, ↓u_callF, ↓u_callIo, ↓dCB, ↓dCBF, ↓dBinS, ↓dLenS, ↓dSl, ↓dSlS, ↓dNo, ↓dPt, ↓dStL, ↓dApp, ↓dExt, ↓dJoin, ↓dRg1, ↓dRg2, ↓dTupRg, ↓dLstRg, ↓oSub, ↓oMulI, ↓oMul, ↓oFdiv, ↓oMod, ↓oPow, ↓oShr, ↓oXor, ↓oNeg, ↓oAdd, ↓oAug, ↓oLt, ↓oLe, ↓oGt, ↓oGe, ↓oI, ↓oIx, ↓oLen, ↓oInt, ↓oOrd, ↓oAbs, ↓oStL, ↓oIn, ↓oNin, ↓oInB, ↓isi_int, ↓isi_int_bl, ↓isi_int_str, ↓isi_int_tup, ↓isi_int_lst, ↓isi_str, ↓isi_str_int, ↓isi_tup, ↓isi_tup_int, ↓isi_tup_str, ↓isi_tup_lst, ↓isi_lst, ↓isi_lst_tup, ↓isi_lst_int, ↓isi_lst_str, ↓cv, ↓Cell.val, ↓Cell.up, ↓Cell.own, ↓lenD, ↓itemsOf, List.getElem?_cons_zero, List.getElem?_cons_succ, List.set_cons_zero, List.set_cons_succ, Option.bind_some, Option.isSome_some, List.length_cons, List.length_nil, true_and, and_true, ↓ixN_lit, ↓atI_lit, ↓reduceIte, Nat.reduceAdd, Nat.reduceLT, Nat.reduceSub, Nat.zero_add, Nat.reduceLeDiff, Nat.lt_add_one, Nat.zero_lt_succ, ↓oEq_int, ↓oNe_int, ↓oEq_str, ↓oNe_str, ↓oEq_bl, ↓oNe_bl, decide_eq_true_eq, Bool.false_eq_true, ↓u_while, ↓ownAt, List.all_cons, List.all_nil, Bool.and_true, List.getD_cons_zero, List.getD_cons_succ, Bool.not_false, ↓oLe_sign, ↓oMulS, ↓dDic, ↓dLock, ↓dGetS, ↓dStD, ↓dInS, ↓oInD, ↓dKeys, ↓dGet1, ↓dGet2, ↓dRev, ↓dMulL, ↓dCount, ↓dScrSl, ↓dScrLen, ↓dScrList, ↓oStrI]
      refine ⟨.inr ⟨by decide, by decide⟩, by decide, ?_⟩
      generalize hr' : (r * 69621 + z + 11) % 2147483629 = r2
      have b2 := modr (a := r * 69621 + z + 11) (M := 2147483629) (by decide) (by decide)
      rw [hr'] at b2
      subst hk2
      refine if_gen fun kC kD hC hD => ?_
      simp only [↓dSeq, ↓dNext, ↓dBreak, ↓dCont, ↓dNever, ↓dRet, ↓dRetN, ↓dDrop, ↓dSet, ↓dIf, ↓dAug, ↓dAsg, ↓dPar, ↓dVar, ↓dMove, ↓dC, ↓dFz, ↓dUp, ↓dNil, ↓dCons, ↓dTup, ↓dLst, ↓dBin, ↓dUn, ↓dChain, ↓dTest, ↓dAnd, ↓dOr, ↓dNot, ↓dAndV, ↓dOrV, ↓dNotV, ↓dIfE, ↓dgName, ↓dgNil, ↓dgCons, ↓dgTup, ↓dIt, ↓dRng1, ↓dRng2, ↓dZip, ↓dEnum, ↓u_for, ↓u_lc, ↓dYes, ↓u_call, ↓u_callF, ↓u_callIo, ↓dCB, ↓dCBF, ↓dBinS, ↓dLenS, ↓dSl, ↓dSlS, ↓dNo, ↓dPt, ↓dStL, ↓dApp, ↓dExt, ↓dJoin, ↓dRg1, ↓dRg2, ↓dTupRg, ↓dLstRg, ↓oSub, ↓oMulI, ↓oMul, ↓oFdiv, ↓oMod, ↓oPow, ↓oShr, ↓oXor, ↓oNeg, ↓oAdd, ↓oAug, ↓oLt, ↓oLe, ↓oGt, ↓oGe, ↓oI, ↓oIx, ↓oLen, ↓oInt, ↓oOrd, ↓oAbs, ↓oStL, ↓oIn, ↓oNin, ↓oInB, ↓isi_int, ↓isi_int_bl, ↓isi_int_str, ↓isi_int_tup, ↓isi_int_lst, ↓isi_str, ↓isi_str_int, ↓isi_tup, ↓isi_tup_int, ↓isi_tup_str, ↓isi_tup_lst, ↓isi_lst, ↓isi_lst_tup, ↓isi_lst_int, ↓isi_lst_str, ↓cv, ↓Cell.val, ↓Cell.up, ↓Cell.own, ↓lenD, ↓itemsOf, List.getElem?_cons_zero, List.getElem?_cons_succ, List.set_cons_zero, List.set_cons_succ, Option.bind_some, Option.isSome_some, List.length_cons, List.length_nil, true_and, and_true, ↓ixN_lit, ↓atI_lit, ↓reduceIte, Nat.reduceAdd, Nat.reduceLT, Nat.reduceSub, Nat.zero_add, Nat.reduceLeDiff, Nat.lt_add_one, Nat.zero_lt_succ, ↓oEq_int, ↓oNe_int, ↓oEq_str, ↓oNe_str, ↓oEq_bl, ↓oNe_bl, decide_eq_true_eq, Bool.false_eq_true, ↓u_while, ↓ownAt, List.all_cons, List.all_nil, Bool.and_true, List.getD_cons_zero, List.getD_cons_succ, Bool.not_false, ↓oLe_sign, ↓oMulS, ↓dDic, ↓dLock, ↓dGetS, ↓dStD, ↓dInS, ↓oInD, ↓dKeys, ↓dGet1, ↓dGet2, ↓dRev, ↓dMulL, ↓dCount, ↓dScrSl, ↓dScrLen, ↓dScrList, ↓oStrI]
      refine ⟨⟨by decide, by decide, by decide⟩, ?_⟩
      by_cases c3 : (10 : Int) ^ Int.toNat 18 ≤ z
      · rw [if_pos c3]
        subst hC
        simp only [↓dSeq, ↓dNext, ↓dBreak, ↓dCont, ↓dNever, ↓dRet, ↓dRetN, ↓dDrop, ↓dSet, ↓dIf, ↓dAug, ↓dAsg, ↓dPar, ↓dVar, ↓dMove, ↓dC, ↓dFz, ↓dUp, ↓dNil, ↓dCons, ↓dTup, ↓dLst, ↓dBin, ↓dUn, ↓dChain, ↓dTest, ↓dAnd, ↓dOr, ↓dNot, ↓dAndV, ↓dOrV, ↓dNotV, ↓dIfE, ↓dgName, ↓dgNil, ↓dgCons, ↓dgTup, ↓dIt, ↓dRng1, ↓dRng2, ↓dZip, ↓dEnum, ↓u_for, ↓u_lc, ↓dYes, ↓u_call, ↓u_callF, ↓u_callIo, ↓dCB, ↓dCBF, ↓dBinS, ↓dLenS, ↓dSl, ↓dSlS, ↓dNo, ↓dPt, ↓dStL, ↓dApp, ↓dExt, ↓dJoin, ↓dRg1, ↓dRg2, ↓dTupRg, ↓dLstRg, ↓oSub, ↓oMulI, ↓oMul, ↓oFdiv, ↓oMod, ↓oPow, ↓oShr, ↓oXor, ↓oNeg, ↓oAdd, ↓oAug, ↓oLt, ↓oLe, ↓oGt, ↓oGe, ↓oI, ↓oIx, ↓oLen, ↓oInt, ↓oOrd, ↓oAbs, ↓oStL, ↓oIn, ↓oNin, ↓oInB, ↓isi_int, ↓isi_int_bl, ↓isi_int_str, ↓isi_int_tup, ↓isi_int_lst, ↓isi_str, ↓isi_str_int, ↓isi_tup, ↓isi_tup_int, ↓isi_tup_str, ↓isi_tup_lst, ↓isi_lst, ↓isi_lst_tup, ↓isi_lst_int, ↓isi_lst_str, ↓cv, ↓Cell.val, ↓Cell.up, ↓Cell.own, ↓lenD, ↓itemsOf, List.getElem?_cons_zero, List.getElem?_cons_succ, List.set_cons_zero, List.set_cons_succ, Option.bind_some, Option.isSome_some, List.length_cons, List.length_nil, true_and, and_true, ↓ixN_lit, ↓atI_lit, ↓reduceIte, Nat.reduceAdd, Nat.reduceLT, Nat.reduceSub, Nat.zero_add, Nat.reduceLeDiff, Nat.lt_add_one, Nat.zero_lt_succ, ↓oEq_int, ↓oNe_int, ↓oEq_str, ↓oNe_str, ↓oEq_bl, ↓oNe_bl, decide_eq_true_eq, Bool.false_eq_true, ↓u_while, ↓ownAt, List.all_cons, List.all_nil, Bool.and_true, List.getD_cons_zero, List.getD_cons_succ, Bool.not_false, ↓oLe_sign, ↓oMulS, ↓dDic, ↓dLock, ↓dGetS, ↓dStD, ↓dInS, ↓oInD, ↓dKeys, ↓dGet1, ↓dGet2, ↓dRev, ↓dMulL, ↓dCount, ↓dScrSl, ↓dScrLen, ↓dScrList, ↓oStrI]
        refine fin _ _ _ _ _ (by omega) (Int.le_trans (by decide) c3) b2.1 b2.2
      · rw [if_neg c3]
        subst hD
        exact fin _ _ _ _ _ (by omega) p0 b2.1 b2.2
    · rw [if_neg c2]
      exact hB2
  · rw [if_neg c1]
    exact hB2




/-- one of some, drawn -/
def S__law_any : FnSpec := mkSpec (α := Hand × D) [true, false] false (fun x => [x.1.d, x.2]) (fun x => x.1.Ok ∧ ∃ xs, itemsOf x.2 = some xs ∧ 1 ≤ xs.length ∧ xs.length < 1000000) fun x r os => ∃ (h' : Hand) (xs : List D), h'.Ok ∧ itemsOf x.2 = some xs ∧ r ∈ xs ∧ os = [h'.d]
theorem fr_any : S__law_any.fresh = false := rfl
/-- _law_any: slots 0 _law_hand_here, 1 _law_some -/
def D__law_any : DTS := (dRet (dUp (dBinS 1 oIx (dFz (dCallIo S__law_draw 0 (dCons (dLenS 1) dNil))))))
theorem sem__law_any : ∀ ds Kd, S__law_any.ds ds Kd → D__law_any (endsOf S__law_any Kd) (env0 2 [true, false] ds) := by
  rintro ds Kd ⟨⟨h, d⟩, rfl, ⟨ok, xs, ex, z1, z2⟩, post⟩
  simp only at ok ex z1 z2 post
  show D__law_any (endsOf S__law_any Kd) [.io h.d, .fz d]
  cases d <;> first | (cases ex; done) | skip
  · rename_i l
    cases ex
    rw [List.length_map] at z1 z2
    simp only [↓D__law_any, ↓dSeq, ↓dNext, ↓dBreak, ↓dCont, ↓dNever, ↓dRet, ↓dRetN, ↓dDrop, ↓dSet, ↓dIf, ↓dAug, ↓dAsg, ↓dPar, ↓dVar, ↓dMove, ↓dC, ↓dFz, ↓dUp, ↓dNil, ↓dCons, ↓dTup, ↓dLst, ↓dBin, ↓dUn, ↓dChain, ↓dTest, ↓dAnd, ↓dOr, ↓dNot, ↓dAndV, ↓dOrV, ↓dNotV, ↓dIfE, ↓dgName, ↓dgNil, ↓dgCons, ↓dgTup, ↓dIt, ↓dRng1, ↓dRng2, ↓dZip, ↓dEnum, ↓u_for, ↓u_lc, ↓dYes, ↓u_call, ↓u_callF, ↓u_callIo, ↓dCB, ↓dCBF, ↓dBinS, ↓dLenS, ↓dSl, ↓dSlS, ↓dNo, ↓dPt, ↓dStL, ↓dApp, ↓dExt, ↓dJoin, ↓dRg1, ↓dRg2, ↓dTupRg, ↓dLstRg, ↓oSub, ↓oMulI, ↓oMul, ↓oFdiv, ↓oMod, ↓oPow, ↓oShr, ↓oXor, ↓oNeg, ↓oAdd, ↓oAug, ↓oLt, ↓oLe, ↓oGt, ↓oGe, ↓oI, ↓oIx, ↓oLen, ↓oInt, ↓oOrd, ↓oAbs, ↓oStL, ↓oIn, ↓oNin, ↓oInB, ↓isi_int, ↓isi_int_bl, ↓isi_int_str, ↓isi_int_tup, ↓isi_int_lst, ↓isi_str, ↓isi_str_int, ↓isi_tup, ↓isi_tup_int, ↓isi_tup_str, ↓isi_tup_lst, ↓isi_lst, ↓isi_lst_tup, ↓isi_lst_int, ↓isi_lst_str, ↓cv, ↓Cell.val, ↓Cell.up, ↓Cell.own, ↓lenD, ↓itemsOf, List.getElem?_cons_zero, List.getElem?_cons_succ, List.set_cons_zero, List.set_cons_succ, Option.bind_some, Option.isSome_some, List.length_cons, List.length_nil, true_and, and_true, ↓ixN_lit, ↓atI_lit, ↓reduceIte, Nat.reduceAdd, Nat.reduceLT, Nat.reduceSub, Nat.zero_add, Nat.reduceLeDiff, Nat.lt_add_one, Nat.zero_lt_succ, ↓oEq_int, ↓oNe_int, ↓oEq_str, ↓oNe_str, ↓oEq_bl, ↓oNe_bl, decide_eq_true_eq, Bool.false_eq_true, ↓u_while, ↓ownAt, List.all_cons, List.all_nil, Bool.and_true, List.getD_cons_zero, List.getD_cons_succ, Bool.not_false, ↓oLe_sign, ↓oMulS, ↓dDic, ↓dLock, ↓dGetS, ↓dStD, ↓dInS, ↓oInD, ↓dKeys, ↓dGet1, ↓dGet2, ↓dRev, ↓dMulL, ↓dCount, ↓dScrSl, ↓dScrLen, ↓dScrList, ↓oStrI]
    refine ⟨rfl, onM (h, (l.length : Int)) rfl ⟨ok, by show (1 : Int) ≤ l.length; omega, by show (l.length : Int) < 1073741824; omega⟩ ?_⟩
    rintro r os ⟨k, h', rfl, k0, k1, rfl, ok'⟩
    obtain ⟨x, hx, ex⟩ := atI_mem (xs := l) k0 k1
    simp only [ioB, wipeE, fr_draw, ↓dSeq, ↓dNext, ↓dBreak, ↓dCont, ↓dNever, ↓dRet, ↓dRetN, ↓dDrop, ↓dSet, ↓dIf, ↓dAug, ↓dAsg, ↓dPar, ↓dVar, ↓dMove, ↓dC, ↓dFz, ↓dUp, ↓dNil, ↓dCons, ↓dTup, ↓dLst, ↓dBin, ↓dUn, ↓dChain, ↓dTest, ↓dAnd, ↓dOr, ↓dNot, ↓dAndV, ↓dOrV, ↓dNotV, ↓dIfE, ↓dgName, ↓dgNil, ↓dgCons, ↓dgTup, ↓dIt, ↓dRng1, ↓dRng2, ↓dZip, ↓dEnum, ↓u_for, ↓u_lc, ↓dYes, ↓u_call, ↓u_callF, ↓u_callIo, ↓dCB, ↓dCBF, ↓dBinS, ↓dLenS, ↓dSl, ↓dSlS, ↓dNo, ↓dPt, ↓dStL, ↓dApp, ↓dExt, ↓dJoin, ↓dRg1, ↓dRg2, ↓dTupRg, ↓dLstRg, ↓oSub, ↓oMulI, ↓oMul, ↓oFdiv, ↓oMod, ↓oPow, ↓oShr, ↓oXor, ↓oNeg, ↓oAdd, ↓oAug, ↓oLt, ↓oLe, ↓oGt, ↓oGe, ↓oI, ↓oIx, ↓oLen, ↓oInt, ↓oOrd, ↓oAbs, ↓oStL, ↓oIn, ↓oNin, ↓oInB, ↓isi_int, ↓isi_int_bl, ↓isi_int_str, ↓isi_int_tup, ↓isi_int_lst, ↓isi_str, ↓isi_str_int, ↓isi_tup, ↓isi_tup_int, ↓isi_tup_str, ↓isi_tup_lst, ↓isi_lst, ↓isi_lst_tup, ↓isi_lst_int, ↓isi_lst_str, ↓cv, ↓Cell.val, ↓Cell.up, ↓Cell.own, ↓lenD, ↓itemsOf, List.getElem?_cons_zero, List.getElem?_cons_succ, List.set_cons_zero, List.set_cons_succ, Option.bind_some, Option.isSome_some, List.length_cons, List.length_nil, true_and, and_true, ↓ixN_lit, ↓atI_lit, ↓reduceIte, Nat.reduceAdd, Nat.reduceLT, Nat.reduceSub, Nat.zero_add, Nat.reduceLeDiff, Nat.lt_add_one, Nat.zero_lt_succ, ↓oEq_int, ↓oNe_int, ↓oEq_str, ↓oNe_str, ↓oEq_bl, ↓oNe_bl, decide_eq_true_eq, Bool.false_eq_true, ↓u_while, ↓ownAt, List.all_cons, List.all_nil, Bool.and_true, List.getD_cons_zero, List.getD_cons_succ, Bool.not_false, ↓oLe_sign, ↓oMulS, ↓dDic, ↓dLock, ↓dGetS, ↓dStD, ↓dInS, ↓oInD, ↓dKeys, ↓dGet1, ↓dGet2, ↓dRev, ↓dMulL, ↓dCount, ↓dScrSl, ↓dScrLen, ↓dScrList, ↓oStrI, ex]
    exact ⟨rfl, post _ _ ⟨h', _, ok', rfl, List.mem_map.mpr ⟨x, hx, rfl⟩, rfl⟩⟩
  · cases ex
    simp only [↓D__law_any, ↓dSeq, ↓dNext, ↓dBreak, ↓dCont, ↓dNever, ↓dRet, ↓dRetN, ↓dDrop, ↓dSet, ↓dIf, ↓dAug, ↓dAsg, ↓dPar, ↓dVar, ↓dMove, ↓dC, ↓dFz, ↓dUp, ↓dNil, ↓dCons, ↓dTup, ↓dLst, ↓dBin, ↓dUn, ↓dChain, ↓dTest, ↓dAnd, ↓dOr, ↓dNot, ↓dAndV, ↓dOrV, ↓dNotV, ↓dIfE, ↓dgName, ↓dgNil, ↓dgCons, ↓dgTup, ↓dIt, ↓dRng1, ↓dRng2, ↓dZip, ↓dEnum, ↓u_for, ↓u_lc, ↓dYes, ↓u_call, ↓u_callF, ↓u_callIo, ↓dCB, ↓dCBF, ↓dBinS, ↓dLenS, ↓dSl, ↓dSlS, ↓dNo, ↓dPt, ↓dStL, ↓dApp, ↓dExt, ↓dJoin, ↓dRg1, ↓dRg2, ↓dTupRg, ↓dLstRg, ↓oSub, ↓oMulI, ↓oMul, ↓oFdiv, ↓oMod, ↓oPow, ↓oShr, ↓oXor, ↓oNeg, ↓oAdd, ↓oAug, ↓oLt, ↓oLe, ↓oGt, ↓oGe, ↓oI, ↓oIx, ↓oLen, ↓oInt, ↓oOrd, ↓oAbs, ↓oStL, ↓oIn, ↓oNin, ↓oInB, ↓isi_int, ↓isi_int_bl, ↓isi_int_str, ↓isi_int_tup, ↓isi_int_lst, ↓isi_str, ↓isi_str_int, ↓isi_tup, ↓isi_tup_int, ↓isi_tup_str, ↓isi_tup_lst, ↓isi_lst, ↓isi_lst_tup, ↓isi_lst_int, ↓isi_lst_str, ↓cv, ↓Cell.val, ↓Cell.up, ↓Cell.own, ↓lenD, ↓itemsOf, List.getElem?_cons_zero, List.getElem?_cons_succ, List.set_cons_zero, List.set_cons_succ, Option.bind_some, Option.isSome_some, List.length_cons, List.length_nil, true_and, and_true, ↓ixN_lit, ↓atI_lit, ↓reduceIte, Nat.reduceAdd, Nat.reduceLT, Nat.reduceSub, Nat.zero_add, Nat.reduceLeDiff, Nat.lt_add_one, Nat.zero_lt_succ, ↓oEq_int, ↓oNe_int, ↓oEq_str, ↓oNe_str, ↓oEq_bl, ↓oNe_bl, decide_eq_true_eq, Bool.false_eq_true, ↓u_while, ↓ownAt, List.all_cons, List.all_nil, Bool.and_true, List.getD_cons_zero, List.getD_cons_succ, Bool.not_false, ↓oLe_sign, ↓oMulS, ↓dDic, ↓dLock, ↓dGetS, ↓dStD, ↓dInS, ↓oInD, ↓dKeys, ↓dGet1, ↓dGet2, ↓dRev, ↓dMulL, ↓dCount, ↓dScrSl, ↓dScrLen, ↓dScrList, ↓oStrI]
    refine ⟨rfl, onM (h, (xs.length : Int)) rfl ⟨ok, by show (1 : Int) ≤ xs.length; omega, by show (xs.length : Int) < 1073741824; omega⟩ ?_⟩
    rintro r os ⟨k, h', rfl, k0, k1, rfl, ok'⟩
    obtain ⟨x, hx, ex⟩ := atI_mem (xs := xs) k0 k1
    simp only [ioB, wipeE, fr_draw, ↓dSeq, ↓dNext, ↓dBreak, ↓dCont, ↓dNever, ↓dRet, ↓dRetN, ↓dDrop, ↓dSet, ↓dIf, ↓dAug, ↓dAsg, ↓dPar, ↓dVar, ↓dMove, ↓dC, ↓dFz, ↓dUp, ↓dNil, ↓dCons, ↓dTup, ↓dLst, ↓dBin, ↓dUn, ↓dChain, ↓dTest, ↓dAnd, ↓dOr, ↓dNot, ↓dAndV, ↓dOrV, ↓dNotV, ↓dIfE, ↓dgName, ↓dgNil, ↓dgCons, ↓dgTup, ↓dIt, ↓dRng1, ↓dRng2, ↓dZip, ↓dEnum, ↓u_for, ↓u_lc, ↓dYes, ↓u_call, ↓u_callF, ↓u_callIo, ↓dCB, ↓dCBF, ↓dBinS, ↓dLenS, ↓dSl, ↓dSlS, ↓dNo, ↓dPt, ↓dStL, ↓dApp, ↓dExt, ↓dJoin, ↓dRg1, ↓dRg2, ↓dTupRg, ↓dLstRg, ↓oSub, ↓oMulI, ↓oMul, ↓oFdiv, ↓oMod, ↓oPow, ↓oShr, ↓oXor, ↓oNeg, ↓oAdd, ↓oAug, ↓oLt, ↓oLe, ↓oGt, ↓oGe, ↓oI, ↓oIx, ↓oLen, ↓oInt, ↓oOrd, ↓oAbs, ↓oStL, ↓oIn, ↓oNin, ↓oInB, ↓isi_int, ↓isi_int_bl, ↓isi_int_str, ↓isi_int_tup, ↓isi_int_lst, ↓isi_str, ↓isi_str_int, ↓isi_tup, ↓isi_tup_int, ↓isi_tup_str, ↓isi_tup_lst, ↓isi_lst, ↓isi_lst_tup, ↓isi_lst_int, ↓isi_lst_str, ↓cv, ↓Cell.val, ↓Cell.up, ↓Cell.own, ↓lenD, ↓itemsOf, List.getElem?_cons_zero, List.getElem?_cons_succ, List.set_cons_zero, List.set_cons_succ, Option.bind_some, Option.isSome_some, List.length_cons, List.length_nil, true_and, and_true, ↓ixN_lit, ↓atI_lit, ↓reduceIte, Nat.reduceAdd, Nat.reduceLT, Nat.reduceSub, Nat.zero_add, Nat.reduceLeDiff, Nat.lt_add_one, Nat.zero_lt_succ, ↓oEq_int, ↓oNe_int, ↓oEq_str, ↓oNe_str, ↓oEq_bl, ↓oNe_bl, decide_eq_true_eq, Bool.false_eq_true, ↓u_while, ↓ownAt, List.all_cons, List.all_nil, Bool.and_true, List.getD_cons_zero, List.getD_cons_succ, Bool.not_false, ↓oLe_sign, ↓oMulS, ↓dDic, ↓dLock, ↓dGetS, ↓dStD, ↓dInS, ↓oInD, ↓dKeys, ↓dGet1, ↓dGet2, ↓dRev, ↓dMulL, ↓dCount, ↓dScrSl, ↓dScrLen, ↓dScrList, ↓oStrI, ex]
    exact ⟨rfl, post _ _ ⟨h', _, ok', rfl, hx, rfl⟩⟩
  · cases ex
    simp only [↓D__law_any, ↓dSeq, ↓dNext, ↓dBreak, ↓dCont, ↓dNever, ↓dRet, ↓dRetN, ↓dDrop, ↓dSet, ↓dIf, ↓dAug, ↓dAsg, ↓dPar, ↓dVar, ↓dMove, ↓dC, ↓dFz, ↓dUp, ↓dNil, ↓dCons, ↓dTup, ↓dLst, ↓dBin, ↓dUn, ↓dChain, ↓dTest, ↓dAnd, ↓dOr, ↓dNot, ↓dAndV, ↓dOrV, ↓dNotV, ↓dIfE, ↓dgName, ↓dgNil, ↓dgCons, ↓dgTup, ↓dIt, ↓dRng1, ↓dRng2, ↓dZip, ↓dEnum, ↓u_for, ↓u_lc, ↓dYes, ↓u_call, ↓u_callF, ↓u_callIo, ↓dCB, ↓dCBF, ↓dBinS, ↓dLenS, ↓dSl, ↓dSlS, ↓dNo, ↓dPt, ↓dStL, ↓dApp, ↓dExt, ↓dJoin, ↓dRg1, ↓dRg2, ↓dTupRg, ↓dLstRg, ↓oSub, ↓oMulI, ↓oMul, ↓oFdiv, ↓oMod, ↓oPow, ↓oShr, ↓oXor, ↓oNeg, ↓oAdd, ↓oAug, ↓oLt, ↓oLe, ↓oGt, ↓oGe, ↓oI, ↓oIx, ↓oLen, ↓oInt, ↓oOrd, ↓oAbs, ↓oStL, ↓oIn, ↓oNin, ↓oInB, ↓isi_int, ↓isi_int_bl, ↓isi_int_str, ↓isi_int_tup, ↓isi_int_lst, ↓isi_str, ↓isi_str_int, ↓isi_tup, ↓isi_tup_int, ↓isi_tup_str, ↓isi_tup_lst, ↓isi_lst, ↓isi_lst_tup, ↓isi_lst_int, ↓isi_lst_str, ↓cv, ↓Cell.val, ↓Cell.up, ↓Cell.own, ↓lenD, ↓itemsOf, List.getElem?_cons_zero, List.getElem?_cons_succ, List.set_cons_zero, List.set_cons_succ, Option.bind_some, Option.isSome_some, List.length_cons, List.length_nil, true_and, and_true, ↓ixN_lit, ↓atI_lit, ↓reduceIte, Nat.reduceAdd, Nat.reduceLT, Nat.reduceSub, Nat.zero_add, Nat.reduceLeDiff, Nat.lt_add_one, Nat.zero_lt_succ, ↓oEq_int, ↓oNe_int, ↓oEq_str, ↓oNe_str, ↓oEq_bl, ↓oNe_bl, decide_eq_true_eq, Bool.false_eq_true, ↓u_while, ↓ownAt, List.all_cons, List.all_nil, Bool.and_true, List.getD_cons_zero, List.getD_cons_succ, Bool.not_false, ↓oLe_sign, ↓oMulS, ↓dDic, ↓dLock, ↓dGetS, ↓dStD, ↓dInS, ↓oInD, ↓dKeys, ↓dGet1, ↓dGet2, ↓dRev, ↓dMulL, ↓dCount, ↓dScrSl, ↓dScrLen, ↓dScrList, ↓oStrI]
    refine ⟨rfl, onM (h, (xs.length : Int)) rfl ⟨ok, by show (1 : Int) ≤ xs.length; omega, by show (xs.length : Int) < 1073741824; omega⟩ ?_⟩
    rintro r os ⟨k, h', rfl, k0, k1, rfl, ok'⟩
    obtain ⟨x, hx, ex⟩ := atI_mem (xs := xs) k0 k1
    simp only [ioB, wipeE, fr_draw, ↓dSeq, ↓dNext, ↓dBreak, ↓dCont, ↓dNever, ↓dRet, ↓dRetN, ↓dDrop, ↓dSet, ↓dIf, ↓dAug, ↓dAsg, ↓dPar, ↓dVar, ↓dMove, ↓dC, ↓dFz, ↓dUp, ↓dNil, ↓dCons, ↓dTup, ↓dLst, ↓dBin, ↓dUn, ↓dChain, ↓dTest, ↓dAnd, ↓dOr, ↓dNot, ↓dAndV, ↓dOrV, ↓dNotV, ↓dIfE, ↓dgName, ↓dgNil, ↓dgCons, ↓dgTup, ↓dIt, ↓dRng1, ↓dRng2, ↓dZip, ↓dEnum, ↓u_for, ↓u_lc, ↓dYes, ↓u_call, ↓u_callF, ↓u_callIo, ↓dCB, ↓dCBF, ↓dBinS, ↓dLenS, ↓dSl, ↓dSlS, ↓dNo, ↓dPt, ↓dStL, ↓dApp, ↓dExt, ↓dJoin, ↓dRg1, ↓dRg2, ↓dTupRg, ↓dLstRg, ↓oSub, ↓oMulI, ↓oMul, ↓oFdiv, ↓oMod, ↓oPow, ↓oShr, ↓oXor, ↓oNeg, ↓oAdd, ↓oAug, ↓oLt, ↓oLe, ↓oGt, ↓oGe, ↓oI, ↓oIx, ↓oLen, ↓oInt, ↓oOrd, ↓oAbs, ↓oStL, ↓oIn, ↓oNin, ↓oInB, ↓isi_int, ↓isi_int_bl, ↓isi_int_str, ↓isi_int_tup, ↓isi_int_lst, ↓isi_str, ↓isi_str_int, ↓isi_tup, ↓isi_tup_int, ↓isi_tup_str, ↓isi_tup_lst, ↓isi_lst, ↓isi_lst_tup, ↓isi_lst_int, ↓isi_lst_str, ↓cv, ↓Cell.val, ↓Cell.up, ↓Cell.own, ↓lenD, ↓itemsOf, List.getElem?_cons_zero, List.getElem?_cons_succ, List.set_cons_zero, List.set_cons_succ, Option.bind_some, Option.isSome_some, List.length_cons, List.length_nil, true_and, and_true, ↓ixN_lit, ↓atI_lit, ↓reduceIte, Nat.reduceAdd, Nat.reduceLT, Nat.reduceSub, Nat.zero_add, Nat.reduceLeDiff, Nat.lt_add_one, Nat.zero_lt_succ, ↓oEq_int, ↓oNe_int, ↓oEq_str, ↓oNe_str, ↓oEq_bl, ↓oNe_bl, decide_eq_true_eq, Bool.false_eq_true, ↓u_while, ↓ownAt, List.all_cons, List.all_nil, Bool.and_true, List.getD_cons_zero, List.getD_cons_succ, Bool.not_false, ↓oLe_sign, ↓oMulS, ↓dDic, ↓dLock, ↓dGetS, ↓dStD, ↓dInS, ↓oInD, ↓dKeys, ↓dGet1, ↓dGet2, ↓dRev, ↓dMulL, ↓dCount, ↓dScrSl, ↓dScrLen, ↓dScrList, ↓oStrI, ex]
    exact ⟨rfl, post _ _ ⟨h', _, ok', rfl, hx, rfl⟩⟩
end DL


namespace DL
open PySem PySem.Spec PyProof.Rows L2

/-! ### borders of what a text begins with -/
def tt (t : List Nat) (i : Nat) : Nat := t.getD i 0
/-- k signs at the begin of the first m are those at their end -/
def Bo (t : List Nat) (m k : Nat) : Prop := k < m ∧ ∀ i, i < k → tt t i = tt t (m - k + i)
instance (t : List Nat) (m k : Nat) : Decidable (Bo t m k) := inferInstanceAs (Decidable (_ ∧ ∀ i, i < k → _))
theorem bo_zero {t : List Nat} {m : Nat} (h : 0 < m) : Bo t m 0 := ⟨h, fun i hi => absurd hi (Nat.not_lt_zero i)⟩
theorem bo_trans {t : List Nat} {m a b : Nat} (h1 : Bo t m a) (h2 : Bo t a b) : Bo t m b := by
  refine ⟨Nat.lt_trans h2.1 h1.1, fun i hi => ?_⟩
  have l1 := h1.1
  have l2 := h2.1
  rw [h2.2 i hi, h1.2 (a - b + i) (by omega), show m - a + (a - b + i) = m - b + i by omega]
theorem bo_sub {t : List Nat} {m a b : Nat} (h1 : Bo t m a) (h2 : Bo t m b) (h : b < a) : Bo t a b := by
  refine ⟨h, fun i hi => ?_⟩
  have l1 := h1.1
  rw [h2.2 i hi, h1.2 (a - b + i) (by omega), show m - a + (a - b + i) = m - b + i by omega]
theorem bo_succ {t : List Nat} {m k : Nat} : Bo t (m + 1) (k + 1) ↔ Bo t m k ∧ tt t k = tt t m := by
  constructor
  · rintro ⟨h1, h2⟩
    refine ⟨⟨by omega, fun i hi => ?_⟩, ?_⟩
    · have := h2 i (by omega)
      rw [show m + 1 - (k + 1) + i = m - k + i by omega] at this
      exact this
    · have := h2 k (by omega)
      rw [show m + 1 - (k + 1) + k = m by omega] at this
      exact this
  · rintro ⟨⟨h1, h2⟩, h3⟩
    refine ⟨by omega, fun i hi => ?_⟩
    rw [show m + 1 - (k + 1) + i = m - k + i by omega]
    by_cases e : i = k
    · rw [e, h3, show m - k + k = m by omega]
    · exact h2 i (by omega)
/-- the longest one -/
def flS (t : List Nat) (m : Nat) : Nat → Nat
  | 0 => 0
  | k + 1 => if Bo t m (k + 1) then k + 1 else flS t m k
def fl (t : List Nat) (m : Nat) : Nat := flS t m (m - 1)
theorem flS_bo {t : List Nat} {m : Nat} (h : 0 < m) : ∀ k, Bo t m (flS t m k)
  | 0 => bo_zero h
  | k + 1 => by
    unfold flS
    split
    · assumption
    · exact flS_bo h k
theorem flS_max {t : List Nat} {m j : Nat} (h : Bo t m j) : ∀ k, j ≤ k → j ≤ flS t m k
  | 0, hk => by omega
  | k + 1, hk => by
    unfold flS
    split
    · exact hk
    · rename_i q
      by_cases e : j = k + 1
      · rw [e] at h; exact absurd h q
      · exact flS_max h k (by omega)
theorem fl_bo {t : List Nat} {m : Nat} (h : 0 < m) : Bo t m (fl t m) := flS_bo h _
theorem fl_max {t : List Nat} {m j : Nat} (h : Bo t m j) : j ≤ fl t m := flS_max h _ (by have := h.1; omega)
theorem fl_lt {t : List Nat} {m : Nat} (h : 0 < m) : fl t m < m := (fl_bo h).1
theorem fl_eq {t : List Nat} {m k : Nat} (h : Bo t m k) (hm : ∀ j, Bo t m j → j ≤ k) : fl t m = k := Nat.le_antisymm (hm _ (fl_bo (by have := h.1; omega))) (fl_max h)
/-- where the search for the next one stands -/
structure Cand (t : List Nat) (m c : Nat) : Prop where
  bo : Bo t m c
  no : ∀ k, Bo t m k → c < k → tt t k ≠ tt t m
theorem cand_begin {t : List Nat} {m : Nat} (h : 0 < m) : Cand t m (fl t m) := ⟨fl_bo h, fun k hk hl => absurd (fl_max hk) (by omega)⟩
theorem cand_next {t : List Nat} {m c : Nat} (C : Cand t m c) (h0 : 0 < c) (h : tt t c ≠ tt t m) : Cand t m (fl t c) := by
  refine ⟨bo_trans C.bo (fl_bo h0), fun k hk hl => ?_⟩
  by_cases e : k = c
  · rw [e]; exact h
  · by_cases e2 : c < k
    · exact C.no k hk e2
    · exact absurd (fl_max (bo_sub C.bo hk (by omega))) (by omega)
theorem cand_yes {t : List Nat} {m c : Nat} (C : Cand t m c) (h : tt t c = tt t m) : fl t (m + 1) = c + 1 := by
  refine fl_eq (bo_succ.mpr ⟨C.bo, h⟩) fun j hj => ?_
  cases j with
  | zero => omega
  | succ j =>
    obtain ⟨h1, h2⟩ := bo_succ.mp hj
    by_cases e : c < j
    · exact absurd h2 (C.no j h1 e)
    · omega
theorem cand_none {t : List Nat} {m : Nat} (C : Cand t m 0) (h : tt t 0 ≠ tt t m) : fl t (m + 1) = 0 := by
  refine fl_eq (bo_zero (by omega)) fun j hj => ?_
  cases j with
  | zero => omega
  | succ j =>
    obtain ⟨h1, h2⟩ := bo_succ.mp hj
    by_cases e : 0 < j
    · exact absurd h2 (C.no j h1 e)
    · have : j = 0 := by omega
      subst this
      exact absurd h2 h
def frontsL (t : List Nat) (n : Nat) : List Nat := (List.range n).map fun i => fl t (i + 1)
theorem frontsL_length (t : List Nat) (n : Nat) : (frontsL t n).length = n := by simp [frontsL]
theorem frontsL_succ (t : List Nat) (n : Nat) : frontsL t (n + 1) = frontsL t n ++ [fl t (n + 1)] := by
  unfold frontsL
  rw [List.range_succ, List.map_append] <;> rfl
theorem frontsL_at {t : List Nat} {n i : Nat} (h : i < n) : (il (frontsL t n))[i]? = some (.int (fl t (i + 1) : Nat)) := by
  rw [il_get]
  unfold frontsL
  rw [List.getElem?_map, List.getElem?_range h] <;> rfl
theorem str_at {t : List Nat} {i : Nat} (h : i < t.length) : t[i]? = some (tt t i) := by
  unfold tt
  rw [List.getD_eq_getElem?_getD, List.getElem?_eq_getElem h] <;> rfl
def S_front_lengths : FnSpec := fnSpec 1 true (fun t : List Nat => [.str t]) (fun t => t.length ≤ 1000000) fun t => .lst (il (frontsL t t.length))
/-- front_lengths: slots 0 text, 1 found, 2 many, 3 at, 4 sign -/
def D_front_lengths : DTS := (dSeq (dSet 1 (dLst dNil)) (dSeq (dSet 2 (dUp (dC (.int 0)))) (dSeq (dFor (dEnum (dCons (dVar 0) dNil)) (dgTup 2 (dgCons (dgName 3) (dgCons (dgName 4) dgNil))) (dSeq (dWhile (dAnd (dTest (dBin oGt (dVar 3) (dC (.int 0)))) (dAnd (dTest (dBin oGt (dVar 2) (dC (.int 0)))) (dTest (dBin oNe (dBinS 0 oIx (dVar 2)) (dVar 4))))) (dSet 2 (dUp (dBinS 1 oIx (dBin oSub (dVar 2) (dC (.int 1))))))) (dSeq (dIf (dAnd (dTest (dBin oGt (dVar 3) (dC (.int 0)))) (dTest (dBin oEq (dBinS 0 oIx (dVar 2)) (dVar 4)))) (dAug 2 oAug (dC (.int 1))) dNext) (dApp 1 (dVar 2))))) (dRet (dMove 1)))))
theorem sem_front_lengths : ∀ ds Kd, S_front_lengths.ds ds Kd → D_front_lengths (endsOf S_front_lengths Kd) (env0 5 [false] ds) := by
  rintro ds Kd ⟨t, rfl, hz, post⟩
  show D_front_lengths (endsOf S_front_lengths Kd) [.fz (.str t), .un, .un, .un, .un]
  simp only [↓D_front_lengths, ↓dSeq, ↓dNext, ↓dBreak, ↓dCont, ↓dNever, ↓dRet, ↓dRetN, ↓dDrop, ↓dSet, ↓dIf, ↓dAug, ↓dAsg, ↓dPar, ↓dVar, ↓dMove, ↓dC, ↓dFz, ↓dUp, ↓dNil, ↓dCons, ↓dTup, ↓dLst, ↓dBin, ↓dUn, ↓dChain, ↓dTest, ↓dAnd, ↓dOr, ↓dNot, ↓dAndV, ↓dOrV, ↓dNotV, ↓dIfE, ↓dgName, ↓dgNil, ↓dgCons, ↓dgTup, ↓dIt, ↓dRng1, ↓dRng2, ↓dZip, ↓dEnum, ↓u_for, ↓u_lc, ↓dYes, ↓u_call, ↓u_callF, ↓u_callIo, ↓dCB, ↓dCBF, ↓dBinS, ↓dLenS, ↓dSl, ↓dSlS, ↓dNo, ↓dPt, ↓dStL, ↓dApp, ↓dExt, ↓dJoin, ↓dRg1, ↓dRg2, ↓dTupRg, ↓dLstRg, ↓oSub, ↓oMulI, ↓oMul, ↓oFdiv, ↓oMod, ↓oPow, ↓oShr, ↓oXor, ↓oNeg, ↓oAdd, ↓oAug, ↓oLt, ↓oLe, ↓oGt, ↓oGe, ↓oI, ↓oIx, ↓oLen, ↓oInt, ↓oOrd, ↓oAbs, ↓oStL, ↓oIn, ↓oNin, ↓oInB, ↓isi_int, ↓isi_int_bl, ↓isi_int_str, ↓isi_int_tup, ↓isi_int_lst, ↓isi_str, ↓isi_str_int, ↓isi_tup, ↓isi_tup_int, ↓isi_tup_str, ↓isi_tup_lst, ↓isi_lst, ↓isi_lst_tup, ↓isi_lst_int, ↓isi_lst_str, ↓cv, ↓Cell.val, ↓Cell.up, ↓Cell.own, ↓lenD, ↓itemsOf, List.getElem?_cons_zero, List.getElem?_cons_succ, List.set_cons_zero, List.set_cons_succ, Option.bind_some, Option.isSome_some, List.length_cons, List.length_nil, true_and, and_true, ↓ixN_lit, ↓atI_lit, ↓reduceIte, Nat.reduceAdd, Nat.reduceLT, Nat.reduceSub, Nat.zero_add, Nat.reduceLeDiff, Nat.lt_add_one, Nat.zero_lt_succ, ↓oEq_int, ↓oNe_int, ↓oEq_str, ↓oNe_str, ↓oEq_bl, ↓oNe_bl, decide_eq_true_eq, Bool.false_eq_true, ↓u_while, ↓ownAt, List.all_cons, List.all_nil, Bool.and_true, List.getD_cons_zero, List.getD_cons_succ, Bool.not_false, ↓oLe_sign, ↓oMulS, ↓dDic, ↓dLock, ↓dGetS, ↓dStD, ↓dInS, ↓oInD, ↓dKeys, ↓dGet1, ↓dGet2, ↓dRev, ↓dMulL, ↓dCount, ↓dScrSl, ↓dScrLen, ↓dScrList, ↓oStrI]
  refine ⟨by decide, forB_of (forW_inv (fun rest ρ => ∃ m c x3 x4, m ≤ t.length ∧ (m = 0 → c = 0) ∧ (0 < m → c = fl t m) ∧ rest = (enumD 0 (t.map fun c => .str [c])).drop m ∧ ρ = [.fz (.str t), .ow (.lst (il (frontsL t m))), .fz (.int (c : Nat)), x3, x4]) ?_ ?_ _ _ ⟨0, 0, .un, .un, Nat.zero_le _, fun _ => rfl, fun h => absurd h (Nat.lt_irrefl 0), rfl, rfl⟩)⟩
  · rintro x xs ρ k ⟨m, c, x3, x4, hm, hc0, hc, e, rfl⟩ hk
    have hlen : (enumD 0 (t.map fun c => D.str [c])).length = t.length := by simp [enumD]
    have hlt : m < t.length := by
      have := congrArg List.length e
      rw [List.length_drop, hlen, List.length_cons] at this
      omega
    rw [drop_of (by rw [hlen]; exact hlt)] at e
    have ex : (enumD 0 (t.map fun c => D.str [c]))[m]'(by rw [hlen]; exact hlt) = .tup [.int (m : Nat), .str [tt t m]] := by
      have h1 : (enumD 0 (t.map fun c => D.str [c]))[m]? = some (.tup [.int (m : Nat), .str [tt t m]]) := by
        unfold enumD
        rw [List.getElem?_mapIdx, List.getElem?_map, str_at hlt]
        simp
      rw [List.getElem?_eq_getElem (by rw [hlen]; exact hlt)] at h1
      exact Option.some.inj h1
    rw [ex] at e
    cases e
    simp only [↓dSeq, ↓dNext, ↓dBreak, ↓dCont, ↓dNever, ↓dRet, ↓dRetN, ↓dDrop, ↓dSet, ↓dIf, ↓dAug, ↓dAsg, ↓dPar, ↓dVar, ↓dMove, ↓dC, ↓dFz, ↓dUp, ↓dNil, ↓dCons, ↓dTup, ↓dLst, ↓dBin, ↓dUn, ↓dChain, ↓dTest, ↓dAnd, ↓dOr, ↓dNot, ↓dAndV, ↓dOrV, ↓dNotV, ↓dIfE, ↓dgName, ↓dgNil, ↓dgCons, ↓dgTup, ↓dIt, ↓dRng1, ↓dRng2, ↓dZip, ↓dEnum, ↓u_for, ↓u_lc, ↓dYes, ↓u_call, ↓u_callF, ↓u_callIo, ↓dCB, ↓dCBF, ↓dBinS, ↓dLenS, ↓dSl, ↓dSlS, ↓dNo, ↓dPt, ↓dStL, ↓dApp, ↓dExt, ↓dJoin, ↓dRg1, ↓dRg2, ↓dTupRg, ↓dLstRg, ↓oSub, ↓oMulI, ↓oMul, ↓oFdiv, ↓oMod, ↓oPow, ↓oShr, ↓oXor, ↓oNeg, ↓oAdd, ↓oAug, ↓oLt, ↓oLe, ↓oGt, ↓oGe, ↓oI, ↓oIx, ↓oLen, ↓oInt, ↓oOrd, ↓oAbs, ↓oStL, ↓oIn, ↓oNin, ↓oInB, ↓isi_int, ↓isi_int_bl, ↓isi_int_str, ↓isi_int_tup, ↓isi_int_lst, ↓isi_str, ↓isi_str_int, ↓isi_tup, ↓isi_tup_int, ↓isi_tup_str, ↓isi_tup_lst, ↓isi_lst, ↓isi_lst_tup, ↓isi_lst_int, ↓isi_lst_str, ↓cv, ↓Cell.val, ↓Cell.up, ↓Cell.own, ↓lenD, ↓itemsOf, List.getElem?_cons_zero, List.getElem?_cons_succ, List.set_cons_zero, List.set_cons_succ, Option.bind_some, Option.isSome_some, List.length_cons, List.length_nil, true_and, and_true, ↓ixN_lit, ↓atI_lit, ↓reduceIte, Nat.reduceAdd, Nat.reduceLT, Nat.reduceSub, Nat.zero_add, Nat.reduceLeDiff, Nat.lt_add_one, Nat.zero_lt_succ, ↓oEq_int, ↓oNe_int, ↓oEq_str, ↓oNe_str, ↓oEq_bl, ↓oNe_bl, decide_eq_true_eq, Bool.false_eq_true, ↓u_while, ↓ownAt, List.all_cons, List.all_nil, Bool.and_true, List.getD_cons_zero, List.getD_cons_succ, Bool.not_false, ↓oLe_sign, ↓oMulS, ↓dDic, ↓dLock, ↓dGetS, ↓dStD, ↓dInS, ↓oInD, ↓dKeys, ↓dGet1, ↓dGet2, ↓dRev, ↓dMulL, ↓dCount, ↓dScrSl, ↓dScrLen, ↓dScrList, ↓oStrI]
    have nx : ∀ c', c' = fl t (m + 1) → k [.fz (.str t), .ow (.lst (il (frontsL t m) ++ [.int (c' : Nat)])), .fz (.int (c' : Nat)), .fz (.int (m : Nat)), .fz (.str [tt t m])] := by
      intro c' hc'
      refine hk _ ⟨m + 1, c', .fz (.int (m : Nat)), .fz (.str [tt t m]), hlt, fun h => by omega, fun _ => hc', rfl, ?_⟩
      rw [frontsL_succ, ← hc']
      have : il (frontsL t m) ++ [D.int (c' : Nat)] = il (frontsL t m ++ [c']) := by simp [il]
      rw [this]
    -- what follows the search
    have fin : ∀ (c' : Nat) (b2 : Env → Prop) (rt : Cell → Env → Prop), (m = 0 → c' = 0) → (0 < m → Cand t m c' ∧ (c' = 0 ∨ tt t c' = tt t m)) →
        dSeq (dIf (dAnd (dTest (dBin oGt (dVar 3) (dC (.int 0)))) (dTest (dBin oEq (dBinS 0 oIx (dVar 2)) (dVar 4)))) (dAug 2 oAug (dC (.int 1))) dNext) (dApp 1 (dVar 2)) { nx := k, rt := rt, bk := b2, ct := k } [.fz (.str t), .ow (.lst (il (frontsL t m))), .fz (.int (c' : Nat)), .fz (.int (m : Nat)), .fz (.str [tt t m])] := by
      intro c' b2 rt h0 h1
      have hz2 : (il (frontsL t m)).length < sizeLine := by rw [il_length, frontsL_length]; show m < 16777216; omega
      by_cases m0 : 0 < m
      · obtain ⟨C, hc1⟩ := h1 m0
        have cl := C.bo.1
        simp only [↓dSeq, ↓dNext, ↓dBreak, ↓dCont, ↓dNever, ↓dRet, ↓dRetN, ↓dDrop, ↓dSet, ↓dIf, ↓dAug, ↓dAsg, ↓dPar, ↓dVar, ↓dMove, ↓dC, ↓dFz, ↓dUp, ↓dNil, ↓dCons, ↓dTup, ↓dLst, ↓dBin, ↓dUn, ↓dChain, ↓dTest, ↓dAnd, ↓dOr, ↓dNot, ↓dAndV, ↓dOrV, ↓dNotV, ↓dIfE, ↓dgName, ↓dgNil, ↓dgCons, ↓dgTup, ↓dIt, ↓dRng1, ↓dRng2, ↓dZip, ↓dEnum, ↓u_for, ↓u_lc, ↓dYes, ↓u_call, ↓u_callF, ↓u_callIo, ↓dCB, ↓dCBF, ↓dBinS, ↓dLenS, ↓dSl, ↓dSlS, ↓dNo, ↓dPt, ↓dStL, ↓dApp, ↓dExt, ↓dJoin, ↓dRg1, ↓dRg2, ↓dTupRg, ↓dLstRg, ↓oSub, ↓oMulI, ↓oMul, ↓oFdiv, ↓oMod, ↓oPow, ↓oShr, ↓oXor, ↓oNeg, ↓oAdd, ↓oAug, ↓oLt, ↓oLe, ↓oGt, ↓oGe, ↓oI, ↓oIx, ↓oLen, ↓oInt, ↓oOrd, ↓oAbs, ↓oStL, ↓oIn, ↓oNin, ↓oInB, ↓isi_int, ↓isi_int_bl, ↓isi_int_str, ↓isi_int_tup, ↓isi_int_lst, ↓isi_str, ↓isi_str_int, ↓isi_tup, ↓isi_tup_int, ↓isi_tup_str, ↓isi_tup_lst, ↓isi_lst, ↓isi_lst_tup, ↓isi_lst_int, ↓isi_lst_str, ↓cv, ↓Cell.val, ↓Cell.up, ↓Cell.own, ↓lenD, ↓itemsOf, List.getElem?_cons_zero, List.getElem?_cons_succ, List.set_cons_zero, List.set_cons_succ, Option.bind_some, Option.isSome_some, List.length_cons, List.length_nil, true_and, and_true, ↓ixN_lit, ↓atI_lit, ↓reduceIte, Nat.reduceAdd, Nat.reduceLT, Nat.reduceSub, Nat.zero_add, Nat.reduceLeDiff, Nat.lt_add_one, Nat.zero_lt_succ, ↓oEq_int, ↓oNe_int, ↓oEq_str, ↓oNe_str, ↓oEq_bl, ↓oNe_bl, decide_eq_true_eq, Bool.false_eq_true, ↓u_while, ↓ownAt, List.all_cons, List.all_nil, Bool.and_true, List.getD_cons_zero, List.getD_cons_succ, Bool.not_false, ↓oLe_sign, ↓oMulS, ↓dDic, ↓dLock, ↓dGetS, ↓dStD, ↓dInS, ↓oInD, ↓dKeys, ↓dGet1, ↓dGet2, ↓dRev, ↓dMulL, ↓dCount, ↓dScrSl, ↓dScrLen, ↓dScrList, ↓oStrI]
        rw [if_pos (by omega)]
        simp only [↓dSeq, ↓dNext, ↓dBreak, ↓dCont, ↓dNever, ↓dRet, ↓dRetN, ↓dDrop, ↓dSet, ↓dIf, ↓dAug, ↓dAsg, ↓dPar, ↓dVar, ↓dMove, ↓dC, ↓dFz, ↓dUp, ↓dNil, ↓dCons, ↓dTup, ↓dLst, ↓dBin, ↓dUn, ↓dChain, ↓dTest, ↓dAnd, ↓dOr, ↓dNot, ↓dAndV, ↓dOrV, ↓dNotV, ↓dIfE, ↓dgName, ↓dgNil, ↓dgCons, ↓dgTup, ↓dIt, ↓dRng1, ↓dRng2, ↓dZip, ↓dEnum, ↓u_for, ↓u_lc, ↓dYes, ↓u_call, ↓u_callF, ↓u_callIo, ↓dCB, ↓dCBF, ↓dBinS, ↓dLenS, ↓dSl, ↓dSlS, ↓dNo, ↓dPt, ↓dStL, ↓dApp, ↓dExt, ↓dJoin, ↓dRg1, ↓dRg2, ↓dTupRg, ↓dLstRg, ↓oSub, ↓oMulI, ↓oMul, ↓oFdiv, ↓oMod, ↓oPow, ↓oShr, ↓oXor, ↓oNeg, ↓oAdd, ↓oAug, ↓oLt, ↓oLe, ↓oGt, ↓oGe, ↓oI, ↓oIx, ↓oLen, ↓oInt, ↓oOrd, ↓oAbs, ↓oStL, ↓oIn, ↓oNin, ↓oInB, ↓isi_int, ↓isi_int_bl, ↓isi_int_str, ↓isi_int_tup, ↓isi_int_lst, ↓isi_str, ↓isi_str_int, ↓isi_tup, ↓isi_tup_int, ↓isi_tup_str, ↓isi_tup_lst, ↓isi_lst, ↓isi_lst_tup, ↓isi_lst_int, ↓isi_lst_str, ↓cv, ↓Cell.val, ↓Cell.up, ↓Cell.own, ↓lenD, ↓itemsOf, List.getElem?_cons_zero, List.getElem?_cons_succ, List.set_cons_zero, List.set_cons_succ, Option.bind_some, Option.isSome_some, List.length_cons, List.length_nil, true_and, and_true, ↓ixN_lit, ↓atI_lit, ↓reduceIte, Nat.reduceAdd, Nat.reduceLT, Nat.reduceSub, Nat.zero_add, Nat.reduceLeDiff, Nat.lt_add_one, Nat.zero_lt_succ, ↓oEq_int, ↓oNe_int, ↓oEq_str, ↓oNe_str, ↓oEq_bl, ↓oNe_bl, decide_eq_true_eq, Bool.false_eq_true, ↓u_while, ↓ownAt, List.all_cons, List.all_nil, Bool.and_true, List.getD_cons_zero, List.getD_cons_succ, Bool.not_false, ↓oLe_sign, ↓oMulS, ↓dDic, ↓dLock, ↓dGetS, ↓dStD, ↓dInS, ↓oInD, ↓dKeys, ↓dGet1, ↓dGet2, ↓dRev, ↓dMulL, ↓dCount, ↓dScrSl, ↓dScrLen, ↓dScrList, ↓oStrI, atI_natE, str_at (show c' < t.length by omega)]
        by_cases q : tt t c' = tt t m
        · rw [if_pos (by rw [q])]
          refine ⟨⟨_, rfl⟩, hz2, ?_⟩
          have e1 : ((c' : Nat) : Int) + 1 = ((c' + 1 : Nat) : Int) := by omega
          rw [e1]
          exact nx (c' + 1) (cand_yes C q).symm
        · rw [if_neg (fun z => q (by simpa using z))]
          refine ⟨⟨_, rfl⟩, hz2, ?_⟩
          have c0 : c' = 0 := hc1.resolve_right q
          subst c0
          exact nx 0 (cand_none C q).symm
      · have e0 : m = 0 := by omega
        subst e0
        have c0 := h0 rfl
        subst c0
        simp only [↓dSeq, ↓dNext, ↓dBreak, ↓dCont, ↓dNever, ↓dRet, ↓dRetN, ↓dDrop, ↓dSet, ↓dIf, ↓dAug, ↓dAsg, ↓dPar, ↓dVar, ↓dMove, ↓dC, ↓dFz, ↓dUp, ↓dNil, ↓dCons, ↓dTup, ↓dLst, ↓dBin, ↓dUn, ↓dChain, ↓dTest, ↓dAnd, ↓dOr, ↓dNot, ↓dAndV, ↓dOrV, ↓dNotV, ↓dIfE, ↓dgName, ↓dgNil, ↓dgCons, ↓dgTup, ↓dIt, ↓dRng1, ↓dRng2, ↓dZip, ↓dEnum, ↓u_for, ↓u_lc, ↓dYes, ↓u_call, ↓u_callF, ↓u_callIo, ↓dCB, ↓dCBF, ↓dBinS, ↓dLenS, ↓dSl, ↓dSlS, ↓dNo, ↓dPt, ↓dStL, ↓dApp, ↓dExt, ↓dJoin, ↓dRg1, ↓dRg2, ↓dTupRg, ↓dLstRg, ↓oSub, ↓oMulI, ↓oMul, ↓oFdiv, ↓oMod, ↓oPow, ↓oShr, ↓oXor, ↓oNeg, ↓oAdd, ↓oAug, ↓oLt, ↓oLe, ↓oGt, ↓oGe, ↓oI, ↓oIx, ↓oLen, ↓oInt, ↓oOrd, ↓oAbs, ↓oStL, ↓oIn, ↓oNin, ↓oInB, ↓isi_int, ↓isi_int_bl, ↓isi_int_str, ↓isi_int_tup, ↓isi_int_lst, ↓isi_str, ↓isi_str_int, ↓isi_tup, ↓isi_tup_int, ↓isi_tup_str, ↓isi_tup_lst, ↓isi_lst, ↓isi_lst_tup, ↓isi_lst_int, ↓isi_lst_str, ↓cv, ↓Cell.val, ↓Cell.up, ↓Cell.own, ↓lenD, ↓itemsOf, List.getElem?_cons_zero, List.getElem?_cons_succ, List.set_cons_zero, List.set_cons_succ, Option.bind_some, Option.isSome_some, List.length_cons, List.length_nil, true_and, and_true, ↓ixN_lit, ↓atI_lit, ↓reduceIte, Nat.reduceAdd, Nat.reduceLT, Nat.reduceSub, Nat.zero_add, Nat.reduceLeDiff, Nat.lt_add_one, Nat.zero_lt_succ, ↓oEq_int, ↓oNe_int, ↓oEq_str, ↓oNe_str, ↓oEq_bl, ↓oNe_bl, decide_eq_true_eq, Bool.false_eq_true, ↓u_while, ↓ownAt, List.all_cons, List.all_nil, Bool.and_true, List.getD_cons_zero, List.getD_cons_succ, Bool.not_false, ↓oLe_sign, ↓oMulS, ↓dDic, ↓dLock, ↓dGetS, ↓dStD, ↓dInS, ↓oInD, ↓dKeys, ↓dGet1, ↓dGet2, ↓dRev, ↓dMulL, ↓dCount, ↓dScrSl, ↓dScrLen, ↓dScrList, ↓oStrI]
        rw [if_neg (by decide)]
        refine ⟨⟨_, rfl⟩, hz2, nx 0 ?_⟩
        exact (fl_eq (bo_zero (by decide)) fun j hj => by have := hj.1; omega).symm
    refine whB_of (dWhile_iff (fun w ρ => ∃ c', w = c' ∧ (m = 0 → c' = 0) ∧ (0 < m → Cand t m c') ∧ ρ = [.fz (.str t), .ow (.lst (il (frontsL t m))), .fz (.int (c' : Nat)), .fz (.int (m : Nat)), .fz (.str [tt t m])]) c ⟨c, rfl, hc0, fun h => by rw [hc h]; exact cand_begin h, rfl⟩ ?_)
    rintro w ρ ⟨c', rfl, h0, h1, rfl⟩
    simp only [↓dSeq, ↓dNext, ↓dBreak, ↓dCont, ↓dNever, ↓dRet, ↓dRetN, ↓dDrop, ↓dSet, ↓dIf, ↓dAug, ↓dAsg, ↓dPar, ↓dVar, ↓dMove, ↓dC, ↓dFz, ↓dUp, ↓dNil, ↓dCons, ↓dTup, ↓dLst, ↓dBin, ↓dUn, ↓dChain, ↓dTest, ↓dAnd, ↓dOr, ↓dNot, ↓dAndV, ↓dOrV, ↓dNotV, ↓dIfE, ↓dgName, ↓dgNil, ↓dgCons, ↓dgTup, ↓dIt, ↓dRng1, ↓dRng2, ↓dZip, ↓dEnum, ↓u_for, ↓u_lc, ↓dYes, ↓u_call, ↓u_callF, ↓u_callIo, ↓dCB, ↓dCBF, ↓dBinS, ↓dLenS, ↓dSl, ↓dSlS, ↓dNo, ↓dPt, ↓dStL, ↓dApp, ↓dExt, ↓dJoin, ↓dRg1, ↓dRg2, ↓dTupRg, ↓dLstRg, ↓oSub, ↓oMulI, ↓oMul, ↓oFdiv, ↓oMod, ↓oPow, ↓oShr, ↓oXor, ↓oNeg, ↓oAdd, ↓oAug, ↓oLt, ↓oLe, ↓oGt, ↓oGe, ↓oI, ↓oIx, ↓oLen, ↓oInt, ↓oOrd, ↓oAbs, ↓oStL, ↓oIn, ↓oNin, ↓oInB, ↓isi_int, ↓isi_int_bl, ↓isi_int_str, ↓isi_int_tup, ↓isi_int_lst, ↓isi_str, ↓isi_str_int, ↓isi_tup, ↓isi_tup_int, ↓isi_tup_str, ↓isi_tup_lst, ↓isi_lst, ↓isi_lst_tup, ↓isi_lst_int, ↓isi_lst_str, ↓cv, ↓Cell.val, ↓Cell.up, ↓Cell.own, ↓lenD, ↓itemsOf, List.getElem?_cons_zero, List.getElem?_cons_succ, List.set_cons_zero, List.set_cons_succ, Option.bind_some, Option.isSome_some, List.length_cons, List.length_nil, true_and, and_true, ↓ixN_lit, ↓atI_lit, ↓reduceIte, Nat.reduceAdd, Nat.reduceLT, Nat.reduceSub, Nat.zero_add, Nat.reduceLeDiff, Nat.lt_add_one, Nat.zero_lt_succ, ↓oEq_int, ↓oNe_int, ↓oEq_str, ↓oNe_str, ↓oEq_bl, ↓oNe_bl, decide_eq_true_eq, Bool.false_eq_true, ↓u_while, ↓ownAt, List.all_cons, List.all_nil, Bool.and_true, List.getD_cons_zero, List.getD_cons_succ, Bool.not_false, ↓oLe_sign, ↓oMulS, ↓dDic, ↓dLock, ↓dGetS, ↓dStD, ↓dInS, ↓oInD, ↓dKeys, ↓dGet1, ↓dGet2, ↓dRev, ↓dMulL, ↓dCount, ↓dScrSl, ↓dScrLen, ↓dScrList, ↓oStrI]
    by_cases m0 : 0 < m
    · rw [if_pos (by omega)]
      have C := h1 m0
      have cl := C.bo.1
      by_cases c0 : 0 < w
      · rw [if_pos (by omega)]
        simp only [↓dSeq, ↓dNext, ↓dBreak, ↓dCont, ↓dNever, ↓dRet, ↓dRetN, ↓dDrop, ↓dSet, ↓dIf, ↓dAug, ↓dAsg, ↓dPar, ↓dVar, ↓dMove, ↓dC, ↓dFz, ↓dUp, ↓dNil, ↓dCons, ↓dTup, ↓dLst, ↓dBin, ↓dUn, ↓dChain, ↓dTest, ↓dAnd, ↓dOr, ↓dNot, ↓dAndV, ↓dOrV, ↓dNotV, ↓dIfE, ↓dgName, ↓dgNil, ↓dgCons, ↓dgTup, ↓dIt, ↓dRng1, ↓dRng2, ↓dZip, ↓dEnum, ↓u_for, ↓u_lc, ↓dYes, ↓u_call, ↓u_callF, ↓u_callIo, ↓dCB, ↓dCBF, ↓dBinS, ↓dLenS, ↓dSl, ↓dSlS, ↓dNo, ↓dPt, ↓dStL, ↓dApp, ↓dExt, ↓dJoin, ↓dRg1, ↓dRg2, ↓dTupRg, ↓dLstRg, ↓oSub, ↓oMulI, ↓oMul, ↓oFdiv, ↓oMod, ↓oPow, ↓oShr, ↓oXor, ↓oNeg, ↓oAdd, ↓oAug, ↓oLt, ↓oLe, ↓oGt, ↓oGe, ↓oI, ↓oIx, ↓oLen, ↓oInt, ↓oOrd, ↓oAbs, ↓oStL, ↓oIn, ↓oNin, ↓oInB, ↓isi_int, ↓isi_int_bl, ↓isi_int_str, ↓isi_int_tup, ↓isi_int_lst, ↓isi_str, ↓isi_str_int, ↓isi_tup, ↓isi_tup_int, ↓isi_tup_str, ↓isi_tup_lst, ↓isi_lst, ↓isi_lst_tup, ↓isi_lst_int, ↓isi_lst_str, ↓cv, ↓Cell.val, ↓Cell.up, ↓Cell.own, ↓lenD, ↓itemsOf, List.getElem?_cons_zero, List.getElem?_cons_succ, List.set_cons_zero, List.set_cons_succ, Option.bind_some, Option.isSome_some, List.length_cons, List.length_nil, true_and, and_true, ↓ixN_lit, ↓atI_lit, ↓reduceIte, Nat.reduceAdd, Nat.reduceLT, Nat.reduceSub, Nat.zero_add, Nat.reduceLeDiff, Nat.lt_add_one, Nat.zero_lt_succ, ↓oEq_int, ↓oNe_int, ↓oEq_str, ↓oNe_str, ↓oEq_bl, ↓oNe_bl, decide_eq_true_eq, Bool.false_eq_true, ↓u_while, ↓ownAt, List.all_cons, List.all_nil, Bool.and_true, List.getD_cons_zero, List.getD_cons_succ, Bool.not_false, ↓oLe_sign, ↓oMulS, ↓dDic, ↓dLock, ↓dGetS, ↓dStD, ↓dInS, ↓oInD, ↓dKeys, ↓dGet1, ↓dGet2, ↓dRev, ↓dMulL, ↓dCount, ↓dScrSl, ↓dScrLen, ↓dScrList, ↓oStrI, atI_natE, str_at (show w < t.length by omega)]
        by_cases q : tt t w = tt t m
        · rw [if_neg (by rw [q]; simp)]
          have f := fin w (fun _ => False) (fun _ _ => False) h0 (fun _ => ⟨C, .inr q⟩)
          simp only [↓dSeq, ↓dNext, ↓dBreak, ↓dCont, ↓dNever, ↓dRet, ↓dRetN, ↓dDrop, ↓dSet, ↓dIf, ↓dAug, ↓dAsg, ↓dPar, ↓dVar, ↓dMove, ↓dC, ↓dFz, ↓dUp, ↓dNil, ↓dCons, ↓dTup, ↓dLst, ↓dBin, ↓dUn, ↓dChain, ↓dTest, ↓dAnd, ↓dOr, ↓dNot, ↓dAndV, ↓dOrV, ↓dNotV, ↓dIfE, ↓dgName, ↓dgNil, ↓dgCons, ↓dgTup, ↓dIt, ↓dRng1, ↓dRng2, ↓dZip, ↓dEnum, ↓u_for, ↓u_lc, ↓dYes, ↓u_call, ↓u_callF, ↓u_callIo, ↓dCB, ↓dCBF, ↓dBinS, ↓dLenS, ↓dSl, ↓dSlS, ↓dNo, ↓dPt, ↓dStL, ↓dApp, ↓dExt, ↓dJoin, ↓dRg1, ↓dRg2, ↓dTupRg, ↓dLstRg, ↓oSub, ↓oMulI, ↓oMul, ↓oFdiv, ↓oMod, ↓oPow, ↓oShr, ↓oXor, ↓oNeg, ↓oAdd, ↓oAug, ↓oLt, ↓oLe, ↓oGt, ↓oGe, ↓oI, ↓oIx, ↓oLen, ↓oInt, ↓oOrd, ↓oAbs, ↓oStL, ↓oIn, ↓oNin, ↓oInB, ↓isi_int, ↓isi_int_bl, ↓isi_int_str, ↓isi_int_tup, ↓isi_int_lst, ↓isi_str, ↓isi_str_int, ↓isi_tup, ↓isi_tup_int, ↓isi_tup_str, ↓isi_tup_lst, ↓isi_lst, ↓isi_lst_tup, ↓isi_lst_int, ↓isi_lst_str, ↓cv, ↓Cell.val, ↓Cell.up, ↓Cell.own, ↓lenD, ↓itemsOf, List.getElem?_cons_zero, List.getElem?_cons_succ, List.set_cons_zero, List.set_cons_succ, Option.bind_some, Option.isSome_some, List.length_cons, List.length_nil, true_and, and_true, ↓ixN_lit, ↓atI_lit, ↓reduceIte, Nat.reduceAdd, Nat.reduceLT, Nat.reduceSub, Nat.zero_add, Nat.reduceLeDiff, Nat.lt_add_one, Nat.zero_lt_succ, ↓oEq_int, ↓oNe_int, ↓oEq_str, ↓oNe_str, ↓oEq_bl, ↓oNe_bl, decide_eq_true_eq, Bool.false_eq_true, ↓u_while, ↓ownAt, List.all_cons, List.all_nil, Bool.and_true, List.getD_cons_zero, List.getD_cons_succ, Bool.not_false, ↓oLe_sign, ↓oMulS, ↓dDic, ↓dLock, ↓dGetS, ↓dStD, ↓dInS, ↓oInD, ↓dKeys, ↓dGet1, ↓dGet2, ↓dRev, ↓dMulL, ↓dCount, ↓dScrSl, ↓dScrLen, ↓dScrList, ↓oStrI, atI_natE, str_at (show w < t.length by omega)] at f
          exact f
        · rw [if_pos (fun z => q (by simpa using z))]
          have e1 : ((w : Nat) : Int) - 1 = ((w - 1 : Nat) : Int) := by omega
          simp only [↓dSeq, ↓dNext, ↓dBreak, ↓dCont, ↓dNever, ↓dRet, ↓dRetN, ↓dDrop, ↓dSet, ↓dIf, ↓dAug, ↓dAsg, ↓dPar, ↓dVar, ↓dMove, ↓dC, ↓dFz, ↓dUp, ↓dNil, ↓dCons, ↓dTup, ↓dLst, ↓dBin, ↓dUn, ↓dChain, ↓dTest, ↓dAnd, ↓dOr, ↓dNot, ↓dAndV, ↓dOrV, ↓dNotV, ↓dIfE, ↓dgName, ↓dgNil, ↓dgCons, ↓dgTup, ↓dIt, ↓dRng1, ↓dRng2, ↓dZip, ↓dEnum, ↓u_for, ↓u_lc, ↓dYes, ↓u_call, ↓u_callF, ↓u_callIo, ↓dCB, ↓dCBF, ↓dBinS, ↓dLenS, ↓dSl, ↓dSlS, ↓dNo, ↓dPt, ↓dStL, ↓dApp, ↓dExt, ↓dJoin, ↓dRg1, ↓dRg2, ↓dTupRg, ↓dLstRg, ↓oSub, ↓oMulI, ↓oMul, ↓oFdiv, ↓oMod, ↓oPow, ↓oShr, ↓oXor, ↓oNeg, ↓oAdd, ↓oAug, ↓oLt, ↓oLe, ↓oGt, ↓oGe, ↓oI, ↓oIx, ↓oLen, ↓oInt, ↓oOrd, ↓oAbs, ↓oStL, ↓oIn, ↓oNin, ↓oInB, ↓isi_int, ↓isi_int_bl, ↓isi_int_str, ↓isi_int_tup, ↓isi_int_lst, ↓isi_str, ↓isi_str_int, ↓isi_tup, ↓isi_tup_int, ↓isi_tup_str, ↓isi_tup_lst, ↓isi_lst, ↓isi_lst_tup, ↓isi_lst_int, ↓isi_lst_str, ↓cv, ↓Cell.val, ↓Cell.up, ↓Cell.own, ↓lenD, ↓itemsOf, List.getElem?_cons_zero, List.getElem?_cons_succ, List.set_cons_zero, List.set_cons_succ, Option.bind_some, Option.isSome_some, List.length_cons, List.length_nil, true_and, and_true, ↓ixN_lit, ↓atI_lit, ↓reduceIte, Nat.reduceAdd, Nat.reduceLT, Nat.reduceSub, Nat.zero_add, Nat.reduceLeDiff, Nat.lt_add_one, Nat.zero_lt_succ, ↓oEq_int, ↓oNe_int, ↓oEq_str, ↓oNe_str, ↓oEq_bl, ↓oNe_bl, decide_eq_true_eq, Bool.false_eq_true, ↓u_while, ↓ownAt, List.all_cons, List.all_nil, Bool.and_true, List.getD_cons_zero, List.getD_cons_succ, Bool.not_false, ↓oLe_sign, ↓oMulS, ↓dDic, ↓dLock, ↓dGetS, ↓dStD, ↓dInS, ↓oInD, ↓dKeys, ↓dGet1, ↓dGet2, ↓dRev, ↓dMulL, ↓dCount, ↓dScrSl, ↓dScrLen, ↓dScrList, ↓oStrI, e1, atI_natE, frontsL_at (show w - 1 < m by omega)]
          refine ⟨fl t w, fl_lt c0, fl t w, rfl, fun h => by omega, fun _ => cand_next C c0 q, ?_⟩
          rw [show w - 1 + 1 = w by omega]
      · rw [if_neg (by omega)]
        have f := fin w (fun _ => False) (fun _ _ => False) h0 (fun _ => ⟨C, .inl (by omega)⟩)
        simp only [↓dSeq, ↓dNext, ↓dBreak, ↓dCont, ↓dNever, ↓dRet, ↓dRetN, ↓dDrop, ↓dSet, ↓dIf, ↓dAug, ↓dAsg, ↓dPar, ↓dVar, ↓dMove, ↓dC, ↓dFz, ↓dUp, ↓dNil, ↓dCons, ↓dTup, ↓dLst, ↓dBin, ↓dUn, ↓dChain, ↓dTest, ↓dAnd, ↓dOr, ↓dNot, ↓dAndV, ↓dOrV, ↓dNotV, ↓dIfE, ↓dgName, ↓dgNil, ↓dgCons, ↓dgTup, ↓dIt, ↓dRng1, ↓dRng2, ↓dZip, ↓dEnum, ↓u_for, ↓u_lc, ↓dYes, ↓u_call, ↓u_callF, ↓u_callIo, ↓dCB, ↓dCBF, ↓dBinS, ↓dLenS, ↓dSl, ↓dSlS, ↓dNo, ↓dPt, ↓dStL, ↓dApp, ↓dExt, ↓dJoin, ↓dRg1, ↓dRg2, ↓dTupRg, ↓dLstRg, ↓oSub, ↓oMulI, ↓oMul, ↓oFdiv, ↓oMod, ↓oPow, ↓oShr, ↓oXor, ↓oNeg, ↓oAdd, ↓oAug, ↓oLt, ↓oLe, ↓oGt, ↓oGe, ↓oI, ↓oIx, ↓oLen, ↓oInt, ↓oOrd, ↓oAbs, ↓oStL, ↓oIn, ↓oNin, ↓oInB, ↓isi_int, ↓isi_int_bl, ↓isi_int_str, ↓isi_int_tup, ↓isi_int_lst, ↓isi_str, ↓isi_str_int, ↓isi_tup, ↓isi_tup_int, ↓isi_tup_str, ↓isi_tup_lst, ↓isi_lst, ↓isi_lst_tup, ↓isi_lst_int, ↓isi_lst_str, ↓cv, ↓Cell.val, ↓Cell.up, ↓Cell.own, ↓lenD, ↓itemsOf, List.getElem?_cons_zero, List.getElem?_cons_succ, List.set_cons_zero, List.set_cons_succ, Option.bind_some, Option.isSome_some, List.length_cons, List.length_nil, true_and, and_true, ↓ixN_lit, ↓atI_lit, ↓reduceIte, Nat.reduceAdd, Nat.reduceLT, Nat.reduceSub, Nat.zero_add, Nat.reduceLeDiff, Nat.lt_add_one, Nat.zero_lt_succ, ↓oEq_int, ↓oNe_int, ↓oEq_str, ↓oNe_str, ↓oEq_bl, ↓oNe_bl, decide_eq_true_eq, Bool.false_eq_true, ↓u_while, ↓ownAt, List.all_cons, List.all_nil, Bool.and_true, List.getD_cons_zero, List.getD_cons_succ, Bool.not_false, ↓oLe_sign, ↓oMulS, ↓dDic, ↓dLock, ↓dGetS, ↓dStD, ↓dInS, ↓oInD, ↓dKeys, ↓dGet1, ↓dGet2, ↓dRev, ↓dMulL, ↓dCount, ↓dScrSl, ↓dScrLen, ↓dScrList, ↓oStrI] at f
        exact f
    · rw [if_neg (by omega)]
      have f := fin w (fun _ => False) (fun _ _ => False) h0 (fun h => absurd h m0)
      simp only [↓dSeq, ↓dNext, ↓dBreak, ↓dCont, ↓dNever, ↓dRet, ↓dRetN, ↓dDrop, ↓dSet, ↓dIf, ↓dAug, ↓dAsg, ↓dPar, ↓dVar, ↓dMove, ↓dC, ↓dFz, ↓dUp, ↓dNil, ↓dCons, ↓dTup, ↓dLst, ↓dBin, ↓dUn, ↓dChain, ↓dTest, ↓dAnd, ↓dOr, ↓dNot, ↓dAndV, ↓dOrV, ↓dNotV, ↓dIfE, ↓dgName, ↓dgNil, ↓dgCons, ↓dgTup, ↓dIt, ↓dRng1, ↓dRng2, ↓dZip, ↓dEnum, ↓u_for, ↓u_lc, ↓dYes, ↓u_call, ↓u_callF, ↓u_callIo, ↓dCB, ↓dCBF, ↓dBinS, ↓dLenS, ↓dSl, ↓dSlS, ↓dNo, ↓dPt, ↓dStL, ↓dApp, ↓dExt, ↓dJoin, ↓dRg1, ↓dRg2, ↓dTupRg, ↓dLstRg, ↓oSub, ↓oMulI, ↓oMul, ↓oFdiv, ↓oMod, ↓oPow, ↓oShr, ↓oXor, ↓oNeg, ↓oAdd, ↓oAug, ↓oLt, ↓oLe, ↓oGt, ↓oGe, ↓oI, ↓oIx, ↓oLen, ↓oInt, ↓oOrd, ↓oAbs, ↓oStL, ↓oIn, ↓oNin, ↓oInB, ↓isi_int, ↓isi_int_bl, ↓isi_int_str, ↓isi_int_tup, ↓isi_int_lst, ↓isi_str, ↓isi_str_int, ↓isi_tup, ↓isi_tup_int, ↓isi_tup_str, ↓isi_tup_lst, ↓isi_lst, ↓isi_lst_tup, ↓isi_lst_int, ↓isi_lst_str, ↓cv, ↓Cell.val, ↓Cell.up, ↓Cell.own, ↓lenD, ↓itemsOf, List.getElem?_cons_zero, List.getElem?_cons_succ, List.set_cons_zero, List.set_cons_succ, Option.bind_some, Option.isSome_some, List.length_cons, List.length_nil, true_and, and_true, ↓ixN_lit, ↓atI_lit, ↓reduceIte, Nat.reduceAdd, Nat.reduceLT, Nat.reduceSub, Nat.zero_add, Nat.reduceLeDiff, Nat.lt_add_one, Nat.zero_lt_succ, ↓oEq_int, ↓oNe_int, ↓oEq_str, ↓oNe_str, ↓oEq_bl, ↓oNe_bl, decide_eq_true_eq, Bool.false_eq_true, ↓u_while, ↓ownAt, List.all_cons, List.all_nil, Bool.and_true, List.getD_cons_zero, List.getD_cons_succ, Bool.not_false, ↓oLe_sign, ↓oMulS, ↓dDic, ↓dLock, ↓dGetS, ↓dStD, ↓dInS, ↓oInD, ↓dKeys, ↓dGet1, ↓dGet2, ↓dRev, ↓dMulL, ↓dCount, ↓dScrSl, ↓dScrLen, ↓dScrList, ↓oStrI] at f
      exact f
  · rintro ρ ⟨m, c, x3, x4, hm, hc0, hc, e, rfl⟩
    have hlen : (enumD 0 (t.map fun c => D.str [c])).length = t.length := by simp [enumD]
    have : m = t.length := by
      have := congrArg List.length e
      rw [List.length_drop, hlen] at this
      simp at this
      omega
    subst this
    simp only [↓dSeq, ↓dNext, ↓dBreak, ↓dCont, ↓dNever, ↓dRet, ↓dRetN, ↓dDrop, ↓dSet, ↓dIf, ↓dAug, ↓dAsg, ↓dPar, ↓dVar, ↓dMove, ↓dC, ↓dFz, ↓dUp, ↓dNil, ↓dCons, ↓dTup, ↓dLst, ↓dBin, ↓dUn, ↓dChain, ↓dTest, ↓dAnd, ↓dOr, ↓dNot, ↓dAndV, ↓dOrV, ↓dNotV, ↓dIfE, ↓dgName, ↓dgNil, ↓dgCons, ↓dgTup, ↓dIt, ↓dRng1, ↓dRng2, ↓dZip, ↓dEnum, ↓u_for, ↓u_lc, ↓dYes, ↓u_call, ↓u_callF, ↓u_callIo, ↓dCB, ↓dCBF, ↓dBinS, ↓dLenS, ↓dSl, ↓dSlS, ↓dNo, ↓dPt, ↓dStL, ↓dApp, ↓dExt, ↓dJoin, ↓dRg1, ↓dRg2, ↓dTupRg, ↓dLstRg, ↓oSub, ↓oMulI, ↓oMul, ↓oFdiv, ↓oMod, ↓oPow, ↓oShr, ↓oXor, ↓oNeg, ↓oAdd, ↓oAug, ↓oLt, ↓oLe, ↓oGt, ↓oGe, ↓oI, ↓oIx, ↓oLen, ↓oInt, ↓oOrd, ↓oAbs, ↓oStL, ↓oIn, ↓oNin, ↓oInB, ↓isi_int, ↓isi_int_bl, ↓isi_int_str, ↓isi_int_tup, ↓isi_int_lst, ↓isi_str, ↓isi_str_int, ↓isi_tup, ↓isi_tup_int, ↓isi_tup_str, ↓isi_tup_lst, ↓isi_lst, ↓isi_lst_tup, ↓isi_lst_int, ↓isi_lst_str, ↓cv, ↓Cell.val, ↓Cell.up, ↓Cell.own, ↓lenD, ↓itemsOf, List.getElem?_cons_zero, List.getElem?_cons_succ, List.set_cons_zero, List.set_cons_succ, Option.bind_some, Option.isSome_some, List.length_cons, List.length_nil, true_and, and_true, ↓ixN_lit, ↓atI_lit, ↓reduceIte, Nat.reduceAdd, Nat.reduceLT, Nat.reduceSub, Nat.zero_add, Nat.reduceLeDiff, Nat.lt_add_one, Nat.zero_lt_succ, ↓oEq_int, ↓oNe_int, ↓oEq_str, ↓oNe_str, ↓oEq_bl, ↓oNe_bl, decide_eq_true_eq, Bool.false_eq_true, ↓u_while, ↓ownAt, List.all_cons, List.all_nil, Bool.and_true, List.getD_cons_zero, List.getD_cons_succ, Bool.not_false, ↓oLe_sign, ↓oMulS, ↓dDic, ↓dLock, ↓dGetS, ↓dStD, ↓dInS, ↓oInD, ↓dKeys, ↓dGet1, ↓dGet2, ↓dRev, ↓dMulL, ↓dCount, ↓dScrSl, ↓dScrLen, ↓dScrList, ↓oStrI]
    exact post _ _ ⟨rfl, rfl⟩
/-- all borders of the whole, from below, but the empty one -/
def bordersN (t : List Nat) : List Nat := (List.range t.length).filter fun k => decide (0 < k ∧ Bo t t.length k)
def aboveN (t : List Nat) (m : Nat) : List Nat := (List.range t.length).filter fun k => decide (m < k ∧ Bo t t.length k)
theorem above_next {t : List Nat} {m : Nat} (h0 : 0 < m) (hb : Bo t t.length m) : aboveN t (fl t m) = m :: aboveN t m := by
  have hl := hb.1
  have key : ∀ n, m < n → (List.range n).filter (fun k => decide (fl t m < k ∧ Bo t t.length k)) = m :: (List.range n).filter (fun k => decide (m < k ∧ Bo t t.length k)) := by
    intro n
    induction n with
    | zero => intro h; omega
    | succ n ih =>
      intro h
      rw [List.range_succ, List.filter_append, List.filter_append]
      by_cases e : m = n
      · subst e
        have e1 : (List.range m).filter (fun k => decide (fl t m < k ∧ Bo t t.length k)) = [] := by
          rw [List.filter_eq_nil_iff]
          intro k hk
          have hk := List.mem_range.mp hk
          rw [decide_eq_true_eq]
          rintro ⟨h1, h2⟩
          exact absurd (fl_max (bo_sub hb h2 hk)) (by omega)
        have e2 : (List.range m).filter (fun k => decide (m < k ∧ Bo t t.length k)) = [] := by
          rw [List.filter_eq_nil_iff]
          intro k hk
          have hk := List.mem_range.mp hk
          rw [decide_eq_true_eq]
          rintro ⟨h1, _⟩
          omega
        rw [e1, e2]
        have q1 : decide (fl t m < m ∧ Bo t t.length m) = true := decide_eq_true ⟨fl_lt h0, hb⟩
        have q2 : decide (m < m ∧ Bo t t.length m) = false := decide_eq_false fun z => Nat.lt_irrefl _ z.1
        simp [List.filter, q1, q2]
      · rw [ih (by omega)]
        have q : decide (fl t m < n ∧ Bo t t.length n) = decide (m < n ∧ Bo t t.length n) := by
          have a1 : fl t m < n := by have := fl_lt (t := t) h0; omega
          have a2 : m < n := by omega
          simp [a1, a2]
        simp [List.filter, q]
  exact key _ hl
theorem above_top {t : List Nat} : aboveN t (fl t t.length) = [] := by
  unfold aboveN
  rw [List.filter_eq_nil_iff]
  intro k hk
  rw [decide_eq_true_eq]
  rintro ⟨h1, h2⟩
  exact absurd (fl_max h2) (by omega)
def S_border_lengths : FnSpec := fnSpec 1 true (fun t : List Nat => [.str t]) (fun t => t.length ≤ 1000000) fun t => .lst (il (bordersN t))
/-- border_lengths: slots 0 text, 1 fronts, 2 found, 3 many -/
def D_border_lengths : DTS := (dSeq (dSet 1 (dUp (dFz (dCallF S_front_lengths (dCons (dVar 0) dNil))))) (dSeq (dSet 2 (dLst dNil)) (dSeq (dSet 3 (dUp (dFz (dIfE (dTest (dBin oGt (dLenS 1) (dC (.int 0)))) (dUp (dBinS 1 oIx (dUn oNeg (dC (.int 1))))) (dUp (dC (.int 0))))))) (dSeq (dWhile (dTest (dBin oGt (dVar 3) (dC (.int 0)))) (dSeq (dApp 2 (dVar 3)) (dSet 3 (dUp (dBinS 1 oIx (dBin oSub (dVar 3) (dC (.int 1)))))))) (dRet (dRev (dVar 2)))))))
theorem sem_border_lengths : ∀ ds Kd, S_border_lengths.ds ds Kd → D_border_lengths (endsOf S_border_lengths Kd) (env0 4 [false] ds) := by
  rintro ds Kd ⟨t, rfl, hz, post⟩
  show D_border_lengths (endsOf S_border_lengths Kd) [.fz (.str t), .un, .un, .un]
  simp only [↓D_border_lengths, ↓dSeq, ↓dNext, ↓dBreak, ↓dCont, ↓dNever, ↓dRet, ↓dRetN, ↓dDrop, ↓dSet, ↓dIf, ↓dAug, ↓dAsg, ↓dPar, ↓dVar, ↓dMove, ↓dC, ↓dFz, ↓dUp, ↓dNil, ↓dCons, ↓dTup, ↓dLst, ↓dBin, ↓dUn, ↓dChain, ↓dTest, ↓dAnd, ↓dOr, ↓dNot, ↓dAndV, ↓dOrV, ↓dNotV, ↓dIfE, ↓dgName, ↓dgNil, ↓dgCons, ↓dgTup, ↓dIt, ↓dRng1, ↓dRng2, ↓dZip, ↓dEnum, ↓u_for, ↓u_lc, ↓dYes, ↓u_call, ↓u_callF, ↓u_callIo, ↓dCB, ↓dCBF, ↓dBinS, ↓dLenS, ↓dSl, ↓dSlS, ↓dNo, ↓dPt, ↓dStL, ↓dApp, ↓dExt, ↓dJoin, ↓dRg1, ↓dRg2, ↓dTupRg, ↓dLstRg, ↓oSub, ↓oMulI, ↓oMul, ↓oFdiv, ↓oMod, ↓oPow, ↓oShr, ↓oXor, ↓oNeg, ↓oAdd, ↓oAug, ↓oLt, ↓oLe, ↓oGt, ↓oGe, ↓oI, ↓oIx, ↓oLen, ↓oInt, ↓oOrd, ↓oAbs, ↓oStL, ↓oIn, ↓oNin, ↓oInB, ↓isi_int, ↓isi_int_bl, ↓isi_int_str, ↓isi_int_tup, ↓isi_int_lst, ↓isi_str, ↓isi_str_int, ↓isi_tup, ↓isi_tup_int, ↓isi_tup_str, ↓isi_tup_lst, ↓isi_lst, ↓isi_lst_tup, ↓isi_lst_int, ↓isi_lst_str, ↓cv, ↓Cell.val, ↓Cell.up, ↓Cell.own, ↓lenD, ↓itemsOf, List.getElem?_cons_zero, List.getElem?_cons_succ, List.set_cons_zero, List.set_cons_succ, Option.bind_some, Option.isSome_some, List.length_cons, List.length_nil, true_and, and_true, ↓ixN_lit, ↓atI_lit, ↓reduceIte, Nat.reduceAdd, Nat.reduceLT, Nat.reduceSub, Nat.zero_add, Nat.reduceLeDiff, Nat.lt_add_one, Nat.zero_lt_succ, ↓oEq_int, ↓oNe_int, ↓oEq_str, ↓oNe_str, ↓oEq_bl, ↓oNe_bl, decide_eq_true_eq, Bool.false_eq_true, ↓u_while, ↓ownAt, List.all_cons, List.all_nil, Bool.and_true, List.getD_cons_zero, List.getD_cons_succ, Bool.not_false, ↓oLe_sign, ↓oMulS, ↓dDic, ↓dLock, ↓dGetS, ↓dStD, ↓dInS, ↓oInD, ↓dKeys, ↓dGet1, ↓dGet2, ↓dRev, ↓dMulL, ↓dCount, ↓dScrSl, ↓dScrLen, ↓dScrList, ↓oStrI]
  refine ⟨rfl, onF t rfl hz ?_⟩
  simp only [↓dSeq, ↓dNext, ↓dBreak, ↓dCont, ↓dNever, ↓dRet, ↓dRetN, ↓dDrop, ↓dSet, ↓dIf, ↓dAug, ↓dAsg, ↓dPar, ↓dVar, ↓dMove, ↓dC, ↓dFz, ↓dUp, ↓dNil, ↓dCons, ↓dTup, ↓dLst, ↓dBin, ↓dUn, ↓dChain, ↓dTest, ↓dAnd, ↓dOr, ↓dNot, ↓dAndV, ↓dOrV, ↓dNotV, ↓dIfE, ↓dgName, ↓dgNil, ↓dgCons, ↓dgTup, ↓dIt, ↓dRng1, ↓dRng2, ↓dZip, ↓dEnum, ↓u_for, ↓u_lc, ↓dYes, ↓u_call, ↓u_callF, ↓u_callIo, ↓dCB, ↓dCBF, ↓dBinS, ↓dLenS, ↓dSl, ↓dSlS, ↓dNo, ↓dPt, ↓dStL, ↓dApp, ↓dExt, ↓dJoin, ↓dRg1, ↓dRg2, ↓dTupRg, ↓dLstRg, ↓oSub, ↓oMulI, ↓oMul, ↓oFdiv, ↓oMod, ↓oPow, ↓oShr, ↓oXor, ↓oNeg, ↓oAdd, ↓oAug, ↓oLt, ↓oLe, ↓oGt, ↓oGe, ↓oI, ↓oIx, ↓oLen, ↓oInt, ↓oOrd, ↓oAbs, ↓oStL, ↓oIn, ↓oNin, ↓oInB, ↓isi_int, ↓isi_int_bl, ↓isi_int_str, ↓isi_int_tup, ↓isi_int_lst, ↓isi_str, ↓isi_str_int, ↓isi_tup, ↓isi_tup_int, ↓isi_tup_str, ↓isi_tup_lst, ↓isi_lst, ↓isi_lst_tup, ↓isi_lst_int, ↓isi_lst_str, ↓cv, ↓Cell.val, ↓Cell.up, ↓Cell.own, ↓lenD, ↓itemsOf, List.getElem?_cons_zero, List.getElem?_cons_succ, List.set_cons_zero, List.set_cons_succ, Option.bind_some, Option.isSome_some, List.length_cons, List.length_nil, true_and, and_true, ↓ixN_lit, ↓atI_lit, ↓reduceIte, Nat.reduceAdd, Nat.reduceLT, Nat.reduceSub, Nat.zero_add, Nat.reduceLeDiff, Nat.lt_add_one, Nat.zero_lt_succ, ↓oEq_int, ↓oNe_int, ↓oEq_str, ↓oNe_str, ↓oEq_bl, ↓oNe_bl, decide_eq_true_eq, Bool.false_eq_true, ↓u_while, ↓ownAt, List.all_cons, List.all_nil, Bool.and_true, List.getD_cons_zero, List.getD_cons_succ, Bool.not_false, ↓oLe_sign, ↓oMulS, ↓dDic, ↓dLock, ↓dGetS, ↓dStD, ↓dInS, ↓oInD, ↓dKeys, ↓dGet1, ↓dGet2, ↓dRev, ↓dMulL, ↓dCount, ↓dScrSl, ↓dScrLen, ↓dScrList, ↓oStrI, il_length, frontsL_length]
  refine ⟨by decide, ?_⟩
  have loop : ∀ c, (t.length = 0 → c = 0) → (0 < t.length → c = fl t t.length) → @whB ⟨(dTest (dBin oGt (dVar 3) (dC (.int 0))), dSeq (dApp 2 (dVar 3)) (dSet 3 (dUp (dBinS 1 oIx (dBin oSub (dVar 3) (dC (.int 1)))))), { nx := dRet (dRev (dVar 2)) (endsOf S_border_lengths Kd), rt := (endsOf S_border_lengths Kd).rt, bk := (endsOf S_border_lengths Kd).bk, ct := (endsOf S_border_lengths Kd).ct })⟩ [.fz (.str t), .fz (.lst (il (frontsL t t.length))), .ow (.lst []), .fz (.int (c : Nat))] := by
    intro c hc0 hc
    refine whB_of (dWhile_iff (fun w ρ => ∃ acc : List Nat, (0 < w → Bo t t.length w) ∧ (0 < t.length → acc.reverse = aboveN t w) ∧ (t.length = 0 → acc = [] ∧ w = 0) ∧ acc.length + w ≤ t.length ∧ ρ = [.fz (.str t), .fz (.lst (il (frontsL t t.length))), .ow (.lst (il acc)), .fz (.int (w : Nat))]) c ⟨[], fun h => ?_, fun h => ?_, fun h => ⟨rfl, hc0 h⟩, ?_, rfl⟩ ?_)
    · by_cases z : 0 < t.length
      · rw [hc z]; exact fl_bo z
      · rw [hc0 (by omega)] at h; omega
    · rw [hc h, above_top] <;> rfl
    · by_cases z : 0 < t.length
      · rw [hc z]; have := fl_lt (t := t) z; simp; omega
      · rw [hc0 (by omega)]; simp
    · rintro w ρ ⟨acc, hb, ha, hn, hle, rfl⟩
      simp only [↓dSeq, ↓dNext, ↓dBreak, ↓dCont, ↓dNever, ↓dRet, ↓dRetN, ↓dDrop, ↓dSet, ↓dIf, ↓dAug, ↓dAsg, ↓dPar, ↓dVar, ↓dMove, ↓dC, ↓dFz, ↓dUp, ↓dNil, ↓dCons, ↓dTup, ↓dLst, ↓dBin, ↓dUn, ↓dChain, ↓dTest, ↓dAnd, ↓dOr, ↓dNot, ↓dAndV, ↓dOrV, ↓dNotV, ↓dIfE, ↓dgName, ↓dgNil, ↓dgCons, ↓dgTup, ↓dIt, ↓dRng1, ↓dRng2, ↓dZip, ↓dEnum, ↓u_for, ↓u_lc, ↓dYes, ↓u_call, ↓u_callF, ↓u_callIo, ↓dCB, ↓dCBF, ↓dBinS, ↓dLenS, ↓dSl, ↓dSlS, ↓dNo, ↓dPt, ↓dStL, ↓dApp, ↓dExt, ↓dJoin, ↓dRg1, ↓dRg2, ↓dTupRg, ↓dLstRg, ↓oSub, ↓oMulI, ↓oMul, ↓oFdiv, ↓oMod, ↓oPow, ↓oShr, ↓oXor, ↓oNeg, ↓oAdd, ↓oAug, ↓oLt, ↓oLe, ↓oGt, ↓oGe, ↓oI, ↓oIx, ↓oLen, ↓oInt, ↓oOrd, ↓oAbs, ↓oStL, ↓oIn, ↓oNin, ↓oInB, ↓isi_int, ↓isi_int_bl, ↓isi_int_str, ↓isi_int_tup, ↓isi_int_lst, ↓isi_str, ↓isi_str_int, ↓isi_tup, ↓isi_tup_int, ↓isi_tup_str, ↓isi_tup_lst, ↓isi_lst, ↓isi_lst_tup, ↓isi_lst_int, ↓isi_lst_str, ↓cv, ↓Cell.val, ↓Cell.up, ↓Cell.own, ↓lenD, ↓itemsOf, List.getElem?_cons_zero, List.getElem?_cons_succ, List.set_cons_zero, List.set_cons_succ, Option.bind_some, Option.isSome_some, List.length_cons, List.length_nil, true_and, and_true, ↓ixN_lit, ↓atI_lit, ↓reduceIte, Nat.reduceAdd, Nat.reduceLT, Nat.reduceSub, Nat.zero_add, Nat.reduceLeDiff, Nat.lt_add_one, Nat.zero_lt_succ, ↓oEq_int, ↓oNe_int, ↓oEq_str, ↓oNe_str, ↓oEq_bl, ↓oNe_bl, decide_eq_true_eq, Bool.false_eq_true, ↓u_while, ↓ownAt, List.all_cons, List.all_nil, Bool.and_true, List.getD_cons_zero, List.getD_cons_succ, Bool.not_false, ↓oLe_sign, ↓oMulS, ↓dDic, ↓dLock, ↓dGetS, ↓dStD, ↓dInS, ↓oInD, ↓dKeys, ↓dGet1, ↓dGet2, ↓dRev, ↓dMulL, ↓dCount, ↓dScrSl, ↓dScrLen, ↓dScrList, ↓oStrI]
      by_cases w0 : 0 < w
      · rw [if_pos (by omega)]
        have hbw := hb w0
        have hlt := hbw.1
        have e1 : ((w : Nat) : Int) - 1 = ((w - 1 : Nat) : Int) := by omega
        have e2 : il acc ++ [D.int (w : Nat)] = il (acc ++ [w]) := by simp [il]
        simp only [↓dSeq, ↓dNext, ↓dBreak, ↓dCont, ↓dNever, ↓dRet, ↓dRetN, ↓dDrop, ↓dSet, ↓dIf, ↓dAug, ↓dAsg, ↓dPar, ↓dVar, ↓dMove, ↓dC, ↓dFz, ↓dUp, ↓dNil, ↓dCons, ↓dTup, ↓dLst, ↓dBin, ↓dUn, ↓dChain, ↓dTest, ↓dAnd, ↓dOr, ↓dNot, ↓dAndV, ↓dOrV, ↓dNotV, ↓dIfE, ↓dgName, ↓dgNil, ↓dgCons, ↓dgTup, ↓dIt, ↓dRng1, ↓dRng2, ↓dZip, ↓dEnum, ↓u_for, ↓u_lc, ↓dYes, ↓u_call, ↓u_callF, ↓u_callIo, ↓dCB, ↓dCBF, ↓dBinS, ↓dLenS, ↓dSl, ↓dSlS, ↓dNo, ↓dPt, ↓dStL, ↓dApp, ↓dExt, ↓dJoin, ↓dRg1, ↓dRg2, ↓dTupRg, ↓dLstRg, ↓oSub, ↓oMulI, ↓oMul, ↓oFdiv, ↓oMod, ↓oPow, ↓oShr, ↓oXor, ↓oNeg, ↓oAdd, ↓oAug, ↓oLt, ↓oLe, ↓oGt, ↓oGe, ↓oI, ↓oIx, ↓oLen, ↓oInt, ↓oOrd, ↓oAbs, ↓oStL, ↓oIn, ↓oNin, ↓oInB, ↓isi_int, ↓isi_int_bl, ↓isi_int_str, ↓isi_int_tup, ↓isi_int_lst, ↓isi_str, ↓isi_str_int, ↓isi_tup, ↓isi_tup_int, ↓isi_tup_str, ↓isi_tup_lst, ↓isi_lst, ↓isi_lst_tup, ↓isi_lst_int, ↓isi_lst_str, ↓cv, ↓Cell.val, ↓Cell.up, ↓Cell.own, ↓lenD, ↓itemsOf, List.getElem?_cons_zero, List.getElem?_cons_succ, List.set_cons_zero, List.set_cons_succ, Option.bind_some, Option.isSome_some, List.length_cons, List.length_nil, true_and, and_true, ↓ixN_lit, ↓atI_lit, ↓reduceIte, Nat.reduceAdd, Nat.reduceLT, Nat.reduceSub, Nat.zero_add, Nat.reduceLeDiff, Nat.lt_add_one, Nat.zero_lt_succ, ↓oEq_int, ↓oNe_int, ↓oEq_str, ↓oNe_str, ↓oEq_bl, ↓oNe_bl, decide_eq_true_eq, Bool.false_eq_true, ↓u_while, ↓ownAt, List.all_cons, List.all_nil, Bool.and_true, List.getD_cons_zero, List.getD_cons_succ, Bool.not_false, ↓oLe_sign, ↓oMulS, ↓dDic, ↓dLock, ↓dGetS, ↓dStD, ↓dInS, ↓oInD, ↓dKeys, ↓dGet1, ↓dGet2, ↓dRev, ↓dMulL, ↓dCount, ↓dScrSl, ↓dScrLen, ↓dScrList, ↓oStrI, e1, atI_natE, frontsL_at (show w - 1 < t.length by omega), e2]
        refine ⟨⟨_, rfl⟩, by rw [il_length]; show acc.length < 16777216; omega, fl t w, fl_lt w0, acc ++ [w], fun _ => bo_trans hbw (fl_bo w0), fun h => ?_, fun h => by omega, ?_, ?_⟩
        · rw [List.reverse_append, ha h, above_next w0 hbw] <;> rfl
        · rw [List.length_append, List.length_singleton]
          have := fl_lt (t := t) w0
          omega
        · rw [show w - 1 + 1 = w by omega]
      · rw [if_neg (by omega)]
        have ew : w = 0 := by omega
        subst ew
        have er : acc.reverse = bordersN t := by
          by_cases z : 0 < t.length
          · exact ha z
          · rw [(hn (by omega)).1]
            unfold bordersN
            rw [show t.length = 0 by omega] <;> rfl
        refine post _ _ ⟨?_, rfl⟩
        show D.lst (il acc).reverse = D.lst (il (bordersN t))
        rw [← er]
        simp [il]
  by_cases h : 0 < t.length
  · rw [if_pos (by omega)]
    have el : atI (il (frontsL t t.length)) (-1) = some (.int (fl t t.length : Nat)) := by
      obtain ⟨n, hn⟩ : ∃ n, t.length = n + 1 := ⟨t.length - 1, by omega⟩
      rw [hn, frontsL_succ]
      have : il (frontsL t n ++ [fl t (n + 1)]) = il (frontsL t n) ++ [D.int (fl t (n + 1) : Nat)] := by simp [il]
      rw [this]
      unfold atI ixN
      rw [if_neg (by decide), if_pos (by rw [List.length_append]; simp; omega), Option.bind_some, List.length_append, List.length_singleton, show ((-1 : Int) + (((il (frontsL t n)).length + 1 : Nat) : Int)).toNat = (il (frontsL t n)).length by omega]
      simp
    simp only [el]
    exact loop _ (fun z => by omega) fun _ => rfl
  · rw [if_neg (by omega)]
    exact loop 0 (fun _ => rfl) fun z => absurd z h
end DL


namespace DL
open PySem PySem.Spec PyProof.Rows L2

/-! ### what is an int within, a tuple of a size -/
def isIntD : D → Bool
  | .int _ => true
  | _ => false
def inWD (d : D) (lo hi : Int) : Bool := match d with
  | .int i => decide (lo ≤ i ∧ i ≤ hi)
  | _ => false
def szD (d : D) (lo hi : Int) : Bool := match d with
  | .tup xs => decide (lo ≤ (xs.length : Int) ∧ (xs.length : Int) ≤ hi)
  | _ => false
/-- of the common kinds -/
inductive Knd : D → Prop
  | non : Knd .non
  | bl b : Knd (.bl b)
  | int i : Knd (.int i)
  | str l : Knd (.str l)
  | lst l : Knd (.lst l)
  | tup l : Knd (.tup l)
def S_is_integer : FnSpec := fnSpec 1 false (fun d : D => [d]) Knd fun d => .bl (isIntD d)
/-- is_integer: slots 0 thing -/
def D_is_integer : DTS := (dRet (dUp (dAndV (dUn (oIsi "int") (dVar 0)) (dNotV (dUn (oIsi "bool") (dVar 0))))))
theorem sem_is_integer : ∀ ds Kd, S_is_integer.ds ds Kd → D_is_integer (endsOf S_is_integer Kd) (env0 1 [false] ds) := by
  rintro ds Kd ⟨d, rfl, hd, post⟩
  show D_is_integer (endsOf S_is_integer Kd) [.fz d]
  cases hd <;> simp only [↓D_is_integer, ↓dSeq, ↓dNext, ↓dBreak, ↓dCont, ↓dNever, ↓dRet, ↓dRetN, ↓dDrop, ↓dSet, ↓dIf, ↓dAug, ↓dAsg, ↓dPar, ↓dVar, ↓dMove, ↓dC, ↓dFz, ↓dUp, ↓dNil, ↓dCons, ↓dTup, ↓dLst, ↓dBin, ↓dUn, ↓dChain, ↓dTest, ↓dAnd, ↓dOr, ↓dNot, ↓dAndV, ↓dOrV, ↓dNotV, ↓dIfE, ↓dgName, ↓dgNil, ↓dgCons, ↓dgTup, ↓dIt, ↓dRng1, ↓dRng2, ↓dZip, ↓dEnum, ↓u_for, ↓u_lc, ↓dYes, ↓u_call, ↓u_callF, ↓u_callIo, ↓dCB, ↓dCBF, ↓dBinS, ↓dLenS, ↓dSl, ↓dSlS, ↓dNo, ↓dPt, ↓dStL, ↓dApp, ↓dExt, ↓dJoin, ↓dRg1, ↓dRg2, ↓dTupRg, ↓dLstRg, ↓oSub, ↓oMulI, ↓oMul, ↓oFdiv, ↓oMod, ↓oPow, ↓oShr, ↓oXor, ↓oNeg, ↓oAdd, ↓oAug, ↓oLt, ↓oLe, ↓oGt, ↓oGe, ↓oI, ↓oIx, ↓oLen, ↓oInt, ↓oOrd, ↓oAbs, ↓oStL, ↓oIn, ↓oNin, ↓oInB, ↓isi_int, ↓isi_int_bl, ↓isi_int_str, ↓isi_int_tup, ↓isi_int_lst, ↓isi_str, ↓isi_str_int, ↓isi_tup, ↓isi_tup_int, ↓isi_tup_str, ↓isi_tup_lst, ↓isi_lst, ↓isi_lst_tup, ↓isi_lst_int, ↓isi_lst_str, ↓cv, ↓Cell.val, ↓Cell.up, ↓Cell.own, ↓lenD, ↓itemsOf, List.getElem?_cons_zero, List.getElem?_cons_succ, List.set_cons_zero, List.set_cons_succ, Option.bind_some, Option.isSome_some, List.length_cons, List.length_nil, true_and, and_true, ↓ixN_lit, ↓atI_lit, ↓reduceIte, Nat.reduceAdd, Nat.reduceLT, Nat.reduceSub, Nat.zero_add, Nat.reduceLeDiff, Nat.lt_add_one, Nat.zero_lt_succ, ↓oEq_int, ↓oNe_int, ↓oEq_str, ↓oNe_str, ↓oEq_bl, ↓oNe_bl, decide_eq_true_eq, Bool.false_eq_true, ↓u_while, ↓ownAt, List.all_cons, List.all_nil, Bool.and_true, List.getD_cons_zero, List.getD_cons_succ, Bool.not_false, ↓oLe_sign, ↓oMulS, ↓dDic, ↓dLock, ↓dGetS, ↓dStD, ↓dInS, ↓oInD, ↓dKeys, ↓dGet1, ↓dGet2, ↓dRev, ↓dMulL, ↓dCount, ↓dScrSl, ↓dScrLen, ↓dScrList, ↓oStrI, oIsi, tyN, isiB] <;> exact ⟨rfl, post _ _ ⟨rfl, rfl⟩⟩
def S_is_within : FnSpec := fnSpec 3 false (fun x : D × Int × Int => [x.1, .int x.2.1, .int x.2.2]) (fun x => Knd x.1) fun x => .bl (inWD x.1 x.2.1 x.2.2)
/-- is_within: slots 0 thing, 1 least, 2 most -/
def D_is_within : DTS := (dRet (dUp (dAndV (dCall S_is_integer (dCons (dVar 0) dNil)) (dChain oLe oLe (dVar 1) (dVar 0) (dVar 2)))))
theorem sem_is_within : ∀ ds Kd, S_is_within.ds ds Kd → D_is_within (endsOf S_is_within Kd) (env0 3 [false, false, false] ds) := by
  rintro ds Kd ⟨⟨d, lo, hi⟩, rfl, hd, post⟩
  show D_is_within (endsOf S_is_within Kd) [.fz d, .fz (.int lo), .fz (.int hi)]
  simp only [↓D_is_within, ↓dSeq, ↓dNext, ↓dBreak, ↓dCont, ↓dNever, ↓dRet, ↓dRetN, ↓dDrop, ↓dSet, ↓dIf, ↓dAug, ↓dAsg, ↓dPar, ↓dVar, ↓dMove, ↓dC, ↓dFz, ↓dUp, ↓dNil, ↓dCons, ↓dTup, ↓dLst, ↓dBin, ↓dUn, ↓dChain, ↓dTest, ↓dAnd, ↓dOr, ↓dNot, ↓dAndV, ↓dOrV, ↓dNotV, ↓dIfE, ↓dgName, ↓dgNil, ↓dgCons, ↓dgTup, ↓dIt, ↓dRng1, ↓dRng2, ↓dZip, ↓dEnum, ↓u_for, ↓u_lc, ↓dYes, ↓u_call, ↓u_callF, ↓u_callIo, ↓dCB, ↓dCBF, ↓dBinS, ↓dLenS, ↓dSl, ↓dSlS, ↓dNo, ↓dPt, ↓dStL, ↓dApp, ↓dExt, ↓dJoin, ↓dRg1, ↓dRg2, ↓dTupRg, ↓dLstRg, ↓oSub, ↓oMulI, ↓oMul, ↓oFdiv, ↓oMod, ↓oPow, ↓oShr, ↓oXor, ↓oNeg, ↓oAdd, ↓oAug, ↓oLt, ↓oLe, ↓oGt, ↓oGe, ↓oI, ↓oIx, ↓oLen, ↓oInt, ↓oOrd, ↓oAbs, ↓oStL, ↓oIn, ↓oNin, ↓oInB, ↓isi_int, ↓isi_int_bl, ↓isi_int_str, ↓isi_int_tup, ↓isi_int_lst, ↓isi_str, ↓isi_str_int, ↓isi_tup, ↓isi_tup_int, ↓isi_tup_str, ↓isi_tup_lst, ↓isi_lst, ↓isi_lst_tup, ↓isi_lst_int, ↓isi_lst_str, ↓cv, ↓Cell.val, ↓Cell.up, ↓Cell.own, ↓lenD, ↓itemsOf, List.getElem?_cons_zero, List.getElem?_cons_succ, List.set_cons_zero, List.set_cons_succ, Option.bind_some, Option.isSome_some, List.length_cons, List.length_nil, true_and, and_true, ↓ixN_lit, ↓atI_lit, ↓reduceIte, Nat.reduceAdd, Nat.reduceLT, Nat.reduceSub, Nat.zero_add, Nat.reduceLeDiff, Nat.lt_add_one, Nat.zero_lt_succ, ↓oEq_int, ↓oNe_int, ↓oEq_str, ↓oNe_str, ↓oEq_bl, ↓oNe_bl, decide_eq_true_eq, Bool.false_eq_true, ↓u_while, ↓ownAt, List.all_cons, List.all_nil, Bool.and_true, List.getD_cons_zero, List.getD_cons_succ, Bool.not_false, ↓oLe_sign, ↓oMulS, ↓dDic, ↓dLock, ↓dGetS, ↓dStD, ↓dInS, ↓oInD, ↓dKeys, ↓dGet1, ↓dGet2, ↓dRev, ↓dMulL, ↓dCount, ↓dScrSl, ↓dScrLen, ↓dScrList, ↓oStrI]
  refine ⟨rfl, onF d rfl hd ?_⟩
  cases hd <;> simp only [isIntD, ↓dSeq, ↓dNext, ↓dBreak, ↓dCont, ↓dNever, ↓dRet, ↓dRetN, ↓dDrop, ↓dSet, ↓dIf, ↓dAug, ↓dAsg, ↓dPar, ↓dVar, ↓dMove, ↓dC, ↓dFz, ↓dUp, ↓dNil, ↓dCons, ↓dTup, ↓dLst, ↓dBin, ↓dUn, ↓dChain, ↓dTest, ↓dAnd, ↓dOr, ↓dNot, ↓dAndV, ↓dOrV, ↓dNotV, ↓dIfE, ↓dgName, ↓dgNil, ↓dgCons, ↓dgTup, ↓dIt, ↓dRng1, ↓dRng2, ↓dZip, ↓dEnum, ↓u_for, ↓u_lc, ↓dYes, ↓u_call, ↓u_callF, ↓u_callIo, ↓dCB, ↓dCBF, ↓dBinS, ↓dLenS, ↓dSl, ↓dSlS, ↓dNo, ↓dPt, ↓dStL, ↓dApp, ↓dExt, ↓dJoin, ↓dRg1, ↓dRg2, ↓dTupRg, ↓dLstRg, ↓oSub, ↓oMulI, ↓oMul, ↓oFdiv, ↓oMod, ↓oPow, ↓oShr, ↓oXor, ↓oNeg, ↓oAdd, ↓oAug, ↓oLt, ↓oLe, ↓oGt, ↓oGe, ↓oI, ↓oIx, ↓oLen, ↓oInt, ↓oOrd, ↓oAbs, ↓oStL, ↓oIn, ↓oNin, ↓oInB, ↓isi_int, ↓isi_int_bl, ↓isi_int_str, ↓isi_int_tup, ↓isi_int_lst, ↓isi_str, ↓isi_str_int, ↓isi_tup, ↓isi_tup_int, ↓isi_tup_str, ↓isi_tup_lst, ↓isi_lst, ↓isi_lst_tup, ↓isi_lst_int, ↓isi_lst_str, ↓cv, ↓Cell.val, ↓Cell.up, ↓Cell.own, ↓lenD, ↓itemsOf, List.getElem?_cons_zero, List.getElem?_cons_succ, List.set_cons_zero, List.set_cons_succ, Option.bind_some, Option.isSome_some, List.length_cons, List.length_nil, true_and, and_true, ↓ixN_lit, ↓atI_lit, ↓reduceIte, Nat.reduceAdd, Nat.reduceLT, Nat.reduceSub, Nat.zero_add, Nat.reduceLeDiff, Nat.lt_add_one, Nat.zero_lt_succ, ↓oEq_int, ↓oNe_int, ↓oEq_str, ↓oNe_str, ↓oEq_bl, ↓oNe_bl, decide_eq_true_eq, Bool.false_eq_true, ↓u_while, ↓ownAt, List.all_cons, List.all_nil, Bool.and_true, List.getD_cons_zero, List.getD_cons_succ, Bool.not_false, ↓oLe_sign, ↓oMulS, ↓dDic, ↓dLock, ↓dGetS, ↓dStD, ↓dInS, ↓oInD, ↓dKeys, ↓dGet1, ↓dGet2, ↓dRev, ↓dMulL, ↓dCount, ↓dScrSl, ↓dScrLen, ↓dScrList, ↓oStrI] <;> first | exact ⟨rfl, post _ _ ⟨rfl, rfl⟩⟩ | skip
  rename_i i
  by_cases h1 : lo ≤ i
  · by_cases h2 : i ≤ hi
    · simp only [h1, h2, decide_true, decide_false, ↓dSeq, ↓dNext, ↓dBreak, ↓dCont, ↓dNever, ↓dRet, ↓dRetN, ↓dDrop, ↓dSet, ↓dIf, ↓dAug, ↓dAsg, ↓dPar, ↓dVar, ↓dMove, ↓dC, ↓dFz, ↓dUp, ↓dNil, ↓dCons, ↓dTup, ↓dLst, ↓dBin, ↓dUn, ↓dChain, ↓dTest, ↓dAnd, ↓dOr, ↓dNot, ↓dAndV, ↓dOrV, ↓dNotV, ↓dIfE, ↓dgName, ↓dgNil, ↓dgCons, ↓dgTup, ↓dIt, ↓dRng1, ↓dRng2, ↓dZip, ↓dEnum, ↓u_for, ↓u_lc, ↓dYes, ↓u_call, ↓u_callF, ↓u_callIo, ↓dCB, ↓dCBF, ↓dBinS, ↓dLenS, ↓dSl, ↓dSlS, ↓dNo, ↓dPt, ↓dStL, ↓dApp, ↓dExt, ↓dJoin, ↓dRg1, ↓dRg2, ↓dTupRg, ↓dLstRg, ↓oSub, ↓oMulI, ↓oMul, ↓oFdiv, ↓oMod, ↓oPow, ↓oShr, ↓oXor, ↓oNeg, ↓oAdd, ↓oAug, ↓oLt, ↓oLe, ↓oGt, ↓oGe, ↓oI, ↓oIx, ↓oLen, ↓oInt, ↓oOrd, ↓oAbs, ↓oStL, ↓oIn, ↓oNin, ↓oInB, ↓isi_int, ↓isi_int_bl, ↓isi_int_str, ↓isi_int_tup, ↓isi_int_lst, ↓isi_str, ↓isi_str_int, ↓isi_tup, ↓isi_tup_int, ↓isi_tup_str, ↓isi_tup_lst, ↓isi_lst, ↓isi_lst_tup, ↓isi_lst_int, ↓isi_lst_str, ↓cv, ↓Cell.val, ↓Cell.up, ↓Cell.own, ↓lenD, ↓itemsOf, List.getElem?_cons_zero, List.getElem?_cons_succ, List.set_cons_zero, List.set_cons_succ, Option.bind_some, Option.isSome_some, List.length_cons, List.length_nil, true_and, and_true, ↓ixN_lit, ↓atI_lit, ↓reduceIte, Nat.reduceAdd, Nat.reduceLT, Nat.reduceSub, Nat.zero_add, Nat.reduceLeDiff, Nat.lt_add_one, Nat.zero_lt_succ, ↓oEq_int, ↓oNe_int, ↓oEq_str, ↓oNe_str, ↓oEq_bl, ↓oNe_bl, decide_eq_true_eq, Bool.false_eq_true, ↓u_while, ↓ownAt, List.all_cons, List.all_nil, Bool.and_true, List.getD_cons_zero, List.getD_cons_succ, Bool.not_false, ↓oLe_sign, ↓oMulS, ↓dDic, ↓dLock, ↓dGetS, ↓dStD, ↓dInS, ↓oInD, ↓dKeys, ↓dGet1, ↓dGet2, ↓dRev, ↓dMulL, ↓dCount, ↓dScrSl, ↓dScrLen, ↓dScrList, ↓oStrI]
      exact ⟨rfl, post _ _ ⟨by simp [inWD, h1, h2], rfl⟩⟩
    · simp only [h1, h2, decide_true, decide_false, ↓dSeq, ↓dNext, ↓dBreak, ↓dCont, ↓dNever, ↓dRet, ↓dRetN, ↓dDrop, ↓dSet, ↓dIf, ↓dAug, ↓dAsg, ↓dPar, ↓dVar, ↓dMove, ↓dC, ↓dFz, ↓dUp, ↓dNil, ↓dCons, ↓dTup, ↓dLst, ↓dBin, ↓dUn, ↓dChain, ↓dTest, ↓dAnd, ↓dOr, ↓dNot, ↓dAndV, ↓dOrV, ↓dNotV, ↓dIfE, ↓dgName, ↓dgNil, ↓dgCons, ↓dgTup, ↓dIt, ↓dRng1, ↓dRng2, ↓dZip, ↓dEnum, ↓u_for, ↓u_lc, ↓dYes, ↓u_call, ↓u_callF, ↓u_callIo, ↓dCB, ↓dCBF, ↓dBinS, ↓dLenS, ↓dSl, ↓dSlS, ↓dNo, ↓dPt, ↓dStL, ↓dApp, ↓dExt, ↓dJoin, ↓dRg1, ↓dRg2, ↓dTupRg, ↓dLstRg, ↓oSub, ↓oMulI, ↓oMul, ↓oFdiv, ↓oMod, ↓oPow, ↓oShr, ↓oXor, ↓oNeg, ↓oAdd, ↓oAug, ↓oLt, ↓oLe, ↓oGt, ↓oGe, ↓oI, ↓oIx, ↓oLen, ↓oInt, ↓oOrd, ↓oAbs, ↓oStL, ↓oIn, ↓oNin, ↓oInB, ↓isi_int, ↓isi_int_bl, ↓isi_int_str, ↓isi_int_tup, ↓isi_int_lst, ↓isi_str, ↓isi_str_int, ↓isi_tup, ↓isi_tup_int, ↓isi_tup_str, ↓isi_tup_lst, ↓isi_lst, ↓isi_lst_tup, ↓isi_lst_int, ↓isi_lst_str, ↓cv, ↓Cell.val, ↓Cell.up, ↓Cell.own, ↓lenD, ↓itemsOf, List.getElem?_cons_zero, List.getElem?_cons_succ, List.set_cons_zero, List.set_cons_succ, Option.bind_some, Option.isSome_some, List.length_cons, List.length_nil, true_and, and_true, ↓ixN_lit, ↓atI_lit, ↓reduceIte, Nat.reduceAdd, Nat.reduceLT, Nat.reduceSub, Nat.zero_add, Nat.reduceLeDiff, Nat.lt_add_one, Nat.zero_lt_succ, ↓oEq_int, ↓oNe_int, ↓oEq_str, ↓oNe_str, ↓oEq_bl, ↓oNe_bl, decide_eq_true_eq, Bool.false_eq_true, ↓u_while, ↓ownAt, List.all_cons, List.all_nil, Bool.and_true, List.getD_cons_zero, List.getD_cons_succ, Bool.not_false, ↓oLe_sign, ↓oMulS, ↓dDic, ↓dLock, ↓dGetS, ↓dStD, ↓dInS, ↓oInD, ↓dKeys, ↓dGet1, ↓dGet2, ↓dRev, ↓dMulL, ↓dCount, ↓dScrSl, ↓dScrLen, ↓dScrList, ↓oStrI]
      exact ⟨rfl, post _ _ ⟨by simp [inWD, h1, h2], rfl⟩⟩
  · simp only [h1, decide_true, decide_false, ↓dSeq, ↓dNext, ↓dBreak, ↓dCont, ↓dNever, ↓dRet, ↓dRetN, ↓dDrop, ↓dSet, ↓dIf, ↓dAug, ↓dAsg, ↓dPar, ↓dVar, ↓dMove, ↓dC, ↓dFz, ↓dUp, ↓dNil, ↓dCons, ↓dTup, ↓dLst, ↓dBin, ↓dUn, ↓dChain, ↓dTest, ↓dAnd, ↓dOr, ↓dNot, ↓dAndV, ↓dOrV, ↓dNotV, ↓dIfE, ↓dgName, ↓dgNil, ↓dgCons, ↓dgTup, ↓dIt, ↓dRng1, ↓dRng2, ↓dZip, ↓dEnum, ↓u_for, ↓u_lc, ↓dYes, ↓u_call, ↓u_callF, ↓u_callIo, ↓dCB, ↓dCBF, ↓dBinS, ↓dLenS, ↓dSl, ↓dSlS, ↓dNo, ↓dPt, ↓dStL, ↓dApp, ↓dExt, ↓dJoin, ↓dRg1, ↓dRg2, ↓dTupRg, ↓dLstRg, ↓oSub, ↓oMulI, ↓oMul, ↓oFdiv, ↓oMod, ↓oPow, ↓oShr, ↓oXor, ↓oNeg, ↓oAdd, ↓oAug, ↓oLt, ↓oLe, ↓oGt, ↓oGe, ↓oI, ↓oIx, ↓oLen, ↓oInt, ↓oOrd, ↓oAbs, ↓oStL, ↓oIn, ↓oNin, ↓oInB, ↓isi_int, ↓isi_int_bl, ↓isi_int_str, ↓isi_int_tup, ↓isi_int_lst, ↓isi_str, ↓isi_str_int, ↓isi_tup, ↓isi_tup_int, ↓isi_tup_str, ↓isi_tup_lst, ↓isi_lst, ↓isi_lst_tup, ↓isi_lst_int, ↓isi_lst_str, ↓cv, ↓Cell.val, ↓Cell.up, ↓Cell.own, ↓lenD, ↓itemsOf, List.getElem?_cons_zero, List.getElem?_cons_succ, List.set_cons_zero, List.set_cons_succ, Option.bind_some, Option.isSome_some, List.length_cons, List.length_nil, true_and, and_true, ↓ixN_lit, ↓atI_lit, ↓reduceIte, Nat.reduceAdd, Nat.reduceLT, Nat.reduceSub, Nat.zero_add, Nat.reduceLeDiff, Nat.lt_add_one, Nat.zero_lt_succ, ↓oEq_int, ↓oNe_int, ↓oEq_str, ↓oNe_str, ↓oEq_bl, ↓oNe_bl, decide_eq_true_eq, Bool.false_eq_true, ↓u_while, ↓ownAt, List.all_cons, List.all_nil, Bool.and_true, List.getD_cons_zero, List.getD_cons_succ, Bool.not_false, ↓oLe_sign, ↓oMulS, ↓dDic, ↓dLock, ↓dGetS, ↓dStD, ↓dInS, ↓oInD, ↓dKeys, ↓dGet1, ↓dGet2, ↓dRev, ↓dMulL, ↓dCount, ↓dScrSl, ↓dScrLen, ↓dScrList, ↓oStrI]
    exact ⟨rfl, post _ _ ⟨by simp [inWD, h1], rfl⟩⟩
def S_is_below : FnSpec := fnSpec 2 false (fun x : D × Int => [x.1, .int x.2]) (fun x => Knd x.1) fun x => .bl (inWD x.1 0 (x.2 - 1))
/-- is_below: slots 0 thing, 1 many -/
def D_is_below : DTS := (dRet (dUp (dCall S_is_within (dCons (dVar 0) (dCons (dC (.int 0)) (dCons (dBin oSub (dVar 1) (dC (.int 1))) dNil))))))
theorem sem_is_below : ∀ ds Kd, S_is_below.ds ds Kd → D_is_below (endsOf S_is_below Kd) (env0 2 [false, false] ds) := by
  rintro ds Kd ⟨⟨d, n⟩, rfl, hd, post⟩
  show D_is_below (endsOf S_is_below Kd) [.fz d, .fz (.int n)]
  simp only [↓D_is_below, ↓dSeq, ↓dNext, ↓dBreak, ↓dCont, ↓dNever, ↓dRet, ↓dRetN, ↓dDrop, ↓dSet, ↓dIf, ↓dAug, ↓dAsg, ↓dPar, ↓dVar, ↓dMove, ↓dC, ↓dFz, ↓dUp, ↓dNil, ↓dCons, ↓dTup, ↓dLst, ↓dBin, ↓dUn, ↓dChain, ↓dTest, ↓dAnd, ↓dOr, ↓dNot, ↓dAndV, ↓dOrV, ↓dNotV, ↓dIfE, ↓dgName, ↓dgNil, ↓dgCons, ↓dgTup, ↓dIt, ↓dRng1, ↓dRng2, ↓dZip, ↓dEnum, ↓u_for, ↓u_lc, ↓dYes, ↓u_call, ↓u_callF, ↓u_callIo, ↓dCB, ↓dCBF, ↓dBinS, ↓dLenS, ↓dSl, ↓dSlS, ↓dNo, ↓dPt, ↓dStL, ↓dApp, ↓dExt, ↓dJoin, ↓dRg1, ↓dRg2, ↓dTupRg, ↓dLstRg, ↓oSub, ↓oMulI, ↓oMul, ↓oFdiv, ↓oMod, ↓oPow, ↓oShr, ↓oXor, ↓oNeg, ↓oAdd, ↓oAug, ↓oLt, ↓oLe, ↓oGt, ↓oGe, ↓oI, ↓oIx, ↓oLen, ↓oInt, ↓oOrd, ↓oAbs, ↓oStL, ↓oIn, ↓oNin, ↓oInB, ↓isi_int, ↓isi_int_bl, ↓isi_int_str, ↓isi_int_tup, ↓isi_int_lst, ↓isi_str, ↓isi_str_int, ↓isi_tup, ↓isi_tup_int, ↓isi_tup_str, ↓isi_tup_lst, ↓isi_lst, ↓isi_lst_tup, ↓isi_lst_int, ↓isi_lst_str, ↓cv, ↓Cell.val, ↓Cell.up, ↓Cell.own, ↓lenD, ↓itemsOf, List.getElem?_cons_zero, List.getElem?_cons_succ, List.set_cons_zero, List.set_cons_succ, Option.bind_some, Option.isSome_some, List.length_cons, List.length_nil, true_and, and_true, ↓ixN_lit, ↓atI_lit, ↓reduceIte, Nat.reduceAdd, Nat.reduceLT, Nat.reduceSub, Nat.zero_add, Nat.reduceLeDiff, Nat.lt_add_one, Nat.zero_lt_succ, ↓oEq_int, ↓oNe_int, ↓oEq_str, ↓oNe_str, ↓oEq_bl, ↓oNe_bl, decide_eq_true_eq, Bool.false_eq_true, ↓u_while, ↓ownAt, List.all_cons, List.all_nil, Bool.and_true, List.getD_cons_zero, List.getD_cons_succ, Bool.not_false, ↓oLe_sign, ↓oMulS, ↓dDic, ↓dLock, ↓dGetS, ↓dStD, ↓dInS, ↓oInD, ↓dKeys, ↓dGet1, ↓dGet2, ↓dRev, ↓dMulL, ↓dCount, ↓dScrSl, ↓dScrLen, ↓dScrList, ↓oStrI]
  refine ⟨rfl, onF (d, 0, n - 1) rfl hd ?_⟩
  simp only [↓dSeq, ↓dNext, ↓dBreak, ↓dCont, ↓dNever, ↓dRet, ↓dRetN, ↓dDrop, ↓dSet, ↓dIf, ↓dAug, ↓dAsg, ↓dPar, ↓dVar, ↓dMove, ↓dC, ↓dFz, ↓dUp, ↓dNil, ↓dCons, ↓dTup, ↓dLst, ↓dBin, ↓dUn, ↓dChain, ↓dTest, ↓dAnd, ↓dOr, ↓dNot, ↓dAndV, ↓dOrV, ↓dNotV, ↓dIfE, ↓dgName, ↓dgNil, ↓dgCons, ↓dgTup, ↓dIt, ↓dRng1, ↓dRng2, ↓dZip, ↓dEnum, ↓u_for, ↓u_lc, ↓dYes, ↓u_call, ↓u_callF, ↓u_callIo, ↓dCB, ↓dCBF, ↓dBinS, ↓dLenS, ↓dSl, ↓dSlS, ↓dNo, ↓dPt, ↓dStL, ↓dApp, ↓dExt, ↓dJoin, ↓dRg1, ↓dRg2, ↓dTupRg, ↓dLstRg, ↓oSub, ↓oMulI, ↓oMul, ↓oFdiv, ↓oMod, ↓oPow, ↓oShr, ↓oXor, ↓oNeg, ↓oAdd, ↓oAug, ↓oLt, ↓oLe, ↓oGt, ↓oGe, ↓oI, ↓oIx, ↓oLen, ↓oInt, ↓oOrd, ↓oAbs, ↓oStL, ↓oIn, ↓oNin, ↓oInB, ↓isi_int, ↓isi_int_bl, ↓isi_int_str, ↓isi_int_tup, ↓isi_int_lst, ↓isi_str, ↓isi_str_int, ↓isi_tup, ↓isi_tup_int, ↓isi_tup_str, ↓isi_tup_lst, ↓isi_lst, ↓isi_lst_tup, ↓isi_lst_int, ↓isi_lst_str, ↓cv, ↓Cell.val, ↓Cell.up, ↓Cell.own, ↓lenD, ↓itemsOf, List.getElem?_cons_zero, List.getElem?_cons_succ, List.set_cons_zero, List.set_cons_succ, Option.bind_some, Option.isSome_some, List.length_cons, List.length_nil, true_and, and_true, ↓ixN_lit, ↓atI_lit, ↓reduceIte, Nat.reduceAdd, Nat.reduceLT, Nat.reduceSub, Nat.zero_add, Nat.reduceLeDiff, Nat.lt_add_one, Nat.zero_lt_succ, ↓oEq_int, ↓oNe_int, ↓oEq_str, ↓oNe_str, ↓oEq_bl, ↓oNe_bl, decide_eq_true_eq, Bool.false_eq_true, ↓u_while, ↓ownAt, List.all_cons, List.all_nil, Bool.and_true, List.getD_cons_zero, List.getD_cons_succ, Bool.not_false, ↓oLe_sign, ↓oMulS, ↓dDic, ↓dLock, ↓dGetS, ↓dStD, ↓dInS, ↓oInD, ↓dKeys, ↓dGet1, ↓dGet2, ↓dRev, ↓dMulL, ↓dCount, ↓dScrSl, ↓dScrLen, ↓dScrList, ↓oStrI]
  exact ⟨rfl, post _ _ ⟨rfl, rfl⟩⟩
def S__law_is_int : FnSpec := fnSpec 3 false (fun x : D × Int × Int => [x.1, .int x.2.1, .int x.2.2]) (fun x => Knd x.1) fun x => .bl (inWD x.1 x.2.1 x.2.2)
/-- _law_is_int: slots 0 _law_thing, 1 _law_least_here, 2 _law_most -/
def D__law_is_int : DTS := (dRet (dUp (dAndV (dUn (oIsi "int") (dVar 0)) (dAndV (dNotV (dUn (oIsi "bool") (dVar 0))) (dChain oLe oLe (dVar 1) (dVar 0) (dVar 2))))))
theorem sem__law_is_int : ∀ ds Kd, S__law_is_int.ds ds Kd → D__law_is_int (endsOf S__law_is_int Kd) (env0 3 [false, false, false] ds) := by
  rintro ds Kd ⟨⟨d, lo, hi⟩, rfl, hd, post⟩
  show D__law_is_int (endsOf S__law_is_int Kd) [.fz d, .fz (.int lo), .fz (.int hi)]
  cases hd <;> simp only [↓D__law_is_int, ↓dSeq, ↓dNext, ↓dBreak, ↓dCont, ↓dNever, ↓dRet, ↓dRetN, ↓dDrop, ↓dSet, ↓dIf, ↓dAug, ↓dAsg, ↓dPar, ↓dVar, ↓dMove, ↓dC, ↓dFz, ↓dUp, ↓dNil, ↓dCons, ↓dTup, ↓dLst, ↓dBin, ↓dUn, ↓dChain, ↓dTest, ↓dAnd, ↓dOr, ↓dNot, ↓dAndV, ↓dOrV, ↓dNotV, ↓dIfE, ↓dgName, ↓dgNil, ↓dgCons, ↓dgTup, ↓dIt, ↓dRng1, ↓dRng2, ↓dZip, ↓dEnum, ↓u_for, ↓u_lc, ↓dYes, ↓u_call, ↓u_callF, ↓u_callIo, ↓dCB, ↓dCBF, ↓dBinS, ↓dLenS, ↓dSl, ↓dSlS, ↓dNo, ↓dPt, ↓dStL, ↓dApp, ↓dExt, ↓dJoin, ↓dRg1, ↓dRg2, ↓dTupRg, ↓dLstRg, ↓oSub, ↓oMulI, ↓oMul, ↓oFdiv, ↓oMod, ↓oPow, ↓oShr, ↓oXor, ↓oNeg, ↓oAdd, ↓oAug, ↓oLt, ↓oLe, ↓oGt, ↓oGe, ↓oI, ↓oIx, ↓oLen, ↓oInt, ↓oOrd, ↓oAbs, ↓oStL, ↓oIn, ↓oNin, ↓oInB, ↓isi_int, ↓isi_int_bl, ↓isi_int_str, ↓isi_int_tup, ↓isi_int_lst, ↓isi_str, ↓isi_str_int, ↓isi_tup, ↓isi_tup_int, ↓isi_tup_str, ↓isi_tup_lst, ↓isi_lst, ↓isi_lst_tup, ↓isi_lst_int, ↓isi_lst_str, ↓cv, ↓Cell.val, ↓Cell.up, ↓Cell.own, ↓lenD, ↓itemsOf, List.getElem?_cons_zero, List.getElem?_cons_succ, List.set_cons_zero, List.set_cons_succ, Option.bind_some, Option.isSome_some, List.length_cons, List.length_nil, true_and, and_true, ↓ixN_lit, ↓atI_lit, ↓reduceIte, Nat.reduceAdd, Nat.reduceLT, Nat.reduceSub, Nat.zero_add, Nat.reduceLeDiff, Nat.lt_add_one, Nat.zero_lt_succ, ↓oEq_int, ↓oNe_int, ↓oEq_str, ↓oNe_str, ↓oEq_bl, ↓oNe_bl, decide_eq_true_eq, Bool.false_eq_true, ↓u_while, ↓ownAt, List.all_cons, List.all_nil, Bool.and_true, List.getD_cons_zero, List.getD_cons_succ, Bool.not_false, ↓oLe_sign, ↓oMulS, ↓dDic, ↓dLock, ↓dGetS, ↓dStD, ↓dInS, ↓oInD, ↓dKeys, ↓dGet1, ↓dGet2, ↓dRev, ↓dMulL, ↓dCount, ↓dScrSl, ↓dScrLen, ↓dScrList, ↓oStrI, oIsi, tyN, isiB] <;> first | exact ⟨rfl, post _ _ ⟨rfl, rfl⟩⟩ | skip
  rename_i i
  by_cases h1 : lo ≤ i
  · by_cases h2 : i ≤ hi
    · simp only [h1, h2, decide_true, decide_false, ↓dSeq, ↓dNext, ↓dBreak, ↓dCont, ↓dNever, ↓dRet, ↓dRetN, ↓dDrop, ↓dSet, ↓dIf, ↓dAug, ↓dAsg, ↓dPar, ↓dVar, ↓dMove, ↓dC, ↓dFz, ↓dUp, ↓dNil, ↓dCons, ↓dTup, ↓dLst, ↓dBin, ↓dUn, ↓dChain, ↓dTest, ↓dAnd, ↓dOr, ↓dNot, ↓dAndV, ↓dOrV, ↓dNotV, ↓dIfE, ↓dgName, ↓dgNil, ↓dgCons, ↓dgTup, ↓dIt, ↓dRng1, ↓dRng2, ↓dZip, ↓dEnum, ↓u_for, ↓u_lc, ↓dYes, ↓u_call, ↓u_callF, ↓u_callIo, ↓dCB, ↓dCBF, ↓dBinS, ↓dLenS, ↓dSl, ↓dSlS, ↓dNo, ↓dPt, ↓dStL, ↓dApp, ↓dExt, ↓dJoin, ↓dRg1, ↓dRg2, ↓dTupRg, ↓dLstRg, ↓oSub, ↓oMulI, ↓oMul, ↓oFdiv, ↓oMod, ↓oPow, ↓oShr, ↓oXor, ↓oNeg, ↓oAdd, ↓oAug, ↓oLt, ↓oLe, ↓oGt, ↓oGe, ↓oI, ↓oIx, ↓oLen, ↓oInt, ↓oOrd, ↓oAbs, ↓oStL, ↓oIn, ↓oNin, ↓oInB, ↓isi_int, ↓isi_int_bl, ↓isi_int_str, ↓isi_int_tup, ↓isi_int_lst, ↓isi_str, ↓isi_str_int, ↓isi_tup, ↓isi_tup_int, ↓isi_tup_str, ↓isi_tup_lst, ↓isi_lst, ↓isi_lst_tup, ↓isi_lst_int, ↓isi_lst_str, ↓cv, ↓Cell.val, ↓Cell.up, ↓Cell.own, ↓lenD, ↓itemsOf, List.getElem?_cons_zero, List.getElem?_cons_succ, List.set_cons_zero, List.set_cons_succ, Option.bind_some, Option.isSome_some, List.length_cons, List.length_nil, true_and, and_true, ↓ixN_lit, ↓atI_lit, ↓reduceIte, Nat.reduceAdd, Nat.reduceLT, Nat.reduceSub, Nat.zero_add, Nat.reduceLeDiff, Nat.lt_add_one, Nat.zero_lt_succ, ↓oEq_int, ↓oNe_int, ↓oEq_str, ↓oNe_str, ↓oEq_bl, ↓oNe_bl, decide_eq_true_eq, Bool.false_eq_true, ↓u_while, ↓ownAt, List.all_cons, List.all_nil, Bool.and_true, List.getD_cons_zero, List.getD_cons_succ, Bool.not_false, ↓oLe_sign, ↓oMulS, ↓dDic, ↓dLock, ↓dGetS, ↓dStD, ↓dInS, ↓oInD, ↓dKeys, ↓dGet1, ↓dGet2, ↓dRev, ↓dMulL, ↓dCount, ↓dScrSl, ↓dScrLen, ↓dScrList, ↓oStrI]
      exact ⟨rfl, post _ _ ⟨by simp [inWD, h1, h2], rfl⟩⟩
    · simp only [h1, h2, decide_true, decide_false, ↓dSeq, ↓dNext, ↓dBreak, ↓dCont, ↓dNever, ↓dRet, ↓dRetN, ↓dDrop, ↓dSet, ↓dIf, ↓dAug, ↓dAsg, ↓dPar, ↓dVar, ↓dMove, ↓dC, ↓dFz, ↓dUp, ↓dNil, ↓dCons, ↓dTup, ↓dLst, ↓dBin, ↓dUn, ↓dChain, ↓dTest, ↓dAnd, ↓dOr, ↓dNot, ↓dAndV, ↓dOrV, ↓dNotV, ↓dIfE, ↓dgName, ↓dgNil, ↓dgCons, ↓dgTup, ↓dIt, ↓dRng1, ↓dRng2, ↓dZip, ↓dEnum, ↓u_for, ↓u_lc, ↓dYes, ↓u_call, ↓u_callF, ↓u_callIo, ↓dCB, ↓dCBF, ↓dBinS, ↓dLenS, ↓dSl, ↓dSlS, ↓dNo, ↓dPt, ↓dStL, ↓dApp, ↓dExt, ↓dJoin, ↓dRg1, ↓dRg2, ↓dTupRg, ↓dLstRg, ↓oSub, ↓oMulI, ↓oMul, ↓oFdiv, ↓oMod, ↓oPow, ↓oShr, ↓oXor, ↓oNeg, ↓oAdd, ↓oAug, ↓oLt, ↓oLe, ↓oGt, ↓oGe, ↓oI, ↓oIx, ↓oLen, ↓oInt, ↓oOrd, ↓oAbs, ↓oStL, ↓oIn, ↓oNin, ↓oInB, ↓isi_int, ↓isi_int_bl, ↓isi_int_str, ↓isi_int_tup, ↓isi_int_lst, ↓isi_str, ↓isi_str_int, ↓isi_tup, ↓isi_tup_int, ↓isi_tup_str, ↓isi_tup_lst, ↓isi_lst, ↓isi_lst_tup, ↓isi_lst_int, ↓isi_lst_str, ↓cv, ↓Cell.val, ↓Cell.up, ↓Cell.own, ↓lenD, ↓itemsOf, List.getElem?_cons_zero, List.getElem?_cons_succ, List.set_cons_zero, List.set_cons_succ, Option.bind_some, Option.isSome_some, List.length_cons, List.length_nil, true_and, and_true, ↓ixN_lit, ↓atI_lit, ↓reduceIte, Nat.reduceAdd, Nat.reduceLT, Nat.reduceSub, Nat.zero_add, Nat.reduceLeDiff, Nat.lt_add_one, Nat.zero_lt_succ, ↓oEq_int, ↓oNe_int, ↓oEq_str, ↓oNe_str, ↓oEq_bl, ↓oNe_bl, decide_eq_true_eq, Bool.false_eq_true, ↓u_while, ↓ownAt, List.all_cons, List.all_nil, Bool.and_true, List.getD_cons_zero, List.getD_cons_succ, Bool.not_false, ↓oLe_sign, ↓oMulS, ↓dDic, ↓dLock, ↓dGetS, ↓dStD, ↓dInS, ↓oInD, ↓dKeys, ↓dGet1, ↓dGet2, ↓dRev, ↓dMulL, ↓dCount, ↓dScrSl, ↓dScrLen, ↓dScrList, ↓oStrI]
      exact ⟨rfl, post _ _ ⟨by simp [inWD, h1, h2], rfl⟩⟩
  · simp only [h1, decide_true, decide_false, ↓dSeq, ↓dNext, ↓dBreak, ↓dCont, ↓dNever, ↓dRet, ↓dRetN, ↓dDrop, ↓dSet, ↓dIf, ↓dAug, ↓dAsg, ↓dPar, ↓dVar, ↓dMove, ↓dC, ↓dFz, ↓dUp, ↓dNil, ↓dCons, ↓dTup, ↓dLst, ↓dBin, ↓dUn, ↓dChain, ↓dTest, ↓dAnd, ↓dOr, ↓dNot, ↓dAndV, ↓dOrV, ↓dNotV, ↓dIfE, ↓dgName, ↓dgNil, ↓dgCons, ↓dgTup, ↓dIt, ↓dRng1, ↓dRng2, ↓dZip, ↓dEnum, ↓u_for, ↓u_lc, ↓dYes, ↓u_call, ↓u_callF, ↓u_callIo, ↓dCB, ↓dCBF, ↓dBinS, ↓dLenS, ↓dSl, ↓dSlS, ↓dNo, ↓dPt, ↓dStL, ↓dApp, ↓dExt, ↓dJoin, ↓dRg1, ↓dRg2, ↓dTupRg, ↓dLstRg, ↓oSub, ↓oMulI, ↓oMul, ↓oFdiv, ↓oMod, ↓oPow, ↓oShr, ↓oXor, ↓oNeg, ↓oAdd, ↓oAug, ↓oLt, ↓oLe, ↓oGt, ↓oGe, ↓oI, ↓oIx, ↓oLen, ↓oInt, ↓oOrd, ↓oAbs, ↓oStL, ↓oIn, ↓oNin, ↓oInB, ↓isi_int, ↓isi_int_bl, ↓isi_int_str, ↓isi_int_tup, ↓isi_int_lst, ↓isi_str, ↓isi_str_int, ↓isi_tup, ↓isi_tup_int, ↓isi_tup_str, ↓isi_tup_lst, ↓isi_lst, ↓isi_lst_tup, ↓isi_lst_int, ↓isi_lst_str, ↓cv, ↓Cell.val, ↓Cell.up, ↓Cell.own, ↓lenD, ↓itemsOf, List.getElem?_cons_zero, List.getElem?_cons_succ, List.set_cons_zero, List.set_cons_succ, Option.bind_some, Option.isSome_some, List.length_cons, List.length_nil, true_and, and_true, ↓ixN_lit, ↓atI_lit, ↓reduceIte, Nat.reduceAdd, Nat.reduceLT, Nat.reduceSub, Nat.zero_add, Nat.reduceLeDiff, Nat.lt_add_one, Nat.zero_lt_succ, ↓oEq_int, ↓oNe_int, ↓oEq_str, ↓oNe_str, ↓oEq_bl, ↓oNe_bl, decide_eq_true_eq, Bool.false_eq_true, ↓u_while, ↓ownAt, List.all_cons, List.all_nil, Bool.and_true, List.getD_cons_zero, List.getD_cons_succ, Bool.not_false, ↓oLe_sign, ↓oMulS, ↓dDic, ↓dLock, ↓dGetS, ↓dStD, ↓dInS, ↓oInD, ↓dKeys, ↓dGet1, ↓dGet2, ↓dRev, ↓dMulL, ↓dCount, ↓dScrSl, ↓dScrLen, ↓dScrList, ↓oStrI]
    exact ⟨rfl, post _ _ ⟨by simp [inWD, h1], rfl⟩⟩
def S__law_is_flag : FnSpec := fnSpec 2 false (fun x : Bool × Bool => [.bl x.1, .bl x.2]) (fun _ => True) fun x => .bl (x.1 == x.2)
/-- _law_is_flag: slots 0 _law_told, 1 _law_due -/
def D__law_is_flag : DTS := (dRet (dUp (dAndV (dUn (oIsi "bool") (dVar 0)) (dBin oEq (dVar 0) (dVar 1)))))
theorem sem__law_is_flag : ∀ ds Kd, S__law_is_flag.ds ds Kd → D__law_is_flag (endsOf S__law_is_flag Kd) (env0 2 [false, false] ds) := by
  rintro ds Kd ⟨⟨a, b⟩, rfl, -, post⟩
  show D__law_is_flag (endsOf S__law_is_flag Kd) [.fz (.bl a), .fz (.bl b)]
  simp only [↓D__law_is_flag, ↓dSeq, ↓dNext, ↓dBreak, ↓dCont, ↓dNever, ↓dRet, ↓dRetN, ↓dDrop, ↓dSet, ↓dIf, ↓dAug, ↓dAsg, ↓dPar, ↓dVar, ↓dMove, ↓dC, ↓dFz, ↓dUp, ↓dNil, ↓dCons, ↓dTup, ↓dLst, ↓dBin, ↓dUn, ↓dChain, ↓dTest, ↓dAnd, ↓dOr, ↓dNot, ↓dAndV, ↓dOrV, ↓dNotV, ↓dIfE, ↓dgName, ↓dgNil, ↓dgCons, ↓dgTup, ↓dIt, ↓dRng1, ↓dRng2, ↓dZip, ↓dEnum, ↓u_for, ↓u_lc, ↓dYes, ↓u_call, ↓u_callF, ↓u_callIo, ↓dCB, ↓dCBF, ↓dBinS, ↓dLenS, ↓dSl, ↓dSlS, ↓dNo, ↓dPt, ↓dStL, ↓dApp, ↓dExt, ↓dJoin, ↓dRg1, ↓dRg2, ↓dTupRg, ↓dLstRg, ↓oSub, ↓oMulI, ↓oMul, ↓oFdiv, ↓oMod, ↓oPow, ↓oShr, ↓oXor, ↓oNeg, ↓oAdd, ↓oAug, ↓oLt, ↓oLe, ↓oGt, ↓oGe, ↓oI, ↓oIx, ↓oLen, ↓oInt, ↓oOrd, ↓oAbs, ↓oStL, ↓oIn, ↓oNin, ↓oInB, ↓isi_int, ↓isi_int_bl, ↓isi_int_str, ↓isi_int_tup, ↓isi_int_lst, ↓isi_str, ↓isi_str_int, ↓isi_tup, ↓isi_tup_int, ↓isi_tup_str, ↓isi_tup_lst, ↓isi_lst, ↓isi_lst_tup, ↓isi_lst_int, ↓isi_lst_str, ↓cv, ↓Cell.val, ↓Cell.up, ↓Cell.own, ↓lenD, ↓itemsOf, List.getElem?_cons_zero, List.getElem?_cons_succ, List.set_cons_zero, List.set_cons_succ, Option.bind_some, Option.isSome_some, List.length_cons, List.length_nil, true_and, and_true, ↓ixN_lit, ↓atI_lit, ↓reduceIte, Nat.reduceAdd, Nat.reduceLT, Nat.reduceSub, Nat.zero_add, Nat.reduceLeDiff, Nat.lt_add_one, Nat.zero_lt_succ, ↓oEq_int, ↓oNe_int, ↓oEq_str, ↓oNe_str, ↓oEq_bl, ↓oNe_bl, decide_eq_true_eq, Bool.false_eq_true, ↓u_while, ↓ownAt, List.all_cons, List.all_nil, Bool.and_true, List.getD_cons_zero, List.getD_cons_succ, Bool.not_false, ↓oLe_sign, ↓oMulS, ↓dDic, ↓dLock, ↓dGetS, ↓dStD, ↓dInS, ↓oInD, ↓dKeys, ↓dGet1, ↓dGet2, ↓dRev, ↓dMulL, ↓dCount, ↓dScrSl, ↓dScrLen, ↓dScrList, ↓oStrI, oIsi, tyN, isiB]
  exact ⟨rfl, post _ _ ⟨rfl, rfl⟩⟩
def S_is_sized : FnSpec := fnSpec 3 false (fun x : D × Int × Int => [x.1, .int x.2.1, .int x.2.2]) (fun x => Knd x.1) fun x => .bl (szD x.1 x.2.1 x.2.2)
/-- is_sized: slots 0 thing, 1 least, 2 most -/
def D_is_sized : DTS := (dRet (dUp (dAndV (dUn (oIsi "tuple") (dVar 0)) (dChain oLe oLe (dVar 1) (dLenS 0) (dVar 2)))))
theorem sem_is_sized : ∀ ds Kd, S_is_sized.ds ds Kd → D_is_sized (endsOf S_is_sized Kd) (env0 3 [false, false, false] ds) := by
  rintro ds Kd ⟨⟨d, lo, hi⟩, rfl, hd, post⟩
  show D_is_sized (endsOf S_is_sized Kd) [.fz d, .fz (.int lo), .fz (.int hi)]
  cases hd <;> simp only [↓D_is_sized, ↓dSeq, ↓dNext, ↓dBreak, ↓dCont, ↓dNever, ↓dRet, ↓dRetN, ↓dDrop, ↓dSet, ↓dIf, ↓dAug, ↓dAsg, ↓dPar, ↓dVar, ↓dMove, ↓dC, ↓dFz, ↓dUp, ↓dNil, ↓dCons, ↓dTup, ↓dLst, ↓dBin, ↓dUn, ↓dChain, ↓dTest, ↓dAnd, ↓dOr, ↓dNot, ↓dAndV, ↓dOrV, ↓dNotV, ↓dIfE, ↓dgName, ↓dgNil, ↓dgCons, ↓dgTup, ↓dIt, ↓dRng1, ↓dRng2, ↓dZip, ↓dEnum, ↓u_for, ↓u_lc, ↓dYes, ↓u_call, ↓u_callF, ↓u_callIo, ↓dCB, ↓dCBF, ↓dBinS, ↓dLenS, ↓dSl, ↓dSlS, ↓dNo, ↓dPt, ↓dStL, ↓dApp, ↓dExt, ↓dJoin, ↓dRg1, ↓dRg2, ↓dTupRg, ↓dLstRg, ↓oSub, ↓oMulI, ↓oMul, ↓oFdiv, ↓oMod, ↓oPow, ↓oShr, ↓oXor, ↓oNeg, ↓oAdd, ↓oAug, ↓oLt, ↓oLe, ↓oGt, ↓oGe, ↓oI, ↓oIx, ↓oLen, ↓oInt, ↓oOrd, ↓oAbs, ↓oStL, ↓oIn, ↓oNin, ↓oInB, ↓isi_int, ↓isi_int_bl, ↓isi_int_str, ↓isi_int_tup, ↓isi_int_lst, ↓isi_str, ↓isi_str_int, ↓isi_tup, ↓isi_tup_int, ↓isi_tup_str, ↓isi_tup_lst, ↓isi_lst, ↓isi_lst_tup, ↓isi_lst_int, ↓isi_lst_str, ↓cv, ↓Cell.val, ↓Cell.up, ↓Cell.own, ↓lenD, ↓itemsOf, List.getElem?_cons_zero, List.getElem?_cons_succ, List.set_cons_zero, List.set_cons_succ, Option.bind_some, Option.isSome_some, List.length_cons, List.length_nil, true_and, and_true, ↓ixN_lit, ↓atI_lit, ↓reduceIte, Nat.reduceAdd, Nat.reduceLT, Nat.reduceSub, Nat.zero_add, Nat.reduceLeDiff, Nat.lt_add_one, Nat.zero_lt_succ, ↓oEq_int, ↓oNe_int, ↓oEq_str, ↓oNe_str, ↓oEq_bl, ↓oNe_bl, decide_eq_true_eq, Bool.false_eq_true, ↓u_while, ↓ownAt, List.all_cons, List.all_nil, Bool.and_true, List.getD_cons_zero, List.getD_cons_succ, Bool.not_false, ↓oLe_sign, ↓oMulS, ↓dDic, ↓dLock, ↓dGetS, ↓dStD, ↓dInS, ↓oInD, ↓dKeys, ↓dGet1, ↓dGet2, ↓dRev, ↓dMulL, ↓dCount, ↓dScrSl, ↓dScrLen, ↓dScrList, ↓oStrI, oIsi, tyN, isiB] <;> first | exact ⟨rfl, post _ _ ⟨rfl, rfl⟩⟩ | skip
  rename_i l
  by_cases h1 : lo ≤ (l.length : Int)
  · by_cases h2 : (l.length : Int) ≤ hi
    · simp only [h1, h2, decide_true, decide_false, ↓dSeq, ↓dNext, ↓dBreak, ↓dCont, ↓dNever, ↓dRet, ↓dRetN, ↓dDrop, ↓dSet, ↓dIf, ↓dAug, ↓dAsg, ↓dPar, ↓dVar, ↓dMove, ↓dC, ↓dFz, ↓dUp, ↓dNil, ↓dCons, ↓dTup, ↓dLst, ↓dBin, ↓dUn, ↓dChain, ↓dTest, ↓dAnd, ↓dOr, ↓dNot, ↓dAndV, ↓dOrV, ↓dNotV, ↓dIfE, ↓dgName, ↓dgNil, ↓dgCons, ↓dgTup, ↓dIt, ↓dRng1, ↓dRng2, ↓dZip, ↓dEnum, ↓u_for, ↓u_lc, ↓dYes, ↓u_call, ↓u_callF, ↓u_callIo, ↓dCB, ↓dCBF, ↓dBinS, ↓dLenS, ↓dSl, ↓dSlS, ↓dNo, ↓dPt, ↓dStL, ↓dApp, ↓dExt, ↓dJoin, ↓dRg1, ↓dRg2, ↓dTupRg, ↓dLstRg, ↓oSub, ↓oMulI, ↓oMul, ↓oFdiv, ↓oMod, ↓oPow, ↓oShr, ↓oXor, ↓oNeg, ↓oAdd, ↓oAug, ↓oLt, ↓oLe, ↓oGt, ↓oGe, ↓oI, ↓oIx, ↓oLen, ↓oInt, ↓oOrd, ↓oAbs, ↓oStL, ↓oIn, ↓oNin, ↓oInB, ↓isi_int, ↓isi_int_bl, ↓isi_int_str, ↓isi_int_tup, ↓isi_int_lst, ↓isi_str, ↓isi_str_int, ↓isi_tup, ↓isi_tup_int, ↓isi_tup_str, ↓isi_tup_lst, ↓isi_lst, ↓isi_lst_tup, ↓isi_lst_int, ↓isi_lst_str, ↓cv, ↓Cell.val, ↓Cell.up, ↓Cell.own, ↓lenD, ↓itemsOf, List.getElem?_cons_zero, List.getElem?_cons_succ, List.set_cons_zero, List.set_cons_succ, Option.bind_some, Option.isSome_some, List.length_cons, List.length_nil, true_and, and_true, ↓ixN_lit, ↓atI_lit, ↓reduceIte, Nat.reduceAdd, Nat.reduceLT, Nat.reduceSub, Nat.zero_add, Nat.reduceLeDiff, Nat.lt_add_one, Nat.zero_lt_succ, ↓oEq_int, ↓oNe_int, ↓oEq_str, ↓oNe_str, ↓oEq_bl, ↓oNe_bl, decide_eq_true_eq, Bool.false_eq_true, ↓u_while, ↓ownAt, List.all_cons, List.all_nil, Bool.and_true, List.getD_cons_zero, List.getD_cons_succ, Bool.not_false, ↓oLe_sign, ↓oMulS, ↓dDic, ↓dLock, ↓dGetS, ↓dStD, ↓dInS, ↓oInD, ↓dKeys, ↓dGet1, ↓dGet2, ↓dRev, ↓dMulL, ↓dCount, ↓dScrSl, ↓dScrLen, ↓dScrList, ↓oStrI]
      exact ⟨rfl, post _ _ ⟨by simp [szD, h1, h2], rfl⟩⟩
    · simp only [h1, h2, decide_true, decide_false, ↓dSeq, ↓dNext, ↓dBreak, ↓dCont, ↓dNever, ↓dRet, ↓dRetN, ↓dDrop, ↓dSet, ↓dIf, ↓dAug, ↓dAsg, ↓dPar, ↓dVar, ↓dMove, ↓dC, ↓dFz, ↓dUp, ↓dNil, ↓dCons, ↓dTup, ↓dLst, ↓dBin, ↓dUn, ↓dChain, ↓dTest, ↓dAnd, ↓dOr, ↓dNot, ↓dAndV, ↓dOrV, ↓dNotV, ↓dIfE, ↓dgName, ↓dgNil, ↓dgCons, ↓dgTup, ↓dIt, ↓dRng1, ↓dRng2, ↓dZip, ↓dEnum, ↓u_for, ↓u_lc, ↓dYes, ↓u_call, ↓u_callF, ↓u_callIo, ↓dCB, ↓dCBF, ↓dBinS, ↓dLenS, ↓dSl, ↓dSlS, ↓dNo, ↓dPt, ↓dStL, ↓dApp, ↓dExt, ↓dJoin, ↓dRg1, ↓dRg2, ↓dTupRg, ↓dLstRg, ↓oSub, ↓oMulI, ↓oMul, ↓oFdiv, ↓oMod, ↓oPow, ↓oShr, ↓oXor, ↓oNeg, ↓oAdd, ↓oAug, ↓oLt, ↓oLe, ↓oGt, ↓oGe, ↓oI, ↓oIx, ↓oLen, ↓oInt, ↓oOrd, ↓oAbs, ↓oStL, ↓oIn, ↓oNin, ↓oInB, ↓isi_int, ↓isi_int_bl, ↓isi_int_str, ↓isi_int_tup, ↓isi_int_lst, ↓isi_str, ↓isi_str_int, ↓isi_tup, ↓isi_tup_int, ↓isi_tup_str, ↓isi_tup_lst, ↓isi_lst, ↓isi_lst_tup, ↓isi_lst_int, ↓isi_lst_str, ↓cv, ↓Cell.val, ↓Cell.up, ↓Cell.own, ↓lenD, ↓itemsOf, List.getElem?_cons_zero, List.getElem?_cons_succ, List.set_cons_zero, List.set_cons_succ, Option.bind_some, Option.isSome_some, List.length_cons, List.length_nil, true_and, and_true, ↓ixN_lit, ↓atI_lit, ↓reduceIte, Nat.reduceAdd, Nat.reduceLT, Nat.reduceSub, Nat.zero_add, Nat.reduceLeDiff, Nat.lt_add_one, Nat.zero_lt_succ, ↓oEq_int, ↓oNe_int, ↓oEq_str, ↓oNe_str, ↓oEq_bl, ↓oNe_bl, decide_eq_true_eq, Bool.false_eq_true, ↓u_while, ↓ownAt, List.all_cons, List.all_nil, Bool.and_true, List.getD_cons_zero, List.getD_cons_succ, Bool.not_false, ↓oLe_sign, ↓oMulS, ↓dDic, ↓dLock, ↓dGetS, ↓dStD, ↓dInS, ↓oInD, ↓dKeys, ↓dGet1, ↓dGet2, ↓dRev, ↓dMulL, ↓dCount, ↓dScrSl, ↓dScrLen, ↓dScrList, ↓oStrI]
      exact ⟨rfl, post _ _ ⟨by simp [szD, h1, h2], rfl⟩⟩
  · simp only [h1, decide_true, decide_false, ↓dSeq, ↓dNext, ↓dBreak, ↓dCont, ↓dNever, ↓dRet, ↓dRetN, ↓dDrop, ↓dSet, ↓dIf, ↓dAug, ↓dAsg, ↓dPar, ↓dVar, ↓dMove, ↓dC, ↓dFz, ↓dUp, ↓dNil, ↓dCons, ↓dTup, ↓dLst, ↓dBin, ↓dUn, ↓dChain, ↓dTest, ↓dAnd, ↓dOr, ↓dNot, ↓dAndV, ↓dOrV, ↓dNotV, ↓dIfE, ↓dgName, ↓dgNil, ↓dgCons, ↓dgTup, ↓dIt, ↓dRng1, ↓dRng2, ↓dZip, ↓dEnum, ↓u_for, ↓u_lc, ↓dYes, ↓u_call, ↓u_callF, ↓u_callIo, ↓dCB, ↓dCBF, ↓dBinS, ↓dLenS, ↓dSl, ↓dSlS, ↓dNo, ↓dPt, ↓dStL, ↓dApp, ↓dExt, ↓dJoin, ↓dRg1, ↓dRg2, ↓dTupRg, ↓dLstRg, ↓oSub, ↓oMulI, ↓oMul, ↓oFdiv, ↓oMod, ↓oPow, ↓oShr, ↓oXor, ↓oNeg, ↓oAdd, ↓oAug, ↓oLt, ↓oLe, ↓oGt, ↓oGe, ↓oI, ↓oIx, ↓oLen, ↓oInt, ↓oOrd, ↓oAbs, ↓oStL, ↓oIn, ↓oNin, ↓oInB, ↓isi_int, ↓isi_int_bl, ↓isi_int_str, ↓isi_int_tup, ↓isi_int_lst, ↓isi_str, ↓isi_str_int, ↓isi_tup, ↓isi_tup_int, ↓isi_tup_str, ↓isi_tup_lst, ↓isi_lst, ↓isi_lst_tup, ↓isi_lst_int, ↓isi_lst_str, ↓cv, ↓Cell.val, ↓Cell.up, ↓Cell.own, ↓lenD, ↓itemsOf, List.getElem?_cons_zero, List.getElem?_cons_succ, List.set_cons_zero, List.set_cons_succ, Option.bind_some, Option.isSome_some, List.length_cons, List.length_nil, true_and, and_true, ↓ixN_lit, ↓atI_lit, ↓reduceIte, Nat.reduceAdd, Nat.reduceLT, Nat.reduceSub, Nat.zero_add, Nat.reduceLeDiff, Nat.lt_add_one, Nat.zero_lt_succ, ↓oEq_int, ↓oNe_int, ↓oEq_str, ↓oNe_str, ↓oEq_bl, ↓oNe_bl, decide_eq_true_eq, Bool.false_eq_true, ↓u_while, ↓ownAt, List.all_cons, List.all_nil, Bool.and_true, List.getD_cons_zero, List.getD_cons_succ, Bool.not_false, ↓oLe_sign, ↓oMulS, ↓dDic, ↓dLock, ↓dGetS, ↓dStD, ↓dInS, ↓oInD, ↓dKeys, ↓dGet1, ↓dGet2, ↓dRev, ↓dMulL, ↓dCount, ↓dScrSl, ↓dScrLen, ↓dScrList, ↓oStrI]
    exact ⟨rfl, post _ _ ⟨by simp [szD, h1], rfl⟩⟩
/-! ### texts -/
def Signs (l : List Nat) : Prop := ∀ c ∈ l, 32 ≤ c ∧ c ≤ 126
def S_are_signs : FnSpec := fnSpec 1 false (fun l : List Nat => [.str l]) Signs fun _ => .bl true
/-- are_signs: slots 0 thing, 1 sign -/
def D_are_signs : DTS := (dRet (dUp (dAndV (dUn (oIsi "str") (dVar 0)) (dCB oAll (dCons (dFz (dLc (dIt (dVar 0)) (dgName 1) dYes (dChain oLe oLe (dC (.str [32])) (dVar 1) (dC (.str [126]))) [1])) dNil)))))
theorem sem_are_signs : ∀ ds Kd, S_are_signs.ds ds Kd → D_are_signs (endsOf S_are_signs Kd) (env0 2 [false] ds) := by
  rintro ds Kd ⟨l, rfl, hl, post⟩
  show D_are_signs (endsOf S_are_signs Kd) [.fz (.str l), .un]
  simp only [↓D_are_signs, ↓dSeq, ↓dNext, ↓dBreak, ↓dCont, ↓dNever, ↓dRet, ↓dRetN, ↓dDrop, ↓dSet, ↓dIf, ↓dAug, ↓dAsg, ↓dPar, ↓dVar, ↓dMove, ↓dC, ↓dFz, ↓dUp, ↓dNil, ↓dCons, ↓dTup, ↓dLst, ↓dBin, ↓dUn, ↓dChain, ↓dTest, ↓dAnd, ↓dOr, ↓dNot, ↓dAndV, ↓dOrV, ↓dNotV, ↓dIfE, ↓dgName, ↓dgNil, ↓dgCons, ↓dgTup, ↓dIt, ↓dRng1, ↓dRng2, ↓dZip, ↓dEnum, ↓u_for, ↓u_lc, ↓dYes, ↓u_call, ↓u_callF, ↓u_callIo, ↓dCB, ↓dCBF, ↓dBinS, ↓dLenS, ↓dSl, ↓dSlS, ↓dNo, ↓dPt, ↓dStL, ↓dApp, ↓dExt, ↓dJoin, ↓dRg1, ↓dRg2, ↓dTupRg, ↓dLstRg, ↓oSub, ↓oMulI, ↓oMul, ↓oFdiv, ↓oMod, ↓oPow, ↓oShr, ↓oXor, ↓oNeg, ↓oAdd, ↓oAug, ↓oLt, ↓oLe, ↓oGt, ↓oGe, ↓oI, ↓oIx, ↓oLen, ↓oInt, ↓oOrd, ↓oAbs, ↓oStL, ↓oIn, ↓oNin, ↓oInB, ↓isi_int, ↓isi_int_bl, ↓isi_int_str, ↓isi_int_tup, ↓isi_int_lst, ↓isi_str, ↓isi_str_int, ↓isi_tup, ↓isi_tup_int, ↓isi_tup_str, ↓isi_tup_lst, ↓isi_lst, ↓isi_lst_tup, ↓isi_lst_int, ↓isi_lst_str, ↓cv, ↓Cell.val, ↓Cell.up, ↓Cell.own, ↓lenD, ↓itemsOf, List.getElem?_cons_zero, List.getElem?_cons_succ, List.set_cons_zero, List.set_cons_succ, Option.bind_some, Option.isSome_some, List.length_cons, List.length_nil, true_and, and_true, ↓ixN_lit, ↓atI_lit, ↓reduceIte, Nat.reduceAdd, Nat.reduceLT, Nat.reduceSub, Nat.zero_add, Nat.reduceLeDiff, Nat.lt_add_one, Nat.zero_lt_succ, ↓oEq_int, ↓oNe_int, ↓oEq_str, ↓oNe_str, ↓oEq_bl, ↓oNe_bl, decide_eq_true_eq, Bool.false_eq_true, ↓u_while, ↓ownAt, List.all_cons, List.all_nil, Bool.and_true, List.getD_cons_zero, List.getD_cons_succ, Bool.not_false, ↓oLe_sign, ↓oMulS, ↓dDic, ↓dLock, ↓dGetS, ↓dStD, ↓dInS, ↓oInD, ↓dKeys, ↓dGet1, ↓dGet2, ↓dRev, ↓dMulL, ↓dCount, ↓dScrSl, ↓dScrLen, ↓dScrList, ↓oStrI]
  refine lcB_of (lcW_map _ (fun _ => .bl true) _ (fun x hx kT hT => ?_) fun ρ' hw => ?_)
  · obtain ⟨c, hc, rfl⟩ := List.mem_map.mp hx
    have hc2 := hl c hc
    simp only [wipeE, ↓dSeq, ↓dNext, ↓dBreak, ↓dCont, ↓dNever, ↓dRet, ↓dRetN, ↓dDrop, ↓dSet, ↓dIf, ↓dAug, ↓dAsg, ↓dPar, ↓dVar, ↓dMove, ↓dC, ↓dFz, ↓dUp, ↓dNil, ↓dCons, ↓dTup, ↓dLst, ↓dBin, ↓dUn, ↓dChain, ↓dTest, ↓dAnd, ↓dOr, ↓dNot, ↓dAndV, ↓dOrV, ↓dNotV, ↓dIfE, ↓dgName, ↓dgNil, ↓dgCons, ↓dgTup, ↓dIt, ↓dRng1, ↓dRng2, ↓dZip, ↓dEnum, ↓u_for, ↓u_lc, ↓dYes, ↓u_call, ↓u_callF, ↓u_callIo, ↓dCB, ↓dCBF, ↓dBinS, ↓dLenS, ↓dSl, ↓dSlS, ↓dNo, ↓dPt, ↓dStL, ↓dApp, ↓dExt, ↓dJoin, ↓dRg1, ↓dRg2, ↓dTupRg, ↓dLstRg, ↓oSub, ↓oMulI, ↓oMul, ↓oFdiv, ↓oMod, ↓oPow, ↓oShr, ↓oXor, ↓oNeg, ↓oAdd, ↓oAug, ↓oLt, ↓oLe, ↓oGt, ↓oGe, ↓oI, ↓oIx, ↓oLen, ↓oInt, ↓oOrd, ↓oAbs, ↓oStL, ↓oIn, ↓oNin, ↓oInB, ↓isi_int, ↓isi_int_bl, ↓isi_int_str, ↓isi_int_tup, ↓isi_int_lst, ↓isi_str, ↓isi_str_int, ↓isi_tup, ↓isi_tup_int, ↓isi_tup_str, ↓isi_tup_lst, ↓isi_lst, ↓isi_lst_tup, ↓isi_lst_int, ↓isi_lst_str, ↓cv, ↓Cell.val, ↓Cell.up, ↓Cell.own, ↓lenD, ↓itemsOf, List.getElem?_cons_zero, List.getElem?_cons_succ, List.set_cons_zero, List.set_cons_succ, Option.bind_some, Option.isSome_some, List.length_cons, List.length_nil, true_and, and_true, ↓ixN_lit, ↓atI_lit, ↓reduceIte, Nat.reduceAdd, Nat.reduceLT, Nat.reduceSub, Nat.zero_add, Nat.reduceLeDiff, Nat.lt_add_one, Nat.zero_lt_succ, ↓oEq_int, ↓oNe_int, ↓oEq_str, ↓oNe_str, ↓oEq_bl, ↓oNe_bl, decide_eq_true_eq, Bool.false_eq_true, ↓u_while, ↓ownAt, List.all_cons, List.all_nil, Bool.and_true, List.getD_cons_zero, List.getD_cons_succ, Bool.not_false, ↓oLe_sign, ↓oMulS, ↓dDic, ↓dLock, ↓dGetS, ↓dStD, ↓dInS, ↓oInD, ↓dKeys, ↓dGet1, ↓dGet2, ↓dRev, ↓dMulL, ↓dCount, ↓dScrSl, ↓dScrLen, ↓dScrList, ↓oStrI, hc2.1, hc2.2, decide_true]
    exact hT _ rfl
  · have e2 : boolsOf ((l.map fun c => D.str [c]).map fun _ => D.bl true) = some (l.map fun _ => true) := by
      rw [List.map_map]
      exact boolsOf_map (fun _ => true) l
    have e3 : (l.map fun _ => true).all id = true := by simp
    simp only [rest_of_wipe hw, ↓dSeq, ↓dNext, ↓dBreak, ↓dCont, ↓dNever, ↓dRet, ↓dRetN, ↓dDrop, ↓dSet, ↓dIf, ↓dAug, ↓dAsg, ↓dPar, ↓dVar, ↓dMove, ↓dC, ↓dFz, ↓dUp, ↓dNil, ↓dCons, ↓dTup, ↓dLst, ↓dBin, ↓dUn, ↓dChain, ↓dTest, ↓dAnd, ↓dOr, ↓dNot, ↓dAndV, ↓dOrV, ↓dNotV, ↓dIfE, ↓dgName, ↓dgNil, ↓dgCons, ↓dgTup, ↓dIt, ↓dRng1, ↓dRng2, ↓dZip, ↓dEnum, ↓u_for, ↓u_lc, ↓dYes, ↓u_call, ↓u_callF, ↓u_callIo, ↓dCB, ↓dCBF, ↓dBinS, ↓dLenS, ↓dSl, ↓dSlS, ↓dNo, ↓dPt, ↓dStL, ↓dApp, ↓dExt, ↓dJoin, ↓dRg1, ↓dRg2, ↓dTupRg, ↓dLstRg, ↓oSub, ↓oMulI, ↓oMul, ↓oFdiv, ↓oMod, ↓oPow, ↓oShr, ↓oXor, ↓oNeg, ↓oAdd, ↓oAug, ↓oLt, ↓oLe, ↓oGt, ↓oGe, ↓oI, ↓oIx, ↓oLen, ↓oInt, ↓oOrd, ↓oAbs, ↓oStL, ↓oIn, ↓oNin, ↓oInB, ↓isi_int, ↓isi_int_bl, ↓isi_int_str, ↓isi_int_tup, ↓isi_int_lst, ↓isi_str, ↓isi_str_int, ↓isi_tup, ↓isi_tup_int, ↓isi_tup_str, ↓isi_tup_lst, ↓isi_lst, ↓isi_lst_tup, ↓isi_lst_int, ↓isi_lst_str, ↓cv, ↓Cell.val, ↓Cell.up, ↓Cell.own, ↓lenD, ↓itemsOf, List.getElem?_cons_zero, List.getElem?_cons_succ, List.set_cons_zero, List.set_cons_succ, Option.bind_some, Option.isSome_some, List.length_cons, List.length_nil, true_and, and_true, ↓ixN_lit, ↓atI_lit, ↓reduceIte, Nat.reduceAdd, Nat.reduceLT, Nat.reduceSub, Nat.zero_add, Nat.reduceLeDiff, Nat.lt_add_one, Nat.zero_lt_succ, ↓oEq_int, ↓oNe_int, ↓oEq_str, ↓oNe_str, ↓oEq_bl, ↓oNe_bl, decide_eq_true_eq, Bool.false_eq_true, ↓u_while, ↓ownAt, List.all_cons, List.all_nil, Bool.and_true, List.getD_cons_zero, List.getD_cons_succ, Bool.not_false, ↓oLe_sign, ↓oMulS, ↓dDic, ↓dLock, ↓dGetS, ↓dStD, ↓dInS, ↓oInD, ↓dKeys, ↓dGet1, ↓dGet2, ↓dRev, ↓dMulL, ↓dCount, ↓dScrSl, ↓dScrLen, ↓dScrList, ↓oStrI, oAll, e2, e3]
    exact ⟨rfl, post _ _ ⟨rfl, rfl⟩⟩
def S_is_text : FnSpec := fnSpec 1 false (fun l : List Nat => [.str l]) (fun l => Signs l ∧ l.length ≤ 2000) fun _ => .bl true
/-- is_text: slots 0 thing -/
def D_is_text : DTS := (dRet (dUp (dAndV (dCall S_are_signs (dCons (dVar 0) dNil)) (dBin oLe (dLenS 0) (dC (.int 2000))))))
theorem sem_is_text : ∀ ds Kd, S_is_text.ds ds Kd → D_is_text (endsOf S_is_text Kd) (env0 1 [false] ds) := by
  rintro ds Kd ⟨l, rfl, ⟨hl, hn⟩, post⟩
  show D_is_text (endsOf S_is_text Kd) [.fz (.str l)]
  simp only [↓D_is_text, ↓dSeq, ↓dNext, ↓dBreak, ↓dCont, ↓dNever, ↓dRet, ↓dRetN, ↓dDrop, ↓dSet, ↓dIf, ↓dAug, ↓dAsg, ↓dPar, ↓dVar, ↓dMove, ↓dC, ↓dFz, ↓dUp, ↓dNil, ↓dCons, ↓dTup, ↓dLst, ↓dBin, ↓dUn, ↓dChain, ↓dTest, ↓dAnd, ↓dOr, ↓dNot, ↓dAndV, ↓dOrV, ↓dNotV, ↓dIfE, ↓dgName, ↓dgNil, ↓dgCons, ↓dgTup, ↓dIt, ↓dRng1, ↓dRng2, ↓dZip, ↓dEnum, ↓u_for, ↓u_lc, ↓dYes, ↓u_call, ↓u_callF, ↓u_callIo, ↓dCB, ↓dCBF, ↓dBinS, ↓dLenS, ↓dSl, ↓dSlS, ↓dNo, ↓dPt, ↓dStL, ↓dApp, ↓dExt, ↓dJoin, ↓dRg1, ↓dRg2, ↓dTupRg, ↓dLstRg, ↓oSub, ↓oMulI, ↓oMul, ↓oFdiv, ↓oMod, ↓oPow, ↓oShr, ↓oXor, ↓oNeg, ↓oAdd, ↓oAug, ↓oLt, ↓oLe, ↓oGt, ↓oGe, ↓oI, ↓oIx, ↓oLen, ↓oInt, ↓oOrd, ↓oAbs, ↓oStL, ↓oIn, ↓oNin, ↓oInB, ↓isi_int, ↓isi_int_bl, ↓isi_int_str, ↓isi_int_tup, ↓isi_int_lst, ↓isi_str, ↓isi_str_int, ↓isi_tup, ↓isi_tup_int, ↓isi_tup_str, ↓isi_tup_lst, ↓isi_lst, ↓isi_lst_tup, ↓isi_lst_int, ↓isi_lst_str, ↓cv, ↓Cell.val, ↓Cell.up, ↓Cell.own, ↓lenD, ↓itemsOf, List.getElem?_cons_zero, List.getElem?_cons_succ, List.set_cons_zero, List.set_cons_succ, Option.bind_some, Option.isSome_some, List.length_cons, List.length_nil, true_and, and_true, ↓ixN_lit, ↓atI_lit, ↓reduceIte, Nat.reduceAdd, Nat.reduceLT, Nat.reduceSub, Nat.zero_add, Nat.reduceLeDiff, Nat.lt_add_one, Nat.zero_lt_succ, ↓oEq_int, ↓oNe_int, ↓oEq_str, ↓oNe_str, ↓oEq_bl, ↓oNe_bl, decide_eq_true_eq, Bool.false_eq_true, ↓u_while, ↓ownAt, List.all_cons, List.all_nil, Bool.and_true, List.getD_cons_zero, List.getD_cons_succ, Bool.not_false, ↓oLe_sign, ↓oMulS, ↓dDic, ↓dLock, ↓dGetS, ↓dStD, ↓dInS, ↓oInD, ↓dKeys, ↓dGet1, ↓dGet2, ↓dRev, ↓dMulL, ↓dCount, ↓dScrSl, ↓dScrLen, ↓dScrList, ↓oStrI]
  refine ⟨rfl, onF l rfl hl ?_⟩
  have e : (l.length : Int) ≤ 2000 := by omega
  simp only [↓dSeq, ↓dNext, ↓dBreak, ↓dCont, ↓dNever, ↓dRet, ↓dRetN, ↓dDrop, ↓dSet, ↓dIf, ↓dAug, ↓dAsg, ↓dPar, ↓dVar, ↓dMove, ↓dC, ↓dFz, ↓dUp, ↓dNil, ↓dCons, ↓dTup, ↓dLst, ↓dBin, ↓dUn, ↓dChain, ↓dTest, ↓dAnd, ↓dOr, ↓dNot, ↓dAndV, ↓dOrV, ↓dNotV, ↓dIfE, ↓dgName, ↓dgNil, ↓dgCons, ↓dgTup, ↓dIt, ↓dRng1, ↓dRng2, ↓dZip, ↓dEnum, ↓u_for, ↓u_lc, ↓dYes, ↓u_call, ↓u_callF, ↓u_callIo, ↓dCB, ↓dCBF, ↓dBinS, ↓dLenS, ↓dSl, ↓dSlS, ↓dNo, ↓dPt, ↓dStL, ↓dApp, ↓dExt, ↓dJoin, ↓dRg1, ↓dRg2, ↓dTupRg, ↓dLstRg, ↓oSub, ↓oMulI, ↓oMul, ↓oFdiv, ↓oMod, ↓oPow, ↓oShr, ↓oXor, ↓oNeg, ↓oAdd, ↓oAug, ↓oLt, ↓oLe, ↓oGt, ↓oGe, ↓oI, ↓oIx, ↓oLen, ↓oInt, ↓oOrd, ↓oAbs, ↓oStL, ↓oIn, ↓oNin, ↓oInB, ↓isi_int, ↓isi_int_bl, ↓isi_int_str, ↓isi_int_tup, ↓isi_int_lst, ↓isi_str, ↓isi_str_int, ↓isi_tup, ↓isi_tup_int, ↓isi_tup_str, ↓isi_tup_lst, ↓isi_lst, ↓isi_lst_tup, ↓isi_lst_int, ↓isi_lst_str, ↓cv, ↓Cell.val, ↓Cell.up, ↓Cell.own, ↓lenD, ↓itemsOf, List.getElem?_cons_zero, List.getElem?_cons_succ, List.set_cons_zero, List.set_cons_succ, Option.bind_some, Option.isSome_some, List.length_cons, List.length_nil, true_and, and_true, ↓ixN_lit, ↓atI_lit, ↓reduceIte, Nat.reduceAdd, Nat.reduceLT, Nat.reduceSub, Nat.zero_add, Nat.reduceLeDiff, Nat.lt_add_one, Nat.zero_lt_succ, ↓oEq_int, ↓oNe_int, ↓oEq_str, ↓oNe_str, ↓oEq_bl, ↓oNe_bl, decide_eq_true_eq, Bool.false_eq_true, ↓u_while, ↓ownAt, List.all_cons, List.all_nil, Bool.and_true, List.getD_cons_zero, List.getD_cons_succ, Bool.not_false, ↓oLe_sign, ↓oMulS, ↓dDic, ↓dLock, ↓dGetS, ↓dStD, ↓dInS, ↓oInD, ↓dKeys, ↓dGet1, ↓dGet2, ↓dRev, ↓dMulL, ↓dCount, ↓dScrSl, ↓dScrLen, ↓dScrList, ↓oStrI, e, decide_true]
  exact ⟨rfl, post _ _ ⟨rfl, rfl⟩⟩
def S_check_text : FnSpec := fnSpec 1 false (fun l : List Nat => [.str l]) (fun l => Signs l ∧ l.length ≤ 2000) fun _ => .non
/-- check_text: slots 0 thing -/
def D_check_text : DTS := (dIf (dNot (dTest (dCall S_is_text (dCons (dVar 0) dNil)))) dNever dNext)
theorem sem_check_text : ∀ ds Kd, S_check_text.ds ds Kd → D_check_text (endsOf S_check_text Kd) (env0 1 [false] ds) := by
  rintro ds Kd ⟨l, rfl, hl, post⟩
  show D_check_text (endsOf S_check_text Kd) [.fz (.str l)]
  simp only [↓D_check_text, ↓dSeq, ↓dNext, ↓dBreak, ↓dCont, ↓dNever, ↓dRet, ↓dRetN, ↓dDrop, ↓dSet, ↓dIf, ↓dAug, ↓dAsg, ↓dPar, ↓dVar, ↓dMove, ↓dC, ↓dFz, ↓dUp, ↓dNil, ↓dCons, ↓dTup, ↓dLst, ↓dBin, ↓dUn, ↓dChain, ↓dTest, ↓dAnd, ↓dOr, ↓dNot, ↓dAndV, ↓dOrV, ↓dNotV, ↓dIfE, ↓dgName, ↓dgNil, ↓dgCons, ↓dgTup, ↓dIt, ↓dRng1, ↓dRng2, ↓dZip, ↓dEnum, ↓u_for, ↓u_lc, ↓dYes, ↓u_call, ↓u_callF, ↓u_callIo, ↓dCB, ↓dCBF, ↓dBinS, ↓dLenS, ↓dSl, ↓dSlS, ↓dNo, ↓dPt, ↓dStL, ↓dApp, ↓dExt, ↓dJoin, ↓dRg1, ↓dRg2, ↓dTupRg, ↓dLstRg, ↓oSub, ↓oMulI, ↓oMul, ↓oFdiv, ↓oMod, ↓oPow, ↓oShr, ↓oXor, ↓oNeg, ↓oAdd, ↓oAug, ↓oLt, ↓oLe, ↓oGt, ↓oGe, ↓oI, ↓oIx, ↓oLen, ↓oInt, ↓oOrd, ↓oAbs, ↓oStL, ↓oIn, ↓oNin, ↓oInB, ↓isi_int, ↓isi_int_bl, ↓isi_int_str, ↓isi_int_tup, ↓isi_int_lst, ↓isi_str, ↓isi_str_int, ↓isi_tup, ↓isi_tup_int, ↓isi_tup_str, ↓isi_tup_lst, ↓isi_lst, ↓isi_lst_tup, ↓isi_lst_int, ↓isi_lst_str, ↓cv, ↓Cell.val, ↓Cell.up, ↓Cell.own, ↓lenD, ↓itemsOf, List.getElem?_cons_zero, List.getElem?_cons_succ, List.set_cons_zero, List.set_cons_succ, Option.bind_some, Option.isSome_some, List.length_cons, List.length_nil, true_and, and_true, ↓ixN_lit, ↓atI_lit, ↓reduceIte, Nat.reduceAdd, Nat.reduceLT, Nat.reduceSub, Nat.zero_add, Nat.reduceLeDiff, Nat.lt_add_one, Nat.zero_lt_succ, ↓oEq_int, ↓oNe_int, ↓oEq_str, ↓oNe_str, ↓oEq_bl, ↓oNe_bl, decide_eq_true_eq, Bool.false_eq_true, ↓u_while, ↓ownAt, List.all_cons, List.all_nil, Bool.and_true, List.getD_cons_zero, List.getD_cons_succ, Bool.not_false, ↓oLe_sign, ↓oMulS, ↓dDic, ↓dLock, ↓dGetS, ↓dStD, ↓dInS, ↓oInD, ↓dKeys, ↓dGet1, ↓dGet2, ↓dRev, ↓dMulL, ↓dCount, ↓dScrSl, ↓dScrLen, ↓dScrList, ↓oStrI]
  refine ⟨rfl, onF l rfl hl ?_⟩
  simp only [↓dSeq, ↓dNext, ↓dBreak, ↓dCont, ↓dNever, ↓dRet, ↓dRetN, ↓dDrop, ↓dSet, ↓dIf, ↓dAug, ↓dAsg, ↓dPar, ↓dVar, ↓dMove, ↓dC, ↓dFz, ↓dUp, ↓dNil, ↓dCons, ↓dTup, ↓dLst, ↓dBin, ↓dUn, ↓dChain, ↓dTest, ↓dAnd, ↓dOr, ↓dNot, ↓dAndV, ↓dOrV, ↓dNotV, ↓dIfE, ↓dgName, ↓dgNil, ↓dgCons, ↓dgTup, ↓dIt, ↓dRng1, ↓dRng2, ↓dZip, ↓dEnum, ↓u_for, ↓u_lc, ↓dYes, ↓u_call, ↓u_callF, ↓u_callIo, ↓dCB, ↓dCBF, ↓dBinS, ↓dLenS, ↓dSl, ↓dSlS, ↓dNo, ↓dPt, ↓dStL, ↓dApp, ↓dExt, ↓dJoin, ↓dRg1, ↓dRg2, ↓dTupRg, ↓dLstRg, ↓oSub, ↓oMulI, ↓oMul, ↓oFdiv, ↓oMod, ↓oPow, ↓oShr, ↓oXor, ↓oNeg, ↓oAdd, ↓oAug, ↓oLt, ↓oLe, ↓oGt, ↓oGe, ↓oI, ↓oIx, ↓oLen, ↓oInt, ↓oOrd, ↓oAbs, ↓oStL, ↓oIn, ↓oNin, ↓oInB, ↓isi_int, ↓isi_int_bl, ↓isi_int_str, ↓isi_int_tup, ↓isi_int_lst, ↓isi_str, ↓isi_str_int, ↓isi_tup, ↓isi_tup_int, ↓isi_tup_str, ↓isi_tup_lst, ↓isi_lst, ↓isi_lst_tup, ↓isi_lst_int, ↓isi_lst_str, ↓cv, ↓Cell.val, ↓Cell.up, ↓Cell.own, ↓lenD, ↓itemsOf, List.getElem?_cons_zero, List.getElem?_cons_succ, List.set_cons_zero, List.set_cons_succ, Option.bind_some, Option.isSome_some, List.length_cons, List.length_nil, true_and, and_true, ↓ixN_lit, ↓atI_lit, ↓reduceIte, Nat.reduceAdd, Nat.reduceLT, Nat.reduceSub, Nat.zero_add, Nat.reduceLeDiff, Nat.lt_add_one, Nat.zero_lt_succ, ↓oEq_int, ↓oNe_int, ↓oEq_str, ↓oNe_str, ↓oEq_bl, ↓oNe_bl, decide_eq_true_eq, Bool.false_eq_true, ↓u_while, ↓ownAt, List.all_cons, List.all_nil, Bool.and_true, List.getD_cons_zero, List.getD_cons_succ, Bool.not_false, ↓oLe_sign, ↓oMulS, ↓dDic, ↓dLock, ↓dGetS, ↓dStD, ↓dInS, ↓oInD, ↓dKeys, ↓dGet1, ↓dGet2, ↓dRev, ↓dMulL, ↓dCount, ↓dScrSl, ↓dScrLen, ↓dScrList, ↓oStrI, Bool.not_true]
  exact ⟨rfl, post _ _ ⟨rfl, rfl⟩⟩
end DL


namespace DL
open PySem PySem.Spec PyProof.Rows L2

/-! ### periods -/
def Per (t : List Nat) (p : Nat) : Prop := ∀ i, i + p < t.length → tt t i = tt t (i + p)
theorem tt_some {t : List Nat} {i : Nat} (h : i < t.length) : t[i]? = some (tt t i) := str_at h
theorem ext_tt {s t : List Nat} (hl : s.length = t.length) (h : ∀ i, i < s.length → tt s i = tt t i) : s = t := by
  apply List.ext_getElem? fun i => ?_
  by_cases q : i < s.length
  · rw [tt_some q, tt_some (by omega), h i q]
  · rw [List.getElem?_eq_none (by omega), List.getElem?_eq_none (by omega)]
theorem tt_drop {t : List Nat} {a i : Nat} : tt (t.drop a) i = tt t (a + i) := by
  unfold tt
  rw [List.getD_eq_getElem?_getD, List.getD_eq_getElem?_getD, List.getElem?_drop]
theorem tt_take {t : List Nat} {a i : Nat} (h : i < a) : tt (t.take a) i = tt t i := by
  unfold tt
  rw [List.getD_eq_getElem?_getD, List.getD_eq_getElem?_getD, List.getElem?_take, if_pos h]
theorem per_iff {t : List Nat} {p : Nat} (hp : p ≤ t.length) : t.drop p = t.take (t.length - p) ↔ Per t p := by
  constructor
  · intro e i hi
    have h1 : tt (t.drop p) i = tt t (p + i) := tt_drop
    rw [e, tt_take (by omega)] at h1
    rw [h1, Nat.add_comm]
  · intro h
    apply ext_tt
    · rw [List.length_drop, List.length_take]; omega
    · intro i hi
      rw [List.length_drop] at hi
      rw [tt_drop, tt_take (by omega), h i (by omega), Nat.add_comm]
instance (t : List Nat) (p : Nat) : Decidable (Per t p) := decidable_of_iff (∀ i, i < t.length - p → tt t i = tt t (i + p)) ⟨fun h i hi => h i (by omega), fun h i hi => h i (by omega)⟩
theorem per_bo {t : List Nat} {p : Nat} (h1 : 1 ≤ p) (hp : p ≤ t.length) : Per t p ↔ Bo t t.length (t.length - p) := by
  constructor
  · intro h
    refine ⟨by omega, fun i hi => ?_⟩
    rw [show t.length - (t.length - p) + i = i + p by omega]
    exact h i (by omega)
  · rintro ⟨_, h⟩ i hi
    have := h i (by omega)
    rw [show t.length - (t.length - p) + i = i + p by omega] at this
    exact this
theorem per_len (t : List Nat) : Per t t.length := fun i hi => by omega
/-- the least period -/
def lp (t : List Nat) : Nat := t.length - fl t t.length
theorem lp_pos {t : List Nat} (h : 0 < t.length) : 1 ≤ lp t := by
  have := fl_lt (t := t) h
  unfold lp
  omega
theorem lp_le (t : List Nat) : lp t ≤ t.length := Nat.sub_le _ _
theorem lp_per {t : List Nat} (h : 0 < t.length) : Per t (lp t) := by
  refine (per_bo (lp_pos h) (lp_le t)).mpr ?_
  have hb := fl_bo (t := t) h
  have := hb.1
  rw [show t.length - lp t = fl t t.length by unfold lp; omega]
  exact hb
theorem lp_min {t : List Nat} {q : Nat} (h1 : 1 ≤ q) (hq : Per t q) : lp t ≤ q := by
  by_cases h : q ≤ t.length
  · have := fl_max ((per_bo h1 h).mp hq)
    unfold lp
    omega
  · have := lp_le t
    omega
theorem lp_eq {t : List Nat} {p : Nat} (h1 : 1 ≤ p) (h : Per t p) (hm : ∀ q, 1 ≤ q → q < p → ¬ Per t q) (h0 : 0 < t.length) : lp t = p := by
  have := lp_min h1 h
  by_cases e : lp t < p
  · exact absurd (lp_per h0) (hm _ (lp_pos h0) e)
  · omega
def S_has_period : FnSpec := fnSpec 2 false (fun x : List Nat × Nat => [.str x.1, .int (x.2 : Nat)]) (fun x => x.2 ≤ x.1.length) fun x => .bl (decide (Per x.1 x.2))
/-- has_period: slots 0 text, 1 period -/
def D_has_period : DTS := (dRet (dUp (dBin oEq (dSlS 0 (dPt (dVar 1)) dNo) (dSlS 0 dNo (dPt (dBin oSub (dLenS 0) (dVar 1)))))))
theorem cut_per {t : List Nat} {p : Nat} (hp : p ≤ t.length) : decide (cutG t (some (p : Nat)) none = cutG t none (some ((t.length : Int) - (p : Nat)))) = decide (Per t p) := by
  have e : cutG t none (some ((t.length : Int) - (p : Nat))) = t.take (t.length - p) := by
    rw [show ((t.length : Int) - (p : Nat)) = ((t.length - p : Nat) : Int) by omega]
    have h := cutG_nat t 0 (t.length - p)
    rw [List.drop_zero, Nat.sub_zero] at h
    exact h
  rw [cutG_from, e]
  exact decide_eq_decide.mpr (per_iff hp)
theorem sem_has_period : ∀ ds Kd, S_has_period.ds ds Kd → D_has_period (endsOf S_has_period Kd) (env0 2 [false, false] ds) := by
  rintro ds Kd ⟨⟨t, p⟩, rfl, hp, post⟩
  show D_has_period (endsOf S_has_period Kd) [.fz (.str t), .fz (.int (p : Nat))]
  simp only [↓D_has_period, ↓dSeq, ↓dNext, ↓dBreak, ↓dCont, ↓dNever, ↓dRet, ↓dRetN, ↓dDrop, ↓dSet, ↓dIf, ↓dAug, ↓dAsg, ↓dPar, ↓dVar, ↓dMove, ↓dC, ↓dFz, ↓dUp, ↓dNil, ↓dCons, ↓dTup, ↓dLst, ↓dBin, ↓dUn, ↓dChain, ↓dTest, ↓dAnd, ↓dOr, ↓dNot, ↓dAndV, ↓dOrV, ↓dNotV, ↓dIfE, ↓dgName, ↓dgNil, ↓dgCons, ↓dgTup, ↓dIt, ↓dRng1, ↓dRng2, ↓dZip, ↓dEnum, ↓u_for, ↓u_lc, ↓dYes, ↓u_call, ↓u_callF, ↓u_callIo, ↓dCB, ↓dCBF, ↓dBinS, ↓dLenS, ↓dSl, ↓dSlS, ↓dNo, ↓dPt, ↓dStL, ↓dApp, ↓dExt, ↓dJoin, ↓dRg1, ↓dRg2, ↓dTupRg, ↓dLstRg, ↓oSub, ↓oMulI, ↓oMul, ↓oFdiv, ↓oMod, ↓oPow, ↓oShr, ↓oXor, ↓oNeg, ↓oAdd, ↓oAug, ↓oLt, ↓oLe, ↓oGt, ↓oGe, ↓oI, ↓oIx, ↓oLen, ↓oInt, ↓oOrd, ↓oAbs, ↓oStL, ↓oIn, ↓oNin, ↓oInB, ↓isi_int, ↓isi_int_bl, ↓isi_int_str, ↓isi_int_tup, ↓isi_int_lst, ↓isi_str, ↓isi_str_int, ↓isi_tup, ↓isi_tup_int, ↓isi_tup_str, ↓isi_tup_lst, ↓isi_lst, ↓isi_lst_tup, ↓isi_lst_int, ↓isi_lst_str, ↓cv, ↓Cell.val, ↓Cell.up, ↓Cell.own, ↓lenD, ↓itemsOf, List.getElem?_cons_zero, List.getElem?_cons_succ, List.set_cons_zero, List.set_cons_succ, Option.bind_some, Option.isSome_some, List.length_cons, List.length_nil, true_and, and_true, ↓ixN_lit, ↓atI_lit, ↓reduceIte, Nat.reduceAdd, Nat.reduceLT, Nat.reduceSub, Nat.zero_add, Nat.reduceLeDiff, Nat.lt_add_one, Nat.zero_lt_succ, ↓oEq_int, ↓oNe_int, ↓oEq_str, ↓oNe_str, ↓oEq_bl, ↓oNe_bl, decide_eq_true_eq, Bool.false_eq_true, ↓u_while, ↓ownAt, List.all_cons, List.all_nil, Bool.and_true, List.getD_cons_zero, List.getD_cons_succ, Bool.not_false, ↓oLe_sign, ↓oMulS, ↓dDic, ↓dLock, ↓dGetS, ↓dStD, ↓dInS, ↓oInD, ↓dKeys, ↓dGet1, ↓dGet2, ↓dRev, ↓dMulL, ↓dCount, ↓dScrSl, ↓dScrLen, ↓dScrList, ↓oStrI, oSl]
  rw [cut_per hp]
  exact ⟨rfl, post _ _ ⟨rfl, rfl⟩⟩
def S__law_has : FnSpec := fnSpec 2 false (fun x : List Nat × Nat => [.str x.1, .int (x.2 : Nat)]) (fun x => x.2 ≤ x.1.length) fun x => .bl (decide (Per x.1 x.2))
/-- _law_has: slots 0 _law_text_here, 1 _law_period -/
def D__law_has : DTS := (dRet (dUp (dBin oEq (dSlS 0 (dPt (dVar 1)) dNo) (dSlS 0 dNo (dPt (dBin oSub (dLenS 0) (dVar 1)))))))
theorem sem__law_has : ∀ ds Kd, S__law_has.ds ds Kd → D__law_has (endsOf S__law_has Kd) (env0 2 [false, false] ds) := by
  rintro ds Kd ⟨⟨t, p⟩, rfl, hp, post⟩
  show D__law_has (endsOf S__law_has Kd) [.fz (.str t), .fz (.int (p : Nat))]
  simp only [↓D__law_has, ↓dSeq, ↓dNext, ↓dBreak, ↓dCont, ↓dNever, ↓dRet, ↓dRetN, ↓dDrop, ↓dSet, ↓dIf, ↓dAug, ↓dAsg, ↓dPar, ↓dVar, ↓dMove, ↓dC, ↓dFz, ↓dUp, ↓dNil, ↓dCons, ↓dTup, ↓dLst, ↓dBin, ↓dUn, ↓dChain, ↓dTest, ↓dAnd, ↓dOr, ↓dNot, ↓dAndV, ↓dOrV, ↓dNotV, ↓dIfE, ↓dgName, ↓dgNil, ↓dgCons, ↓dgTup, ↓dIt, ↓dRng1, ↓dRng2, ↓dZip, ↓dEnum, ↓u_for, ↓u_lc, ↓dYes, ↓u_call, ↓u_callF, ↓u_callIo, ↓dCB, ↓dCBF, ↓dBinS, ↓dLenS, ↓dSl, ↓dSlS, ↓dNo, ↓dPt, ↓dStL, ↓dApp, ↓dExt, ↓dJoin, ↓dRg1, ↓dRg2, ↓dTupRg, ↓dLstRg, ↓oSub, ↓oMulI, ↓oMul, ↓oFdiv, ↓oMod, ↓oPow, ↓oShr, ↓oXor, ↓oNeg, ↓oAdd, ↓oAug, ↓oLt, ↓oLe, ↓oGt, ↓oGe, ↓oI, ↓oIx, ↓oLen, ↓oInt, ↓oOrd, ↓oAbs, ↓oStL, ↓oIn, ↓oNin, ↓oInB, ↓isi_int, ↓isi_int_bl, ↓isi_int_str, ↓isi_int_tup, ↓isi_int_lst, ↓isi_str, ↓isi_str_int, ↓isi_tup, ↓isi_tup_int, ↓isi_tup_str, ↓isi_tup_lst, ↓isi_lst, ↓isi_lst_tup, ↓isi_lst_int, ↓isi_lst_str, ↓cv, ↓Cell.val, ↓Cell.up, ↓Cell.own, ↓lenD, ↓itemsOf, List.getElem?_cons_zero, List.getElem?_cons_succ, List.set_cons_zero, List.set_cons_succ, Option.bind_some, Option.isSome_some, List.length_cons, List.length_nil, true_and, and_true, ↓ixN_lit, ↓atI_lit, ↓reduceIte, Nat.reduceAdd, Nat.reduceLT, Nat.reduceSub, Nat.zero_add, Nat.reduceLeDiff, Nat.lt_add_one, Nat.zero_lt_succ, ↓oEq_int, ↓oNe_int, ↓oEq_str, ↓oNe_str, ↓oEq_bl, ↓oNe_bl, decide_eq_true_eq, Bool.false_eq_true, ↓u_while, ↓ownAt, List.all_cons, List.all_nil, Bool.and_true, List.getD_cons_zero, List.getD_cons_succ, Bool.not_false, ↓oLe_sign, ↓oMulS, ↓dDic, ↓dLock, ↓dGetS, ↓dStD, ↓dInS, ↓oInD, ↓dKeys, ↓dGet1, ↓dGet2, ↓dRev, ↓dMulL, ↓dCount, ↓dScrSl, ↓dScrLen, ↓dScrList, ↓oStrI, oSl]
  rw [cut_per hp]
  exact ⟨rfl, post _ _ ⟨rfl, rfl⟩⟩
def S__law_least : FnSpec := fnSpec 1 false (fun t : List Nat => [.str t]) (fun t => 0 < t.length ∧ t.length ≤ 1000000) fun t => .int (lp t : Nat)
/-- _law_least: slots 0 _law_text_here, 1 _law_period -/
def D__law_least : DTS := (dSeq (dSet 1 (dUp (dC (.int 1)))) (dSeq (dWhile (dNot (dTest (dCall S__law_has (dCons (dVar 0) (dCons (dVar 1) dNil))))) (dSet 1 (dUp (dBin oAdd (dVar 1) (dC (.int 1)))))) (dRet (dUp (dVar 1)))))
theorem sem__law_least : ∀ ds Kd, S__law_least.ds ds Kd → D__law_least (endsOf S__law_least Kd) (env0 2 [false] ds) := by
  rintro ds Kd ⟨t, rfl, ⟨h0, hz⟩, post⟩
  show D__law_least (endsOf S__law_least Kd) [.fz (.str t), .un]
  simp only [↓D__law_least, ↓dSeq, ↓dNext, ↓dBreak, ↓dCont, ↓dNever, ↓dRet, ↓dRetN, ↓dDrop, ↓dSet, ↓dIf, ↓dAug, ↓dAsg, ↓dPar, ↓dVar, ↓dMove, ↓dC, ↓dFz, ↓dUp, ↓dNil, ↓dCons, ↓dTup, ↓dLst, ↓dBin, ↓dUn, ↓dChain, ↓dTest, ↓dAnd, ↓dOr, ↓dNot, ↓dAndV, ↓dOrV, ↓dNotV, ↓dIfE, ↓dgName, ↓dgNil, ↓dgCons, ↓dgTup, ↓dIt, ↓dRng1, ↓dRng2, ↓dZip, ↓dEnum, ↓u_for, ↓u_lc, ↓dYes, ↓u_call, ↓u_callF, ↓u_callIo, ↓dCB, ↓dCBF, ↓dBinS, ↓dLenS, ↓dSl, ↓dSlS, ↓dNo, ↓dPt, ↓dStL, ↓dApp, ↓dExt, ↓dJoin, ↓dRg1, ↓dRg2, ↓dTupRg, ↓dLstRg, ↓oSub, ↓oMulI, ↓oMul, ↓oFdiv, ↓oMod, ↓oPow, ↓oShr, ↓oXor, ↓oNeg, ↓oAdd, ↓oAug, ↓oLt, ↓oLe, ↓oGt, ↓oGe, ↓oI, ↓oIx, ↓oLen, ↓oInt, ↓oOrd, ↓oAbs, ↓oStL, ↓oIn, ↓oNin, ↓oInB, ↓isi_int, ↓isi_int_bl, ↓isi_int_str, ↓isi_int_tup, ↓isi_int_lst, ↓isi_str, ↓isi_str_int, ↓isi_tup, ↓isi_tup_int, ↓isi_tup_str, ↓isi_tup_lst, ↓isi_lst, ↓isi_lst_tup, ↓isi_lst_int, ↓isi_lst_str, ↓cv, ↓Cell.val, ↓Cell.up, ↓Cell.own, ↓lenD, ↓itemsOf, List.getElem?_cons_zero, List.getElem?_cons_succ, List.set_cons_zero, List.set_cons_succ, Option.bind_some, Option.isSome_some, List.length_cons, List.length_nil, true_and, and_true, ↓ixN_lit, ↓atI_lit, ↓reduceIte, Nat.reduceAdd, Nat.reduceLT, Nat.reduceSub, Nat.zero_add, Nat.reduceLeDiff, Nat.lt_add_one, Nat.zero_lt_succ, ↓oEq_int, ↓oNe_int, ↓oEq_str, ↓oNe_str, ↓oEq_bl, ↓oNe_bl, decide_eq_true_eq, Bool.false_eq_true, ↓u_while, ↓ownAt, List.all_cons, List.all_nil, Bool.and_true, List.getD_cons_zero, List.getD_cons_succ, Bool.not_false, ↓oLe_sign, ↓oMulS, ↓dDic, ↓dLock, ↓dGetS, ↓dStD, ↓dInS, ↓oInD, ↓dKeys, ↓dGet1, ↓dGet2, ↓dRev, ↓dMulL, ↓dCount, ↓dScrSl, ↓dScrLen, ↓dScrList, ↓oStrI]
  refine whB_of (dWhile_iff (fun w ρ => ∃ p : Nat, w + p = lp t ∧ 1 ≤ p ∧ (∀ q, 1 ≤ q → q < p → ¬ Per t q) ∧ ρ = [.fz (.str t), .fz (.int (p : Nat))]) (lp t - 1) ⟨1, by have := lp_pos h0; omega, Nat.le_refl _, fun q a b => by omega, rfl⟩ ?_)
  rintro w ρ ⟨p, hw, h1, hm, rfl⟩
  have hl := lp_le t
  simp only [↓dSeq, ↓dNext, ↓dBreak, ↓dCont, ↓dNever, ↓dRet, ↓dRetN, ↓dDrop, ↓dSet, ↓dIf, ↓dAug, ↓dAsg, ↓dPar, ↓dVar, ↓dMove, ↓dC, ↓dFz, ↓dUp, ↓dNil, ↓dCons, ↓dTup, ↓dLst, ↓dBin, ↓dUn, ↓dChain, ↓dTest, ↓dAnd, ↓dOr, ↓dNot, ↓dAndV, ↓dOrV, ↓dNotV, ↓dIfE, ↓dgName, ↓dgNil, ↓dgCons, ↓dgTup, ↓dIt, ↓dRng1, ↓dRng2, ↓dZip, ↓dEnum, ↓u_for, ↓u_lc, ↓dYes, ↓u_call, ↓u_callF, ↓u_callIo, ↓dCB, ↓dCBF, ↓dBinS, ↓dLenS, ↓dSl, ↓dSlS, ↓dNo, ↓dPt, ↓dStL, ↓dApp, ↓dExt, ↓dJoin, ↓dRg1, ↓dRg2, ↓dTupRg, ↓dLstRg, ↓oSub, ↓oMulI, ↓oMul, ↓oFdiv, ↓oMod, ↓oPow, ↓oShr, ↓oXor, ↓oNeg, ↓oAdd, ↓oAug, ↓oLt, ↓oLe, ↓oGt, ↓oGe, ↓oI, ↓oIx, ↓oLen, ↓oInt, ↓oOrd, ↓oAbs, ↓oStL, ↓oIn, ↓oNin, ↓oInB, ↓isi_int, ↓isi_int_bl, ↓isi_int_str, ↓isi_int_tup, ↓isi_int_lst, ↓isi_str, ↓isi_str_int, ↓isi_tup, ↓isi_tup_int, ↓isi_tup_str, ↓isi_tup_lst, ↓isi_lst, ↓isi_lst_tup, ↓isi_lst_int, ↓isi_lst_str, ↓cv, ↓Cell.val, ↓Cell.up, ↓Cell.own, ↓lenD, ↓itemsOf, List.getElem?_cons_zero, List.getElem?_cons_succ, List.set_cons_zero, List.set_cons_succ, Option.bind_some, Option.isSome_some, List.length_cons, List.length_nil, true_and, and_true, ↓ixN_lit, ↓atI_lit, ↓reduceIte, Nat.reduceAdd, Nat.reduceLT, Nat.reduceSub, Nat.zero_add, Nat.reduceLeDiff, Nat.lt_add_one, Nat.zero_lt_succ, ↓oEq_int, ↓oNe_int, ↓oEq_str, ↓oNe_str, ↓oEq_bl, ↓oNe_bl, decide_eq_true_eq, Bool.false_eq_true, ↓u_while, ↓ownAt, List.all_cons, List.all_nil, Bool.and_true, List.getD_cons_zero, List.getD_cons_succ, Bool.not_false, ↓oLe_sign, ↓oMulS, ↓dDic, ↓dLock, ↓dGetS, ↓dStD, ↓dInS, ↓oInD, ↓dKeys, ↓dGet1, ↓dGet2, ↓dRev, ↓dMulL, ↓dCount, ↓dScrSl, ↓dScrLen, ↓dScrList, ↓oStrI]
  refine ⟨rfl, onF (t, p) rfl (by show p ≤ t.length; omega) ?_⟩
  simp only [↓dSeq, ↓dNext, ↓dBreak, ↓dCont, ↓dNever, ↓dRet, ↓dRetN, ↓dDrop, ↓dSet, ↓dIf, ↓dAug, ↓dAsg, ↓dPar, ↓dVar, ↓dMove, ↓dC, ↓dFz, ↓dUp, ↓dNil, ↓dCons, ↓dTup, ↓dLst, ↓dBin, ↓dUn, ↓dChain, ↓dTest, ↓dAnd, ↓dOr, ↓dNot, ↓dAndV, ↓dOrV, ↓dNotV, ↓dIfE, ↓dgName, ↓dgNil, ↓dgCons, ↓dgTup, ↓dIt, ↓dRng1, ↓dRng2, ↓dZip, ↓dEnum, ↓u_for, ↓u_lc, ↓dYes, ↓u_call, ↓u_callF, ↓u_callIo, ↓dCB, ↓dCBF, ↓dBinS, ↓dLenS, ↓dSl, ↓dSlS, ↓dNo, ↓dPt, ↓dStL, ↓dApp, ↓dExt, ↓dJoin, ↓dRg1, ↓dRg2, ↓dTupRg, ↓dLstRg, ↓oSub, ↓oMulI, ↓oMul, ↓oFdiv, ↓oMod, ↓oPow, ↓oShr, ↓oXor, ↓oNeg, ↓oAdd, ↓oAug, ↓oLt, ↓oLe, ↓oGt, ↓oGe, ↓oI, ↓oIx, ↓oLen, ↓oInt, ↓oOrd, ↓oAbs, ↓oStL, ↓oIn, ↓oNin, ↓oInB, ↓isi_int, ↓isi_int_bl, ↓isi_int_str, ↓isi_int_tup, ↓isi_int_lst, ↓isi_str, ↓isi_str_int, ↓isi_tup, ↓isi_tup_int, ↓isi_tup_str, ↓isi_tup_lst, ↓isi_lst, ↓isi_lst_tup, ↓isi_lst_int, ↓isi_lst_str, ↓cv, ↓Cell.val, ↓Cell.up, ↓Cell.own, ↓lenD, ↓itemsOf, List.getElem?_cons_zero, List.getElem?_cons_succ, List.set_cons_zero, List.set_cons_succ, Option.bind_some, Option.isSome_some, List.length_cons, List.length_nil, true_and, and_true, ↓ixN_lit, ↓atI_lit, ↓reduceIte, Nat.reduceAdd, Nat.reduceLT, Nat.reduceSub, Nat.zero_add, Nat.reduceLeDiff, Nat.lt_add_one, Nat.zero_lt_succ, ↓oEq_int, ↓oNe_int, ↓oEq_str, ↓oNe_str, ↓oEq_bl, ↓oNe_bl, decide_eq_true_eq, Bool.false_eq_true, ↓u_while, ↓ownAt, List.all_cons, List.all_nil, Bool.and_true, List.getD_cons_zero, List.getD_cons_succ, Bool.not_false, ↓oLe_sign, ↓oMulS, ↓dDic, ↓dLock, ↓dGetS, ↓dStD, ↓dInS, ↓oInD, ↓dKeys, ↓dGet1, ↓dGet2, ↓dRev, ↓dMulL, ↓dCount, ↓dScrSl, ↓dScrLen, ↓dScrList, ↓oStrI]
  by_cases hp : Per t p
  · have e : lp t = p := lp_eq h1 hp hm h0
    simp only [hp, decide_true, ↓dSeq, ↓dNext, ↓dBreak, ↓dCont, ↓dNever, ↓dRet, ↓dRetN, ↓dDrop, ↓dSet, ↓dIf, ↓dAug, ↓dAsg, ↓dPar, ↓dVar, ↓dMove, ↓dC, ↓dFz, ↓dUp, ↓dNil, ↓dCons, ↓dTup, ↓dLst, ↓dBin, ↓dUn, ↓dChain, ↓dTest, ↓dAnd, ↓dOr, ↓dNot, ↓dAndV, ↓dOrV, ↓dNotV, ↓dIfE, ↓dgName, ↓dgNil, ↓dgCons, ↓dgTup, ↓dIt, ↓dRng1, ↓dRng2, ↓dZip, ↓dEnum, ↓u_for, ↓u_lc, ↓dYes, ↓u_call, ↓u_callF, ↓u_callIo, ↓dCB, ↓dCBF, ↓dBinS, ↓dLenS, ↓dSl, ↓dSlS, ↓dNo, ↓dPt, ↓dStL, ↓dApp, ↓dExt, ↓dJoin, ↓dRg1, ↓dRg2, ↓dTupRg, ↓dLstRg, ↓oSub, ↓oMulI, ↓oMul, ↓oFdiv, ↓oMod, ↓oPow, ↓oShr, ↓oXor, ↓oNeg, ↓oAdd, ↓oAug, ↓oLt, ↓oLe, ↓oGt, ↓oGe, ↓oI, ↓oIx, ↓oLen, ↓oInt, ↓oOrd, ↓oAbs, ↓oStL, ↓oIn, ↓oNin, ↓oInB, ↓isi_int, ↓isi_int_bl, ↓isi_int_str, ↓isi_int_tup, ↓isi_int_lst, ↓isi_str, ↓isi_str_int, ↓isi_tup, ↓isi_tup_int, ↓isi_tup_str, ↓isi_tup_lst, ↓isi_lst, ↓isi_lst_tup, ↓isi_lst_int, ↓isi_lst_str, ↓cv, ↓Cell.val, ↓Cell.up, ↓Cell.own, ↓lenD, ↓itemsOf, List.getElem?_cons_zero, List.getElem?_cons_succ, List.set_cons_zero, List.set_cons_succ, Option.bind_some, Option.isSome_some, List.length_cons, List.length_nil, true_and, and_true, ↓ixN_lit, ↓atI_lit, ↓reduceIte, Nat.reduceAdd, Nat.reduceLT, Nat.reduceSub, Nat.zero_add, Nat.reduceLeDiff, Nat.lt_add_one, Nat.zero_lt_succ, ↓oEq_int, ↓oNe_int, ↓oEq_str, ↓oNe_str, ↓oEq_bl, ↓oNe_bl, decide_eq_true_eq, Bool.false_eq_true, ↓u_while, ↓ownAt, List.all_cons, List.all_nil, Bool.and_true, List.getD_cons_zero, List.getD_cons_succ, Bool.not_false, ↓oLe_sign, ↓oMulS, ↓dDic, ↓dLock, ↓dGetS, ↓dStD, ↓dInS, ↓oInD, ↓dKeys, ↓dGet1, ↓dGet2, ↓dRev, ↓dMulL, ↓dCount, ↓dScrSl, ↓dScrLen, ↓dScrList, ↓oStrI]
    exact ⟨rfl, post _ _ ⟨by show _ = D.int (lp t : Nat); rw [e], rfl⟩⟩
  · have hne : p ≠ lp t := fun e => hp (by rw [e]; exact lp_per h0)
    simp only [hp, decide_false, ↓dSeq, ↓dNext, ↓dBreak, ↓dCont, ↓dNever, ↓dRet, ↓dRetN, ↓dDrop, ↓dSet, ↓dIf, ↓dAug, ↓dAsg, ↓dPar, ↓dVar, ↓dMove, ↓dC, ↓dFz, ↓dUp, ↓dNil, ↓dCons, ↓dTup, ↓dLst, ↓dBin, ↓dUn, ↓dChain, ↓dTest, ↓dAnd, ↓dOr, ↓dNot, ↓dAndV, ↓dOrV, ↓dNotV, ↓dIfE, ↓dgName, ↓dgNil, ↓dgCons, ↓dgTup, ↓dIt, ↓dRng1, ↓dRng2, ↓dZip, ↓dEnum, ↓u_for, ↓u_lc, ↓dYes, ↓u_call, ↓u_callF, ↓u_callIo, ↓dCB, ↓dCBF, ↓dBinS, ↓dLenS, ↓dSl, ↓dSlS, ↓dNo, ↓dPt, ↓dStL, ↓dApp, ↓dExt, ↓dJoin, ↓dRg1, ↓dRg2, ↓dTupRg, ↓dLstRg, ↓oSub, ↓oMulI, ↓oMul, ↓oFdiv, ↓oMod, ↓oPow, ↓oShr, ↓oXor, ↓oNeg, ↓oAdd, ↓oAug, ↓oLt, ↓oLe, ↓oGt, ↓oGe, ↓oI, ↓oIx, ↓oLen, ↓oInt, ↓oOrd, ↓oAbs, ↓oStL, ↓oIn, ↓oNin, ↓oInB, ↓isi_int, ↓isi_int_bl, ↓isi_int_str, ↓isi_int_tup, ↓isi_int_lst, ↓isi_str, ↓isi_str_int, ↓isi_tup, ↓isi_tup_int, ↓isi_tup_str, ↓isi_tup_lst, ↓isi_lst, ↓isi_lst_tup, ↓isi_lst_int, ↓isi_lst_str, ↓cv, ↓Cell.val, ↓Cell.up, ↓Cell.own, ↓lenD, ↓itemsOf, List.getElem?_cons_zero, List.getElem?_cons_succ, List.set_cons_zero, List.set_cons_succ, Option.bind_some, Option.isSome_some, List.length_cons, List.length_nil, true_and, and_true, ↓ixN_lit, ↓atI_lit, ↓reduceIte, Nat.reduceAdd, Nat.reduceLT, Nat.reduceSub, Nat.zero_add, Nat.reduceLeDiff, Nat.lt_add_one, Nat.zero_lt_succ, ↓oEq_int, ↓oNe_int, ↓oEq_str, ↓oNe_str, ↓oEq_bl, ↓oNe_bl, decide_eq_true_eq, Bool.false_eq_true, ↓u_while, ↓ownAt, List.all_cons, List.all_nil, Bool.and_true, List.getD_cons_zero, List.getD_cons_succ, Bool.not_false, ↓oLe_sign, ↓oMulS, ↓dDic, ↓dLock, ↓dGetS, ↓dStD, ↓dInS, ↓oInD, ↓dKeys, ↓dGet1, ↓dGet2, ↓dRev, ↓dMulL, ↓dCount, ↓dScrSl, ↓dScrLen, ↓dScrList, ↓oStrI]
    refine ⟨w - 1, by omega, p + 1, by omega, by omega, fun q a b => ?_, ?_⟩
    · by_cases e : q = p
      · rw [e]; exact hp
      · exact hm q a (by omega)
    · rw [show ((p : Nat) : Int) + 1 = ((p + 1 : Nat) : Int) by omega]
def S_least_period : FnSpec := fnSpec 1 false (fun t : List Nat => [.str t]) (fun t => 0 < t.length ∧ t.length ≤ 1000000) fun t => .int (lp t : Nat)
/-- least_period: slots 0 text -/
def D_least_period : DTS := (dRet (dUp (dBin oSub (dLenS 0) (dBin oIx (dFz (dCallF S_front_lengths (dCons (dVar 0) dNil))) (dUn oNeg (dC (.int 1)))))))
theorem fronts_last {t : List Nat} (h : 0 < t.length) : atI (il (frontsL t t.length)) (-1) = some (.int (fl t t.length : Nat)) := by
  obtain ⟨n, hn⟩ : ∃ n, t.length = n + 1 := ⟨t.length - 1, by omega⟩
  rw [hn, frontsL_succ]
  have : il (frontsL t n ++ [fl t (n + 1)]) = il (frontsL t n) ++ [D.int (fl t (n + 1) : Nat)] := by simp [il]
  rw [this]
  unfold atI ixN
  rw [if_neg (by decide), if_pos (by rw [List.length_append]; simp; omega), Option.bind_some, List.length_append, List.length_singleton, show ((-1 : Int) + (((il (frontsL t n)).length + 1 : Nat) : Int)).toNat = (il (frontsL t n)).length by omega]
  simp
theorem sem_least_period : ∀ ds Kd, S_least_period.ds ds Kd → D_least_period (endsOf S_least_period Kd) (env0 1 [false] ds) := by
  rintro ds Kd ⟨t, rfl, ⟨h0, hz⟩, post⟩
  show D_least_period (endsOf S_least_period Kd) [.fz (.str t)]
  simp only [↓D_least_period, ↓dSeq, ↓dNext, ↓dBreak, ↓dCont, ↓dNever, ↓dRet, ↓dRetN, ↓dDrop, ↓dSet, ↓dIf, ↓dAug, ↓dAsg, ↓dPar, ↓dVar, ↓dMove, ↓dC, ↓dFz, ↓dUp, ↓dNil, ↓dCons, ↓dTup, ↓dLst, ↓dBin, ↓dUn, ↓dChain, ↓dTest, ↓dAnd, ↓dOr, ↓dNot, ↓dAndV, ↓dOrV, ↓dNotV, ↓dIfE, ↓dgName, ↓dgNil, ↓dgCons, ↓dgTup, ↓dIt, ↓dRng1, ↓dRng2, ↓dZip, ↓dEnum, ↓u_for, ↓u_lc, ↓dYes, ↓u_call, ↓u_callF, ↓u_callIo, ↓dCB, ↓dCBF, ↓dBinS, ↓dLenS, ↓dSl, ↓dSlS, ↓dNo, ↓dPt, ↓dStL, ↓dApp, ↓dExt, ↓dJoin, ↓dRg1, ↓dRg2, ↓dTupRg, ↓dLstRg, ↓oSub, ↓oMulI, ↓oMul, ↓oFdiv, ↓oMod, ↓oPow, ↓oShr, ↓oXor, ↓oNeg, ↓oAdd, ↓oAug, ↓oLt, ↓oLe, ↓oGt, ↓oGe, ↓oI, ↓oIx, ↓oLen, ↓oInt, ↓oOrd, ↓oAbs, ↓oStL, ↓oIn, ↓oNin, ↓oInB, ↓isi_int, ↓isi_int_bl, ↓isi_int_str, ↓isi_int_tup, ↓isi_int_lst, ↓isi_str, ↓isi_str_int, ↓isi_tup, ↓isi_tup_int, ↓isi_tup_str, ↓isi_tup_lst, ↓isi_lst, ↓isi_lst_tup, ↓isi_lst_int, ↓isi_lst_str, ↓cv, ↓Cell.val, ↓Cell.up, ↓Cell.own, ↓lenD, ↓itemsOf, List.getElem?_cons_zero, List.getElem?_cons_succ, List.set_cons_zero, List.set_cons_succ, Option.bind_some, Option.isSome_some, List.length_cons, List.length_nil, true_and, and_true, ↓ixN_lit, ↓atI_lit, ↓reduceIte, Nat.reduceAdd, Nat.reduceLT, Nat.reduceSub, Nat.zero_add, Nat.reduceLeDiff, Nat.lt_add_one, Nat.zero_lt_succ, ↓oEq_int, ↓oNe_int, ↓oEq_str, ↓oNe_str, ↓oEq_bl, ↓oNe_bl, decide_eq_true_eq, Bool.false_eq_true, ↓u_while, ↓ownAt, List.all_cons, List.all_nil, Bool.and_true, List.getD_cons_zero, List.getD_cons_succ, Bool.not_false, ↓oLe_sign, ↓oMulS, ↓dDic, ↓dLock, ↓dGetS, ↓dStD, ↓dInS, ↓oInD, ↓dKeys, ↓dGet1, ↓dGet2, ↓dRev, ↓dMulL, ↓dCount, ↓dScrSl, ↓dScrLen, ↓dScrList, ↓oStrI]
  refine ⟨rfl, onF t rfl hz ?_⟩
  simp only [↓dSeq, ↓dNext, ↓dBreak, ↓dCont, ↓dNever, ↓dRet, ↓dRetN, ↓dDrop, ↓dSet, ↓dIf, ↓dAug, ↓dAsg, ↓dPar, ↓dVar, ↓dMove, ↓dC, ↓dFz, ↓dUp, ↓dNil, ↓dCons, ↓dTup, ↓dLst, ↓dBin, ↓dUn, ↓dChain, ↓dTest, ↓dAnd, ↓dOr, ↓dNot, ↓dAndV, ↓dOrV, ↓dNotV, ↓dIfE, ↓dgName, ↓dgNil, ↓dgCons, ↓dgTup, ↓dIt, ↓dRng1, ↓dRng2, ↓dZip, ↓dEnum, ↓u_for, ↓u_lc, ↓dYes, ↓u_call, ↓u_callF, ↓u_callIo, ↓dCB, ↓dCBF, ↓dBinS, ↓dLenS, ↓dSl, ↓dSlS, ↓dNo, ↓dPt, ↓dStL, ↓dApp, ↓dExt, ↓dJoin, ↓dRg1, ↓dRg2, ↓dTupRg, ↓dLstRg, ↓oSub, ↓oMulI, ↓oMul, ↓oFdiv, ↓oMod, ↓oPow, ↓oShr, ↓oXor, ↓oNeg, ↓oAdd, ↓oAug, ↓oLt, ↓oLe, ↓oGt, ↓oGe, ↓oI, ↓oIx, ↓oLen, ↓oInt, ↓oOrd, ↓oAbs, ↓oStL, ↓oIn, ↓oNin, ↓oInB, ↓isi_int, ↓isi_int_bl, ↓isi_int_str, ↓isi_int_tup, ↓isi_int_lst, ↓isi_str, ↓isi_str_int, ↓isi_tup, ↓isi_tup_int, ↓isi_tup_str, ↓isi_tup_lst, ↓isi_lst, ↓isi_lst_tup, ↓isi_lst_int, ↓isi_lst_str, ↓cv, ↓Cell.val, ↓Cell.up, ↓Cell.own, ↓lenD, ↓itemsOf, List.getElem?_cons_zero, List.getElem?_cons_succ, List.set_cons_zero, List.set_cons_succ, Option.bind_some, Option.isSome_some, List.length_cons, List.length_nil, true_and, and_true, ↓ixN_lit, ↓atI_lit, ↓reduceIte, Nat.reduceAdd, Nat.reduceLT, Nat.reduceSub, Nat.zero_add, Nat.reduceLeDiff, Nat.lt_add_one, Nat.zero_lt_succ, ↓oEq_int, ↓oNe_int, ↓oEq_str, ↓oNe_str, ↓oEq_bl, ↓oNe_bl, decide_eq_true_eq, Bool.false_eq_true, ↓u_while, ↓ownAt, List.all_cons, List.all_nil, Bool.and_true, List.getD_cons_zero, List.getD_cons_succ, Bool.not_false, ↓oLe_sign, ↓oMulS, ↓dDic, ↓dLock, ↓dGetS, ↓dStD, ↓dInS, ↓oInD, ↓dKeys, ↓dGet1, ↓dGet2, ↓dRev, ↓dMulL, ↓dCount, ↓dScrSl, ↓dScrLen, ↓dScrList, ↓oStrI, fronts_last h0]
  refine ⟨rfl, post _ _ ⟨?_, rfl⟩⟩
  have := fl_lt (t := t) h0
  rw [show ((t.length : Int) - (fl t t.length : Nat)) = ((lp t : Nat) : Int) by unfold lp; omega]
/-! ### two sorted lists of the same members are one -/
theorem sorted_one {α : Type} {R : α → α → Prop} (asym : ∀ a b, R a b → ¬ R b a) : ∀ {l m : List α}, l.Pairwise R → m.Pairwise R → (∀ x, x ∈ l ↔ x ∈ m) → l = m
  | [], [], _, _, _ => rfl
  | [], b :: m, _, _, h => absurd ((h b).mpr (List.mem_cons_self ..)) (by simp)
  | a :: l, [], _, _, h => absurd ((h a).mp (List.mem_cons_self ..)) (by simp)
  | a :: l, b :: m, hl, hm, h => by
    have hl' := List.pairwise_cons.mp hl
    have hm' := List.pairwise_cons.mp hm
    have irr : ∀ x, ¬ R x x := fun x hx => asym x x hx hx
    have e : a = b := by
      rcases List.mem_cons.mp ((h a).mp (List.mem_cons_self ..)) with e | q
      · exact e
      · rcases List.mem_cons.mp ((h b).mpr (List.mem_cons_self ..)) with e | q2
        · exact e.symm
        · exact absurd (hl'.1 b q2) (asym _ _ (hm'.1 a q))
    subst e
    congr 1
    refine sorted_one asym hl'.2 hm'.2 fun x => ⟨fun hx => ?_, fun hx => ?_⟩
    · rcases List.mem_cons.mp ((h x).mp (List.mem_cons_of_mem _ hx)) with e | q
      · subst e; exact absurd (hl'.1 _ hx) (irr _)
      · exact q
    · rcases List.mem_cons.mp ((h x).mpr (List.mem_cons_of_mem _ hx)) with e | q
      · subst e; exact absurd (hm'.1 _ hx) (irr _)
      · exact q
theorem range_sorted (n : Nat) : (List.range n).Pairwise (· < ·) := List.pairwise_lt_range
theorem natlt_asym (a b : Nat) (h : a < b) : ¬ b < a := by omega
/-- all periods, from below -/
def periodsN (t : List Nat) : List Nat := ((List.range t.length).map (· + 1)).filter fun p => decide (Per t p)
theorem periodsN_sorted (t : List Nat) : (periodsN t).Pairwise (· < ·) := by
  refine List.Pairwise.filter _ ?_
  rw [List.pairwise_map]
  exact (range_sorted _).imp fun h => by omega
theorem mem_periodsN {t : List Nat} {p : Nat} : p ∈ periodsN t ↔ 1 ≤ p ∧ p ≤ t.length ∧ Per t p := by
  unfold periodsN
  rw [List.mem_filter, List.mem_map, decide_eq_true_eq]
  constructor
  · rintro ⟨⟨k, hk, rfl⟩, h⟩
    have := List.mem_range.mp hk
    exact ⟨by omega, by omega, h⟩
  · rintro ⟨h1, h2, h⟩
    exact ⟨⟨p - 1, List.mem_range.mpr (by omega), by omega⟩, h⟩
theorem bordersN_sorted (t : List Nat) : (bordersN t).Pairwise (· < ·) := List.Pairwise.filter _ (range_sorted _)
theorem mem_bordersN {t : List Nat} {k : Nat} : k ∈ bordersN t ↔ 0 < k ∧ Bo t t.length k := by
  unfold bordersN
  rw [List.mem_filter, List.mem_range, decide_eq_true_eq]
  exact ⟨fun h => h.2, fun h => ⟨h.2.1, h⟩⟩
theorem periods_of {t : List Nat} (h0 : 0 < t.length) : (bordersN t).reverse.map (fun k => t.length - k) ++ [t.length] = periodsN t := by
  refine sorted_one natlt_asym ?_ (periodsN_sorted t) fun p => ?_
  · rw [List.pairwise_append]
    refine ⟨?_, List.pairwise_singleton _ _, fun a ha b hb => ?_⟩
    · rw [List.pairwise_map, List.pairwise_reverse]
      refine (List.Pairwise.and_mem.mp (bordersN_sorted t)).imp ?_
      rintro a b ⟨ha, hb, h⟩
      have := (mem_bordersN.mp hb).2.1
      omega
    · obtain ⟨k, hk, rfl⟩ := List.mem_map.mp ha
      have := mem_bordersN.mp (List.mem_reverse.mp hk)
      have := this.2.1
      rw [List.mem_singleton] at hb
      omega
  · rw [mem_periodsN, List.mem_append, List.mem_singleton, List.mem_map]
    constructor
    · rintro (⟨k, hk, rfl⟩ | rfl)
      · have hb := mem_bordersN.mp (List.mem_reverse.mp hk)
        have := hb.2.1
        refine ⟨by omega, by omega, (per_bo (by omega) (by omega)).mpr ?_⟩
        rw [show t.length - (t.length - k) = k by omega]
        exact hb.2
      · exact ⟨h0, Nat.le_refl _, per_len t⟩
    · rintro ⟨h1, h2, h⟩
      by_cases e : p = t.length
      · exact .inr e
      · refine .inl ⟨t.length - p, List.mem_reverse.mpr (mem_bordersN.mpr ⟨by omega, (per_bo h1 h2).mp h⟩), by omega⟩
def S_periods : FnSpec := fnSpec 1 false (fun t : List Nat => [.str t]) (fun t => Signs t ∧ t.length ≤ 2000) fun t => .tup (il (periodsN t))
/-- periods: slots 0 text, 1 many -/
def D_periods : DTS := (dSeq (dDrop (dCall S_check_text (dCons (dVar 0) dNil))) (dSeq (dIf (dTest (dBin oEq (dVar 0) (dC (.str [])))) (dRet (dUp (dTup dNil))) dNext) (dRet (dUp (dCB oTuple (dCons (dBin oAdd (dFz (dLc (dIt (dFz (dRev (dFz (dCallF S_border_lengths (dCons (dVar 0) dNil)))))) (dgName 1) dYes (dBin oSub (dLenS 0) (dVar 1)) [1])) (dFz (dLst (dCons (dLenS 0) dNil)))) dNil))))))
theorem sem_periods : ∀ ds Kd, S_periods.ds ds Kd → D_periods (endsOf S_periods Kd) (env0 2 [false] ds) := by
  rintro ds Kd ⟨t, rfl, ⟨hs, hz⟩, post⟩
  show D_periods (endsOf S_periods Kd) [.fz (.str t), .un]
  simp only [↓D_periods, ↓dSeq, ↓dNext, ↓dBreak, ↓dCont, ↓dNever, ↓dRet, ↓dRetN, ↓dDrop, ↓dSet, ↓dIf, ↓dAug, ↓dAsg, ↓dPar, ↓dVar, ↓dMove, ↓dC, ↓dFz, ↓dUp, ↓dNil, ↓dCons, ↓dTup, ↓dLst, ↓dBin, ↓dUn, ↓dChain, ↓dTest, ↓dAnd, ↓dOr, ↓dNot, ↓dAndV, ↓dOrV, ↓dNotV, ↓dIfE, ↓dgName, ↓dgNil, ↓dgCons, ↓dgTup, ↓dIt, ↓dRng1, ↓dRng2, ↓dZip, ↓dEnum, ↓u_for, ↓u_lc, ↓dYes, ↓u_call, ↓u_callF, ↓u_callIo, ↓dCB, ↓dCBF, ↓dBinS, ↓dLenS, ↓dSl, ↓dSlS, ↓dNo, ↓dPt, ↓dStL, ↓dApp, ↓dExt, ↓dJoin, ↓dRg1, ↓dRg2, ↓dTupRg, ↓dLstRg, ↓oSub, ↓oMulI, ↓oMul, ↓oFdiv, ↓oMod, ↓oPow, ↓oShr, ↓oXor, ↓oNeg, ↓oAdd, ↓oAug, ↓oLt, ↓oLe, ↓oGt, ↓oGe, ↓oI, ↓oIx, ↓oLen, ↓oInt, ↓oOrd, ↓oAbs, ↓oStL, ↓oIn, ↓oNin, ↓oInB, ↓isi_int, ↓isi_int_bl, ↓isi_int_str, ↓isi_int_tup, ↓isi_int_lst, ↓isi_str, ↓isi_str_int, ↓isi_tup, ↓isi_tup_int, ↓isi_tup_str, ↓isi_tup_lst, ↓isi_lst, ↓isi_lst_tup, ↓isi_lst_int, ↓isi_lst_str, ↓cv, ↓Cell.val, ↓Cell.up, ↓Cell.own, ↓lenD, ↓itemsOf, List.getElem?_cons_zero, List.getElem?_cons_succ, List.set_cons_zero, List.set_cons_succ, Option.bind_some, Option.isSome_some, List.length_cons, List.length_nil, true_and, and_true, ↓ixN_lit, ↓atI_lit, ↓reduceIte, Nat.reduceAdd, Nat.reduceLT, Nat.reduceSub, Nat.zero_add, Nat.reduceLeDiff, Nat.lt_add_one, Nat.zero_lt_succ, ↓oEq_int, ↓oNe_int, ↓oEq_str, ↓oNe_str, ↓oEq_bl, ↓oNe_bl, decide_eq_true_eq, Bool.false_eq_true, ↓u_while, ↓ownAt, List.all_cons, List.all_nil, Bool.and_true, List.getD_cons_zero, List.getD_cons_succ, Bool.not_false, ↓oLe_sign, ↓oMulS, ↓dDic, ↓dLock, ↓dGetS, ↓dStD, ↓dInS, ↓oInD, ↓dKeys, ↓dGet1, ↓dGet2, ↓dRev, ↓dMulL, ↓dCount, ↓dScrSl, ↓dScrLen, ↓dScrList, ↓oStrI]
  refine ⟨rfl, onF t rfl ⟨hs, hz⟩ ?_⟩
  simp only [↓dSeq, ↓dNext, ↓dBreak, ↓dCont, ↓dNever, ↓dRet, ↓dRetN, ↓dDrop, ↓dSet, ↓dIf, ↓dAug, ↓dAsg, ↓dPar, ↓dVar, ↓dMove, ↓dC, ↓dFz, ↓dUp, ↓dNil, ↓dCons, ↓dTup, ↓dLst, ↓dBin, ↓dUn, ↓dChain, ↓dTest, ↓dAnd, ↓dOr, ↓dNot, ↓dAndV, ↓dOrV, ↓dNotV, ↓dIfE, ↓dgName, ↓dgNil, ↓dgCons, ↓dgTup, ↓dIt, ↓dRng1, ↓dRng2, ↓dZip, ↓dEnum, ↓u_for, ↓u_lc, ↓dYes, ↓u_call, ↓u_callF, ↓u_callIo, ↓dCB, ↓dCBF, ↓dBinS, ↓dLenS, ↓dSl, ↓dSlS, ↓dNo, ↓dPt, ↓dStL, ↓dApp, ↓dExt, ↓dJoin, ↓dRg1, ↓dRg2, ↓dTupRg, ↓dLstRg, ↓oSub, ↓oMulI, ↓oMul, ↓oFdiv, ↓oMod, ↓oPow, ↓oShr, ↓oXor, ↓oNeg, ↓oAdd, ↓oAug, ↓oLt, ↓oLe, ↓oGt, ↓oGe, ↓oI, ↓oIx, ↓oLen, ↓oInt, ↓oOrd, ↓oAbs, ↓oStL, ↓oIn, ↓oNin, ↓oInB, ↓isi_int, ↓isi_int_bl, ↓isi_int_str, ↓isi_int_tup, ↓isi_int_lst, ↓isi_str, ↓isi_str_int, ↓isi_tup, ↓isi_tup_int, ↓isi_tup_str, ↓isi_tup_lst, ↓isi_lst, ↓isi_lst_tup, ↓isi_lst_int, ↓isi_lst_str, ↓cv, ↓Cell.val, ↓Cell.up, ↓Cell.own, ↓lenD, ↓itemsOf, List.getElem?_cons_zero, List.getElem?_cons_succ, List.set_cons_zero, List.set_cons_succ, Option.bind_some, Option.isSome_some, List.length_cons, List.length_nil, true_and, and_true, ↓ixN_lit, ↓atI_lit, ↓reduceIte, Nat.reduceAdd, Nat.reduceLT, Nat.reduceSub, Nat.zero_add, Nat.reduceLeDiff, Nat.lt_add_one, Nat.zero_lt_succ, ↓oEq_int, ↓oNe_int, ↓oEq_str, ↓oNe_str, ↓oEq_bl, ↓oNe_bl, decide_eq_true_eq, Bool.false_eq_true, ↓u_while, ↓ownAt, List.all_cons, List.all_nil, Bool.and_true, List.getD_cons_zero, List.getD_cons_succ, Bool.not_false, ↓oLe_sign, ↓oMulS, ↓dDic, ↓dLock, ↓dGetS, ↓dStD, ↓dInS, ↓oInD, ↓dKeys, ↓dGet1, ↓dGet2, ↓dRev, ↓dMulL, ↓dCount, ↓dScrSl, ↓dScrLen, ↓dScrList, ↓oStrI]
  by_cases he : t = []
  · subst he
    simp only [decide_true, ↓dSeq, ↓dNext, ↓dBreak, ↓dCont, ↓dNever, ↓dRet, ↓dRetN, ↓dDrop, ↓dSet, ↓dIf, ↓dAug, ↓dAsg, ↓dPar, ↓dVar, ↓dMove, ↓dC, ↓dFz, ↓dUp, ↓dNil, ↓dCons, ↓dTup, ↓dLst, ↓dBin, ↓dUn, ↓dChain, ↓dTest, ↓dAnd, ↓dOr, ↓dNot, ↓dAndV, ↓dOrV, ↓dNotV, ↓dIfE, ↓dgName, ↓dgNil, ↓dgCons, ↓dgTup, ↓dIt, ↓dRng1, ↓dRng2, ↓dZip, ↓dEnum, ↓u_for, ↓u_lc, ↓dYes, ↓u_call, ↓u_callF, ↓u_callIo, ↓dCB, ↓dCBF, ↓dBinS, ↓dLenS, ↓dSl, ↓dSlS, ↓dNo, ↓dPt, ↓dStL, ↓dApp, ↓dExt, ↓dJoin, ↓dRg1, ↓dRg2, ↓dTupRg, ↓dLstRg, ↓oSub, ↓oMulI, ↓oMul, ↓oFdiv, ↓oMod, ↓oPow, ↓oShr, ↓oXor, ↓oNeg, ↓oAdd, ↓oAug, ↓oLt, ↓oLe, ↓oGt, ↓oGe, ↓oI, ↓oIx, ↓oLen, ↓oInt, ↓oOrd, ↓oAbs, ↓oStL, ↓oIn, ↓oNin, ↓oInB, ↓isi_int, ↓isi_int_bl, ↓isi_int_str, ↓isi_int_tup, ↓isi_int_lst, ↓isi_str, ↓isi_str_int, ↓isi_tup, ↓isi_tup_int, ↓isi_tup_str, ↓isi_tup_lst, ↓isi_lst, ↓isi_lst_tup, ↓isi_lst_int, ↓isi_lst_str, ↓cv, ↓Cell.val, ↓Cell.up, ↓Cell.own, ↓lenD, ↓itemsOf, List.getElem?_cons_zero, List.getElem?_cons_succ, List.set_cons_zero, List.set_cons_succ, Option.bind_some, Option.isSome_some, List.length_cons, List.length_nil, true_and, and_true, ↓ixN_lit, ↓atI_lit, ↓reduceIte, Nat.reduceAdd, Nat.reduceLT, Nat.reduceSub, Nat.zero_add, Nat.reduceLeDiff, Nat.lt_add_one, Nat.zero_lt_succ, ↓oEq_int, ↓oNe_int, ↓oEq_str, ↓oNe_str, ↓oEq_bl, ↓oNe_bl, decide_eq_true_eq, Bool.false_eq_true, ↓u_while, ↓ownAt, List.all_cons, List.all_nil, Bool.and_true, List.getD_cons_zero, List.getD_cons_succ, Bool.not_false, ↓oLe_sign, ↓oMulS, ↓dDic, ↓dLock, ↓dGetS, ↓dStD, ↓dInS, ↓oInD, ↓dKeys, ↓dGet1, ↓dGet2, ↓dRev, ↓dMulL, ↓dCount, ↓dScrSl, ↓dScrLen, ↓dScrList, ↓oStrI]
    exact ⟨by decide, rfl, post _ _ ⟨rfl, rfl⟩⟩
  · have h0 : 0 < t.length := List.length_pos_iff.mpr he
    rw [if_neg he]
    refine ⟨rfl, onF t rfl (by show t.length ≤ 1000000; omega) ?_⟩
    simp only [↓dSeq, ↓dNext, ↓dBreak, ↓dCont, ↓dNever, ↓dRet, ↓dRetN, ↓dDrop, ↓dSet, ↓dIf, ↓dAug, ↓dAsg, ↓dPar, ↓dVar, ↓dMove, ↓dC, ↓dFz, ↓dUp, ↓dNil, ↓dCons, ↓dTup, ↓dLst, ↓dBin, ↓dUn, ↓dChain, ↓dTest, ↓dAnd, ↓dOr, ↓dNot, ↓dAndV, ↓dOrV, ↓dNotV, ↓dIfE, ↓dgName, ↓dgNil, ↓dgCons, ↓dgTup, ↓dIt, ↓dRng1, ↓dRng2, ↓dZip, ↓dEnum, ↓u_for, ↓u_lc, ↓dYes, ↓u_call, ↓u_callF, ↓u_callIo, ↓dCB, ↓dCBF, ↓dBinS, ↓dLenS, ↓dSl, ↓dSlS, ↓dNo, ↓dPt, ↓dStL, ↓dApp, ↓dExt, ↓dJoin, ↓dRg1, ↓dRg2, ↓dTupRg, ↓dLstRg, ↓oSub, ↓oMulI, ↓oMul, ↓oFdiv, ↓oMod, ↓oPow, ↓oShr, ↓oXor, ↓oNeg, ↓oAdd, ↓oAug, ↓oLt, ↓oLe, ↓oGt, ↓oGe, ↓oI, ↓oIx, ↓oLen, ↓oInt, ↓oOrd, ↓oAbs, ↓oStL, ↓oIn, ↓oNin, ↓oInB, ↓isi_int, ↓isi_int_bl, ↓isi_int_str, ↓isi_int_tup, ↓isi_int_lst, ↓isi_str, ↓isi_str_int, ↓isi_tup, ↓isi_tup_int, ↓isi_tup_str, ↓isi_tup_lst, ↓isi_lst, ↓isi_lst_tup, ↓isi_lst_int, ↓isi_lst_str, ↓cv, ↓Cell.val, ↓Cell.up, ↓Cell.own, ↓lenD, ↓itemsOf, List.getElem?_cons_zero, List.getElem?_cons_succ, List.set_cons_zero, List.set_cons_succ, Option.bind_some, Option.isSome_some, List.length_cons, List.length_nil, true_and, and_true, ↓ixN_lit, ↓atI_lit, ↓reduceIte, Nat.reduceAdd, Nat.reduceLT, Nat.reduceSub, Nat.zero_add, Nat.reduceLeDiff, Nat.lt_add_one, Nat.zero_lt_succ, ↓oEq_int, ↓oNe_int, ↓oEq_str, ↓oNe_str, ↓oEq_bl, ↓oNe_bl, decide_eq_true_eq, Bool.false_eq_true, ↓u_while, ↓ownAt, List.all_cons, List.all_nil, Bool.and_true, List.getD_cons_zero, List.getD_cons_succ, Bool.not_false, ↓oLe_sign, ↓oMulS, ↓dDic, ↓dLock, ↓dGetS, ↓dStD, ↓dInS, ↓oInD, ↓dKeys, ↓dGet1, ↓dGet2, ↓dRev, ↓dMulL, ↓dCount, ↓dScrSl, ↓dScrLen, ↓dScrList, ↓oStrI]
    have er : (il (bordersN t)).reverse = il (bordersN t).reverse := by simp [il]
    rw [er]
    refine lcB_of (lcW_map _ (fun d => match d with | .int i => .int ((t.length : Int) - i) | _ => .non) _ (fun x hx kT hT => ?_) fun ρ' hw => ?_)
    · obtain ⟨c, hc, rfl⟩ := List.mem_map.mp hx
      simp only [wipeE, ↓dSeq, ↓dNext, ↓dBreak, ↓dCont, ↓dNever, ↓dRet, ↓dRetN, ↓dDrop, ↓dSet, ↓dIf, ↓dAug, ↓dAsg, ↓dPar, ↓dVar, ↓dMove, ↓dC, ↓dFz, ↓dUp, ↓dNil, ↓dCons, ↓dTup, ↓dLst, ↓dBin, ↓dUn, ↓dChain, ↓dTest, ↓dAnd, ↓dOr, ↓dNot, ↓dAndV, ↓dOrV, ↓dNotV, ↓dIfE, ↓dgName, ↓dgNil, ↓dgCons, ↓dgTup, ↓dIt, ↓dRng1, ↓dRng2, ↓dZip, ↓dEnum, ↓u_for, ↓u_lc, ↓dYes, ↓u_call, ↓u_callF, ↓u_callIo, ↓dCB, ↓dCBF, ↓dBinS, ↓dLenS, ↓dSl, ↓dSlS, ↓dNo, ↓dPt, ↓dStL, ↓dApp, ↓dExt, ↓dJoin, ↓dRg1, ↓dRg2, ↓dTupRg, ↓dLstRg, ↓oSub, ↓oMulI, ↓oMul, ↓oFdiv, ↓oMod, ↓oPow, ↓oShr, ↓oXor, ↓oNeg, ↓oAdd, ↓oAug, ↓oLt, ↓oLe, ↓oGt, ↓oGe, ↓oI, ↓oIx, ↓oLen, ↓oInt, ↓oOrd, ↓oAbs, ↓oStL, ↓oIn, ↓oNin, ↓oInB, ↓isi_int, ↓isi_int_bl, ↓isi_int_str, ↓isi_int_tup, ↓isi_int_lst, ↓isi_str, ↓isi_str_int, ↓isi_tup, ↓isi_tup_int, ↓isi_tup_str, ↓isi_tup_lst, ↓isi_lst, ↓isi_lst_tup, ↓isi_lst_int, ↓isi_lst_str, ↓cv, ↓Cell.val, ↓Cell.up, ↓Cell.own, ↓lenD, ↓itemsOf, List.getElem?_cons_zero, List.getElem?_cons_succ, List.set_cons_zero, List.set_cons_succ, Option.bind_some, Option.isSome_some, List.length_cons, List.length_nil, true_and, and_true, ↓ixN_lit, ↓atI_lit, ↓reduceIte, Nat.reduceAdd, Nat.reduceLT, Nat.reduceSub, Nat.zero_add, Nat.reduceLeDiff, Nat.lt_add_one, Nat.zero_lt_succ, ↓oEq_int, ↓oNe_int, ↓oEq_str, ↓oNe_str, ↓oEq_bl, ↓oNe_bl, decide_eq_true_eq, Bool.false_eq_true, ↓u_while, ↓ownAt, List.all_cons, List.all_nil, Bool.and_true, List.getD_cons_zero, List.getD_cons_succ, Bool.not_false, ↓oLe_sign, ↓oMulS, ↓dDic, ↓dLock, ↓dGetS, ↓dStD, ↓dInS, ↓oInD, ↓dKeys, ↓dGet1, ↓dGet2, ↓dRev, ↓dMulL, ↓dCount, ↓dScrSl, ↓dScrLen, ↓dScrList, ↓oStrI]
      exact hT _ rfl
    · have em : (il (bordersN t).reverse).map (fun d => match d with | .int i => D.int ((t.length : Int) - i) | _ => .non) = il ((bordersN t).reverse.map fun k => t.length - k) := by
        unfold il
        rw [List.map_map, List.map_map]
        refine List.map_congr_left fun k hk => ?_
        have := (mem_bordersN.mp (List.mem_reverse.mp hk)).2.1
        show D.int ((t.length : Int) - (k : Nat)) = D.int ((t.length - k : Nat) : Int)
        rw [show ((t.length : Int) - (k : Nat)) = ((t.length - k : Nat) : Int) by omega]
      simp only [rest_of_wipe hw, ↓dSeq, ↓dNext, ↓dBreak, ↓dCont, ↓dNever, ↓dRet, ↓dRetN, ↓dDrop, ↓dSet, ↓dIf, ↓dAug, ↓dAsg, ↓dPar, ↓dVar, ↓dMove, ↓dC, ↓dFz, ↓dUp, ↓dNil, ↓dCons, ↓dTup, ↓dLst, ↓dBin, ↓dUn, ↓dChain, ↓dTest, ↓dAnd, ↓dOr, ↓dNot, ↓dAndV, ↓dOrV, ↓dNotV, ↓dIfE, ↓dgName, ↓dgNil, ↓dgCons, ↓dgTup, ↓dIt, ↓dRng1, ↓dRng2, ↓dZip, ↓dEnum, ↓u_for, ↓u_lc, ↓dYes, ↓u_call, ↓u_callF, ↓u_callIo, ↓dCB, ↓dCBF, ↓dBinS, ↓dLenS, ↓dSl, ↓dSlS, ↓dNo, ↓dPt, ↓dStL, ↓dApp, ↓dExt, ↓dJoin, ↓dRg1, ↓dRg2, ↓dTupRg, ↓dLstRg, ↓oSub, ↓oMulI, ↓oMul, ↓oFdiv, ↓oMod, ↓oPow, ↓oShr, ↓oXor, ↓oNeg, ↓oAdd, ↓oAug, ↓oLt, ↓oLe, ↓oGt, ↓oGe, ↓oI, ↓oIx, ↓oLen, ↓oInt, ↓oOrd, ↓oAbs, ↓oStL, ↓oIn, ↓oNin, ↓oInB, ↓isi_int, ↓isi_int_bl, ↓isi_int_str, ↓isi_int_tup, ↓isi_int_lst, ↓isi_str, ↓isi_str_int, ↓isi_tup, ↓isi_tup_int, ↓isi_tup_str, ↓isi_tup_lst, ↓isi_lst, ↓isi_lst_tup, ↓isi_lst_int, ↓isi_lst_str, ↓cv, ↓Cell.val, ↓Cell.up, ↓Cell.own, ↓lenD, ↓itemsOf, List.getElem?_cons_zero, List.getElem?_cons_succ, List.set_cons_zero, List.set_cons_succ, Option.bind_some, Option.isSome_some, List.length_cons, List.length_nil, true_and, and_true, ↓ixN_lit, ↓atI_lit, ↓reduceIte, Nat.reduceAdd, Nat.reduceLT, Nat.reduceSub, Nat.zero_add, Nat.reduceLeDiff, Nat.lt_add_one, Nat.zero_lt_succ, ↓oEq_int, ↓oNe_int, ↓oEq_str, ↓oNe_str, ↓oEq_bl, ↓oNe_bl, decide_eq_true_eq, Bool.false_eq_true, ↓u_while, ↓ownAt, List.all_cons, List.all_nil, Bool.and_true, List.getD_cons_zero, List.getD_cons_succ, Bool.not_false, ↓oLe_sign, ↓oMulS, ↓dDic, ↓dLock, ↓dGetS, ↓dStD, ↓dInS, ↓oInD, ↓dKeys, ↓dGet1, ↓dGet2, ↓dRev, ↓dMulL, ↓dCount, ↓dScrSl, ↓dScrLen, ↓dScrList, ↓oStrI]
      rw [em]
      have e2 : il ((bordersN t).reverse.map fun k => t.length - k) ++ [D.int (t.length : Nat)] = il (periodsN t) := by
        rw [← periods_of h0]
        simp [il]
      have e3 : (il ((bordersN t).reverse.map fun k => t.length - k)).length + 1 ≤ 2000 := by
        have h := congrArg List.length e2
        rw [List.length_append, List.length_singleton] at h
        rw [h, il_length]
        have h2 := List.length_filter_le (fun p => decide (Per t p)) ((List.range t.length).map (· + 1))
        rw [List.length_map, List.length_range] at h2
        show (periodsN t).length ≤ 2000
        unfold periodsN
        omega
      refine ⟨by decide, by show _ ≤ 16777216; omega, ?_⟩
      rw [e2]
      exact ⟨rfl, post _ _ ⟨rfl, rfl⟩⟩
end DL


namespace DL
open PySem PySem.Spec PyProof.Rows L2

def S_borders : FnSpec := fnSpec 1 true (fun t : List Nat => [.str t]) (fun t => Signs t ∧ t.length ≤ 2000) fun t => .lst (sl ((bordersN t).map t.take))
/-- borders: slots 0 text, 1 many -/
def D_borders : DTS := (dSeq (dDrop (dCall S_check_text (dCons (dVar 0) dNil))) (dRet (dLc (dIt (dFz (dCallF S_border_lengths (dCons (dVar 0) dNil)))) (dgName 1) dYes (dSlS 0 dNo (dPt (dVar 1))) [1])))
theorem sem_borders : ∀ ds Kd, S_borders.ds ds Kd → D_borders (endsOf S_borders Kd) (env0 2 [false] ds) := by
  rintro ds Kd ⟨t, rfl, ⟨hs, hz⟩, post⟩
  show D_borders (endsOf S_borders Kd) [.fz (.str t), .un]
  simp only [↓D_borders, ↓dSeq, ↓dNext, ↓dBreak, ↓dCont, ↓dNever, ↓dRet, ↓dRetN, ↓dDrop, ↓dSet, ↓dIf, ↓dAug, ↓dAsg, ↓dPar, ↓dVar, ↓dMove, ↓dC, ↓dFz, ↓dUp, ↓dNil, ↓dCons, ↓dTup, ↓dLst, ↓dBin, ↓dUn, ↓dChain, ↓dTest, ↓dAnd, ↓dOr, ↓dNot, ↓dAndV, ↓dOrV, ↓dNotV, ↓dIfE, ↓dgName, ↓dgNil, ↓dgCons, ↓dgTup, ↓dIt, ↓dRng1, ↓dRng2, ↓dZip, ↓dEnum, ↓u_for, ↓u_lc, ↓dYes, ↓u_call, ↓u_callF, ↓u_callIo, ↓dCB, ↓dCBF, ↓dBinS, ↓dLenS, ↓dSl, ↓dSlS, ↓dNo, ↓dPt, ↓dStL, ↓dApp, ↓dExt, ↓dJoin, ↓dRg1, ↓dRg2, ↓dTupRg, ↓dLstRg, ↓oSub, ↓oMulI, ↓oMul, ↓oFdiv, ↓oMod, ↓oPow, ↓oShr, ↓oXor, ↓oNeg, ↓oAdd, ↓oAug, ↓oLt, ↓oLe, ↓oGt, ↓oGe, ↓oI, ↓oIx, ↓oLen, ↓oInt, ↓oOrd, ↓oAbs, ↓oStL, ↓oIn, ↓oNin, ↓oInB, ↓isi_int, ↓isi_int_bl, ↓isi_int_str, ↓isi_int_tup, ↓isi_int_lst, ↓isi_str, ↓isi_str_int, ↓isi_tup, ↓isi_tup_int, ↓isi_tup_str, ↓isi_tup_lst, ↓isi_lst, ↓isi_lst_tup, ↓isi_lst_int, ↓isi_lst_str, ↓cv, ↓Cell.val, ↓Cell.up, ↓Cell.own, ↓lenD, ↓itemsOf, List.getElem?_cons_zero, List.getElem?_cons_succ, List.set_cons_zero, List.set_cons_succ, Option.bind_some, Option.isSome_some, List.length_cons, List.length_nil, true_and, and_true, ↓ixN_lit, ↓atI_lit, ↓reduceIte, Nat.reduceAdd, Nat.reduceLT, Nat.reduceSub, Nat.zero_add, Nat.reduceLeDiff, Nat.lt_add_one, Nat.zero_lt_succ, ↓oEq_int, ↓oNe_int, ↓oEq_str, ↓oNe_str, ↓oEq_bl, ↓oNe_bl, decide_eq_true_eq, Bool.false_eq_true, ↓u_while, ↓ownAt, List.all_cons, List.all_nil, Bool.and_true, List.getD_cons_zero, List.getD_cons_succ, Bool.not_false, ↓oLe_sign, ↓oMulS, ↓dDic, ↓dLock, ↓dGetS, ↓dStD, ↓dInS, ↓oInD, ↓dKeys, ↓dGet1, ↓dGet2, ↓dRev, ↓dMulL, ↓dCount, ↓dScrSl, ↓dScrLen, ↓dScrList, ↓oStrI]
  refine ⟨rfl, onF t rfl ⟨hs, hz⟩ ?_⟩
  simp only [↓dSeq, ↓dNext, ↓dBreak, ↓dCont, ↓dNever, ↓dRet, ↓dRetN, ↓dDrop, ↓dSet, ↓dIf, ↓dAug, ↓dAsg, ↓dPar, ↓dVar, ↓dMove, ↓dC, ↓dFz, ↓dUp, ↓dNil, ↓dCons, ↓dTup, ↓dLst, ↓dBin, ↓dUn, ↓dChain, ↓dTest, ↓dAnd, ↓dOr, ↓dNot, ↓dAndV, ↓dOrV, ↓dNotV, ↓dIfE, ↓dgName, ↓dgNil, ↓dgCons, ↓dgTup, ↓dIt, ↓dRng1, ↓dRng2, ↓dZip, ↓dEnum, ↓u_for, ↓u_lc, ↓dYes, ↓u_call, ↓u_callF, ↓u_callIo, ↓dCB, ↓dCBF, ↓dBinS, ↓dLenS, ↓dSl, ↓dSlS, ↓dNo, ↓dPt, ↓dStL, ↓dApp, ↓dExt, ↓dJoin, ↓dRg1, ↓dRg2, ↓dTupRg, ↓dLstRg, ↓oSub, ↓oMulI, ↓oMul, ↓oFdiv, ↓oMod, ↓oPow, ↓oShr, ↓oXor, ↓oNeg, ↓oAdd, ↓oAug, ↓oLt, ↓oLe, ↓oGt, ↓oGe, ↓oI, ↓oIx, ↓oLen, ↓oInt, ↓oOrd, ↓oAbs, ↓oStL, ↓oIn, ↓oNin, ↓oInB, ↓isi_int, ↓isi_int_bl, ↓isi_int_str, ↓isi_int_tup, ↓isi_int_lst, ↓isi_str, ↓isi_str_int, ↓isi_tup, ↓isi_tup_int, ↓isi_tup_str, ↓isi_tup_lst, ↓isi_lst, ↓isi_lst_tup, ↓isi_lst_int, ↓isi_lst_str, ↓cv, ↓Cell.val, ↓Cell.up, ↓Cell.own, ↓lenD, ↓itemsOf, List.getElem?_cons_zero, List.getElem?_cons_succ, List.set_cons_zero, List.set_cons_succ, Option.bind_some, Option.isSome_some, List.length_cons, List.length_nil, true_and, and_true, ↓ixN_lit, ↓atI_lit, ↓reduceIte, Nat.reduceAdd, Nat.reduceLT, Nat.reduceSub, Nat.zero_add, Nat.reduceLeDiff, Nat.lt_add_one, Nat.zero_lt_succ, ↓oEq_int, ↓oNe_int, ↓oEq_str, ↓oNe_str, ↓oEq_bl, ↓oNe_bl, decide_eq_true_eq, Bool.false_eq_true, ↓u_while, ↓ownAt, List.all_cons, List.all_nil, Bool.and_true, List.getD_cons_zero, List.getD_cons_succ, Bool.not_false, ↓oLe_sign, ↓oMulS, ↓dDic, ↓dLock, ↓dGetS, ↓dStD, ↓dInS, ↓oInD, ↓dKeys, ↓dGet1, ↓dGet2, ↓dRev, ↓dMulL, ↓dCount, ↓dScrSl, ↓dScrLen, ↓dScrList, ↓oStrI]
  refine ⟨rfl, onF t rfl (by show t.length ≤ 1000000; omega) ?_⟩
  simp only [↓dSeq, ↓dNext, ↓dBreak, ↓dCont, ↓dNever, ↓dRet, ↓dRetN, ↓dDrop, ↓dSet, ↓dIf, ↓dAug, ↓dAsg, ↓dPar, ↓dVar, ↓dMove, ↓dC, ↓dFz, ↓dUp, ↓dNil, ↓dCons, ↓dTup, ↓dLst, ↓dBin, ↓dUn, ↓dChain, ↓dTest, ↓dAnd, ↓dOr, ↓dNot, ↓dAndV, ↓dOrV, ↓dNotV, ↓dIfE, ↓dgName, ↓dgNil, ↓dgCons, ↓dgTup, ↓dIt, ↓dRng1, ↓dRng2, ↓dZip, ↓dEnum, ↓u_for, ↓u_lc, ↓dYes, ↓u_call, ↓u_callF, ↓u_callIo, ↓dCB, ↓dCBF, ↓dBinS, ↓dLenS, ↓dSl, ↓dSlS, ↓dNo, ↓dPt, ↓dStL, ↓dApp, ↓dExt, ↓dJoin, ↓dRg1, ↓dRg2, ↓dTupRg, ↓dLstRg, ↓oSub, ↓oMulI, ↓oMul, ↓oFdiv, ↓oMod, ↓oPow, ↓oShr, ↓oXor, ↓oNeg, ↓oAdd, ↓oAug, ↓oLt, ↓oLe, ↓oGt, ↓oGe, ↓oI, ↓oIx, ↓oLen, ↓oInt, ↓oOrd, ↓oAbs, ↓oStL, ↓oIn, ↓oNin, ↓oInB, ↓isi_int, ↓isi_int_bl, ↓isi_int_str, ↓isi_int_tup, ↓isi_int_lst, ↓isi_str, ↓isi_str_int, ↓isi_tup, ↓isi_tup_int, ↓isi_tup_str, ↓isi_tup_lst, ↓isi_lst, ↓isi_lst_tup, ↓isi_lst_int, ↓isi_lst_str, ↓cv, ↓Cell.val, ↓Cell.up, ↓Cell.own, ↓lenD, ↓itemsOf, List.getElem?_cons_zero, List.getElem?_cons_succ, List.set_cons_zero, List.set_cons_succ, Option.bind_some, Option.isSome_some, List.length_cons, List.length_nil, true_and, and_true, ↓ixN_lit, ↓atI_lit, ↓reduceIte, Nat.reduceAdd, Nat.reduceLT, Nat.reduceSub, Nat.zero_add, Nat.reduceLeDiff, Nat.lt_add_one, Nat.zero_lt_succ, ↓oEq_int, ↓oNe_int, ↓oEq_str, ↓oNe_str, ↓oEq_bl, ↓oNe_bl, decide_eq_true_eq, Bool.false_eq_true, ↓u_while, ↓ownAt, List.all_cons, List.all_nil, Bool.and_true, List.getD_cons_zero, List.getD_cons_succ, Bool.not_false, ↓oLe_sign, ↓oMulS, ↓dDic, ↓dLock, ↓dGetS, ↓dStD, ↓dInS, ↓oInD, ↓dKeys, ↓dGet1, ↓dGet2, ↓dRev, ↓dMulL, ↓dCount, ↓dScrSl, ↓dScrLen, ↓dScrList, ↓oStrI]
  refine lcB_of (lcW_map _ (fun d => match d with | .int i => .str (cutG t none (some i)) | _ => .non) _ (fun x hx kT hT => ?_) fun ρ' hw => ?_)
  · obtain ⟨c, hc, rfl⟩ := List.mem_map.mp hx
    simp only [wipeE, ↓dSeq, ↓dNext, ↓dBreak, ↓dCont, ↓dNever, ↓dRet, ↓dRetN, ↓dDrop, ↓dSet, ↓dIf, ↓dAug, ↓dAsg, ↓dPar, ↓dVar, ↓dMove, ↓dC, ↓dFz, ↓dUp, ↓dNil, ↓dCons, ↓dTup, ↓dLst, ↓dBin, ↓dUn, ↓dChain, ↓dTest, ↓dAnd, ↓dOr, ↓dNot, ↓dAndV, ↓dOrV, ↓dNotV, ↓dIfE, ↓dgName, ↓dgNil, ↓dgCons, ↓dgTup, ↓dIt, ↓dRng1, ↓dRng2, ↓dZip, ↓dEnum, ↓u_for, ↓u_lc, ↓dYes, ↓u_call, ↓u_callF, ↓u_callIo, ↓dCB, ↓dCBF, ↓dBinS, ↓dLenS, ↓dSl, ↓dSlS, ↓dNo, ↓dPt, ↓dStL, ↓dApp, ↓dExt, ↓dJoin, ↓dRg1, ↓dRg2, ↓dTupRg, ↓dLstRg, ↓oSub, ↓oMulI, ↓oMul, ↓oFdiv, ↓oMod, ↓oPow, ↓oShr, ↓oXor, ↓oNeg, ↓oAdd, ↓oAug, ↓oLt, ↓oLe, ↓oGt, ↓oGe, ↓oI, ↓oIx, ↓oLen, ↓oInt, ↓oOrd, ↓oAbs, ↓oStL, ↓oIn, ↓oNin, ↓oInB, ↓isi_int, ↓isi_int_bl, ↓isi_int_str, ↓isi_int_tup, ↓isi_int_lst, ↓isi_str, ↓isi_str_int, ↓isi_tup, ↓isi_tup_int, ↓isi_tup_str, ↓isi_tup_lst, ↓isi_lst, ↓isi_lst_tup, ↓isi_lst_int, ↓isi_lst_str, ↓cv, ↓Cell.val, ↓Cell.up, ↓Cell.own, ↓lenD, ↓itemsOf, List.getElem?_cons_zero, List.getElem?_cons_succ, List.set_cons_zero, List.set_cons_succ, Option.bind_some, Option.isSome_some, List.length_cons, List.length_nil, true_and, and_true, ↓ixN_lit, ↓atI_lit, ↓reduceIte, Nat.reduceAdd, Nat.reduceLT, Nat.reduceSub, Nat.zero_add, Nat.reduceLeDiff, Nat.lt_add_one, Nat.zero_lt_succ, ↓oEq_int, ↓oNe_int, ↓oEq_str, ↓oNe_str, ↓oEq_bl, ↓oNe_bl, decide_eq_true_eq, Bool.false_eq_true, ↓u_while, ↓ownAt, List.all_cons, List.all_nil, Bool.and_true, List.getD_cons_zero, List.getD_cons_succ, Bool.not_false, ↓oLe_sign, ↓oMulS, ↓dDic, ↓dLock, ↓dGetS, ↓dStD, ↓dInS, ↓oInD, ↓dKeys, ↓dGet1, ↓dGet2, ↓dRev, ↓dMulL, ↓dCount, ↓dScrSl, ↓dScrLen, ↓dScrList, ↓oStrI, oSl]
    exact hT _ rfl
  · have em : (il (bordersN t)).map (fun d => match d with | .int i => D.str (cutG t none (some i)) | _ => .non) = sl ((bordersN t).map t.take) := by
      unfold il sl
      rw [List.map_map, List.map_map]
      refine List.map_congr_left fun k hk => ?_
      show D.str (cutG t none (some (k : Nat))) = _
      rw [cutG_to]
      rfl
    simp only [rest_of_wipe hw, ↓dSeq, ↓dNext, ↓dBreak, ↓dCont, ↓dNever, ↓dRet, ↓dRetN, ↓dDrop, ↓dSet, ↓dIf, ↓dAug, ↓dAsg, ↓dPar, ↓dVar, ↓dMove, ↓dC, ↓dFz, ↓dUp, ↓dNil, ↓dCons, ↓dTup, ↓dLst, ↓dBin, ↓dUn, ↓dChain, ↓dTest, ↓dAnd, ↓dOr, ↓dNot, ↓dAndV, ↓dOrV, ↓dNotV, ↓dIfE, ↓dgName, ↓dgNil, ↓dgCons, ↓dgTup, ↓dIt, ↓dRng1, ↓dRng2, ↓dZip, ↓dEnum, ↓u_for, ↓u_lc, ↓dYes, ↓u_call, ↓u_callF, ↓u_callIo, ↓dCB, ↓dCBF, ↓dBinS, ↓dLenS, ↓dSl, ↓dSlS, ↓dNo, ↓dPt, ↓dStL, ↓dApp, ↓dExt, ↓dJoin, ↓dRg1, ↓dRg2, ↓dTupRg, ↓dLstRg, ↓oSub, ↓oMulI, ↓oMul, ↓oFdiv, ↓oMod, ↓oPow, ↓oShr, ↓oXor, ↓oNeg, ↓oAdd, ↓oAug, ↓oLt, ↓oLe, ↓oGt, ↓oGe, ↓oI, ↓oIx, ↓oLen, ↓oInt, ↓oOrd, ↓oAbs, ↓oStL, ↓oIn, ↓oNin, ↓oInB, ↓isi_int, ↓isi_int_bl, ↓isi_int_str, ↓isi_int_tup, ↓isi_int_lst, ↓isi_str, ↓isi_str_int, ↓isi_tup, ↓isi_tup_int, ↓isi_tup_str, ↓isi_tup_lst, ↓isi_lst, ↓isi_lst_tup, ↓isi_lst_int, ↓isi_lst_str, ↓cv, ↓Cell.val, ↓Cell.up, ↓Cell.own, ↓lenD, ↓itemsOf, List.getElem?_cons_zero, List.getElem?_cons_succ, List.set_cons_zero, List.set_cons_succ, Option.bind_some, Option.isSome_some, List.length_cons, List.length_nil, true_and, and_true, ↓ixN_lit, ↓atI_lit, ↓reduceIte, Nat.reduceAdd, Nat.reduceLT, Nat.reduceSub, Nat.zero_add, Nat.reduceLeDiff, Nat.lt_add_one, Nat.zero_lt_succ, ↓oEq_int, ↓oNe_int, ↓oEq_str, ↓oNe_str, ↓oEq_bl, ↓oNe_bl, decide_eq_true_eq, Bool.false_eq_true, ↓u_while, ↓ownAt, List.all_cons, List.all_nil, Bool.and_true, List.getD_cons_zero, List.getD_cons_succ, Bool.not_false, ↓oLe_sign, ↓oMulS, ↓dDic, ↓dLock, ↓dGetS, ↓dStD, ↓dInS, ↓oInD, ↓dKeys, ↓dGet1, ↓dGet2, ↓dRev, ↓dMulL, ↓dCount, ↓dScrSl, ↓dScrLen, ↓dScrList, ↓oStrI]
    rw [em]
    exact post _ _ ⟨rfl, rfl⟩
/-! ### stretches that a period fills, as long as they go -/
def P (t : List Nat) (b e p : Nat) : Prop := ∀ i, b ≤ i → i + p < e → tt t i = tt t (i + p)
structure MaxP (t : List Nat) (b e p : Nat) : Prop where
  p1 : 1 ≤ p
  le : b + 2 * p ≤ e
  en : e ≤ t.length
  per : P t b e p
  lf : 0 < b → ¬ P t (b - 1) e p
  rt : e < t.length → ¬ P t b (e + 1) p
def Brk (t : List Nat) (p m : Nat) : Prop := m = t.length - p ∨ tt t m ≠ tt t (m + p)
instance (t : List Nat) (p m : Nat) : Decidable (Brk t p m) := inferInstanceAs (Decidable (_ ∨ _))
def stL (t : List Nat) (p : Nat) : Nat → Nat × List (Nat × Nat)
  | 0 => (0, [])
  | m + 1 => if Brk t p m then (m + 1, if p ≤ m - (stL t p m).1 then (stL t p m).2 ++ [((stL t p m).1, m + p)] else (stL t p m).2) else stL t p m
def Cut (t : List Nat) (p b c : Nat) : Prop := b + p ≤ c ∧ (b = 0 ∨ Brk t p (b - 1)) ∧ (∀ i, b ≤ i → i < c → ¬ Brk t p i) ∧ Brk t p c
theorem stL_inv (t : List Nat) (p : Nat) : ∀ m, (stL t p m).1 ≤ m ∧ ((stL t p m).1 = 0 ∨ Brk t p ((stL t p m).1 - 1)) ∧ (∀ i, (stL t p m).1 ≤ i → i < m → ¬ Brk t p i) ∧ (∀ b e, (b, e) ∈ (stL t p m).2 ↔ ∃ c, c < m ∧ e = c + p ∧ Cut t p b c) ∧ (stL t p m).2.length ≤ m
  | 0 => ⟨Nat.le_refl _, .inl rfl, fun i _ h => by omega, fun b e => ⟨fun h => by simp [stL] at h, fun ⟨c, h, _⟩ => by omega⟩, Nat.le_refl _⟩
  | m + 1 => by
    obtain ⟨i1, i2, i3, i4, i5⟩ := stL_inv t p m
    generalize hs : stL t p m = s at i1 i2 i3 i4 i5
    have eu : stL t p (m + 1) = if Brk t p m then (m + 1, if p ≤ m - s.1 then s.2 ++ [(s.1, m + p)] else s.2) else s := by
      show (if Brk t p m then (m + 1, if p ≤ m - (stL t p m).1 then (stL t p m).2 ++ [((stL t p m).1, m + p)] else (stL t p m).2) else stL t p m) = _
      rw [hs]
    rw [eu]
    by_cases hb : Brk t p m
    · rw [if_pos hb]
      refine ⟨Nat.le_refl _, .inr hb, fun i a c => by simp only at a; omega, fun b e => ?_, ?_⟩
      · show (b, e) ∈ (if p ≤ m - s.1 then s.2 ++ [(s.1, m + p)] else s.2) ↔ _
        have only : ∀ b, Cut t p b m → b = s.1 := by
          rintro b ⟨c1, c2, c3, c4⟩
          by_cases q : b < s.1
          · have := i2.resolve_left (by omega)
            exact absurd this (c3 _ (by omega) (by omega))
          · by_cases q2 : s.1 < b
            · have := c2.resolve_left (by omega)
              exact absurd this (i3 _ (by omega) (by omega))
            · omega
        by_cases hp : p ≤ m - s.1
        · rw [if_pos hp, List.mem_append, List.mem_singleton, i4]
          constructor
          · rintro (⟨c, h1, h2⟩ | h)
            · exact ⟨c, by omega, h2⟩
            · cases h
              exact ⟨m, by omega, rfl, by omega, i2, i3, hb⟩
          · rintro ⟨c, h1, h2, h3⟩
            by_cases e2 : c = m
            · subst e2
              rw [only b h3, h2]
              exact .inr rfl
            · exact .inl ⟨c, by omega, h2, h3⟩
        · rw [if_neg hp, i4]
          constructor
          · rintro ⟨c, h1, h2⟩
            exact ⟨c, by omega, h2⟩
          · rintro ⟨c, h1, h2, h3⟩
            by_cases e2 : c = m
            · subst e2
              have := only b h3
              have := h3.1
              omega
            · exact ⟨c, by omega, h2, h3⟩
      · show (if p ≤ m - s.1 then s.2 ++ [(s.1, m + p)] else s.2).length ≤ m + 1
        split
        · rw [List.length_append, List.length_singleton]; omega
        · omega
    · rw [if_neg hb]
      refine ⟨by omega, i2, fun i a c => ?_, fun b e => ?_, by omega⟩
      · by_cases e : i = m
        · rw [e]; exact hb
        · exact i3 i a (by omega)
      · rw [i4]
        constructor
        · rintro ⟨c, h1, h2⟩
          exact ⟨c, by omega, h2⟩
        · rintro ⟨c, h1, h2, h3⟩
          by_cases e2 : c = m
          · subst e2; exact absurd h3.2.2.2 hb
          · exact ⟨c, by omega, h2, h3⟩
def likeN (t : List Nat) (p : Nat) : List (Nat × Nat) := (stL t p (t.length - p + 1)).2
theorem mem_likeN {t : List Nat} {p b e : Nat} (h1 : 1 ≤ p) (hp : p ≤ t.length) : (b, e) ∈ likeN t p ↔ MaxP t b e p := by
  unfold likeN
  rw [(stL_inv t p (t.length - p + 1)).2.2.2.1]
  constructor
  · rintro ⟨c, hc, rfl, c1, c2, c3, c4⟩
    have per : P t b (c + p) p := fun i a d => Decidable.byContradiction fun q => c3 i a (by omega) (.inr q)
    refine ⟨h1, by omega, by omega, per, fun h0 q => ?_, fun hn q => ?_⟩
    · rcases c2.resolve_left (by omega) with e | e
      · omega
      · exact e (q (b - 1) (Nat.le_refl _) (by omega))
    · rcases c4 with e | e
      · omega
      · exact e (q c (by omega) (by omega))
  · rintro ⟨_, h2, h3, h4, h5, h6⟩
    refine ⟨e - p, by omega, by omega, by omega, ?_, fun i a c => ?_, ?_⟩
    · by_cases h0 : 0 < b
      · refine .inr (.inr fun q => h5 h0 fun i a c => ?_)
        by_cases e2 : i = b - 1
        · rw [e2]; exact q
        · exact h4 i (by omega) c
      · exact .inl (by omega)
    · rintro (q | q)
      · omega
      · exact q (h4 i a (by omega))
    · by_cases hn : e < t.length
      · refine .inr fun q => h6 hn fun i a c => ?_
        by_cases e2 : i = e - p
        · rw [e2]; exact q
        · exact h4 i a (by omega)
      · exact .inl (by omega)
theorem likeN_length (t : List Nat) (p : Nat) : (likeN t p).length ≤ t.length - p + 1 := (stL_inv t p _).2.2.2.2
def prD (x : Nat × Nat) : D := .tup [.int (x.1 : Nat), .int (x.2 : Nat)]
def S_like_stretches : FnSpec := fnSpec 2 true (fun x : List Nat × Nat => [.str x.1, .int (x.2 : Nat)]) (fun x => 1 ≤ x.2 ∧ x.2 ≤ x.1.length ∧ x.1.length ≤ 2000) fun x => .lst ((likeN x.1 x.2).map prD)
/-- like_stretches: slots 0 text, 1 period, 2 found, 3 begin, 4 at -/
def D_like_stretches : DTS := (dSeq (dSet 2 (dLst dNil)) (dSeq (dSet 3 (dUp (dC (.int 0)))) (dSeq (dFor (dRng1 (dCons (dBin oAdd (dBin oSub (dLenS 0) (dVar 1)) (dC (.int 1))) dNil)) (dgName 4) (dIf (dOr (dTest (dBin oEq (dVar 4) (dBin oSub (dLenS 0) (dVar 1)))) (dTest (dBin oNe (dBinS 0 oIx (dVar 4)) (dBinS 0 oIx (dBin oAdd (dVar 4) (dVar 1)))))) (dSeq (dIf (dTest (dBin oGe (dBin oSub (dVar 4) (dVar 3)) (dVar 1))) (dApp 2 (dTup (dCons (dVar 3) (dCons (dBin oAdd (dVar 4) (dVar 1)) dNil)))) dNext) (dSet 3 (dUp (dBin oAdd (dVar 4) (dC (.int 1)))))) dNext)) (dRet (dMove 2)))))
theorem sem_like_stretches : ∀ ds Kd, S_like_stretches.ds ds Kd → D_like_stretches (endsOf S_like_stretches Kd) (env0 5 [false, false] ds) := by
  rintro ds Kd ⟨⟨t, p⟩, rfl, ⟨hp1, hp, hz⟩, post⟩
  simp only at hp1 hp hz post
  show D_like_stretches (endsOf S_like_stretches Kd) [.fz (.str t), .fz (.int (p : Nat)), .un, .un, .un]
  simp only [↓D_like_stretches, ↓dSeq, ↓dNext, ↓dBreak, ↓dCont, ↓dNever, ↓dRet, ↓dRetN, ↓dDrop, ↓dSet, ↓dIf, ↓dAug, ↓dAsg, ↓dPar, ↓dVar, ↓dMove, ↓dC, ↓dFz, ↓dUp, ↓dNil, ↓dCons, ↓dTup, ↓dLst, ↓dBin, ↓dUn, ↓dChain, ↓dTest, ↓dAnd, ↓dOr, ↓dNot, ↓dAndV, ↓dOrV, ↓dNotV, ↓dIfE, ↓dgName, ↓dgNil, ↓dgCons, ↓dgTup, ↓dIt, ↓dRng1, ↓dRng2, ↓dZip, ↓dEnum, ↓u_for, ↓u_lc, ↓dYes, ↓u_call, ↓u_callF, ↓u_callIo, ↓dCB, ↓dCBF, ↓dBinS, ↓dLenS, ↓dSl, ↓dSlS, ↓dNo, ↓dPt, ↓dStL, ↓dApp, ↓dExt, ↓dJoin, ↓dRg1, ↓dRg2, ↓dTupRg, ↓dLstRg, ↓oSub, ↓oMulI, ↓oMul, ↓oFdiv, ↓oMod, ↓oPow, ↓oShr, ↓oXor, ↓oNeg, ↓oAdd, ↓oAug, ↓oLt, ↓oLe, ↓oGt, ↓oGe, ↓oI, ↓oIx, ↓oLen, ↓oInt, ↓oOrd, ↓oAbs, ↓oStL, ↓oIn, ↓oNin, ↓oInB, ↓isi_int, ↓isi_int_bl, ↓isi_int_str, ↓isi_int_tup, ↓isi_int_lst, ↓isi_str, ↓isi_str_int, ↓isi_tup, ↓isi_tup_int, ↓isi_tup_str, ↓isi_tup_lst, ↓isi_lst, ↓isi_lst_tup, ↓isi_lst_int, ↓isi_lst_str, ↓cv, ↓Cell.val, ↓Cell.up, ↓Cell.own, ↓lenD, ↓itemsOf, List.getElem?_cons_zero, List.getElem?_cons_succ, List.set_cons_zero, List.set_cons_succ, Option.bind_some, Option.isSome_some, List.length_cons, List.length_nil, true_and, and_true, ↓ixN_lit, ↓atI_lit, ↓reduceIte, Nat.reduceAdd, Nat.reduceLT, Nat.reduceSub, Nat.zero_add, Nat.reduceLeDiff, Nat.lt_add_one, Nat.zero_lt_succ, ↓oEq_int, ↓oNe_int, ↓oEq_str, ↓oNe_str, ↓oEq_bl, ↓oNe_bl, decide_eq_true_eq, Bool.false_eq_true, ↓u_while, ↓ownAt, List.all_cons, List.all_nil, Bool.and_true, List.getD_cons_zero, List.getD_cons_succ, Bool.not_false, ↓oLe_sign, ↓oMulS, ↓dDic, ↓dLock, ↓dGetS, ↓dStD, ↓dInS, ↓oInD, ↓dKeys, ↓dGet1, ↓dGet2, ↓dRev, ↓dMulL, ↓dCount, ↓dScrSl, ↓dScrLen, ↓dScrList, ↓oStrI]
  refine ⟨by decide, by omega, by omega, ?_⟩
  rw [show ((t.length : Int) - (p : Nat) + 1).toNat = t.length - p + 1 by omega]
  refine forB_of (forN_inv (fun m ρ => ∃ x, ρ = [.fz (.str t), .fz (.int (p : Nat)), .ow (.lst ((stL t p m).2.map prD)), .fz (.int ((stL t p m).1 : Nat)), x]) ?_ ?_ _ ⟨.un, rfl⟩)
  · rintro m ρ k hm ⟨x, rfl⟩ hk
    simp only [↓dSeq, ↓dNext, ↓dBreak, ↓dCont, ↓dNever, ↓dRet, ↓dRetN, ↓dDrop, ↓dSet, ↓dIf, ↓dAug, ↓dAsg, ↓dPar, ↓dVar, ↓dMove, ↓dC, ↓dFz, ↓dUp, ↓dNil, ↓dCons, ↓dTup, ↓dLst, ↓dBin, ↓dUn, ↓dChain, ↓dTest, ↓dAnd, ↓dOr, ↓dNot, ↓dAndV, ↓dOrV, ↓dNotV, ↓dIfE, ↓dgName, ↓dgNil, ↓dgCons, ↓dgTup, ↓dIt, ↓dRng1, ↓dRng2, ↓dZip, ↓dEnum, ↓u_for, ↓u_lc, ↓dYes, ↓u_call, ↓u_callF, ↓u_callIo, ↓dCB, ↓dCBF, ↓dBinS, ↓dLenS, ↓dSl, ↓dSlS, ↓dNo, ↓dPt, ↓dStL, ↓dApp, ↓dExt, ↓dJoin, ↓dRg1, ↓dRg2, ↓dTupRg, ↓dLstRg, ↓oSub, ↓oMulI, ↓oMul, ↓oFdiv, ↓oMod, ↓oPow, ↓oShr, ↓oXor, ↓oNeg, ↓oAdd, ↓oAug, ↓oLt, ↓oLe, ↓oGt, ↓oGe, ↓oI, ↓oIx, ↓oLen, ↓oInt, ↓oOrd, ↓oAbs, ↓oStL, ↓oIn, ↓oNin, ↓oInB, ↓isi_int, ↓isi_int_bl, ↓isi_int_str, ↓isi_int_tup, ↓isi_int_lst, ↓isi_str, ↓isi_str_int, ↓isi_tup, ↓isi_tup_int, ↓isi_tup_str, ↓isi_tup_lst, ↓isi_lst, ↓isi_lst_tup, ↓isi_lst_int, ↓isi_lst_str, ↓cv, ↓Cell.val, ↓Cell.up, ↓Cell.own, ↓lenD, ↓itemsOf, List.getElem?_cons_zero, List.getElem?_cons_succ, List.set_cons_zero, List.set_cons_succ, Option.bind_some, Option.isSome_some, List.length_cons, List.length_nil, true_and, and_true, ↓ixN_lit, ↓atI_lit, ↓reduceIte, Nat.reduceAdd, Nat.reduceLT, Nat.reduceSub, Nat.zero_add, Nat.reduceLeDiff, Nat.lt_add_one, Nat.zero_lt_succ, ↓oEq_int, ↓oNe_int, ↓oEq_str, ↓oNe_str, ↓oEq_bl, ↓oNe_bl, decide_eq_true_eq, Bool.false_eq_true, ↓u_while, ↓ownAt, List.all_cons, List.all_nil, Bool.and_true, List.getD_cons_zero, List.getD_cons_succ, Bool.not_false, ↓oLe_sign, ↓oMulS, ↓dDic, ↓dLock, ↓dGetS, ↓dStD, ↓dInS, ↓oInD, ↓dKeys, ↓dGet1, ↓dGet2, ↓dRev, ↓dMulL, ↓dCount, ↓dScrSl, ↓dScrLen, ↓dScrList, ↓oStrI, Int.zero_add]
    have nx : k [.fz (.str t), .fz (.int (p : Nat)), .ow (.lst ((stL t p (m + 1)).2.map prD)), .fz (.int ((stL t p (m + 1)).1 : Nat)), .fz (.int (m : Nat))] := hk _ ⟨.fz (.int (m : Nat)), rfl⟩
    have hi := stL_inv t p m
    have eu : stL t p (m + 1) = if Brk t p m then (m + 1, if p ≤ m - (stL t p m).1 then (stL t p m).2 ++ [((stL t p m).1, m + p)] else (stL t p m).2) else stL t p m := rfl
    rw [eu] at nx
    generalize stL t p m = s at hi nx
    have hs := hi.1
    have hl := hi.2.2.2.2
    have br : Brk t p m → (if (p : Int) ≤ (m : Int) - (s.1 : Nat) then (∃ xs, some (D.lst (s.2.map prD)) = some (D.lst xs)) ∧ 2 ≤ sizeLine ∧ (s.2.map prD).length < sizeLine ∧ k [.fz (.str t), .fz (.int (p : Nat)), .ow (.lst (s.2.map prD ++ [.tup [.int (s.1 : Nat), .int ((m : Int) + (p : Nat))]])), .fz (.int ((m : Int) + 1)), .fz (.int (m : Nat))] else k [.fz (.str t), .fz (.int (p : Nat)), .ow (.lst (s.2.map prD)), .fz (.int ((m : Int) + 1)), .fz (.int (m : Nat))]) := by
      intro hb
      rw [if_pos hb] at nx
      by_cases q : p ≤ m - s.1
      · rw [if_pos q] at nx
        by_cases q2 : (p : Int) ≤ (m : Int) - (s.1 : Nat)
        · rw [if_pos q2]
          refine ⟨⟨_, rfl⟩, by decide, by rw [List.length_map]; show s.2.length < 16777216; omega, ?_⟩
          rw [List.map_append] at nx
          exact nx
        · omega
      · rw [if_neg q] at nx
        rw [if_neg (by omega)]
        exact nx
    by_cases c1 : m = t.length - p
    · rw [if_pos (by omega)]
      exact br (.inl c1)
    · rw [if_neg (by omega)]
      have a1 : atI t (m : Int) = some (tt t m) := by rw [atI_natE]; exact str_at (by omega)
      have a2 : atI t ((m : Int) + (p : Nat)) = some (tt t (m + p)) := by
        rw [show ((m : Int) + (p : Nat)) = ((m + p : Nat) : Int) by omega, atI_natE]
        exact str_at (by omega)
      simp only [a1, a2]
      by_cases c2 : tt t m = tt t (m + p)
      · rw [if_neg (fun z => z (by rw [c2]))]
        rw [if_neg (fun z => by rcases z with z | z; exact c1 z; exact z c2)] at nx
        exact nx
      · rw [if_pos (fun z => c2 (by simpa using z))]
        exact br (.inr c2)
  · rintro ρ ⟨x, rfl⟩
    simp only [↓dSeq, ↓dNext, ↓dBreak, ↓dCont, ↓dNever, ↓dRet, ↓dRetN, ↓dDrop, ↓dSet, ↓dIf, ↓dAug, ↓dAsg, ↓dPar, ↓dVar, ↓dMove, ↓dC, ↓dFz, ↓dUp, ↓dNil, ↓dCons, ↓dTup, ↓dLst, ↓dBin, ↓dUn, ↓dChain, ↓dTest, ↓dAnd, ↓dOr, ↓dNot, ↓dAndV, ↓dOrV, ↓dNotV, ↓dIfE, ↓dgName, ↓dgNil, ↓dgCons, ↓dgTup, ↓dIt, ↓dRng1, ↓dRng2, ↓dZip, ↓dEnum, ↓u_for, ↓u_lc, ↓dYes, ↓u_call, ↓u_callF, ↓u_callIo, ↓dCB, ↓dCBF, ↓dBinS, ↓dLenS, ↓dSl, ↓dSlS, ↓dNo, ↓dPt, ↓dStL, ↓dApp, ↓dExt, ↓dJoin, ↓dRg1, ↓dRg2, ↓dTupRg, ↓dLstRg, ↓oSub, ↓oMulI, ↓oMul, ↓oFdiv, ↓oMod, ↓oPow, ↓oShr, ↓oXor, ↓oNeg, ↓oAdd, ↓oAug, ↓oLt, ↓oLe, ↓oGt, ↓oGe, ↓oI, ↓oIx, ↓oLen, ↓oInt, ↓oOrd, ↓oAbs, ↓oStL, ↓oIn, ↓oNin, ↓oInB, ↓isi_int, ↓isi_int_bl, ↓isi_int_str, ↓isi_int_tup, ↓isi_int_lst, ↓isi_str, ↓isi_str_int, ↓isi_tup, ↓isi_tup_int, ↓isi_tup_str, ↓isi_tup_lst, ↓isi_lst, ↓isi_lst_tup, ↓isi_lst_int, ↓isi_lst_str, ↓cv, ↓Cell.val, ↓Cell.up, ↓Cell.own, ↓lenD, ↓itemsOf, List.getElem?_cons_zero, List.getElem?_cons_succ, List.set_cons_zero, List.set_cons_succ, Option.bind_some, Option.isSome_some, List.length_cons, List.length_nil, true_and, and_true, ↓ixN_lit, ↓atI_lit, ↓reduceIte, Nat.reduceAdd, Nat.reduceLT, Nat.reduceSub, Nat.zero_add, Nat.reduceLeDiff, Nat.lt_add_one, Nat.zero_lt_succ, ↓oEq_int, ↓oNe_int, ↓oEq_str, ↓oNe_str, ↓oEq_bl, ↓oNe_bl, decide_eq_true_eq, Bool.false_eq_true, ↓u_while, ↓ownAt, List.all_cons, List.all_nil, Bool.and_true, List.getD_cons_zero, List.getD_cons_succ, Bool.not_false, ↓oLe_sign, ↓oMulS, ↓dDic, ↓dLock, ↓dGetS, ↓dStD, ↓dInS, ↓oInD, ↓dKeys, ↓dGet1, ↓dGet2, ↓dRev, ↓dMulL, ↓dCount, ↓dScrSl, ↓dScrLen, ↓dScrList, ↓oStrI]
    exact post _ _ ⟨rfl, rfl⟩
end DL


namespace DL
open PySem PySem.Spec PyProof.Rows L2

/-! ### runs -/
structure IsRun (t : List Nat) (b e p : Nat) : Prop where
  mx : MaxP t b e p
  least : ∀ q, q < p → 1 ≤ q → ¬ P t b e q
instance (t : List Nat) (b e p : Nat) : Decidable (P t b e p) := decidable_of_iff (∀ i, i < e → b ≤ i → i + p < e → tt t i = tt t (i + p)) ⟨fun h i a c => h i (by omega) a c, fun h i _ a c => h i a c⟩
instance (t : List Nat) (b e p : Nat) : Decidable (MaxP t b e p) := decidable_of_iff (1 ≤ p ∧ b + 2 * p ≤ e ∧ e ≤ t.length ∧ P t b e p ∧ (0 < b → ¬ P t (b - 1) e p) ∧ (e < t.length → ¬ P t b (e + 1) p)) ⟨fun ⟨a, b, c, d, e, f⟩ => ⟨a, b, c, d, e, f⟩, fun ⟨a, b, c, d, e, f⟩ => ⟨a, b, c, d, e, f⟩⟩
instance (t : List Nat) (b e p : Nat) : Decidable (IsRun t b e p) := decidable_of_iff (MaxP t b e p ∧ ∀ q, q < p → 1 ≤ q → ¬ P t b e q) ⟨fun ⟨a, b⟩ => ⟨a, b⟩, fun ⟨a, b⟩ => ⟨a, b⟩⟩
theorem P_sub {t : List Nat} {b e p q : Nat} (hp : P t b e p) (hq : P t b e q) (h : q < p) (hl : b + p + q ≤ e) : P t b e (p - q) := by
  intro i a c
  by_cases h1 : i + p < e
  · have e1 := hp i a h1
    have e2 := hq (i + (p - q)) (by omega) (by omega)
    rw [show i + (p - q) + q = i + p by omega] at e2
    rw [e1, e2]
  · have e1 := hq (i - q) (by omega) (by omega)
    have e2 := hp (i - q) (by omega) (by omega)
    rw [show i - q + q = i by omega] at e1
    rw [show i - q + p = i + (p - q) by omega] at e2
    rw [← e1, e2]
theorem P_mul {t : List Nat} {b e q : Nat} (hq : P t b e q) : ∀ k, P t b e (k * q)
  | 0 => fun i _ _ => by rw [Nat.zero_mul] <;> rfl
  | k + 1 => fun i a c => by
    rw [Nat.succ_mul] at c ⊢
    rw [P_mul hq k i a (by omega), hq (i + k * q) (by omega) (by omega), Nat.add_assoc]
theorem least_dvd {t : List Nat} {b e q : Nat} (h1 : 1 ≤ q) (hq : P t b e q) (hm : ∀ r, r < q → 1 ≤ r → ¬ P t b e r) : ∀ n p, p ≤ n → 1 ≤ p → P t b e p → b + p + q ≤ e → ∃ k, p = k * q
  | 0, p, hn, h, _, _ => by omega
  | n + 1, p, hn, h, hp, hl => by
    by_cases c1 : p < q
    · exact absurd hp (hm p c1 h)
    · by_cases c2 : p = q
      · exact ⟨1, by omega⟩
      · obtain ⟨k, hk⟩ := least_dvd h1 hq hm n (p - q) (by omega) (by omega) (P_sub hp hq (by omega) hl) (by omega)
        exact ⟨k + 1, by rw [Nat.succ_mul, ← hk]; omega⟩
theorem least_ex {F : Nat → Prop} : ∀ n, 1 ≤ n → F n → ∃ q, 1 ≤ q ∧ q ≤ n ∧ F q ∧ ∀ r, r < q → 1 ≤ r → ¬ F r := by
  intro n
  induction n using Nat.strongRecOn with
  | _ n ih =>
    intro h1 hn
    by_cases c : ∃ r, r < n ∧ 1 ≤ r ∧ F r
    · obtain ⟨r, a, b, d⟩ := c
      obtain ⟨q, q1, q2, q3, q4⟩ := ih r a b d
      exact ⟨q, q1, by omega, q3, q4⟩
    · exact ⟨n, h1, Nat.le_refl _, hn, fun r a b d => c ⟨r, a, b, d⟩⟩
theorem run_iff {t : List Nat} {b e p : Nat} : IsRun t b e p ↔ MaxP t b e p ∧ ∀ q, q < p → 1 ≤ q → ¬ MaxP t b e q := by
  constructor
  · rintro ⟨m, l⟩
    exact ⟨m, fun q a c d => l q a c d.per⟩
  · rintro ⟨m, l⟩
    refine ⟨m, fun r0 hr0 hr1 hr => ?_⟩
    obtain ⟨q, q1, q2, q3, q4⟩ := least_ex (F := P t b e) r0 hr1 hr
    have hle := m.le
    obtain ⟨k, hk⟩ := least_dvd q1 q3 q4 p p (Nat.le_refl _) m.p1 m.per (by omega)
    refine l q (by omega) q1 ⟨q1, by omega, m.en, q3, fun h0 z => m.lf h0 ?_, fun hn z => m.rt hn ?_⟩
    · rw [hk]; exact P_mul z k
    · rw [hk]; exact P_mul z k
/-! ### the table of stretches -/
abbrev RT := (Nat × Nat) × Nat
def insR (p : Nat) (kvs : List RT) (x : Nat × Nat) : List RT := if (kvs.any fun y => y.1 == x) = true then kvs else kvs ++ [(x, p)]
def allK (t : List Nat) : Nat → List RT
  | 0 => []
  | m + 1 => (likeN t (m + 1)).foldl (insR (m + 1)) (allK t m)
theorem insR_mem {p : Nat} {kvs : List RT} {x y : Nat × Nat} {q : Nat} : (y, q) ∈ insR p kvs x ↔ (y, q) ∈ kvs ∨ (q = p ∧ y = x ∧ ∀ r, (y, r) ∉ kvs) := by
  unfold insR
  by_cases h : (kvs.any fun y => y.1 == x) = true
  · rw [if_pos h]
    constructor
    · exact .inl
    · rintro (h1 | ⟨_, rfl, h2⟩)
      · exact h1
      · obtain ⟨⟨z, r⟩, hz, e⟩ := List.any_eq_true.mp h
        have : z = y := by simpa using e
        subst this
        exact absurd hz (h2 r)
  · rw [if_neg h, List.mem_append, List.mem_singleton]
    constructor
    · rintro (h1 | h1)
      · exact .inl h1
      · cases h1
        refine .inr ⟨rfl, rfl, fun r hr => h (List.any_eq_true.mpr ⟨_, hr, by simp⟩)⟩
    · rintro (h1 | ⟨rfl, rfl, _⟩)
      · exact .inl h1
      · exact .inr rfl
theorem insR_keys {p : Nat} {kvs : List RT} {x : Nat × Nat} (h : (kvs.map (·.1)).Nodup) : ((insR p kvs x).map (·.1)).Nodup := by
  unfold insR
  by_cases c : (kvs.any fun y => y.1 == x) = true
  · rw [if_pos c]; exact h
  · rw [if_neg c, List.map_append, List.nodup_append]
    refine ⟨h, by simp, fun a ha b hb => ?_⟩
    have : b = x := by simpa using hb
    subst this
    rintro rfl
    obtain ⟨y, hy, e⟩ := List.mem_map.mp ha
    exact c (List.any_eq_true.mpr ⟨y, hy, by simp [e]⟩)
theorem foldR_mem {p : Nat} : ∀ {l : List (Nat × Nat)} {kvs : List RT} {y : Nat × Nat} {q : Nat}, (y, q) ∈ l.foldl (insR p) kvs ↔ (y, q) ∈ kvs ∨ (q = p ∧ y ∈ l ∧ ∀ r, (y, r) ∉ kvs)
  | [], kvs, y, q => by simp
  | x :: l, kvs, y, q => by
    rw [List.foldl_cons, foldR_mem, insR_mem]
    constructor
    · rintro ((h | ⟨e, rfl, h⟩) | ⟨e, h, h2⟩)
      · exact .inl h
      · exact .inr ⟨e, List.mem_cons_self .., h⟩
      · exact .inr ⟨e, List.mem_cons_of_mem _ h, fun r hr => h2 r (insR_mem.mpr (.inl hr))⟩
    · rintro (h | ⟨e, h, h2⟩)
      · exact .inl (.inl h)
      · by_cases c : y = x
        · exact .inl (.inr ⟨e, c, h2⟩)
        · refine .inr ⟨e, (List.mem_cons.mp h).resolve_left c, fun r hr => ?_⟩
          rcases insR_mem.mp hr with h3 | ⟨_, h3, _⟩
          · exact h2 r h3
          · exact c h3
theorem foldR_keys {p : Nat} : ∀ {l : List (Nat × Nat)} {kvs : List RT}, (kvs.map (·.1)).Nodup → ((l.foldl (insR p) kvs).map (·.1)).Nodup
  | [], _, h => h
  | _ :: l, _, h => foldR_keys (l := l) (insR_keys h)
theorem allK_keys (t : List Nat) : ∀ m, ((allK t m).map (·.1)).Nodup
  | 0 => List.nodup_nil
  | m + 1 => foldR_keys (allK_keys t m)
theorem allK_mem {t : List Nat} {b e q : Nat} : ∀ m, m ≤ t.length → (((b, e), q) ∈ allK t m ↔ q ≤ m ∧ IsRun t b e q)
  | 0, _ => by
    constructor
    · intro h; simp [allK] at h
    · rintro ⟨h1, h2⟩
      have := h2.mx.p1
      omega
  | m + 1, hm => by
    have ih := fun q => allK_mem (t := t) (b := b) (e := e) (q := q) m (by omega)
    show ((b, e), q) ∈ (likeN t (m + 1)).foldl (insR (m + 1)) (allK t m) ↔ _
    rw [foldR_mem, ih, mem_likeN (by omega) hm]
    constructor
    · rintro (⟨h1, h2⟩ | ⟨rfl, h1, h2⟩)
      · exact ⟨by omega, h2⟩
      · refine ⟨Nat.le_refl _, run_iff.mpr ⟨h1, fun r hr hr1 hm2 => ?_⟩⟩
        obtain ⟨s, s1, s2, s3, s4⟩ := least_ex (F := MaxP t b e) r hr1 hm2
        exact h2 s ((ih s).mpr ⟨by omega, run_iff.mpr ⟨s3, s4⟩⟩)
    · rintro ⟨h1, h2⟩
      by_cases c : q ≤ m
      · exact .inl ⟨c, h2⟩
      · have : q = m + 1 := by omega
        subst this
        refine .inr ⟨rfl, h2.mx, fun r hr => ?_⟩
        have := (ih r).mp hr
        exact (run_iff.mp h2).2 r (by omega) this.2.mx.p1 this.2.mx
/-! ### all runs, in the order of the law -/
abbrev Tri := Nat × Nat × Nat
def exS (t : List Nat) (p : Nat) : Nat → Nat → Nat
  | 0, e => e
  | f + 1, e => if e < t.length ∧ tt t e = tt t (e - p) then exS t p f (e + 1) else e
def ext (t : List Nat) (b p : Nat) : Nat := exS t p (t.length - (b + p)) (b + p)
theorem exS_ok {t : List Nat} {b p : Nat} : ∀ f e, b + p ≤ e → P t b e p → t.length ≤ e + f → e ≤ t.length → P t b (exS t p f e) p ∧ exS t p f e ≤ t.length ∧ b + p ≤ exS t p f e ∧ (exS t p f e < t.length → ¬ P t b (exS t p f e + 1) p)
  | 0, e, h0, h1, h2, h3 => ⟨h1, h3, h0, fun h => by unfold exS at h; omega⟩
  | f + 1, e, h0, h1, h2, h3 => by
    unfold exS
    by_cases c : e < t.length ∧ tt t e = tt t (e - p)
    · rw [if_pos c]
      refine exS_ok f (e + 1) (by omega) (fun i a d => ?_) (by omega) (by omega)
      by_cases q : i + p = e
      · rw [q, c.2]
        congr 1
        omega
      · exact h1 i a (by omega)
    · rw [if_neg c]
      refine ⟨h1, h3, h0, fun h z => c ⟨h, ?_⟩⟩
      have := z (e - p) (by omega) (by omega)
      rw [show e - p + p = e by omega] at this
      exact this.symm
theorem ext_ok {t : List Nat} {b p : Nat} (h : b + p ≤ t.length) : P t b (ext t b p) p ∧ ext t b p ≤ t.length ∧ b + p ≤ ext t b p ∧ (ext t b p < t.length → ¬ P t b (ext t b p + 1) p) :=
  exS_ok _ _ (Nat.le_refl _) (fun i a c => by omega) (by omega) h
theorem P_le {t : List Nat} {b e e' p : Nat} (h : P t b e p) (hl : e' ≤ e) : P t b e' p := fun i a c => h i a (by omega)
theorem ext_run {t : List Nat} {b e p : Nat} (h : MaxP t b e p) : ext t b p = e := by
  have hl := h.le
  have he := h.en
  obtain ⟨a, b', c, d⟩ := ext_ok (t := t) (b := b) (p := p) (by omega)
  by_cases q : e < ext t b p
  · exact absurd (P_le a (by omega)) (h.rt (by omega))
  · by_cases q2 : ext t b p < e
    · exact absurd (P_le h.per (by omega)) (d (by omega))
    · omega
def rowN (t : List Nat) (b : Nat) : List Tri := ((List.range ((t.length - b) / 2)).map (· + 1)).filterMap fun p => if IsRun t b (ext t b p) p then some (b, ext t b p, p) else none
def runsN (t : List Nat) : List Tri := (List.range t.length).flatMap (rowN t)
theorem mem_rowN {t : List Nat} {b b' e p : Nat} : (b', e, p) ∈ rowN t b ↔ b' = b ∧ IsRun t b e p := by
  unfold rowN
  rw [List.mem_filterMap]
  constructor
  · rintro ⟨p', hp', h⟩
    by_cases c : IsRun t b (ext t b p') p'
    · rw [if_pos c] at h
      cases h
      exact ⟨rfl, c⟩
    · rw [if_neg c] at h; cases h
  · rintro ⟨rfl, h⟩
    have hl := h.mx.le
    have he := h.mx.en
    have h1 := h.mx.p1
    refine ⟨p, List.mem_map.mpr ⟨p - 1, List.mem_range.mpr (by omega), by omega⟩, ?_⟩
    rw [ext_run h.mx, if_pos h]
theorem mem_runsN {t : List Nat} {b e p : Nat} : (b, e, p) ∈ runsN t ↔ IsRun t b e p := by
  unfold runsN
  rw [List.mem_flatMap]
  constructor
  · rintro ⟨b', _, h⟩
    obtain ⟨rfl, h⟩ := mem_rowN.mp h
    exact h
  · intro h
    have hl := h.mx.le
    have he := h.mx.en
    have h1 := h.mx.p1
    exact ⟨b, List.mem_range.mpr (by omega), mem_rowN.mpr ⟨rfl, h⟩⟩
def lt2 (x y : Tri) : Prop := x.1 < y.1 ∨ (x.1 = y.1 ∧ x.2.1 < y.2.1)
theorem lt2_asym (x y : Tri) (h : lt2 x y) : ¬ lt2 y x := by
  unfold lt2 at *
  omega
theorem rowN_sorted (t : List Nat) (b : Nat) : (rowN t b).Pairwise lt2 := by
  unfold rowN
  rw [List.pairwise_filterMap]
  have hp : ((List.range ((t.length - b) / 2)).map (· + 1)).Pairwise (· < ·) := by
    rw [List.pairwise_map]
    exact (range_sorted _).imp fun h => by omega
  refine hp.imp ?_
  intro p p' hlt x hx y hy
  by_cases c : IsRun t b (ext t b p) p
  · by_cases c' : IsRun t b (ext t b p') p'
    · rw [if_pos c] at hx
      rw [if_pos c'] at hy
      cases hx
      cases hy
      refine .inr ⟨rfl, ?_⟩
      show ext t b p < ext t b p'
      by_cases q : ext t b p < ext t b p'
      · exact q
      · exact absurd (P_le c.mx.per (by omega)) (c'.least p hlt c.mx.p1)
    · rw [if_neg c'] at hy; cases hy
  · rw [if_neg c] at hx; cases hx
theorem runsN_sorted (t : List Nat) : (runsN t).Pairwise lt2 := by
  unfold runsN
  rw [List.pairwise_flatMap]
  refine ⟨fun b _ => rowN_sorted t b, (range_sorted _).imp fun {a b} h x hx y hy => ?_⟩
  obtain ⟨x1, x2, x3⟩ := x
  obtain ⟨y1, y2, y3⟩ := y
  have e1 := (mem_rowN.mp hx).1
  have e2 := (mem_rowN.mp hy).1
  subst e1 e2
  exact .inl h
/-! ### sorted triples -/
def le3 (x y : Tri) : Bool := decide (x.1 < y.1 ∨ (x.1 = y.1 ∧ (x.2.1 < y.2.1 ∨ (x.2.1 = y.2.1 ∧ x.2.2 ≤ y.2.2))))
theorem le3_trans (x y z : Tri) (h1 : le3 x y = true) (h2 : le3 y z = true) : le3 x z = true := by
  unfold le3 at *
  rw [decide_eq_true_eq] at *
  omega
theorem le3_total (x y : Tri) : (le3 x y || le3 y x) = true := by
  unfold le3
  rw [Bool.or_eq_true, decide_eq_true_eq, decide_eq_true_eq]
  omega
theorem run_one {t : List Nat} {b e p q : Nat} (h : IsRun t b e p) (h' : IsRun t b e q) : p = q := by
  by_cases c : p < q
  · exact absurd h.mx.per (h'.least p c h.mx.p1)
  · by_cases c2 : q < p
    · exact absurd h'.mx.per (h.least q c2 h'.mx.p1)
    · omega
def triOf (x : RT) : Tri := (x.1.1, x.1.2, x.2)
theorem sorted_runs (t : List Nat) : ((allK t (t.length / 2)).map triOf).mergeSort le3 = runsN t := by
  have hm : ∀ b e p, (b, e, p) ∈ ((allK t (t.length / 2)).map triOf).mergeSort le3 ↔ IsRun t b e p := by
    intro b e p
    rw [List.mem_mergeSort, List.mem_map]
    constructor
    · rintro ⟨⟨⟨b', e'⟩, p'⟩, h, q⟩
      cases q
      exact ((allK_mem _ (by omega)).mp h).2
    · intro h
      have hl := h.mx.le
      have he := h.mx.en
      exact ⟨((b, e), p), (allK_mem _ (by omega)).mpr ⟨by omega, h⟩, rfl⟩
  have nd : (((allK t (t.length / 2)).map triOf).mergeSort le3).Nodup := by
    refine (List.mergeSort_perm _ _).nodup_iff.mpr ?_
    have h := allK_keys t (t.length / 2)
    unfold List.Nodup at *
    rw [List.pairwise_map] at *
    refine h.imp fun {a b} q z => q ?_
    obtain ⟨⟨a1, a2⟩, a3⟩ := a
    obtain ⟨⟨b1, b2⟩, b3⟩ := b
    cases z
    rfl
  refine sorted_one lt2_asym ?_ (runsN_sorted t) ?_
  · have hs := List.pairwise_mergeSort le3_trans le3_total ((allK t (t.length / 2)).map triOf)
    refine (List.Pairwise.and_mem.mp (hs.and nd)).imp ?_
    rintro ⟨b, e, p⟩ ⟨b', e', p'⟩ ⟨h1, h2, h3, h4⟩
    have r1 := (hm _ _ _).mp h1
    have r2 := (hm _ _ _).mp h2
    unfold le3 at h3
    rw [decide_eq_true_eq] at h3
    unfold lt2
    simp only at h3 ⊢
    by_cases q : b = b' ∧ e = e'
    · obtain ⟨rfl, rfl⟩ := q
      exact absurd (by rw [run_one r1 r2]) h4
    · omega
  · rintro ⟨b, e, p⟩
    rw [hm, mem_runsN]
end DL


namespace DL
open PySem PySem.Spec PyProof.Rows L2

def trD (x : Tri) : D := .tup [.int (x.1 : Nat), .int (x.2.1 : Nat), .int (x.2.2 : Nat)]
def kvD (x : RT) : D × D := (prD x.1, .int (x.2 : Nat))
theorem okK_prD (x : Nat × Nat) : okK true (prD x) = true := rfl
theorem prD_eq (x y : Nat × Nat) : (prD x).eq (prD y) = (x == y) := by
  obtain ⟨a, b⟩ := x
  obtain ⟨c, d⟩ := y
  show ((((a : Nat) : Int) == ((c : Nat) : Int)) && ((((b : Nat) : Int) == ((d : Nat) : Int)) && true)) = ((a == c) && (b == d))
  have e1 : (((a : Nat) : Int) == ((c : Nat) : Int)) = (a == c) := by
    rw [Bool.eq_iff_iff, beq_iff_eq, beq_iff_eq]; omega
  have e2 : (((b : Nat) : Int) == ((d : Nat) : Int)) = (b == d) := by
    rw [Bool.eq_iff_iff, beq_iff_eq, beq_iff_eq]; omega
  rw [e1, e2, Bool.and_true]
theorem get_kv (kvs : List RT) (y : Nat × Nat) : getDD (kvs.map kvD) (prD y) = (kvs.find? fun x => x.1 == y).map fun x => D.int (x.2 : Nat) := by
  unfold getDD
  rw [List.find?_map, Option.map_map]
  have e : ((fun (p : D × D) => p.1.eq (prD y)) ∘ kvD) = fun x : RT => x.1 == y := by
    funext x
    exact prD_eq _ _
  rw [e]
  rfl
theorem put_kv {kvs : List RT} {y : Nat × Nat} {p : Nat} (h : ¬ (kvs.any fun x => x.1 == y) = true) : putDD (kvs.map kvD) (prD y) (.int (p : Nat)) = (insR p kvs y).map kvD := by
  unfold putDD insR
  have e : (kvs.map kvD).any (fun q => q.1.eq (prD y)) = kvs.any fun x => x.1 == y := by
    rw [List.any_map]
    congr 1
    funext x
    exact prD_eq _ _
  rw [e, if_neg h, if_neg h, List.map_append]
  rfl
theorem foldR_length {p : Nat} : ∀ (l : List (Nat × Nat)) (kvs : List RT), (l.foldl (insR p) kvs).length ≤ kvs.length + l.length
  | [], kvs => Nat.le_refl _
  | x :: l, kvs => by
    rw [List.foldl_cons]
    have h1 := foldR_length (p := p) l (insR p kvs x)
    have h2 : (insR p kvs x).length ≤ kvs.length + 1 := by
      unfold insR
      split
      · omega
      · rw [List.length_append]; simp
    rw [List.length_cons]
    omega
theorem allK_length (t : List Nat) : ∀ m, (allK t m).length ≤ m * (t.length + 1)
  | 0 => Nat.zero_le _
  | m + 1 => by
    have h1 := foldR_length (p := m + 1) (likeN t (m + 1)) (allK t m)
    have h2 := likeN_length t (m + 1)
    have h3 := allK_length t m
    show ((likeN t (m + 1)).foldl (insR (m + 1)) (allK t m)).length ≤ _
    rw [Nat.succ_mul]
    omega
theorem pw_mem {α : Type} {R : α → α → Prop} (sy : ∀ a b, R a b → R b a) : ∀ {l : List α}, l.Pairwise R → ∀ {a b : α}, a ∈ l → b ∈ l → a ≠ b → R a b
  | x :: l, h, a, b, ha, hb, ne => by
    have h' := List.pairwise_cons.mp h
    rcases List.mem_cons.mp ha with ea | ha
    · rcases List.mem_cons.mp hb with eb | hb
      · exact absurd (ea.trans eb.symm) ne
      · rw [ea]; exact h'.1 _ hb
    · rcases List.mem_cons.mp hb with eb | hb
      · rw [eb]; exact sy _ _ (h'.1 _ ha)
      · exact pw_mem sy h'.2 ha hb ne
theorem get_mem : ∀ {kvs : List RT} {x : RT}, (kvs.map (·.1)).Nodup → x ∈ kvs → getDD (kvs.map kvD) (prD x.1) = some (.int (x.2 : Nat)) := by
  intro kvs x nd hx
  rw [get_kv]
  have h1 : (kvs.find? fun z => z.1 == x.1).isSome = true := List.find?_isSome.mpr ⟨x, hx, by simp⟩
  obtain ⟨z, hz⟩ := Option.isSome_iff_exists.mp h1
  have e1 : z.1 = x.1 := by simpa using List.find?_some hz
  have e2 : z = x := by
    have hm := List.mem_of_find?_eq_some hz
    unfold List.Nodup at nd
    rw [List.pairwise_map] at nd
    by_cases q : z = x
    · exact q
    · exact absurd e1 (pw_mem (fun a b h => h.symm) nd hm hx q)
  rw [hz, e2]
  rfl
theorem triD_of (x : RT) : trD (triOf x) = .tup [.int (x.1.1 : Nat), .int (x.1.2 : Nat), .int (x.2 : Nat)] := rfl
theorem dataLt_iii (x y z x' y' z' : Int) : PySem.W.dataLt (.tuple [.int x, .int y, .int z]) (.tuple [.int x', .int y', .int z']) = decide (x < x' ∨ (x = x' ∧ (y < y' ∨ (y = y' ∧ z < z')))) := by
  rw [PySem.W.dataLt_tuple, PySem.W.dataLt_cons rfl, PySem.W.dataLt_cons rfl, PySem.W.dataLt_cons rfl, PySem.W.dataLt_int, PySem.W.dataLt_int, PySem.W.dataLt_int]
  have ev : ∀ a b : Int, PyData.eqv (.int a) (.int b) = decide (a = b) := fun a b => by
    rw [Bool.eq_iff_iff, decide_eq_true_eq]
    exact beq_iff_eq
  simp only [ev, decide_eq_true_eq]
  by_cases e1 : x = x'
  · subst e1
    rw [if_pos rfl]
    by_cases e2 : y = y'
    · subst e2
      rw [if_pos rfl]
      by_cases e3 : z = z'
      · subst e3
        rw [if_pos rfl]
        rw [decide_eq_false (by omega)]
        rfl
      · rw [if_neg e3]
        exact decide_eq_decide.mpr (by omega)
    · rw [if_neg e2]
      exact decide_eq_decide.mpr (by omega)
  · rw [if_neg e1]
    exact decide_eq_decide.mpr (by omega)
theorem leD_tri (x y : Tri) : leD (trD x) (trD y) = le3 x y := by
  obtain ⟨a, b, c⟩ := x
  obtain ⟨a', b', c'⟩ := y
  show (!PySem.W.dataLt (.tuple [.int (a' : Nat), .int (b' : Nat), .int (c' : Nat)]) (.tuple [.int (a : Nat), .int (b : Nat), .int (c : Nat)])) = _
  rw [dataLt_iii]
  unfold le3
  rw [Bool.eq_iff_iff, Bool.not_eq_true', decide_eq_false_iff_not, decide_eq_true_eq]
  simp only
  omega
theorem pls_tri : ∀ l : List Tri, pls (l.map trD) = true
  | [] => rfl
  | x :: l => by
    show (true && pls (l.map trD)) = true
    rw [pls_tri l] <;> rfl
def S_all_runs : FnSpec := fnSpec 1 true (fun t : List Nat => [.str t]) (fun t => t.length ≤ 2000) fun t => .lst ((runsN t).map trD)
/-- all_runs: slots 0 text, 1 found, 2 period, 3 stretch, 4 begin, 5 behind -/
def D_all_runs : DTS := (dSeq (dSet 1 (dDic true)) (dSeq (dFor (dRng2 (dCons (dC (.int 1)) (dCons (dBin oAdd (dBin oFdiv (dLenS 0) (dC (.int 2))) (dC (.int 1))) dNil))) (dgName 2) (dFor (dIt (dFz (dCallF S_like_stretches (dCons (dVar 0) (dCons (dVar 2) dNil))))) (dgName 3) (dIf (dTest (dInS 1 (oInD true) (dVar 3))) (dStD 1 (dVar 2) (dVar 3)) dNext))) (dRet (dCBF oSorted (dCons (dFz (dLc (dKeys (dLock 1)) (dgTup 2 (dgCons (dgName 4) (dgCons (dgName 5) dgNil))) dYes (dTup (dCons (dVar 4) (dCons (dVar 5) (dCons (dGetS 1 (dTup (dCons (dVar 4) (dCons (dVar 5) dNil)))) dNil)))) [4, 5])) dNil)))))
theorem sem_all_runs : ∀ ds Kd, S_all_runs.ds ds Kd → D_all_runs (endsOf S_all_runs Kd) (env0 6 [false] ds) := by
  rintro ds Kd ⟨t, rfl, hz, post⟩
  simp only at hz post
  have small : ∀ m, m ≤ t.length / 2 → (allK t m).length ≤ 2001000 := by
    intro m hm
    refine Nat.le_trans (allK_length t m) ?_
    have : m * (t.length + 1) ≤ 1000 * 2001 := Nat.mul_le_mul (by omega) (by omega)
    omega
  show D_all_runs (endsOf S_all_runs Kd) [.fz (.str t), .un, .un, .un, .un, .un]
  simp only [↓D_all_runs, ↓dSeq, ↓dNext, ↓dBreak, ↓dCont, ↓dNever, ↓dRet, ↓dRetN, ↓dDrop, ↓dSet, ↓dIf, ↓dAug, ↓dAsg, ↓dPar, ↓dVar, ↓dMove, ↓dC, ↓dFz, ↓dUp, ↓dNil, ↓dCons, ↓dTup, ↓dLst, ↓dBin, ↓dUn, ↓dChain, ↓dTest, ↓dAnd, ↓dOr, ↓dNot, ↓dAndV, ↓dOrV, ↓dNotV, ↓dIfE, ↓dgName, ↓dgNil, ↓dgCons, ↓dgTup, ↓dIt, ↓dRng1, ↓dRng2, ↓dZip, ↓dEnum, ↓u_for, ↓u_lc, ↓dYes, ↓u_call, ↓u_callF, ↓u_callIo, ↓dCB, ↓dCBF, ↓dBinS, ↓dLenS, ↓dSl, ↓dSlS, ↓dNo, ↓dPt, ↓dStL, ↓dApp, ↓dExt, ↓dJoin, ↓dRg1, ↓dRg2, ↓dTupRg, ↓dLstRg, ↓oSub, ↓oMulI, ↓oMul, ↓oFdiv, ↓oMod, ↓oPow, ↓oShr, ↓oXor, ↓oNeg, ↓oAdd, ↓oAug, ↓oLt, ↓oLe, ↓oGt, ↓oGe, ↓oI, ↓oIx, ↓oLen, ↓oInt, ↓oOrd, ↓oAbs, ↓oStL, ↓oIn, ↓oNin, ↓oInB, ↓isi_int, ↓isi_int_bl, ↓isi_int_str, ↓isi_int_tup, ↓isi_int_lst, ↓isi_str, ↓isi_str_int, ↓isi_tup, ↓isi_tup_int, ↓isi_tup_str, ↓isi_tup_lst, ↓isi_lst, ↓isi_lst_tup, ↓isi_lst_int, ↓isi_lst_str, ↓cv, ↓Cell.val, ↓Cell.up, ↓Cell.own, ↓lenD, ↓itemsOf, List.getElem?_cons_zero, List.getElem?_cons_succ, List.set_cons_zero, List.set_cons_succ, Option.bind_some, Option.isSome_some, List.length_cons, List.length_nil, true_and, and_true, ↓ixN_lit, ↓atI_lit, ↓reduceIte, Nat.reduceAdd, Nat.reduceLT, Nat.reduceSub, Nat.zero_add, Nat.reduceLeDiff, Nat.lt_add_one, Nat.zero_lt_succ, ↓oEq_int, ↓oNe_int, ↓oEq_str, ↓oNe_str, ↓oEq_bl, ↓oNe_bl, decide_eq_true_eq, Bool.false_eq_true, ↓u_while, ↓ownAt, List.all_cons, List.all_nil, Bool.and_true, List.getD_cons_zero, List.getD_cons_succ, Bool.not_false, ↓oLe_sign, ↓oMulS, ↓dDic, ↓dLock, ↓dGetS, ↓dStD, ↓dInS, ↓oInD, ↓dKeys, ↓dGet1, ↓dGet2, ↓dRev, ↓dMulL, ↓dCount, ↓dScrSl, ↓dScrLen, ↓dScrList, ↓oStrI]
  refine ⟨cdiv_lit (by decide) (by decide), by omega, by omega, ?_⟩
  rw [show ((t.length : Int) / 2 + 1 - 1).toNat = t.length / 2 by omega]
  refine forB_of (forN_inv (fun m ρ => ∃ x2 x3, ρ = [.fz (.str t), .ow (.dic true false ((allK t m).map kvD)), x2, x3, .un, .un]) ?_ ?_ _ ⟨.un, .un, rfl⟩)
  · rintro m ρ k hm ⟨x2, x3, rfl⟩ hk
    simp only [↓dSeq, ↓dNext, ↓dBreak, ↓dCont, ↓dNever, ↓dRet, ↓dRetN, ↓dDrop, ↓dSet, ↓dIf, ↓dAug, ↓dAsg, ↓dPar, ↓dVar, ↓dMove, ↓dC, ↓dFz, ↓dUp, ↓dNil, ↓dCons, ↓dTup, ↓dLst, ↓dBin, ↓dUn, ↓dChain, ↓dTest, ↓dAnd, ↓dOr, ↓dNot, ↓dAndV, ↓dOrV, ↓dNotV, ↓dIfE, ↓dgName, ↓dgNil, ↓dgCons, ↓dgTup, ↓dIt, ↓dRng1, ↓dRng2, ↓dZip, ↓dEnum, ↓u_for, ↓u_lc, ↓dYes, ↓u_call, ↓u_callF, ↓u_callIo, ↓dCB, ↓dCBF, ↓dBinS, ↓dLenS, ↓dSl, ↓dSlS, ↓dNo, ↓dPt, ↓dStL, ↓dApp, ↓dExt, ↓dJoin, ↓dRg1, ↓dRg2, ↓dTupRg, ↓dLstRg, ↓oSub, ↓oMulI, ↓oMul, ↓oFdiv, ↓oMod, ↓oPow, ↓oShr, ↓oXor, ↓oNeg, ↓oAdd, ↓oAug, ↓oLt, ↓oLe, ↓oGt, ↓oGe, ↓oI, ↓oIx, ↓oLen, ↓oInt, ↓oOrd, ↓oAbs, ↓oStL, ↓oIn, ↓oNin, ↓oInB, ↓isi_int, ↓isi_int_bl, ↓isi_int_str, ↓isi_int_tup, ↓isi_int_lst, ↓isi_str, ↓isi_str_int, ↓isi_tup, ↓isi_tup_int, ↓isi_tup_str, ↓isi_tup_lst, ↓isi_lst, ↓isi_lst_tup, ↓isi_lst_int, ↓isi_lst_str, ↓cv, ↓Cell.val, ↓Cell.up, ↓Cell.own, ↓lenD, ↓itemsOf, List.getElem?_cons_zero, List.getElem?_cons_succ, List.set_cons_zero, List.set_cons_succ, Option.bind_some, Option.isSome_some, List.length_cons, List.length_nil, true_and, and_true, ↓ixN_lit, ↓atI_lit, ↓reduceIte, Nat.reduceAdd, Nat.reduceLT, Nat.reduceSub, Nat.zero_add, Nat.reduceLeDiff, Nat.lt_add_one, Nat.zero_lt_succ, ↓oEq_int, ↓oNe_int, ↓oEq_str, ↓oNe_str, ↓oEq_bl, ↓oNe_bl, decide_eq_true_eq, Bool.false_eq_true, ↓u_while, ↓ownAt, List.all_cons, List.all_nil, Bool.and_true, List.getD_cons_zero, List.getD_cons_succ, Bool.not_false, ↓oLe_sign, ↓oMulS, ↓dDic, ↓dLock, ↓dGetS, ↓dStD, ↓dInS, ↓oInD, ↓dKeys, ↓dGet1, ↓dGet2, ↓dRev, ↓dMulL, ↓dCount, ↓dScrSl, ↓dScrLen, ↓dScrList, ↓oStrI]
    rw [show (1 : Int) + ((m : Nat) : Int) = ((m + 1 : Nat) : Int) by omega]
    refine ⟨rfl, onF (t, m + 1) rfl ⟨by omega, by show m + 1 ≤ t.length; omega, by show t.length ≤ 2000; omega⟩ ?_⟩
    simp only [↓dSeq, ↓dNext, ↓dBreak, ↓dCont, ↓dNever, ↓dRet, ↓dRetN, ↓dDrop, ↓dSet, ↓dIf, ↓dAug, ↓dAsg, ↓dPar, ↓dVar, ↓dMove, ↓dC, ↓dFz, ↓dUp, ↓dNil, ↓dCons, ↓dTup, ↓dLst, ↓dBin, ↓dUn, ↓dChain, ↓dTest, ↓dAnd, ↓dOr, ↓dNot, ↓dAndV, ↓dOrV, ↓dNotV, ↓dIfE, ↓dgName, ↓dgNil, ↓dgCons, ↓dgTup, ↓dIt, ↓dRng1, ↓dRng2, ↓dZip, ↓dEnum, ↓u_for, ↓u_lc, ↓dYes, ↓u_call, ↓u_callF, ↓u_callIo, ↓dCB, ↓dCBF, ↓dBinS, ↓dLenS, ↓dSl, ↓dSlS, ↓dNo, ↓dPt, ↓dStL, ↓dApp, ↓dExt, ↓dJoin, ↓dRg1, ↓dRg2, ↓dTupRg, ↓dLstRg, ↓oSub, ↓oMulI, ↓oMul, ↓oFdiv, ↓oMod, ↓oPow, ↓oShr, ↓oXor, ↓oNeg, ↓oAdd, ↓oAug, ↓oLt, ↓oLe, ↓oGt, ↓oGe, ↓oI, ↓oIx, ↓oLen, ↓oInt, ↓oOrd, ↓oAbs, ↓oStL, ↓oIn, ↓oNin, ↓oInB, ↓isi_int, ↓isi_int_bl, ↓isi_int_str, ↓isi_int_tup, ↓isi_int_lst, ↓isi_str, ↓isi_str_int, ↓isi_tup, ↓isi_tup_int, ↓isi_tup_str, ↓isi_tup_lst, ↓isi_lst, ↓isi_lst_tup, ↓isi_lst_int, ↓isi_lst_str, ↓cv, ↓Cell.val, ↓Cell.up, ↓Cell.own, ↓lenD, ↓itemsOf, List.getElem?_cons_zero, List.getElem?_cons_succ, List.set_cons_zero, List.set_cons_succ, Option.bind_some, Option.isSome_some, List.length_cons, List.length_nil, true_and, and_true, ↓ixN_lit, ↓atI_lit, ↓reduceIte, Nat.reduceAdd, Nat.reduceLT, Nat.reduceSub, Nat.zero_add, Nat.reduceLeDiff, Nat.lt_add_one, Nat.zero_lt_succ, ↓oEq_int, ↓oNe_int, ↓oEq_str, ↓oNe_str, ↓oEq_bl, ↓oNe_bl, decide_eq_true_eq, Bool.false_eq_true, ↓u_while, ↓ownAt, List.all_cons, List.all_nil, Bool.and_true, List.getD_cons_zero, List.getD_cons_succ, Bool.not_false, ↓oLe_sign, ↓oMulS, ↓dDic, ↓dLock, ↓dGetS, ↓dStD, ↓dInS, ↓oInD, ↓dKeys, ↓dGet1, ↓dGet2, ↓dRev, ↓dMulL, ↓dCount, ↓dScrSl, ↓dScrLen, ↓dScrList, ↓oStrI]
    refine forB_of (forI_inv (fun j ρ => ∃ x3, ρ = [.fz (.str t), .ow (.dic true false ((((likeN t (m + 1)).take j).foldl (insR (m + 1)) (allK t m)).map kvD)), .fz (.int ((m + 1 : Nat) : Int)), x3, .un, .un]) ?_ ?_ _ ⟨x3, rfl⟩)
    · rintro j x ρ k2 hx ⟨x3, rfl⟩ hk2
      rw [List.getElem?_map] at hx
      obtain ⟨y, hy, rfl⟩ := Option.map_eq_some_iff.mp hx
      simp only [↓dSeq, ↓dNext, ↓dBreak, ↓dCont, ↓dNever, ↓dRet, ↓dRetN, ↓dDrop, ↓dSet, ↓dIf, ↓dAug, ↓dAsg, ↓dPar, ↓dVar, ↓dMove, ↓dC, ↓dFz, ↓dUp, ↓dNil, ↓dCons, ↓dTup, ↓dLst, ↓dBin, ↓dUn, ↓dChain, ↓dTest, ↓dAnd, ↓dOr, ↓dNot, ↓dAndV, ↓dOrV, ↓dNotV, ↓dIfE, ↓dgName, ↓dgNil, ↓dgCons, ↓dgTup, ↓dIt, ↓dRng1, ↓dRng2, ↓dZip, ↓dEnum, ↓u_for, ↓u_lc, ↓dYes, ↓u_call, ↓u_callF, ↓u_callIo, ↓dCB, ↓dCBF, ↓dBinS, ↓dLenS, ↓dSl, ↓dSlS, ↓dNo, ↓dPt, ↓dStL, ↓dApp, ↓dExt, ↓dJoin, ↓dRg1, ↓dRg2, ↓dTupRg, ↓dLstRg, ↓oSub, ↓oMulI, ↓oMul, ↓oFdiv, ↓oMod, ↓oPow, ↓oShr, ↓oXor, ↓oNeg, ↓oAdd, ↓oAug, ↓oLt, ↓oLe, ↓oGt, ↓oGe, ↓oI, ↓oIx, ↓oLen, ↓oInt, ↓oOrd, ↓oAbs, ↓oStL, ↓oIn, ↓oNin, ↓oInB, ↓isi_int, ↓isi_int_bl, ↓isi_int_str, ↓isi_int_tup, ↓isi_int_lst, ↓isi_str, ↓isi_str_int, ↓isi_tup, ↓isi_tup_int, ↓isi_tup_str, ↓isi_tup_lst, ↓isi_lst, ↓isi_lst_tup, ↓isi_lst_int, ↓isi_lst_str, ↓cv, ↓Cell.val, ↓Cell.up, ↓Cell.own, ↓lenD, ↓itemsOf, List.getElem?_cons_zero, List.getElem?_cons_succ, List.set_cons_zero, List.set_cons_succ, Option.bind_some, Option.isSome_some, List.length_cons, List.length_nil, true_and, and_true, ↓ixN_lit, ↓atI_lit, ↓reduceIte, Nat.reduceAdd, Nat.reduceLT, Nat.reduceSub, Nat.zero_add, Nat.reduceLeDiff, Nat.lt_add_one, Nat.zero_lt_succ, ↓oEq_int, ↓oNe_int, ↓oEq_str, ↓oNe_str, ↓oEq_bl, ↓oNe_bl, decide_eq_true_eq, Bool.false_eq_true, ↓u_while, ↓ownAt, List.all_cons, List.all_nil, Bool.and_true, List.getD_cons_zero, List.getD_cons_succ, Bool.not_false, ↓oLe_sign, ↓oMulS, ↓dDic, ↓dLock, ↓dGetS, ↓dStD, ↓dInS, ↓oInD, ↓dKeys, ↓dGet1, ↓dGet2, ↓dRev, ↓dMulL, ↓dCount, ↓dScrSl, ↓dScrLen, ↓dScrList, ↓oStrI]
      have ej := take_snoc hy
      have nx : ∀ kvs, kvs = ((likeN t (m + 1)).take (j + 1)).foldl (insR (m + 1)) (allK t m) → k2 [.fz (.str t), .ow (.dic true false (kvs.map kvD)), .fz (.int ((m + 1 : Nat) : Int)), .fz (prD y), .un, .un] := by
        rintro kvs rfl
        exact hk2 _ ⟨.fz (prD y), rfl⟩
      rw [ej, List.foldl_append, List.foldl_cons, List.foldl_nil] at nx
      have hl := foldR_length (p := m + 1) ((likeN t (m + 1)).take j) (allK t m)
      have hl2 := List.length_take_le j (likeN t (m + 1))
      have hl3 := likeN_length t (m + 1)
      have hl4 := small m (by omega)
      generalize ((likeN t (m + 1)).take j).foldl (insR (m + 1)) (allK t m) = kvs at hl nx
      rw [get_kv, Option.isSome_map]
      have hf : (kvs.find? fun x => x.1 == y).isSome = kvs.any fun x => x.1 == y := by
        rw [Bool.eq_iff_iff, List.find?_isSome, List.any_eq_true]
      rw [hf]
      have hl5 := List.length_take_le' j (likeN t (m + 1))
      refine ⟨okK_prD y, ?_⟩
      by_cases q : (kvs.any fun x => x.1 == y) = true
      · rw [if_neg (by rw [q]; decide)]
        refine nx kvs ?_
        unfold insR
        rw [if_pos q]
      · rw [if_pos (by rw [Bool.not_eq_true] at q; rw [q]; rfl)]
        refine ⟨okK_prD y, by rw [List.length_map]; show kvs.length < 16777216; omega, ?_⟩
        rw [put_kv q]
        exact nx _ rfl
    · rintro ρ ⟨x3, rfl⟩
      simp only [↓dSeq, ↓dNext, ↓dBreak, ↓dCont, ↓dNever, ↓dRet, ↓dRetN, ↓dDrop, ↓dSet, ↓dIf, ↓dAug, ↓dAsg, ↓dPar, ↓dVar, ↓dMove, ↓dC, ↓dFz, ↓dUp, ↓dNil, ↓dCons, ↓dTup, ↓dLst, ↓dBin, ↓dUn, ↓dChain, ↓dTest, ↓dAnd, ↓dOr, ↓dNot, ↓dAndV, ↓dOrV, ↓dNotV, ↓dIfE, ↓dgName, ↓dgNil, ↓dgCons, ↓dgTup, ↓dIt, ↓dRng1, ↓dRng2, ↓dZip, ↓dEnum, ↓u_for, ↓u_lc, ↓dYes, ↓u_call, ↓u_callF, ↓u_callIo, ↓dCB, ↓dCBF, ↓dBinS, ↓dLenS, ↓dSl, ↓dSlS, ↓dNo, ↓dPt, ↓dStL, ↓dApp, ↓dExt, ↓dJoin, ↓dRg1, ↓dRg2, ↓dTupRg, ↓dLstRg, ↓oSub, ↓oMulI, ↓oMul, ↓oFdiv, ↓oMod, ↓oPow, ↓oShr, ↓oXor, ↓oNeg, ↓oAdd, ↓oAug, ↓oLt, ↓oLe, ↓oGt, ↓oGe, ↓oI, ↓oIx, ↓oLen, ↓oInt, ↓oOrd, ↓oAbs, ↓oStL, ↓oIn, ↓oNin, ↓oInB, ↓isi_int, ↓isi_int_bl, ↓isi_int_str, ↓isi_int_tup, ↓isi_int_lst, ↓isi_str, ↓isi_str_int, ↓isi_tup, ↓isi_tup_int, ↓isi_tup_str, ↓isi_tup_lst, ↓isi_lst, ↓isi_lst_tup, ↓isi_lst_int, ↓isi_lst_str, ↓cv, ↓Cell.val, ↓Cell.up, ↓Cell.own, ↓lenD, ↓itemsOf, List.getElem?_cons_zero, List.getElem?_cons_succ, List.set_cons_zero, List.set_cons_succ, Option.bind_some, Option.isSome_some, List.length_cons, List.length_nil, true_and, and_true, ↓ixN_lit, ↓atI_lit, ↓reduceIte, Nat.reduceAdd, Nat.reduceLT, Nat.reduceSub, Nat.zero_add, Nat.reduceLeDiff, Nat.lt_add_one, Nat.zero_lt_succ, ↓oEq_int, ↓oNe_int, ↓oEq_str, ↓oNe_str, ↓oEq_bl, ↓oNe_bl, decide_eq_true_eq, Bool.false_eq_true, ↓u_while, ↓ownAt, List.all_cons, List.all_nil, Bool.and_true, List.getD_cons_zero, List.getD_cons_succ, Bool.not_false, ↓oLe_sign, ↓oMulS, ↓dDic, ↓dLock, ↓dGetS, ↓dStD, ↓dInS, ↓oInD, ↓dKeys, ↓dGet1, ↓dGet2, ↓dRev, ↓dMulL, ↓dCount, ↓dScrSl, ↓dScrLen, ↓dScrList, ↓oStrI]
      refine hk _ ⟨.fz (.int ((m + 1 : Nat) : Int)), x3, ?_⟩
      rw [List.length_map, List.take_length]
      rfl
  · rintro ρ ⟨x2, x3, rfl⟩
    simp only [↓dSeq, ↓dNext, ↓dBreak, ↓dCont, ↓dNever, ↓dRet, ↓dRetN, ↓dDrop, ↓dSet, ↓dIf, ↓dAug, ↓dAsg, ↓dPar, ↓dVar, ↓dMove, ↓dC, ↓dFz, ↓dUp, ↓dNil, ↓dCons, ↓dTup, ↓dLst, ↓dBin, ↓dUn, ↓dChain, ↓dTest, ↓dAnd, ↓dOr, ↓dNot, ↓dAndV, ↓dOrV, ↓dNotV, ↓dIfE, ↓dgName, ↓dgNil, ↓dgCons, ↓dgTup, ↓dIt, ↓dRng1, ↓dRng2, ↓dZip, ↓dEnum, ↓u_for, ↓u_lc, ↓dYes, ↓u_call, ↓u_callF, ↓u_callIo, ↓dCB, ↓dCBF, ↓dBinS, ↓dLenS, ↓dSl, ↓dSlS, ↓dNo, ↓dPt, ↓dStL, ↓dApp, ↓dExt, ↓dJoin, ↓dRg1, ↓dRg2, ↓dTupRg, ↓dLstRg, ↓oSub, ↓oMulI, ↓oMul, ↓oFdiv, ↓oMod, ↓oPow, ↓oShr, ↓oXor, ↓oNeg, ↓oAdd, ↓oAug, ↓oLt, ↓oLe, ↓oGt, ↓oGe, ↓oI, ↓oIx, ↓oLen, ↓oInt, ↓oOrd, ↓oAbs, ↓oStL, ↓oIn, ↓oNin, ↓oInB, ↓isi_int, ↓isi_int_bl, ↓isi_int_str, ↓isi_int_tup, ↓isi_int_lst, ↓isi_str, ↓isi_str_int, ↓isi_tup, ↓isi_tup_int, ↓isi_tup_str, ↓isi_tup_lst, ↓isi_lst, ↓isi_lst_tup, ↓isi_lst_int, ↓isi_lst_str, ↓cv, ↓Cell.val, ↓Cell.up, ↓Cell.own, ↓lenD, ↓itemsOf, List.getElem?_cons_zero, List.getElem?_cons_succ, List.set_cons_zero, List.set_cons_succ, Option.bind_some, Option.isSome_some, List.length_cons, List.length_nil, true_and, and_true, ↓ixN_lit, ↓atI_lit, ↓reduceIte, Nat.reduceAdd, Nat.reduceLT, Nat.reduceSub, Nat.zero_add, Nat.reduceLeDiff, Nat.lt_add_one, Nat.zero_lt_succ, ↓oEq_int, ↓oNe_int, ↓oEq_str, ↓oNe_str, ↓oEq_bl, ↓oNe_bl, decide_eq_true_eq, Bool.false_eq_true, ↓u_while, ↓ownAt, List.all_cons, List.all_nil, Bool.and_true, List.getD_cons_zero, List.getD_cons_succ, Bool.not_false, ↓oLe_sign, ↓oMulS, ↓dDic, ↓dLock, ↓dGetS, ↓dStD, ↓dInS, ↓oInD, ↓dKeys, ↓dGet1, ↓dGet2, ↓dRev, ↓dMulL, ↓dCount, ↓dScrSl, ↓dScrLen, ↓dScrList, ↓oStrI]
    have hs := small _ (Nat.le_refl _)
    have nd := allK_keys t (t.length / 2)
    have fin : (((allK t (t.length / 2)).map triOf).map trD).mergeSort leD = (runsN t).map trD := by
      rw [← sorted_runs t]
      symm
      refine List.map_mergeSort fun x _ y _ => ?_
      exact (leD_tri x y).symm
    generalize allK t (t.length / 2) = kvs at hs nd fin
    refine ⟨by rw [List.length_map]; omega, ?_⟩
    refine lcB_of (lcW_map _ (fun d => match d with | .tup [.int a, .int b] => .tup [.int a, .int b, (getDD (kvs.map kvD) d).getD .non] | _ => .non) _ (fun x hx kT hT => ?_) fun ρ' hw => ?_)
    · rw [List.map_map] at hx
      obtain ⟨y, hy, rfl⟩ := List.mem_map.mp hx
      have hg := get_mem nd hy
      obtain ⟨⟨a, b⟩, p⟩ := y
      have hg2 : getDD (kvs.map kvD) (.tup [.int (a : Nat), .int (b : Nat)]) = some (.int (p : Nat)) := hg
      show dgTup 2 _ (.tup [.int (a : Nat), .int (b : Nat)]) _ _
      simp only [wipeE, ↓dSeq, ↓dNext, ↓dBreak, ↓dCont, ↓dNever, ↓dRet, ↓dRetN, ↓dDrop, ↓dSet, ↓dIf, ↓dAug, ↓dAsg, ↓dPar, ↓dVar, ↓dMove, ↓dC, ↓dFz, ↓dUp, ↓dNil, ↓dCons, ↓dTup, ↓dLst, ↓dBin, ↓dUn, ↓dChain, ↓dTest, ↓dAnd, ↓dOr, ↓dNot, ↓dAndV, ↓dOrV, ↓dNotV, ↓dIfE, ↓dgName, ↓dgNil, ↓dgCons, ↓dgTup, ↓dIt, ↓dRng1, ↓dRng2, ↓dZip, ↓dEnum, ↓u_for, ↓u_lc, ↓dYes, ↓u_call, ↓u_callF, ↓u_callIo, ↓dCB, ↓dCBF, ↓dBinS, ↓dLenS, ↓dSl, ↓dSlS, ↓dNo, ↓dPt, ↓dStL, ↓dApp, ↓dExt, ↓dJoin, ↓dRg1, ↓dRg2, ↓dTupRg, ↓dLstRg, ↓oSub, ↓oMulI, ↓oMul, ↓oFdiv, ↓oMod, ↓oPow, ↓oShr, ↓oXor, ↓oNeg, ↓oAdd, ↓oAug, ↓oLt, ↓oLe, ↓oGt, ↓oGe, ↓oI, ↓oIx, ↓oLen, ↓oInt, ↓oOrd, ↓oAbs, ↓oStL, ↓oIn, ↓oNin, ↓oInB, ↓isi_int, ↓isi_int_bl, ↓isi_int_str, ↓isi_int_tup, ↓isi_int_lst, ↓isi_str, ↓isi_str_int, ↓isi_tup, ↓isi_tup_int, ↓isi_tup_str, ↓isi_tup_lst, ↓isi_lst, ↓isi_lst_tup, ↓isi_lst_int, ↓isi_lst_str, ↓cv, ↓Cell.val, ↓Cell.up, ↓Cell.own, ↓lenD, ↓itemsOf, List.getElem?_cons_zero, List.getElem?_cons_succ, List.set_cons_zero, List.set_cons_succ, Option.bind_some, Option.isSome_some, List.length_cons, List.length_nil, true_and, and_true, ↓ixN_lit, ↓atI_lit, ↓reduceIte, Nat.reduceAdd, Nat.reduceLT, Nat.reduceSub, Nat.zero_add, Nat.reduceLeDiff, Nat.lt_add_one, Nat.zero_lt_succ, ↓oEq_int, ↓oNe_int, ↓oEq_str, ↓oNe_str, ↓oEq_bl, ↓oNe_bl, decide_eq_true_eq, Bool.false_eq_true, ↓u_while, ↓ownAt, List.all_cons, List.all_nil, Bool.and_true, List.getD_cons_zero, List.getD_cons_succ, Bool.not_false, ↓oLe_sign, ↓oMulS, ↓dDic, ↓dLock, ↓dGetS, ↓dStD, ↓dInS, ↓oInD, ↓dKeys, ↓dGet1, ↓dGet2, ↓dRev, ↓dMulL, ↓dCount, ↓dScrSl, ↓dScrLen, ↓dScrList, ↓oStrI, hg2]
      refine ⟨by decide, rfl, by decide, ?_⟩
      have h := hT [.fz (.str t), .fz (.dic true true (kvs.map kvD)), x2, x3, .fz (.int (a : Nat)), .fz (.int (b : Nat))] rfl
      have e : (match ((fun x : D × D => x.fst) ∘ kvD) ((a, b), p) with | .tup [.int u, .int v] => D.tup [.int u, .int v, (getDD (kvs.map kvD) (((fun x : D × D => x.fst) ∘ kvD) ((a, b), p))).getD .non] | _ => .non) = .tup [.int (a : Nat), .int (b : Nat), .int (p : Nat)] := by
        show D.tup [.int (a : Nat), .int (b : Nat), (getDD (kvs.map kvD) (.tup [.int (a : Nat), .int (b : Nat)])).getD .non] = _
        rw [hg2]
        rfl
      rw [e] at h
      exact h
    · have em : (((kvs.map kvD).map (·.1)).map fun d => match d with | .tup [.int a, .int b] => D.tup [.int a, .int b, (getDD (kvs.map kvD) d).getD .non] | _ => .non) = (kvs.map triOf).map trD := by
        rw [List.map_map, List.map_map, List.map_map]
        refine List.map_congr_left fun y hy => ?_
        have hg := get_mem nd hy
        show D.tup [.int (y.1.1 : Nat), .int (y.1.2 : Nat), (getDD (kvs.map kvD) (prD y.1)).getD .non] = _
        rw [hg]
        rfl
      simp only [rest_of_wipe hw, ↓dSeq, ↓dNext, ↓dBreak, ↓dCont, ↓dNever, ↓dRet, ↓dRetN, ↓dDrop, ↓dSet, ↓dIf, ↓dAug, ↓dAsg, ↓dPar, ↓dVar, ↓dMove, ↓dC, ↓dFz, ↓dUp, ↓dNil, ↓dCons, ↓dTup, ↓dLst, ↓dBin, ↓dUn, ↓dChain, ↓dTest, ↓dAnd, ↓dOr, ↓dNot, ↓dAndV, ↓dOrV, ↓dNotV, ↓dIfE, ↓dgName, ↓dgNil, ↓dgCons, ↓dgTup, ↓dIt, ↓dRng1, ↓dRng2, ↓dZip, ↓dEnum, ↓u_for, ↓u_lc, ↓dYes, ↓u_call, ↓u_callF, ↓u_callIo, ↓dCB, ↓dCBF, ↓dBinS, ↓dLenS, ↓dSl, ↓dSlS, ↓dNo, ↓dPt, ↓dStL, ↓dApp, ↓dExt, ↓dJoin, ↓dRg1, ↓dRg2, ↓dTupRg, ↓dLstRg, ↓oSub, ↓oMulI, ↓oMul, ↓oFdiv, ↓oMod, ↓oPow, ↓oShr, ↓oXor, ↓oNeg, ↓oAdd, ↓oAug, ↓oLt, ↓oLe, ↓oGt, ↓oGe, ↓oI, ↓oIx, ↓oLen, ↓oInt, ↓oOrd, ↓oAbs, ↓oStL, ↓oIn, ↓oNin, ↓oInB, ↓isi_int, ↓isi_int_bl, ↓isi_int_str, ↓isi_int_tup, ↓isi_int_lst, ↓isi_str, ↓isi_str_int, ↓isi_tup, ↓isi_tup_int, ↓isi_tup_str, ↓isi_tup_lst, ↓isi_lst, ↓isi_lst_tup, ↓isi_lst_int, ↓isi_lst_str, ↓cv, ↓Cell.val, ↓Cell.up, ↓Cell.own, ↓lenD, ↓itemsOf, List.getElem?_cons_zero, List.getElem?_cons_succ, List.set_cons_zero, List.set_cons_succ, Option.bind_some, Option.isSome_some, List.length_cons, List.length_nil, true_and, and_true, ↓ixN_lit, ↓atI_lit, ↓reduceIte, Nat.reduceAdd, Nat.reduceLT, Nat.reduceSub, Nat.zero_add, Nat.reduceLeDiff, Nat.lt_add_one, Nat.zero_lt_succ, ↓oEq_int, ↓oNe_int, ↓oEq_str, ↓oNe_str, ↓oEq_bl, ↓oNe_bl, decide_eq_true_eq, Bool.false_eq_true, ↓u_while, ↓ownAt, List.all_cons, List.all_nil, Bool.and_true, List.getD_cons_zero, List.getD_cons_succ, Bool.not_false, ↓oLe_sign, ↓oMulS, ↓dDic, ↓dLock, ↓dGetS, ↓dStD, ↓dInS, ↓oInD, ↓dKeys, ↓dGet1, ↓dGet2, ↓dRev, ↓dMulL, ↓dCount, ↓dScrSl, ↓dScrLen, ↓dScrList, ↓oStrI]
      rw [em]
      refine ⟨pls_tri _, fun d hd => ?_, fun d hd d' hd' => ?_, .inl fun d hd => ?_, ?_⟩
      · obtain ⟨x, _, rfl⟩ := List.mem_map.mp hd
        show 1 ≤ 40
        decide
      · obtain ⟨x, hx, rfl⟩ := List.mem_map.mp hd
        obtain ⟨y, hy, rfl⟩ := List.mem_map.mp hd'
        obtain ⟨x, _, rfl⟩ := List.mem_map.mp hx
        obtain ⟨y, _, rfl⟩ := List.mem_map.mp hy
        rfl
      · obtain ⟨x, hx, rfl⟩ := List.mem_map.mp hd
        obtain ⟨x, _, rfl⟩ := List.mem_map.mp hx
        exact ⟨_, _, rfl⟩
      · rw [fin]
        exact post _ _ ⟨rfl, rfl⟩
end DL


namespace DL
open PySem PySem.Spec PyProof.Rows L2

def S_runs : FnSpec := fnSpec 1 true (fun t : List Nat => [.str t]) (fun t => Signs t ∧ t.length ≤ 2000) fun t => .lst ((runsN t).map trD)
/-- runs: slots 0 text -/
def D_runs : DTS := (dSeq (dDrop (dCall S_check_text (dCons (dVar 0) dNil))) (dRet (dCallF S_all_runs (dCons (dVar 0) dNil))))
theorem sem_runs : ∀ ds Kd, S_runs.ds ds Kd → D_runs (endsOf S_runs Kd) (env0 1 [false] ds) := by
  rintro ds Kd ⟨t, rfl, ⟨hs, hz⟩, post⟩
  show D_runs (endsOf S_runs Kd) [.fz (.str t)]
  simp only [↓D_runs, ↓dSeq, ↓dNext, ↓dBreak, ↓dCont, ↓dNever, ↓dRet, ↓dRetN, ↓dDrop, ↓dSet, ↓dIf, ↓dAug, ↓dAsg, ↓dPar, ↓dVar, ↓dMove, ↓dC, ↓dFz, ↓dUp, ↓dNil, ↓dCons, ↓dTup, ↓dLst, ↓dBin, ↓dUn, ↓dChain, ↓dTest, ↓dAnd, ↓dOr, ↓dNot, ↓dAndV, ↓dOrV, ↓dNotV, ↓dIfE, ↓dgName, ↓dgNil, ↓dgCons, ↓dgTup, ↓dIt, ↓dRng1, ↓dRng2, ↓dZip, ↓dEnum, ↓u_for, ↓u_lc, ↓dYes, ↓u_call, ↓u_callF, ↓u_callIo, ↓dCB, ↓dCBF, ↓dBinS, ↓dLenS, ↓dSl, ↓dSlS, ↓dNo, ↓dPt, ↓dStL, ↓dApp, ↓dExt, ↓dJoin, ↓dRg1, ↓dRg2, ↓dTupRg, ↓dLstRg, ↓oSub, ↓oMulI, ↓oMul, ↓oFdiv, ↓oMod, ↓oPow, ↓oShr, ↓oXor, ↓oNeg, ↓oAdd, ↓oAug, ↓oLt, ↓oLe, ↓oGt, ↓oGe, ↓oI, ↓oIx, ↓oLen, ↓oInt, ↓oOrd, ↓oAbs, ↓oStL, ↓oIn, ↓oNin, ↓oInB, ↓isi_int, ↓isi_int_bl, ↓isi_int_str, ↓isi_int_tup, ↓isi_int_lst, ↓isi_str, ↓isi_str_int, ↓isi_tup, ↓isi_tup_int, ↓isi_tup_str, ↓isi_tup_lst, ↓isi_lst, ↓isi_lst_tup, ↓isi_lst_int, ↓isi_lst_str, ↓cv, ↓Cell.val, ↓Cell.up, ↓Cell.own, ↓lenD, ↓itemsOf, List.getElem?_cons_zero, List.getElem?_cons_succ, List.set_cons_zero, List.set_cons_succ, Option.bind_some, Option.isSome_some, List.length_cons, List.length_nil, true_and, and_true, ↓ixN_lit, ↓atI_lit, ↓reduceIte, Nat.reduceAdd, Nat.reduceLT, Nat.reduceSub, Nat.zero_add, Nat.reduceLeDiff, Nat.lt_add_one, Nat.zero_lt_succ, ↓oEq_int, ↓oNe_int, ↓oEq_str, ↓oNe_str, ↓oEq_bl, ↓oNe_bl, decide_eq_true_eq, Bool.false_eq_true, ↓u_while, ↓ownAt, List.all_cons, List.all_nil, Bool.and_true, List.getD_cons_zero, List.getD_cons_succ, Bool.not_false, ↓oLe_sign, ↓oMulS, ↓dDic, ↓dLock, ↓dGetS, ↓dStD, ↓dInS, ↓oInD, ↓dKeys, ↓dGet1, ↓dGet2, ↓dRev, ↓dMulL, ↓dCount, ↓dScrSl, ↓dScrLen, ↓dScrList, ↓oStrI]
  refine ⟨rfl, onF t rfl ⟨hs, hz⟩ ?_⟩
  simp only [↓dSeq, ↓dNext, ↓dBreak, ↓dCont, ↓dNever, ↓dRet, ↓dRetN, ↓dDrop, ↓dSet, ↓dIf, ↓dAug, ↓dAsg, ↓dPar, ↓dVar, ↓dMove, ↓dC, ↓dFz, ↓dUp, ↓dNil, ↓dCons, ↓dTup, ↓dLst, ↓dBin, ↓dUn, ↓dChain, ↓dTest, ↓dAnd, ↓dOr, ↓dNot, ↓dAndV, ↓dOrV, ↓dNotV, ↓dIfE, ↓dgName, ↓dgNil, ↓dgCons, ↓dgTup, ↓dIt, ↓dRng1, ↓dRng2, ↓dZip, ↓dEnum, ↓u_for, ↓u_lc, ↓dYes, ↓u_call, ↓u_callF, ↓u_callIo, ↓dCB, ↓dCBF, ↓dBinS, ↓dLenS, ↓dSl, ↓dSlS, ↓dNo, ↓dPt, ↓dStL, ↓dApp, ↓dExt, ↓dJoin, ↓dRg1, ↓dRg2, ↓dTupRg, ↓dLstRg, ↓oSub, ↓oMulI, ↓oMul, ↓oFdiv, ↓oMod, ↓oPow, ↓oShr, ↓oXor, ↓oNeg, ↓oAdd, ↓oAug, ↓oLt, ↓oLe, ↓oGt, ↓oGe, ↓oI, ↓oIx, ↓oLen, ↓oInt, ↓oOrd, ↓oAbs, ↓oStL, ↓oIn, ↓oNin, ↓oInB, ↓isi_int, ↓isi_int_bl, ↓isi_int_str, ↓isi_int_tup, ↓isi_int_lst, ↓isi_str, ↓isi_str_int, ↓isi_tup, ↓isi_tup_int, ↓isi_tup_str, ↓isi_tup_lst, ↓isi_lst, ↓isi_lst_tup, ↓isi_lst_int, ↓isi_lst_str, ↓cv, ↓Cell.val, ↓Cell.up, ↓Cell.own, ↓lenD, ↓itemsOf, List.getElem?_cons_zero, List.getElem?_cons_succ, List.set_cons_zero, List.set_cons_succ, Option.bind_some, Option.isSome_some, List.length_cons, List.length_nil, true_and, and_true, ↓ixN_lit, ↓atI_lit, ↓reduceIte, Nat.reduceAdd, Nat.reduceLT, Nat.reduceSub, Nat.zero_add, Nat.reduceLeDiff, Nat.lt_add_one, Nat.zero_lt_succ, ↓oEq_int, ↓oNe_int, ↓oEq_str, ↓oNe_str, ↓oEq_bl, ↓oNe_bl, decide_eq_true_eq, Bool.false_eq_true, ↓u_while, ↓ownAt, List.all_cons, List.all_nil, Bool.and_true, List.getD_cons_zero, List.getD_cons_succ, Bool.not_false, ↓oLe_sign, ↓oMulS, ↓dDic, ↓dLock, ↓dGetS, ↓dStD, ↓dInS, ↓oInD, ↓dKeys, ↓dGet1, ↓dGet2, ↓dRev, ↓dMulL, ↓dCount, ↓dScrSl, ↓dScrLen, ↓dScrList, ↓oStrI]
  refine ⟨rfl, onF t rfl hz ?_⟩
  exact post _ _ ⟨rfl, rfl⟩
/-! ### a stretch of the text -/
def cut (t : List Nat) (b e : Nat) : List Nat := (t.drop b).take (e - b)
theorem cut_length {t : List Nat} {b e : Nat} (h : e ≤ t.length) : (cut t b e).length = e - b := by
  unfold cut
  rw [List.length_take, List.length_drop]
  omega
theorem cut_tt {t : List Nat} {b e i : Nat} (h : i < e - b) : tt (cut t b e) i = tt t (b + i) := by
  unfold cut
  rw [tt_take h, tt_drop]
theorem cut_P {t : List Nat} {b e p : Nat} (h : e ≤ t.length) : Per (cut t b e) p ↔ P t b e p := by
  unfold Per P
  rw [cut_length h]
  constructor
  · intro q i a c
    have := q (i - b) (by omega)
    rw [cut_tt (by omega), cut_tt (by omega)] at this
    rw [show b + (i - b) = i by omega, show b + (i - b + p) = i + p by omega] at this
    exact this
  · intro q i hi
    rw [cut_tt (by omega), cut_tt (by omega)]
    have := q (b + i) (by omega) (by omega)
    rw [Nat.add_assoc] at this
    exact this
theorem lp_cut {t : List Nat} {b e p : Nat} (h : e ≤ t.length) (hb : b < e) (h1 : 1 ≤ p) : lp (cut t b e) = p ↔ P t b e p ∧ ∀ q, q < p → 1 ≤ q → ¬ P t b e q := by
  have h0 : 0 < (cut t b e).length := by rw [cut_length h]; omega
  constructor
  · rintro rfl
    exact ⟨(cut_P h).mp (lp_per h0), fun q a c d => absurd (lp_min c ((cut_P h).mpr d)) (by omega)⟩
  · rintro ⟨a, c⟩
    exact lp_eq h1 ((cut_P h).mpr a) (fun q x y z => c q y x ((cut_P h).mp z)) h0
theorem run_iff2 {t : List Nat} {b e p : Nat} (h : e ≤ t.length) (hb : b + 2 * p ≤ e) (h1 : 1 ≤ p) : IsRun t b e p ↔ lp (cut t b e) = p ∧ ¬ (0 < b ∧ Per (cut t (b - 1) e) p) ∧ (e = t.length ∨ ¬ Per (cut t b (e + 1)) p) := by
  rw [lp_cut h (by omega) h1, cut_P h]
  constructor
  · rintro ⟨⟨_, _, _, m4, m5, m6⟩, l⟩
    refine ⟨⟨m4, l⟩, fun ⟨a, c⟩ => m5 a c, ?_⟩
    by_cases q : e = t.length
    · exact .inl q
    · exact .inr fun z => m6 (by omega) ((cut_P (by omega)).mp z)
  · rintro ⟨⟨m4, l⟩, m5, m6⟩
    refine ⟨⟨h1, hb, h, m4, fun a c => m5 ⟨a, c⟩, fun a c => ?_⟩, l⟩
    rcases m6 with q | q
    · omega
    · exact q ((cut_P (by omega)).mpr c)
def S__law_is_run : FnSpec := fnSpec 4 false (fun x : List Nat × Nat × Nat × Nat => [.str x.1, .int (x.2.1 : Nat), .int (x.2.2.1 : Nat), .int (x.2.2.2 : Nat)]) (fun x => x.1.length ≤ 2000 ∧ x.2.2.1 ≤ x.1.length ∧ 1 ≤ x.2.2.2 ∧ x.2.1 < x.2.2.1 ∧ x.2.2.2 ≤ 2000) fun x => .bl (decide (IsRun x.1 x.2.1 x.2.2.1 x.2.2.2))
/-- _law_is_run: slots 0 _law_text_here, 1 _law_begin, 2 _law_behind, 3 _law_period -/
def D__law_is_run : DTS := (dSeq (dIf (dOr (dTest (dBin oLt (dBin oSub (dVar 2) (dVar 1)) (dBin oMulS (dC (.int 2)) (dVar 3)))) (dTest (dBin oNe (dCall S__law_least (dCons (dSlS 0 (dPt (dVar 1)) (dPt (dVar 2))) dNil)) (dVar 3)))) (dRet (dUp (dC (.bl false)))) dNext) (dSeq (dIf (dAnd (dTest (dBin oGt (dVar 1) (dC (.int 0)))) (dTest (dCall S__law_has (dCons (dSlS 0 (dPt (dBin oSub (dVar 1) (dC (.int 1)))) (dPt (dVar 2))) (dCons (dVar 3) dNil))))) (dRet (dUp (dC (.bl false)))) dNext) (dRet (dUp (dOrV (dBin oEq (dVar 2) (dLenS 0)) (dNotV (dCall S__law_has (dCons (dSlS 0 (dPt (dVar 1)) (dPt (dBin oAdd (dVar 2) (dC (.int 1))))) (dCons (dVar 3) dNil)))))))))
theorem sem__law_is_run : ∀ ds Kd, S__law_is_run.ds ds Kd → D__law_is_run (endsOf S__law_is_run Kd) (env0 4 [false, false, false, false] ds) := by
  rintro ds Kd ⟨⟨t, b, e, p⟩, rfl, ⟨hz, he, h1, hb, hp⟩, post⟩
  simp only at hz he h1 hb hp post
  have no : ¬ IsRun t b e p → (endsOf S__law_is_run Kd).rt (.fz (.bl false)) [.fz (.str t), .fz (.int (b : Nat)), .fz (.int (e : Nat)), .fz (.int (p : Nat))] := fun h => ⟨rfl, post _ _ ⟨by rw [decide_eq_false h], rfl⟩⟩
  show D__law_is_run (endsOf S__law_is_run Kd) [.fz (.str t), .fz (.int (b : Nat)), .fz (.int (e : Nat)), .fz (.int (p : Nat))]
  have c1 : cutG t (some (b : Int)) (some (e : Int)) = cut t b e := cutG_nat t b e
  unfold D__law_is_run
  refine seq_gen fun k hk => ?_
  simp only [↓dSeq, ↓dNext, ↓dBreak, ↓dCont, ↓dNever, ↓dRet, ↓dRetN, ↓dDrop, ↓dSet, ↓dIf, ↓dAug, ↓dAsg, ↓dPar, ↓dVar, ↓dMove, ↓dC, ↓dFz, ↓dUp, ↓dNil, ↓dCons, ↓dTup, ↓dLst, ↓dBin, ↓dUn, ↓dChain, ↓dTest, ↓dAnd, ↓dOr, ↓dNot, ↓dAndV, ↓dOrV, ↓dNotV, ↓dIfE, ↓dgName, ↓dgNil, ↓dgCons, ↓dgTup, ↓dIt, ↓dRng1, ↓dRng2, ↓dZip, ↓dEnum, ↓u_for, ↓u_lc, ↓dYes, ↓u_call, ↓u_callF, ↓u_callIo, ↓dCB, ↓dCBF, ↓dBinS, ↓dLenS, ↓dSl, ↓dSlS, ↓dNo, ↓dPt, ↓dStL, ↓dApp, ↓dExt, ↓dJoin, ↓dRg1, ↓dRg2, ↓dTupRg, ↓dLstRg, ↓oSub, ↓oMulI, ↓oMul, ↓oFdiv, ↓oMod, ↓oPow, ↓oShr, ↓oXor, ↓oNeg, ↓oAdd, ↓oAug, ↓oLt, ↓oLe, ↓oGt, ↓oGe, ↓oI, ↓oIx, ↓oLen, ↓oInt, ↓oOrd, ↓oAbs, ↓oStL, ↓oIn, ↓oNin, ↓oInB, ↓isi_int, ↓isi_int_bl, ↓isi_int_str, ↓isi_int_tup, ↓isi_int_lst, ↓isi_str, ↓isi_str_int, ↓isi_tup, ↓isi_tup_int, ↓isi_tup_str, ↓isi_tup_lst, ↓isi_lst, ↓isi_lst_tup, ↓isi_lst_int, ↓isi_lst_str, ↓cv, ↓Cell.val, ↓Cell.up, ↓Cell.own, ↓lenD, ↓itemsOf, List.getElem?_cons_zero, List.getElem?_cons_succ, List.set_cons_zero, List.set_cons_succ, Option.bind_some, Option.isSome_some, List.length_cons, List.length_nil, true_and, and_true, ↓ixN_lit, ↓atI_lit, ↓reduceIte, Nat.reduceAdd, Nat.reduceLT, Nat.reduceSub, Nat.zero_add, Nat.reduceLeDiff, Nat.lt_add_one, Nat.zero_lt_succ, ↓oEq_int, ↓oNe_int, ↓oEq_str, ↓oNe_str, ↓oEq_bl, ↓oNe_bl, decide_eq_true_eq, Bool.false_eq_true, ↓u_while, ↓ownAt, List.all_cons, List.all_nil, Bool.and_true, List.getD_cons_zero, List.getD_cons_succ, Bool.not_false, ↓oLe_sign, ↓oMulS, ↓dDic, ↓dLock, ↓dGetS, ↓dStD, ↓dInS, ↓oInD, ↓dKeys, ↓dGet1, ↓dGet2, ↓dRev, ↓dMulL, ↓dCount, ↓dScrSl, ↓dScrLen, ↓dScrList, ↓oStrI, oSl]
  refine ⟨cmul_l (by decide) (by decide), ?_⟩
  by_cases q1 : ((e : Nat) : Int) - (b : Nat) < 2 * (p : Nat)
  · rw [if_pos q1]
    exact no fun r => by have := r.mx.le; omega
  · rw [if_neg q1, c1]
    have hl := cut_length (b := b) he
    refine ⟨rfl, onF (cut t b e) rfl ⟨by omega, by omega⟩ ?_⟩
    have ri := run_iff2 (b := b) he (show b + 2 * p ≤ e by omega) h1
    simp only [↓dSeq, ↓dNext, ↓dBreak, ↓dCont, ↓dNever, ↓dRet, ↓dRetN, ↓dDrop, ↓dSet, ↓dIf, ↓dAug, ↓dAsg, ↓dPar, ↓dVar, ↓dMove, ↓dC, ↓dFz, ↓dUp, ↓dNil, ↓dCons, ↓dTup, ↓dLst, ↓dBin, ↓dUn, ↓dChain, ↓dTest, ↓dAnd, ↓dOr, ↓dNot, ↓dAndV, ↓dOrV, ↓dNotV, ↓dIfE, ↓dgName, ↓dgNil, ↓dgCons, ↓dgTup, ↓dIt, ↓dRng1, ↓dRng2, ↓dZip, ↓dEnum, ↓u_for, ↓u_lc, ↓dYes, ↓u_call, ↓u_callF, ↓u_callIo, ↓dCB, ↓dCBF, ↓dBinS, ↓dLenS, ↓dSl, ↓dSlS, ↓dNo, ↓dPt, ↓dStL, ↓dApp, ↓dExt, ↓dJoin, ↓dRg1, ↓dRg2, ↓dTupRg, ↓dLstRg, ↓oSub, ↓oMulI, ↓oMul, ↓oFdiv, ↓oMod, ↓oPow, ↓oShr, ↓oXor, ↓oNeg, ↓oAdd, ↓oAug, ↓oLt, ↓oLe, ↓oGt, ↓oGe, ↓oI, ↓oIx, ↓oLen, ↓oInt, ↓oOrd, ↓oAbs, ↓oStL, ↓oIn, ↓oNin, ↓oInB, ↓isi_int, ↓isi_int_bl, ↓isi_int_str, ↓isi_int_tup, ↓isi_int_lst, ↓isi_str, ↓isi_str_int, ↓isi_tup, ↓isi_tup_int, ↓isi_tup_str, ↓isi_tup_lst, ↓isi_lst, ↓isi_lst_tup, ↓isi_lst_int, ↓isi_lst_str, ↓cv, ↓Cell.val, ↓Cell.up, ↓Cell.own, ↓lenD, ↓itemsOf, List.getElem?_cons_zero, List.getElem?_cons_succ, List.set_cons_zero, List.set_cons_succ, Option.bind_some, Option.isSome_some, List.length_cons, List.length_nil, true_and, and_true, ↓ixN_lit, ↓atI_lit, ↓reduceIte, Nat.reduceAdd, Nat.reduceLT, Nat.reduceSub, Nat.zero_add, Nat.reduceLeDiff, Nat.lt_add_one, Nat.zero_lt_succ, ↓oEq_int, ↓oNe_int, ↓oEq_str, ↓oNe_str, ↓oEq_bl, ↓oNe_bl, decide_eq_true_eq, Bool.false_eq_true, ↓u_while, ↓ownAt, List.all_cons, List.all_nil, Bool.and_true, List.getD_cons_zero, List.getD_cons_succ, Bool.not_false, ↓oLe_sign, ↓oMulS, ↓dDic, ↓dLock, ↓dGetS, ↓dStD, ↓dInS, ↓oInD, ↓dKeys, ↓dGet1, ↓dGet2, ↓dRev, ↓dMulL, ↓dCount, ↓dScrSl, ↓dScrLen, ↓dScrList, ↓oStrI]
    by_cases q2 : lp (cut t b e) = p
    · rw [if_neg (fun z => z (by rw [q2]))]
      subst hk
      refine seq_gen fun k hk => ?_
      have fin : ¬ (0 < b ∧ Per (cut t (b - 1) e) p) → k [.fz (.str t), .fz (.int (b : Nat)), .fz (.int (e : Nat)), .fz (.int (p : Nat))] := by
        intro q3
        subst hk
        simp only [↓dSeq, ↓dNext, ↓dBreak, ↓dCont, ↓dNever, ↓dRet, ↓dRetN, ↓dDrop, ↓dSet, ↓dIf, ↓dAug, ↓dAsg, ↓dPar, ↓dVar, ↓dMove, ↓dC, ↓dFz, ↓dUp, ↓dNil, ↓dCons, ↓dTup, ↓dLst, ↓dBin, ↓dUn, ↓dChain, ↓dTest, ↓dAnd, ↓dOr, ↓dNot, ↓dAndV, ↓dOrV, ↓dNotV, ↓dIfE, ↓dgName, ↓dgNil, ↓dgCons, ↓dgTup, ↓dIt, ↓dRng1, ↓dRng2, ↓dZip, ↓dEnum, ↓u_for, ↓u_lc, ↓dYes, ↓u_call, ↓u_callF, ↓u_callIo, ↓dCB, ↓dCBF, ↓dBinS, ↓dLenS, ↓dSl, ↓dSlS, ↓dNo, ↓dPt, ↓dStL, ↓dApp, ↓dExt, ↓dJoin, ↓dRg1, ↓dRg2, ↓dTupRg, ↓dLstRg, ↓oSub, ↓oMulI, ↓oMul, ↓oFdiv, ↓oMod, ↓oPow, ↓oShr, ↓oXor, ↓oNeg, ↓oAdd, ↓oAug, ↓oLt, ↓oLe, ↓oGt, ↓oGe, ↓oI, ↓oIx, ↓oLen, ↓oInt, ↓oOrd, ↓oAbs, ↓oStL, ↓oIn, ↓oNin, ↓oInB, ↓isi_int, ↓isi_int_bl, ↓isi_int_str, ↓isi_int_tup, ↓isi_int_lst, ↓isi_str, ↓isi_str_int, ↓isi_tup, ↓isi_tup_int, ↓isi_tup_str, ↓isi_tup_lst, ↓isi_lst, ↓isi_lst_tup, ↓isi_lst_int, ↓isi_lst_str, ↓cv, ↓Cell.val, ↓Cell.up, ↓Cell.own, ↓lenD, ↓itemsOf, List.getElem?_cons_zero, List.getElem?_cons_succ, List.set_cons_zero, List.set_cons_succ, Option.bind_some, Option.isSome_some, List.length_cons, List.length_nil, true_and, and_true, ↓ixN_lit, ↓atI_lit, ↓reduceIte, Nat.reduceAdd, Nat.reduceLT, Nat.reduceSub, Nat.zero_add, Nat.reduceLeDiff, Nat.lt_add_one, Nat.zero_lt_succ, ↓oEq_int, ↓oNe_int, ↓oEq_str, ↓oNe_str, ↓oEq_bl, ↓oNe_bl, decide_eq_true_eq, Bool.false_eq_true, ↓u_while, ↓ownAt, List.all_cons, List.all_nil, Bool.and_true, List.getD_cons_zero, List.getD_cons_succ, Bool.not_false, ↓oLe_sign, ↓oMulS, ↓dDic, ↓dLock, ↓dGetS, ↓dStD, ↓dInS, ↓oInD, ↓dKeys, ↓dGet1, ↓dGet2, ↓dRev, ↓dMulL, ↓dCount, ↓dScrSl, ↓dScrLen, ↓dScrList, ↓oStrI, oSl]
        by_cases q4 : e = t.length
        · have e4 : decide ((e : Int) = (t.length : Int)) = true := decide_eq_true (by omega)
          simp only [e4, ↓dSeq, ↓dNext, ↓dBreak, ↓dCont, ↓dNever, ↓dRet, ↓dRetN, ↓dDrop, ↓dSet, ↓dIf, ↓dAug, ↓dAsg, ↓dPar, ↓dVar, ↓dMove, ↓dC, ↓dFz, ↓dUp, ↓dNil, ↓dCons, ↓dTup, ↓dLst, ↓dBin, ↓dUn, ↓dChain, ↓dTest, ↓dAnd, ↓dOr, ↓dNot, ↓dAndV, ↓dOrV, ↓dNotV, ↓dIfE, ↓dgName, ↓dgNil, ↓dgCons, ↓dgTup, ↓dIt, ↓dRng1, ↓dRng2, ↓dZip, ↓dEnum, ↓u_for, ↓u_lc, ↓dYes, ↓u_call, ↓u_callF, ↓u_callIo, ↓dCB, ↓dCBF, ↓dBinS, ↓dLenS, ↓dSl, ↓dSlS, ↓dNo, ↓dPt, ↓dStL, ↓dApp, ↓dExt, ↓dJoin, ↓dRg1, ↓dRg2, ↓dTupRg, ↓dLstRg, ↓oSub, ↓oMulI, ↓oMul, ↓oFdiv, ↓oMod, ↓oPow, ↓oShr, ↓oXor, ↓oNeg, ↓oAdd, ↓oAug, ↓oLt, ↓oLe, ↓oGt, ↓oGe, ↓oI, ↓oIx, ↓oLen, ↓oInt, ↓oOrd, ↓oAbs, ↓oStL, ↓oIn, ↓oNin, ↓oInB, ↓isi_int, ↓isi_int_bl, ↓isi_int_str, ↓isi_int_tup, ↓isi_int_lst, ↓isi_str, ↓isi_str_int, ↓isi_tup, ↓isi_tup_int, ↓isi_tup_str, ↓isi_tup_lst, ↓isi_lst, ↓isi_lst_tup, ↓isi_lst_int, ↓isi_lst_str, ↓cv, ↓Cell.val, ↓Cell.up, ↓Cell.own, ↓lenD, ↓itemsOf, List.getElem?_cons_zero, List.getElem?_cons_succ, List.set_cons_zero, List.set_cons_succ, Option.bind_some, Option.isSome_some, List.length_cons, List.length_nil, true_and, and_true, ↓ixN_lit, ↓atI_lit, ↓reduceIte, Nat.reduceAdd, Nat.reduceLT, Nat.reduceSub, Nat.zero_add, Nat.reduceLeDiff, Nat.lt_add_one, Nat.zero_lt_succ, ↓oEq_int, ↓oNe_int, ↓oEq_str, ↓oNe_str, ↓oEq_bl, ↓oNe_bl, decide_eq_true_eq, Bool.false_eq_true, ↓u_while, ↓ownAt, List.all_cons, List.all_nil, Bool.and_true, List.getD_cons_zero, List.getD_cons_succ, Bool.not_false, ↓oLe_sign, ↓oMulS, ↓dDic, ↓dLock, ↓dGetS, ↓dStD, ↓dInS, ↓oInD, ↓dKeys, ↓dGet1, ↓dGet2, ↓dRev, ↓dMulL, ↓dCount, ↓dScrSl, ↓dScrLen, ↓dScrList, ↓oStrI]
          exact ⟨rfl, post _ _ ⟨by rw [decide_eq_true (ri.mpr ⟨q2, q3, .inl q4⟩)], rfl⟩⟩
        · have e4 : decide ((e : Int) = (t.length : Int)) = false := decide_eq_false (by omega)
          simp only [e4, ↓dSeq, ↓dNext, ↓dBreak, ↓dCont, ↓dNever, ↓dRet, ↓dRetN, ↓dDrop, ↓dSet, ↓dIf, ↓dAug, ↓dAsg, ↓dPar, ↓dVar, ↓dMove, ↓dC, ↓dFz, ↓dUp, ↓dNil, ↓dCons, ↓dTup, ↓dLst, ↓dBin, ↓dUn, ↓dChain, ↓dTest, ↓dAnd, ↓dOr, ↓dNot, ↓dAndV, ↓dOrV, ↓dNotV, ↓dIfE, ↓dgName, ↓dgNil, ↓dgCons, ↓dgTup, ↓dIt, ↓dRng1, ↓dRng2, ↓dZip, ↓dEnum, ↓u_for, ↓u_lc, ↓dYes, ↓u_call, ↓u_callF, ↓u_callIo, ↓dCB, ↓dCBF, ↓dBinS, ↓dLenS, ↓dSl, ↓dSlS, ↓dNo, ↓dPt, ↓dStL, ↓dApp, ↓dExt, ↓dJoin, ↓dRg1, ↓dRg2, ↓dTupRg, ↓dLstRg, ↓oSub, ↓oMulI, ↓oMul, ↓oFdiv, ↓oMod, ↓oPow, ↓oShr, ↓oXor, ↓oNeg, ↓oAdd, ↓oAug, ↓oLt, ↓oLe, ↓oGt, ↓oGe, ↓oI, ↓oIx, ↓oLen, ↓oInt, ↓oOrd, ↓oAbs, ↓oStL, ↓oIn, ↓oNin, ↓oInB, ↓isi_int, ↓isi_int_bl, ↓isi_int_str, ↓isi_int_tup, ↓isi_int_lst, ↓isi_str, ↓isi_str_int, ↓isi_tup, ↓isi_tup_int, ↓isi_tup_str, ↓isi_tup_lst, ↓isi_lst, ↓isi_lst_tup, ↓isi_lst_int, ↓isi_lst_str, ↓cv, ↓Cell.val, ↓Cell.up, ↓Cell.own, ↓lenD, ↓itemsOf, List.getElem?_cons_zero, List.getElem?_cons_succ, List.set_cons_zero, List.set_cons_succ, Option.bind_some, Option.isSome_some, List.length_cons, List.length_nil, true_and, and_true, ↓ixN_lit, ↓atI_lit, ↓reduceIte, Nat.reduceAdd, Nat.reduceLT, Nat.reduceSub, Nat.zero_add, Nat.reduceLeDiff, Nat.lt_add_one, Nat.zero_lt_succ, ↓oEq_int, ↓oNe_int, ↓oEq_str, ↓oNe_str, ↓oEq_bl, ↓oNe_bl, decide_eq_true_eq, Bool.false_eq_true, ↓u_while, ↓ownAt, List.all_cons, List.all_nil, Bool.and_true, List.getD_cons_zero, List.getD_cons_succ, Bool.not_false, ↓oLe_sign, ↓oMulS, ↓dDic, ↓dLock, ↓dGetS, ↓dStD, ↓dInS, ↓oInD, ↓dKeys, ↓dGet1, ↓dGet2, ↓dRev, ↓dMulL, ↓dCount, ↓dScrSl, ↓dScrLen, ↓dScrList, ↓oStrI]
          have c4 : cutG t (some (b : Int)) (some ((e : Int) + 1)) = cut t b (e + 1) := by
            rw [show ((e : Int) + 1) = ((e + 1 : Nat) : Int) by omega]
            exact cutG_nat t b (e + 1)
          rw [c4]
          refine ⟨rfl, onF (cut t b (e + 1), p) rfl (by show p ≤ (cut t b (e + 1)).length; rw [cut_length (by omega)]; omega) ?_⟩
          simp only [↓dSeq, ↓dNext, ↓dBreak, ↓dCont, ↓dNever, ↓dRet, ↓dRetN, ↓dDrop, ↓dSet, ↓dIf, ↓dAug, ↓dAsg, ↓dPar, ↓dVar, ↓dMove, ↓dC, ↓dFz, ↓dUp, ↓dNil, ↓dCons, ↓dTup, ↓dLst, ↓dBin, ↓dUn, ↓dChain, ↓dTest, ↓dAnd, ↓dOr, ↓dNot, ↓dAndV, ↓dOrV, ↓dNotV, ↓dIfE, ↓dgName, ↓dgNil, ↓dgCons, ↓dgTup, ↓dIt, ↓dRng1, ↓dRng2, ↓dZip, ↓dEnum, ↓u_for, ↓u_lc, ↓dYes, ↓u_call, ↓u_callF, ↓u_callIo, ↓dCB, ↓dCBF, ↓dBinS, ↓dLenS, ↓dSl, ↓dSlS, ↓dNo, ↓dPt, ↓dStL, ↓dApp, ↓dExt, ↓dJoin, ↓dRg1, ↓dRg2, ↓dTupRg, ↓dLstRg, ↓oSub, ↓oMulI, ↓oMul, ↓oFdiv, ↓oMod, ↓oPow, ↓oShr, ↓oXor, ↓oNeg, ↓oAdd, ↓oAug, ↓oLt, ↓oLe, ↓oGt, ↓oGe, ↓oI, ↓oIx, ↓oLen, ↓oInt, ↓oOrd, ↓oAbs, ↓oStL, ↓oIn, ↓oNin, ↓oInB, ↓isi_int, ↓isi_int_bl, ↓isi_int_str, ↓isi_int_tup, ↓isi_int_lst, ↓isi_str, ↓isi_str_int, ↓isi_tup, ↓isi_tup_int, ↓isi_tup_str, ↓isi_tup_lst, ↓isi_lst, ↓isi_lst_tup, ↓isi_lst_int, ↓isi_lst_str, ↓cv, ↓Cell.val, ↓Cell.up, ↓Cell.own, ↓lenD, ↓itemsOf, List.getElem?_cons_zero, List.getElem?_cons_succ, List.set_cons_zero, List.set_cons_succ, Option.bind_some, Option.isSome_some, List.length_cons, List.length_nil, true_and, and_true, ↓ixN_lit, ↓atI_lit, ↓reduceIte, Nat.reduceAdd, Nat.reduceLT, Nat.reduceSub, Nat.zero_add, Nat.reduceLeDiff, Nat.lt_add_one, Nat.zero_lt_succ, ↓oEq_int, ↓oNe_int, ↓oEq_str, ↓oNe_str, ↓oEq_bl, ↓oNe_bl, decide_eq_true_eq, Bool.false_eq_true, ↓u_while, ↓ownAt, List.all_cons, List.all_nil, Bool.and_true, List.getD_cons_zero, List.getD_cons_succ, Bool.not_false, ↓oLe_sign, ↓oMulS, ↓dDic, ↓dLock, ↓dGetS, ↓dStD, ↓dInS, ↓oInD, ↓dKeys, ↓dGet1, ↓dGet2, ↓dRev, ↓dMulL, ↓dCount, ↓dScrSl, ↓dScrLen, ↓dScrList, ↓oStrI]
          refine ⟨rfl, post _ _ ⟨?_, rfl⟩⟩
          rw [← decide_not]
          congr 1
          refine decide_eq_decide.mpr ⟨fun z => ri.mpr ⟨q2, q3, .inr z⟩, fun z => ?_⟩
          exact (ri.mp z).2.2.resolve_left q4
      refine if_gen fun kA kB hA hB => ?_
      simp only [↓dSeq, ↓dNext, ↓dBreak, ↓dCont, ↓dNever, ↓dRet, ↓dRetN, ↓dDrop, ↓dSet, ↓dIf, ↓dAug, ↓dAsg, ↓dPar, ↓dVar, ↓dMove, ↓dC, ↓dFz, ↓dUp, ↓dNil, ↓dCons, ↓dTup, ↓dLst, ↓dBin, ↓dUn, ↓dChain, ↓dTest, ↓dAnd, ↓dOr, ↓dNot, ↓dAndV, ↓dOrV, ↓dNotV, ↓dIfE, ↓dgName, ↓dgNil, ↓dgCons, ↓dgTup, ↓dIt, ↓dRng1, ↓dRng2, ↓dZip, ↓dEnum, ↓u_for, ↓u_lc, ↓dYes, ↓u_call, ↓u_callF, ↓u_callIo, ↓dCB, ↓dCBF, ↓dBinS, ↓dLenS, ↓dSl, ↓dSlS, ↓dNo, ↓dPt, ↓dStL, ↓dApp, ↓dExt, ↓dJoin, ↓dRg1, ↓dRg2, ↓dTupRg, ↓dLstRg, ↓oSub, ↓oMulI, ↓oMul, ↓oFdiv, ↓oMod, ↓oPow, ↓oShr, ↓oXor, ↓oNeg, ↓oAdd, ↓oAug, ↓oLt, ↓oLe, ↓oGt, ↓oGe, ↓oI, ↓oIx, ↓oLen, ↓oInt, ↓oOrd, ↓oAbs, ↓oStL, ↓oIn, ↓oNin, ↓oInB, ↓isi_int, ↓isi_int_bl, ↓isi_int_str, ↓isi_int_tup, ↓isi_int_lst, ↓isi_str, ↓isi_str_int, ↓isi_tup, ↓isi_tup_int, ↓isi_tup_str, ↓isi_tup_lst, ↓isi_lst, ↓isi_lst_tup, ↓isi_lst_int, ↓isi_lst_str, ↓cv, ↓Cell.val, ↓Cell.up, ↓Cell.own, ↓lenD, ↓itemsOf, List.getElem?_cons_zero, List.getElem?_cons_succ, List.set_cons_zero, List.set_cons_succ, Option.bind_some, Option.isSome_some, List.length_cons, List.length_nil, true_and, and_true, ↓ixN_lit, ↓atI_lit, ↓reduceIte, Nat.reduceAdd, Nat.reduceLT, Nat.reduceSub, Nat.zero_add, Nat.reduceLeDiff, Nat.lt_add_one, Nat.zero_lt_succ, ↓oEq_int, ↓oNe_int, ↓oEq_str, ↓oNe_str, ↓oEq_bl, ↓oNe_bl, decide_eq_true_eq, Bool.false_eq_true, ↓u_while, ↓ownAt, List.all_cons, List.all_nil, Bool.and_true, List.getD_cons_zero, List.getD_cons_succ, Bool.not_false, ↓oLe_sign, ↓oMulS, ↓dDic, ↓dLock, ↓dGetS, ↓dStD, ↓dInS, ↓oInD, ↓dKeys, ↓dGet1, ↓dGet2, ↓dRev, ↓dMulL, ↓dCount, ↓dScrSl, ↓dScrLen, ↓dScrList, ↓oStrI, oSl]
      by_cases q3 : 0 < b
      · rw [if_pos (by omega)]
        have c3 : cutG t (some ((b : Int) - 1)) (some (e : Int)) = cut t (b - 1) e := by
          rw [show ((b : Int) - 1) = ((b - 1 : Nat) : Int) by omega]
          exact cutG_nat t (b - 1) e
        rw [c3]
        refine ⟨rfl, onF (cut t (b - 1) e, p) rfl (by show p ≤ (cut t (b - 1) e).length; rw [cut_length he]; omega) ?_⟩
        simp only [↓dSeq, ↓dNext, ↓dBreak, ↓dCont, ↓dNever, ↓dRet, ↓dRetN, ↓dDrop, ↓dSet, ↓dIf, ↓dAug, ↓dAsg, ↓dPar, ↓dVar, ↓dMove, ↓dC, ↓dFz, ↓dUp, ↓dNil, ↓dCons, ↓dTup, ↓dLst, ↓dBin, ↓dUn, ↓dChain, ↓dTest, ↓dAnd, ↓dOr, ↓dNot, ↓dAndV, ↓dOrV, ↓dNotV, ↓dIfE, ↓dgName, ↓dgNil, ↓dgCons, ↓dgTup, ↓dIt, ↓dRng1, ↓dRng2, ↓dZip, ↓dEnum, ↓u_for, ↓u_lc, ↓dYes, ↓u_call, ↓u_callF, ↓u_callIo, ↓dCB, ↓dCBF, ↓dBinS, ↓dLenS, ↓dSl, ↓dSlS, ↓dNo, ↓dPt, ↓dStL, ↓dApp, ↓dExt, ↓dJoin, ↓dRg1, ↓dRg2, ↓dTupRg, ↓dLstRg, ↓oSub, ↓oMulI, ↓oMul, ↓oFdiv, ↓oMod, ↓oPow, ↓oShr, ↓oXor, ↓oNeg, ↓oAdd, ↓oAug, ↓oLt, ↓oLe, ↓oGt, ↓oGe, ↓oI, ↓oIx, ↓oLen, ↓oInt, ↓oOrd, ↓oAbs, ↓oStL, ↓oIn, ↓oNin, ↓oInB, ↓isi_int, ↓isi_int_bl, ↓isi_int_str, ↓isi_int_tup, ↓isi_int_lst, ↓isi_str, ↓isi_str_int, ↓isi_tup, ↓isi_tup_int, ↓isi_tup_str, ↓isi_tup_lst, ↓isi_lst, ↓isi_lst_tup, ↓isi_lst_int, ↓isi_lst_str, ↓cv, ↓Cell.val, ↓Cell.up, ↓Cell.own, ↓lenD, ↓itemsOf, List.getElem?_cons_zero, List.getElem?_cons_succ, List.set_cons_zero, List.set_cons_succ, Option.bind_some, Option.isSome_some, List.length_cons, List.length_nil, true_and, and_true, ↓ixN_lit, ↓atI_lit, ↓reduceIte, Nat.reduceAdd, Nat.reduceLT, Nat.reduceSub, Nat.zero_add, Nat.reduceLeDiff, Nat.lt_add_one, Nat.zero_lt_succ, ↓oEq_int, ↓oNe_int, ↓oEq_str, ↓oNe_str, ↓oEq_bl, ↓oNe_bl, decide_eq_true_eq, Bool.false_eq_true, ↓u_while, ↓ownAt, List.all_cons, List.all_nil, Bool.and_true, List.getD_cons_zero, List.getD_cons_succ, Bool.not_false, ↓oLe_sign, ↓oMulS, ↓dDic, ↓dLock, ↓dGetS, ↓dStD, ↓dInS, ↓oInD, ↓dKeys, ↓dGet1, ↓dGet2, ↓dRev, ↓dMulL, ↓dCount, ↓dScrSl, ↓dScrLen, ↓dScrList, ↓oStrI]
        by_cases q4 : Per (cut t (b - 1) e) p
        · rw [if_pos q4]
          subst hA
          simp only [↓dSeq, ↓dNext, ↓dBreak, ↓dCont, ↓dNever, ↓dRet, ↓dRetN, ↓dDrop, ↓dSet, ↓dIf, ↓dAug, ↓dAsg, ↓dPar, ↓dVar, ↓dMove, ↓dC, ↓dFz, ↓dUp, ↓dNil, ↓dCons, ↓dTup, ↓dLst, ↓dBin, ↓dUn, ↓dChain, ↓dTest, ↓dAnd, ↓dOr, ↓dNot, ↓dAndV, ↓dOrV, ↓dNotV, ↓dIfE, ↓dgName, ↓dgNil, ↓dgCons, ↓dgTup, ↓dIt, ↓dRng1, ↓dRng2, ↓dZip, ↓dEnum, ↓u_for, ↓u_lc, ↓dYes, ↓u_call, ↓u_callF, ↓u_callIo, ↓dCB, ↓dCBF, ↓dBinS, ↓dLenS, ↓dSl, ↓dSlS, ↓dNo, ↓dPt, ↓dStL, ↓dApp, ↓dExt, ↓dJoin, ↓dRg1, ↓dRg2, ↓dTupRg, ↓dLstRg, ↓oSub, ↓oMulI, ↓oMul, ↓oFdiv, ↓oMod, ↓oPow, ↓oShr, ↓oXor, ↓oNeg, ↓oAdd, ↓oAug, ↓oLt, ↓oLe, ↓oGt, ↓oGe, ↓oI, ↓oIx, ↓oLen, ↓oInt, ↓oOrd, ↓oAbs, ↓oStL, ↓oIn, ↓oNin, ↓oInB, ↓isi_int, ↓isi_int_bl, ↓isi_int_str, ↓isi_int_tup, ↓isi_int_lst, ↓isi_str, ↓isi_str_int, ↓isi_tup, ↓isi_tup_int, ↓isi_tup_str, ↓isi_tup_lst, ↓isi_lst, ↓isi_lst_tup, ↓isi_lst_int, ↓isi_lst_str, ↓cv, ↓Cell.val, ↓Cell.up, ↓Cell.own, ↓lenD, ↓itemsOf, List.getElem?_cons_zero, List.getElem?_cons_succ, List.set_cons_zero, List.set_cons_succ, Option.bind_some, Option.isSome_some, List.length_cons, List.length_nil, true_and, and_true, ↓ixN_lit, ↓atI_lit, ↓reduceIte, Nat.reduceAdd, Nat.reduceLT, Nat.reduceSub, Nat.zero_add, Nat.reduceLeDiff, Nat.lt_add_one, Nat.zero_lt_succ, ↓oEq_int, ↓oNe_int, ↓oEq_str, ↓oNe_str, ↓oEq_bl, ↓oNe_bl, decide_eq_true_eq, Bool.false_eq_true, ↓u_while, ↓ownAt, List.all_cons, List.all_nil, Bool.and_true, List.getD_cons_zero, List.getD_cons_succ, Bool.not_false, ↓oLe_sign, ↓oMulS, ↓dDic, ↓dLock, ↓dGetS, ↓dStD, ↓dInS, ↓oInD, ↓dKeys, ↓dGet1, ↓dGet2, ↓dRev, ↓dMulL, ↓dCount, ↓dScrSl, ↓dScrLen, ↓dScrList, ↓oStrI]
          exact no fun r => (ri.mp r).2.1 ⟨q3, q4⟩
        · rw [if_neg q4]
          subst hB
          exact fin fun z => q4 z.2
      · rw [if_neg (by omega)]
        subst hB
        exact fin fun z => q3 z.1
    · rw [if_pos (fun z => q2 (by omega))]
      exact no fun r => q2 (ri.mp r).1
end DL


namespace DL
open PySem PySem.Spec PyProof.Rows L2

def rowF (t : List Nat) (b p : Nat) : Option Tri := if IsRun t b (ext t b p) p then some (b, ext t b p, p) else none
def rowP (t : List Nat) (b m : Nat) : List Tri := ((List.range m).map (· + 1)).filterMap (rowF t b)
theorem rowP_all (t : List Nat) (b : Nat) : rowP t b ((t.length - b) / 2) = rowN t b := rfl
theorem rowP_succ (t : List Nat) (b m : Nat) : rowP t b (m + 1) = rowP t b m ++ (rowF t b (m + 1)).toList := by
  unfold rowP
  rw [List.range_succ, List.map_append, List.filterMap_append]
  show _ ++ List.filterMap (rowF t b) [m + 1] = _
  cases h : rowF t b (m + 1) <;> simp [List.filterMap, h]
def rowsP (t : List Nat) (b : Nat) : List Tri := (List.range b).flatMap (rowN t)
theorem rowsP_succ (t : List Nat) (b : Nat) : rowsP t (b + 1) = rowsP t b ++ rowN t b := by
  unfold rowsP
  rw [List.range_succ, List.flatMap_append]
  simp
theorem rowP_length (t : List Nat) (b m : Nat) : (rowP t b m).length ≤ m := by
  have := List.length_filterMap_le (rowF t b) ((List.range m).map (· + 1))
  rw [List.length_map, List.length_range] at this
  exact this
theorem rowsP_length (t : List Nat) : ∀ b, (rowsP t b).length ≤ b * t.length
  | 0 => Nat.le_of_eq (by simp [rowsP])
  | b + 1 => by
    rw [rowsP_succ, List.length_append, Nat.succ_mul]
    have h1 := rowsP_length t b
    have h2 := rowP_length t b ((t.length - b) / 2)
    rw [rowP_all] at h2
    omega
theorem exit_if {c : Prop} [Decidable c] {X B : Prop} (h : c → X = B) (b : B) : if c then X else B := by
  by_cases q : c
  · rw [if_pos q, h q]; exact b
  · rw [if_neg q]; exact b
def S__law_runs : FnSpec := fnSpec 1 true (fun t : List Nat => [.str t]) (fun t => t.length ≤ 1000) fun t => .lst ((runsN t).map trD)
/-- _law_runs: slots 0 _law_text_here, 1 _law_found, 2 _law_begin, 3 _law_period, 4 _law_behind -/
def D__law_runs : DTS := (dSeq (dSet 1 (dLst dNil)) (dSeq (dFor (dRng1 (dCons (dLenS 0) dNil)) (dgName 2) (dFor (dRng2 (dCons (dC (.int 1)) (dCons (dBin oAdd (dBin oFdiv (dBin oSub (dLenS 0) (dVar 2)) (dC (.int 2))) (dC (.int 1))) dNil))) (dgName 3) (dSeq (dSet 4 (dUp (dBin oAdd (dVar 2) (dVar 3)))) (dSeq (dWhile (dAnd (dTest (dBin oLt (dVar 4) (dLenS 0))) (dTest (dBin oEq (dBinS 0 oIx (dVar 4)) (dBinS 0 oIx (dBin oSub (dVar 4) (dVar 3)))))) (dSet 4 (dUp (dBin oAdd (dVar 4) (dC (.int 1)))))) (dIf (dTest (dCall S__law_is_run (dCons (dVar 0) (dCons (dVar 2) (dCons (dVar 4) (dCons (dVar 3) dNil)))))) (dApp 1 (dTup (dCons (dVar 2) (dCons (dVar 4) (dCons (dVar 3) dNil))))) dNext))))) (dRet (dMove 1))))
theorem sem__law_runs : ∀ ds Kd, S__law_runs.ds ds Kd → D__law_runs (endsOf S__law_runs Kd) (env0 5 [false] ds) := by
  rintro ds Kd ⟨t, rfl, hz, post⟩
  simp only at hz post
  show D__law_runs (endsOf S__law_runs Kd) [.fz (.str t), .un, .un, .un, .un]
  simp only [↓D__law_runs, ↓dSeq, ↓dNext, ↓dBreak, ↓dCont, ↓dNever, ↓dRet, ↓dRetN, ↓dDrop, ↓dSet, ↓dIf, ↓dAug, ↓dAsg, ↓dPar, ↓dVar, ↓dMove, ↓dC, ↓dFz, ↓dUp, ↓dNil, ↓dCons, ↓dTup, ↓dLst, ↓dBin, ↓dUn, ↓dChain, ↓dTest, ↓dAnd, ↓dOr, ↓dNot, ↓dAndV, ↓dOrV, ↓dNotV, ↓dIfE, ↓dgName, ↓dgNil, ↓dgCons, ↓dgTup, ↓dIt, ↓dRng1, ↓dRng2, ↓dZip, ↓dEnum, ↓u_for, ↓u_lc, ↓dYes, ↓u_call, ↓u_callF, ↓u_callIo, ↓dCB, ↓dCBF, ↓dBinS, ↓dLenS, ↓dSl, ↓dSlS, ↓dNo, ↓dPt, ↓dStL, ↓dApp, ↓dExt, ↓dJoin, ↓dRg1, ↓dRg2, ↓dTupRg, ↓dLstRg, ↓oSub, ↓oMulI, ↓oMul, ↓oFdiv, ↓oMod, ↓oPow, ↓oShr, ↓oXor, ↓oNeg, ↓oAdd, ↓oAug, ↓oLt, ↓oLe, ↓oGt, ↓oGe, ↓oI, ↓oIx, ↓oLen, ↓oInt, ↓oOrd, ↓oAbs, ↓oStL, ↓oIn, ↓oNin, ↓oInB, ↓isi_int, ↓isi_int_bl, ↓isi_int_str, ↓isi_int_tup, ↓isi_int_lst, ↓isi_str, ↓isi_str_int, ↓isi_tup, ↓isi_tup_int, ↓isi_tup_str, ↓isi_tup_lst, ↓isi_lst, ↓isi_lst_tup, ↓isi_lst_int, ↓isi_lst_str, ↓cv, ↓Cell.val, ↓Cell.up, ↓Cell.own, ↓lenD, ↓itemsOf, List.getElem?_cons_zero, List.getElem?_cons_succ, List.set_cons_zero, List.set_cons_succ, Option.bind_some, Option.isSome_some, List.length_cons, List.length_nil, true_and, and_true, ↓ixN_lit, ↓atI_lit, ↓reduceIte, Nat.reduceAdd, Nat.reduceLT, Nat.reduceSub, Nat.zero_add, Nat.reduceLeDiff, Nat.lt_add_one, Nat.zero_lt_succ, ↓oEq_int, ↓oNe_int, ↓oEq_str, ↓oNe_str, ↓oEq_bl, ↓oNe_bl, decide_eq_true_eq, Bool.false_eq_true, ↓u_while, ↓ownAt, List.all_cons, List.all_nil, Bool.and_true, List.getD_cons_zero, List.getD_cons_succ, Bool.not_false, ↓oLe_sign, ↓oMulS, ↓dDic, ↓dLock, ↓dGetS, ↓dStD, ↓dInS, ↓oInD, ↓dKeys, ↓dGet1, ↓dGet2, ↓dRev, ↓dMulL, ↓dCount, ↓dScrSl, ↓dScrLen, ↓dScrList, ↓oStrI]
  refine ⟨by decide, by omega, by omega, ?_⟩
  rw [show ((t.length : Nat) : Int).toNat = t.length by omega]
  refine forB_of (forN_inv (fun b ρ => ∃ x2 x3 x4, ρ = [.fz (.str t), .ow (.lst ((rowsP t b).map trD)), x2, x3, x4]) ?_ ?_ _ ⟨.un, .un, .un, rfl⟩)
  · rintro b ρ k hb ⟨x2, x3, x4, rfl⟩ hk
    simp only [↓dSeq, ↓dNext, ↓dBreak, ↓dCont, ↓dNever, ↓dRet, ↓dRetN, ↓dDrop, ↓dSet, ↓dIf, ↓dAug, ↓dAsg, ↓dPar, ↓dVar, ↓dMove, ↓dC, ↓dFz, ↓dUp, ↓dNil, ↓dCons, ↓dTup, ↓dLst, ↓dBin, ↓dUn, ↓dChain, ↓dTest, ↓dAnd, ↓dOr, ↓dNot, ↓dAndV, ↓dOrV, ↓dNotV, ↓dIfE, ↓dgName, ↓dgNil, ↓dgCons, ↓dgTup, ↓dIt, ↓dRng1, ↓dRng2, ↓dZip, ↓dEnum, ↓u_for, ↓u_lc, ↓dYes, ↓u_call, ↓u_callF, ↓u_callIo, ↓dCB, ↓dCBF, ↓dBinS, ↓dLenS, ↓dSl, ↓dSlS, ↓dNo, ↓dPt, ↓dStL, ↓dApp, ↓dExt, ↓dJoin, ↓dRg1, ↓dRg2, ↓dTupRg, ↓dLstRg, ↓oSub, ↓oMulI, ↓oMul, ↓oFdiv, ↓oMod, ↓oPow, ↓oShr, ↓oXor, ↓oNeg, ↓oAdd, ↓oAug, ↓oLt, ↓oLe, ↓oGt, ↓oGe, ↓oI, ↓oIx, ↓oLen, ↓oInt, ↓oOrd, ↓oAbs, ↓oStL, ↓oIn, ↓oNin, ↓oInB, ↓isi_int, ↓isi_int_bl, ↓isi_int_str, ↓isi_int_tup, ↓isi_int_lst, ↓isi_str, ↓isi_str_int, ↓isi_tup, ↓isi_tup_int, ↓isi_tup_str, ↓isi_tup_lst, ↓isi_lst, ↓isi_lst_tup, ↓isi_lst_int, ↓isi_lst_str, ↓cv, ↓Cell.val, ↓Cell.up, ↓Cell.own, ↓lenD, ↓itemsOf, List.getElem?_cons_zero, List.getElem?_cons_succ, List.set_cons_zero, List.set_cons_succ, Option.bind_some, Option.isSome_some, List.length_cons, List.length_nil, true_and, and_true, ↓ixN_lit, ↓atI_lit, ↓reduceIte, Nat.reduceAdd, Nat.reduceLT, Nat.reduceSub, Nat.zero_add, Nat.reduceLeDiff, Nat.lt_add_one, Nat.zero_lt_succ, ↓oEq_int, ↓oNe_int, ↓oEq_str, ↓oNe_str, ↓oEq_bl, ↓oNe_bl, decide_eq_true_eq, Bool.false_eq_true, ↓u_while, ↓ownAt, List.all_cons, List.all_nil, Bool.and_true, List.getD_cons_zero, List.getD_cons_succ, Bool.not_false, ↓oLe_sign, ↓oMulS, ↓dDic, ↓dLock, ↓dGetS, ↓dStD, ↓dInS, ↓oInD, ↓dKeys, ↓dGet1, ↓dGet2, ↓dRev, ↓dMulL, ↓dCount, ↓dScrSl, ↓dScrLen, ↓dScrList, ↓oStrI, Int.zero_add]
    refine ⟨cdiv_lit (by decide) (by decide), by omega, by omega, ?_⟩
    rw [show (((t.length : Int) - (b : Nat)) / 2 + 1 - 1).toNat = (t.length - b) / 2 by omega]
    refine forB_of (forN_inv (fun m ρ => ∃ x3 x4, ρ = [.fz (.str t), .ow (.lst ((rowsP t b ++ rowP t b m).map trD)), .fz (.int (b : Nat)), x3, x4]) ?_ ?_ _ ⟨x3, x4, ?_⟩)
    · rintro m ρ k2 hm ⟨x3, x4, rfl⟩ hk2
      simp only [↓dSeq, ↓dNext, ↓dBreak, ↓dCont, ↓dNever, ↓dRet, ↓dRetN, ↓dDrop, ↓dSet, ↓dIf, ↓dAug, ↓dAsg, ↓dPar, ↓dVar, ↓dMove, ↓dC, ↓dFz, ↓dUp, ↓dNil, ↓dCons, ↓dTup, ↓dLst, ↓dBin, ↓dUn, ↓dChain, ↓dTest, ↓dAnd, ↓dOr, ↓dNot, ↓dAndV, ↓dOrV, ↓dNotV, ↓dIfE, ↓dgName, ↓dgNil, ↓dgCons, ↓dgTup, ↓dIt, ↓dRng1, ↓dRng2, ↓dZip, ↓dEnum, ↓u_for, ↓u_lc, ↓dYes, ↓u_call, ↓u_callF, ↓u_callIo, ↓dCB, ↓dCBF, ↓dBinS, ↓dLenS, ↓dSl, ↓dSlS, ↓dNo, ↓dPt, ↓dStL, ↓dApp, ↓dExt, ↓dJoin, ↓dRg1, ↓dRg2, ↓dTupRg, ↓dLstRg, ↓oSub, ↓oMulI, ↓oMul, ↓oFdiv, ↓oMod, ↓oPow, ↓oShr, ↓oXor, ↓oNeg, ↓oAdd, ↓oAug, ↓oLt, ↓oLe, ↓oGt, ↓oGe, ↓oI, ↓oIx, ↓oLen, ↓oInt, ↓oOrd, ↓oAbs, ↓oStL, ↓oIn, ↓oNin, ↓oInB, ↓isi_int, ↓isi_int_bl, ↓isi_int_str, ↓isi_int_tup, ↓isi_int_lst, ↓isi_str, ↓isi_str_int, ↓isi_tup, ↓isi_tup_int, ↓isi_tup_str, ↓isi_tup_lst, ↓isi_lst, ↓isi_lst_tup, ↓isi_lst_int, ↓isi_lst_str, ↓cv, ↓Cell.val, ↓Cell.up, ↓Cell.own, ↓lenD, ↓itemsOf, List.getElem?_cons_zero, List.getElem?_cons_succ, List.set_cons_zero, List.set_cons_succ, Option.bind_some, Option.isSome_some, List.length_cons, List.length_nil, true_and, and_true, ↓ixN_lit, ↓atI_lit, ↓reduceIte, Nat.reduceAdd, Nat.reduceLT, Nat.reduceSub, Nat.zero_add, Nat.reduceLeDiff, Nat.lt_add_one, Nat.zero_lt_succ, ↓oEq_int, ↓oNe_int, ↓oEq_str, ↓oNe_str, ↓oEq_bl, ↓oNe_bl, decide_eq_true_eq, Bool.false_eq_true, ↓u_while, ↓ownAt, List.all_cons, List.all_nil, Bool.and_true, List.getD_cons_zero, List.getD_cons_succ, Bool.not_false, ↓oLe_sign, ↓oMulS, ↓dDic, ↓dLock, ↓dGetS, ↓dStD, ↓dInS, ↓oInD, ↓dKeys, ↓dGet1, ↓dGet2, ↓dRev, ↓dMulL, ↓dCount, ↓dScrSl, ↓dScrLen, ↓dScrList, ↓oStrI]
      rw [show (1 : Int) + ((m : Nat) : Int) = ((m + 1 : Nat) : Int) by omega]
      have nx : ∀ l, l = rowsP t b ++ rowP t b (m + 1) → ∀ e : Nat, k2 [.fz (.str t), .ow (.lst (l.map trD)), .fz (.int (b : Nat)), .fz (.int ((m + 1 : Nat) : Int)), .fz (.int (e : Nat))] := by
        rintro l rfl e
        exact hk2 _ ⟨.fz (.int ((m + 1 : Nat) : Int)), .fz (.int (e : Nat)), rfl⟩
      rw [rowP_succ, ← List.append_assoc] at nx
      have hl1 := rowsP_length t b
      have hl2 := rowP_length t b m
      have hl3 : b * t.length ≤ 1000 * 1000 := Nat.mul_le_mul (by omega) (by omega)
      have hl : (rowsP t b ++ rowP t b m).length ≤ 2000000 := by rw [List.length_append]; omega
      generalize rowsP t b ++ rowP t b m = acc at nx hl
      have eb : ((b : Nat) : Int) + ((m + 1 : Nat) : Int) = ((b + (m + 1) : Nat) : Int) := by omega
      simp only [eb]
      refine whB_of (dWhile_iff (fun w ρ => ∃ e : Nat, b + (m + 1) ≤ e ∧ e + w = t.length ∧ exS t (m + 1) w e = ext t b (m + 1) ∧ ρ = [.fz (.str t), .ow (.lst (acc.map trD)), .fz (.int (b : Nat)), .fz (.int ((m + 1 : Nat) : Int)), .fz (.int (e : Nat))]) (t.length - (b + (m + 1))) ⟨b + (m + 1), Nat.le_refl _, by omega, rfl, rfl⟩ ?_)
      rintro w ρ ⟨e, he, hw, hx, rfl⟩
      simp only [↓dSeq, ↓dNext, ↓dBreak, ↓dCont, ↓dNever, ↓dRet, ↓dRetN, ↓dDrop, ↓dSet, ↓dIf, ↓dAug, ↓dAsg, ↓dPar, ↓dVar, ↓dMove, ↓dC, ↓dFz, ↓dUp, ↓dNil, ↓dCons, ↓dTup, ↓dLst, ↓dBin, ↓dUn, ↓dChain, ↓dTest, ↓dAnd, ↓dOr, ↓dNot, ↓dAndV, ↓dOrV, ↓dNotV, ↓dIfE, ↓dgName, ↓dgNil, ↓dgCons, ↓dgTup, ↓dIt, ↓dRng1, ↓dRng2, ↓dZip, ↓dEnum, ↓u_for, ↓u_lc, ↓dYes, ↓u_call, ↓u_callF, ↓u_callIo, ↓dCB, ↓dCBF, ↓dBinS, ↓dLenS, ↓dSl, ↓dSlS, ↓dNo, ↓dPt, ↓dStL, ↓dApp, ↓dExt, ↓dJoin, ↓dRg1, ↓dRg2, ↓dTupRg, ↓dLstRg, ↓oSub, ↓oMulI, ↓oMul, ↓oFdiv, ↓oMod, ↓oPow, ↓oShr, ↓oXor, ↓oNeg, ↓oAdd, ↓oAug, ↓oLt, ↓oLe, ↓oGt, ↓oGe, ↓oI, ↓oIx, ↓oLen, ↓oInt, ↓oOrd, ↓oAbs, ↓oStL, ↓oIn, ↓oNin, ↓oInB, ↓isi_int, ↓isi_int_bl, ↓isi_int_str, ↓isi_int_tup, ↓isi_int_lst, ↓isi_str, ↓isi_str_int, ↓isi_tup, ↓isi_tup_int, ↓isi_tup_str, ↓isi_tup_lst, ↓isi_lst, ↓isi_lst_tup, ↓isi_lst_int, ↓isi_lst_str, ↓cv, ↓Cell.val, ↓Cell.up, ↓Cell.own, ↓lenD, ↓itemsOf, List.getElem?_cons_zero, List.getElem?_cons_succ, List.set_cons_zero, List.set_cons_succ, Option.bind_some, Option.isSome_some, List.length_cons, List.length_nil, true_and, and_true, ↓ixN_lit, ↓atI_lit, ↓reduceIte, Nat.reduceAdd, Nat.reduceLT, Nat.reduceSub, Nat.zero_add, Nat.reduceLeDiff, Nat.lt_add_one, Nat.zero_lt_succ, ↓oEq_int, ↓oNe_int, ↓oEq_str, ↓oNe_str, ↓oEq_bl, ↓oNe_bl, decide_eq_true_eq, Bool.false_eq_true, ↓u_while, ↓ownAt, List.all_cons, List.all_nil, Bool.and_true, List.getD_cons_zero, List.getD_cons_succ, Bool.not_false, ↓oLe_sign, ↓oMulS, ↓dDic, ↓dLock, ↓dGetS, ↓dStD, ↓dInS, ↓oInD, ↓dKeys, ↓dGet1, ↓dGet2, ↓dRev, ↓dMulL, ↓dCount, ↓dScrSl, ↓dScrLen, ↓dScrList, ↓oStrI]
      by_cases q : e < t.length ∧ tt t e = tt t (e - (m + 1))
      · obtain ⟨q1, q2⟩ := q
        rw [if_pos (by omega)]
        obtain ⟨w', rfl⟩ : ∃ w', w = w' + 1 := ⟨w - 1, by omega⟩
        have a1 : atI t (e : Int) = some (tt t e) := by rw [atI_natE]; exact str_at q1
        have a2 : atI t ((e : Int) - ((m + 1 : Nat) : Int)) = some (tt t (e - (m + 1))) := by
          rw [show ((e : Int) - ((m + 1 : Nat) : Int)) = ((e - (m + 1) : Nat) : Int) by omega, atI_natE]
          exact str_at (by omega)
        simp only [a1, a2]
        unfold exS at hx
        rw [if_pos (by rw [q2])]
        rw [if_pos ⟨q1, q2⟩] at hx
        refine ⟨w', by omega, e + 1, by omega, by omega, hx, ?_⟩
        rw [show ((e : Nat) : Int) + 1 = ((e + 1 : Nat) : Int) by omega]
      · have ee : e = ext t b (m + 1) := by
          cases w with
          | zero => exact hx
          | succ w =>
            unfold exS at hx
            rw [if_neg q] at hx
            exact hx
        refine exit_if (fun q1 => ?_) ?_
        · have q1 : e < t.length := by omega
          have a1 : atI t (e : Int) = some (tt t e) := by rw [atI_natE]; exact str_at q1
          have a2 : atI t ((e : Int) - ((m + 1 : Nat) : Int)) = some (tt t (e - (m + 1))) := by
            rw [show ((e : Int) - ((m + 1 : Nat) : Int)) = ((e - (m + 1) : Nat) : Int) by omega, atI_natE]
            exact str_at (by omega)
          simp only [a1, a2]
          rw [if_neg (fun z => q ⟨q1, by simpa using z⟩)]
        refine ⟨rfl, onF (t, b, e, m + 1) rfl ⟨by show t.length ≤ 2000; omega, by show e ≤ t.length; omega, by show 1 ≤ m + 1; omega, by show b < e; omega, by show m + 1 ≤ 2000; omega⟩ ?_⟩
        simp only [↓dSeq, ↓dNext, ↓dBreak, ↓dCont, ↓dNever, ↓dRet, ↓dRetN, ↓dDrop, ↓dSet, ↓dIf, ↓dAug, ↓dAsg, ↓dPar, ↓dVar, ↓dMove, ↓dC, ↓dFz, ↓dUp, ↓dNil, ↓dCons, ↓dTup, ↓dLst, ↓dBin, ↓dUn, ↓dChain, ↓dTest, ↓dAnd, ↓dOr, ↓dNot, ↓dAndV, ↓dOrV, ↓dNotV, ↓dIfE, ↓dgName, ↓dgNil, ↓dgCons, ↓dgTup, ↓dIt, ↓dRng1, ↓dRng2, ↓dZip, ↓dEnum, ↓u_for, ↓u_lc, ↓dYes, ↓u_call, ↓u_callF, ↓u_callIo, ↓dCB, ↓dCBF, ↓dBinS, ↓dLenS, ↓dSl, ↓dSlS, ↓dNo, ↓dPt, ↓dStL, ↓dApp, ↓dExt, ↓dJoin, ↓dRg1, ↓dRg2, ↓dTupRg, ↓dLstRg, ↓oSub, ↓oMulI, ↓oMul, ↓oFdiv, ↓oMod, ↓oPow, ↓oShr, ↓oXor, ↓oNeg, ↓oAdd, ↓oAug, ↓oLt, ↓oLe, ↓oGt, ↓oGe, ↓oI, ↓oIx, ↓oLen, ↓oInt, ↓oOrd, ↓oAbs, ↓oStL, ↓oIn, ↓oNin, ↓oInB, ↓isi_int, ↓isi_int_bl, ↓isi_int_str, ↓isi_int_tup, ↓isi_int_lst, ↓isi_str, ↓isi_str_int, ↓isi_tup, ↓isi_tup_int, ↓isi_tup_str, ↓isi_tup_lst, ↓isi_lst, ↓isi_lst_tup, ↓isi_lst_int, ↓isi_lst_str, ↓cv, ↓Cell.val, ↓Cell.up, ↓Cell.own, ↓lenD, ↓itemsOf, List.getElem?_cons_zero, List.getElem?_cons_succ, List.set_cons_zero, List.set_cons_succ, Option.bind_some, Option.isSome_some, List.length_cons, List.length_nil, true_and, and_true, ↓ixN_lit, ↓atI_lit, ↓reduceIte, Nat.reduceAdd, Nat.reduceLT, Nat.reduceSub, Nat.zero_add, Nat.reduceLeDiff, Nat.lt_add_one, Nat.zero_lt_succ, ↓oEq_int, ↓oNe_int, ↓oEq_str, ↓oNe_str, ↓oEq_bl, ↓oNe_bl, decide_eq_true_eq, Bool.false_eq_true, ↓u_while, ↓ownAt, List.all_cons, List.all_nil, Bool.and_true, List.getD_cons_zero, List.getD_cons_succ, Bool.not_false, ↓oLe_sign, ↓oMulS, ↓dDic, ↓dLock, ↓dGetS, ↓dStD, ↓dInS, ↓oInD, ↓dKeys, ↓dGet1, ↓dGet2, ↓dRev, ↓dMulL, ↓dCount, ↓dScrSl, ↓dScrLen, ↓dScrList, ↓oStrI]
        by_cases c : IsRun t b e (m + 1)
        · rw [if_pos c]
          refine ⟨⟨_, rfl⟩, by decide, by rw [List.length_map]; show acc.length < 16777216; omega, ?_⟩
          have h := nx (acc ++ [(b, e, m + 1)]) (by unfold rowF; rw [← ee, if_pos c]; rfl) e
          rw [List.map_append] at h
          exact h
        · rw [if_neg c]
          exact nx acc (by unfold rowF; rw [← ee, if_neg c]; simp) e
    · rintro ρ ⟨x3, x4, rfl⟩
      simp only [↓dSeq, ↓dNext, ↓dBreak, ↓dCont, ↓dNever, ↓dRet, ↓dRetN, ↓dDrop, ↓dSet, ↓dIf, ↓dAug, ↓dAsg, ↓dPar, ↓dVar, ↓dMove, ↓dC, ↓dFz, ↓dUp, ↓dNil, ↓dCons, ↓dTup, ↓dLst, ↓dBin, ↓dUn, ↓dChain, ↓dTest, ↓dAnd, ↓dOr, ↓dNot, ↓dAndV, ↓dOrV, ↓dNotV, ↓dIfE, ↓dgName, ↓dgNil, ↓dgCons, ↓dgTup, ↓dIt, ↓dRng1, ↓dRng2, ↓dZip, ↓dEnum, ↓u_for, ↓u_lc, ↓dYes, ↓u_call, ↓u_callF, ↓u_callIo, ↓dCB, ↓dCBF, ↓dBinS, ↓dLenS, ↓dSl, ↓dSlS, ↓dNo, ↓dPt, ↓dStL, ↓dApp, ↓dExt, ↓dJoin, ↓dRg1, ↓dRg2, ↓dTupRg, ↓dLstRg, ↓oSub, ↓oMulI, ↓oMul, ↓oFdiv, ↓oMod, ↓oPow, ↓oShr, ↓oXor, ↓oNeg, ↓oAdd, ↓oAug, ↓oLt, ↓oLe, ↓oGt, ↓oGe, ↓oI, ↓oIx, ↓oLen, ↓oInt, ↓oOrd, ↓oAbs, ↓oStL, ↓oIn, ↓oNin, ↓oInB, ↓isi_int, ↓isi_int_bl, ↓isi_int_str, ↓isi_int_tup, ↓isi_int_lst, ↓isi_str, ↓isi_str_int, ↓isi_tup, ↓isi_tup_int, ↓isi_tup_str, ↓isi_tup_lst, ↓isi_lst, ↓isi_lst_tup, ↓isi_lst_int, ↓isi_lst_str, ↓cv, ↓Cell.val, ↓Cell.up, ↓Cell.own, ↓lenD, ↓itemsOf, List.getElem?_cons_zero, List.getElem?_cons_succ, List.set_cons_zero, List.set_cons_succ, Option.bind_some, Option.isSome_some, List.length_cons, List.length_nil, true_and, and_true, ↓ixN_lit, ↓atI_lit, ↓reduceIte, Nat.reduceAdd, Nat.reduceLT, Nat.reduceSub, Nat.zero_add, Nat.reduceLeDiff, Nat.lt_add_one, Nat.zero_lt_succ, ↓oEq_int, ↓oNe_int, ↓oEq_str, ↓oNe_str, ↓oEq_bl, ↓oNe_bl, decide_eq_true_eq, Bool.false_eq_true, ↓u_while, ↓ownAt, List.all_cons, List.all_nil, Bool.and_true, List.getD_cons_zero, List.getD_cons_succ, Bool.not_false, ↓oLe_sign, ↓oMulS, ↓dDic, ↓dLock, ↓dGetS, ↓dStD, ↓dInS, ↓oInD, ↓dKeys, ↓dGet1, ↓dGet2, ↓dRev, ↓dMulL, ↓dCount, ↓dScrSl, ↓dScrLen, ↓dScrList, ↓oStrI]
      refine hk _ ⟨.fz (.int (b : Nat)), x3, x4, ?_⟩
      rw [rowP_all, ← rowsP_succ]
    · rw [show rowP t b 0 = [] from rfl, List.append_nil]
  · rintro ρ ⟨x2, x3, x4, rfl⟩
    simp only [↓dSeq, ↓dNext, ↓dBreak, ↓dCont, ↓dNever, ↓dRet, ↓dRetN, ↓dDrop, ↓dSet, ↓dIf, ↓dAug, ↓dAsg, ↓dPar, ↓dVar, ↓dMove, ↓dC, ↓dFz, ↓dUp, ↓dNil, ↓dCons, ↓dTup, ↓dLst, ↓dBin, ↓dUn, ↓dChain, ↓dTest, ↓dAnd, ↓dOr, ↓dNot, ↓dAndV, ↓dOrV, ↓dNotV, ↓dIfE, ↓dgName, ↓dgNil, ↓dgCons, ↓dgTup, ↓dIt, ↓dRng1, ↓dRng2, ↓dZip, ↓dEnum, ↓u_for, ↓u_lc, ↓dYes, ↓u_call, ↓u_callF, ↓u_callIo, ↓dCB, ↓dCBF, ↓dBinS, ↓dLenS, ↓dSl, ↓dSlS, ↓dNo, ↓dPt, ↓dStL, ↓dApp, ↓dExt, ↓dJoin, ↓dRg1, ↓dRg2, ↓dTupRg, ↓dLstRg, ↓oSub, ↓oMulI, ↓oMul, ↓oFdiv, ↓oMod, ↓oPow, ↓oShr, ↓oXor, ↓oNeg, ↓oAdd, ↓oAug, ↓oLt, ↓oLe, ↓oGt, ↓oGe, ↓oI, ↓oIx, ↓oLen, ↓oInt, ↓oOrd, ↓oAbs, ↓oStL, ↓oIn, ↓oNin, ↓oInB, ↓isi_int, ↓isi_int_bl, ↓isi_int_str, ↓isi_int_tup, ↓isi_int_lst, ↓isi_str, ↓isi_str_int, ↓isi_tup, ↓isi_tup_int, ↓isi_tup_str, ↓isi_tup_lst, ↓isi_lst, ↓isi_lst_tup, ↓isi_lst_int, ↓isi_lst_str, ↓cv, ↓Cell.val, ↓Cell.up, ↓Cell.own, ↓lenD, ↓itemsOf, List.getElem?_cons_zero, List.getElem?_cons_succ, List.set_cons_zero, List.set_cons_succ, Option.bind_some, Option.isSome_some, List.length_cons, List.length_nil, true_and, and_true, ↓ixN_lit, ↓atI_lit, ↓reduceIte, Nat.reduceAdd, Nat.reduceLT, Nat.reduceSub, Nat.zero_add, Nat.reduceLeDiff, Nat.lt_add_one, Nat.zero_lt_succ, ↓oEq_int, ↓oNe_int, ↓oEq_str, ↓oNe_str, ↓oEq_bl, ↓oNe_bl, decide_eq_true_eq, Bool.false_eq_true, ↓u_while, ↓ownAt, List.all_cons, List.all_nil, Bool.and_true, List.getD_cons_zero, List.getD_cons_succ, Bool.not_false, ↓oLe_sign, ↓oMulS, ↓dDic, ↓dLock, ↓dGetS, ↓dStD, ↓dInS, ↓oInD, ↓dKeys, ↓dGet1, ↓dGet2, ↓dRev, ↓dMulL, ↓dCount, ↓dScrSl, ↓dScrLen, ↓dScrList, ↓oStrI]
    exact post _ _ ⟨rfl, rfl⟩
end DL


namespace DL
open PySem PySem.Spec PyProof.Rows L2

def triI : D → Option (Int × Int × Int)
  | .tup [.int x, .int y, .int z] => some (x, y, z)
  | _ => none
def isRunD (t : List Nat) (d : D) : Bool := match triI d with
  | some (x, y, z) => decide (0 ≤ x ∧ 0 ≤ y ∧ 0 ≤ z ∧ IsRun t x.toNat y.toNat z.toNat)
  | none => false
theorem triI_some {d : D} {x y z : Int} (h : triI d = some (x, y, z)) : d = .tup [.int x, .int y, .int z] := by
  unfold triI at h
  split at h
  · cases h; rfl
  · cases h
theorem isRunD_false {t : List Nat} {d : D} (h : ∀ x y z : Int, d = .tup [.int x, .int y, .int z] → 0 ≤ x → 0 ≤ y → 0 ≤ z → ¬ IsRun t x.toNat y.toNat z.toNat) : isRunD t d = false := by
  unfold isRunD
  cases e : triI d with
  | none => rfl
  | some v =>
    obtain ⟨x, y, z⟩ := v
    exact decide_eq_false fun ⟨a, b, c, q⟩ => h x y z (triI_some e) a b c q
theorem isRunD_is {t : List Nat} {x y z : Int} : isRunD t (.tup [.int x, .int y, .int z]) = decide (0 ≤ x ∧ 0 ≤ y ∧ 0 ≤ z ∧ IsRun t x.toNat y.toNat z.toNat) := rfl
def KndT (d : D) : Prop := Knd d ∧ ∀ xs, d = .tup xs → ∀ x ∈ xs, Knd x
def S_is_run : FnSpec := fnSpec 2 false (fun x : List Nat × D => [.str x.1, x.2]) (fun x => Signs x.1 ∧ x.1.length ≤ 2000 ∧ KndT x.2) fun x => .bl (isRunD x.1 x.2)
/-- is_run: slots 0 text, 1 thing, 2 begin, 3 behind, 4 period -/
def D_is_run : DTS := (dSeq (dDrop (dCall S_check_text (dCons (dVar 0) dNil))) (dSeq (dIf (dOr (dNot (dTest (dCall S_is_sized (dCons (dVar 1) (dCons (dC (.int 3)) (dCons (dC (.int 3)) dNil)))))) (dNot (dTest (dCall S_is_below (dCons (dBinS 1 oIx (dC (.int 0))) (dCons (dLenS 0) dNil)))))) (dRet (dUp (dC (.bl false)))) dNext) (dSeq (dIf (dNot (dTest (dCall S_is_within (dCons (dBinS 1 oIx (dC (.int 1))) (dCons (dBin oAdd (dBinS 1 oIx (dC (.int 0))) (dC (.int 1))) (dCons (dLenS 0) dNil)))))) (dRet (dUp (dC (.bl false)))) dNext) (dSeq (dAsg (dVar 1) (dgTup 3 (dgCons (dgName 2) (dgCons (dgName 3) (dgCons (dgName 4) dgNil))))) (dSeq (dIf (dOr (dNot (dTest (dCall S_is_within (dCons (dVar 4) (dCons (dC (.int 1)) (dCons (dBin oFdiv (dBin oSub (dVar 3) (dVar 2)) (dC (.int 2))) dNil)))))) (dTest (dBin oNe (dCall S_least_period (dCons (dSlS 0 (dPt (dVar 2)) (dPt (dVar 3))) dNil)) (dVar 4)))) (dRet (dUp (dC (.bl false)))) dNext) (dSeq (dIf (dAnd (dTest (dBin oGt (dVar 2) (dC (.int 0)))) (dTest (dCall S_has_period (dCons (dSlS 0 (dPt (dBin oSub (dVar 2) (dC (.int 1)))) (dPt (dVar 3))) (dCons (dVar 4) dNil))))) (dRet (dUp (dC (.bl false)))) dNext) (dRet (dUp (dOrV (dBin oEq (dVar 3) (dLenS 0)) (dNotV (dCall S_has_period (dCons (dSlS 0 (dPt (dVar 2)) (dPt (dBin oAdd (dVar 3) (dC (.int 1))))) (dCons (dVar 4) dNil)))))))))))))
theorem sem_is_run : ∀ ds Kd, S_is_run.ds ds Kd → D_is_run (endsOf S_is_run Kd) (env0 5 [false, false] ds) := by
  rintro ds Kd ⟨⟨t, d⟩, rfl, ⟨hs, hz, hk1, hk2⟩, post⟩
  simp only at hs hz hk1 hk2 post
  show D_is_run (endsOf S_is_run Kd) [.fz (.str t), .fz d, .un, .un, .un]
  have no : ∀ a b c, (∀ x y z : Int, d = .tup [.int x, .int y, .int z] → 0 ≤ x → 0 ≤ y → 0 ≤ z → ¬ IsRun t x.toNat y.toNat z.toNat) → (endsOf S_is_run Kd).rt (.fz (.bl false)) [.fz (.str t), .fz d, a, b, c] := fun a b c h => ⟨rfl, post _ _ ⟨by rw [isRunD_false h], rfl⟩⟩
  unfold D_is_run
  refine seq_gen fun k hk => ?_
  simp only [↓dSeq, ↓dNext, ↓dBreak, ↓dCont, ↓dNever, ↓dRet, ↓dRetN, ↓dDrop, ↓dSet, ↓dIf, ↓dAug, ↓dAsg, ↓dPar, ↓dVar, ↓dMove, ↓dC, ↓dFz, ↓dUp, ↓dNil, ↓dCons, ↓dTup, ↓dLst, ↓dBin, ↓dUn, ↓dChain, ↓dTest, ↓dAnd, ↓dOr, ↓dNot, ↓dAndV, ↓dOrV, ↓dNotV, ↓dIfE, ↓dgName, ↓dgNil, ↓dgCons, ↓dgTup, ↓dIt, ↓dRng1, ↓dRng2, ↓dZip, ↓dEnum, ↓u_for, ↓u_lc, ↓dYes, ↓u_call, ↓u_callF, ↓u_callIo, ↓dCB, ↓dCBF, ↓dBinS, ↓dLenS, ↓dSl, ↓dSlS, ↓dNo, ↓dPt, ↓dStL, ↓dApp, ↓dExt, ↓dJoin, ↓dRg1, ↓dRg2, ↓dTupRg, ↓dLstRg, ↓oSub, ↓oMulI, ↓oMul, ↓oFdiv, ↓oMod, ↓oPow, ↓oShr, ↓oXor, ↓oNeg, ↓oAdd, ↓oAug, ↓oLt, ↓oLe, ↓oGt, ↓oGe, ↓oI, ↓oIx, ↓oLen, ↓oInt, ↓oOrd, ↓oAbs, ↓oStL, ↓oIn, ↓oNin, ↓oInB, ↓isi_int, ↓isi_int_bl, ↓isi_int_str, ↓isi_int_tup, ↓isi_int_lst, ↓isi_str, ↓isi_str_int, ↓isi_tup, ↓isi_tup_int, ↓isi_tup_str, ↓isi_tup_lst, ↓isi_lst, ↓isi_lst_tup, ↓isi_lst_int, ↓isi_lst_str, ↓cv, ↓Cell.val, ↓Cell.up, ↓Cell.own, ↓lenD, ↓itemsOf, List.getElem?_cons_zero, List.getElem?_cons_succ, List.set_cons_zero, List.set_cons_succ, Option.bind_some, Option.isSome_some, List.length_cons, List.length_nil, true_and, and_true, ↓ixN_lit, ↓atI_lit, ↓reduceIte, Nat.reduceAdd, Nat.reduceLT, Nat.reduceSub, Nat.zero_add, Nat.reduceLeDiff, Nat.lt_add_one, Nat.zero_lt_succ, ↓oEq_int, ↓oNe_int, ↓oEq_str, ↓oNe_str, ↓oEq_bl, ↓oNe_bl, decide_eq_true_eq, Bool.false_eq_true, ↓u_while, ↓ownAt, List.all_cons, List.all_nil, Bool.and_true, List.getD_cons_zero, List.getD_cons_succ, Bool.not_false, ↓oLe_sign, ↓oMulS, ↓dDic, ↓dLock, ↓dGetS, ↓dStD, ↓dInS, ↓oInD, ↓dKeys, ↓dGet1, ↓dGet2, ↓dRev, ↓dMulL, ↓dCount, ↓dScrSl, ↓dScrLen, ↓dScrList, ↓oStrI]
  refine ⟨rfl, onF t rfl ⟨hs, hz⟩ ?_⟩
  simp only [↓dSeq, ↓dNext, ↓dBreak, ↓dCont, ↓dNever, ↓dRet, ↓dRetN, ↓dDrop, ↓dSet, ↓dIf, ↓dAug, ↓dAsg, ↓dPar, ↓dVar, ↓dMove, ↓dC, ↓dFz, ↓dUp, ↓dNil, ↓dCons, ↓dTup, ↓dLst, ↓dBin, ↓dUn, ↓dChain, ↓dTest, ↓dAnd, ↓dOr, ↓dNot, ↓dAndV, ↓dOrV, ↓dNotV, ↓dIfE, ↓dgName, ↓dgNil, ↓dgCons, ↓dgTup, ↓dIt, ↓dRng1, ↓dRng2, ↓dZip, ↓dEnum, ↓u_for, ↓u_lc, ↓dYes, ↓u_call, ↓u_callF, ↓u_callIo, ↓dCB, ↓dCBF, ↓dBinS, ↓dLenS, ↓dSl, ↓dSlS, ↓dNo, ↓dPt, ↓dStL, ↓dApp, ↓dExt, ↓dJoin, ↓dRg1, ↓dRg2, ↓dTupRg, ↓dLstRg, ↓oSub, ↓oMulI, ↓oMul, ↓oFdiv, ↓oMod, ↓oPow, ↓oShr, ↓oXor, ↓oNeg, ↓oAdd, ↓oAug, ↓oLt, ↓oLe, ↓oGt, ↓oGe, ↓oI, ↓oIx, ↓oLen, ↓oInt, ↓oOrd, ↓oAbs, ↓oStL, ↓oIn, ↓oNin, ↓oInB, ↓isi_int, ↓isi_int_bl, ↓isi_int_str, ↓isi_int_tup, ↓isi_int_lst, ↓isi_str, ↓isi_str_int, ↓isi_tup, ↓isi_tup_int, ↓isi_tup_str, ↓isi_tup_lst, ↓isi_lst, ↓isi_lst_tup, ↓isi_lst_int, ↓isi_lst_str, ↓cv, ↓Cell.val, ↓Cell.up, ↓Cell.own, ↓lenD, ↓itemsOf, List.getElem?_cons_zero, List.getElem?_cons_succ, List.set_cons_zero, List.set_cons_succ, Option.bind_some, Option.isSome_some, List.length_cons, List.length_nil, true_and, and_true, ↓ixN_lit, ↓atI_lit, ↓reduceIte, Nat.reduceAdd, Nat.reduceLT, Nat.reduceSub, Nat.zero_add, Nat.reduceLeDiff, Nat.lt_add_one, Nat.zero_lt_succ, ↓oEq_int, ↓oNe_int, ↓oEq_str, ↓oNe_str, ↓oEq_bl, ↓oNe_bl, decide_eq_true_eq, Bool.false_eq_true, ↓u_while, ↓ownAt, List.all_cons, List.all_nil, Bool.and_true, List.getD_cons_zero, List.getD_cons_succ, Bool.not_false, ↓oLe_sign, ↓oMulS, ↓dDic, ↓dLock, ↓dGetS, ↓dStD, ↓dInS, ↓oInD, ↓dKeys, ↓dGet1, ↓dGet2, ↓dRev, ↓dMulL, ↓dCount, ↓dScrSl, ↓dScrLen, ↓dScrList, ↓oStrI]
  subst hk
  refine seq_gen fun k hk => ?_
  simp only [↓dSeq, ↓dNext, ↓dBreak, ↓dCont, ↓dNever, ↓dRet, ↓dRetN, ↓dDrop, ↓dSet, ↓dIf, ↓dAug, ↓dAsg, ↓dPar, ↓dVar, ↓dMove, ↓dC, ↓dFz, ↓dUp, ↓dNil, ↓dCons, ↓dTup, ↓dLst, ↓dBin, ↓dUn, ↓dChain, ↓dTest, ↓dAnd, ↓dOr, ↓dNot, ↓dAndV, ↓dOrV, ↓dNotV, ↓dIfE, ↓dgName, ↓dgNil, ↓dgCons, ↓dgTup, ↓dIt, ↓dRng1, ↓dRng2, ↓dZip, ↓dEnum, ↓u_for, ↓u_lc, ↓dYes, ↓u_call, ↓u_callF, ↓u_callIo, ↓dCB, ↓dCBF, ↓dBinS, ↓dLenS, ↓dSl, ↓dSlS, ↓dNo, ↓dPt, ↓dStL, ↓dApp, ↓dExt, ↓dJoin, ↓dRg1, ↓dRg2, ↓dTupRg, ↓dLstRg, ↓oSub, ↓oMulI, ↓oMul, ↓oFdiv, ↓oMod, ↓oPow, ↓oShr, ↓oXor, ↓oNeg, ↓oAdd, ↓oAug, ↓oLt, ↓oLe, ↓oGt, ↓oGe, ↓oI, ↓oIx, ↓oLen, ↓oInt, ↓oOrd, ↓oAbs, ↓oStL, ↓oIn, ↓oNin, ↓oInB, ↓isi_int, ↓isi_int_bl, ↓isi_int_str, ↓isi_int_tup, ↓isi_int_lst, ↓isi_str, ↓isi_str_int, ↓isi_tup, ↓isi_tup_int, ↓isi_tup_str, ↓isi_tup_lst, ↓isi_lst, ↓isi_lst_tup, ↓isi_lst_int, ↓isi_lst_str, ↓cv, ↓Cell.val, ↓Cell.up, ↓Cell.own, ↓lenD, ↓itemsOf, List.getElem?_cons_zero, List.getElem?_cons_succ, List.set_cons_zero, List.set_cons_succ, Option.bind_some, Option.isSome_some, List.length_cons, List.length_nil, true_and, and_true, ↓ixN_lit, ↓atI_lit, ↓reduceIte, Nat.reduceAdd, Nat.reduceLT, Nat.reduceSub, Nat.zero_add, Nat.reduceLeDiff, Nat.lt_add_one, Nat.zero_lt_succ, ↓oEq_int, ↓oNe_int, ↓oEq_str, ↓oNe_str, ↓oEq_bl, ↓oNe_bl, decide_eq_true_eq, Bool.false_eq_true, ↓u_while, ↓ownAt, List.all_cons, List.all_nil, Bool.and_true, List.getD_cons_zero, List.getD_cons_succ, Bool.not_false, ↓oLe_sign, ↓oMulS, ↓dDic, ↓dLock, ↓dGetS, ↓dStD, ↓dInS, ↓oInD, ↓dKeys, ↓dGet1, ↓dGet2, ↓dRev, ↓dMulL, ↓dCount, ↓dScrSl, ↓dScrLen, ↓dScrList, ↓oStrI]
  refine ⟨rfl, onF (d, 3, 3) rfl hk1 ?_⟩
  simp only [↓dSeq, ↓dNext, ↓dBreak, ↓dCont, ↓dNever, ↓dRet, ↓dRetN, ↓dDrop, ↓dSet, ↓dIf, ↓dAug, ↓dAsg, ↓dPar, ↓dVar, ↓dMove, ↓dC, ↓dFz, ↓dUp, ↓dNil, ↓dCons, ↓dTup, ↓dLst, ↓dBin, ↓dUn, ↓dChain, ↓dTest, ↓dAnd, ↓dOr, ↓dNot, ↓dAndV, ↓dOrV, ↓dNotV, ↓dIfE, ↓dgName, ↓dgNil, ↓dgCons, ↓dgTup, ↓dIt, ↓dRng1, ↓dRng2, ↓dZip, ↓dEnum, ↓u_for, ↓u_lc, ↓dYes, ↓u_call, ↓u_callF, ↓u_callIo, ↓dCB, ↓dCBF, ↓dBinS, ↓dLenS, ↓dSl, ↓dSlS, ↓dNo, ↓dPt, ↓dStL, ↓dApp, ↓dExt, ↓dJoin, ↓dRg1, ↓dRg2, ↓dTupRg, ↓dLstRg, ↓oSub, ↓oMulI, ↓oMul, ↓oFdiv, ↓oMod, ↓oPow, ↓oShr, ↓oXor, ↓oNeg, ↓oAdd, ↓oAug, ↓oLt, ↓oLe, ↓oGt, ↓oGe, ↓oI, ↓oIx, ↓oLen, ↓oInt, ↓oOrd, ↓oAbs, ↓oStL, ↓oIn, ↓oNin, ↓oInB, ↓isi_int, ↓isi_int_bl, ↓isi_int_str, ↓isi_int_tup, ↓isi_int_lst, ↓isi_str, ↓isi_str_int, ↓isi_tup, ↓isi_tup_int, ↓isi_tup_str, ↓isi_tup_lst, ↓isi_lst, ↓isi_lst_tup, ↓isi_lst_int, ↓isi_lst_str, ↓cv, ↓Cell.val, ↓Cell.up, ↓Cell.own, ↓lenD, ↓itemsOf, List.getElem?_cons_zero, List.getElem?_cons_succ, List.set_cons_zero, List.set_cons_succ, Option.bind_some, Option.isSome_some, List.length_cons, List.length_nil, true_and, and_true, ↓ixN_lit, ↓atI_lit, ↓reduceIte, Nat.reduceAdd, Nat.reduceLT, Nat.reduceSub, Nat.zero_add, Nat.reduceLeDiff, Nat.lt_add_one, Nat.zero_lt_succ, ↓oEq_int, ↓oNe_int, ↓oEq_str, ↓oNe_str, ↓oEq_bl, ↓oNe_bl, decide_eq_true_eq, Bool.false_eq_true, ↓u_while, ↓ownAt, List.all_cons, List.all_nil, Bool.and_true, List.getD_cons_zero, List.getD_cons_succ, Bool.not_false, ↓oLe_sign, ↓oMulS, ↓dDic, ↓dLock, ↓dGetS, ↓dStD, ↓dInS, ↓oInD, ↓dKeys, ↓dGet1, ↓dGet2, ↓dRev, ↓dMulL, ↓dCount, ↓dScrSl, ↓dScrLen, ↓dScrList, ↓oStrI]
  by_cases h3 : szD d 3 3 = true
  · rw [if_neg (by rw [h3]; decide)]
    obtain ⟨x, y, z, rfl⟩ : ∃ x y z, d = .tup [x, y, z] := by
      cases d <;> first | (cases h3; done) | skip
      rename_i l
      unfold szD at h3
      rw [decide_eq_true_eq] at h3
      have : l.length = 3 := by omega
      match l, this with
      | [x, y, z], _ => exact ⟨x, y, z, rfl⟩
    have kx := hk2 _ rfl x (by simp)
    have ky := hk2 _ rfl y (by simp)
    have kz := hk2 _ rfl z (by simp)
    simp only [↓dSeq, ↓dNext, ↓dBreak, ↓dCont, ↓dNever, ↓dRet, ↓dRetN, ↓dDrop, ↓dSet, ↓dIf, ↓dAug, ↓dAsg, ↓dPar, ↓dVar, ↓dMove, ↓dC, ↓dFz, ↓dUp, ↓dNil, ↓dCons, ↓dTup, ↓dLst, ↓dBin, ↓dUn, ↓dChain, ↓dTest, ↓dAnd, ↓dOr, ↓dNot, ↓dAndV, ↓dOrV, ↓dNotV, ↓dIfE, ↓dgName, ↓dgNil, ↓dgCons, ↓dgTup, ↓dIt, ↓dRng1, ↓dRng2, ↓dZip, ↓dEnum, ↓u_for, ↓u_lc, ↓dYes, ↓u_call, ↓u_callF, ↓u_callIo, ↓dCB, ↓dCBF, ↓dBinS, ↓dLenS, ↓dSl, ↓dSlS, ↓dNo, ↓dPt, ↓dStL, ↓dApp, ↓dExt, ↓dJoin, ↓dRg1, ↓dRg2, ↓dTupRg, ↓dLstRg, ↓oSub, ↓oMulI, ↓oMul, ↓oFdiv, ↓oMod, ↓oPow, ↓oShr, ↓oXor, ↓oNeg, ↓oAdd, ↓oAug, ↓oLt, ↓oLe, ↓oGt, ↓oGe, ↓oI, ↓oIx, ↓oLen, ↓oInt, ↓oOrd, ↓oAbs, ↓oStL, ↓oIn, ↓oNin, ↓oInB, ↓isi_int, ↓isi_int_bl, ↓isi_int_str, ↓isi_int_tup, ↓isi_int_lst, ↓isi_str, ↓isi_str_int, ↓isi_tup, ↓isi_tup_int, ↓isi_tup_str, ↓isi_tup_lst, ↓isi_lst, ↓isi_lst_tup, ↓isi_lst_int, ↓isi_lst_str, ↓cv, ↓Cell.val, ↓Cell.up, ↓Cell.own, ↓lenD, ↓itemsOf, List.getElem?_cons_zero, List.getElem?_cons_succ, List.set_cons_zero, List.set_cons_succ, Option.bind_some, Option.isSome_some, List.length_cons, List.length_nil, true_and, and_true, ↓ixN_lit, ↓atI_lit, ↓reduceIte, Nat.reduceAdd, Nat.reduceLT, Nat.reduceSub, Nat.zero_add, Nat.reduceLeDiff, Nat.lt_add_one, Nat.zero_lt_succ, ↓oEq_int, ↓oNe_int, ↓oEq_str, ↓oNe_str, ↓oEq_bl, ↓oNe_bl, decide_eq_true_eq, Bool.false_eq_true, ↓u_while, ↓ownAt, List.all_cons, List.all_nil, Bool.and_true, List.getD_cons_zero, List.getD_cons_succ, Bool.not_false, ↓oLe_sign, ↓oMulS, ↓dDic, ↓dLock, ↓dGetS, ↓dStD, ↓dInS, ↓oInD, ↓dKeys, ↓dGet1, ↓dGet2, ↓dRev, ↓dMulL, ↓dCount, ↓dScrSl, ↓dScrLen, ↓dScrList, ↓oStrI]
    refine ⟨rfl, onF (x, (t.length : Int)) rfl kx ?_⟩
    simp only [↓dSeq, ↓dNext, ↓dBreak, ↓dCont, ↓dNever, ↓dRet, ↓dRetN, ↓dDrop, ↓dSet, ↓dIf, ↓dAug, ↓dAsg, ↓dPar, ↓dVar, ↓dMove, ↓dC, ↓dFz, ↓dUp, ↓dNil, ↓dCons, ↓dTup, ↓dLst, ↓dBin, ↓dUn, ↓dChain, ↓dTest, ↓dAnd, ↓dOr, ↓dNot, ↓dAndV, ↓dOrV, ↓dNotV, ↓dIfE, ↓dgName, ↓dgNil, ↓dgCons, ↓dgTup, ↓dIt, ↓dRng1, ↓dRng2, ↓dZip, ↓dEnum, ↓u_for, ↓u_lc, ↓dYes, ↓u_call, ↓u_callF, ↓u_callIo, ↓dCB, ↓dCBF, ↓dBinS, ↓dLenS, ↓dSl, ↓dSlS, ↓dNo, ↓dPt, ↓dStL, ↓dApp, ↓dExt, ↓dJoin, ↓dRg1, ↓dRg2, ↓dTupRg, ↓dLstRg, ↓oSub, ↓oMulI, ↓oMul, ↓oFdiv, ↓oMod, ↓oPow, ↓oShr, ↓oXor, ↓oNeg, ↓oAdd, ↓oAug, ↓oLt, ↓oLe, ↓oGt, ↓oGe, ↓oI, ↓oIx, ↓oLen, ↓oInt, ↓oOrd, ↓oAbs, ↓oStL, ↓oIn, ↓oNin, ↓oInB, ↓isi_int, ↓isi_int_bl, ↓isi_int_str, ↓isi_int_tup, ↓isi_int_lst, ↓isi_str, ↓isi_str_int, ↓isi_tup, ↓isi_tup_int, ↓isi_tup_str, ↓isi_tup_lst, ↓isi_lst, ↓isi_lst_tup, ↓isi_lst_int, ↓isi_lst_str, ↓cv, ↓Cell.val, ↓Cell.up, ↓Cell.own, ↓lenD, ↓itemsOf, List.getElem?_cons_zero, List.getElem?_cons_succ, List.set_cons_zero, List.set_cons_succ, Option.bind_some, Option.isSome_some, List.length_cons, List.length_nil, true_and, and_true, ↓ixN_lit, ↓atI_lit, ↓reduceIte, Nat.reduceAdd, Nat.reduceLT, Nat.reduceSub, Nat.zero_add, Nat.reduceLeDiff, Nat.lt_add_one, Nat.zero_lt_succ, ↓oEq_int, ↓oNe_int, ↓oEq_str, ↓oNe_str, ↓oEq_bl, ↓oNe_bl, decide_eq_true_eq, Bool.false_eq_true, ↓u_while, ↓ownAt, List.all_cons, List.all_nil, Bool.and_true, List.getD_cons_zero, List.getD_cons_succ, Bool.not_false, ↓oLe_sign, ↓oMulS, ↓dDic, ↓dLock, ↓dGetS, ↓dStD, ↓dInS, ↓oInD, ↓dKeys, ↓dGet1, ↓dGet2, ↓dRev, ↓dMulL, ↓dCount, ↓dScrSl, ↓dScrLen, ↓dScrList, ↓oStrI]
    by_cases h4 : inWD x 0 ((t.length : Int) - 1) = true
    · rw [if_neg (by rw [h4]; decide)]
      cases kx <;> first | (cases h4; done) | skip
      rename_i x
      unfold inWD at h4
      simp only [decide_eq_true_eq] at h4
      subst hk
      refine seq_gen fun k hk => ?_
      simp only [↓dSeq, ↓dNext, ↓dBreak, ↓dCont, ↓dNever, ↓dRet, ↓dRetN, ↓dDrop, ↓dSet, ↓dIf, ↓dAug, ↓dAsg, ↓dPar, ↓dVar, ↓dMove, ↓dC, ↓dFz, ↓dUp, ↓dNil, ↓dCons, ↓dTup, ↓dLst, ↓dBin, ↓dUn, ↓dChain, ↓dTest, ↓dAnd, ↓dOr, ↓dNot, ↓dAndV, ↓dOrV, ↓dNotV, ↓dIfE, ↓dgName, ↓dgNil, ↓dgCons, ↓dgTup, ↓dIt, ↓dRng1, ↓dRng2, ↓dZip, ↓dEnum, ↓u_for, ↓u_lc, ↓dYes, ↓u_call, ↓u_callF, ↓u_callIo, ↓dCB, ↓dCBF, ↓dBinS, ↓dLenS, ↓dSl, ↓dSlS, ↓dNo, ↓dPt, ↓dStL, ↓dApp, ↓dExt, ↓dJoin, ↓dRg1, ↓dRg2, ↓dTupRg, ↓dLstRg, ↓oSub, ↓oMulI, ↓oMul, ↓oFdiv, ↓oMod, ↓oPow, ↓oShr, ↓oXor, ↓oNeg, ↓oAdd, ↓oAug, ↓oLt, ↓oLe, ↓oGt, ↓oGe, ↓oI, ↓oIx, ↓oLen, ↓oInt, ↓oOrd, ↓oAbs, ↓oStL, ↓oIn, ↓oNin, ↓oInB, ↓isi_int, ↓isi_int_bl, ↓isi_int_str, ↓isi_int_tup, ↓isi_int_lst, ↓isi_str, ↓isi_str_int, ↓isi_tup, ↓isi_tup_int, ↓isi_tup_str, ↓isi_tup_lst, ↓isi_lst, ↓isi_lst_tup, ↓isi_lst_int, ↓isi_lst_str, ↓cv, ↓Cell.val, ↓Cell.up, ↓Cell.own, ↓lenD, ↓itemsOf, List.getElem?_cons_zero, List.getElem?_cons_succ, List.set_cons_zero, List.set_cons_succ, Option.bind_some, Option.isSome_some, List.length_cons, List.length_nil, true_and, and_true, ↓ixN_lit, ↓atI_lit, ↓reduceIte, Nat.reduceAdd, Nat.reduceLT, Nat.reduceSub, Nat.zero_add, Nat.reduceLeDiff, Nat.lt_add_one, Nat.zero_lt_succ, ↓oEq_int, ↓oNe_int, ↓oEq_str, ↓oNe_str, ↓oEq_bl, ↓oNe_bl, decide_eq_true_eq, Bool.false_eq_true, ↓u_while, ↓ownAt, List.all_cons, List.all_nil, Bool.and_true, List.getD_cons_zero, List.getD_cons_succ, Bool.not_false, ↓oLe_sign, ↓oMulS, ↓dDic, ↓dLock, ↓dGetS, ↓dStD, ↓dInS, ↓oInD, ↓dKeys, ↓dGet1, ↓dGet2, ↓dRev, ↓dMulL, ↓dCount, ↓dScrSl, ↓dScrLen, ↓dScrList, ↓oStrI]
      refine ⟨rfl, onF (y, x + 1, (t.length : Int)) rfl ky ?_⟩
      simp only [↓dSeq, ↓dNext, ↓dBreak, ↓dCont, ↓dNever, ↓dRet, ↓dRetN, ↓dDrop, ↓dSet, ↓dIf, ↓dAug, ↓dAsg, ↓dPar, ↓dVar, ↓dMove, ↓dC, ↓dFz, ↓dUp, ↓dNil, ↓dCons, ↓dTup, ↓dLst, ↓dBin, ↓dUn, ↓dChain, ↓dTest, ↓dAnd, ↓dOr, ↓dNot, ↓dAndV, ↓dOrV, ↓dNotV, ↓dIfE, ↓dgName, ↓dgNil, ↓dgCons, ↓dgTup, ↓dIt, ↓dRng1, ↓dRng2, ↓dZip, ↓dEnum, ↓u_for, ↓u_lc, ↓dYes, ↓u_call, ↓u_callF, ↓u_callIo, ↓dCB, ↓dCBF, ↓dBinS, ↓dLenS, ↓dSl, ↓dSlS, ↓dNo, ↓dPt, ↓dStL, ↓dApp, ↓dExt, ↓dJoin, ↓dRg1, ↓dRg2, ↓dTupRg, ↓dLstRg, ↓oSub, ↓oMulI, ↓oMul, ↓oFdiv, ↓oMod, ↓oPow, ↓oShr, ↓oXor, ↓oNeg, ↓oAdd, ↓oAug, ↓oLt, ↓oLe, ↓oGt, ↓oGe, ↓oI, ↓oIx, ↓oLen, ↓oInt, ↓oOrd, ↓oAbs, ↓oStL, ↓oIn, ↓oNin, ↓oInB, ↓isi_int, ↓isi_int_bl, ↓isi_int_str, ↓isi_int_tup, ↓isi_int_lst, ↓isi_str, ↓isi_str_int, ↓isi_tup, ↓isi_tup_int, ↓isi_tup_str, ↓isi_tup_lst, ↓isi_lst, ↓isi_lst_tup, ↓isi_lst_int, ↓isi_lst_str, ↓cv, ↓Cell.val, ↓Cell.up, ↓Cell.own, ↓lenD, ↓itemsOf, List.getElem?_cons_zero, List.getElem?_cons_succ, List.set_cons_zero, List.set_cons_succ, Option.bind_some, Option.isSome_some, List.length_cons, List.length_nil, true_and, and_true, ↓ixN_lit, ↓atI_lit, ↓reduceIte, Nat.reduceAdd, Nat.reduceLT, Nat.reduceSub, Nat.zero_add, Nat.reduceLeDiff, Nat.lt_add_one, Nat.zero_lt_succ, ↓oEq_int, ↓oNe_int, ↓oEq_str, ↓oNe_str, ↓oEq_bl, ↓oNe_bl, decide_eq_true_eq, Bool.false_eq_true, ↓u_while, ↓ownAt, List.all_cons, List.all_nil, Bool.and_true, List.getD_cons_zero, List.getD_cons_succ, Bool.not_false, ↓oLe_sign, ↓oMulS, ↓dDic, ↓dLock, ↓dGetS, ↓dStD, ↓dInS, ↓oInD, ↓dKeys, ↓dGet1, ↓dGet2, ↓dRev, ↓dMulL, ↓dCount, ↓dScrSl, ↓dScrLen, ↓dScrList, ↓oStrI]
      by_cases h5 : inWD y (x + 1) (t.length : Int) = true
      · rw [if_neg (by rw [h5]; decide)]
        cases ky <;> first | (cases h5; done) | skip
        rename_i y
        unfold inWD at h5
        simp only [decide_eq_true_eq] at h5
        subst hk
        refine seq_gen fun k hk => ?_
        simp only [↓dSeq, ↓dNext, ↓dBreak, ↓dCont, ↓dNever, ↓dRet, ↓dRetN, ↓dDrop, ↓dSet, ↓dIf, ↓dAug, ↓dAsg, ↓dPar, ↓dVar, ↓dMove, ↓dC, ↓dFz, ↓dUp, ↓dNil, ↓dCons, ↓dTup, ↓dLst, ↓dBin, ↓dUn, ↓dChain, ↓dTest, ↓dAnd, ↓dOr, ↓dNot, ↓dAndV, ↓dOrV, ↓dNotV, ↓dIfE, ↓dgName, ↓dgNil, ↓dgCons, ↓dgTup, ↓dIt, ↓dRng1, ↓dRng2, ↓dZip, ↓dEnum, ↓u_for, ↓u_lc, ↓dYes, ↓u_call, ↓u_callF, ↓u_callIo, ↓dCB, ↓dCBF, ↓dBinS, ↓dLenS, ↓dSl, ↓dSlS, ↓dNo, ↓dPt, ↓dStL, ↓dApp, ↓dExt, ↓dJoin, ↓dRg1, ↓dRg2, ↓dTupRg, ↓dLstRg, ↓oSub, ↓oMulI, ↓oMul, ↓oFdiv, ↓oMod, ↓oPow, ↓oShr, ↓oXor, ↓oNeg, ↓oAdd, ↓oAug, ↓oLt, ↓oLe, ↓oGt, ↓oGe, ↓oI, ↓oIx, ↓oLen, ↓oInt, ↓oOrd, ↓oAbs, ↓oStL, ↓oIn, ↓oNin, ↓oInB, ↓isi_int, ↓isi_int_bl, ↓isi_int_str, ↓isi_int_tup, ↓isi_int_lst, ↓isi_str, ↓isi_str_int, ↓isi_tup, ↓isi_tup_int, ↓isi_tup_str, ↓isi_tup_lst, ↓isi_lst, ↓isi_lst_tup, ↓isi_lst_int, ↓isi_lst_str, ↓cv, ↓Cell.val, ↓Cell.up, ↓Cell.own, ↓lenD, ↓itemsOf, List.getElem?_cons_zero, List.getElem?_cons_succ, List.set_cons_zero, List.set_cons_succ, Option.bind_some, Option.isSome_some, List.length_cons, List.length_nil, true_and, and_true, ↓ixN_lit, ↓atI_lit, ↓reduceIte, Nat.reduceAdd, Nat.reduceLT, Nat.reduceSub, Nat.zero_add, Nat.reduceLeDiff, Nat.lt_add_one, Nat.zero_lt_succ, ↓oEq_int, ↓oNe_int, ↓oEq_str, ↓oNe_str, ↓oEq_bl, ↓oNe_bl, decide_eq_true_eq, Bool.false_eq_true, ↓u_while, ↓ownAt, List.all_cons, List.all_nil, Bool.and_true, List.getD_cons_zero, List.getD_cons_succ, Bool.not_false, ↓oLe_sign, ↓oMulS, ↓dDic, ↓dLock, ↓dGetS, ↓dStD, ↓dInS, ↓oInD, ↓dKeys, ↓dGet1, ↓dGet2, ↓dRev, ↓dMulL, ↓dCount, ↓dScrSl, ↓dScrLen, ↓dScrList, ↓oStrI]
        subst hk
        refine seq_gen fun k hk => ?_
        simp only [↓dSeq, ↓dNext, ↓dBreak, ↓dCont, ↓dNever, ↓dRet, ↓dRetN, ↓dDrop, ↓dSet, ↓dIf, ↓dAug, ↓dAsg, ↓dPar, ↓dVar, ↓dMove, ↓dC, ↓dFz, ↓dUp, ↓dNil, ↓dCons, ↓dTup, ↓dLst, ↓dBin, ↓dUn, ↓dChain, ↓dTest, ↓dAnd, ↓dOr, ↓dNot, ↓dAndV, ↓dOrV, ↓dNotV, ↓dIfE, ↓dgName, ↓dgNil, ↓dgCons, ↓dgTup, ↓dIt, ↓dRng1, ↓dRng2, ↓dZip, ↓dEnum, ↓u_for, ↓u_lc, ↓dYes, ↓u_call, ↓u_callF, ↓u_callIo, ↓dCB, ↓dCBF, ↓dBinS, ↓dLenS, ↓dSl, ↓dSlS, ↓dNo, ↓dPt, ↓dStL, ↓dApp, ↓dExt, ↓dJoin, ↓dRg1, ↓dRg2, ↓dTupRg, ↓dLstRg, ↓oSub, ↓oMulI, ↓oMul, ↓oFdiv, ↓oMod, ↓oPow, ↓oShr, ↓oXor, ↓oNeg, ↓oAdd, ↓oAug, ↓oLt, ↓oLe, ↓oGt, ↓oGe, ↓oI, ↓oIx, ↓oLen, ↓oInt, ↓oOrd, ↓oAbs, ↓oStL, ↓oIn, ↓oNin, ↓oInB, ↓isi_int, ↓isi_int_bl, ↓isi_int_str, ↓isi_int_tup, ↓isi_int_lst, ↓isi_str, ↓isi_str_int, ↓isi_tup, ↓isi_tup_int, ↓isi_tup_str, ↓isi_tup_lst, ↓isi_lst, ↓isi_lst_tup, ↓isi_lst_int, ↓isi_lst_str, ↓cv, ↓Cell.val, ↓Cell.up, ↓Cell.own, ↓lenD, ↓itemsOf, List.getElem?_cons_zero, List.getElem?_cons_succ, List.set_cons_zero, List.set_cons_succ, Option.bind_some, Option.isSome_some, List.length_cons, List.length_nil, true_and, and_true, ↓ixN_lit, ↓atI_lit, ↓reduceIte, Nat.reduceAdd, Nat.reduceLT, Nat.reduceSub, Nat.zero_add, Nat.reduceLeDiff, Nat.lt_add_one, Nat.zero_lt_succ, ↓oEq_int, ↓oNe_int, ↓oEq_str, ↓oNe_str, ↓oEq_bl, ↓oNe_bl, decide_eq_true_eq, Bool.false_eq_true, ↓u_while, ↓ownAt, List.all_cons, List.all_nil, Bool.and_true, List.getD_cons_zero, List.getD_cons_succ, Bool.not_false, ↓oLe_sign, ↓oMulS, ↓dDic, ↓dLock, ↓dGetS, ↓dStD, ↓dInS, ↓oInD, ↓dKeys, ↓dGet1, ↓dGet2, ↓dRev, ↓dMulL, ↓dCount, ↓dScrSl, ↓dScrLen, ↓dScrList, ↓oStrI]
        refine ⟨cdiv_lit (by decide) (by decide), rfl, onF (z, 1, (y - x) / 2) rfl kz ?_⟩
        simp only [↓dSeq, ↓dNext, ↓dBreak, ↓dCont, ↓dNever, ↓dRet, ↓dRetN, ↓dDrop, ↓dSet, ↓dIf, ↓dAug, ↓dAsg, ↓dPar, ↓dVar, ↓dMove, ↓dC, ↓dFz, ↓dUp, ↓dNil, ↓dCons, ↓dTup, ↓dLst, ↓dBin, ↓dUn, ↓dChain, ↓dTest, ↓dAnd, ↓dOr, ↓dNot, ↓dAndV, ↓dOrV, ↓dNotV, ↓dIfE, ↓dgName, ↓dgNil, ↓dgCons, ↓dgTup, ↓dIt, ↓dRng1, ↓dRng2, ↓dZip, ↓dEnum, ↓u_for, ↓u_lc, ↓dYes, ↓u_call, ↓u_callF, ↓u_callIo, ↓dCB, ↓dCBF, ↓dBinS, ↓dLenS, ↓dSl, ↓dSlS, ↓dNo, ↓dPt, ↓dStL, ↓dApp, ↓dExt, ↓dJoin, ↓dRg1, ↓dRg2, ↓dTupRg, ↓dLstRg, ↓oSub, ↓oMulI, ↓oMul, ↓oFdiv, ↓oMod, ↓oPow, ↓oShr, ↓oXor, ↓oNeg, ↓oAdd, ↓oAug, ↓oLt, ↓oLe, ↓oGt, ↓oGe, ↓oI, ↓oIx, ↓oLen, ↓oInt, ↓oOrd, ↓oAbs, ↓oStL, ↓oIn, ↓oNin, ↓oInB, ↓isi_int, ↓isi_int_bl, ↓isi_int_str, ↓isi_int_tup, ↓isi_int_lst, ↓isi_str, ↓isi_str_int, ↓isi_tup, ↓isi_tup_int, ↓isi_tup_str, ↓isi_tup_lst, ↓isi_lst, ↓isi_lst_tup, ↓isi_lst_int, ↓isi_lst_str, ↓cv, ↓Cell.val, ↓Cell.up, ↓Cell.own, ↓lenD, ↓itemsOf, List.getElem?_cons_zero, List.getElem?_cons_succ, List.set_cons_zero, List.set_cons_succ, Option.bind_some, Option.isSome_some, List.length_cons, List.length_nil, true_and, and_true, ↓ixN_lit, ↓atI_lit, ↓reduceIte, Nat.reduceAdd, Nat.reduceLT, Nat.reduceSub, Nat.zero_add, Nat.reduceLeDiff, Nat.lt_add_one, Nat.zero_lt_succ, ↓oEq_int, ↓oNe_int, ↓oEq_str, ↓oNe_str, ↓oEq_bl, ↓oNe_bl, decide_eq_true_eq, Bool.false_eq_true, ↓u_while, ↓ownAt, List.all_cons, List.all_nil, Bool.and_true, List.getD_cons_zero, List.getD_cons_succ, Bool.not_false, ↓oLe_sign, ↓oMulS, ↓dDic, ↓dLock, ↓dGetS, ↓dStD, ↓dInS, ↓oInD, ↓dKeys, ↓dGet1, ↓dGet2, ↓dRev, ↓dMulL, ↓dCount, ↓dScrSl, ↓dScrLen, ↓dScrList, ↓oStrI]
        by_cases h6 : inWD z 1 ((y - x) / 2) = true
        · rw [if_neg (by rw [h6]; decide)]
          cases kz <;> first | (cases h6; done) | skip
          rename_i p
          unfold inWD at h6
          simp only [decide_eq_true_eq] at h6
          obtain ⟨b, rfl⟩ : ∃ b : Nat, x = (b : Int) := ⟨x.toNat, by omega⟩
          obtain ⟨e, rfl⟩ : ∃ e : Nat, y = (e : Int) := ⟨y.toNat, by omega⟩
          obtain ⟨q, rfl⟩ : ∃ q : Nat, p = (q : Int) := ⟨p.toNat, by omega⟩
          have he : e ≤ t.length := by omega
          have c1 : cutG t (some (b : Int)) (some (e : Int)) = cut t b e := cutG_nat t b e
          have hl := cut_length (b := b) he
          have ri := run_iff2 (t := t) (b := b) he (show b + 2 * q ≤ e by omega) (show 1 ≤ q by omega)
          have no2 : ∀ a b' c, ¬ IsRun t b e q → (endsOf S_is_run Kd).rt (.fz (.bl false)) [.fz (.str t), .fz (.tup [.int (b : Nat), .int (e : Nat), .int (q : Nat)]), a, b', c] := by
            intro a b' c h
            refine no a b' c fun x y z ed _ _ _ r => h ?_
            cases ed
            exact r
          have yes : ∀ v a b' c, v = decide (IsRun t b e q) → (endsOf S_is_run Kd).rt (.fz (.bl v)) [.fz (.str t), .fz (.tup [.int (b : Nat), .int (e : Nat), .int (q : Nat)]), a, b', c] := by
            rintro v a b' c rfl
            refine ⟨rfl, post _ _ ⟨?_, rfl⟩⟩
            rw [isRunD_is]
            congr 1
            refine decide_eq_decide.mpr ⟨fun r => ⟨by omega, by omega, by omega, r⟩, fun r => r.2.2.2⟩
          simp only [↓dSeq, ↓dNext, ↓dBreak, ↓dCont, ↓dNever, ↓dRet, ↓dRetN, ↓dDrop, ↓dSet, ↓dIf, ↓dAug, ↓dAsg, ↓dPar, ↓dVar, ↓dMove, ↓dC, ↓dFz, ↓dUp, ↓dNil, ↓dCons, ↓dTup, ↓dLst, ↓dBin, ↓dUn, ↓dChain, ↓dTest, ↓dAnd, ↓dOr, ↓dNot, ↓dAndV, ↓dOrV, ↓dNotV, ↓dIfE, ↓dgName, ↓dgNil, ↓dgCons, ↓dgTup, ↓dIt, ↓dRng1, ↓dRng2, ↓dZip, ↓dEnum, ↓u_for, ↓u_lc, ↓dYes, ↓u_call, ↓u_callF, ↓u_callIo, ↓dCB, ↓dCBF, ↓dBinS, ↓dLenS, ↓dSl, ↓dSlS, ↓dNo, ↓dPt, ↓dStL, ↓dApp, ↓dExt, ↓dJoin, ↓dRg1, ↓dRg2, ↓dTupRg, ↓dLstRg, ↓oSub, ↓oMulI, ↓oMul, ↓oFdiv, ↓oMod, ↓oPow, ↓oShr, ↓oXor, ↓oNeg, ↓oAdd, ↓oAug, ↓oLt, ↓oLe, ↓oGt, ↓oGe, ↓oI, ↓oIx, ↓oLen, ↓oInt, ↓oOrd, ↓oAbs, ↓oStL, ↓oIn, ↓oNin, ↓oInB, ↓isi_int, ↓isi_int_bl, ↓isi_int_str, ↓isi_int_tup, ↓isi_int_lst, ↓isi_str, ↓isi_str_int, ↓isi_tup, ↓isi_tup_int, ↓isi_tup_str, ↓isi_tup_lst, ↓isi_lst, ↓isi_lst_tup, ↓isi_lst_int, ↓isi_lst_str, ↓cv, ↓Cell.val, ↓Cell.up, ↓Cell.own, ↓lenD, ↓itemsOf, List.getElem?_cons_zero, List.getElem?_cons_succ, List.set_cons_zero, List.set_cons_succ, Option.bind_some, Option.isSome_some, List.length_cons, List.length_nil, true_and, and_true, ↓ixN_lit, ↓atI_lit, ↓reduceIte, Nat.reduceAdd, Nat.reduceLT, Nat.reduceSub, Nat.zero_add, Nat.reduceLeDiff, Nat.lt_add_one, Nat.zero_lt_succ, ↓oEq_int, ↓oNe_int, ↓oEq_str, ↓oNe_str, ↓oEq_bl, ↓oNe_bl, decide_eq_true_eq, Bool.false_eq_true, ↓u_while, ↓ownAt, List.all_cons, List.all_nil, Bool.and_true, List.getD_cons_zero, List.getD_cons_succ, Bool.not_false, ↓oLe_sign, ↓oMulS, ↓dDic, ↓dLock, ↓dGetS, ↓dStD, ↓dInS, ↓oInD, ↓dKeys, ↓dGet1, ↓dGet2, ↓dRev, ↓dMulL, ↓dCount, ↓dScrSl, ↓dScrLen, ↓dScrList, ↓oStrI, oSl]
          rw [c1]
          refine ⟨rfl, onF (cut t b e) rfl ⟨by omega, by omega⟩ ?_⟩
          simp only [↓dSeq, ↓dNext, ↓dBreak, ↓dCont, ↓dNever, ↓dRet, ↓dRetN, ↓dDrop, ↓dSet, ↓dIf, ↓dAug, ↓dAsg, ↓dPar, ↓dVar, ↓dMove, ↓dC, ↓dFz, ↓dUp, ↓dNil, ↓dCons, ↓dTup, ↓dLst, ↓dBin, ↓dUn, ↓dChain, ↓dTest, ↓dAnd, ↓dOr, ↓dNot, ↓dAndV, ↓dOrV, ↓dNotV, ↓dIfE, ↓dgName, ↓dgNil, ↓dgCons, ↓dgTup, ↓dIt, ↓dRng1, ↓dRng2, ↓dZip, ↓dEnum, ↓u_for, ↓u_lc, ↓dYes, ↓u_call, ↓u_callF, ↓u_callIo, ↓dCB, ↓dCBF, ↓dBinS, ↓dLenS, ↓dSl, ↓dSlS, ↓dNo, ↓dPt, ↓dStL, ↓dApp, ↓dExt, ↓dJoin, ↓dRg1, ↓dRg2, ↓dTupRg, ↓dLstRg, ↓oSub, ↓oMulI, ↓oMul, ↓oFdiv, ↓oMod, ↓oPow, ↓oShr, ↓oXor, ↓oNeg, ↓oAdd, ↓oAug, ↓oLt, ↓oLe, ↓oGt, ↓oGe, ↓oI, ↓oIx, ↓oLen, ↓oInt, ↓oOrd, ↓oAbs, ↓oStL, ↓oIn, ↓oNin, ↓oInB, ↓isi_int, ↓isi_int_bl, ↓isi_int_str, ↓isi_int_tup, ↓isi_int_lst, ↓isi_str, ↓isi_str_int, ↓isi_tup, ↓isi_tup_int, ↓isi_tup_str, ↓isi_tup_lst, ↓isi_lst, ↓isi_lst_tup, ↓isi_lst_int, ↓isi_lst_str, ↓cv, ↓Cell.val, ↓Cell.up, ↓Cell.own, ↓lenD, ↓itemsOf, List.getElem?_cons_zero, List.getElem?_cons_succ, List.set_cons_zero, List.set_cons_succ, Option.bind_some, Option.isSome_some, List.length_cons, List.length_nil, true_and, and_true, ↓ixN_lit, ↓atI_lit, ↓reduceIte, Nat.reduceAdd, Nat.reduceLT, Nat.reduceSub, Nat.zero_add, Nat.reduceLeDiff, Nat.lt_add_one, Nat.zero_lt_succ, ↓oEq_int, ↓oNe_int, ↓oEq_str, ↓oNe_str, ↓oEq_bl, ↓oNe_bl, decide_eq_true_eq, Bool.false_eq_true, ↓u_while, ↓ownAt, List.all_cons, List.all_nil, Bool.and_true, List.getD_cons_zero, List.getD_cons_succ, Bool.not_false, ↓oLe_sign, ↓oMulS, ↓dDic, ↓dLock, ↓dGetS, ↓dStD, ↓dInS, ↓oInD, ↓dKeys, ↓dGet1, ↓dGet2, ↓dRev, ↓dMulL, ↓dCount, ↓dScrSl, ↓dScrLen, ↓dScrList, ↓oStrI]
          by_cases q2 : lp (cut t b e) = q
          · rw [if_neg (fun z => z (by rw [q2]))]
            subst hk
            refine seq_gen fun k hk => ?_
            have fin : ¬ (0 < b ∧ Per (cut t (b - 1) e) q) → k [.fz (.str t), .fz (.tup [.int (b : Nat), .int (e : Nat), .int (q : Nat)]), .fz (.int (b : Nat)), .fz (.int (e : Nat)), .fz (.int (q : Nat))] := by
              intro q3
              subst hk
              simp only [↓dSeq, ↓dNext, ↓dBreak, ↓dCont, ↓dNever, ↓dRet, ↓dRetN, ↓dDrop, ↓dSet, ↓dIf, ↓dAug, ↓dAsg, ↓dPar, ↓dVar, ↓dMove, ↓dC, ↓dFz, ↓dUp, ↓dNil, ↓dCons, ↓dTup, ↓dLst, ↓dBin, ↓dUn, ↓dChain, ↓dTest, ↓dAnd, ↓dOr, ↓dNot, ↓dAndV, ↓dOrV, ↓dNotV, ↓dIfE, ↓dgName, ↓dgNil, ↓dgCons, ↓dgTup, ↓dIt, ↓dRng1, ↓dRng2, ↓dZip, ↓dEnum, ↓u_for, ↓u_lc, ↓dYes, ↓u_call, ↓u_callF, ↓u_callIo, ↓dCB, ↓dCBF, ↓dBinS, ↓dLenS, ↓dSl, ↓dSlS, ↓dNo, ↓dPt, ↓dStL, ↓dApp, ↓dExt, ↓dJoin, ↓dRg1, ↓dRg2, ↓dTupRg, ↓dLstRg, ↓oSub, ↓oMulI, ↓oMul, ↓oFdiv, ↓oMod, ↓oPow, ↓oShr, ↓oXor, ↓oNeg, ↓oAdd, ↓oAug, ↓oLt, ↓oLe, ↓oGt, ↓oGe, ↓oI, ↓oIx, ↓oLen, ↓oInt, ↓oOrd, ↓oAbs, ↓oStL, ↓oIn, ↓oNin, ↓oInB, ↓isi_int, ↓isi_int_bl, ↓isi_int_str, ↓isi_int_tup, ↓isi_int_lst, ↓isi_str, ↓isi_str_int, ↓isi_tup, ↓isi_tup_int, ↓isi_tup_str, ↓isi_tup_lst, ↓isi_lst, ↓isi_lst_tup, ↓isi_lst_int, ↓isi_lst_str, ↓cv, ↓Cell.val, ↓Cell.up, ↓Cell.own, ↓lenD, ↓itemsOf, List.getElem?_cons_zero, List.getElem?_cons_succ, List.set_cons_zero, List.set_cons_succ, Option.bind_some, Option.isSome_some, List.length_cons, List.length_nil, true_and, and_true, ↓ixN_lit, ↓atI_lit, ↓reduceIte, Nat.reduceAdd, Nat.reduceLT, Nat.reduceSub, Nat.zero_add, Nat.reduceLeDiff, Nat.lt_add_one, Nat.zero_lt_succ, ↓oEq_int, ↓oNe_int, ↓oEq_str, ↓oNe_str, ↓oEq_bl, ↓oNe_bl, decide_eq_true_eq, Bool.false_eq_true, ↓u_while, ↓ownAt, List.all_cons, List.all_nil, Bool.and_true, List.getD_cons_zero, List.getD_cons_succ, Bool.not_false, ↓oLe_sign, ↓oMulS, ↓dDic, ↓dLock, ↓dGetS, ↓dStD, ↓dInS, ↓oInD, ↓dKeys, ↓dGet1, ↓dGet2, ↓dRev, ↓dMulL, ↓dCount, ↓dScrSl, ↓dScrLen, ↓dScrList, ↓oStrI, oSl]
              by_cases q4 : e = t.length
              · have e4 : decide ((e : Int) = (t.length : Int)) = true := decide_eq_true (by omega)
                simp only [e4, ↓dSeq, ↓dNext, ↓dBreak, ↓dCont, ↓dNever, ↓dRet, ↓dRetN, ↓dDrop, ↓dSet, ↓dIf, ↓dAug, ↓dAsg, ↓dPar, ↓dVar, ↓dMove, ↓dC, ↓dFz, ↓dUp, ↓dNil, ↓dCons, ↓dTup, ↓dLst, ↓dBin, ↓dUn, ↓dChain, ↓dTest, ↓dAnd, ↓dOr, ↓dNot, ↓dAndV, ↓dOrV, ↓dNotV, ↓dIfE, ↓dgName, ↓dgNil, ↓dgCons, ↓dgTup, ↓dIt, ↓dRng1, ↓dRng2, ↓dZip, ↓dEnum, ↓u_for, ↓u_lc, ↓dYes, ↓u_call, ↓u_callF, ↓u_callIo, ↓dCB, ↓dCBF, ↓dBinS, ↓dLenS, ↓dSl, ↓dSlS, ↓dNo, ↓dPt, ↓dStL, ↓dApp, ↓dExt, ↓dJoin, ↓dRg1, ↓dRg2, ↓dTupRg, ↓dLstRg, ↓oSub, ↓oMulI, ↓oMul, ↓oFdiv, ↓oMod, ↓oPow, ↓oShr, ↓oXor, ↓oNeg, ↓oAdd, ↓oAug, ↓oLt, ↓oLe, ↓oGt, ↓oGe, ↓oI, ↓oIx, ↓oLen, ↓oInt, ↓oOrd, ↓oAbs, ↓oStL, ↓oIn, ↓oNin, ↓oInB, ↓isi_int, ↓isi_int_bl, ↓isi_int_str, ↓isi_int_tup, ↓isi_int_lst, ↓isi_str, ↓isi_str_int, ↓isi_tup, ↓isi_tup_int, ↓isi_tup_str, ↓isi_tup_lst, ↓isi_lst, ↓isi_lst_tup, ↓isi_lst_int, ↓isi_lst_str, ↓cv, ↓Cell.val, ↓Cell.up, ↓Cell.own, ↓lenD, ↓itemsOf, List.getElem?_cons_zero, List.getElem?_cons_succ, List.set_cons_zero, List.set_cons_succ, Option.bind_some, Option.isSome_some, List.length_cons, List.length_nil, true_and, and_true, ↓ixN_lit, ↓atI_lit, ↓reduceIte, Nat.reduceAdd, Nat.reduceLT, Nat.reduceSub, Nat.zero_add, Nat.reduceLeDiff, Nat.lt_add_one, Nat.zero_lt_succ, ↓oEq_int, ↓oNe_int, ↓oEq_str, ↓oNe_str, ↓oEq_bl, ↓oNe_bl, decide_eq_true_eq, Bool.false_eq_true, ↓u_while, ↓ownAt, List.all_cons, List.all_nil, Bool.and_true, List.getD_cons_zero, List.getD_cons_succ, Bool.not_false, ↓oLe_sign, ↓oMulS, ↓dDic, ↓dLock, ↓dGetS, ↓dStD, ↓dInS, ↓oInD, ↓dKeys, ↓dGet1, ↓dGet2, ↓dRev, ↓dMulL, ↓dCount, ↓dScrSl, ↓dScrLen, ↓dScrList, ↓oStrI]
                exact yes _ _ _ _ (decide_eq_true (ri.mpr ⟨q2, q3, .inl q4⟩)).symm
              · have e4 : decide ((e : Int) = (t.length : Int)) = false := decide_eq_false (by omega)
                simp only [e4, ↓dSeq, ↓dNext, ↓dBreak, ↓dCont, ↓dNever, ↓dRet, ↓dRetN, ↓dDrop, ↓dSet, ↓dIf, ↓dAug, ↓dAsg, ↓dPar, ↓dVar, ↓dMove, ↓dC, ↓dFz, ↓dUp, ↓dNil, ↓dCons, ↓dTup, ↓dLst, ↓dBin, ↓dUn, ↓dChain, ↓dTest, ↓dAnd, ↓dOr, ↓dNot, ↓dAndV, ↓dOrV, ↓dNotV, ↓dIfE, ↓dgName, ↓dgNil, ↓dgCons, ↓dgTup, ↓dIt, ↓dRng1, ↓dRng2, ↓dZip, ↓dEnum, ↓u_for, ↓u_lc, ↓dYes, ↓u_call, ↓u_callF, ↓u_callIo, ↓dCB, ↓dCBF, ↓dBinS, ↓dLenS, ↓dSl, ↓dSlS, ↓dNo, ↓dPt, ↓dStL, ↓dApp, ↓dExt, ↓dJoin, ↓dRg1, ↓dRg2, ↓dTupRg, ↓dLstRg, ↓oSub, ↓oMulI, ↓oMul, ↓oFdiv, ↓oMod, ↓oPow, ↓oShr, ↓oXor, ↓oNeg, ↓oAdd, ↓oAug, ↓oLt, ↓oLe, ↓oGt, ↓oGe, ↓oI, ↓oIx, ↓oLen, ↓oInt, ↓oOrd, ↓oAbs, ↓oStL, ↓oIn, ↓oNin, ↓oInB, ↓isi_int, ↓isi_int_bl, ↓isi_int_str, ↓isi_int_tup, ↓isi_int_lst, ↓isi_str, ↓isi_str_int, ↓isi_tup, ↓isi_tup_int, ↓isi_tup_str, ↓isi_tup_lst, ↓isi_lst, ↓isi_lst_tup, ↓isi_lst_int, ↓isi_lst_str, ↓cv, ↓Cell.val, ↓Cell.up, ↓Cell.own, ↓lenD, ↓itemsOf, List.getElem?_cons_zero, List.getElem?_cons_succ, List.set_cons_zero, List.set_cons_succ, Option.bind_some, Option.isSome_some, List.length_cons, List.length_nil, true_and, and_true, ↓ixN_lit, ↓atI_lit, ↓reduceIte, Nat.reduceAdd, Nat.reduceLT, Nat.reduceSub, Nat.zero_add, Nat.reduceLeDiff, Nat.lt_add_one, Nat.zero_lt_succ, ↓oEq_int, ↓oNe_int, ↓oEq_str, ↓oNe_str, ↓oEq_bl, ↓oNe_bl, decide_eq_true_eq, Bool.false_eq_true, ↓u_while, ↓ownAt, List.all_cons, List.all_nil, Bool.and_true, List.getD_cons_zero, List.getD_cons_succ, Bool.not_false, ↓oLe_sign, ↓oMulS, ↓dDic, ↓dLock, ↓dGetS, ↓dStD, ↓dInS, ↓oInD, ↓dKeys, ↓dGet1, ↓dGet2, ↓dRev, ↓dMulL, ↓dCount, ↓dScrSl, ↓dScrLen, ↓dScrList, ↓oStrI]
                have c4 : cutG t (some (b : Int)) (some ((e : Int) + 1)) = cut t b (e + 1) := by
                  rw [show ((e : Int) + 1) = ((e + 1 : Nat) : Int) by omega]
                  exact cutG_nat t b (e + 1)
                rw [c4]
                refine ⟨rfl, onF (cut t b (e + 1), q) rfl (by show q ≤ (cut t b (e + 1)).length; rw [cut_length (by omega)]; omega) ?_⟩
                simp only [↓dSeq, ↓dNext, ↓dBreak, ↓dCont, ↓dNever, ↓dRet, ↓dRetN, ↓dDrop, ↓dSet, ↓dIf, ↓dAug, ↓dAsg, ↓dPar, ↓dVar, ↓dMove, ↓dC, ↓dFz, ↓dUp, ↓dNil, ↓dCons, ↓dTup, ↓dLst, ↓dBin, ↓dUn, ↓dChain, ↓dTest, ↓dAnd, ↓dOr, ↓dNot, ↓dAndV, ↓dOrV, ↓dNotV, ↓dIfE, ↓dgName, ↓dgNil, ↓dgCons, ↓dgTup, ↓dIt, ↓dRng1, ↓dRng2, ↓dZip, ↓dEnum, ↓u_for, ↓u_lc, ↓dYes, ↓u_call, ↓u_callF, ↓u_callIo, ↓dCB, ↓dCBF, ↓dBinS, ↓dLenS, ↓dSl, ↓dSlS, ↓dNo, ↓dPt, ↓dStL, ↓dApp, ↓dExt, ↓dJoin, ↓dRg1, ↓dRg2, ↓dTupRg, ↓dLstRg, ↓oSub, ↓oMulI, ↓oMul, ↓oFdiv, ↓oMod, ↓oPow, ↓oShr, ↓oXor, ↓oNeg, ↓oAdd, ↓oAug, ↓oLt, ↓oLe, ↓oGt, ↓oGe, ↓oI, ↓oIx, ↓oLen, ↓oInt, ↓oOrd, ↓oAbs, ↓oStL, ↓oIn, ↓oNin, ↓oInB, ↓isi_int, ↓isi_int_bl, ↓isi_int_str, ↓isi_int_tup, ↓isi_int_lst, ↓isi_str, ↓isi_str_int, ↓isi_tup, ↓isi_tup_int, ↓isi_tup_str, ↓isi_tup_lst, ↓isi_lst, ↓isi_lst_tup, ↓isi_lst_int, ↓isi_lst_str, ↓cv, ↓Cell.val, ↓Cell.up, ↓Cell.own, ↓lenD, ↓itemsOf, List.getElem?_cons_zero, List.getElem?_cons_succ, List.set_cons_zero, List.set_cons_succ, Option.bind_some, Option.isSome_some, List.length_cons, List.length_nil, true_and, and_true, ↓ixN_lit, ↓atI_lit, ↓reduceIte, Nat.reduceAdd, Nat.reduceLT, Nat.reduceSub, Nat.zero_add, Nat.reduceLeDiff, Nat.lt_add_one, Nat.zero_lt_succ, ↓oEq_int, ↓oNe_int, ↓oEq_str, ↓oNe_str, ↓oEq_bl, ↓oNe_bl, decide_eq_true_eq, Bool.false_eq_true, ↓u_while, ↓ownAt, List.all_cons, List.all_nil, Bool.and_true, List.getD_cons_zero, List.getD_cons_succ, Bool.not_false, ↓oLe_sign, ↓oMulS, ↓dDic, ↓dLock, ↓dGetS, ↓dStD, ↓dInS, ↓oInD, ↓dKeys, ↓dGet1, ↓dGet2, ↓dRev, ↓dMulL, ↓dCount, ↓dScrSl, ↓dScrLen, ↓dScrList, ↓oStrI]
                refine yes _ _ _ _ ?_
                rw [← decide_not]
                refine decide_eq_decide.mpr ⟨fun z => ri.mpr ⟨q2, q3, .inr z⟩, fun z => ?_⟩
                exact (ri.mp z).2.2.resolve_left q4
            refine if_gen fun kA kB hA hB => ?_
            simp only [↓dSeq, ↓dNext, ↓dBreak, ↓dCont, ↓dNever, ↓dRet, ↓dRetN, ↓dDrop, ↓dSet, ↓dIf, ↓dAug, ↓dAsg, ↓dPar, ↓dVar, ↓dMove, ↓dC, ↓dFz, ↓dUp, ↓dNil, ↓dCons, ↓dTup, ↓dLst, ↓dBin, ↓dUn, ↓dChain, ↓dTest, ↓dAnd, ↓dOr, ↓dNot, ↓dAndV, ↓dOrV, ↓dNotV, ↓dIfE, ↓dgName, ↓dgNil, ↓dgCons, ↓dgTup, ↓dIt, ↓dRng1, ↓dRng2, ↓dZip, ↓dEnum, ↓u_for, ↓u_lc, ↓dYes, ↓u_call, ↓u_callF, ↓u_callIo, ↓dCB, ↓dCBF, ↓dBinS, ↓dLenS, ↓dSl, ↓dSlS, ↓dNo, ↓dPt, ↓dStL, ↓dApp, ↓dExt, ↓dJoin, ↓dRg1, ↓dRg2, ↓dTupRg, ↓dLstRg, ↓oSub, ↓oMulI, ↓oMul, ↓oFdiv, ↓oMod, ↓oPow, ↓oShr, ↓oXor, ↓oNeg, ↓oAdd, ↓oAug, ↓oLt, ↓oLe, ↓oGt, ↓oGe, ↓oI, ↓oIx, ↓oLen, ↓oInt, ↓oOrd, ↓oAbs, ↓oStL, ↓oIn, ↓oNin, ↓oInB, ↓isi_int, ↓isi_int_bl, ↓isi_int_str, ↓isi_int_tup, ↓isi_int_lst, ↓isi_str, ↓isi_str_int, ↓isi_tup, ↓isi_tup_int, ↓isi_tup_str, ↓isi_tup_lst, ↓isi_lst, ↓isi_lst_tup, ↓isi_lst_int, ↓isi_lst_str, ↓cv, ↓Cell.val, ↓Cell.up, ↓Cell.own, ↓lenD, ↓itemsOf, List.getElem?_cons_zero, List.getElem?_cons_succ, List.set_cons_zero, List.set_cons_succ, Option.bind_some, Option.isSome_some, List.length_cons, List.length_nil, true_and, and_true, ↓ixN_lit, ↓atI_lit, ↓reduceIte, Nat.reduceAdd, Nat.reduceLT, Nat.reduceSub, Nat.zero_add, Nat.reduceLeDiff, Nat.lt_add_one, Nat.zero_lt_succ, ↓oEq_int, ↓oNe_int, ↓oEq_str, ↓oNe_str, ↓oEq_bl, ↓oNe_bl, decide_eq_true_eq, Bool.false_eq_true, ↓u_while, ↓ownAt, List.all_cons, List.all_nil, Bool.and_true, List.getD_cons_zero, List.getD_cons_succ, Bool.not_false, ↓oLe_sign, ↓oMulS, ↓dDic, ↓dLock, ↓dGetS, ↓dStD, ↓dInS, ↓oInD, ↓dKeys, ↓dGet1, ↓dGet2, ↓dRev, ↓dMulL, ↓dCount, ↓dScrSl, ↓dScrLen, ↓dScrList, ↓oStrI, oSl]
            by_cases q3 : 0 < b
            · rw [if_pos (by omega)]
              have c3 : cutG t (some ((b : Int) - 1)) (some (e : Int)) = cut t (b - 1) e := by
                rw [show ((b : Int) - 1) = ((b - 1 : Nat) : Int) by omega]
                exact cutG_nat t (b - 1) e
              rw [c3]
              refine ⟨rfl, onF (cut t (b - 1) e, q) rfl (by show q ≤ (cut t (b - 1) e).length; rw [cut_length he]; omega) ?_⟩
              simp only [↓dSeq, ↓dNext, ↓dBreak, ↓dCont, ↓dNever, ↓dRet, ↓dRetN, ↓dDrop, ↓dSet, ↓dIf, ↓dAug, ↓dAsg, ↓dPar, ↓dVar, ↓dMove, ↓dC, ↓dFz, ↓dUp, ↓dNil, ↓dCons, ↓dTup, ↓dLst, ↓dBin, ↓dUn, ↓dChain, ↓dTest, ↓dAnd, ↓dOr, ↓dNot, ↓dAndV, ↓dOrV, ↓dNotV, ↓dIfE, ↓dgName, ↓dgNil, ↓dgCons, ↓dgTup, ↓dIt, ↓dRng1, ↓dRng2, ↓dZip, ↓dEnum, ↓u_for, ↓u_lc, ↓dYes, ↓u_call, ↓u_callF, ↓u_callIo, ↓dCB, ↓dCBF, ↓dBinS, ↓dLenS, ↓dSl, ↓dSlS, ↓dNo, ↓dPt, ↓dStL, ↓dApp, ↓dExt, ↓dJoin, ↓dRg1, ↓dRg2, ↓dTupRg, ↓dLstRg, ↓oSub, ↓oMulI, ↓oMul, ↓oFdiv, ↓oMod, ↓oPow, ↓oShr, ↓oXor, ↓oNeg, ↓oAdd, ↓oAug, ↓oLt, ↓oLe, ↓oGt, ↓oGe, ↓oI, ↓oIx, ↓oLen, ↓oInt, ↓oOrd, ↓oAbs, ↓oStL, ↓oIn, ↓oNin, ↓oInB, ↓isi_int, ↓isi_int_bl, ↓isi_int_str, ↓isi_int_tup, ↓isi_int_lst, ↓isi_str, ↓isi_str_int, ↓isi_tup, ↓isi_tup_int, ↓isi_tup_str, ↓isi_tup_lst, ↓isi_lst, ↓isi_lst_tup, ↓isi_lst_int, ↓isi_lst_str, ↓cv, ↓Cell.val, ↓Cell.up, ↓Cell.own, ↓lenD, ↓itemsOf, List.getElem?_cons_zero, List.getElem?_cons_succ, List.set_cons_zero, List.set_cons_succ, Option.bind_some, Option.isSome_some, List.length_cons, List.length_nil, true_and, and_true, ↓ixN_lit, ↓atI_lit, ↓reduceIte, Nat.reduceAdd, Nat.reduceLT, Nat.reduceSub, Nat.zero_add, Nat.reduceLeDiff, Nat.lt_add_one, Nat.zero_lt_succ, ↓oEq_int, ↓oNe_int, ↓oEq_str, ↓oNe_str, ↓oEq_bl, ↓oNe_bl, decide_eq_true_eq, Bool.false_eq_true, ↓u_while, ↓ownAt, List.all_cons, List.all_nil, Bool.and_true, List.getD_cons_zero, List.getD_cons_succ, Bool.not_false, ↓oLe_sign, ↓oMulS, ↓dDic, ↓dLock, ↓dGetS, ↓dStD, ↓dInS, ↓oInD, ↓dKeys, ↓dGet1, ↓dGet2, ↓dRev, ↓dMulL, ↓dCount, ↓dScrSl, ↓dScrLen, ↓dScrList, ↓oStrI]
              by_cases q4 : Per (cut t (b - 1) e) q
              · rw [if_pos q4]
                subst hA
                simp only [↓dSeq, ↓dNext, ↓dBreak, ↓dCont, ↓dNever, ↓dRet, ↓dRetN, ↓dDrop, ↓dSet, ↓dIf, ↓dAug, ↓dAsg, ↓dPar, ↓dVar, ↓dMove, ↓dC, ↓dFz, ↓dUp, ↓dNil, ↓dCons, ↓dTup, ↓dLst, ↓dBin, ↓dUn, ↓dChain, ↓dTest, ↓dAnd, ↓dOr, ↓dNot, ↓dAndV, ↓dOrV, ↓dNotV, ↓dIfE, ↓dgName, ↓dgNil, ↓dgCons, ↓dgTup, ↓dIt, ↓dRng1, ↓dRng2, ↓dZip, ↓dEnum, ↓u_for, ↓u_lc, ↓dYes, ↓u_call, ↓u_callF, ↓u_callIo, ↓dCB, ↓dCBF, ↓dBinS, ↓dLenS, ↓dSl, ↓dSlS, ↓dNo, ↓dPt, ↓dStL, ↓dApp, ↓dExt, ↓dJoin, ↓dRg1, ↓dRg2, ↓dTupRg, ↓dLstRg, ↓oSub, ↓oMulI, ↓oMul, ↓oFdiv, ↓oMod, ↓oPow, ↓oShr, ↓oXor, ↓oNeg, ↓oAdd, ↓oAug, ↓oLt, ↓oLe, ↓oGt, ↓oGe, ↓oI, ↓oIx, ↓oLen, ↓oInt, ↓oOrd, ↓oAbs, ↓oStL, ↓oIn, ↓oNin, ↓oInB, ↓isi_int, ↓isi_int_bl, ↓isi_int_str, ↓isi_int_tup, ↓isi_int_lst, ↓isi_str, ↓isi_str_int, ↓isi_tup, ↓isi_tup_int, ↓isi_tup_str, ↓isi_tup_lst, ↓isi_lst, ↓isi_lst_tup, ↓isi_lst_int, ↓isi_lst_str, ↓cv, ↓Cell.val, ↓Cell.up, ↓Cell.own, ↓lenD, ↓itemsOf, List.getElem?_cons_zero, List.getElem?_cons_succ, List.set_cons_zero, List.set_cons_succ, Option.bind_some, Option.isSome_some, List.length_cons, List.length_nil, true_and, and_true, ↓ixN_lit, ↓atI_lit, ↓reduceIte, Nat.reduceAdd, Nat.reduceLT, Nat.reduceSub, Nat.zero_add, Nat.reduceLeDiff, Nat.lt_add_one, Nat.zero_lt_succ, ↓oEq_int, ↓oNe_int, ↓oEq_str, ↓oNe_str, ↓oEq_bl, ↓oNe_bl, decide_eq_true_eq, Bool.false_eq_true, ↓u_while, ↓ownAt, List.all_cons, List.all_nil, Bool.and_true, List.getD_cons_zero, List.getD_cons_succ, Bool.not_false, ↓oLe_sign, ↓oMulS, ↓dDic, ↓dLock, ↓dGetS, ↓dStD, ↓dInS, ↓oInD, ↓dKeys, ↓dGet1, ↓dGet2, ↓dRev, ↓dMulL, ↓dCount, ↓dScrSl, ↓dScrLen, ↓dScrList, ↓oStrI]
                exact no2 _ _ _ fun r => (ri.mp r).2.1 ⟨q3, q4⟩
              · rw [if_neg q4]
                subst hB
                exact fin fun z => q4 z.2
            · rw [if_neg (by omega)]
              subst hB
              exact fin fun z => q3 z.1
          · rw [if_pos (fun z => q2 (by omega))]
            exact no2 _ _ _ fun r => q2 (ri.mp r).1
        · rw [if_pos (by rw [Bool.not_eq_true] at h6; rw [h6]; rfl)]
          refine no _ _ _ fun x' y' z' ed h1 h2 h7 r => h6 ?_
          cases ed
          have := r.mx.le
          have := r.mx.p1
          unfold inWD
          exact decide_eq_true (by omega)
      · rw [if_pos (by rw [Bool.not_eq_true] at h5; rw [h5]; rfl)]
        refine no _ _ _ fun x' y' z' ed h1 h2 h7 r => h5 ?_
        cases ed
        have := r.mx.le
        have := r.mx.en
        have := r.mx.p1
        unfold inWD
        exact decide_eq_true (by omega)
    · rw [if_pos (by rw [Bool.not_eq_true] at h4; rw [h4]; rfl)]
      refine no _ _ _ fun x' y' z' ed h1 h2 h5 r => h4 ?_
      cases ed
      have := r.mx.le
      have := r.mx.en
      have := r.mx.p1
      unfold inWD
      exact decide_eq_true (by omega)
  · rw [if_pos (by rw [Bool.not_eq_true] at h3; rw [h3]; rfl)]
    refine no _ _ _ fun x y z e _ _ _ _ => h3 ?_
    rw [e]
    rfl
end DL


namespace DL
open PySem PySem.Spec PyProof.Rows L2

/-! ### the law's texts -/
theorem flat_ones : ∀ cs : List Nat, (cs.map fun c => [c]).flatten = cs
  | [] => rfl
  | c :: cs => by
    rw [List.map_cons, List.flatten_cons, flat_ones cs] <;> rfl
theorem joinL_nil : ∀ ys : List (List Nat), TL.joinL [] ys = ys.flatten
  | [] => rfl
  | [x] => by simp [TL.joinL]
  | x :: y :: r => by
    have ih := joinL_nil (y :: r)
    show x ++ ([] ++ TL.joinL [] (y :: r)) = _
    rw [ih]
    simp
theorem sum_ones : ∀ cs : List Nat, (cs.map ((fun (x : List Nat) => x.length) ∘ fun c => [c])).sum = cs.length
  | [] => rfl
  | c :: cs => by
    have ih := sum_ones cs
    rw [List.map_cons, List.sum_cons, ih, List.length_cons]
    show 1 + cs.length = _
    omega
def deepD : Nat → D
  | 0 => .tup []
  | n + 1 => .tup [deepD n]
def S__law_deep : FnSpec := fnSpec 1 false (fun n : Nat => [.int (n : Nat)]) (fun n => n ≤ 1000) fun n => deepD n
/-- _law_deep: slots 0 _law_many, 1 _law_found, 2 _law_turn -/
def D__law_deep : DTS := (dSeq (dSet 1 (dUp (dTup dNil))) (dSeq (dFor (dRng1 (dCons (dVar 0) dNil)) (dgName 2) (dSet 1 (dUp (dTup (dCons (dVar 1) dNil))))) (dRet (dUp (dVar 1)))))
theorem sem__law_deep : ∀ ds Kd, S__law_deep.ds ds Kd → D__law_deep (endsOf S__law_deep Kd) (env0 3 [false] ds) := by
  rintro ds Kd ⟨n, rfl, hz, post⟩
  simp only at hz post
  show D__law_deep (endsOf S__law_deep Kd) [.fz (.int (n : Nat)), .un, .un]
  simp only [↓D__law_deep, ↓dSeq, ↓dNext, ↓dBreak, ↓dCont, ↓dNever, ↓dRet, ↓dRetN, ↓dDrop, ↓dSet, ↓dIf, ↓dAug, ↓dAsg, ↓dPar, ↓dVar, ↓dMove, ↓dC, ↓dFz, ↓dUp, ↓dNil, ↓dCons, ↓dTup, ↓dLst, ↓dBin, ↓dUn, ↓dChain, ↓dTest, ↓dAnd, ↓dOr, ↓dNot, ↓dAndV, ↓dOrV, ↓dNotV, ↓dIfE, ↓dgName, ↓dgNil, ↓dgCons, ↓dgTup, ↓dIt, ↓dRng1, ↓dRng2, ↓dZip, ↓dEnum, ↓u_for, ↓u_lc, ↓dYes, ↓u_call, ↓u_callF, ↓u_callIo, ↓dCB, ↓dCBF, ↓dBinS, ↓dLenS, ↓dSl, ↓dSlS, ↓dNo, ↓dPt, ↓dStL, ↓dApp, ↓dExt, ↓dJoin, ↓dRg1, ↓dRg2, ↓dTupRg, ↓dLstRg, ↓oSub, ↓oMulI, ↓oMul, ↓oFdiv, ↓oMod, ↓oPow, ↓oShr, ↓oXor, ↓oNeg, ↓oAdd, ↓oAug, ↓oLt, ↓oLe, ↓oGt, ↓oGe, ↓oI, ↓oIx, ↓oLen, ↓oInt, ↓oOrd, ↓oAbs, ↓oStL, ↓oIn, ↓oNin, ↓oInB, ↓isi_int, ↓isi_int_bl, ↓isi_int_str, ↓isi_int_tup, ↓isi_int_lst, ↓isi_str, ↓isi_str_int, ↓isi_tup, ↓isi_tup_int, ↓isi_tup_str, ↓isi_tup_lst, ↓isi_lst, ↓isi_lst_tup, ↓isi_lst_int, ↓isi_lst_str, ↓cv, ↓Cell.val, ↓Cell.up, ↓Cell.own, ↓lenD, ↓itemsOf, List.getElem?_cons_zero, List.getElem?_cons_succ, List.set_cons_zero, List.set_cons_succ, Option.bind_some, Option.isSome_some, List.length_cons, List.length_nil, true_and, and_true, ↓ixN_lit, ↓atI_lit, ↓reduceIte, Nat.reduceAdd, Nat.reduceLT, Nat.reduceSub, Nat.zero_add, Nat.reduceLeDiff, Nat.lt_add_one, Nat.zero_lt_succ, ↓oEq_int, ↓oNe_int, ↓oEq_str, ↓oNe_str, ↓oEq_bl, ↓oNe_bl, decide_eq_true_eq, Bool.false_eq_true, ↓u_while, ↓ownAt, List.all_cons, List.all_nil, Bool.and_true, List.getD_cons_zero, List.getD_cons_succ, Bool.not_false, ↓oLe_sign, ↓oMulS, ↓dDic, ↓dLock, ↓dGetS, ↓dStD, ↓dInS, ↓oInD, ↓dKeys, ↓dGet1, ↓dGet2, ↓dRev, ↓dMulL, ↓dCount, ↓dScrSl, ↓dScrLen, ↓dScrList, ↓oStrI]
  refine ⟨by decide, by omega, by omega, ?_⟩
  rw [show ((n : Nat) : Int).toNat = n by omega]
  refine forB_of (forN_inv (fun m ρ => ∃ x, ρ = [.fz (.int (n : Nat)), .fz (deepD m), x]) ?_ ?_ _ ⟨.un, rfl⟩)
  · rintro m ρ k hm ⟨x, rfl⟩ hk
    simp only [↓dSeq, ↓dNext, ↓dBreak, ↓dCont, ↓dNever, ↓dRet, ↓dRetN, ↓dDrop, ↓dSet, ↓dIf, ↓dAug, ↓dAsg, ↓dPar, ↓dVar, ↓dMove, ↓dC, ↓dFz, ↓dUp, ↓dNil, ↓dCons, ↓dTup, ↓dLst, ↓dBin, ↓dUn, ↓dChain, ↓dTest, ↓dAnd, ↓dOr, ↓dNot, ↓dAndV, ↓dOrV, ↓dNotV, ↓dIfE, ↓dgName, ↓dgNil, ↓dgCons, ↓dgTup, ↓dIt, ↓dRng1, ↓dRng2, ↓dZip, ↓dEnum, ↓u_for, ↓u_lc, ↓dYes, ↓u_call, ↓u_callF, ↓u_callIo, ↓dCB, ↓dCBF, ↓dBinS, ↓dLenS, ↓dSl, ↓dSlS, ↓dNo, ↓dPt, ↓dStL, ↓dApp, ↓dExt, ↓dJoin, ↓dRg1, ↓dRg2, ↓dTupRg, ↓dLstRg, ↓oSub, ↓oMulI, ↓oMul, ↓oFdiv, ↓oMod, ↓oPow, ↓oShr, ↓oXor, ↓oNeg, ↓oAdd, ↓oAug, ↓oLt, ↓oLe, ↓oGt, ↓oGe, ↓oI, ↓oIx, ↓oLen, ↓oInt, ↓oOrd, ↓oAbs, ↓oStL, ↓oIn, ↓oNin, ↓oInB, ↓isi_int, ↓isi_int_bl, ↓isi_int_str, ↓isi_int_tup, ↓isi_int_lst, ↓isi_str, ↓isi_str_int, ↓isi_tup, ↓isi_tup_int, ↓isi_tup_str, ↓isi_tup_lst, ↓isi_lst, ↓isi_lst_tup, ↓isi_lst_int, ↓isi_lst_str, ↓cv, ↓Cell.val, ↓Cell.up, ↓Cell.own, ↓lenD, ↓itemsOf, List.getElem?_cons_zero, List.getElem?_cons_succ, List.set_cons_zero, List.set_cons_succ, Option.bind_some, Option.isSome_some, List.length_cons, List.length_nil, true_and, and_true, ↓ixN_lit, ↓atI_lit, ↓reduceIte, Nat.reduceAdd, Nat.reduceLT, Nat.reduceSub, Nat.zero_add, Nat.reduceLeDiff, Nat.lt_add_one, Nat.zero_lt_succ, ↓oEq_int, ↓oNe_int, ↓oEq_str, ↓oNe_str, ↓oEq_bl, ↓oNe_bl, decide_eq_true_eq, Bool.false_eq_true, ↓u_while, ↓ownAt, List.all_cons, List.all_nil, Bool.and_true, List.getD_cons_zero, List.getD_cons_succ, Bool.not_false, ↓oLe_sign, ↓oMulS, ↓dDic, ↓dLock, ↓dGetS, ↓dStD, ↓dInS, ↓oInD, ↓dKeys, ↓dGet1, ↓dGet2, ↓dRev, ↓dMulL, ↓dCount, ↓dScrSl, ↓dScrLen, ↓dScrList, ↓oStrI]
    exact ⟨by decide, hk _ ⟨_, rfl⟩⟩
  · rintro ρ ⟨x, rfl⟩
    simp only [↓dSeq, ↓dNext, ↓dBreak, ↓dCont, ↓dNever, ↓dRet, ↓dRetN, ↓dDrop, ↓dSet, ↓dIf, ↓dAug, ↓dAsg, ↓dPar, ↓dVar, ↓dMove, ↓dC, ↓dFz, ↓dUp, ↓dNil, ↓dCons, ↓dTup, ↓dLst, ↓dBin, ↓dUn, ↓dChain, ↓dTest, ↓dAnd, ↓dOr, ↓dNot, ↓dAndV, ↓dOrV, ↓dNotV, ↓dIfE, ↓dgName, ↓dgNil, ↓dgCons, ↓dgTup, ↓dIt, ↓dRng1, ↓dRng2, ↓dZip, ↓dEnum, ↓u_for, ↓u_lc, ↓dYes, ↓u_call, ↓u_callF, ↓u_callIo, ↓dCB, ↓dCBF, ↓dBinS, ↓dLenS, ↓dSl, ↓dSlS, ↓dNo, ↓dPt, ↓dStL, ↓dApp, ↓dExt, ↓dJoin, ↓dRg1, ↓dRg2, ↓dTupRg, ↓dLstRg, ↓oSub, ↓oMulI, ↓oMul, ↓oFdiv, ↓oMod, ↓oPow, ↓oShr, ↓oXor, ↓oNeg, ↓oAdd, ↓oAug, ↓oLt, ↓oLe, ↓oGt, ↓oGe, ↓oI, ↓oIx, ↓oLen, ↓oInt, ↓oOrd, ↓oAbs, ↓oStL, ↓oIn, ↓oNin, ↓oInB, ↓isi_int, ↓isi_int_bl, ↓isi_int_str, ↓isi_int_tup, ↓isi_int_lst, ↓isi_str, ↓isi_str_int, ↓isi_tup, ↓isi_tup_int, ↓isi_tup_str, ↓isi_tup_lst, ↓isi_lst, ↓isi_lst_tup, ↓isi_lst_int, ↓isi_lst_str, ↓cv, ↓Cell.val, ↓Cell.up, ↓Cell.own, ↓lenD, ↓itemsOf, List.getElem?_cons_zero, List.getElem?_cons_succ, List.set_cons_zero, List.set_cons_succ, Option.bind_some, Option.isSome_some, List.length_cons, List.length_nil, true_and, and_true, ↓ixN_lit, ↓atI_lit, ↓reduceIte, Nat.reduceAdd, Nat.reduceLT, Nat.reduceSub, Nat.zero_add, Nat.reduceLeDiff, Nat.lt_add_one, Nat.zero_lt_succ, ↓oEq_int, ↓oNe_int, ↓oEq_str, ↓oNe_str, ↓oEq_bl, ↓oNe_bl, decide_eq_true_eq, Bool.false_eq_true, ↓u_while, ↓ownAt, List.all_cons, List.all_nil, Bool.and_true, List.getD_cons_zero, List.getD_cons_succ, Bool.not_false, ↓oLe_sign, ↓oMulS, ↓dDic, ↓dLock, ↓dGetS, ↓dStD, ↓dInS, ↓oInD, ↓dKeys, ↓dGet1, ↓dGet2, ↓dRev, ↓dMulL, ↓dCount, ↓dScrSl, ↓dScrLen, ↓dScrList, ↓oStrI]
    exact ⟨rfl, post _ _ ⟨rfl, rfl⟩⟩
def Abc (l : List Nat) : Prop := Signs l ∧ 1 ≤ l.length ∧ l.length < 1000
def abcs : List (List Nat) := [[97], [97, 98], [97, 98], [97, 98, 99], [97, 98, 32, 126], [120, 121, 122, 119], [48, 49, 50, 51, 52, 53, 54, 55, 56, 57]]
def S__law_signs : FnSpec := mkSpec (α := Hand) [true] false (fun h => [h.d]) (fun h => h.Ok) fun x r os => ∃ (h' : Hand) (l : List Nat), h'.Ok ∧ Abc l ∧ r = .str l ∧ os = [h'.d]
theorem fr_signs : S__law_signs.fresh = false := rfl
/-- _law_signs: slots 0 _law_hand_here -/
def D__law_signs : DTS := (dRet (dUp (dFz (dCallIo S__law_any 0 (dCons (dFz (dLst (dCons (dC (.str [97])) (dCons (dC (.str [97, 98])) (dCons (dC (.str [97, 98])) (dCons (dC (.str [97, 98, 99])) (dCons (dC (.str [97, 98, 32, 126])) (dCons (dC (.str [120, 121, 122, 119])) (dCons (dC (.str [48, 49, 50, 51, 52, 53, 54, 55, 56, 57])) dNil))))))))) dNil)))))
theorem sem__law_signs : ∀ ds Kd, S__law_signs.ds ds Kd → D__law_signs (endsOf S__law_signs Kd) (env0 1 [true] ds) := by
  rintro ds Kd ⟨h, rfl, ok, post⟩
  show D__law_signs (endsOf S__law_signs Kd) [.io h.d]
  simp only [↓D__law_signs, ↓dSeq, ↓dNext, ↓dBreak, ↓dCont, ↓dNever, ↓dRet, ↓dRetN, ↓dDrop, ↓dSet, ↓dIf, ↓dAug, ↓dAsg, ↓dPar, ↓dVar, ↓dMove, ↓dC, ↓dFz, ↓dUp, ↓dNil, ↓dCons, ↓dTup, ↓dLst, ↓dBin, ↓dUn, ↓dChain, ↓dTest, ↓dAnd, ↓dOr, ↓dNot, ↓dAndV, ↓dOrV, ↓dNotV, ↓dIfE, ↓dgName, ↓dgNil, ↓dgCons, ↓dgTup, ↓dIt, ↓dRng1, ↓dRng2, ↓dZip, ↓dEnum, ↓u_for, ↓u_lc, ↓dYes, ↓u_call, ↓u_callF, ↓u_callIo, ↓dCB, ↓dCBF, ↓dBinS, ↓dLenS, ↓dSl, ↓dSlS, ↓dNo, ↓dPt, ↓dStL, ↓dApp, ↓dExt, ↓dJoin, ↓dRg1, ↓dRg2, ↓dTupRg, ↓dLstRg, ↓oSub, ↓oMulI, ↓oMul, ↓oFdiv, ↓oMod, ↓oPow, ↓oShr, ↓oXor, ↓oNeg, ↓oAdd, ↓oAug, ↓oLt, ↓oLe, ↓oGt, ↓oGe, ↓oI, ↓oIx, ↓oLen, ↓oInt, ↓oOrd, ↓oAbs, ↓oStL, ↓oIn, ↓oNin, ↓oInB, ↓isi_int, ↓isi_int_bl, ↓isi_int_str, ↓isi_int_tup, ↓isi_int_lst, ↓isi_str, ↓isi_str_int, ↓isi_tup, ↓isi_tup_int, ↓isi_tup_str, ↓isi_tup_lst, ↓isi_lst, ↓isi_lst_tup, ↓isi_lst_int, ↓isi_lst_str, ↓cv, ↓Cell.val, ↓Cell.up, ↓Cell.own, ↓lenD, ↓itemsOf, List.getElem?_cons_zero, List.getElem?_cons_succ, List.set_cons_zero, List.set_cons_succ, Option.bind_some, Option.isSome_some, List.length_cons, List.length_nil, true_and, and_true, ↓ixN_lit, ↓atI_lit, ↓reduceIte, Nat.reduceAdd, Nat.reduceLT, Nat.reduceSub, Nat.zero_add, Nat.reduceLeDiff, Nat.lt_add_one, Nat.zero_lt_succ, ↓oEq_int, ↓oNe_int, ↓oEq_str, ↓oNe_str, ↓oEq_bl, ↓oNe_bl, decide_eq_true_eq, Bool.false_eq_true, ↓u_while, ↓ownAt, List.all_cons, List.all_nil, Bool.and_true, List.getD_cons_zero, List.getD_cons_succ, Bool.not_false, ↓oLe_sign, ↓oMulS, ↓dDic, ↓dLock, ↓dGetS, ↓dStD, ↓dInS, ↓oInD, ↓dKeys, ↓dGet1, ↓dGet2, ↓dRev, ↓dMulL, ↓dCount, ↓dScrSl, ↓dScrLen, ↓dScrList, ↓oStrI]
  refine ⟨by decide, rfl, onM (h, .lst (sl abcs)) rfl ⟨ok, sl abcs, rfl, by decide, by decide⟩ ?_⟩
  rintro r os ⟨h', xs, ok', ex, hr, rfl⟩
  cases ex
  obtain ⟨l, hl, rfl⟩ := List.mem_map.mp hr
  simp only [ioB, wipeE, fr_any, ↓dSeq, ↓dNext, ↓dBreak, ↓dCont, ↓dNever, ↓dRet, ↓dRetN, ↓dDrop, ↓dSet, ↓dIf, ↓dAug, ↓dAsg, ↓dPar, ↓dVar, ↓dMove, ↓dC, ↓dFz, ↓dUp, ↓dNil, ↓dCons, ↓dTup, ↓dLst, ↓dBin, ↓dUn, ↓dChain, ↓dTest, ↓dAnd, ↓dOr, ↓dNot, ↓dAndV, ↓dOrV, ↓dNotV, ↓dIfE, ↓dgName, ↓dgNil, ↓dgCons, ↓dgTup, ↓dIt, ↓dRng1, ↓dRng2, ↓dZip, ↓dEnum, ↓u_for, ↓u_lc, ↓dYes, ↓u_call, ↓u_callF, ↓u_callIo, ↓dCB, ↓dCBF, ↓dBinS, ↓dLenS, ↓dSl, ↓dSlS, ↓dNo, ↓dPt, ↓dStL, ↓dApp, ↓dExt, ↓dJoin, ↓dRg1, ↓dRg2, ↓dTupRg, ↓dLstRg, ↓oSub, ↓oMulI, ↓oMul, ↓oFdiv, ↓oMod, ↓oPow, ↓oShr, ↓oXor, ↓oNeg, ↓oAdd, ↓oAug, ↓oLt, ↓oLe, ↓oGt, ↓oGe, ↓oI, ↓oIx, ↓oLen, ↓oInt, ↓oOrd, ↓oAbs, ↓oStL, ↓oIn, ↓oNin, ↓oInB, ↓isi_int, ↓isi_int_bl, ↓isi_int_str, ↓isi_int_tup, ↓isi_int_lst, ↓isi_str, ↓isi_str_int, ↓isi_tup, ↓isi_tup_int, ↓isi_tup_str, ↓isi_tup_lst, ↓isi_lst, ↓isi_lst_tup, ↓isi_lst_int, ↓isi_lst_str, ↓cv, ↓Cell.val, ↓Cell.up, ↓Cell.own, ↓lenD, ↓itemsOf, List.getElem?_cons_zero, List.getElem?_cons_succ, List.set_cons_zero, List.set_cons_succ, Option.bind_some, Option.isSome_some, List.length_cons, List.length_nil, true_and, and_true, ↓ixN_lit, ↓atI_lit, ↓reduceIte, Nat.reduceAdd, Nat.reduceLT, Nat.reduceSub, Nat.zero_add, Nat.reduceLeDiff, Nat.lt_add_one, Nat.zero_lt_succ, ↓oEq_int, ↓oNe_int, ↓oEq_str, ↓oNe_str, ↓oEq_bl, ↓oNe_bl, decide_eq_true_eq, Bool.false_eq_true, ↓u_while, ↓ownAt, List.all_cons, List.all_nil, Bool.and_true, List.getD_cons_zero, List.getD_cons_succ, Bool.not_false, ↓oLe_sign, ↓oMulS, ↓dDic, ↓dLock, ↓dGetS, ↓dStD, ↓dInS, ↓oInD, ↓dKeys, ↓dGet1, ↓dGet2, ↓dRev, ↓dMulL, ↓dCount, ↓dScrSl, ↓dScrLen, ↓dScrList, ↓oStrI]
  refine ⟨rfl, post _ _ ⟨h', l, ok', ?_, rfl, rfl⟩⟩
  have : ∀ l ∈ abcs, (∀ c ∈ l, 32 ≤ c ∧ c ≤ 126) ∧ 1 ≤ l.length ∧ l.length < 1000 := by decide
  exact this l hl
def S__law_text : FnSpec := mkSpec (α := Hand × List Nat × Nat) [true, false, false] false (fun x => [x.1.d, .str x.2.1, .int (x.2.2 : Nat)]) (fun x => x.1.Ok ∧ Abc x.2.1) fun x r os => ∃ (h' : Hand) (t : List Nat), h'.Ok ∧ Signs t ∧ t.length ≤ x.2.2 ∧ r = .str t ∧ os = [h'.d]
theorem fr_text : S__law_text.fresh = false := rfl
/-- _law_text: slots 0 _law_hand_here, 1 _law_signs_here, 2 _law_most, 3 _law_found, 4 _law_turn, 5 _law_begin, 6 _law_sign -/
def D__law_text : DTS := (dSeq (dSet 3 (dUp (dC (.str [])))) (dSeq (dFor (dRng1 (dCons (dFz (dCallIo S__law_draw 0 (dCons (dC (.int 9)) dNil))) dNil)) (dgName 4) (dIf (dAnd (dTest (dBin oNe (dVar 3) (dC (.str [])))) (dTest (dBin oEq (dFz (dCallIo S__law_draw 0 (dCons (dC (.int 2)) dNil))) (dC (.int 0))))) (dSeq (dSet 5 (dUp (dFz (dCallIo S__law_draw 0 (dCons (dLenS 3) dNil))))) (dSet 3 (dUp (dBin oAdd (dVar 3) (dSlS 3 (dPt (dVar 5)) (dPt (dBin oAdd (dBin oAdd (dVar 5) (dC (.int 1))) (dFz (dCallIo S__law_draw 0 (dCons (dC (.int 12)) dNil)))))))))) (dSet 3 (dUp (dBin oAdd (dVar 3) (dJoin (dC (.str [])) (dFz (dLc (dRng1 (dCons (dBin oAdd (dC (.int 1)) (dFz (dCallIo S__law_draw 0 (dCons (dC (.int 6)) dNil)))) dNil)) (dgName 6) dYes (dFz (dCallIo S__law_any 0 (dCons (dVar 1) dNil))) [6])))))))) (dRet (dUp (dSlS 3 dNo (dPt (dVar 2)))))))
theorem sem__law_text : ∀ ds Kd, S__law_text.ds ds Kd → D__law_text (endsOf S__law_text Kd) (env0 7 [true, false, false] ds) := by
  rintro ds Kd ⟨⟨h, l, n⟩, rfl, ⟨ok, abc⟩, post⟩
  simp only at ok abc post
  show D__law_text (endsOf S__law_text Kd) [.io h.d, .fz (.str l), .fz (.int (n : Nat)), .un, .un, .un, .un]
  simp only [↓D__law_text, ↓dSeq, ↓dNext, ↓dBreak, ↓dCont, ↓dNever, ↓dRet, ↓dRetN, ↓dDrop, ↓dSet, ↓dIf, ↓dAug, ↓dAsg, ↓dPar, ↓dVar, ↓dMove, ↓dC, ↓dFz, ↓dUp, ↓dNil, ↓dCons, ↓dTup, ↓dLst, ↓dBin, ↓dUn, ↓dChain, ↓dTest, ↓dAnd, ↓dOr, ↓dNot, ↓dAndV, ↓dOrV, ↓dNotV, ↓dIfE, ↓dgName, ↓dgNil, ↓dgCons, ↓dgTup, ↓dIt, ↓dRng1, ↓dRng2, ↓dZip, ↓dEnum, ↓u_for, ↓u_lc, ↓dYes, ↓u_call, ↓u_callF, ↓u_callIo, ↓dCB, ↓dCBF, ↓dBinS, ↓dLenS, ↓dSl, ↓dSlS, ↓dNo, ↓dPt, ↓dStL, ↓dApp, ↓dExt, ↓dJoin, ↓dRg1, ↓dRg2, ↓dTupRg, ↓dLstRg, ↓oSub, ↓oMulI, ↓oMul, ↓oFdiv, ↓oMod, ↓oPow, ↓oShr, ↓oXor, ↓oNeg, ↓oAdd, ↓oAug, ↓oLt, ↓oLe, ↓oGt, ↓oGe, ↓oI, ↓oIx, ↓oLen, ↓oInt, ↓oOrd, ↓oAbs, ↓oStL, ↓oIn, ↓oNin, ↓oInB, ↓isi_int, ↓isi_int_bl, ↓isi_int_str, ↓isi_int_tup, ↓isi_int_lst, ↓isi_str, ↓isi_str_int, ↓isi_tup, ↓isi_tup_int, ↓isi_tup_str, ↓isi_tup_lst, ↓isi_lst, ↓isi_lst_tup, ↓isi_lst_int, ↓isi_lst_str, ↓cv, ↓Cell.val, ↓Cell.up, ↓Cell.own, ↓lenD, ↓itemsOf, List.getElem?_cons_zero, List.getElem?_cons_succ, List.set_cons_zero, List.set_cons_succ, Option.bind_some, Option.isSome_some, List.length_cons, List.length_nil, true_and, and_true, ↓ixN_lit, ↓atI_lit, ↓reduceIte, Nat.reduceAdd, Nat.reduceLT, Nat.reduceSub, Nat.zero_add, Nat.reduceLeDiff, Nat.lt_add_one, Nat.zero_lt_succ, ↓oEq_int, ↓oNe_int, ↓oEq_str, ↓oNe_str, ↓oEq_bl, ↓oNe_bl, decide_eq_true_eq, Bool.false_eq_true, ↓u_while, ↓ownAt, List.all_cons, List.all_nil, Bool.and_true, List.getD_cons_zero, List.getD_cons_succ, Bool.not_false, ↓oLe_sign, ↓oMulS, ↓dDic, ↓dLock, ↓dGetS, ↓dStD, ↓dInS, ↓oInD, ↓dKeys, ↓dGet1, ↓dGet2, ↓dRev, ↓dMulL, ↓dCount, ↓dScrSl, ↓dScrLen, ↓dScrList, ↓oStrI]
  refine ⟨rfl, onM (h, 9) rfl ⟨ok, by show (1 : Int) ≤ 9; decide, by show (9 : Int) < 1073741824; decide⟩ ?_⟩
  rintro r os ⟨j, h', rfl, k0, k1, rfl, ok'⟩
  have k1 : j < 9 := k1
  simp only [ioB, wipeE, fr_draw, ↓dSeq, ↓dNext, ↓dBreak, ↓dCont, ↓dNever, ↓dRet, ↓dRetN, ↓dDrop, ↓dSet, ↓dIf, ↓dAug, ↓dAsg, ↓dPar, ↓dVar, ↓dMove, ↓dC, ↓dFz, ↓dUp, ↓dNil, ↓dCons, ↓dTup, ↓dLst, ↓dBin, ↓dUn, ↓dChain, ↓dTest, ↓dAnd, ↓dOr, ↓dNot, ↓dAndV, ↓dOrV, ↓dNotV, ↓dIfE, ↓dgName, ↓dgNil, ↓dgCons, ↓dgTup, ↓dIt, ↓dRng1, ↓dRng2, ↓dZip, ↓dEnum, ↓u_for, ↓u_lc, ↓dYes, ↓u_call, ↓u_callF, ↓u_callIo, ↓dCB, ↓dCBF, ↓dBinS, ↓dLenS, ↓dSl, ↓dSlS, ↓dNo, ↓dPt, ↓dStL, ↓dApp, ↓dExt, ↓dJoin, ↓dRg1, ↓dRg2, ↓dTupRg, ↓dLstRg, ↓oSub, ↓oMulI, ↓oMul, ↓oFdiv, ↓oMod, ↓oPow, ↓oShr, ↓oXor, ↓oNeg, ↓oAdd, ↓oAug, ↓oLt, ↓oLe, ↓oGt, ↓oGe, ↓oI, ↓oIx, ↓oLen, ↓oInt, ↓oOrd, ↓oAbs, ↓oStL, ↓oIn, ↓oNin, ↓oInB, ↓isi_int, ↓isi_int_bl, ↓isi_int_str, ↓isi_int_tup, ↓isi_int_lst, ↓isi_str, ↓isi_str_int, ↓isi_tup, ↓isi_tup_int, ↓isi_tup_str, ↓isi_tup_lst, ↓isi_lst, ↓isi_lst_tup, ↓isi_lst_int, ↓isi_lst_str, ↓cv, ↓Cell.val, ↓Cell.up, ↓Cell.own, ↓lenD, ↓itemsOf, List.getElem?_cons_zero, List.getElem?_cons_succ, List.set_cons_zero, List.set_cons_succ, Option.bind_some, Option.isSome_some, List.length_cons, List.length_nil, true_and, and_true, ↓ixN_lit, ↓atI_lit, ↓reduceIte, Nat.reduceAdd, Nat.reduceLT, Nat.reduceSub, Nat.zero_add, Nat.reduceLeDiff, Nat.lt_add_one, Nat.zero_lt_succ, ↓oEq_int, ↓oNe_int, ↓oEq_str, ↓oNe_str, ↓oEq_bl, ↓oNe_bl, decide_eq_true_eq, Bool.false_eq_true, ↓u_while, ↓ownAt, List.all_cons, List.all_nil, Bool.and_true, List.getD_cons_zero, List.getD_cons_succ, Bool.not_false, ↓oLe_sign, ↓oMulS, ↓dDic, ↓dLock, ↓dGetS, ↓dStD, ↓dInS, ↓oInD, ↓dKeys, ↓dGet1, ↓dGet2, ↓dRev, ↓dMulL, ↓dCount, ↓dScrSl, ↓dScrLen, ↓dScrList, ↓oStrI]
  refine ⟨by omega, by omega, ?_⟩
  refine forB_of (forN_inv (fun m ρ => ∃ (h2 : Hand) (t : List Nat) (x4 x5 : Cell), h2.Ok ∧ Signs t ∧ t.length ≤ m * 12 ∧ ρ = [.io h2.d, .fz (.str l), .fz (.int (n : Nat)), .fz (.str t), x4, x5, .un]) ?_ ?_ _ ⟨h', [], .un, .un, ok', by intro c hc; simp at hc, by simp, rfl⟩)
  · rintro m ρ k hm ⟨h2, t, x4, x5, ok2, hs, hl, rfl⟩ hk
    have hm9 : m < 9 := by omega
    have nx : ∀ (h3 : Hand) (s : List Nat) (x5 : Cell), h3.Ok → Signs s → s.length ≤ 12 → k [.io h3.d, .fz (.str l), .fz (.int (n : Nat)), .fz (.str (t ++ s)), .fz (.int (0 + (m : Nat))), x5, .un] := by
      intro h3 s x5 ok3 ss sz
      refine hk _ ⟨h3, t ++ s, .fz (.int (0 + (m : Nat))), x5, ok3, fun c hc => ?_, ?_, rfl⟩
      · rcases List.mem_append.mp hc with q | q
        · exact hs c q
        · exact ss c q
      · rw [List.length_append]; omega
    refine if_gen fun kA kB hA hB => ?_
    simp only [↓dSeq, ↓dNext, ↓dBreak, ↓dCont, ↓dNever, ↓dRet, ↓dRetN, ↓dDrop, ↓dSet, ↓dIf, ↓dAug, ↓dAsg, ↓dPar, ↓dVar, ↓dMove, ↓dC, ↓dFz, ↓dUp, ↓dNil, ↓dCons, ↓dTup, ↓dLst, ↓dBin, ↓dUn, ↓dChain, ↓dTest, ↓dAnd, ↓dOr, ↓dNot, ↓dAndV, ↓dOrV, ↓dNotV, ↓dIfE, ↓dgName, ↓dgNil, ↓dgCons, ↓dgTup, ↓dIt, ↓dRng1, ↓dRng2, ↓dZip, ↓dEnum, ↓u_for, ↓u_lc, ↓dYes, ↓u_call, ↓u_callF, ↓u_callIo, ↓dCB, ↓dCBF, ↓dBinS, ↓dLenS, ↓dSl, ↓dSlS, ↓dNo, ↓dPt, ↓dStL, ↓dApp, ↓dExt, ↓dJoin, ↓dRg1, ↓dRg2, ↓dTupRg, ↓dLstRg, ↓oSub, ↓oMulI, ↓oMul, ↓oFdiv, ↓oMod, ↓oPow, ↓oShr, ↓oXor, ↓oNeg, ↓oAdd, ↓oAug, ↓oLt, ↓oLe, ↓oGt, ↓oGe, ↓oI, ↓oIx, ↓oLen, ↓oInt, ↓oOrd, ↓oAbs, ↓oStL, ↓oIn, ↓oNin, ↓oInB, ↓isi_int, ↓isi_int_bl, ↓isi_int_str, ↓isi_int_tup, ↓isi_int_lst, ↓isi_str, ↓isi_str_int, ↓isi_tup, ↓isi_tup_int, ↓isi_tup_str, ↓isi_tup_lst, ↓isi_lst, ↓isi_lst_tup, ↓isi_lst_int, ↓isi_lst_str, ↓cv, ↓Cell.val, ↓Cell.up, ↓Cell.own, ↓lenD, ↓itemsOf, List.getElem?_cons_zero, List.getElem?_cons_succ, List.set_cons_zero, List.set_cons_succ, Option.bind_some, Option.isSome_some, List.length_cons, List.length_nil, true_and, and_true, ↓ixN_lit, ↓atI_lit, ↓reduceIte, Nat.reduceAdd, Nat.reduceLT, Nat.reduceSub, Nat.zero_add, Nat.reduceLeDiff, Nat.lt_add_one, Nat.zero_lt_succ, ↓oEq_int, ↓oNe_int, ↓oEq_str, ↓oNe_str, ↓oEq_bl, ↓oNe_bl, decide_eq_true_eq, Bool.false_eq_true, ↓u_while, ↓ownAt, List.all_cons, List.all_nil, Bool.and_true, List.getD_cons_zero, List.getD_cons_succ, Bool.not_false, ↓oLe_sign, ↓oMulS, ↓dDic, ↓dLock, ↓dGetS, ↓dStD, ↓dInS, ↓oInD, ↓dKeys, ↓dGet1, ↓dGet2, ↓dRev, ↓dMulL, ↓dCount, ↓dScrSl, ↓dScrLen, ↓dScrList, ↓oStrI]
    have hBk : ∀ (h3 : Hand) (x5 : Cell), h3.Ok → kB [.io h3.d, .fz (.str l), .fz (.int (n : Nat)), .fz (.str t), .fz (.int (0 + (m : Nat))), x5, .un] := by
      intro h3 x5 ok3
      subst hB
      simp only [↓dSeq, ↓dNext, ↓dBreak, ↓dCont, ↓dNever, ↓dRet, ↓dRetN, ↓dDrop, ↓dSet, ↓dIf, ↓dAug, ↓dAsg, ↓dPar, ↓dVar, ↓dMove, ↓dC, ↓dFz, ↓dUp, ↓dNil, ↓dCons, ↓dTup, ↓dLst, ↓dBin, ↓dUn, ↓dChain, ↓dTest, ↓dAnd, ↓dOr, ↓dNot, ↓dAndV, ↓dOrV, ↓dNotV, ↓dIfE, ↓dgName, ↓dgNil, ↓dgCons, ↓dgTup, ↓dIt, ↓dRng1, ↓dRng2, ↓dZip, ↓dEnum, ↓u_for, ↓u_lc, ↓dYes, ↓u_call, ↓u_callF, ↓u_callIo, ↓dCB, ↓dCBF, ↓dBinS, ↓dLenS, ↓dSl, ↓dSlS, ↓dNo, ↓dPt, ↓dStL, ↓dApp, ↓dExt, ↓dJoin, ↓dRg1, ↓dRg2, ↓dTupRg, ↓dLstRg, ↓oSub, ↓oMulI, ↓oMul, ↓oFdiv, ↓oMod, ↓oPow, ↓oShr, ↓oXor, ↓oNeg, ↓oAdd, ↓oAug, ↓oLt, ↓oLe, ↓oGt, ↓oGe, ↓oI, ↓oIx, ↓oLen, ↓oInt, ↓oOrd, ↓oAbs, ↓oStL, ↓oIn, ↓oNin, ↓oInB, ↓isi_int, ↓isi_int_bl, ↓isi_int_str, ↓isi_int_tup, ↓isi_int_lst, ↓isi_str, ↓isi_str_int, ↓isi_tup, ↓isi_tup_int, ↓isi_tup_str, ↓isi_tup_lst, ↓isi_lst, ↓isi_lst_tup, ↓isi_lst_int, ↓isi_lst_str, ↓cv, ↓Cell.val, ↓Cell.up, ↓Cell.own, ↓lenD, ↓itemsOf, List.getElem?_cons_zero, List.getElem?_cons_succ, List.set_cons_zero, List.set_cons_succ, Option.bind_some, Option.isSome_some, List.length_cons, List.length_nil, true_and, and_true, ↓ixN_lit, ↓atI_lit, ↓reduceIte, Nat.reduceAdd, Nat.reduceLT, Nat.reduceSub, Nat.zero_add, Nat.reduceLeDiff, Nat.lt_add_one, Nat.zero_lt_succ, ↓oEq_int, ↓oNe_int, ↓oEq_str, ↓oNe_str, ↓oEq_bl, ↓oNe_bl, decide_eq_true_eq, Bool.false_eq_true, ↓u_while, ↓ownAt, List.all_cons, List.all_nil, Bool.and_true, List.getD_cons_zero, List.getD_cons_succ, Bool.not_false, ↓oLe_sign, ↓oMulS, ↓dDic, ↓dLock, ↓dGetS, ↓dStD, ↓dInS, ↓oInD, ↓dKeys, ↓dGet1, ↓dGet2, ↓dRev, ↓dMulL, ↓dCount, ↓dScrSl, ↓dScrLen, ↓dScrList, ↓oStrI]
      refine ⟨rfl, onM (h3, 6) rfl ⟨ok3, by show (1 : Int) ≤ 6; decide, by show (6 : Int) < 1073741824; decide⟩ ?_⟩
      rintro r os ⟨i, h4, rfl, i0, i1, rfl, ok4⟩
      have i1 : i < 6 := i1
      simp only [ioB, wipeE, fr_draw, ↓dSeq, ↓dNext, ↓dBreak, ↓dCont, ↓dNever, ↓dRet, ↓dRetN, ↓dDrop, ↓dSet, ↓dIf, ↓dAug, ↓dAsg, ↓dPar, ↓dVar, ↓dMove, ↓dC, ↓dFz, ↓dUp, ↓dNil, ↓dCons, ↓dTup, ↓dLst, ↓dBin, ↓dUn, ↓dChain, ↓dTest, ↓dAnd, ↓dOr, ↓dNot, ↓dAndV, ↓dOrV, ↓dNotV, ↓dIfE, ↓dgName, ↓dgNil, ↓dgCons, ↓dgTup, ↓dIt, ↓dRng1, ↓dRng2, ↓dZip, ↓dEnum, ↓u_for, ↓u_lc, ↓dYes, ↓u_call, ↓u_callF, ↓u_callIo, ↓dCB, ↓dCBF, ↓dBinS, ↓dLenS, ↓dSl, ↓dSlS, ↓dNo, ↓dPt, ↓dStL, ↓dApp, ↓dExt, ↓dJoin, ↓dRg1, ↓dRg2, ↓dTupRg, ↓dLstRg, ↓oSub, ↓oMulI, ↓oMul, ↓oFdiv, ↓oMod, ↓oPow, ↓oShr, ↓oXor, ↓oNeg, ↓oAdd, ↓oAug, ↓oLt, ↓oLe, ↓oGt, ↓oGe, ↓oI, ↓oIx, ↓oLen, ↓oInt, ↓oOrd, ↓oAbs, ↓oStL, ↓oIn, ↓oNin, ↓oInB, ↓isi_int, ↓isi_int_bl, ↓isi_int_str, ↓isi_int_tup, ↓isi_int_lst, ↓isi_str, ↓isi_str_int, ↓isi_tup, ↓isi_tup_int, ↓isi_tup_str, ↓isi_tup_lst, ↓isi_lst, ↓isi_lst_tup, ↓isi_lst_int, ↓isi_lst_str, ↓cv, ↓Cell.val, ↓Cell.up, ↓Cell.own, ↓lenD, ↓itemsOf, List.getElem?_cons_zero, List.getElem?_cons_succ, List.set_cons_zero, List.set_cons_succ, Option.bind_some, Option.isSome_some, List.length_cons, List.length_nil, true_and, and_true, ↓ixN_lit, ↓atI_lit, ↓reduceIte, Nat.reduceAdd, Nat.reduceLT, Nat.reduceSub, Nat.zero_add, Nat.reduceLeDiff, Nat.lt_add_one, Nat.zero_lt_succ, ↓oEq_int, ↓oNe_int, ↓oEq_str, ↓oNe_str, ↓oEq_bl, ↓oNe_bl, decide_eq_true_eq, Bool.false_eq_true, ↓u_while, ↓ownAt, List.all_cons, List.all_nil, Bool.and_true, List.getD_cons_zero, List.getD_cons_succ, Bool.not_false, ↓oLe_sign, ↓oMulS, ↓dDic, ↓dLock, ↓dGetS, ↓dStD, ↓dInS, ↓oInD, ↓dKeys, ↓dGet1, ↓dGet2, ↓dRev, ↓dMulL, ↓dCount, ↓dScrSl, ↓dScrLen, ↓dScrList, ↓oStrI]
      refine ⟨by omega, by omega, lcB_of (lcN_inv (fun m2 acc ρ => ∃ (h5 : Hand) (cs : List Nat) (x : Cell), h5.Ok ∧ (∀ c ∈ cs, c ∈ l) ∧ cs.length = m2 ∧ acc = cs.map (fun c => .str [c]) ∧ ρ = [.io h5.d, .fz (.str l), .fz (.int (n : Nat)), .fz (.str t), .fz (.int (0 + (m : Nat))), x5, x]) ?_ ?_ _ _ ⟨h4, [], .un, ok4, by simp, rfl, rfl, rfl⟩)⟩
      · rintro m2 acc ρ kT kF hm2 ⟨h5, cs, x6, ok5, hc, hcl, rfl, rfl⟩ hT hF
        simp only [wipeE, ↓dSeq, ↓dNext, ↓dBreak, ↓dCont, ↓dNever, ↓dRet, ↓dRetN, ↓dDrop, ↓dSet, ↓dIf, ↓dAug, ↓dAsg, ↓dPar, ↓dVar, ↓dMove, ↓dC, ↓dFz, ↓dUp, ↓dNil, ↓dCons, ↓dTup, ↓dLst, ↓dBin, ↓dUn, ↓dChain, ↓dTest, ↓dAnd, ↓dOr, ↓dNot, ↓dAndV, ↓dOrV, ↓dNotV, ↓dIfE, ↓dgName, ↓dgNil, ↓dgCons, ↓dgTup, ↓dIt, ↓dRng1, ↓dRng2, ↓dZip, ↓dEnum, ↓u_for, ↓u_lc, ↓dYes, ↓u_call, ↓u_callF, ↓u_callIo, ↓dCB, ↓dCBF, ↓dBinS, ↓dLenS, ↓dSl, ↓dSlS, ↓dNo, ↓dPt, ↓dStL, ↓dApp, ↓dExt, ↓dJoin, ↓dRg1, ↓dRg2, ↓dTupRg, ↓dLstRg, ↓oSub, ↓oMulI, ↓oMul, ↓oFdiv, ↓oMod, ↓oPow, ↓oShr, ↓oXor, ↓oNeg, ↓oAdd, ↓oAug, ↓oLt, ↓oLe, ↓oGt, ↓oGe, ↓oI, ↓oIx, ↓oLen, ↓oInt, ↓oOrd, ↓oAbs, ↓oStL, ↓oIn, ↓oNin, ↓oInB, ↓isi_int, ↓isi_int_bl, ↓isi_int_str, ↓isi_int_tup, ↓isi_int_lst, ↓isi_str, ↓isi_str_int, ↓isi_tup, ↓isi_tup_int, ↓isi_tup_str, ↓isi_tup_lst, ↓isi_lst, ↓isi_lst_tup, ↓isi_lst_int, ↓isi_lst_str, ↓cv, ↓Cell.val, ↓Cell.up, ↓Cell.own, ↓lenD, ↓itemsOf, List.getElem?_cons_zero, List.getElem?_cons_succ, List.set_cons_zero, List.set_cons_succ, Option.bind_some, Option.isSome_some, List.length_cons, List.length_nil, true_and, and_true, ↓ixN_lit, ↓atI_lit, ↓reduceIte, Nat.reduceAdd, Nat.reduceLT, Nat.reduceSub, Nat.zero_add, Nat.reduceLeDiff, Nat.lt_add_one, Nat.zero_lt_succ, ↓oEq_int, ↓oNe_int, ↓oEq_str, ↓oNe_str, ↓oEq_bl, ↓oNe_bl, decide_eq_true_eq, Bool.false_eq_true, ↓u_while, ↓ownAt, List.all_cons, List.all_nil, Bool.and_true, List.getD_cons_zero, List.getD_cons_succ, Bool.not_false, ↓oLe_sign, ↓oMulS, ↓dDic, ↓dLock, ↓dGetS, ↓dStD, ↓dInS, ↓oInD, ↓dKeys, ↓dGet1, ↓dGet2, ↓dRev, ↓dMulL, ↓dCount, ↓dScrSl, ↓dScrLen, ↓dScrList, ↓oStrI]
        refine ⟨rfl, onM (h5, .str l) rfl ⟨ok5, l.map (fun c => .str [c]), rfl, by rw [List.length_map]; exact abc.2.1, by rw [List.length_map]; have := abc.2.2; omega⟩ ?_⟩
        rintro r os ⟨h6, xs, ok6, ex, hr, rfl⟩
        cases ex
        obtain ⟨c, hcm, rfl⟩ := List.mem_map.mp hr
        simp only [ioB, wipeE, fr_any, ↓dSeq, ↓dNext, ↓dBreak, ↓dCont, ↓dNever, ↓dRet, ↓dRetN, ↓dDrop, ↓dSet, ↓dIf, ↓dAug, ↓dAsg, ↓dPar, ↓dVar, ↓dMove, ↓dC, ↓dFz, ↓dUp, ↓dNil, ↓dCons, ↓dTup, ↓dLst, ↓dBin, ↓dUn, ↓dChain, ↓dTest, ↓dAnd, ↓dOr, ↓dNot, ↓dAndV, ↓dOrV, ↓dNotV, ↓dIfE, ↓dgName, ↓dgNil, ↓dgCons, ↓dgTup, ↓dIt, ↓dRng1, ↓dRng2, ↓dZip, ↓dEnum, ↓u_for, ↓u_lc, ↓dYes, ↓u_call, ↓u_callF, ↓u_callIo, ↓dCB, ↓dCBF, ↓dBinS, ↓dLenS, ↓dSl, ↓dSlS, ↓dNo, ↓dPt, ↓dStL, ↓dApp, ↓dExt, ↓dJoin, ↓dRg1, ↓dRg2, ↓dTupRg, ↓dLstRg, ↓oSub, ↓oMulI, ↓oMul, ↓oFdiv, ↓oMod, ↓oPow, ↓oShr, ↓oXor, ↓oNeg, ↓oAdd, ↓oAug, ↓oLt, ↓oLe, ↓oGt, ↓oGe, ↓oI, ↓oIx, ↓oLen, ↓oInt, ↓oOrd, ↓oAbs, ↓oStL, ↓oIn, ↓oNin, ↓oInB, ↓isi_int, ↓isi_int_bl, ↓isi_int_str, ↓isi_int_tup, ↓isi_int_lst, ↓isi_str, ↓isi_str_int, ↓isi_tup, ↓isi_tup_int, ↓isi_tup_str, ↓isi_tup_lst, ↓isi_lst, ↓isi_lst_tup, ↓isi_lst_int, ↓isi_lst_str, ↓cv, ↓Cell.val, ↓Cell.up, ↓Cell.own, ↓lenD, ↓itemsOf, List.getElem?_cons_zero, List.getElem?_cons_succ, List.set_cons_zero, List.set_cons_succ, Option.bind_some, Option.isSome_some, List.length_cons, List.length_nil, true_and, and_true, ↓ixN_lit, ↓atI_lit, ↓reduceIte, Nat.reduceAdd, Nat.reduceLT, Nat.reduceSub, Nat.zero_add, Nat.reduceLeDiff, Nat.lt_add_one, Nat.zero_lt_succ, ↓oEq_int, ↓oNe_int, ↓oEq_str, ↓oNe_str, ↓oEq_bl, ↓oNe_bl, decide_eq_true_eq, Bool.false_eq_true, ↓u_while, ↓ownAt, List.all_cons, List.all_nil, Bool.and_true, List.getD_cons_zero, List.getD_cons_succ, Bool.not_false, ↓oLe_sign, ↓oMulS, ↓dDic, ↓dLock, ↓dGetS, ↓dStD, ↓dInS, ↓oInD, ↓dKeys, ↓dGet1, ↓dGet2, ↓dRev, ↓dMulL, ↓dCount, ↓dScrSl, ↓dScrLen, ↓dScrList, ↓oStrI]
        refine hT _ _ ⟨h6, cs ++ [c], .fz (.int (0 + (m2 : Nat))), ok6, fun z hz => ?_, by rw [List.length_append, hcl]; rfl, by rw [List.map_append] <;> rfl, rfl⟩
        rcases List.mem_append.mp hz with z1 | z1
        · exact hc z z1
        · rw [List.mem_singleton.mp z1]; exact hcm
      · rintro acc ρ ⟨h5, cs, x6, ok5, hc, hcl, rfl, rfl⟩
        have e1 : strsOf (cs.map fun c => D.str [c]) = some (cs.map fun c => [c]) := strsOf_map _ cs
        have e2 : ((cs.map fun c => [c]).map fun (x : List Nat) => x.length).sum = cs.length := by
          rw [List.map_map]
          exact sum_ones cs
        simp only [restE, ↓dSeq, ↓dNext, ↓dBreak, ↓dCont, ↓dNever, ↓dRet, ↓dRetN, ↓dDrop, ↓dSet, ↓dIf, ↓dAug, ↓dAsg, ↓dPar, ↓dVar, ↓dMove, ↓dC, ↓dFz, ↓dUp, ↓dNil, ↓dCons, ↓dTup, ↓dLst, ↓dBin, ↓dUn, ↓dChain, ↓dTest, ↓dAnd, ↓dOr, ↓dNot, ↓dAndV, ↓dOrV, ↓dNotV, ↓dIfE, ↓dgName, ↓dgNil, ↓dgCons, ↓dgTup, ↓dIt, ↓dRng1, ↓dRng2, ↓dZip, ↓dEnum, ↓u_for, ↓u_lc, ↓dYes, ↓u_call, ↓u_callF, ↓u_callIo, ↓dCB, ↓dCBF, ↓dBinS, ↓dLenS, ↓dSl, ↓dSlS, ↓dNo, ↓dPt, ↓dStL, ↓dApp, ↓dExt, ↓dJoin, ↓dRg1, ↓dRg2, ↓dTupRg, ↓dLstRg, ↓oSub, ↓oMulI, ↓oMul, ↓oFdiv, ↓oMod, ↓oPow, ↓oShr, ↓oXor, ↓oNeg, ↓oAdd, ↓oAug, ↓oLt, ↓oLe, ↓oGt, ↓oGe, ↓oI, ↓oIx, ↓oLen, ↓oInt, ↓oOrd, ↓oAbs, ↓oStL, ↓oIn, ↓oNin, ↓oInB, ↓isi_int, ↓isi_int_bl, ↓isi_int_str, ↓isi_int_tup, ↓isi_int_lst, ↓isi_str, ↓isi_str_int, ↓isi_tup, ↓isi_tup_int, ↓isi_tup_str, ↓isi_tup_lst, ↓isi_lst, ↓isi_lst_tup, ↓isi_lst_int, ↓isi_lst_str, ↓cv, ↓Cell.val, ↓Cell.up, ↓Cell.own, ↓lenD, ↓itemsOf, List.getElem?_cons_zero, List.getElem?_cons_succ, List.set_cons_zero, List.set_cons_succ, Option.bind_some, Option.isSome_some, List.length_cons, List.length_nil, true_and, and_true, ↓ixN_lit, ↓atI_lit, ↓reduceIte, Nat.reduceAdd, Nat.reduceLT, Nat.reduceSub, Nat.zero_add, Nat.reduceLeDiff, Nat.lt_add_one, Nat.zero_lt_succ, ↓oEq_int, ↓oNe_int, ↓oEq_str, ↓oNe_str, ↓oEq_bl, ↓oNe_bl, decide_eq_true_eq, Bool.false_eq_true, ↓u_while, ↓ownAt, List.all_cons, List.all_nil, Bool.and_true, List.getD_cons_zero, List.getD_cons_succ, Bool.not_false, ↓oLe_sign, ↓oMulS, ↓dDic, ↓dLock, ↓dGetS, ↓dStD, ↓dInS, ↓oInD, ↓dKeys, ↓dGet1, ↓dGet2, ↓dRev, ↓dMulL, ↓dCount, ↓dScrSl, ↓dScrLen, ↓dScrList, ↓oStrI, itemsLT, e1, joinL_nil, flat_ones]
        refine ⟨?_, ?_⟩
        · rw [e2]
          simp
          omega
        · exact ⟨by show _ ≤ 16777216; omega, nx h5 cs x5 ok5 (fun c h => abc.1 c (hc c h)) (by omega)⟩
    by_cases te : t = []
    · rw [if_neg (fun z => z te)]
      exact hBk _ _ ok2
    · rw [if_pos te]
      have hp := List.length_pos_iff.mpr te
      refine ⟨rfl, onM (h2, 2) rfl ⟨ok2, by show (1 : Int) ≤ 2; decide, by show (2 : Int) < 1073741824; decide⟩ ?_⟩
      rintro r os ⟨i, h3, rfl, i0, i1, rfl, ok3⟩
      simp only [ioB, wipeE, fr_draw, ↓dSeq, ↓dNext, ↓dBreak, ↓dCont, ↓dNever, ↓dRet, ↓dRetN, ↓dDrop, ↓dSet, ↓dIf, ↓dAug, ↓dAsg, ↓dPar, ↓dVar, ↓dMove, ↓dC, ↓dFz, ↓dUp, ↓dNil, ↓dCons, ↓dTup, ↓dLst, ↓dBin, ↓dUn, ↓dChain, ↓dTest, ↓dAnd, ↓dOr, ↓dNot, ↓dAndV, ↓dOrV, ↓dNotV, ↓dIfE, ↓dgName, ↓dgNil, ↓dgCons, ↓dgTup, ↓dIt, ↓dRng1, ↓dRng2, ↓dZip, ↓dEnum, ↓u_for, ↓u_lc, ↓dYes, ↓u_call, ↓u_callF, ↓u_callIo, ↓dCB, ↓dCBF, ↓dBinS, ↓dLenS, ↓dSl, ↓dSlS, ↓dNo, ↓dPt, ↓dStL, ↓dApp, ↓dExt, ↓dJoin, ↓dRg1, ↓dRg2, ↓dTupRg, ↓dLstRg, ↓oSub, ↓oMulI, ↓oMul, ↓oFdiv, ↓oMod, ↓oPow, ↓oShr, ↓oXor, ↓oNeg, ↓oAdd, ↓oAug, ↓oLt, ↓oLe, ↓oGt, ↓oGe, ↓oI, ↓oIx, ↓oLen, ↓oInt, ↓oOrd, ↓oAbs, ↓oStL, ↓oIn, ↓oNin, ↓oInB, ↓isi_int, ↓isi_int_bl, ↓isi_int_str, ↓isi_int_tup, ↓isi_int_lst, ↓isi_str, ↓isi_str_int, ↓isi_tup, ↓isi_tup_int, ↓isi_tup_str, ↓isi_tup_lst, ↓isi_lst, ↓isi_lst_tup, ↓isi_lst_int, ↓isi_lst_str, ↓cv, ↓Cell.val, ↓Cell.up, ↓Cell.own, ↓lenD, ↓itemsOf, List.getElem?_cons_zero, List.getElem?_cons_succ, List.set_cons_zero, List.set_cons_succ, Option.bind_some, Option.isSome_some, List.length_cons, List.length_nil, true_and, and_true, ↓ixN_lit, ↓atI_lit, ↓reduceIte, Nat.reduceAdd, Nat.reduceLT, Nat.reduceSub, Nat.zero_add, Nat.reduceLeDiff, Nat.lt_add_one, Nat.zero_lt_succ, ↓oEq_int, ↓oNe_int, ↓oEq_str, ↓oNe_str, ↓oEq_bl, ↓oNe_bl, decide_eq_true_eq, Bool.false_eq_true, ↓u_while, ↓ownAt, List.all_cons, List.all_nil, Bool.and_true, List.getD_cons_zero, List.getD_cons_succ, Bool.not_false, ↓oLe_sign, ↓oMulS, ↓dDic, ↓dLock, ↓dGetS, ↓dStD, ↓dInS, ↓oInD, ↓dKeys, ↓dGet1, ↓dGet2, ↓dRev, ↓dMulL, ↓dCount, ↓dScrSl, ↓dScrLen, ↓dScrList, ↓oStrI]
      by_cases ie : i = 0
      · rw [if_pos ie]
        subst hA
        simp only [↓dSeq, ↓dNext, ↓dBreak, ↓dCont, ↓dNever, ↓dRet, ↓dRetN, ↓dDrop, ↓dSet, ↓dIf, ↓dAug, ↓dAsg, ↓dPar, ↓dVar, ↓dMove, ↓dC, ↓dFz, ↓dUp, ↓dNil, ↓dCons, ↓dTup, ↓dLst, ↓dBin, ↓dUn, ↓dChain, ↓dTest, ↓dAnd, ↓dOr, ↓dNot, ↓dAndV, ↓dOrV, ↓dNotV, ↓dIfE, ↓dgName, ↓dgNil, ↓dgCons, ↓dgTup, ↓dIt, ↓dRng1, ↓dRng2, ↓dZip, ↓dEnum, ↓u_for, ↓u_lc, ↓dYes, ↓u_call, ↓u_callF, ↓u_callIo, ↓dCB, ↓dCBF, ↓dBinS, ↓dLenS, ↓dSl, ↓dSlS, ↓dNo, ↓dPt, ↓dStL, ↓dApp, ↓dExt, ↓dJoin, ↓dRg1, ↓dRg2, ↓dTupRg, ↓dLstRg, ↓oSub, ↓oMulI, ↓oMul, ↓oFdiv, ↓oMod, ↓oPow, ↓oShr, ↓oXor, ↓oNeg, ↓oAdd, ↓oAug, ↓oLt, ↓oLe, ↓oGt, ↓oGe, ↓oI, ↓oIx, ↓oLen, ↓oInt, ↓oOrd, ↓oAbs, ↓oStL, ↓oIn, ↓oNin, ↓oInB, ↓isi_int, ↓isi_int_bl, ↓isi_int_str, ↓isi_int_tup, ↓isi_int_lst, ↓isi_str, ↓isi_str_int, ↓isi_tup, ↓isi_tup_int, ↓isi_tup_str, ↓isi_tup_lst, ↓isi_lst, ↓isi_lst_tup, ↓isi_lst_int, ↓isi_lst_str, ↓cv, ↓Cell.val, ↓Cell.up, ↓Cell.own, ↓lenD, ↓itemsOf, List.getElem?_cons_zero, List.getElem?_cons_succ, List.set_cons_zero, List.set_cons_succ, Option.bind_some, Option.isSome_some, List.length_cons, List.length_nil, true_and, and_true, ↓ixN_lit, ↓atI_lit, ↓reduceIte, Nat.reduceAdd, Nat.reduceLT, Nat.reduceSub, Nat.zero_add, Nat.reduceLeDiff, Nat.lt_add_one, Nat.zero_lt_succ, ↓oEq_int, ↓oNe_int, ↓oEq_str, ↓oNe_str, ↓oEq_bl, ↓oNe_bl, decide_eq_true_eq, Bool.false_eq_true, ↓u_while, ↓ownAt, List.all_cons, List.all_nil, Bool.and_true, List.getD_cons_zero, List.getD_cons_succ, Bool.not_false, ↓oLe_sign, ↓oMulS, ↓dDic, ↓dLock, ↓dGetS, ↓dStD, ↓dInS, ↓oInD, ↓dKeys, ↓dGet1, ↓dGet2, ↓dRev, ↓dMulL, ↓dCount, ↓dScrSl, ↓dScrLen, ↓dScrList, ↓oStrI]
        refine ⟨rfl, onM (h3, (t.length : Int)) rfl ⟨ok3, by show (1 : Int) ≤ t.length; omega, by show (t.length : Int) < 1073741824; omega⟩ ?_⟩
        rintro r os ⟨u, h4, rfl, u0, u1, rfl, ok4⟩
        simp only [ioB, wipeE, fr_draw, ↓dSeq, ↓dNext, ↓dBreak, ↓dCont, ↓dNever, ↓dRet, ↓dRetN, ↓dDrop, ↓dSet, ↓dIf, ↓dAug, ↓dAsg, ↓dPar, ↓dVar, ↓dMove, ↓dC, ↓dFz, ↓dUp, ↓dNil, ↓dCons, ↓dTup, ↓dLst, ↓dBin, ↓dUn, ↓dChain, ↓dTest, ↓dAnd, ↓dOr, ↓dNot, ↓dAndV, ↓dOrV, ↓dNotV, ↓dIfE, ↓dgName, ↓dgNil, ↓dgCons, ↓dgTup, ↓dIt, ↓dRng1, ↓dRng2, ↓dZip, ↓dEnum, ↓u_for, ↓u_lc, ↓dYes, ↓u_call, ↓u_callF, ↓u_callIo, ↓dCB, ↓dCBF, ↓dBinS, ↓dLenS, ↓dSl, ↓dSlS, ↓dNo, ↓dPt, ↓dStL, ↓dApp, ↓dExt, ↓dJoin, ↓dRg1, ↓dRg2, ↓dTupRg, ↓dLstRg, ↓oSub, ↓oMulI, ↓oMul, ↓oFdiv, ↓oMod, ↓oPow, ↓oShr, ↓oXor, ↓oNeg, ↓oAdd, ↓oAug, ↓oLt, ↓oLe, ↓oGt, ↓oGe, ↓oI, ↓oIx, ↓oLen, ↓oInt, ↓oOrd, ↓oAbs, ↓oStL, ↓oIn, ↓oNin, ↓oInB, ↓isi_int, ↓isi_int_bl, ↓isi_int_str, ↓isi_int_tup, ↓isi_int_lst, ↓isi_str, ↓isi_str_int, ↓isi_tup, ↓isi_tup_int, ↓isi_tup_str, ↓isi_tup_lst, ↓isi_lst, ↓isi_lst_tup, ↓isi_lst_int, ↓isi_lst_str, ↓cv, ↓Cell.val, ↓Cell.up, ↓Cell.own, ↓lenD, ↓itemsOf, List.getElem?_cons_zero, List.getElem?_cons_succ, List.set_cons_zero, List.set_cons_succ, Option.bind_some, Option.isSome_some, List.length_cons, List.length_nil, true_and, and_true, ↓ixN_lit, ↓atI_lit, ↓reduceIte, Nat.reduceAdd, Nat.reduceLT, Nat.reduceSub, Nat.zero_add, Nat.reduceLeDiff, Nat.lt_add_one, Nat.zero_lt_succ, ↓oEq_int, ↓oNe_int, ↓oEq_str, ↓oNe_str, ↓oEq_bl, ↓oNe_bl, decide_eq_true_eq, Bool.false_eq_true, ↓u_while, ↓ownAt, List.all_cons, List.all_nil, Bool.and_true, List.getD_cons_zero, List.getD_cons_succ, Bool.not_false, ↓oLe_sign, ↓oMulS, ↓dDic, ↓dLock, ↓dGetS, ↓dStD, ↓dInS, ↓oInD, ↓dKeys, ↓dGet1, ↓dGet2, ↓dRev, ↓dMulL, ↓dCount, ↓dScrSl, ↓dScrLen, ↓dScrList, ↓oStrI]
        refine ⟨rfl, onM (h4, 12) rfl ⟨ok4, by show (1 : Int) ≤ 12; decide, by show (12 : Int) < 1073741824; decide⟩ ?_⟩
        rintro r os ⟨v, h5, rfl, v0, v1, rfl, ok5⟩
        have v1 : v < 12 := v1
        simp only [ioB, wipeE, fr_draw, ↓dSeq, ↓dNext, ↓dBreak, ↓dCont, ↓dNever, ↓dRet, ↓dRetN, ↓dDrop, ↓dSet, ↓dIf, ↓dAug, ↓dAsg, ↓dPar, ↓dVar, ↓dMove, ↓dC, ↓dFz, ↓dUp, ↓dNil, ↓dCons, ↓dTup, ↓dLst, ↓dBin, ↓dUn, ↓dChain, ↓dTest, ↓dAnd, ↓dOr, ↓dNot, ↓dAndV, ↓dOrV, ↓dNotV, ↓dIfE, ↓dgName, ↓dgNil, ↓dgCons, ↓dgTup, ↓dIt, ↓dRng1, ↓dRng2, ↓dZip, ↓dEnum, ↓u_for, ↓u_lc, ↓dYes, ↓u_call, ↓u_callF, ↓u_callIo, ↓dCB, ↓dCBF, ↓dBinS, ↓dLenS, ↓dSl, ↓dSlS, ↓dNo, ↓dPt, ↓dStL, ↓dApp, ↓dExt, ↓dJoin, ↓dRg1, ↓dRg2, ↓dTupRg, ↓dLstRg, ↓oSub, ↓oMulI, ↓oMul, ↓oFdiv, ↓oMod, ↓oPow, ↓oShr, ↓oXor, ↓oNeg, ↓oAdd, ↓oAug, ↓oLt, ↓oLe, ↓oGt, ↓oGe, ↓oI, ↓oIx, ↓oLen, ↓oInt, ↓oOrd, ↓oAbs, ↓oStL, ↓oIn, ↓oNin, ↓oInB, ↓isi_int, ↓isi_int_bl, ↓isi_int_str, ↓isi_int_tup, ↓isi_int_lst, ↓isi_str, ↓isi_str_int, ↓isi_tup, ↓isi_tup_int, ↓isi_tup_str, ↓isi_tup_lst, ↓isi_lst, ↓isi_lst_tup, ↓isi_lst_int, ↓isi_lst_str, ↓cv, ↓Cell.val, ↓Cell.up, ↓Cell.own, ↓lenD, ↓itemsOf, List.getElem?_cons_zero, List.getElem?_cons_succ, List.set_cons_zero, List.set_cons_succ, Option.bind_some, Option.isSome_some, List.length_cons, List.length_nil, true_and, and_true, ↓ixN_lit, ↓atI_lit, ↓reduceIte, Nat.reduceAdd, Nat.reduceLT, Nat.reduceSub, Nat.zero_add, Nat.reduceLeDiff, Nat.lt_add_one, Nat.zero_lt_succ, ↓oEq_int, ↓oNe_int, ↓oEq_str, ↓oNe_str, ↓oEq_bl, ↓oNe_bl, decide_eq_true_eq, Bool.false_eq_true, ↓u_while, ↓ownAt, List.all_cons, List.all_nil, Bool.and_true, List.getD_cons_zero, List.getD_cons_succ, Bool.not_false, ↓oLe_sign, ↓oMulS, ↓dDic, ↓dLock, ↓dGetS, ↓dStD, ↓dInS, ↓oInD, ↓dKeys, ↓dGet1, ↓dGet2, ↓dRev, ↓dMulL, ↓dCount, ↓dScrSl, ↓dScrLen, ↓dScrList, ↓oStrI, oSl]
        obtain ⟨a, rfl⟩ : ∃ a : Nat, u = (a : Int) := ⟨u.toNat, by omega⟩
        obtain ⟨b, rfl⟩ : ∃ b : Nat, v = (b : Int) := ⟨v.toNat, by omega⟩
        have ec : cutG t (some (a : Int)) (some ((a : Int) + 1 + (b : Int))) = (t.drop a).take (1 + b) := by
          rw [show ((a : Int) + 1 + (b : Int)) = ((a + 1 + b : Nat) : Int) by omega, cutG_nat, show a + 1 + b - a = 1 + b by omega]
        rw [ec]
        have hz : ((t.drop a).take (1 + b)).length ≤ 12 := by
          rw [List.length_take]; omega
        refine ⟨by show _ ≤ 16777216; omega, ?_⟩
        exact nx h5 _ _ ok5 (fun c hc => hs c (List.mem_of_mem_drop (List.mem_of_mem_take hc))) hz
      · rw [if_neg ie]
        exact hBk _ _ ok3
  · rintro ρ ⟨h2, t, x4, x5, ok2, hs, hl, rfl⟩
    simp only [↓dSeq, ↓dNext, ↓dBreak, ↓dCont, ↓dNever, ↓dRet, ↓dRetN, ↓dDrop, ↓dSet, ↓dIf, ↓dAug, ↓dAsg, ↓dPar, ↓dVar, ↓dMove, ↓dC, ↓dFz, ↓dUp, ↓dNil, ↓dCons, ↓dTup, ↓dLst, ↓dBin, ↓dUn, ↓dChain, ↓dTest, ↓dAnd, ↓dOr, ↓dNot, ↓dAndV, ↓dOrV, ↓dNotV, ↓dIfE, ↓dgName, ↓dgNil, ↓dgCons, ↓dgTup, ↓dIt, ↓dRng1, ↓dRng2, ↓dZip, ↓dEnum, ↓u_for, ↓u_lc, ↓dYes, ↓u_call, ↓u_callF, ↓u_callIo, ↓dCB, ↓dCBF, ↓dBinS, ↓dLenS, ↓dSl, ↓dSlS, ↓dNo, ↓dPt, ↓dStL, ↓dApp, ↓dExt, ↓dJoin, ↓dRg1, ↓dRg2, ↓dTupRg, ↓dLstRg, ↓oSub, ↓oMulI, ↓oMul, ↓oFdiv, ↓oMod, ↓oPow, ↓oShr, ↓oXor, ↓oNeg, ↓oAdd, ↓oAug, ↓oLt, ↓oLe, ↓oGt, ↓oGe, ↓oI, ↓oIx, ↓oLen, ↓oInt, ↓oOrd, ↓oAbs, ↓oStL, ↓oIn, ↓oNin, ↓oInB, ↓isi_int, ↓isi_int_bl, ↓isi_int_str, ↓isi_int_tup, ↓isi_int_lst, ↓isi_str, ↓isi_str_int, ↓isi_tup, ↓isi_tup_int, ↓isi_tup_str, ↓isi_tup_lst, ↓isi_lst, ↓isi_lst_tup, ↓isi_lst_int, ↓isi_lst_str, ↓cv, ↓Cell.val, ↓Cell.up, ↓Cell.own, ↓lenD, ↓itemsOf, List.getElem?_cons_zero, List.getElem?_cons_succ, List.set_cons_zero, List.set_cons_succ, Option.bind_some, Option.isSome_some, List.length_cons, List.length_nil, true_and, and_true, ↓ixN_lit, ↓atI_lit, ↓reduceIte, Nat.reduceAdd, Nat.reduceLT, Nat.reduceSub, Nat.zero_add, Nat.reduceLeDiff, Nat.lt_add_one, Nat.zero_lt_succ, ↓oEq_int, ↓oNe_int, ↓oEq_str, ↓oNe_str, ↓oEq_bl, ↓oNe_bl, decide_eq_true_eq, Bool.false_eq_true, ↓u_while, ↓ownAt, List.all_cons, List.all_nil, Bool.and_true, List.getD_cons_zero, List.getD_cons_succ, Bool.not_false, ↓oLe_sign, ↓oMulS, ↓dDic, ↓dLock, ↓dGetS, ↓dStD, ↓dInS, ↓oInD, ↓dKeys, ↓dGet1, ↓dGet2, ↓dRev, ↓dMulL, ↓dCount, ↓dScrSl, ↓dScrLen, ↓dScrList, ↓oStrI, oSl, cutG_to]
    refine ⟨rfl, post _ _ ⟨h2, t.take n, ok2, fun c hc => hs c (List.mem_of_mem_take hc), List.length_take_le .., rfl, rfl⟩⟩
end DL


namespace DL
open PySem PySem.Spec PyProof.Rows L2

/-! ### one run holds each stretch that has two periods -/
theorem left_ex {t : List Nat} {e p : Nat} : ∀ a, P t a e p → ∃ b, b ≤ a ∧ P t b e p ∧ (0 < b → ¬ P t (b - 1) e p)
  | 0, h => ⟨0, Nat.le_refl _, h, fun z => absurd z (Nat.lt_irrefl 0)⟩
  | a + 1, h => by
    by_cases c : P t a e p
    · obtain ⟨b, b1, b2, b3⟩ := left_ex a c
      exact ⟨b, by omega, b2, b3⟩
    · exact ⟨a + 1, Nat.le_refl _, h, fun _ => by rw [Nat.add_sub_cancel]; exact c⟩
theorem right_ex {t : List Nat} {b p : Nat} : ∀ f e, e + f = t.length → P t b e p → ∃ e', e ≤ e' ∧ e' ≤ t.length ∧ P t b e' p ∧ (e' < t.length → ¬ P t b (e' + 1) p)
  | 0, e, hf, h => ⟨e, Nat.le_refl _, by omega, h, fun z => by omega⟩
  | f + 1, e, hf, h => by
    by_cases c : P t b (e + 1) p
    · obtain ⟨e', a1, a2, a3, a4⟩ := right_ex f (e + 1) (by omega) c
      exact ⟨e', by omega, a2, a3, a4⟩
    · exact ⟨e, Nat.le_refl _, by omega, h, fun _ => c⟩
theorem P_in {t : List Nat} {b e a c p : Nat} (h : P t b e p) (h1 : b ≤ a) (h2 : c ≤ e) : P t a c p := fun i x y => h i (by omega) (by omega)
theorem run_ex {t : List Nat} {a c p : Nat} (hc : c ≤ t.length) (hl : a + 2 * p ≤ c) (h1 : 1 ≤ p) (h : P t a c p) (hm : ∀ q, q < p → 1 ≤ q → ¬ P t a c q) : ∃ b e, IsRun t b e p ∧ b ≤ a ∧ c ≤ e := by
  obtain ⟨e, e1, e2, e3, e4⟩ := right_ex (t.length - c) c (by omega) h
  obtain ⟨b, b1, b2, b3⟩ := left_ex a e3
  refine ⟨b, e, ⟨⟨h1, by omega, e2, b2, b3, fun z w => e4 z ?_⟩, fun q x y z => hm q x y (P_in z b1 e1)⟩, b1, e1⟩
  exact P_in w b1 (Nat.le_refl _)
theorem run_left {t : List Nat} {b e b' e' a c p : Nat} (r : IsRun t b e p) (r' : IsRun t b' e' p) (hl : a + 2 * p ≤ c) (h1 : b ≤ a) (h2 : c ≤ e) (h3 : b' ≤ a) (h4 : c ≤ e') : b ≤ b' := by
  by_cases q : b ≤ b'
  · exact q
  · refine absurd (fun i x y => ?_) (r.mx.lf (by omega))
    by_cases w : i = b - 1
    · exact r'.mx.per i (by omega) (by omega)
    · exact r.mx.per i (by omega) y
theorem run_right {t : List Nat} {b e b' e' a c p : Nat} (r : IsRun t b e p) (r' : IsRun t b' e' p) (hl : a + 2 * p ≤ c) (h1 : b ≤ a) (h2 : c ≤ e) (h3 : b' ≤ a) (h4 : c ≤ e') : e' ≤ e := by
  by_cases q : e' ≤ e
  · exact q
  · have := r'.mx.en
    refine absurd (fun i x y => ?_) (r.mx.rt (by omega))
    by_cases w : i + p = e
    · exact r'.mx.per i (by omega) (by omega)
    · exact r.mx.per i x (by omega)
theorem count_one {α β : Type} [DecidableEq β] {g : α → Option β} {p : β} {x : α} : ∀ {l : List α}, l.Nodup → x ∈ l → g x = some p → (∀ y ∈ l, g y = some p → y = x) → (l.filterMap g).count p = 1
  | z :: l, nd, hx, hg, un => by
    have nd' := List.nodup_cons.mp nd
    by_cases e : z = x
    · subst e
      rw [List.filterMap_cons, hg]
      simp only
      rw [List.count_cons_self, List.count_eq_zero.mpr]
      intro hp
      obtain ⟨y, hy, hgy⟩ := List.mem_filterMap.mp hp
      have := un y (List.mem_cons_of_mem _ hy) hgy
      subst this
      exact nd'.1 hy
    · have hx' : x ∈ l := (List.mem_cons.mp hx).resolve_left fun q => e q.symm
      have ih := count_one nd'.2 hx' hg fun y hy hgy => un y (List.mem_cons_of_mem _ hy) hgy
      rw [List.filterMap_cons]
      cases h : g z with
      | none => exact ih
      | some v =>
        simp only
        rw [List.count_cons, ih]
        have : v ≠ p := fun q => e (un z (List.mem_cons_self ..) (by rw [h, q]))
        simp [this]
theorem runsN_nodup (t : List Nat) : (runsN t).Nodup := (runsN_sorted t).imp fun {a b} h e => by
  subst e
  exact lt2_asym _ _ h h
def inR (a c : Nat) (x : Tri) : Option Int := if x.1 ≤ a ∧ c ≤ x.2.1 then some (x.2.2 : Nat) else none
theorem runs_count {t : List Nat} {a c p : Nat} (hc : c ≤ t.length) (hl : a + 2 * p ≤ c) (h1 : 1 ≤ p) (h : P t a c p) (hm : ∀ q, q < p → 1 ≤ q → ¬ P t a c q) : ((runsN t).filterMap (inR a c)).count (p : Int) = 1 := by
  obtain ⟨b, e, r, b1, e1⟩ := run_ex hc hl h1 h hm
  refine count_one (x := (b, e, p)) (runsN_nodup t) (mem_runsN.mpr r) (by unfold inR; rw [if_pos ⟨b1, e1⟩]) ?_
  rintro ⟨b', e', p'⟩ hy hg
  have r' := mem_runsN.mp hy
  unfold inR at hg
  by_cases q : b' ≤ a ∧ c ≤ e'
  · rw [if_pos q] at hg
    have ep : p' = p := by
      have hz : ((p' : Nat) : Int) = (p : Nat) := Option.some.inj hg
      omega
    subst ep
    have x1 := run_left r r' hl b1 e1 q.1 q.2
    have x2 := run_left r' r hl q.1 q.2 b1 e1
    have x3 := run_right r r' hl b1 e1 q.1 q.2
    have x4 := run_right r' r hl q.1 q.2 b1 e1
    rw [show b' = b by omega, show e' = e by omega]
  · rw [if_neg q] at hg; cases hg
def S__law_lies_right : FnSpec := mkSpec (α := Hand × List Nat) [true, false, false] false (fun x => [x.1.d, .str x.2, .lst ((runsN x.2).map trD)]) (fun x => x.1.Ok ∧ 0 < x.2.length ∧ x.2.length ≤ 1000) fun x r os => ∃ h' : Hand, h'.Ok ∧ r = .bl true ∧ os = [h'.d]
theorem fr_lies : S__law_lies_right.fresh = false := rfl
/-- _law_lies_right: slots 0 _law_hand_here, 1 _law_text_here, 2 _law_some, 3 _law_begin, 4 _law_behind, 5 _law_period, 6 _law_one -/
def D__law_lies_right : DTS := (dSeq (dSet 3 (dUp (dFz (dCallIo S__law_draw 0 (dCons (dLenS 1) dNil))))) (dSeq (dSet 4 (dUp (dBin oAdd (dBin oAdd (dVar 3) (dC (.int 1))) (dFz (dCallIo S__law_draw 0 (dCons (dBin oSub (dLenS 1) (dVar 3)) dNil)))))) (dSeq (dSet 5 (dUp (dCall S__law_least (dCons (dSlS 1 (dPt (dVar 3)) (dPt (dVar 4))) dNil)))) (dSeq (dIf (dTest (dBin oGt (dBin oMulS (dC (.int 2)) (dVar 5)) (dBin oSub (dVar 4) (dVar 3)))) (dRet (dUp (dC (.bl true)))) dNext) (dRet (dUp (dBin oEq (dCount (dFz (dLc (dIt (dVar 2)) (dgName 6) (dAnd (dTest (dBin oLe (dBinS 6 oIx (dC (.int 0))) (dVar 3))) (dTest (dBin oLe (dVar 4) (dBinS 6 oIx (dC (.int 1)))))) (dBinS 6 oIx (dC (.int 2))) [6])) (dVar 5)) (dC (.int 1)))))))))
theorem intsOf_ints (l : List Int) : intsOf (l.map .int) = some l := by
  have h := intsOf_map (fun a : Int => a) l
  rw [List.map_id'] at h
  exact h
theorem sem__law_lies_right : ∀ ds Kd, S__law_lies_right.ds ds Kd → D__law_lies_right (endsOf S__law_lies_right Kd) (env0 7 [true, false, false] ds) := by
  rintro ds Kd ⟨⟨h, t⟩, rfl, ⟨ok, h0, hz⟩, post⟩
  simp only at ok h0 hz post
  show D__law_lies_right (endsOf S__law_lies_right Kd) [.io h.d, .fz (.str t), .fz (.lst ((runsN t).map trD)), .un, .un, .un, .un]
  unfold D__law_lies_right
  refine seq_gen fun k hk => ?_
  simp only [↓dSeq, ↓dNext, ↓dBreak, ↓dCont, ↓dNever, ↓dRet, ↓dRetN, ↓dDrop, ↓dSet, ↓dIf, ↓dAug, ↓dAsg, ↓dPar, ↓dVar, ↓dMove, ↓dC, ↓dFz, ↓dUp, ↓dNil, ↓dCons, ↓dTup, ↓dLst, ↓dBin, ↓dUn, ↓dChain, ↓dTest, ↓dAnd, ↓dOr, ↓dNot, ↓dAndV, ↓dOrV, ↓dNotV, ↓dIfE, ↓dgName, ↓dgNil, ↓dgCons, ↓dgTup, ↓dIt, ↓dRng1, ↓dRng2, ↓dZip, ↓dEnum, ↓u_for, ↓u_lc, ↓dYes, ↓u_call, ↓u_callF, ↓u_callIo, ↓dCB, ↓dCBF, ↓dBinS, ↓dLenS, ↓dSl, ↓dSlS, ↓dNo, ↓dPt, ↓dStL, ↓dApp, ↓dExt, ↓dJoin, ↓dRg1, ↓dRg2, ↓dTupRg, ↓dLstRg, ↓oSub, ↓oMulI, ↓oMul, ↓oFdiv, ↓oMod, ↓oPow, ↓oShr, ↓oXor, ↓oNeg, ↓oAdd, ↓oAug, ↓oLt, ↓oLe, ↓oGt, ↓oGe, ↓oI, ↓oIx, ↓oLen, ↓oInt, ↓oOrd, ↓oAbs, ↓oStL, ↓oIn, ↓oNin, ↓oInB, ↓isi_int, ↓isi_int_bl, ↓isi_int_str, ↓isi_int_tup, ↓isi_int_lst, ↓isi_str, ↓isi_str_int, ↓isi_tup, ↓isi_tup_int, ↓isi_tup_str, ↓isi_tup_lst, ↓isi_lst, ↓isi_lst_tup, ↓isi_lst_int, ↓isi_lst_str, ↓cv, ↓Cell.val, ↓Cell.up, ↓Cell.own, ↓lenD, ↓itemsOf, List.getElem?_cons_zero, List.getElem?_cons_succ, List.set_cons_zero, List.set_cons_succ, Option.bind_some, Option.isSome_some, List.length_cons, List.length_nil, true_and, and_true, ↓ixN_lit, ↓atI_lit, ↓reduceIte, Nat.reduceAdd, Nat.reduceLT, Nat.reduceSub, Nat.zero_add, Nat.reduceLeDiff, Nat.lt_add_one, Nat.zero_lt_succ, ↓oEq_int, ↓oNe_int, ↓oEq_str, ↓oNe_str, ↓oEq_bl, ↓oNe_bl, decide_eq_true_eq, Bool.false_eq_true, ↓u_while, ↓ownAt, List.all_cons, List.all_nil, Bool.and_true, List.getD_cons_zero, List.getD_cons_succ, Bool.not_false, ↓oLe_sign, ↓oMulS, ↓dDic, ↓dLock, ↓dGetS, ↓dStD, ↓dInS, ↓oInD, ↓dKeys, ↓dGet1, ↓dGet2, ↓dRev, ↓dMulL, ↓dCount, ↓dScrSl, ↓dScrLen, ↓dScrList, ↓oStrI]
  refine ⟨rfl, onM (h, (t.length : Int)) rfl ⟨ok, by show (1 : Int) ≤ t.length; omega, by show (t.length : Int) < 1073741824; omega⟩ ?_⟩
  rintro r os ⟨a, h2, rfl, a0, a1, rfl, ok2⟩
  have a1 : a < t.length := a1
  simp only [ioB, wipeE, fr_draw, ↓dSeq, ↓dNext, ↓dBreak, ↓dCont, ↓dNever, ↓dRet, ↓dRetN, ↓dDrop, ↓dSet, ↓dIf, ↓dAug, ↓dAsg, ↓dPar, ↓dVar, ↓dMove, ↓dC, ↓dFz, ↓dUp, ↓dNil, ↓dCons, ↓dTup, ↓dLst, ↓dBin, ↓dUn, ↓dChain, ↓dTest, ↓dAnd, ↓dOr, ↓dNot, ↓dAndV, ↓dOrV, ↓dNotV, ↓dIfE, ↓dgName, ↓dgNil, ↓dgCons, ↓dgTup, ↓dIt, ↓dRng1, ↓dRng2, ↓dZip, ↓dEnum, ↓u_for, ↓u_lc, ↓dYes, ↓u_call, ↓u_callF, ↓u_callIo, ↓dCB, ↓dCBF, ↓dBinS, ↓dLenS, ↓dSl, ↓dSlS, ↓dNo, ↓dPt, ↓dStL, ↓dApp, ↓dExt, ↓dJoin, ↓dRg1, ↓dRg2, ↓dTupRg, ↓dLstRg, ↓oSub, ↓oMulI, ↓oMul, ↓oFdiv, ↓oMod, ↓oPow, ↓oShr, ↓oXor, ↓oNeg, ↓oAdd, ↓oAug, ↓oLt, ↓oLe, ↓oGt, ↓oGe, ↓oI, ↓oIx, ↓oLen, ↓oInt, ↓oOrd, ↓oAbs, ↓oStL, ↓oIn, ↓oNin, ↓oInB, ↓isi_int, ↓isi_int_bl, ↓isi_int_str, ↓isi_int_tup, ↓isi_int_lst, ↓isi_str, ↓isi_str_int, ↓isi_tup, ↓isi_tup_int, ↓isi_tup_str, ↓isi_tup_lst, ↓isi_lst, ↓isi_lst_tup, ↓isi_lst_int, ↓isi_lst_str, ↓cv, ↓Cell.val, ↓Cell.up, ↓Cell.own, ↓lenD, ↓itemsOf, List.getElem?_cons_zero, List.getElem?_cons_succ, List.set_cons_zero, List.set_cons_succ, Option.bind_some, Option.isSome_some, List.length_cons, List.length_nil, true_and, and_true, ↓ixN_lit, ↓atI_lit, ↓reduceIte, Nat.reduceAdd, Nat.reduceLT, Nat.reduceSub, Nat.zero_add, Nat.reduceLeDiff, Nat.lt_add_one, Nat.zero_lt_succ, ↓oEq_int, ↓oNe_int, ↓oEq_str, ↓oNe_str, ↓oEq_bl, ↓oNe_bl, decide_eq_true_eq, Bool.false_eq_true, ↓u_while, ↓ownAt, List.all_cons, List.all_nil, Bool.and_true, List.getD_cons_zero, List.getD_cons_succ, Bool.not_false, ↓oLe_sign, ↓oMulS, ↓dDic, ↓dLock, ↓dGetS, ↓dStD, ↓dInS, ↓oInD, ↓dKeys, ↓dGet1, ↓dGet2, ↓dRev, ↓dMulL, ↓dCount, ↓dScrSl, ↓dScrLen, ↓dScrList, ↓oStrI]
  subst hk
  refine seq_gen fun k hk => ?_
  simp only [↓dSeq, ↓dNext, ↓dBreak, ↓dCont, ↓dNever, ↓dRet, ↓dRetN, ↓dDrop, ↓dSet, ↓dIf, ↓dAug, ↓dAsg, ↓dPar, ↓dVar, ↓dMove, ↓dC, ↓dFz, ↓dUp, ↓dNil, ↓dCons, ↓dTup, ↓dLst, ↓dBin, ↓dUn, ↓dChain, ↓dTest, ↓dAnd, ↓dOr, ↓dNot, ↓dAndV, ↓dOrV, ↓dNotV, ↓dIfE, ↓dgName, ↓dgNil, ↓dgCons, ↓dgTup, ↓dIt, ↓dRng1, ↓dRng2, ↓dZip, ↓dEnum, ↓u_for, ↓u_lc, ↓dYes, ↓u_call, ↓u_callF, ↓u_callIo, ↓dCB, ↓dCBF, ↓dBinS, ↓dLenS, ↓dSl, ↓dSlS, ↓dNo, ↓dPt, ↓dStL, ↓dApp, ↓dExt, ↓dJoin, ↓dRg1, ↓dRg2, ↓dTupRg, ↓dLstRg, ↓oSub, ↓oMulI, ↓oMul, ↓oFdiv, ↓oMod, ↓oPow, ↓oShr, ↓oXor, ↓oNeg, ↓oAdd, ↓oAug, ↓oLt, ↓oLe, ↓oGt, ↓oGe, ↓oI, ↓oIx, ↓oLen, ↓oInt, ↓oOrd, ↓oAbs, ↓oStL, ↓oIn, ↓oNin, ↓oInB, ↓isi_int, ↓isi_int_bl, ↓isi_int_str, ↓isi_int_tup, ↓isi_int_lst, ↓isi_str, ↓isi_str_int, ↓isi_tup, ↓isi_tup_int, ↓isi_tup_str, ↓isi_tup_lst, ↓isi_lst, ↓isi_lst_tup, ↓isi_lst_int, ↓isi_lst_str, ↓cv, ↓Cell.val, ↓Cell.up, ↓Cell.own, ↓lenD, ↓itemsOf, List.getElem?_cons_zero, List.getElem?_cons_succ, List.set_cons_zero, List.set_cons_succ, Option.bind_some, Option.isSome_some, List.length_cons, List.length_nil, true_and, and_true, ↓ixN_lit, ↓atI_lit, ↓reduceIte, Nat.reduceAdd, Nat.reduceLT, Nat.reduceSub, Nat.zero_add, Nat.reduceLeDiff, Nat.lt_add_one, Nat.zero_lt_succ, ↓oEq_int, ↓oNe_int, ↓oEq_str, ↓oNe_str, ↓oEq_bl, ↓oNe_bl, decide_eq_true_eq, Bool.false_eq_true, ↓u_while, ↓ownAt, List.all_cons, List.all_nil, Bool.and_true, List.getD_cons_zero, List.getD_cons_succ, Bool.not_false, ↓oLe_sign, ↓oMulS, ↓dDic, ↓dLock, ↓dGetS, ↓dStD, ↓dInS, ↓oInD, ↓dKeys, ↓dGet1, ↓dGet2, ↓dRev, ↓dMulL, ↓dCount, ↓dScrSl, ↓dScrLen, ↓dScrList, ↓oStrI]
  refine ⟨rfl, onM (h2, (t.length : Int) - a) rfl ⟨ok2, by show (1 : Int) ≤ t.length - a; omega, by show (t.length : Int) - a < 1073741824; omega⟩ ?_⟩
  rintro r os ⟨c, h3, rfl, c0, c1, rfl, ok3⟩
  have c1 : c < t.length - a := c1
  simp only [ioB, wipeE, fr_draw, ↓dSeq, ↓dNext, ↓dBreak, ↓dCont, ↓dNever, ↓dRet, ↓dRetN, ↓dDrop, ↓dSet, ↓dIf, ↓dAug, ↓dAsg, ↓dPar, ↓dVar, ↓dMove, ↓dC, ↓dFz, ↓dUp, ↓dNil, ↓dCons, ↓dTup, ↓dLst, ↓dBin, ↓dUn, ↓dChain, ↓dTest, ↓dAnd, ↓dOr, ↓dNot, ↓dAndV, ↓dOrV, ↓dNotV, ↓dIfE, ↓dgName, ↓dgNil, ↓dgCons, ↓dgTup, ↓dIt, ↓dRng1, ↓dRng2, ↓dZip, ↓dEnum, ↓u_for, ↓u_lc, ↓dYes, ↓u_call, ↓u_callF, ↓u_callIo, ↓dCB, ↓dCBF, ↓dBinS, ↓dLenS, ↓dSl, ↓dSlS, ↓dNo, ↓dPt, ↓dStL, ↓dApp, ↓dExt, ↓dJoin, ↓dRg1, ↓dRg2, ↓dTupRg, ↓dLstRg, ↓oSub, ↓oMulI, ↓oMul, ↓oFdiv, ↓oMod, ↓oPow, ↓oShr, ↓oXor, ↓oNeg, ↓oAdd, ↓oAug, ↓oLt, ↓oLe, ↓oGt, ↓oGe, ↓oI, ↓oIx, ↓oLen, ↓oInt, ↓oOrd, ↓oAbs, ↓oStL, ↓oIn, ↓oNin, ↓oInB, ↓isi_int, ↓isi_int_bl, ↓isi_int_str, ↓isi_int_tup, ↓isi_int_lst, ↓isi_str, ↓isi_str_int, ↓isi_tup, ↓isi_tup_int, ↓isi_tup_str, ↓isi_tup_lst, ↓isi_lst, ↓isi_lst_tup, ↓isi_lst_int, ↓isi_lst_str, ↓cv, ↓Cell.val, ↓Cell.up, ↓Cell.own, ↓lenD, ↓itemsOf, List.getElem?_cons_zero, List.getElem?_cons_succ, List.set_cons_zero, List.set_cons_succ, Option.bind_some, Option.isSome_some, List.length_cons, List.length_nil, true_and, and_true, ↓ixN_lit, ↓atI_lit, ↓reduceIte, Nat.reduceAdd, Nat.reduceLT, Nat.reduceSub, Nat.zero_add, Nat.reduceLeDiff, Nat.lt_add_one, Nat.zero_lt_succ, ↓oEq_int, ↓oNe_int, ↓oEq_str, ↓oNe_str, ↓oEq_bl, ↓oNe_bl, decide_eq_true_eq, Bool.false_eq_true, ↓u_while, ↓ownAt, List.all_cons, List.all_nil, Bool.and_true, List.getD_cons_zero, List.getD_cons_succ, Bool.not_false, ↓oLe_sign, ↓oMulS, ↓dDic, ↓dLock, ↓dGetS, ↓dStD, ↓dInS, ↓oInD, ↓dKeys, ↓dGet1, ↓dGet2, ↓dRev, ↓dMulL, ↓dCount, ↓dScrSl, ↓dScrLen, ↓dScrList, ↓oStrI]
  obtain ⟨a, rfl⟩ : ∃ n : Nat, a = (n : Int) := ⟨a.toNat, by omega⟩
  obtain ⟨c, rfl⟩ : ∃ n : Nat, c = (n : Int) := ⟨c.toNat, by omega⟩
  rw [show ((a : Int) + 1 + (c : Int)) = ((a + 1 + c : Nat) : Int) by omega]
  have hc : a + 1 + c ≤ t.length := by omega
  have hac : a < a + 1 + c := by omega
  generalize a + 1 + c = c at hc hac
  subst hk
  refine seq_gen fun k hk => ?_
  simp only [↓dSeq, ↓dNext, ↓dBreak, ↓dCont, ↓dNever, ↓dRet, ↓dRetN, ↓dDrop, ↓dSet, ↓dIf, ↓dAug, ↓dAsg, ↓dPar, ↓dVar, ↓dMove, ↓dC, ↓dFz, ↓dUp, ↓dNil, ↓dCons, ↓dTup, ↓dLst, ↓dBin, ↓dUn, ↓dChain, ↓dTest, ↓dAnd, ↓dOr, ↓dNot, ↓dAndV, ↓dOrV, ↓dNotV, ↓dIfE, ↓dgName, ↓dgNil, ↓dgCons, ↓dgTup, ↓dIt, ↓dRng1, ↓dRng2, ↓dZip, ↓dEnum, ↓u_for, ↓u_lc, ↓dYes, ↓u_call, ↓u_callF, ↓u_callIo, ↓dCB, ↓dCBF, ↓dBinS, ↓dLenS, ↓dSl, ↓dSlS, ↓dNo, ↓dPt, ↓dStL, ↓dApp, ↓dExt, ↓dJoin, ↓dRg1, ↓dRg2, ↓dTupRg, ↓dLstRg, ↓oSub, ↓oMulI, ↓oMul, ↓oFdiv, ↓oMod, ↓oPow, ↓oShr, ↓oXor, ↓oNeg, ↓oAdd, ↓oAug, ↓oLt, ↓oLe, ↓oGt, ↓oGe, ↓oI, ↓oIx, ↓oLen, ↓oInt, ↓oOrd, ↓oAbs, ↓oStL, ↓oIn, ↓oNin, ↓oInB, ↓isi_int, ↓isi_int_bl, ↓isi_int_str, ↓isi_int_tup, ↓isi_int_lst, ↓isi_str, ↓isi_str_int, ↓isi_tup, ↓isi_tup_int, ↓isi_tup_str, ↓isi_tup_lst, ↓isi_lst, ↓isi_lst_tup, ↓isi_lst_int, ↓isi_lst_str, ↓cv, ↓Cell.val, ↓Cell.up, ↓Cell.own, ↓lenD, ↓itemsOf, List.getElem?_cons_zero, List.getElem?_cons_succ, List.set_cons_zero, List.set_cons_succ, Option.bind_some, Option.isSome_some, List.length_cons, List.length_nil, true_and, and_true, ↓ixN_lit, ↓atI_lit, ↓reduceIte, Nat.reduceAdd, Nat.reduceLT, Nat.reduceSub, Nat.zero_add, Nat.reduceLeDiff, Nat.lt_add_one, Nat.zero_lt_succ, ↓oEq_int, ↓oNe_int, ↓oEq_str, ↓oNe_str, ↓oEq_bl, ↓oNe_bl, decide_eq_true_eq, Bool.false_eq_true, ↓u_while, ↓ownAt, List.all_cons, List.all_nil, Bool.and_true, List.getD_cons_zero, List.getD_cons_succ, Bool.not_false, ↓oLe_sign, ↓oMulS, ↓dDic, ↓dLock, ↓dGetS, ↓dStD, ↓dInS, ↓oInD, ↓dKeys, ↓dGet1, ↓dGet2, ↓dRev, ↓dMulL, ↓dCount, ↓dScrSl, ↓dScrLen, ↓dScrList, ↓oStrI, oSl]
  rw [show cutG t (some (a : Int)) (some (c : Int)) = cut t a c from cutG_nat t a c]
  have hl := cut_length (b := a) hc
  refine ⟨rfl, onF (cut t a c) rfl ⟨by omega, by omega⟩ ?_⟩
  simp only [↓dSeq, ↓dNext, ↓dBreak, ↓dCont, ↓dNever, ↓dRet, ↓dRetN, ↓dDrop, ↓dSet, ↓dIf, ↓dAug, ↓dAsg, ↓dPar, ↓dVar, ↓dMove, ↓dC, ↓dFz, ↓dUp, ↓dNil, ↓dCons, ↓dTup, ↓dLst, ↓dBin, ↓dUn, ↓dChain, ↓dTest, ↓dAnd, ↓dOr, ↓dNot, ↓dAndV, ↓dOrV, ↓dNotV, ↓dIfE, ↓dgName, ↓dgNil, ↓dgCons, ↓dgTup, ↓dIt, ↓dRng1, ↓dRng2, ↓dZip, ↓dEnum, ↓u_for, ↓u_lc, ↓dYes, ↓u_call, ↓u_callF, ↓u_callIo, ↓dCB, ↓dCBF, ↓dBinS, ↓dLenS, ↓dSl, ↓dSlS, ↓dNo, ↓dPt, ↓dStL, ↓dApp, ↓dExt, ↓dJoin, ↓dRg1, ↓dRg2, ↓dTupRg, ↓dLstRg, ↓oSub, ↓oMulI, ↓oMul, ↓oFdiv, ↓oMod, ↓oPow, ↓oShr, ↓oXor, ↓oNeg, ↓oAdd, ↓oAug, ↓oLt, ↓oLe, ↓oGt, ↓oGe, ↓oI, ↓oIx, ↓oLen, ↓oInt, ↓oOrd, ↓oAbs, ↓oStL, ↓oIn, ↓oNin, ↓oInB, ↓isi_int, ↓isi_int_bl, ↓isi_int_str, ↓isi_int_tup, ↓isi_int_lst, ↓isi_str, ↓isi_str_int, ↓isi_tup, ↓isi_tup_int, ↓isi_tup_str, ↓isi_tup_lst, ↓isi_lst, ↓isi_lst_tup, ↓isi_lst_int, ↓isi_lst_str, ↓cv, ↓Cell.val, ↓Cell.up, ↓Cell.own, ↓lenD, ↓itemsOf, List.getElem?_cons_zero, List.getElem?_cons_succ, List.set_cons_zero, List.set_cons_succ, Option.bind_some, Option.isSome_some, List.length_cons, List.length_nil, true_and, and_true, ↓ixN_lit, ↓atI_lit, ↓reduceIte, Nat.reduceAdd, Nat.reduceLT, Nat.reduceSub, Nat.zero_add, Nat.reduceLeDiff, Nat.lt_add_one, Nat.zero_lt_succ, ↓oEq_int, ↓oNe_int, ↓oEq_str, ↓oNe_str, ↓oEq_bl, ↓oNe_bl, decide_eq_true_eq, Bool.false_eq_true, ↓u_while, ↓ownAt, List.all_cons, List.all_nil, Bool.and_true, List.getD_cons_zero, List.getD_cons_succ, Bool.not_false, ↓oLe_sign, ↓oMulS, ↓dDic, ↓dLock, ↓dGetS, ↓dStD, ↓dInS, ↓oInD, ↓dKeys, ↓dGet1, ↓dGet2, ↓dRev, ↓dMulL, ↓dCount, ↓dScrSl, ↓dScrLen, ↓dScrList, ↓oStrI]
  have hp1 : 1 ≤ lp (cut t a c) := lp_pos (by omega)
  have hpl := lp_le (cut t a c)
  have hpp := (lp_cut hc hac hp1).mp rfl
  generalize lp (cut t a c) = p at hp1 hpl hpp
  subst hk
  refine seq_gen fun k hk => ?_
  simp only [↓dSeq, ↓dNext, ↓dBreak, ↓dCont, ↓dNever, ↓dRet, ↓dRetN, ↓dDrop, ↓dSet, ↓dIf, ↓dAug, ↓dAsg, ↓dPar, ↓dVar, ↓dMove, ↓dC, ↓dFz, ↓dUp, ↓dNil, ↓dCons, ↓dTup, ↓dLst, ↓dBin, ↓dUn, ↓dChain, ↓dTest, ↓dAnd, ↓dOr, ↓dNot, ↓dAndV, ↓dOrV, ↓dNotV, ↓dIfE, ↓dgName, ↓dgNil, ↓dgCons, ↓dgTup, ↓dIt, ↓dRng1, ↓dRng2, ↓dZip, ↓dEnum, ↓u_for, ↓u_lc, ↓dYes, ↓u_call, ↓u_callF, ↓u_callIo, ↓dCB, ↓dCBF, ↓dBinS, ↓dLenS, ↓dSl, ↓dSlS, ↓dNo, ↓dPt, ↓dStL, ↓dApp, ↓dExt, ↓dJoin, ↓dRg1, ↓dRg2, ↓dTupRg, ↓dLstRg, ↓oSub, ↓oMulI, ↓oMul, ↓oFdiv, ↓oMod, ↓oPow, ↓oShr, ↓oXor, ↓oNeg, ↓oAdd, ↓oAug, ↓oLt, ↓oLe, ↓oGt, ↓oGe, ↓oI, ↓oIx, ↓oLen, ↓oInt, ↓oOrd, ↓oAbs, ↓oStL, ↓oIn, ↓oNin, ↓oInB, ↓isi_int, ↓isi_int_bl, ↓isi_int_str, ↓isi_int_tup, ↓isi_int_lst, ↓isi_str, ↓isi_str_int, ↓isi_tup, ↓isi_tup_int, ↓isi_tup_str, ↓isi_tup_lst, ↓isi_lst, ↓isi_lst_tup, ↓isi_lst_int, ↓isi_lst_str, ↓cv, ↓Cell.val, ↓Cell.up, ↓Cell.own, ↓lenD, ↓itemsOf, List.getElem?_cons_zero, List.getElem?_cons_succ, List.set_cons_zero, List.set_cons_succ, Option.bind_some, Option.isSome_some, List.length_cons, List.length_nil, true_and, and_true, ↓ixN_lit, ↓atI_lit, ↓reduceIte, Nat.reduceAdd, Nat.reduceLT, Nat.reduceSub, Nat.zero_add, Nat.reduceLeDiff, Nat.lt_add_one, Nat.zero_lt_succ, ↓oEq_int, ↓oNe_int, ↓oEq_str, ↓oNe_str, ↓oEq_bl, ↓oNe_bl, decide_eq_true_eq, Bool.false_eq_true, ↓u_while, ↓ownAt, List.all_cons, List.all_nil, Bool.and_true, List.getD_cons_zero, List.getD_cons_succ, Bool.not_false, ↓oLe_sign, ↓oMulS, ↓dDic, ↓dLock, ↓dGetS, ↓dStD, ↓dInS, ↓oInD, ↓dKeys, ↓dGet1, ↓dGet2, ↓dRev, ↓dMulL, ↓dCount, ↓dScrSl, ↓dScrLen, ↓dScrList, ↓oStrI]
  refine ⟨cmul_l (by decide) (by decide), ?_⟩
  by_cases q : (c : Int) - (a : Nat) < 2 * (p : Nat)
  · rw [if_pos q]
    exact ⟨rfl, post _ _ ⟨h3, ok3, rfl, rfl⟩⟩
  · rw [if_neg q]
    subst hk
    simp only [↓dSeq, ↓dNext, ↓dBreak, ↓dCont, ↓dNever, ↓dRet, ↓dRetN, ↓dDrop, ↓dSet, ↓dIf, ↓dAug, ↓dAsg, ↓dPar, ↓dVar, ↓dMove, ↓dC, ↓dFz, ↓dUp, ↓dNil, ↓dCons, ↓dTup, ↓dLst, ↓dBin, ↓dUn, ↓dChain, ↓dTest, ↓dAnd, ↓dOr, ↓dNot, ↓dAndV, ↓dOrV, ↓dNotV, ↓dIfE, ↓dgName, ↓dgNil, ↓dgCons, ↓dgTup, ↓dIt, ↓dRng1, ↓dRng2, ↓dZip, ↓dEnum, ↓u_for, ↓u_lc, ↓dYes, ↓u_call, ↓u_callF, ↓u_callIo, ↓dCB, ↓dCBF, ↓dBinS, ↓dLenS, ↓dSl, ↓dSlS, ↓dNo, ↓dPt, ↓dStL, ↓dApp, ↓dExt, ↓dJoin, ↓dRg1, ↓dRg2, ↓dTupRg, ↓dLstRg, ↓oSub, ↓oMulI, ↓oMul, ↓oFdiv, ↓oMod, ↓oPow, ↓oShr, ↓oXor, ↓oNeg, ↓oAdd, ↓oAug, ↓oLt, ↓oLe, ↓oGt, ↓oGe, ↓oI, ↓oIx, ↓oLen, ↓oInt, ↓oOrd, ↓oAbs, ↓oStL, ↓oIn, ↓oNin, ↓oInB, ↓isi_int, ↓isi_int_bl, ↓isi_int_str, ↓isi_int_tup, ↓isi_int_lst, ↓isi_str, ↓isi_str_int, ↓isi_tup, ↓isi_tup_int, ↓isi_tup_str, ↓isi_tup_lst, ↓isi_lst, ↓isi_lst_tup, ↓isi_lst_int, ↓isi_lst_str, ↓cv, ↓Cell.val, ↓Cell.up, ↓Cell.own, ↓lenD, ↓itemsOf, List.getElem?_cons_zero, List.getElem?_cons_succ, List.set_cons_zero, List.set_cons_succ, Option.bind_some, Option.isSome_some, List.length_cons, List.length_nil, true_and, and_true, ↓ixN_lit, ↓atI_lit, ↓reduceIte, Nat.reduceAdd, Nat.reduceLT, Nat.reduceSub, Nat.zero_add, Nat.reduceLeDiff, Nat.lt_add_one, Nat.zero_lt_succ, ↓oEq_int, ↓oNe_int, ↓oEq_str, ↓oNe_str, ↓oEq_bl, ↓oNe_bl, decide_eq_true_eq, Bool.false_eq_true, ↓u_while, ↓ownAt, List.all_cons, List.all_nil, Bool.and_true, List.getD_cons_zero, List.getD_cons_succ, Bool.not_false, ↓oLe_sign, ↓oMulS, ↓dDic, ↓dLock, ↓dGetS, ↓dStD, ↓dInS, ↓oInD, ↓dKeys, ↓dGet1, ↓dGet2, ↓dRev, ↓dMulL, ↓dCount, ↓dScrSl, ↓dScrLen, ↓dScrList, ↓oStrI]
    have hcount := runs_count hc (by omega) hp1 hpp.1 hpp.2
    generalize runsN t = l at hcount
    refine lcB_of (lcI_inv (fun m acc ρ => ∃ x6, acc = ((l.take m).filterMap (inR a c)).map .int ∧ ρ = [.io h3.d, .fz (.str t), .fz (.lst (l.map trD)), .fz (.int (a : Nat)), .fz (.int (c : Nat)), .fz (.int (p : Nat)), x6]) ?_ ?_ _ _ ⟨.un, rfl, rfl⟩)
    · rintro m x acc ρ kT kF hx ⟨x6, rfl, rfl⟩ hT hF
      rw [List.getElem?_map] at hx
      obtain ⟨y, hy, rfl⟩ := Option.map_eq_some_iff.mp hx
      have ej := take_snoc hy
      obtain ⟨b, e, p'⟩ := y
      show dgName 6 (.tup [.int (b : Nat), .int (e : Nat), .int (p' : Nat)]) _ _
      simp only [wipeE, ↓dSeq, ↓dNext, ↓dBreak, ↓dCont, ↓dNever, ↓dRet, ↓dRetN, ↓dDrop, ↓dSet, ↓dIf, ↓dAug, ↓dAsg, ↓dPar, ↓dVar, ↓dMove, ↓dC, ↓dFz, ↓dUp, ↓dNil, ↓dCons, ↓dTup, ↓dLst, ↓dBin, ↓dUn, ↓dChain, ↓dTest, ↓dAnd, ↓dOr, ↓dNot, ↓dAndV, ↓dOrV, ↓dNotV, ↓dIfE, ↓dgName, ↓dgNil, ↓dgCons, ↓dgTup, ↓dIt, ↓dRng1, ↓dRng2, ↓dZip, ↓dEnum, ↓u_for, ↓u_lc, ↓dYes, ↓u_call, ↓u_callF, ↓u_callIo, ↓dCB, ↓dCBF, ↓dBinS, ↓dLenS, ↓dSl, ↓dSlS, ↓dNo, ↓dPt, ↓dStL, ↓dApp, ↓dExt, ↓dJoin, ↓dRg1, ↓dRg2, ↓dTupRg, ↓dLstRg, ↓oSub, ↓oMulI, ↓oMul, ↓oFdiv, ↓oMod, ↓oPow, ↓oShr, ↓oXor, ↓oNeg, ↓oAdd, ↓oAug, ↓oLt, ↓oLe, ↓oGt, ↓oGe, ↓oI, ↓oIx, ↓oLen, ↓oInt, ↓oOrd, ↓oAbs, ↓oStL, ↓oIn, ↓oNin, ↓oInB, ↓isi_int, ↓isi_int_bl, ↓isi_int_str, ↓isi_int_tup, ↓isi_int_lst, ↓isi_str, ↓isi_str_int, ↓isi_tup, ↓isi_tup_int, ↓isi_tup_str, ↓isi_tup_lst, ↓isi_lst, ↓isi_lst_tup, ↓isi_lst_int, ↓isi_lst_str, ↓cv, ↓Cell.val, ↓Cell.up, ↓Cell.own, ↓lenD, ↓itemsOf, List.getElem?_cons_zero, List.getElem?_cons_succ, List.set_cons_zero, List.set_cons_succ, Option.bind_some, Option.isSome_some, List.length_cons, List.length_nil, true_and, and_true, ↓ixN_lit, ↓atI_lit, ↓reduceIte, Nat.reduceAdd, Nat.reduceLT, Nat.reduceSub, Nat.zero_add, Nat.reduceLeDiff, Nat.lt_add_one, Nat.zero_lt_succ, ↓oEq_int, ↓oNe_int, ↓oEq_str, ↓oNe_str, ↓oEq_bl, ↓oNe_bl, decide_eq_true_eq, Bool.false_eq_true, ↓u_while, ↓ownAt, List.all_cons, List.all_nil, Bool.and_true, List.getD_cons_zero, List.getD_cons_succ, Bool.not_false, ↓oLe_sign, ↓oMulS, ↓dDic, ↓dLock, ↓dGetS, ↓dStD, ↓dInS, ↓oInD, ↓dKeys, ↓dGet1, ↓dGet2, ↓dRev, ↓dMulL, ↓dCount, ↓dScrSl, ↓dScrLen, ↓dScrList, ↓oStrI]
      have yes : b ≤ a ∧ c ≤ e → ((l.take (m + 1)).filterMap (inR a c)).map D.int = ((l.take m).filterMap (inR a c)).map D.int ++ [D.int (p' : Nat)] := by
        intro q
        have e1 : inR a c (b, e, p') = some (p' : Int) := if_pos q
        rw [ej, List.filterMap_append, List.map_append]
        simp [e1]
      have no : ¬ (b ≤ a ∧ c ≤ e) → ((l.take (m + 1)).filterMap (inR a c)).map D.int = ((l.take m).filterMap (inR a c)).map D.int := by
        intro q
        have e1 : inR a c (b, e, p') = none := if_neg q
        rw [ej, List.filterMap_append, List.map_append]
        simp [e1]
      by_cases q1 : b ≤ a
      · rw [if_pos (by omega)]
        by_cases q2 : c ≤ e
        · rw [if_pos (by omega)]
          exact hT _ _ ⟨_, (yes ⟨q1, q2⟩).symm, rfl⟩
        · rw [if_neg (by omega)]
          exact hF _ ⟨_, (no fun z => q2 z.2).symm, rfl⟩
      · rw [if_neg (by omega)]
        exact hF _ ⟨_, (no fun z => q1 z.1).symm, rfl⟩
    · rintro acc ρ ⟨x6, rfl, rfl⟩
      rw [List.length_map, List.take_length]
      simp only [restE, ↓dSeq, ↓dNext, ↓dBreak, ↓dCont, ↓dNever, ↓dRet, ↓dRetN, ↓dDrop, ↓dSet, ↓dIf, ↓dAug, ↓dAsg, ↓dPar, ↓dVar, ↓dMove, ↓dC, ↓dFz, ↓dUp, ↓dNil, ↓dCons, ↓dTup, ↓dLst, ↓dBin, ↓dUn, ↓dChain, ↓dTest, ↓dAnd, ↓dOr, ↓dNot, ↓dAndV, ↓dOrV, ↓dNotV, ↓dIfE, ↓dgName, ↓dgNil, ↓dgCons, ↓dgTup, ↓dIt, ↓dRng1, ↓dRng2, ↓dZip, ↓dEnum, ↓u_for, ↓u_lc, ↓dYes, ↓u_call, ↓u_callF, ↓u_callIo, ↓dCB, ↓dCBF, ↓dBinS, ↓dLenS, ↓dSl, ↓dSlS, ↓dNo, ↓dPt, ↓dStL, ↓dApp, ↓dExt, ↓dJoin, ↓dRg1, ↓dRg2, ↓dTupRg, ↓dLstRg, ↓oSub, ↓oMulI, ↓oMul, ↓oFdiv, ↓oMod, ↓oPow, ↓oShr, ↓oXor, ↓oNeg, ↓oAdd, ↓oAug, ↓oLt, ↓oLe, ↓oGt, ↓oGe, ↓oI, ↓oIx, ↓oLen, ↓oInt, ↓oOrd, ↓oAbs, ↓oStL, ↓oIn, ↓oNin, ↓oInB, ↓isi_int, ↓isi_int_bl, ↓isi_int_str, ↓isi_int_tup, ↓isi_int_lst, ↓isi_str, ↓isi_str_int, ↓isi_tup, ↓isi_tup_int, ↓isi_tup_str, ↓isi_tup_lst, ↓isi_lst, ↓isi_lst_tup, ↓isi_lst_int, ↓isi_lst_str, ↓cv, ↓Cell.val, ↓Cell.up, ↓Cell.own, ↓lenD, ↓itemsOf, List.getElem?_cons_zero, List.getElem?_cons_succ, List.set_cons_zero, List.set_cons_succ, Option.bind_some, Option.isSome_some, List.length_cons, List.length_nil, true_and, and_true, ↓ixN_lit, ↓atI_lit, ↓reduceIte, Nat.reduceAdd, Nat.reduceLT, Nat.reduceSub, Nat.zero_add, Nat.reduceLeDiff, Nat.lt_add_one, Nat.zero_lt_succ, ↓oEq_int, ↓oNe_int, ↓oEq_str, ↓oNe_str, ↓oEq_bl, ↓oNe_bl, decide_eq_true_eq, Bool.false_eq_true, ↓u_while, ↓ownAt, List.all_cons, List.all_nil, Bool.and_true, List.getD_cons_zero, List.getD_cons_succ, Bool.not_false, ↓oLe_sign, ↓oMulS, ↓dDic, ↓dLock, ↓dGetS, ↓dStD, ↓dInS, ↓oInD, ↓dKeys, ↓dGet1, ↓dGet2, ↓dRev, ↓dMulL, ↓dCount, ↓dScrSl, ↓dScrLen, ↓dScrList, ↓oStrI, intsOf_ints, hcount]
      exact ⟨rfl, post _ _ ⟨h3, ok3, rfl, rfl⟩⟩
end DL


namespace DL
open PySem PySem.Spec PyProof.Rows L2

/-! ### odd things in a run's place -/
structure Odd (d : D) : Prop where
  k : KndT d
  pl : d.pl = true
  dep : d.dep ≤ 30
inductive Flat : D → Prop
  | bl b : Flat (.bl b)
  | int i : Flat (.int i)
  | str l : Flat (.str l)
theorem Flat.knd {d : D} (h : Flat d) : Knd d := by cases h <;> constructor
theorem flat_pls : ∀ {xs : List D}, (∀ x ∈ xs, Flat x) → pls xs = true
  | [], _ => rfl
  | x :: xs, h => by
    have h1 := h x (List.mem_cons_self ..)
    have h2 := flat_pls fun y hy => h y (List.mem_cons_of_mem _ hy)
    cases h1 <;> (show (true && pls xs) = true; rw [h2]; rfl)
theorem flat_deps : ∀ {xs : List D}, (∀ x ∈ xs, Flat x) → deps xs = 0
  | [], _ => rfl
  | x :: xs, h => by
    have h1 := h x (List.mem_cons_self ..)
    have h2 := flat_deps fun y hy => h y (List.mem_cons_of_mem _ hy)
    cases h1 <;> (show max 0 (deps xs) = 0; rw [h2]; rfl)
theorem odd_tup {xs : List D} (h : ∀ x ∈ xs, Flat x) : Odd (.tup xs) := by
  refine ⟨⟨.tup _, fun ys e x hx => by cases e; exact (h x hx).knd⟩, flat_pls h, ?_⟩
  show deps xs + 1 ≤ 30
  rw [flat_deps h]
  decide
theorem odd_lst {xs : List D} (h : ∀ x ∈ xs, Flat x) : Odd (.lst xs) := by
  refine ⟨⟨.lst _, fun ys e x hx => by cases e⟩, flat_pls h, ?_⟩
  show deps xs + 1 ≤ 30
  rw [flat_deps h]
  decide
theorem odd_non : Odd .non := ⟨⟨.non, fun ys e => by cases e⟩, rfl, by decide⟩
theorem odd_deep : Odd (deepD 9) := ⟨⟨.tup _, fun ys e x hx => by cases e; rw [List.mem_singleton.mp hx]; exact .tup _⟩, rfl, by decide⟩
theorem odd_tri (x : Tri) : ∀ d ∈ [D.int (x.1 : Nat), .int (x.2.1 : Nat), .int (x.2.2 : Nat)], Flat d := by
  intro d hd
  simp only [List.mem_cons, List.not_mem_nil, or_false] at hd
  rcases hd with rfl | rfl | rfl <;> constructor
theorem odd_in {x : Tri} : Odd (.tup [trD x]) := by
  refine ⟨⟨.tup _, fun ys e y hy => by cases e; rw [List.mem_singleton.mp hy]; exact .tup _⟩, rfl, by show 2 ≤ 30; decide⟩
theorem cutG_mem {α : Type} {xs : List α} {lo hi : Option Int} {x : α} (h : x ∈ cutG xs lo hi) : x ∈ xs := List.mem_of_mem_drop (List.mem_of_mem_take h)
theorem strI_fits {i : Int} (h : i.natAbs.log2 < 1920) : (strI i).length ≤ sizeLine := by
  have := int_text_fits h
  unfold strI
  rw [Array.length_toList]
  exact this
def S__law_odd : FnSpec := mkSpec (α := Hand × Tri) [true, false] false (fun x => [x.1.d, trD x.2]) (fun x => x.1.Ok ∧ x.2.1 ≤ 2000) fun x r os => ∃ h' : Hand, h'.Ok ∧ Odd r ∧ os = [h'.d]
theorem fr_odd : S__law_odd.fresh = false := rfl
/-- _law_odd: slots 0 _law_hand_here, 1 _law_one, 2 _law_at, 3 _law_more, 4 _law_some -/
def D__law_odd : DTS := (dSeq (dPar 2 3 (dCons (dFz (dCallIo S__law_draw 0 (dCons (dC (.int 3)) dNil))) (dCons (dFz (dCallIo S__law_any 0 (dCons (dFz (dLst (dCons (dC (.int 1)) (dCons (dUn oNeg (dC (.int 1))) (dCons (dC (.int 2)) dNil))))) dNil))) dNil))) (dSeq (dSet 4 (dUp (dFz (dLst (dCons (dBin oAdd (dBin oAdd (dSlS 1 dNo (dPt (dVar 2))) (dTup (dCons (dBin oAdd (dBinS 1 oIx (dVar 2)) (dVar 3)) dNil))) (dSlS 1 (dPt (dBin oAdd (dVar 2) (dC (.int 1)))) dNo)) (dCons (dFz (dCBF oList (dCons (dVar 1) dNil))) (dCons (dSlS 1 dNo (dPt (dC (.int 2)))) (dCons (dBin oAdd (dVar 1) (dTup (dCons (dC (.int 0)) dNil))) (dCons (dBin oAdd (dTup (dCons (dC (.bl true)) dNil)) (dSlS 1 (dPt (dC (.int 1))) dNo)) (dCons (dC .non) dNil)))))))))) (dRet (dUp (dFz (dCallIo S__law_any 0 (dCons (dBin oAdd (dVar 4) (dFz (dLst (dCons (dBin oAdd (dTup (dCons (dCB oStrI (dCons (dBinS 1 oIx (dC (.int 0))) dNil)) dNil)) (dSlS 1 (dPt (dC (.int 1))) dNo)) (dCons (dTup (dCons (dVar 1) dNil)) (dCons (dCall S__law_deep (dCons (dC (.int 9)) dNil)) dNil)))))) dNil)))))))
theorem sem__law_odd : ∀ ds Kd, S__law_odd.ds ds Kd → D__law_odd (endsOf S__law_odd Kd) (env0 5 [true, false] ds) := by
  rintro ds Kd ⟨⟨h, t⟩, rfl, ⟨ok, hz⟩, post⟩
  obtain ⟨b, e, p⟩ := t
  simp only at ok hz post
  show D__law_odd (endsOf S__law_odd Kd) [.io h.d, .fz (.tup [.int (b : Nat), .int (e : Nat), .int (p : Nat)]), .un, .un, .un]
  unfold D__law_odd
  refine seq_gen fun k hk => ?_
  simp only [↓dSeq, ↓dNext, ↓dBreak, ↓dCont, ↓dNever, ↓dRet, ↓dRetN, ↓dDrop, ↓dSet, ↓dIf, ↓dAug, ↓dAsg, ↓dPar, ↓dVar, ↓dMove, ↓dC, ↓dFz, ↓dUp, ↓dNil, ↓dCons, ↓dTup, ↓dLst, ↓dBin, ↓dUn, ↓dChain, ↓dTest, ↓dAnd, ↓dOr, ↓dNot, ↓dAndV, ↓dOrV, ↓dNotV, ↓dIfE, ↓dgName, ↓dgNil, ↓dgCons, ↓dgTup, ↓dIt, ↓dRng1, ↓dRng2, ↓dZip, ↓dEnum, ↓u_for, ↓u_lc, ↓dYes, ↓u_call, ↓u_callF, ↓u_callIo, ↓dCB, ↓dCBF, ↓dBinS, ↓dLenS, ↓dSl, ↓dSlS, ↓dNo, ↓dPt, ↓dStL, ↓dApp, ↓dExt, ↓dJoin, ↓dRg1, ↓dRg2, ↓dTupRg, ↓dLstRg, ↓oSub, ↓oMulI, ↓oMul, ↓oFdiv, ↓oMod, ↓oPow, ↓oShr, ↓oXor, ↓oNeg, ↓oAdd, ↓oAug, ↓oLt, ↓oLe, ↓oGt, ↓oGe, ↓oI, ↓oIx, ↓oLen, ↓oInt, ↓oOrd, ↓oAbs, ↓oStL, ↓oIn, ↓oNin, ↓oInB, ↓isi_int, ↓isi_int_bl, ↓isi_int_str, ↓isi_int_tup, ↓isi_int_lst, ↓isi_str, ↓isi_str_int, ↓isi_tup, ↓isi_tup_int, ↓isi_tup_str, ↓isi_tup_lst, ↓isi_lst, ↓isi_lst_tup, ↓isi_lst_int, ↓isi_lst_str, ↓cv, ↓Cell.val, ↓Cell.up, ↓Cell.own, ↓lenD, ↓itemsOf, List.getElem?_cons_zero, List.getElem?_cons_succ, List.set_cons_zero, List.set_cons_succ, Option.bind_some, Option.isSome_some, List.length_cons, List.length_nil, true_and, and_true, ↓ixN_lit, ↓atI_lit, ↓reduceIte, Nat.reduceAdd, Nat.reduceLT, Nat.reduceSub, Nat.zero_add, Nat.reduceLeDiff, Nat.lt_add_one, Nat.zero_lt_succ, ↓oEq_int, ↓oNe_int, ↓oEq_str, ↓oNe_str, ↓oEq_bl, ↓oNe_bl, decide_eq_true_eq, Bool.false_eq_true, ↓u_while, ↓ownAt, List.all_cons, List.all_nil, Bool.and_true, List.getD_cons_zero, List.getD_cons_succ, Bool.not_false, ↓oLe_sign, ↓oMulS, ↓dDic, ↓dLock, ↓dGetS, ↓dStD, ↓dInS, ↓oInD, ↓dKeys, ↓dGet1, ↓dGet2, ↓dRev, ↓dMulL, ↓dCount, ↓dScrSl, ↓dScrLen, ↓dScrList, ↓oStrI]
  refine ⟨rfl, onM (h, 3) rfl ⟨ok, by show (1 : Int) ≤ 3; decide, by show (3 : Int) < 1073741824; decide⟩ ?_⟩
  rintro r os ⟨i, h2, rfl, i0, i1, rfl, ok2⟩
  have i1 : i < 3 := i1
  simp only [ioB, wipeE, fr_draw, ↓dSeq, ↓dNext, ↓dBreak, ↓dCont, ↓dNever, ↓dRet, ↓dRetN, ↓dDrop, ↓dSet, ↓dIf, ↓dAug, ↓dAsg, ↓dPar, ↓dVar, ↓dMove, ↓dC, ↓dFz, ↓dUp, ↓dNil, ↓dCons, ↓dTup, ↓dLst, ↓dBin, ↓dUn, ↓dChain, ↓dTest, ↓dAnd, ↓dOr, ↓dNot, ↓dAndV, ↓dOrV, ↓dNotV, ↓dIfE, ↓dgName, ↓dgNil, ↓dgCons, ↓dgTup, ↓dIt, ↓dRng1, ↓dRng2, ↓dZip, ↓dEnum, ↓u_for, ↓u_lc, ↓dYes, ↓u_call, ↓u_callF, ↓u_callIo, ↓dCB, ↓dCBF, ↓dBinS, ↓dLenS, ↓dSl, ↓dSlS, ↓dNo, ↓dPt, ↓dStL, ↓dApp, ↓dExt, ↓dJoin, ↓dRg1, ↓dRg2, ↓dTupRg, ↓dLstRg, ↓oSub, ↓oMulI, ↓oMul, ↓oFdiv, ↓oMod, ↓oPow, ↓oShr, ↓oXor, ↓oNeg, ↓oAdd, ↓oAug, ↓oLt, ↓oLe, ↓oGt, ↓oGe, ↓oI, ↓oIx, ↓oLen, ↓oInt, ↓oOrd, ↓oAbs, ↓oStL, ↓oIn, ↓oNin, ↓oInB, ↓isi_int, ↓isi_int_bl, ↓isi_int_str, ↓isi_int_tup, ↓isi_int_lst, ↓isi_str, ↓isi_str_int, ↓isi_tup, ↓isi_tup_int, ↓isi_tup_str, ↓isi_tup_lst, ↓isi_lst, ↓isi_lst_tup, ↓isi_lst_int, ↓isi_lst_str, ↓cv, ↓Cell.val, ↓Cell.up, ↓Cell.own, ↓lenD, ↓itemsOf, List.getElem?_cons_zero, List.getElem?_cons_succ, List.set_cons_zero, List.set_cons_succ, Option.bind_some, Option.isSome_some, List.length_cons, List.length_nil, true_and, and_true, ↓ixN_lit, ↓atI_lit, ↓reduceIte, Nat.reduceAdd, Nat.reduceLT, Nat.reduceSub, Nat.zero_add, Nat.reduceLeDiff, Nat.lt_add_one, Nat.zero_lt_succ, ↓oEq_int, ↓oNe_int, ↓oEq_str, ↓oNe_str, ↓oEq_bl, ↓oNe_bl, decide_eq_true_eq, Bool.false_eq_true, ↓u_while, ↓ownAt, List.all_cons, List.all_nil, Bool.and_true, List.getD_cons_zero, List.getD_cons_succ, Bool.not_false, ↓oLe_sign, ↓oMulS, ↓dDic, ↓dLock, ↓dGetS, ↓dStD, ↓dInS, ↓oInD, ↓dKeys, ↓dGet1, ↓dGet2, ↓dRev, ↓dMulL, ↓dCount, ↓dScrSl, ↓dScrLen, ↓dScrList, ↓oStrI]
  refine ⟨by decide, rfl, onM (h2, .lst [.int 1, .int (-1), .int 2]) rfl ⟨ok2, [.int 1, .int (-1), .int 2], rfl, by decide, by decide⟩ ?_⟩
  rintro r os ⟨h3, xs, ok3, ex, hr, rfl⟩
  cases ex
  obtain ⟨j, rfl⟩ : ∃ j : Int, r = .int j := by
    simp only [List.mem_cons, List.not_mem_nil, or_false] at hr
    rcases hr with rfl | rfl | rfl <;> exact ⟨_, rfl⟩
  simp only [ioB, wipeE, fr_any, ↓dSeq, ↓dNext, ↓dBreak, ↓dCont, ↓dNever, ↓dRet, ↓dRetN, ↓dDrop, ↓dSet, ↓dIf, ↓dAug, ↓dAsg, ↓dPar, ↓dVar, ↓dMove, ↓dC, ↓dFz, ↓dUp, ↓dNil, ↓dCons, ↓dTup, ↓dLst, ↓dBin, ↓dUn, ↓dChain, ↓dTest, ↓dAnd, ↓dOr, ↓dNot, ↓dAndV, ↓dOrV, ↓dNotV, ↓dIfE, ↓dgName, ↓dgNil, ↓dgCons, ↓dgTup, ↓dIt, ↓dRng1, ↓dRng2, ↓dZip, ↓dEnum, ↓u_for, ↓u_lc, ↓dYes, ↓u_call, ↓u_callF, ↓u_callIo, ↓dCB, ↓dCBF, ↓dBinS, ↓dLenS, ↓dSl, ↓dSlS, ↓dNo, ↓dPt, ↓dStL, ↓dApp, ↓dExt, ↓dJoin, ↓dRg1, ↓dRg2, ↓dTupRg, ↓dLstRg, ↓oSub, ↓oMulI, ↓oMul, ↓oFdiv, ↓oMod, ↓oPow, ↓oShr, ↓oXor, ↓oNeg, ↓oAdd, ↓oAug, ↓oLt, ↓oLe, ↓oGt, ↓oGe, ↓oI, ↓oIx, ↓oLen, ↓oInt, ↓oOrd, ↓oAbs, ↓oStL, ↓oIn, ↓oNin, ↓oInB, ↓isi_int, ↓isi_int_bl, ↓isi_int_str, ↓isi_int_tup, ↓isi_int_lst, ↓isi_str, ↓isi_str_int, ↓isi_tup, ↓isi_tup_int, ↓isi_tup_str, ↓isi_tup_lst, ↓isi_lst, ↓isi_lst_tup, ↓isi_lst_int, ↓isi_lst_str, ↓cv, ↓Cell.val, ↓Cell.up, ↓Cell.own, ↓lenD, ↓itemsOf, List.getElem?_cons_zero, List.getElem?_cons_succ, List.set_cons_zero, List.set_cons_succ, Option.bind_some, Option.isSome_some, List.length_cons, List.length_nil, true_and, and_true, ↓ixN_lit, ↓atI_lit, ↓reduceIte, Nat.reduceAdd, Nat.reduceLT, Nat.reduceSub, Nat.zero_add, Nat.reduceLeDiff, Nat.lt_add_one, Nat.zero_lt_succ, ↓oEq_int, ↓oNe_int, ↓oEq_str, ↓oNe_str, ↓oEq_bl, ↓oNe_bl, decide_eq_true_eq, Bool.false_eq_true, ↓u_while, ↓ownAt, List.all_cons, List.all_nil, Bool.and_true, List.getD_cons_zero, List.getD_cons_succ, Bool.not_false, ↓oLe_sign, ↓oMulS, ↓dDic, ↓dLock, ↓dGetS, ↓dStD, ↓dInS, ↓oInD, ↓dKeys, ↓dGet1, ↓dGet2, ↓dRev, ↓dMulL, ↓dCount, ↓dScrSl, ↓dScrLen, ↓dScrList, ↓oStrI]
  subst hk
  refine seq_gen fun k hk => ?_
  have h3i : ([D.int (b : Nat), .int (e : Nat), .int (p : Nat)] : List D).length = 3 := rfl
  obtain ⟨y, hy, ey⟩ := atI_mem (xs := [D.int (b : Nat), .int (e : Nat), .int (p : Nat)]) i0 (by rw [h3i]; exact i1)
  obtain ⟨v, rfl⟩ : ∃ v : Int, y = .int v := by
    simp only [List.mem_cons, List.not_mem_nil, or_false] at hy
    rcases hy with rfl | rfl | rfl <;> exact ⟨_, rfl⟩
  simp only [↓dSeq, ↓dNext, ↓dBreak, ↓dCont, ↓dNever, ↓dRet, ↓dRetN, ↓dDrop, ↓dSet, ↓dIf, ↓dAug, ↓dAsg, ↓dPar, ↓dVar, ↓dMove, ↓dC, ↓dFz, ↓dUp, ↓dNil, ↓dCons, ↓dTup, ↓dLst, ↓dBin, ↓dUn, ↓dChain, ↓dTest, ↓dAnd, ↓dOr, ↓dNot, ↓dAndV, ↓dOrV, ↓dNotV, ↓dIfE, ↓dgName, ↓dgNil, ↓dgCons, ↓dgTup, ↓dIt, ↓dRng1, ↓dRng2, ↓dZip, ↓dEnum, ↓u_for, ↓u_lc, ↓dYes, ↓u_call, ↓u_callF, ↓u_callIo, ↓dCB, ↓dCBF, ↓dBinS, ↓dLenS, ↓dSl, ↓dSlS, ↓dNo, ↓dPt, ↓dStL, ↓dApp, ↓dExt, ↓dJoin, ↓dRg1, ↓dRg2, ↓dTupRg, ↓dLstRg, ↓oSub, ↓oMulI, ↓oMul, ↓oFdiv, ↓oMod, ↓oPow, ↓oShr, ↓oXor, ↓oNeg, ↓oAdd, ↓oAug, ↓oLt, ↓oLe, ↓oGt, ↓oGe, ↓oI, ↓oIx, ↓oLen, ↓oInt, ↓oOrd, ↓oAbs, ↓oStL, ↓oIn, ↓oNin, ↓oInB, ↓isi_int, ↓isi_int_bl, ↓isi_int_str, ↓isi_int_tup, ↓isi_int_lst, ↓isi_str, ↓isi_str_int, ↓isi_tup, ↓isi_tup_int, ↓isi_tup_str, ↓isi_tup_lst, ↓isi_lst, ↓isi_lst_tup, ↓isi_lst_int, ↓isi_lst_str, ↓cv, ↓Cell.val, ↓Cell.up, ↓Cell.own, ↓lenD, ↓itemsOf, List.getElem?_cons_zero, List.getElem?_cons_succ, List.set_cons_zero, List.set_cons_succ, Option.bind_some, Option.isSome_some, List.length_cons, List.length_nil, true_and, and_true, ↓ixN_lit, ↓atI_lit, ↓reduceIte, Nat.reduceAdd, Nat.reduceLT, Nat.reduceSub, Nat.zero_add, Nat.reduceLeDiff, Nat.lt_add_one, Nat.zero_lt_succ, ↓oEq_int, ↓oNe_int, ↓oEq_str, ↓oNe_str, ↓oEq_bl, ↓oNe_bl, decide_eq_true_eq, Bool.false_eq_true, ↓u_while, ↓ownAt, List.all_cons, List.all_nil, Bool.and_true, List.getD_cons_zero, List.getD_cons_succ, Bool.not_false, ↓oLe_sign, ↓oMulS, ↓dDic, ↓dLock, ↓dGetS, ↓dStD, ↓dInS, ↓oInD, ↓dKeys, ↓dGet1, ↓dGet2, ↓dRev, ↓dMulL, ↓dCount, ↓dScrSl, ↓dScrLen, ↓dScrList, ↓oStrI, oSl, ey]
  have hT : ∀ d ∈ [D.int (b : Nat), .int (e : Nat), .int (p : Nat)], Flat d := odd_tri (b, e, p)
  have c1 := cutG_length [D.int (b : Nat), .int (e : Nat), .int (p : Nat)] none (some i)
  have c2 := cutG_length [D.int (b : Nat), .int (e : Nat), .int (p : Nat)] (some (i + 1)) none
  have c3 := cutG_length [D.int (b : Nat), .int (e : Nat), .int (p : Nat)] (some 1) none
  rw [h3i] at c1 c2 c3
  have f1 : ∀ d ∈ cutG [D.int (b : Nat), .int (e : Nat), .int (p : Nat)] none (some i) ++ [D.int (v + j)] ++ cutG [D.int (b : Nat), .int (e : Nat), .int (p : Nat)] (some (i + 1)) none, Flat d := by
    intro d hd
    rcases List.mem_append.mp hd with q | q
    · rcases List.mem_append.mp q with q | q
      · exact hT d (cutG_mem q)
      · rw [List.mem_singleton.mp q]; exact .int _
    · exact hT d (cutG_mem q)
  have f2 : ∀ x, Flat x → ∀ d ∈ [x] ++ cutG [D.int (b : Nat), .int (e : Nat), .int (p : Nat)] (some 1) none, Flat d := by
    intro x hx d hd
    rcases List.mem_append.mp hd with q | q
    · rw [List.mem_singleton.mp q]; exact hx
    · exact hT d (cutG_mem q)
  have f3 : ∀ d ∈ [D.int (b : Nat), .int (e : Nat), .int (p : Nat)] ++ [D.int 0], Flat d := by
    intro d hd
    rcases List.mem_append.mp hd with q | q
    · exact hT d q
    · rw [List.mem_singleton.mp q]; exact .int _
  refine ⟨by decide, by show _ ≤ 16777216; omega, by rw [List.length_append, List.length_singleton]; show _ ≤ 16777216; omega, ?_⟩
  dsimp only [oList]
  refine ⟨by decide, by decide, by decide, by show _ ≤ 16777216; omega, by decide, ?_⟩
  subst hk
  have all : ∀ d ∈ [D.tup (cutG [D.int (b : Nat), .int (e : Nat), .int (p : Nat)] none (some i) ++ [D.int (v + j)] ++ cutG [D.int (b : Nat), .int (e : Nat), .int (p : Nat)] (some (i + 1)) none), .lst [D.int (b : Nat), .int (e : Nat), .int (p : Nat)], .tup (cutG [D.int (b : Nat), .int (e : Nat), .int (p : Nat)] none (some 2)), .tup ([D.int (b : Nat), .int (e : Nat), .int (p : Nat)] ++ [D.int 0]), .tup ([D.bl true] ++ cutG [D.int (b : Nat), .int (e : Nat), .int (p : Nat)] (some 1) none), .non], Odd d := by
    intro d hd
    simp only [List.mem_cons, List.not_mem_nil, or_false] at hd
    rcases hd with rfl | rfl | rfl | rfl | rfl | rfl
    · exact odd_tup f1
    · exact odd_lst hT
    · exact odd_tup fun d hd => hT d (cutG_mem hd)
    · exact odd_tup f3
    · exact odd_tup (f2 _ (.bl _))
    · exact odd_non
  have len : ([D.tup (cutG [D.int (b : Nat), .int (e : Nat), .int (p : Nat)] none (some i) ++ [D.int (v + j)] ++ cutG [D.int (b : Nat), .int (e : Nat), .int (p : Nat)] (some (i + 1)) none), .lst [D.int (b : Nat), .int (e : Nat), .int (p : Nat)], .tup (cutG [D.int (b : Nat), .int (e : Nat), .int (p : Nat)] none (some 2)), .tup ([D.int (b : Nat), .int (e : Nat), .int (p : Nat)] ++ [D.int 0]), .tup ([D.bl true] ++ cutG [D.int (b : Nat), .int (e : Nat), .int (p : Nat)] (some 1) none), .non] : List D).length = 6 := rfl
  generalize [D.tup (cutG [D.int (b : Nat), .int (e : Nat), .int (p : Nat)] none (some i) ++ [D.int (v + j)] ++ cutG [D.int (b : Nat), .int (e : Nat), .int (p : Nat)] (some (i + 1)) none), .lst [D.int (b : Nat), .int (e : Nat), .int (p : Nat)], .tup (cutG [D.int (b : Nat), .int (e : Nat), .int (p : Nat)] none (some 2)), .tup ([D.int (b : Nat), .int (e : Nat), .int (p : Nat)] ++ [D.int 0]), .tup ([D.bl true] ++ cutG [D.int (b : Nat), .int (e : Nat), .int (p : Nat)] (some 1) none), .non] = L at all len
  simp only [↓dSeq, ↓dNext, ↓dBreak, ↓dCont, ↓dNever, ↓dRet, ↓dRetN, ↓dDrop, ↓dSet, ↓dIf, ↓dAug, ↓dAsg, ↓dPar, ↓dVar, ↓dMove, ↓dC, ↓dFz, ↓dUp, ↓dNil, ↓dCons, ↓dTup, ↓dLst, ↓dBin, ↓dUn, ↓dChain, ↓dTest, ↓dAnd, ↓dOr, ↓dNot, ↓dAndV, ↓dOrV, ↓dNotV, ↓dIfE, ↓dgName, ↓dgNil, ↓dgCons, ↓dgTup, ↓dIt, ↓dRng1, ↓dRng2, ↓dZip, ↓dEnum, ↓u_for, ↓u_lc, ↓dYes, ↓u_call, ↓u_callF, ↓u_callIo, ↓dCB, ↓dCBF, ↓dBinS, ↓dLenS, ↓dSl, ↓dSlS, ↓dNo, ↓dPt, ↓dStL, ↓dApp, ↓dExt, ↓dJoin, ↓dRg1, ↓dRg2, ↓dTupRg, ↓dLstRg, ↓oSub, ↓oMulI, ↓oMul, ↓oFdiv, ↓oMod, ↓oPow, ↓oShr, ↓oXor, ↓oNeg, ↓oAdd, ↓oAug, ↓oLt, ↓oLe, ↓oGt, ↓oGe, ↓oI, ↓oIx, ↓oLen, ↓oInt, ↓oOrd, ↓oAbs, ↓oStL, ↓oIn, ↓oNin, ↓oInB, ↓isi_int, ↓isi_int_bl, ↓isi_int_str, ↓isi_int_tup, ↓isi_int_lst, ↓isi_str, ↓isi_str_int, ↓isi_tup, ↓isi_tup_int, ↓isi_tup_str, ↓isi_tup_lst, ↓isi_lst, ↓isi_lst_tup, ↓isi_lst_int, ↓isi_lst_str, ↓cv, ↓Cell.val, ↓Cell.up, ↓Cell.own, ↓lenD, ↓itemsOf, List.getElem?_cons_zero, List.getElem?_cons_succ, List.set_cons_zero, List.set_cons_succ, Option.bind_some, Option.isSome_some, List.length_cons, List.length_nil, true_and, and_true, ↓ixN_lit, ↓atI_lit, ↓reduceIte, Nat.reduceAdd, Nat.reduceLT, Nat.reduceSub, Nat.zero_add, Nat.reduceLeDiff, Nat.lt_add_one, Nat.zero_lt_succ, ↓oEq_int, ↓oNe_int, ↓oEq_str, ↓oNe_str, ↓oEq_bl, ↓oNe_bl, decide_eq_true_eq, Bool.false_eq_true, ↓u_while, ↓ownAt, List.all_cons, List.all_nil, Bool.and_true, List.getD_cons_zero, List.getD_cons_succ, Bool.not_false, ↓oLe_sign, ↓oMulS, ↓dDic, ↓dLock, ↓dGetS, ↓dStD, ↓dInS, ↓oInD, ↓dKeys, ↓dGet1, ↓dGet2, ↓dRev, ↓dMulL, ↓dCount, ↓dScrSl, ↓dScrLen, ↓dScrList, ↓oStrI, oSl]
  have hlog : (b : Int).natAbs.log2 < 1920 := by
    show b.log2 < 1920
    have : b.log2 ≤ b := Nat.log2_le_self b
    by_cases z : b = 0
    · subst z; decide
    · rw [Nat.log2_lt z]
      refine Nat.lt_of_le_of_lt hz ?_
      exact Nat.lt_of_lt_of_le (by decide : 2000 < 2 ^ 11) (Nat.pow_le_pow_right (by decide) (by decide))
  refine ⟨hlog, strI_fits hlog, by decide, by show _ ≤ 16777216; omega, by decide, rfl, onF 9 rfl (by decide) ?_⟩
  simp only [↓dSeq, ↓dNext, ↓dBreak, ↓dCont, ↓dNever, ↓dRet, ↓dRetN, ↓dDrop, ↓dSet, ↓dIf, ↓dAug, ↓dAsg, ↓dPar, ↓dVar, ↓dMove, ↓dC, ↓dFz, ↓dUp, ↓dNil, ↓dCons, ↓dTup, ↓dLst, ↓dBin, ↓dUn, ↓dChain, ↓dTest, ↓dAnd, ↓dOr, ↓dNot, ↓dAndV, ↓dOrV, ↓dNotV, ↓dIfE, ↓dgName, ↓dgNil, ↓dgCons, ↓dgTup, ↓dIt, ↓dRng1, ↓dRng2, ↓dZip, ↓dEnum, ↓u_for, ↓u_lc, ↓dYes, ↓u_call, ↓u_callF, ↓u_callIo, ↓dCB, ↓dCBF, ↓dBinS, ↓dLenS, ↓dSl, ↓dSlS, ↓dNo, ↓dPt, ↓dStL, ↓dApp, ↓dExt, ↓dJoin, ↓dRg1, ↓dRg2, ↓dTupRg, ↓dLstRg, ↓oSub, ↓oMulI, ↓oMul, ↓oFdiv, ↓oMod, ↓oPow, ↓oShr, ↓oXor, ↓oNeg, ↓oAdd, ↓oAug, ↓oLt, ↓oLe, ↓oGt, ↓oGe, ↓oI, ↓oIx, ↓oLen, ↓oInt, ↓oOrd, ↓oAbs, ↓oStL, ↓oIn, ↓oNin, ↓oInB, ↓isi_int, ↓isi_int_bl, ↓isi_int_str, ↓isi_int_tup, ↓isi_int_lst, ↓isi_str, ↓isi_str_int, ↓isi_tup, ↓isi_tup_int, ↓isi_tup_str, ↓isi_tup_lst, ↓isi_lst, ↓isi_lst_tup, ↓isi_lst_int, ↓isi_lst_str, ↓cv, ↓Cell.val, ↓Cell.up, ↓Cell.own, ↓lenD, ↓itemsOf, List.getElem?_cons_zero, List.getElem?_cons_succ, List.set_cons_zero, List.set_cons_succ, Option.bind_some, Option.isSome_some, List.length_cons, List.length_nil, true_and, and_true, ↓ixN_lit, ↓atI_lit, ↓reduceIte, Nat.reduceAdd, Nat.reduceLT, Nat.reduceSub, Nat.zero_add, Nat.reduceLeDiff, Nat.lt_add_one, Nat.zero_lt_succ, ↓oEq_int, ↓oNe_int, ↓oEq_str, ↓oNe_str, ↓oEq_bl, ↓oNe_bl, decide_eq_true_eq, Bool.false_eq_true, ↓u_while, ↓ownAt, List.all_cons, List.all_nil, Bool.and_true, List.getD_cons_zero, List.getD_cons_succ, Bool.not_false, ↓oLe_sign, ↓oMulS, ↓dDic, ↓dLock, ↓dGetS, ↓dStD, ↓dInS, ↓oInD, ↓dKeys, ↓dGet1, ↓dGet2, ↓dRev, ↓dMulL, ↓dCount, ↓dScrSl, ↓dScrLen, ↓dScrList, ↓oStrI]
  refine ⟨by decide, by show _ ≤ 16777216; omega, rfl, onM (h3, .lst (L ++ [D.tup ([D.str (strI (b : Nat))] ++ cutG [D.int (b : Nat), .int (e : Nat), .int (p : Nat)] (some 1) none), .tup [.tup [.int (b : Nat), .int (e : Nat), .int (p : Nat)]], deepD 9])) rfl ⟨ok3, _, rfl, by rw [List.length_append]; omega, by rw [List.length_append]; simp; omega⟩ ?_⟩
  rintro r os ⟨h4, xs, ok4, ex, hr4, rfl⟩
  cases ex
  simp only [ioB, wipeE, fr_any, ↓dSeq, ↓dNext, ↓dBreak, ↓dCont, ↓dNever, ↓dRet, ↓dRetN, ↓dDrop, ↓dSet, ↓dIf, ↓dAug, ↓dAsg, ↓dPar, ↓dVar, ↓dMove, ↓dC, ↓dFz, ↓dUp, ↓dNil, ↓dCons, ↓dTup, ↓dLst, ↓dBin, ↓dUn, ↓dChain, ↓dTest, ↓dAnd, ↓dOr, ↓dNot, ↓dAndV, ↓dOrV, ↓dNotV, ↓dIfE, ↓dgName, ↓dgNil, ↓dgCons, ↓dgTup, ↓dIt, ↓dRng1, ↓dRng2, ↓dZip, ↓dEnum, ↓u_for, ↓u_lc, ↓dYes, ↓u_call, ↓u_callF, ↓u_callIo, ↓dCB, ↓dCBF, ↓dBinS, ↓dLenS, ↓dSl, ↓dSlS, ↓dNo, ↓dPt, ↓dStL, ↓dApp, ↓dExt, ↓dJoin, ↓dRg1, ↓dRg2, ↓dTupRg, ↓dLstRg, ↓oSub, ↓oMulI, ↓oMul, ↓oFdiv, ↓oMod, ↓oPow, ↓oShr, ↓oXor, ↓oNeg, ↓oAdd, ↓oAug, ↓oLt, ↓oLe, ↓oGt, ↓oGe, ↓oI, ↓oIx, ↓oLen, ↓oInt, ↓oOrd, ↓oAbs, ↓oStL, ↓oIn, ↓oNin, ↓oInB, ↓isi_int, ↓isi_int_bl, ↓isi_int_str, ↓isi_int_tup, ↓isi_int_lst, ↓isi_str, ↓isi_str_int, ↓isi_tup, ↓isi_tup_int, ↓isi_tup_str, ↓isi_tup_lst, ↓isi_lst, ↓isi_lst_tup, ↓isi_lst_int, ↓isi_lst_str, ↓cv, ↓Cell.val, ↓Cell.up, ↓Cell.own, ↓lenD, ↓itemsOf, List.getElem?_cons_zero, List.getElem?_cons_succ, List.set_cons_zero, List.set_cons_succ, Option.bind_some, Option.isSome_some, List.length_cons, List.length_nil, true_and, and_true, ↓ixN_lit, ↓atI_lit, ↓reduceIte, Nat.reduceAdd, Nat.reduceLT, Nat.reduceSub, Nat.zero_add, Nat.reduceLeDiff, Nat.lt_add_one, Nat.zero_lt_succ, ↓oEq_int, ↓oNe_int, ↓oEq_str, ↓oNe_str, ↓oEq_bl, ↓oNe_bl, decide_eq_true_eq, Bool.false_eq_true, ↓u_while, ↓ownAt, List.all_cons, List.all_nil, Bool.and_true, List.getD_cons_zero, List.getD_cons_succ, Bool.not_false, ↓oLe_sign, ↓oMulS, ↓dDic, ↓dLock, ↓dGetS, ↓dStD, ↓dInS, ↓oInD, ↓dKeys, ↓dGet1, ↓dGet2, ↓dRev, ↓dMulL, ↓dCount, ↓dScrSl, ↓dScrLen, ↓dScrList, ↓oStrI]
  refine ⟨rfl, post _ _ ⟨h4, ok4, ?_, rfl⟩⟩
  rcases List.mem_append.mp hr4 with q | q
  · exact all _ q
  · simp only [List.mem_cons, List.not_mem_nil, or_false] at q
    rcases q with rfl | rfl | rfl
    · exact odd_tup (f2 _ (.str _))
    · exact odd_in (x := (b, e, p))
    · exact odd_deep
end DL


namespace DL
open PySem PySem.Spec PyProof.Rows L2

/-! ### a word of unlike signs, again and again -/
theorem tt_append_l {x y : List Nat} {i : Nat} (h : i < x.length) : tt (x ++ y) i = tt x i := by
  unfold tt
  rw [List.getD_eq_getElem?_getD, List.getD_eq_getElem?_getD, List.getElem?_append_left h]
theorem tt_append_r {x y : List Nat} {i : Nat} (h : x.length ≤ i) : tt (x ++ y) i = tt y (i - x.length) := by
  unfold tt
  rw [List.getD_eq_getElem?_getD, List.getD_eq_getElem?_getD, List.getElem?_append_right h]
theorem rep_tt {w : List Nat} (h0 : 0 < w.length) : ∀ (N i : Nat), i < N * w.length → tt (repL w N) i = tt w (i % w.length)
  | 0, i, h => by omega
  | N + 1, i, h => by
    have e : repL w (N + 1) = w ++ repL w N := by simp [repL, List.replicate_succ]
    rw [e]
    by_cases q : i < w.length
    · rw [tt_append_l q, Nat.mod_eq_of_lt q]
    · rw [tt_append_r (by omega), rep_tt h0 N _ (by rw [Nat.succ_mul] at h; omega)]
      congr 1
      exact (Nat.mod_eq_sub_mod (by omega)).symm
/-- t is w, again and again -/
structure Cyc (w t : List Nat) : Prop where
  w0 : 0 < w.length
  dis : ∀ i, i < w.length → ∀ j, j < w.length → tt w i = tt w j → i = j
  at_ : ∀ i, i < t.length → tt t i = tt w (i % w.length)
  two : 2 * w.length ≤ t.length
theorem Cyc.eqm {w t : List Nat} (c : Cyc w t) {i j : Nat} (hi : i < t.length) (hj : j < t.length) : tt t i = tt t j ↔ i % w.length = j % w.length := by
  rw [c.at_ i hi, c.at_ j hj]
  exact ⟨c.dis _ (Nat.mod_lt _ c.w0) _ (Nat.mod_lt _ c.w0), fun h => by rw [h]⟩
theorem Cyc.per {w t : List Nat} (c : Cyc w t) {b e : Nat} (he : e ≤ t.length) : P t b e w.length := fun i a d => by
  rw [c.eqm (by omega) (by omega), Nat.add_mod_right]
theorem Cyc.mul {w t : List Nat} (c : Cyc w t) {b e p : Nat} (he : e ≤ t.length) (h1 : 1 ≤ p) (hb : b + p < e) (h : P t b e p) : w.length ≤ p := by
  have e1 := (c.eqm (by omega) (by omega)).mp (h b (Nat.le_refl _) hb)
  by_cases q : w.length ≤ p
  · exact q
  · exfalso
    have w0 := c.w0
    have h3 : (b + p) % w.length = (b % w.length + p) % w.length := by rw [Nat.mod_add_mod]
    have h4 := Nat.mod_lt b w0
    rw [h3] at e1
    generalize b % w.length = r at e1 h4
    by_cases q2 : r + p < w.length
    · rw [Nat.mod_eq_of_lt q2] at e1; omega
    · have e2 : (r + p) % w.length = r + p - w.length := by
        rw [Nat.mod_eq_sub_mod (show w.length ≤ r + p by omega), Nat.mod_eq_of_lt (by omega)]
      omega
theorem Cyc.run {w t : List Nat} (c : Cyc w t) {b e p : Nat} : IsRun t b e p ↔ b = 0 ∧ e = t.length ∧ p = w.length := by
  have w0 := c.w0
  have tw := c.two
  constructor
  · intro r
    have h1 := r.mx.p1
    have h2 := r.mx.le
    have h3 := r.mx.en
    have h4 := c.mul h3 h1 (by omega) r.mx.per
    have h5 : p = w.length := by
      by_cases q : w.length < p
      · exact absurd (c.per h3) (r.least _ q w0)
      · omega
    subst h5
    refine ⟨?_, ?_, rfl⟩
    · by_cases q : 0 < b
      · exact absurd (c.per h3) (r.mx.lf q)
      · omega
    · by_cases q : e < t.length
      · exact absurd (c.per (by omega)) (r.mx.rt q)
      · omega
  · rintro ⟨rfl, rfl, rfl⟩
    refine ⟨⟨w0, by omega, Nat.le_refl _, c.per (Nat.le_refl _), fun z => absurd z (Nat.lt_irrefl 0), fun z => absurd z (Nat.lt_irrefl _)⟩, fun q a d h => ?_⟩
    have := c.mul (Nat.le_refl _) d (by omega) h
    omega
theorem Cyc.runs {w t : List Nat} (c : Cyc w t) : runsN t = [(0, t.length, w.length)] := by
  refine sorted_one lt2_asym (runsN_sorted t) (List.pairwise_singleton _ _) ?_
  rintro ⟨b, e, p⟩
  rw [mem_runsN, c.run, List.mem_singleton]
  constructor
  · rintro ⟨rfl, rfl, rfl⟩; rfl
  · intro h; cases h; exact ⟨rfl, rfl, rfl⟩
theorem per_P {t : List Nat} {p : Nat} : Per t p ↔ P t 0 t.length p := ⟨fun h i _ b => h i b, fun h i b => h i (Nat.zero_le _) b⟩
theorem first_one {l : List Nat} {k : Nat} (hs : l.Pairwise (· < ·)) (hk : k ∈ l) (hm : ∀ x ∈ l, k ≤ x) : l.take 1 = [k] := by
  cases l with
  | nil => cases hk
  | cons x l =>
    have h1 := hm x (List.mem_cons_self ..)
    rcases List.mem_cons.mp hk with e | q
    · rw [e]; rfl
    · have := (List.pairwise_cons.mp hs).1 k q
      omega
theorem last_one : ∀ {l : List Nat} {k : Nat}, l.Pairwise (· < ·) → k ∈ l → (∀ x ∈ l, x ≤ k) → ∃ m, l = m ++ [k]
  | [], _, _, hk, _ => by cases hk
  | [x], k, _, hk, _ => ⟨[], by rw [List.mem_singleton.mp hk]; rfl⟩
  | x :: y :: l, k, hs, hk, hm => by
    have h1 := List.pairwise_cons.mp hs
    have hk' : k ∈ y :: l := by
      rcases List.mem_cons.mp hk with e | q
      · have a := h1.1 y (List.mem_cons_self ..)
        have b := hm y (by simp)
        omega
      · exact q
    obtain ⟨m, em⟩ := last_one h1.2 hk' fun z hz => hm z (List.mem_cons_of_mem _ hz)
    exact ⟨x :: m, by rw [em]; rfl⟩
theorem Cyc.per_first {w t : List Nat} (c : Cyc w t) : (periodsN t).take 1 = [w.length] := by
  have tw := c.two
  have w0 := c.w0
  refine first_one (periodsN_sorted t) (mem_periodsN.mpr ⟨w0, by omega, per_P.mpr (c.per (Nat.le_refl _))⟩) fun x hx => ?_
  obtain ⟨h1, h2, h3⟩ := mem_periodsN.mp hx
  by_cases q : x < t.length
  · exact c.mul (Nat.le_refl _) h1 (by omega) (per_P.mp h3)
  · omega
theorem per_last {t : List Nat} (h : 0 < t.length) : ∃ m, periodsN t = m ++ [t.length] :=
  last_one (periodsN_sorted t) (mem_periodsN.mpr ⟨h, Nat.le_refl _, per_len t⟩) fun x hx => (mem_periodsN.mp hx).2.1
theorem Cyc.bord {w t : List Nat} (c : Cyc w t) : ∃ m, bordersN t = m ++ [t.length - w.length] := by
  have tw := c.two
  have w0 := c.w0
  refine last_one (bordersN_sorted t) (mem_bordersN.mpr ⟨by omega, (per_bo w0 (by omega)).mp (per_P.mpr (c.per (Nat.le_refl _)))⟩) fun x hx => ?_
  obtain ⟨h1, h2⟩ := mem_bordersN.mp hx
  have h3 := h2.1
  have h4 : Per t (t.length - x) := (per_bo (by omega) (by omega)).mpr (by rw [show t.length - (t.length - x) = x by omega]; exact h2)
  have := c.mul (Nat.le_refl _) (by omega) (by omega) (per_P.mp h4)
  omega
theorem Cyc.bordT {w t : List Nat} (c : Cyc w t) : t.take (t.length - w.length) = t.drop w.length := by
  have tw := c.two
  exact ((per_iff (by omega)).mpr (per_P.mpr (c.per (Nat.le_refl _)))).symm
end DL


namespace DL
open PySem PySem.Spec PyProof.Rows L2

mutual
theorem eq_self : ∀ d : D, d.pl = true → d.eq d = true
  | .non, _ => rfl
  | .bl b, _ => by cases b <;> rfl
  | .int i, _ => beq_self_eq_true i
  | .str l, _ => beq_self_eq_true l
  | .lst xs, h => eqs_self xs h
  | .tup xs, h => eqs_self xs h
  | .dic _ _ _, h => by cases h
  | .ins _ _, h => by cases h
  | .scr _ _, h => by cases h
theorem eqs_self : ∀ xs : List D, pls xs = true → eqs xs xs = true
  | [], _ => rfl
  | x :: xs, h => by
    simp only [pls, Bool.and_eq_true] at h
    show (x.eq x && eqs xs xs) = true
    rw [eq_self x h.1, eqs_self xs h.2] <;> rfl
end
theorem oEq_same {d e : D} {K : D → Prop} (q : d = e) (hp : d.pl = true) (hd : d.dep ≤ 50) (k : K (.bl true)) : oEq d e K := by
  subst q
  refine ⟨hp, hp, .inl hd, ?_⟩
  rw [eq_self d hp]
  exact k
theorem oNe_same {d e : D} {K : D → Prop} (q : d = e) (hp : d.pl = true) (hd : d.dep ≤ 50) (k : K (.bl false)) : oNe d e K := by
  subst q
  refine ⟨hp, hp, .inl hd, ?_⟩
  rw [eq_self d hp]
  exact k
theorem cut_last {α : Type} (m : List α) (x : α) : cutG (m ++ [x]) (some (-1)) none = [x] := by
  unfold cutG
  rw [HT.sIx_none, List.length_append, List.length_singleton]
  have e : HT.sIx (m.length + 1) 0 (some (-1)) = m.length := by
    unfold HT.sIx
    simp
    omega
  rw [e]
  simp
def words5 : List (List Nat) := [[97], [97, 98], [97, 98, 99], [98, 97, 32], [119, 120, 121, 122]]
theorem words5_ok : ∀ w ∈ words5, (∀ c ∈ w, 32 ≤ c ∧ c ≤ 126) ∧ 0 < w.length ∧ w.length ≤ 4 ∧ ∀ i, i < w.length → ∀ j, j < w.length → tt w i = tt w j → i = j := by decide
theorem cyc_of {w : List Nat} (hw : w ∈ words5) {n : Nat} (h1 : 2 * w.length ≤ n) (h2 : n ≤ 2000) : Cyc w ((repL w 2000).take n) ∧ Signs ((repL w 2000).take n) ∧ ((repL w 2000).take n).length = n := by
  obtain ⟨a, b, c, d⟩ := words5_ok w hw
  have hl : (repL w 2000).length = 2000 * w.length := repL_length ..
  have hn : ((repL w 2000).take n).length = n := by
    rw [List.length_take, hl]
    omega
  refine ⟨⟨b, d, fun i hi => ?_, by rw [hn]; exact h1⟩, fun x hx => ?_, hn⟩
  · rw [hn] at hi
    rw [tt_take hi, rep_tt b 2000 i (by omega)]
  · have hx2 := List.mem_of_mem_take hx
    unfold repL at hx2
    rw [List.mem_flatten] at hx2
    obtain ⟨l, hl, hx3⟩ := hx2
    rw [(List.mem_replicate.mp hl).2] at hx3
    exact a x hx3
def S__law_great_right : FnSpec := mkSpec (α := Hand) [true] false (fun h => [h.d]) (fun h => h.Ok) fun x r os => ∃ h' : Hand, h'.Ok ∧ r = .bl true ∧ os = [h'.d]
theorem fr_great : S__law_great_right.fresh = false := rfl
theorem fr_runs : S_runs.fresh = true := rfl
/-- _law_great_right: slots 0 _law_hand_here, 1 _law_word, 2 _law_many, 3 _law_text_here, 4 _law_told -/
def D__law_great_right : DTS := (dSeq (dSet 1 (dUp (dFz (dCallIo S__law_any 0 (dCons (dFz (dLst (dCons (dC (.str [97])) (dCons (dC (.str [97, 98])) (dCons (dC (.str [97, 98, 99])) (dCons (dC (.str [98, 97, 32])) (dCons (dC (.str [119, 120, 121, 122])) dNil))))))) dNil))))) (dSeq (dSet 2 (dUp (dFz (dCallIo S__law_any 0 (dCons (dFz (dLst (dCons (dBin oMulS (dC (.int 2)) (dLenS 1)) (dCons (dBin oAdd (dBin oMulS (dC (.int 3)) (dLenS 1)) (dC (.int 1))) (dCons (dC (.int 97)) (dCons (dC (.int 2000)) dNil)))))) dNil))))) (dSeq (dSet 3 (dUp (dSl (dBin oMulS (dVar 1) (dC (.int 2000))) dNo (dPt (dCB oMax2 (dCons (dVar 2) (dCons (dBin oMulS (dC (.int 2)) (dLenS 1)) dNil))))))) (dSeq (dIf (dTest (dBin oNe (dFz (dCallF S_runs (dCons (dVar 3) dNil))) (dFz (dLst (dCons (dTup (dCons (dC (.int 0)) (dCons (dLenS 3) (dCons (dLenS 1) dNil)))) dNil))))) (dRet (dUp (dC (.bl false)))) dNext) (dSeq (dSet 4 (dUp (dCall S_periods (dCons (dVar 3) dNil)))) (dRet (dUp (dAndV (dBin oEq (dSlS 4 dNo (dPt (dC (.int 1)))) (dTup (dCons (dLenS 1) dNil))) (dAndV (dBin oEq (dSlS 4 (dPt (dUn oNeg (dC (.int 1)))) dNo) (dTup (dCons (dLenS 3) dNil))) (dBin oEq (dSl (dFz (dCallF S_borders (dCons (dVar 3) dNil))) (dPt (dUn oNeg (dC (.int 1)))) dNo) (dFz (dLst (dCons (dSlS 3 (dPt (dLenS 1)) dNo) dNil)))))))))))))
theorem sem__law_great_right : ∀ ds Kd, S__law_great_right.ds ds Kd → D__law_great_right (endsOf S__law_great_right Kd) (env0 5 [true] ds) := by
  rintro ds Kd ⟨h, rfl, ok, post⟩
  show D__law_great_right (endsOf S__law_great_right Kd) [.io h.d, .un, .un, .un, .un]
  unfold D__law_great_right
  refine seq_gen fun k hk => ?_
  simp only [↓dSeq, ↓dNext, ↓dBreak, ↓dCont, ↓dNever, ↓dRet, ↓dRetN, ↓dDrop, ↓dSet, ↓dIf, ↓dAug, ↓dAsg, ↓dPar, ↓dVar, ↓dMove, ↓dC, ↓dFz, ↓dUp, ↓dNil, ↓dCons, ↓dTup, ↓dLst, ↓dBin, ↓dUn, ↓dChain, ↓dTest, ↓dAnd, ↓dOr, ↓dNot, ↓dAndV, ↓dOrV, ↓dNotV, ↓dIfE, ↓dgName, ↓dgNil, ↓dgCons, ↓dgTup, ↓dIt, ↓dRng1, ↓dRng2, ↓dZip, ↓dEnum, ↓u_for, ↓u_lc, ↓dYes, ↓u_call, ↓u_callF, ↓u_callIo, ↓dCB, ↓dCBF, ↓dBinS, ↓dLenS, ↓dSl, ↓dSlS, ↓dNo, ↓dPt, ↓dStL, ↓dApp, ↓dExt, ↓dJoin, ↓dRg1, ↓dRg2, ↓dTupRg, ↓dLstRg, ↓oSub, ↓oMulI, ↓oMul, ↓oFdiv, ↓oMod, ↓oPow, ↓oShr, ↓oXor, ↓oNeg, ↓oAdd, ↓oAug, ↓oLt, ↓oLe, ↓oGt, ↓oGe, ↓oI, ↓oIx, ↓oLen, ↓oInt, ↓oOrd, ↓oAbs, ↓oStL, ↓oIn, ↓oNin, ↓oInB, ↓isi_int, ↓isi_int_bl, ↓isi_int_str, ↓isi_int_tup, ↓isi_int_lst, ↓isi_str, ↓isi_str_int, ↓isi_tup, ↓isi_tup_int, ↓isi_tup_str, ↓isi_tup_lst, ↓isi_lst, ↓isi_lst_tup, ↓isi_lst_int, ↓isi_lst_str, ↓cv, ↓Cell.val, ↓Cell.up, ↓Cell.own, ↓lenD, ↓itemsOf, List.getElem?_cons_zero, List.getElem?_cons_succ, List.set_cons_zero, List.set_cons_succ, Option.bind_some, Option.isSome_some, List.length_cons, List.length_nil, true_and, and_true, ↓ixN_lit, ↓atI_lit, ↓reduceIte, Nat.reduceAdd, Nat.reduceLT, Nat.reduceSub, Nat.zero_add, Nat.reduceLeDiff, Nat.lt_add_one, Nat.zero_lt_succ, ↓oEq_int, ↓oNe_int, ↓oEq_str, ↓oNe_str, ↓oEq_bl, ↓oNe_bl, decide_eq_true_eq, Bool.false_eq_true, ↓u_while, ↓ownAt, List.all_cons, List.all_nil, Bool.and_true, List.getD_cons_zero, List.getD_cons_succ, Bool.not_false, ↓oLe_sign, ↓oMulS, ↓dDic, ↓dLock, ↓dGetS, ↓dStD, ↓dInS, ↓oInD, ↓dKeys, ↓dGet1, ↓dGet2, ↓dRev, ↓dMulL, ↓dCount, ↓dScrSl, ↓dScrLen, ↓dScrList, ↓oStrI]
  refine ⟨by decide, rfl, onM (h, .lst (sl words5)) rfl ⟨ok, sl words5, rfl, by decide, by decide⟩ ?_⟩
  rintro r os ⟨h2, xs, ok2, ex, hr, rfl⟩
  cases ex
  obtain ⟨w, hw, rfl⟩ := List.mem_map.mp hr
  obtain ⟨_, w0, w4, _⟩ := words5_ok w hw
  simp only [ioB, wipeE, fr_any, ↓dSeq, ↓dNext, ↓dBreak, ↓dCont, ↓dNever, ↓dRet, ↓dRetN, ↓dDrop, ↓dSet, ↓dIf, ↓dAug, ↓dAsg, ↓dPar, ↓dVar, ↓dMove, ↓dC, ↓dFz, ↓dUp, ↓dNil, ↓dCons, ↓dTup, ↓dLst, ↓dBin, ↓dUn, ↓dChain, ↓dTest, ↓dAnd, ↓dOr, ↓dNot, ↓dAndV, ↓dOrV, ↓dNotV, ↓dIfE, ↓dgName, ↓dgNil, ↓dgCons, ↓dgTup, ↓dIt, ↓dRng1, ↓dRng2, ↓dZip, ↓dEnum, ↓u_for, ↓u_lc, ↓dYes, ↓u_call, ↓u_callF, ↓u_callIo, ↓dCB, ↓dCBF, ↓dBinS, ↓dLenS, ↓dSl, ↓dSlS, ↓dNo, ↓dPt, ↓dStL, ↓dApp, ↓dExt, ↓dJoin, ↓dRg1, ↓dRg2, ↓dTupRg, ↓dLstRg, ↓oSub, ↓oMulI, ↓oMul, ↓oFdiv, ↓oMod, ↓oPow, ↓oShr, ↓oXor, ↓oNeg, ↓oAdd, ↓oAug, ↓oLt, ↓oLe, ↓oGt, ↓oGe, ↓oI, ↓oIx, ↓oLen, ↓oInt, ↓oOrd, ↓oAbs, ↓oStL, ↓oIn, ↓oNin, ↓oInB, ↓isi_int, ↓isi_int_bl, ↓isi_int_str, ↓isi_int_tup, ↓isi_int_lst, ↓isi_str, ↓isi_str_int, ↓isi_tup, ↓isi_tup_int, ↓isi_tup_str, ↓isi_tup_lst, ↓isi_lst, ↓isi_lst_tup, ↓isi_lst_int, ↓isi_lst_str, ↓cv, ↓Cell.val, ↓Cell.up, ↓Cell.own, ↓lenD, ↓itemsOf, List.getElem?_cons_zero, List.getElem?_cons_succ, List.set_cons_zero, List.set_cons_succ, Option.bind_some, Option.isSome_some, List.length_cons, List.length_nil, true_and, and_true, ↓ixN_lit, ↓atI_lit, ↓reduceIte, Nat.reduceAdd, Nat.reduceLT, Nat.reduceSub, Nat.zero_add, Nat.reduceLeDiff, Nat.lt_add_one, Nat.zero_lt_succ, ↓oEq_int, ↓oNe_int, ↓oEq_str, ↓oNe_str, ↓oEq_bl, ↓oNe_bl, decide_eq_true_eq, Bool.false_eq_true, ↓u_while, ↓ownAt, List.all_cons, List.all_nil, Bool.and_true, List.getD_cons_zero, List.getD_cons_succ, Bool.not_false, ↓oLe_sign, ↓oMulS, ↓dDic, ↓dLock, ↓dGetS, ↓dStD, ↓dInS, ↓oInD, ↓dKeys, ↓dGet1, ↓dGet2, ↓dRev, ↓dMulL, ↓dCount, ↓dScrSl, ↓dScrLen, ↓dScrList, ↓oStrI]
  subst hk
  refine seq_gen fun k hk => ?_
  simp only [↓dSeq, ↓dNext, ↓dBreak, ↓dCont, ↓dNever, ↓dRet, ↓dRetN, ↓dDrop, ↓dSet, ↓dIf, ↓dAug, ↓dAsg, ↓dPar, ↓dVar, ↓dMove, ↓dC, ↓dFz, ↓dUp, ↓dNil, ↓dCons, ↓dTup, ↓dLst, ↓dBin, ↓dUn, ↓dChain, ↓dTest, ↓dAnd, ↓dOr, ↓dNot, ↓dAndV, ↓dOrV, ↓dNotV, ↓dIfE, ↓dgName, ↓dgNil, ↓dgCons, ↓dgTup, ↓dIt, ↓dRng1, ↓dRng2, ↓dZip, ↓dEnum, ↓u_for, ↓u_lc, ↓dYes, ↓u_call, ↓u_callF, ↓u_callIo, ↓dCB, ↓dCBF, ↓dBinS, ↓dLenS, ↓dSl, ↓dSlS, ↓dNo, ↓dPt, ↓dStL, ↓dApp, ↓dExt, ↓dJoin, ↓dRg1, ↓dRg2, ↓dTupRg, ↓dLstRg, ↓oSub, ↓oMulI, ↓oMul, ↓oFdiv, ↓oMod, ↓oPow, ↓oShr, ↓oXor, ↓oNeg, ↓oAdd, ↓oAug, ↓oLt, ↓oLe, ↓oGt, ↓oGe, ↓oI, ↓oIx, ↓oLen, ↓oInt, ↓oOrd, ↓oAbs, ↓oStL, ↓oIn, ↓oNin, ↓oInB, ↓isi_int, ↓isi_int_bl, ↓isi_int_str, ↓isi_int_tup, ↓isi_int_lst, ↓isi_str, ↓isi_str_int, ↓isi_tup, ↓isi_tup_int, ↓isi_tup_str, ↓isi_tup_lst, ↓isi_lst, ↓isi_lst_tup, ↓isi_lst_int, ↓isi_lst_str, ↓cv, ↓Cell.val, ↓Cell.up, ↓Cell.own, ↓lenD, ↓itemsOf, List.getElem?_cons_zero, List.getElem?_cons_succ, List.set_cons_zero, List.set_cons_succ, Option.bind_some, Option.isSome_some, List.length_cons, List.length_nil, true_and, and_true, ↓ixN_lit, ↓atI_lit, ↓reduceIte, Nat.reduceAdd, Nat.reduceLT, Nat.reduceSub, Nat.zero_add, Nat.reduceLeDiff, Nat.lt_add_one, Nat.zero_lt_succ, ↓oEq_int, ↓oNe_int, ↓oEq_str, ↓oNe_str, ↓oEq_bl, ↓oNe_bl, decide_eq_true_eq, Bool.false_eq_true, ↓u_while, ↓ownAt, List.all_cons, List.all_nil, Bool.and_true, List.getD_cons_zero, List.getD_cons_succ, Bool.not_false, ↓oLe_sign, ↓oMulS, ↓dDic, ↓dLock, ↓dGetS, ↓dStD, ↓dInS, ↓oInD, ↓dKeys, ↓dGet1, ↓dGet2, ↓dRev, ↓dMulL, ↓dCount, ↓dScrSl, ↓dScrLen, ↓dScrList, ↓oStrI]
  refine ⟨cmul_l (by decide) (by decide), cmul_l (by decide) (by decide), by decide, rfl, onM (h2, .lst [.int (2 * (w.length : Nat)), .int (3 * (w.length : Nat) + 1), .int 97, .int 2000]) rfl ⟨ok2, _, rfl, by show 1 ≤ 4; decide, by show 4 < 1000000; decide⟩ ?_⟩
  rintro r os ⟨h3, xs, ok3, ex, hr, rfl⟩
  cases ex
  obtain ⟨m, rfl, hm⟩ : ∃ m : Nat, r = .int (m : Nat) ∧ m ≤ 2000 := by
    simp only [List.mem_cons, List.not_mem_nil, or_false] at hr
    rcases hr with rfl | rfl | rfl | rfl
    · exact ⟨2 * w.length, by rw [Int.natCast_mul] <;> rfl, by omega⟩
    · exact ⟨3 * w.length + 1, by rw [Int.natCast_add, Int.natCast_mul] <;> rfl, by omega⟩
    · exact ⟨97, rfl, by omega⟩
    · exact ⟨2000, rfl, by omega⟩
  simp only [ioB, wipeE, fr_any, ↓dSeq, ↓dNext, ↓dBreak, ↓dCont, ↓dNever, ↓dRet, ↓dRetN, ↓dDrop, ↓dSet, ↓dIf, ↓dAug, ↓dAsg, ↓dPar, ↓dVar, ↓dMove, ↓dC, ↓dFz, ↓dUp, ↓dNil, ↓dCons, ↓dTup, ↓dLst, ↓dBin, ↓dUn, ↓dChain, ↓dTest, ↓dAnd, ↓dOr, ↓dNot, ↓dAndV, ↓dOrV, ↓dNotV, ↓dIfE, ↓dgName, ↓dgNil, ↓dgCons, ↓dgTup, ↓dIt, ↓dRng1, ↓dRng2, ↓dZip, ↓dEnum, ↓u_for, ↓u_lc, ↓dYes, ↓u_call, ↓u_callF, ↓u_callIo, ↓dCB, ↓dCBF, ↓dBinS, ↓dLenS, ↓dSl, ↓dSlS, ↓dNo, ↓dPt, ↓dStL, ↓dApp, ↓dExt, ↓dJoin, ↓dRg1, ↓dRg2, ↓dTupRg, ↓dLstRg, ↓oSub, ↓oMulI, ↓oMul, ↓oFdiv, ↓oMod, ↓oPow, ↓oShr, ↓oXor, ↓oNeg, ↓oAdd, ↓oAug, ↓oLt, ↓oLe, ↓oGt, ↓oGe, ↓oI, ↓oIx, ↓oLen, ↓oInt, ↓oOrd, ↓oAbs, ↓oStL, ↓oIn, ↓oNin, ↓oInB, ↓isi_int, ↓isi_int_bl, ↓isi_int_str, ↓isi_int_tup, ↓isi_int_lst, ↓isi_str, ↓isi_str_int, ↓isi_tup, ↓isi_tup_int, ↓isi_tup_str, ↓isi_tup_lst, ↓isi_lst, ↓isi_lst_tup, ↓isi_lst_int, ↓isi_lst_str, ↓cv, ↓Cell.val, ↓Cell.up, ↓Cell.own, ↓lenD, ↓itemsOf, List.getElem?_cons_zero, List.getElem?_cons_succ, List.set_cons_zero, List.set_cons_succ, Option.bind_some, Option.isSome_some, List.length_cons, List.length_nil, true_and, and_true, ↓ixN_lit, ↓atI_lit, ↓reduceIte, Nat.reduceAdd, Nat.reduceLT, Nat.reduceSub, Nat.zero_add, Nat.reduceLeDiff, Nat.lt_add_one, Nat.zero_lt_succ, ↓oEq_int, ↓oNe_int, ↓oEq_str, ↓oNe_str, ↓oEq_bl, ↓oNe_bl, decide_eq_true_eq, Bool.false_eq_true, ↓u_while, ↓ownAt, List.all_cons, List.all_nil, Bool.and_true, List.getD_cons_zero, List.getD_cons_succ, Bool.not_false, ↓oLe_sign, ↓oMulS, ↓dDic, ↓dLock, ↓dGetS, ↓dStD, ↓dInS, ↓oInD, ↓dKeys, ↓dGet1, ↓dGet2, ↓dRev, ↓dMulL, ↓dCount, ↓dScrSl, ↓dScrLen, ↓dScrList, ↓oStrI]
  subst hk
  refine seq_gen fun k hk => ?_
  simp only [↓dSeq, ↓dNext, ↓dBreak, ↓dCont, ↓dNever, ↓dRet, ↓dRetN, ↓dDrop, ↓dSet, ↓dIf, ↓dAug, ↓dAsg, ↓dPar, ↓dVar, ↓dMove, ↓dC, ↓dFz, ↓dUp, ↓dNil, ↓dCons, ↓dTup, ↓dLst, ↓dBin, ↓dUn, ↓dChain, ↓dTest, ↓dAnd, ↓dOr, ↓dNot, ↓dAndV, ↓dOrV, ↓dNotV, ↓dIfE, ↓dgName, ↓dgNil, ↓dgCons, ↓dgTup, ↓dIt, ↓dRng1, ↓dRng2, ↓dZip, ↓dEnum, ↓u_for, ↓u_lc, ↓dYes, ↓u_call, ↓u_callF, ↓u_callIo, ↓dCB, ↓dCBF, ↓dBinS, ↓dLenS, ↓dSl, ↓dSlS, ↓dNo, ↓dPt, ↓dStL, ↓dApp, ↓dExt, ↓dJoin, ↓dRg1, ↓dRg2, ↓dTupRg, ↓dLstRg, ↓oSub, ↓oMulI, ↓oMul, ↓oFdiv, ↓oMod, ↓oPow, ↓oShr, ↓oXor, ↓oNeg, ↓oAdd, ↓oAug, ↓oLt, ↓oLe, ↓oGt, ↓oGe, ↓oI, ↓oIx, ↓oLen, ↓oInt, ↓oOrd, ↓oAbs, ↓oStL, ↓oIn, ↓oNin, ↓oInB, ↓isi_int, ↓isi_int_bl, ↓isi_int_str, ↓isi_int_tup, ↓isi_int_lst, ↓isi_str, ↓isi_str_int, ↓isi_tup, ↓isi_tup_int, ↓isi_tup_str, ↓isi_tup_lst, ↓isi_lst, ↓isi_lst_tup, ↓isi_lst_int, ↓isi_lst_str, ↓cv, ↓Cell.val, ↓Cell.up, ↓Cell.own, ↓lenD, ↓itemsOf, List.getElem?_cons_zero, List.getElem?_cons_succ, List.set_cons_zero, List.set_cons_succ, Option.bind_some, Option.isSome_some, List.length_cons, List.length_nil, true_and, and_true, ↓ixN_lit, ↓atI_lit, ↓reduceIte, Nat.reduceAdd, Nat.reduceLT, Nat.reduceSub, Nat.zero_add, Nat.reduceLeDiff, Nat.lt_add_one, Nat.zero_lt_succ, ↓oEq_int, ↓oNe_int, ↓oEq_str, ↓oNe_str, ↓oEq_bl, ↓oNe_bl, decide_eq_true_eq, Bool.false_eq_true, ↓u_while, ↓ownAt, List.all_cons, List.all_nil, Bool.and_true, List.getD_cons_zero, List.getD_cons_succ, Bool.not_false, ↓oLe_sign, ↓oMulS, ↓dDic, ↓dLock, ↓dGetS, ↓dStD, ↓dInS, ↓oInD, ↓dKeys, ↓dGet1, ↓dGet2, ↓dRev, ↓dMulL, ↓dCount, ↓dScrSl, ↓dScrLen, ↓dScrList, ↓oStrI, oSl]
  refine ⟨by decide, by decide, by show w.length * 2000 ≤ 16777216; omega, cmul_l (by decide) (by decide), ?_⟩
  obtain ⟨n, en, n1, n2⟩ : ∃ n : Nat, max (m : Int) (2 * ((w.length : Nat) : Int)) = (n : Int) ∧ 2 * w.length ≤ n ∧ n ≤ 2000 := ⟨max m (2 * w.length), by omega, by omega, by omega⟩
  dsimp only [oMax2]
  rw [en, cutG_to, show Int.toNat 2000 = 2000 from rfl]
  obtain ⟨cy, sg, hn⟩ := cyc_of hw n1 n2
  generalize (repL w 2000).take n = t at cy sg hn
  subst hk
  refine seq_gen fun k hk => ?_
  simp only [↓dSeq, ↓dNext, ↓dBreak, ↓dCont, ↓dNever, ↓dRet, ↓dRetN, ↓dDrop, ↓dSet, ↓dIf, ↓dAug, ↓dAsg, ↓dPar, ↓dVar, ↓dMove, ↓dC, ↓dFz, ↓dUp, ↓dNil, ↓dCons, ↓dTup, ↓dLst, ↓dBin, ↓dUn, ↓dChain, ↓dTest, ↓dAnd, ↓dOr, ↓dNot, ↓dAndV, ↓dOrV, ↓dNotV, ↓dIfE, ↓dgName, ↓dgNil, ↓dgCons, ↓dgTup, ↓dIt, ↓dRng1, ↓dRng2, ↓dZip, ↓dEnum, ↓u_for, ↓u_lc, ↓dYes, ↓u_call, ↓u_callF, ↓u_callIo, ↓dCB, ↓dCBF, ↓dBinS, ↓dLenS, ↓dSl, ↓dSlS, ↓dNo, ↓dPt, ↓dStL, ↓dApp, ↓dExt, ↓dJoin, ↓dRg1, ↓dRg2, ↓dTupRg, ↓dLstRg, ↓oSub, ↓oMulI, ↓oMul, ↓oFdiv, ↓oMod, ↓oPow, ↓oShr, ↓oXor, ↓oNeg, ↓oAdd, ↓oAug, ↓oLt, ↓oLe, ↓oGt, ↓oGe, ↓oI, ↓oIx, ↓oLen, ↓oInt, ↓oOrd, ↓oAbs, ↓oStL, ↓oIn, ↓oNin, ↓oInB, ↓isi_int, ↓isi_int_bl, ↓isi_int_str, ↓isi_int_tup, ↓isi_int_lst, ↓isi_str, ↓isi_str_int, ↓isi_tup, ↓isi_tup_int, ↓isi_tup_str, ↓isi_tup_lst, ↓isi_lst, ↓isi_lst_tup, ↓isi_lst_int, ↓isi_lst_str, ↓cv, ↓Cell.val, ↓Cell.up, ↓Cell.own, ↓lenD, ↓itemsOf, List.getElem?_cons_zero, List.getElem?_cons_succ, List.set_cons_zero, List.set_cons_succ, Option.bind_some, Option.isSome_some, List.length_cons, List.length_nil, true_and, and_true, ↓ixN_lit, ↓atI_lit, ↓reduceIte, Nat.reduceAdd, Nat.reduceLT, Nat.reduceSub, Nat.zero_add, Nat.reduceLeDiff, Nat.lt_add_one, Nat.zero_lt_succ, ↓oEq_int, ↓oNe_int, ↓oEq_str, ↓oNe_str, ↓oEq_bl, ↓oNe_bl, decide_eq_true_eq, Bool.false_eq_true, ↓u_while, ↓ownAt, List.all_cons, List.all_nil, Bool.and_true, List.getD_cons_zero, List.getD_cons_succ, Bool.not_false, ↓oLe_sign, ↓oMulS, ↓dDic, ↓dLock, ↓dGetS, ↓dStD, ↓dInS, ↓oInD, ↓dKeys, ↓dGet1, ↓dGet2, ↓dRev, ↓dMulL, ↓dCount, ↓dScrSl, ↓dScrLen, ↓dScrList, ↓oStrI]
  refine ⟨rfl, onF t rfl ⟨sg, by omega⟩ ?_⟩
  simp only [↓dSeq, ↓dNext, ↓dBreak, ↓dCont, ↓dNever, ↓dRet, ↓dRetN, ↓dDrop, ↓dSet, ↓dIf, ↓dAug, ↓dAsg, ↓dPar, ↓dVar, ↓dMove, ↓dC, ↓dFz, ↓dUp, ↓dNil, ↓dCons, ↓dTup, ↓dLst, ↓dBin, ↓dUn, ↓dChain, ↓dTest, ↓dAnd, ↓dOr, ↓dNot, ↓dAndV, ↓dOrV, ↓dNotV, ↓dIfE, ↓dgName, ↓dgNil, ↓dgCons, ↓dgTup, ↓dIt, ↓dRng1, ↓dRng2, ↓dZip, ↓dEnum, ↓u_for, ↓u_lc, ↓dYes, ↓u_call, ↓u_callF, ↓u_callIo, ↓dCB, ↓dCBF, ↓dBinS, ↓dLenS, ↓dSl, ↓dSlS, ↓dNo, ↓dPt, ↓dStL, ↓dApp, ↓dExt, ↓dJoin, ↓dRg1, ↓dRg2, ↓dTupRg, ↓dLstRg, ↓oSub, ↓oMulI, ↓oMul, ↓oFdiv, ↓oMod, ↓oPow, ↓oShr, ↓oXor, ↓oNeg, ↓oAdd, ↓oAug, ↓oLt, ↓oLe, ↓oGt, ↓oGe, ↓oI, ↓oIx, ↓oLen, ↓oInt, ↓oOrd, ↓oAbs, ↓oStL, ↓oIn, ↓oNin, ↓oInB, ↓isi_int, ↓isi_int_bl, ↓isi_int_str, ↓isi_int_tup, ↓isi_int_lst, ↓isi_str, ↓isi_str_int, ↓isi_tup, ↓isi_tup_int, ↓isi_tup_str, ↓isi_tup_lst, ↓isi_lst, ↓isi_lst_tup, ↓isi_lst_int, ↓isi_lst_str, ↓cv, ↓Cell.val, ↓Cell.up, ↓Cell.own, ↓lenD, ↓itemsOf, List.getElem?_cons_zero, List.getElem?_cons_succ, List.set_cons_zero, List.set_cons_succ, Option.bind_some, Option.isSome_some, List.length_cons, List.length_nil, true_and, and_true, ↓ixN_lit, ↓atI_lit, ↓reduceIte, Nat.reduceAdd, Nat.reduceLT, Nat.reduceSub, Nat.zero_add, Nat.reduceLeDiff, Nat.lt_add_one, Nat.zero_lt_succ, ↓oEq_int, ↓oNe_int, ↓oEq_str, ↓oNe_str, ↓oEq_bl, ↓oNe_bl, decide_eq_true_eq, Bool.false_eq_true, ↓u_while, ↓ownAt, List.all_cons, List.all_nil, Bool.and_true, List.getD_cons_zero, List.getD_cons_succ, Bool.not_false, ↓oLe_sign, ↓oMulS, ↓dDic, ↓dLock, ↓dGetS, ↓dStD, ↓dInS, ↓oInD, ↓dKeys, ↓dGet1, ↓dGet2, ↓dRev, ↓dMulL, ↓dCount, ↓dScrSl, ↓dScrLen, ↓dScrList, ↓oStrI, cy.runs]
  refine ⟨by decide, by decide, oNe_same rfl rfl (by show 2 ≤ 50; decide) ?_⟩
  dsimp only
  rw [if_neg (by decide)]
  subst hk
  refine seq_gen fun k hk => ?_
  simp only [↓dSeq, ↓dNext, ↓dBreak, ↓dCont, ↓dNever, ↓dRet, ↓dRetN, ↓dDrop, ↓dSet, ↓dIf, ↓dAug, ↓dAsg, ↓dPar, ↓dVar, ↓dMove, ↓dC, ↓dFz, ↓dUp, ↓dNil, ↓dCons, ↓dTup, ↓dLst, ↓dBin, ↓dUn, ↓dChain, ↓dTest, ↓dAnd, ↓dOr, ↓dNot, ↓dAndV, ↓dOrV, ↓dNotV, ↓dIfE, ↓dgName, ↓dgNil, ↓dgCons, ↓dgTup, ↓dIt, ↓dRng1, ↓dRng2, ↓dZip, ↓dEnum, ↓u_for, ↓u_lc, ↓dYes, ↓u_call, ↓u_callF, ↓u_callIo, ↓dCB, ↓dCBF, ↓dBinS, ↓dLenS, ↓dSl, ↓dSlS, ↓dNo, ↓dPt, ↓dStL, ↓dApp, ↓dExt, ↓dJoin, ↓dRg1, ↓dRg2, ↓dTupRg, ↓dLstRg, ↓oSub, ↓oMulI, ↓oMul, ↓oFdiv, ↓oMod, ↓oPow, ↓oShr, ↓oXor, ↓oNeg, ↓oAdd, ↓oAug, ↓oLt, ↓oLe, ↓oGt, ↓oGe, ↓oI, ↓oIx, ↓oLen, ↓oInt, ↓oOrd, ↓oAbs, ↓oStL, ↓oIn, ↓oNin, ↓oInB, ↓isi_int, ↓isi_int_bl, ↓isi_int_str, ↓isi_int_tup, ↓isi_int_lst, ↓isi_str, ↓isi_str_int, ↓isi_tup, ↓isi_tup_int, ↓isi_tup_str, ↓isi_tup_lst, ↓isi_lst, ↓isi_lst_tup, ↓isi_lst_int, ↓isi_lst_str, ↓cv, ↓Cell.val, ↓Cell.up, ↓Cell.own, ↓lenD, ↓itemsOf, List.getElem?_cons_zero, List.getElem?_cons_succ, List.set_cons_zero, List.set_cons_succ, Option.bind_some, Option.isSome_some, List.length_cons, List.length_nil, true_and, and_true, ↓ixN_lit, ↓atI_lit, ↓reduceIte, Nat.reduceAdd, Nat.reduceLT, Nat.reduceSub, Nat.zero_add, Nat.reduceLeDiff, Nat.lt_add_one, Nat.zero_lt_succ, ↓oEq_int, ↓oNe_int, ↓oEq_str, ↓oNe_str, ↓oEq_bl, ↓oNe_bl, decide_eq_true_eq, Bool.false_eq_true, ↓u_while, ↓ownAt, List.all_cons, List.all_nil, Bool.and_true, List.getD_cons_zero, List.getD_cons_succ, Bool.not_false, ↓oLe_sign, ↓oMulS, ↓dDic, ↓dLock, ↓dGetS, ↓dStD, ↓dInS, ↓oInD, ↓dKeys, ↓dGet1, ↓dGet2, ↓dRev, ↓dMulL, ↓dCount, ↓dScrSl, ↓dScrLen, ↓dScrList, ↓oStrI]
  refine ⟨rfl, onF t rfl ⟨sg, by omega⟩ ?_⟩
  simp only [↓dSeq, ↓dNext, ↓dBreak, ↓dCont, ↓dNever, ↓dRet, ↓dRetN, ↓dDrop, ↓dSet, ↓dIf, ↓dAug, ↓dAsg, ↓dPar, ↓dVar, ↓dMove, ↓dC, ↓dFz, ↓dUp, ↓dNil, ↓dCons, ↓dTup, ↓dLst, ↓dBin, ↓dUn, ↓dChain, ↓dTest, ↓dAnd, ↓dOr, ↓dNot, ↓dAndV, ↓dOrV, ↓dNotV, ↓dIfE, ↓dgName, ↓dgNil, ↓dgCons, ↓dgTup, ↓dIt, ↓dRng1, ↓dRng2, ↓dZip, ↓dEnum, ↓u_for, ↓u_lc, ↓dYes, ↓u_call, ↓u_callF, ↓u_callIo, ↓dCB, ↓dCBF, ↓dBinS, ↓dLenS, ↓dSl, ↓dSlS, ↓dNo, ↓dPt, ↓dStL, ↓dApp, ↓dExt, ↓dJoin, ↓dRg1, ↓dRg2, ↓dTupRg, ↓dLstRg, ↓oSub, ↓oMulI, ↓oMul, ↓oFdiv, ↓oMod, ↓oPow, ↓oShr, ↓oXor, ↓oNeg, ↓oAdd, ↓oAug, ↓oLt, ↓oLe, ↓oGt, ↓oGe, ↓oI, ↓oIx, ↓oLen, ↓oInt, ↓oOrd, ↓oAbs, ↓oStL, ↓oIn, ↓oNin, ↓oInB, ↓isi_int, ↓isi_int_bl, ↓isi_int_str, ↓isi_int_tup, ↓isi_int_lst, ↓isi_str, ↓isi_str_int, ↓isi_tup, ↓isi_tup_int, ↓isi_tup_str, ↓isi_tup_lst, ↓isi_lst, ↓isi_lst_tup, ↓isi_lst_int, ↓isi_lst_str, ↓cv, ↓Cell.val, ↓Cell.up, ↓Cell.own, ↓lenD, ↓itemsOf, List.getElem?_cons_zero, List.getElem?_cons_succ, List.set_cons_zero, List.set_cons_succ, Option.bind_some, Option.isSome_some, List.length_cons, List.length_nil, true_and, and_true, ↓ixN_lit, ↓atI_lit, ↓reduceIte, Nat.reduceAdd, Nat.reduceLT, Nat.reduceSub, Nat.zero_add, Nat.reduceLeDiff, Nat.lt_add_one, Nat.zero_lt_succ, ↓oEq_int, ↓oNe_int, ↓oEq_str, ↓oNe_str, ↓oEq_bl, ↓oNe_bl, decide_eq_true_eq, Bool.false_eq_true, ↓u_while, ↓ownAt, List.all_cons, List.all_nil, Bool.and_true, List.getD_cons_zero, List.getD_cons_succ, Bool.not_false, ↓oLe_sign, ↓oMulS, ↓dDic, ↓dLock, ↓dGetS, ↓dStD, ↓dInS, ↓oInD, ↓dKeys, ↓dGet1, ↓dGet2, ↓dRev, ↓dMulL, ↓dCount, ↓dScrSl, ↓dScrLen, ↓dScrList, ↓oStrI]
  subst hk
  simp only [↓dSeq, ↓dNext, ↓dBreak, ↓dCont, ↓dNever, ↓dRet, ↓dRetN, ↓dDrop, ↓dSet, ↓dIf, ↓dAug, ↓dAsg, ↓dPar, ↓dVar, ↓dMove, ↓dC, ↓dFz, ↓dUp, ↓dNil, ↓dCons, ↓dTup, ↓dLst, ↓dBin, ↓dUn, ↓dChain, ↓dTest, ↓dAnd, ↓dOr, ↓dNot, ↓dAndV, ↓dOrV, ↓dNotV, ↓dIfE, ↓dgName, ↓dgNil, ↓dgCons, ↓dgTup, ↓dIt, ↓dRng1, ↓dRng2, ↓dZip, ↓dEnum, ↓u_for, ↓u_lc, ↓dYes, ↓u_call, ↓u_callF, ↓u_callIo, ↓dCB, ↓dCBF, ↓dBinS, ↓dLenS, ↓dSl, ↓dSlS, ↓dNo, ↓dPt, ↓dStL, ↓dApp, ↓dExt, ↓dJoin, ↓dRg1, ↓dRg2, ↓dTupRg, ↓dLstRg, ↓oSub, ↓oMulI, ↓oMul, ↓oFdiv, ↓oMod, ↓oPow, ↓oShr, ↓oXor, ↓oNeg, ↓oAdd, ↓oAug, ↓oLt, ↓oLe, ↓oGt, ↓oGe, ↓oI, ↓oIx, ↓oLen, ↓oInt, ↓oOrd, ↓oAbs, ↓oStL, ↓oIn, ↓oNin, ↓oInB, ↓isi_int, ↓isi_int_bl, ↓isi_int_str, ↓isi_int_tup, ↓isi_int_lst, ↓isi_str, ↓isi_str_int, ↓isi_tup, ↓isi_tup_int, ↓isi_tup_str, ↓isi_tup_lst, ↓isi_lst, ↓isi_lst_tup, ↓isi_lst_int, ↓isi_lst_str, ↓cv, ↓Cell.val, ↓Cell.up, ↓Cell.own, ↓lenD, ↓itemsOf, List.getElem?_cons_zero, List.getElem?_cons_succ, List.set_cons_zero, List.set_cons_succ, Option.bind_some, Option.isSome_some, List.length_cons, List.length_nil, true_and, and_true, ↓ixN_lit, ↓atI_lit, ↓reduceIte, Nat.reduceAdd, Nat.reduceLT, Nat.reduceSub, Nat.zero_add, Nat.reduceLeDiff, Nat.lt_add_one, Nat.zero_lt_succ, ↓oEq_int, ↓oNe_int, ↓oEq_str, ↓oNe_str, ↓oEq_bl, ↓oNe_bl, decide_eq_true_eq, Bool.false_eq_true, ↓u_while, ↓ownAt, List.all_cons, List.all_nil, Bool.and_true, List.getD_cons_zero, List.getD_cons_succ, Bool.not_false, ↓oLe_sign, ↓oMulS, ↓dDic, ↓dLock, ↓dGetS, ↓dStD, ↓dInS, ↓oInD, ↓dKeys, ↓dGet1, ↓dGet2, ↓dRev, ↓dMulL, ↓dCount, ↓dScrSl, ↓dScrLen, ↓dScrList, ↓oStrI, oSl]
  have e1 : cutG (il (periodsN t)) none (some 1) = [D.int (w.length : Nat)] := by
    have h := cutG_to (il (periodsN t)) 1
    have h2 : (il (periodsN t)).take 1 = il ((periodsN t).take 1) := by simp [il]
    rw [h2, cy.per_first] at h
    exact h
  have e2 : cutG (il (periodsN t)) (some (-1)) none = [D.int (t.length : Nat)] := by
    obtain ⟨l, hl⟩ := per_last (t := t) (by have := cy.two; omega)
    rw [hl]
    have : il (l ++ [t.length]) = il l ++ [D.int (t.length : Nat)] := by simp [il]
    rw [this, cut_last]
  have e3 : cutG (sl ((bordersN t).map t.take)) (some (-1)) none = [D.str (t.drop w.length)] := by
    obtain ⟨l, hl⟩ := cy.bord
    rw [hl, ← cy.bordT]
    have : sl ((l ++ [t.length - w.length]).map t.take) = sl (l.map t.take) ++ [D.str (t.take (t.length - w.length))] := by simp [sl]
    rw [this, cut_last]
  rw [e1]
  refine ⟨by decide, oEq_same rfl rfl (by show 1 ≤ 50; decide) ?_⟩
  dsimp only
  rw [e2]
  refine ⟨by decide, oEq_same rfl rfl (by show 1 ≤ 50; decide) ?_⟩
  dsimp only
  refine ⟨rfl, onF t rfl ⟨sg, by omega⟩ ?_⟩
  simp only [↓dSeq, ↓dNext, ↓dBreak, ↓dCont, ↓dNever, ↓dRet, ↓dRetN, ↓dDrop, ↓dSet, ↓dIf, ↓dAug, ↓dAsg, ↓dPar, ↓dVar, ↓dMove, ↓dC, ↓dFz, ↓dUp, ↓dNil, ↓dCons, ↓dTup, ↓dLst, ↓dBin, ↓dUn, ↓dChain, ↓dTest, ↓dAnd, ↓dOr, ↓dNot, ↓dAndV, ↓dOrV, ↓dNotV, ↓dIfE, ↓dgName, ↓dgNil, ↓dgCons, ↓dgTup, ↓dIt, ↓dRng1, ↓dRng2, ↓dZip, ↓dEnum, ↓u_for, ↓u_lc, ↓dYes, ↓u_call, ↓u_callF, ↓u_callIo, ↓dCB, ↓dCBF, ↓dBinS, ↓dLenS, ↓dSl, ↓dSlS, ↓dNo, ↓dPt, ↓dStL, ↓dApp, ↓dExt, ↓dJoin, ↓dRg1, ↓dRg2, ↓dTupRg, ↓dLstRg, ↓oSub, ↓oMulI, ↓oMul, ↓oFdiv, ↓oMod, ↓oPow, ↓oShr, ↓oXor, ↓oNeg, ↓oAdd, ↓oAug, ↓oLt, ↓oLe, ↓oGt, ↓oGe, ↓oI, ↓oIx, ↓oLen, ↓oInt, ↓oOrd, ↓oAbs, ↓oStL, ↓oIn, ↓oNin, ↓oInB, ↓isi_int, ↓isi_int_bl, ↓isi_int_str, ↓isi_int_tup, ↓isi_int_lst, ↓isi_str, ↓isi_str_int, ↓isi_tup, ↓isi_tup_int, ↓isi_tup_str, ↓isi_tup_lst, ↓isi_lst, ↓isi_lst_tup, ↓isi_lst_int, ↓isi_lst_str, ↓cv, ↓Cell.val, ↓Cell.up, ↓Cell.own, ↓lenD, ↓itemsOf, List.getElem?_cons_zero, List.getElem?_cons_succ, List.set_cons_zero, List.set_cons_succ, Option.bind_some, Option.isSome_some, List.length_cons, List.length_nil, true_and, and_true, ↓ixN_lit, ↓atI_lit, ↓reduceIte, Nat.reduceAdd, Nat.reduceLT, Nat.reduceSub, Nat.zero_add, Nat.reduceLeDiff, Nat.lt_add_one, Nat.zero_lt_succ, ↓oEq_int, ↓oNe_int, ↓oEq_str, ↓oNe_str, ↓oEq_bl, ↓oNe_bl, decide_eq_true_eq, Bool.false_eq_true, ↓u_while, ↓ownAt, List.all_cons, List.all_nil, Bool.and_true, List.getD_cons_zero, List.getD_cons_succ, Bool.not_false, ↓oLe_sign, ↓oMulS, ↓dDic, ↓dLock, ↓dGetS, ↓dStD, ↓dInS, ↓oInD, ↓dKeys, ↓dGet1, ↓dGet2, ↓dRev, ↓dMulL, ↓dCount, ↓dScrSl, ↓dScrLen, ↓dScrList, ↓oStrI, oSl, e3, cutG_from]
  refine ⟨by decide, oEq_same rfl rfl (by show 1 ≤ 50; decide) ?_⟩
  exact ⟨rfl, post _ _ ⟨h3, ok3, rfl, rfl⟩⟩
end DL


namespace DL
open PySem PySem.Spec PyProof.Rows L2

/-! ### what is due to odd things -/
theorem mem_trD {t : List Nat} {b e p : Nat} : IsRun t b e p ↔ trD (b, e, p) ∈ (runsN t).map trD := by
  rw [← mem_runsN, List.mem_map]
  constructor
  · exact fun h => ⟨_, h, rfl⟩
  · rintro ⟨⟨b', e', p'⟩, h, q⟩
    have q' : ((b' : Nat) : Int) = (b : Nat) ∧ ((e' : Nat) : Int) = (e : Nat) ∧ ((p' : Nat) : Int) = (p : Nat) := by
      unfold trD at q
      injection q with q
      injection q with q1 q
      injection q with q2 q
      injection q with q3 _
      injection q1 with q1
      injection q2 with q2
      injection q3 with q3
      exact ⟨q1, q2, q3⟩
    have : b' = b ∧ e' = e ∧ p' = p := by omega
    obtain ⟨rfl, rfl, rfl⟩ := this
    exact h
theorem isRunD_mem {t : List Nat} {d : D} (h : isRunD t d = true) : ∃ b e p, d = trD (b, e, p) ∧ IsRun t b e p := by
  unfold isRunD at h
  cases e : triI d with
  | none => rw [e] at h; cases h
  | some v =>
    obtain ⟨x, y, z⟩ := v
    rw [e] at h
    obtain ⟨a, b, c, r⟩ := of_decide_eq_true h
    refine ⟨x.toNat, y.toNat, z.toNat, ?_, r⟩
    rw [triI_some e]
    unfold trD
    simp only
    rw [Int.toNat_of_nonneg a, Int.toNat_of_nonneg b, Int.toNat_of_nonneg c]
theorem isRunD_tri {t : List Nat} {b e p : Nat} : isRunD t (trD (b, e, p)) = decide (IsRun t b e p) := by
  show decide _ = _
  refine decide_eq_decide.mpr ⟨fun r => r.2.2.2, fun r => ⟨by omega, by omega, by omega, r⟩⟩
theorem due_no {t : List Nat} {d : D} (h : ∀ xs, d ≠ .tup xs) : isRunD t d = false := by
  cases e : isRunD t d with
  | false => rfl
  | true =>
    obtain ⟨b, c, p, hd, _⟩ := isRunD_mem e
    exact absurd hd (h _)
theorem due_out {t : List Nat} {d : D} (h : (((runsN t).map trD).any fun z => z.eq d) = false) : isRunD t d = false := by
  cases e : isRunD t d with
  | false => rfl
  | true =>
    obtain ⟨b, c, p, rfl, r⟩ := isRunD_mem e
    rw [List.any_eq_false] at h
    exact absurd (eq_self (trD (b, c, p)) rfl) (h _ (mem_trD.mp r))
theorem due_in {t : List Nat} {xs : List D} (hz : t.length ≤ 2000) (h : (((runsN t).map trD).any fun z => z.eq (.tup xs)) = true) : isRunD t (.tup xs) = xs.all fun x => inWD x 0 2000 := by
  rw [List.any_eq_true] at h
  obtain ⟨d, hd, he⟩ := h
  obtain ⟨⟨b, e, p⟩, hm, rfl⟩ := List.mem_map.mp hd
  have r := mem_runsN.mp hm
  have h1 := r.mx.le
  have h2 := r.mx.en
  cases ea : (xs.all fun x => inWD x 0 2000) with
  | true =>
    rw [List.all_eq_true] at ea
    have : xs = [.int (b : Nat), .int (e : Nat), .int (p : Nat)] := by
      have he : eqs [D.int (b : Nat), .int (e : Nat), .int (p : Nat)] xs = true := he
      cases xs with
      | nil => cases he
      | cons x xs =>
        have he : ((D.int (b : Nat)).eq x && eqs [D.int (e : Nat), .int (p : Nat)] xs) = true := he
        rw [Bool.and_eq_true] at he
        obtain ⟨x1, he⟩ := he
        cases xs with
        | nil => cases he
        | cons y xs =>
          have he : ((D.int (e : Nat)).eq y && eqs [D.int (p : Nat)] xs) = true := he
          rw [Bool.and_eq_true] at he
          obtain ⟨y1, he⟩ := he
          cases xs with
          | nil => cases he
          | cons z xs =>
            have he : ((D.int (p : Nat)).eq z && eqs [] xs) = true := he
            rw [Bool.and_eq_true] at he
            obtain ⟨z1, he⟩ := he
            cases xs with
            | cons w xs => cases he
            | nil =>
              have i1 := ea x (by simp)
              have i2 := ea y (by simp)
              have i3 := ea z (by simp)
              have int_of : ∀ (n : Nat) (d : D), (D.int (n : Nat)).eq d = true → inWD d 0 2000 = true → d = .int (n : Nat) := by
                intro n d h1 h2
                cases d <;> first | (cases h2; done) | skip
                rename_i v
                have : ((n : Nat) : Int) = v := by simpa using (show (((n : Nat) : Int) == v) = true from h1)
                rw [this]
              rw [int_of b x x1 i1, int_of e y y1 i2, int_of p z z1 i3]
    rw [this]
    exact isRunD_tri.trans (decide_eq_true r)
  | false =>
    cases er : isRunD t (.tup xs) with
    | false => rfl
    | true =>
      obtain ⟨b', e', p', hx, r'⟩ := isRunD_mem er
      have h1' := r'.mx.le
      have h2' := r'.mx.en
      unfold trD at hx
      injection hx with hx
      subst hx
      rw [List.all_eq_false] at ea
      obtain ⟨x, hx, hn⟩ := ea
      refine absurd ?_ hn
      simp only [List.mem_cons, List.not_mem_nil, or_false] at hx
      rcases hx with rfl | rfl | rfl <;> exact decide_eq_true (by omega)
end DL


namespace DL
open PySem PySem.Spec PyProof.Rows L2

/-! ### the law -/
theorem prefix_nlt : ∀ (a b : List Nat), ¬ (a ++ b < a)
  | [], b => by simp
  | x :: a, b => by
    intro h
    rw [List.cons_append, List.cons_lt_cons_iff] at h
    rcases h with h | ⟨_, h⟩
    · omega
    · exact prefix_nlt a b h
theorem leD_str (a b : List Nat) : leD (.str a) (.str b) = !decide (b < a) := by
  show (!PySem.W.dataLt (.str (S b)) (.str (S a))) = _
  rw [PySem.W.dataLt_str]
  rfl
theorem take_le {t : List Nat} {i j : Nat} (h : i ≤ j) : leD (.str (t.take i)) (.str (t.take j)) = true := by
  rw [leD_str, Bool.not_eq_true', decide_eq_false_iff_not]
  have e : t.take j = t.take i ++ (t.drop i).take (j - i) := by
    rw [← List.take_add, show i + (j - i) = j by omega]
  rw [e]
  exact prefix_nlt _ _
theorem borders_sorted (t : List Nat) : (sl ((bordersN t).map t.take)).mergeSort leD = sl ((bordersN t).map t.take) := by
  refine List.mergeSort_of_pairwise ?_
  unfold sl
  rw [List.map_map, List.pairwise_map]
  exact (bordersN_sorted t).imp fun {a b} h => take_le (Nat.le_of_lt h)
theorem bo_cut {t : List Nat} {k : Nat} (h1 : 0 < k) (h2 : k < t.length) : decide (cutG t none (some (k : Int)) = cutG t (some (-(k : Int))) none) = decide (0 < k ∧ Bo t t.length k) := by
  have e : cutG t (some (-(k : Int))) none = t.drop (t.length - k) := by
    unfold cutG
    rw [HT.sIx_none]
    have e : HT.sIx t.length 0 (some (-(k : Int))) = t.length - k := by
      unfold HT.sIx
      simp [h1]
      omega
    rw [e, ← List.length_drop, List.take_length]
  rw [e, cutG_to]
  have h := per_iff (t := t) (p := t.length - k) (by omega)
  have h3 := per_bo (t := t) (p := t.length - k) (by omega) (by omega)
  rw [show t.length - (t.length - k) = k by omega] at h h3
  refine decide_eq_decide.mpr ⟨fun z => ⟨h1, h3.mp (h.mp z.symm)⟩, fun z => (h.mpr (h3.mpr z.2)).symm⟩
theorem deps_tri : ∀ l : List Tri, deps (l.map trD) ≤ 1
  | [] => by show 0 ≤ 1; decide
  | x :: l => by
    have h := deps_tri l
    show max 1 (deps (l.map trD)) ≤ 1
    omega
theorem deps_il : ∀ l : List Nat, deps (il l) = 0
  | [] => rfl
  | x :: l => by
    have h := deps_il l
    show max 0 (deps (il l)) = 0
    omega
theorem deps_sl : ∀ l : List (List Nat), deps (sl l) = 0
  | [] => rfl
  | x :: l => by
    have h := deps_sl l
    show max 0 (deps (sl l)) = 0
    omega
/-- law: slots 0 _law_script, 1 _law_hand_here, 2 _law_turn, 3 _law_text_here, 4 _law_some, 5 _law_told, 6 _law_one, 7 _law_odd_here, 8 _law_is_so, 9 _law_again, 10 _law_period, 11 _law_many, 12 _law_part -/
def D_law : DTS := (dSeq (dFor (dRng1 (dCons (dC (.int 2)) dNil)) (dgName 2) (dSeq (dSet 3 (dUp (dFz (dCallIo S__law_text 1 (dCons (dFz (dCallIo S__law_signs 1 dNil)) (dCons (dC (.int 60)) dNil)))))) (dSeq (dPar 4 5 (dCons (dFz (dCallF S__law_runs (dCons (dVar 3) dNil))) (dCons (dFz (dCallF S_runs (dCons (dVar 3) dNil))) dNil))) (dSeq (dIf (dOr (dTest (dBin oNe (dVar 5) (dVar 4))) (dNot (dTest (dUn (oIsi "list") (dVar 5))))) (dRet (dUp (dC (.bl false)))) dNext) (dSeq (dIf (dTest (dBin oNe (dCall S_periods (dCons (dVar 3) dNil)) (dCB oTuple (dCons (dFz (dLc (dRng2 (dCons (dC (.int 1)) (dCons (dBin oAdd (dLenS 3) (dC (.int 1))) dNil))) (dgName 10) (dTest (dCall S__law_has (dCons (dVar 3) (dCons (dVar 10) dNil)))) (dVar 10) [10])) dNil)))) (dRet (dUp (dC (.bl false)))) dNext) (dSeq (dIf (dTest (dBin oNe (dFz (dCallF S_borders (dCons (dVar 3) dNil))) (dFz (dCBF oSorted (dCons (dFz (dLc (dRng2 (dCons (dC (.int 1)) (dCons (dLenS 3) dNil))) (dgName 11) (dTest (dBin oEq (dSlS 3 dNo (dPt (dVar 11))) (dSlS 3 (dPt (dUn oNeg (dVar 11))) dNo))) (dSlS 3 dNo (dPt (dVar 11))) [11])) dNil))))) (dRet (dUp (dC (.bl false)))) dNext) (dSeq (dFor (dIt (dSlS 4 dNo (dPt (dC (.int 6))))) (dgName 6) (dSeq (dSet 7 (dUp (dFz (dCallIo S__law_odd 1 (dCons (dVar 6) dNil))))) (dSeq (dSet 8 (dUp (dAndV (dUn (oIsi "tuple") (dVar 7)) (dAndV (dInS 4 (oInD false) (dVar 7)) (dCB oAll (dCons (dFz (dLc (dIt (dVar 7)) (dgName 12) dYes (dCall S__law_is_int (dCons (dVar 12) (dCons (dC (.int 0)) (dCons (dC (.int 2000)) dNil)))) [12])) dNil)))))) (dIf (dOr (dTest (dBin oIsN (dCall S_is_run (dCons (dVar 3) (dCons (dVar 6) dNil))) (dC (.bl true)))) (dNot (dTest (dCall S__law_is_flag (dCons (dCall S_is_run (dCons (dVar 3) (dCons (dVar 7) dNil))) (dCons (dVar 8) dNil)))))) (dRet (dUp (dC (.bl false)))) dNext)))) (dFor (dRng1 (dCons (dBin oMulS (dC (.int 4)) (dCB oInt (dCons (dBin oNe (dVar 3) (dC (.str []))) dNil))) dNil)) (dgName 9) (dIf (dNot (dTest (dFz (dCallIo S__law_lies_right 1 (dCons (dVar 3) (dCons (dVar 4) dNil)))))) (dRet (dUp (dC (.bl false)))) dNext))))))))) (dRet (dUp (dOrV (dBin oGt (dFz (dCallIo S__law_draw 1 (dCons (dC (.int 4)) dNil))) (dC (.int 0))) (dFz (dCallIo S__law_great_right 1 dNil))))))
theorem sem_law : ∀ ns d, ns.length ≤ 63 → hdR ns d → D_law lawEnds (.un :: .ow d :: List.replicate (13 - 2) .un) := by
  rintro ns d _ ⟨h, ok, rfl⟩
  show D_law lawEnds [.un, .ow h.d, .un, .un, .un, .un, .un, .un, .un, .un, .un, .un, .un]
  unfold D_law
  refine seq_gen fun kl hkl => ?_
  simp only [↓dSeq, ↓dNext, ↓dBreak, ↓dCont, ↓dNever, ↓dRet, ↓dRetN, ↓dDrop, ↓dSet, ↓dIf, ↓dAug, ↓dAsg, ↓dPar, ↓dVar, ↓dMove, ↓dC, ↓dFz, ↓dUp, ↓dNil, ↓dCons, ↓dTup, ↓dLst, ↓dBin, ↓dUn, ↓dChain, ↓dTest, ↓dAnd, ↓dOr, ↓dNot, ↓dAndV, ↓dOrV, ↓dNotV, ↓dIfE, ↓dgName, ↓dgNil, ↓dgCons, ↓dgTup, ↓dIt, ↓dRng1, ↓dRng2, ↓dZip, ↓dEnum, ↓u_for, ↓u_lc, ↓dYes, ↓u_call, ↓u_callF, ↓u_callIo, ↓dCB, ↓dCBF, ↓dBinS, ↓dLenS, ↓dSl, ↓dSlS, ↓dNo, ↓dPt, ↓dStL, ↓dApp, ↓dExt, ↓dJoin, ↓dRg1, ↓dRg2, ↓dTupRg, ↓dLstRg, ↓oSub, ↓oMulI, ↓oMul, ↓oFdiv, ↓oMod, ↓oPow, ↓oShr, ↓oXor, ↓oNeg, ↓oAdd, ↓oAug, ↓oLt, ↓oLe, ↓oGt, ↓oGe, ↓oI, ↓oIx, ↓oLen, ↓oInt, ↓oOrd, ↓oAbs, ↓oStL, ↓oIn, ↓oNin, ↓oInB, ↓isi_int, ↓isi_int_bl, ↓isi_int_str, ↓isi_int_tup, ↓isi_int_lst, ↓isi_str, ↓isi_str_int, ↓isi_tup, ↓isi_tup_int, ↓isi_tup_str, ↓isi_tup_lst, ↓isi_lst, ↓isi_lst_tup, ↓isi_lst_int, ↓isi_lst_str, ↓cv, ↓Cell.val, ↓Cell.up, ↓Cell.own, ↓lenD, ↓itemsOf, List.getElem?_cons_zero, List.getElem?_cons_succ, List.set_cons_zero, List.set_cons_succ, Option.bind_some, Option.isSome_some, List.length_cons, List.length_nil, true_and, and_true, ↓ixN_lit, ↓atI_lit, ↓reduceIte, Nat.reduceAdd, Nat.reduceLT, Nat.reduceSub, Nat.zero_add, Nat.reduceLeDiff, Nat.lt_add_one, Nat.zero_lt_succ, ↓oEq_int, ↓oNe_int, ↓oEq_str, ↓oNe_str, ↓oEq_bl, ↓oNe_bl, decide_eq_true_eq, Bool.false_eq_true, ↓u_while, ↓ownAt, List.all_cons, List.all_nil, Bool.and_true, List.getD_cons_zero, List.getD_cons_succ, Bool.not_false, ↓oLe_sign, ↓oMulS, ↓dDic, ↓dLock, ↓dGetS, ↓dStD, ↓dInS, ↓oInD, ↓dKeys, ↓dGet1, ↓dGet2, ↓dRev, ↓dMulL, ↓dCount, ↓dScrSl, ↓dScrLen, ↓dScrList, ↓oStrI]
  refine ⟨by decide, by decide, ?_⟩
  rw [show (2 : Int).toNat = 2 from rfl]
  refine forB_of (forN_inv (fun m ρ => ∃ h x2 x3 x4 x5 x6 x7 x8 x9, Hand.Ok h ∧ ρ = [.un, .ow h.d, x2, x3, x4, x5, x6, x7, x8, x9, .un, .un, .un]) ?_ ?_ _ ⟨h, _, _, _, _, _, _, _, _, ok, rfl⟩)
  · rintro m ρ kn hm ⟨h, x2, x3, x4, x5, x6, x7, x8, x9, ok, rfl⟩ hkn
    show dSeq _ _ _ [.un, .ow h.d, .fz (.int (0 + (m : Nat))), x3, x4, x5, x6, x7, x8, x9, .un, .un, .un]
    generalize Cell.fz (D.int (0 + (m : Nat))) = c2
    refine seq_gen fun k hk => ?_
    simp only [↓dSeq, ↓dNext, ↓dBreak, ↓dCont, ↓dNever, ↓dRet, ↓dRetN, ↓dDrop, ↓dSet, ↓dIf, ↓dAug, ↓dAsg, ↓dPar, ↓dVar, ↓dMove, ↓dC, ↓dFz, ↓dUp, ↓dNil, ↓dCons, ↓dTup, ↓dLst, ↓dBin, ↓dUn, ↓dChain, ↓dTest, ↓dAnd, ↓dOr, ↓dNot, ↓dAndV, ↓dOrV, ↓dNotV, ↓dIfE, ↓dgName, ↓dgNil, ↓dgCons, ↓dgTup, ↓dIt, ↓dRng1, ↓dRng2, ↓dZip, ↓dEnum, ↓u_for, ↓u_lc, ↓dYes, ↓u_call, ↓u_callF, ↓u_callIo, ↓dCB, ↓dCBF, ↓dBinS, ↓dLenS, ↓dSl, ↓dSlS, ↓dNo, ↓dPt, ↓dStL, ↓dApp, ↓dExt, ↓dJoin, ↓dRg1, ↓dRg2, ↓dTupRg, ↓dLstRg, ↓oSub, ↓oMulI, ↓oMul, ↓oFdiv, ↓oMod, ↓oPow, ↓oShr, ↓oXor, ↓oNeg, ↓oAdd, ↓oAug, ↓oLt, ↓oLe, ↓oGt, ↓oGe, ↓oI, ↓oIx, ↓oLen, ↓oInt, ↓oOrd, ↓oAbs, ↓oStL, ↓oIn, ↓oNin, ↓oInB, ↓isi_int, ↓isi_int_bl, ↓isi_int_str, ↓isi_int_tup, ↓isi_int_lst, ↓isi_str, ↓isi_str_int, ↓isi_tup, ↓isi_tup_int, ↓isi_tup_str, ↓isi_tup_lst, ↓isi_lst, ↓isi_lst_tup, ↓isi_lst_int, ↓isi_lst_str, ↓cv, ↓Cell.val, ↓Cell.up, ↓Cell.own, ↓lenD, ↓itemsOf, List.getElem?_cons_zero, List.getElem?_cons_succ, List.set_cons_zero, List.set_cons_succ, Option.bind_some, Option.isSome_some, List.length_cons, List.length_nil, true_and, and_true, ↓ixN_lit, ↓atI_lit, ↓reduceIte, Nat.reduceAdd, Nat.reduceLT, Nat.reduceSub, Nat.zero_add, Nat.reduceLeDiff, Nat.lt_add_one, Nat.zero_lt_succ, ↓oEq_int, ↓oNe_int, ↓oEq_str, ↓oNe_str, ↓oEq_bl, ↓oNe_bl, decide_eq_true_eq, Bool.false_eq_true, ↓u_while, ↓ownAt, List.all_cons, List.all_nil, Bool.and_true, List.getD_cons_zero, List.getD_cons_succ, Bool.not_false, ↓oLe_sign, ↓oMulS, ↓dDic, ↓dLock, ↓dGetS, ↓dStD, ↓dInS, ↓oInD, ↓dKeys, ↓dGet1, ↓dGet2, ↓dRev, ↓dMulL, ↓dCount, ↓dScrSl, ↓dScrLen, ↓dScrList, ↓oStrI]
    refine ⟨rfl, onM h rfl ok ?_⟩
    rintro r os ⟨h2, l, ok2, abc, rfl, rfl⟩
    simp only [ioB, wipeE, fr_signs, ↓dSeq, ↓dNext, ↓dBreak, ↓dCont, ↓dNever, ↓dRet, ↓dRetN, ↓dDrop, ↓dSet, ↓dIf, ↓dAug, ↓dAsg, ↓dPar, ↓dVar, ↓dMove, ↓dC, ↓dFz, ↓dUp, ↓dNil, ↓dCons, ↓dTup, ↓dLst, ↓dBin, ↓dUn, ↓dChain, ↓dTest, ↓dAnd, ↓dOr, ↓dNot, ↓dAndV, ↓dOrV, ↓dNotV, ↓dIfE, ↓dgName, ↓dgNil, ↓dgCons, ↓dgTup, ↓dIt, ↓dRng1, ↓dRng2, ↓dZip, ↓dEnum, ↓u_for, ↓u_lc, ↓dYes, ↓u_call, ↓u_callF, ↓u_callIo, ↓dCB, ↓dCBF, ↓dBinS, ↓dLenS, ↓dSl, ↓dSlS, ↓dNo, ↓dPt, ↓dStL, ↓dApp, ↓dExt, ↓dJoin, ↓dRg1, ↓dRg2, ↓dTupRg, ↓dLstRg, ↓oSub, ↓oMulI, ↓oMul, ↓oFdiv, ↓oMod, ↓oPow, ↓oShr, ↓oXor, ↓oNeg, ↓oAdd, ↓oAug, ↓oLt, ↓oLe, ↓oGt, ↓oGe, ↓oI, ↓oIx, ↓oLen, ↓oInt, ↓oOrd, ↓oAbs, ↓oStL, ↓oIn, ↓oNin, ↓oInB, ↓isi_int, ↓isi_int_bl, ↓isi_int_str, ↓isi_int_tup, ↓isi_int_lst, ↓isi_str, ↓isi_str_int, ↓isi_tup, ↓isi_tup_int, ↓isi_tup_str, ↓isi_tup_lst, ↓isi_lst, ↓isi_lst_tup, ↓isi_lst_int, ↓isi_lst_str, ↓cv, ↓Cell.val, ↓Cell.up, ↓Cell.own, ↓lenD, ↓itemsOf, List.getElem?_cons_zero, List.getElem?_cons_succ, List.set_cons_zero, List.set_cons_succ, Option.bind_some, Option.isSome_some, List.length_cons, List.length_nil, true_and, and_true, ↓ixN_lit, ↓atI_lit, ↓reduceIte, Nat.reduceAdd, Nat.reduceLT, Nat.reduceSub, Nat.zero_add, Nat.reduceLeDiff, Nat.lt_add_one, Nat.zero_lt_succ, ↓oEq_int, ↓oNe_int, ↓oEq_str, ↓oNe_str, ↓oEq_bl, ↓oNe_bl, decide_eq_true_eq, Bool.false_eq_true, ↓u_while, ↓ownAt, List.all_cons, List.all_nil, Bool.and_true, List.getD_cons_zero, List.getD_cons_succ, Bool.not_false, ↓oLe_sign, ↓oMulS, ↓dDic, ↓dLock, ↓dGetS, ↓dStD, ↓dInS, ↓oInD, ↓dKeys, ↓dGet1, ↓dGet2, ↓dRev, ↓dMulL, ↓dCount, ↓dScrSl, ↓dScrLen, ↓dScrList, ↓oStrI]
    refine ⟨rfl, onM (h2, l, 60) rfl ⟨ok2, abc⟩ ?_⟩
    rintro r os ⟨h3, t, ok3, sg, hz, rfl, rfl⟩
    have hz : t.length ≤ 60 := hz
    simp only [ioB, wipeE, fr_text, ↓dSeq, ↓dNext, ↓dBreak, ↓dCont, ↓dNever, ↓dRet, ↓dRetN, ↓dDrop, ↓dSet, ↓dIf, ↓dAug, ↓dAsg, ↓dPar, ↓dVar, ↓dMove, ↓dC, ↓dFz, ↓dUp, ↓dNil, ↓dCons, ↓dTup, ↓dLst, ↓dBin, ↓dUn, ↓dChain, ↓dTest, ↓dAnd, ↓dOr, ↓dNot, ↓dAndV, ↓dOrV, ↓dNotV, ↓dIfE, ↓dgName, ↓dgNil, ↓dgCons, ↓dgTup, ↓dIt, ↓dRng1, ↓dRng2, ↓dZip, ↓dEnum, ↓u_for, ↓u_lc, ↓dYes, ↓u_call, ↓u_callF, ↓u_callIo, ↓dCB, ↓dCBF, ↓dBinS, ↓dLenS, ↓dSl, ↓dSlS, ↓dNo, ↓dPt, ↓dStL, ↓dApp, ↓dExt, ↓dJoin, ↓dRg1, ↓dRg2, ↓dTupRg, ↓dLstRg, ↓oSub, ↓oMulI, ↓oMul, ↓oFdiv, ↓oMod, ↓oPow, ↓oShr, ↓oXor, ↓oNeg, ↓oAdd, ↓oAug, ↓oLt, ↓oLe, ↓oGt, ↓oGe, ↓oI, ↓oIx, ↓oLen, ↓oInt, ↓oOrd, ↓oAbs, ↓oStL, ↓oIn, ↓oNin, ↓oInB, ↓isi_int, ↓isi_int_bl, ↓isi_int_str, ↓isi_int_tup, ↓isi_int_lst, ↓isi_str, ↓isi_str_int, ↓isi_tup, ↓isi_tup_int, ↓isi_tup_str, ↓isi_tup_lst, ↓isi_lst, ↓isi_lst_tup, ↓isi_lst_int, ↓isi_lst_str, ↓cv, ↓Cell.val, ↓Cell.up, ↓Cell.own, ↓lenD, ↓itemsOf, List.getElem?_cons_zero, List.getElem?_cons_succ, List.set_cons_zero, List.set_cons_succ, Option.bind_some, Option.isSome_some, List.length_cons, List.length_nil, true_and, and_true, ↓ixN_lit, ↓atI_lit, ↓reduceIte, Nat.reduceAdd, Nat.reduceLT, Nat.reduceSub, Nat.zero_add, Nat.reduceLeDiff, Nat.lt_add_one, Nat.zero_lt_succ, ↓oEq_int, ↓oNe_int, ↓oEq_str, ↓oNe_str, ↓oEq_bl, ↓oNe_bl, decide_eq_true_eq, Bool.false_eq_true, ↓u_while, ↓ownAt, List.all_cons, List.all_nil, Bool.and_true, List.getD_cons_zero, List.getD_cons_succ, Bool.not_false, ↓oLe_sign, ↓oMulS, ↓dDic, ↓dLock, ↓dGetS, ↓dStD, ↓dInS, ↓oInD, ↓dKeys, ↓dGet1, ↓dGet2, ↓dRev, ↓dMulL, ↓dCount, ↓dScrSl, ↓dScrLen, ↓dScrList, ↓oStrI]
    subst hk
    refine seq_gen fun k hk => ?_
    simp only [↓dSeq, ↓dNext, ↓dBreak, ↓dCont, ↓dNever, ↓dRet, ↓dRetN, ↓dDrop, ↓dSet, ↓dIf, ↓dAug, ↓dAsg, ↓dPar, ↓dVar, ↓dMove, ↓dC, ↓dFz, ↓dUp, ↓dNil, ↓dCons, ↓dTup, ↓dLst, ↓dBin, ↓dUn, ↓dChain, ↓dTest, ↓dAnd, ↓dOr, ↓dNot, ↓dAndV, ↓dOrV, ↓dNotV, ↓dIfE, ↓dgName, ↓dgNil, ↓dgCons, ↓dgTup, ↓dIt, ↓dRng1, ↓dRng2, ↓dZip, ↓dEnum, ↓u_for, ↓u_lc, ↓dYes, ↓u_call, ↓u_callF, ↓u_callIo, ↓dCB, ↓dCBF, ↓dBinS, ↓dLenS, ↓dSl, ↓dSlS, ↓dNo, ↓dPt, ↓dStL, ↓dApp, ↓dExt, ↓dJoin, ↓dRg1, ↓dRg2, ↓dTupRg, ↓dLstRg, ↓oSub, ↓oMulI, ↓oMul, ↓oFdiv, ↓oMod, ↓oPow, ↓oShr, ↓oXor, ↓oNeg, ↓oAdd, ↓oAug, ↓oLt, ↓oLe, ↓oGt, ↓oGe, ↓oI, ↓oIx, ↓oLen, ↓oInt, ↓oOrd, ↓oAbs, ↓oStL, ↓oIn, ↓oNin, ↓oInB, ↓isi_int, ↓isi_int_bl, ↓isi_int_str, ↓isi_int_tup, ↓isi_int_lst, ↓isi_str, ↓isi_str_int, ↓isi_tup, ↓isi_tup_int, ↓isi_tup_str, ↓isi_tup_lst, ↓isi_lst, ↓isi_lst_tup, ↓isi_lst_int, ↓isi_lst_str, ↓cv, ↓Cell.val, ↓Cell.up, ↓Cell.own, ↓lenD, ↓itemsOf, List.getElem?_cons_zero, List.getElem?_cons_succ, List.set_cons_zero, List.set_cons_succ, Option.bind_some, Option.isSome_some, List.length_cons, List.length_nil, true_and, and_true, ↓ixN_lit, ↓atI_lit, ↓reduceIte, Nat.reduceAdd, Nat.reduceLT, Nat.reduceSub, Nat.zero_add, Nat.reduceLeDiff, Nat.lt_add_one, Nat.zero_lt_succ, ↓oEq_int, ↓oNe_int, ↓oEq_str, ↓oNe_str, ↓oEq_bl, ↓oNe_bl, decide_eq_true_eq, Bool.false_eq_true, ↓u_while, ↓ownAt, List.all_cons, List.all_nil, Bool.and_true, List.getD_cons_zero, List.getD_cons_succ, Bool.not_false, ↓oLe_sign, ↓oMulS, ↓dDic, ↓dLock, ↓dGetS, ↓dStD, ↓dInS, ↓oInD, ↓dKeys, ↓dGet1, ↓dGet2, ↓dRev, ↓dMulL, ↓dCount, ↓dScrSl, ↓dScrLen, ↓dScrList, ↓oStrI]
    refine ⟨rfl, onF t rfl (by show t.length ≤ 1000; omega) ?_⟩
    simp only [↓dSeq, ↓dNext, ↓dBreak, ↓dCont, ↓dNever, ↓dRet, ↓dRetN, ↓dDrop, ↓dSet, ↓dIf, ↓dAug, ↓dAsg, ↓dPar, ↓dVar, ↓dMove, ↓dC, ↓dFz, ↓dUp, ↓dNil, ↓dCons, ↓dTup, ↓dLst, ↓dBin, ↓dUn, ↓dChain, ↓dTest, ↓dAnd, ↓dOr, ↓dNot, ↓dAndV, ↓dOrV, ↓dNotV, ↓dIfE, ↓dgName, ↓dgNil, ↓dgCons, ↓dgTup, ↓dIt, ↓dRng1, ↓dRng2, ↓dZip, ↓dEnum, ↓u_for, ↓u_lc, ↓dYes, ↓u_call, ↓u_callF, ↓u_callIo, ↓dCB, ↓dCBF, ↓dBinS, ↓dLenS, ↓dSl, ↓dSlS, ↓dNo, ↓dPt, ↓dStL, ↓dApp, ↓dExt, ↓dJoin, ↓dRg1, ↓dRg2, ↓dTupRg, ↓dLstRg, ↓oSub, ↓oMulI, ↓oMul, ↓oFdiv, ↓oMod, ↓oPow, ↓oShr, ↓oXor, ↓oNeg, ↓oAdd, ↓oAug, ↓oLt, ↓oLe, ↓oGt, ↓oGe, ↓oI, ↓oIx, ↓oLen, ↓oInt, ↓oOrd, ↓oAbs, ↓oStL, ↓oIn, ↓oNin, ↓oInB, ↓isi_int, ↓isi_int_bl, ↓isi_int_str, ↓isi_int_tup, ↓isi_int_lst, ↓isi_str, ↓isi_str_int, ↓isi_tup, ↓isi_tup_int, ↓isi_tup_str, ↓isi_tup_lst, ↓isi_lst, ↓isi_lst_tup, ↓isi_lst_int, ↓isi_lst_str, ↓cv, ↓Cell.val, ↓Cell.up, ↓Cell.own, ↓lenD, ↓itemsOf, List.getElem?_cons_zero, List.getElem?_cons_succ, List.set_cons_zero, List.set_cons_succ, Option.bind_some, Option.isSome_some, List.length_cons, List.length_nil, true_and, and_true, ↓ixN_lit, ↓atI_lit, ↓reduceIte, Nat.reduceAdd, Nat.reduceLT, Nat.reduceSub, Nat.zero_add, Nat.reduceLeDiff, Nat.lt_add_one, Nat.zero_lt_succ, ↓oEq_int, ↓oNe_int, ↓oEq_str, ↓oNe_str, ↓oEq_bl, ↓oNe_bl, decide_eq_true_eq, Bool.false_eq_true, ↓u_while, ↓ownAt, List.all_cons, List.all_nil, Bool.and_true, List.getD_cons_zero, List.getD_cons_succ, Bool.not_false, ↓oLe_sign, ↓oMulS, ↓dDic, ↓dLock, ↓dGetS, ↓dStD, ↓dInS, ↓oInD, ↓dKeys, ↓dGet1, ↓dGet2, ↓dRev, ↓dMulL, ↓dCount, ↓dScrSl, ↓dScrLen, ↓dScrList, ↓oStrI]
    refine ⟨rfl, onF t rfl ⟨sg, by omega⟩ ?_⟩
    simp only [↓dSeq, ↓dNext, ↓dBreak, ↓dCont, ↓dNever, ↓dRet, ↓dRetN, ↓dDrop, ↓dSet, ↓dIf, ↓dAug, ↓dAsg, ↓dPar, ↓dVar, ↓dMove, ↓dC, ↓dFz, ↓dUp, ↓dNil, ↓dCons, ↓dTup, ↓dLst, ↓dBin, ↓dUn, ↓dChain, ↓dTest, ↓dAnd, ↓dOr, ↓dNot, ↓dAndV, ↓dOrV, ↓dNotV, ↓dIfE, ↓dgName, ↓dgNil, ↓dgCons, ↓dgTup, ↓dIt, ↓dRng1, ↓dRng2, ↓dZip, ↓dEnum, ↓u_for, ↓u_lc, ↓dYes, ↓u_call, ↓u_callF, ↓u_callIo, ↓dCB, ↓dCBF, ↓dBinS, ↓dLenS, ↓dSl, ↓dSlS, ↓dNo, ↓dPt, ↓dStL, ↓dApp, ↓dExt, ↓dJoin, ↓dRg1, ↓dRg2, ↓dTupRg, ↓dLstRg, ↓oSub, ↓oMulI, ↓oMul, ↓oFdiv, ↓oMod, ↓oPow, ↓oShr, ↓oXor, ↓oNeg, ↓oAdd, ↓oAug, ↓oLt, ↓oLe, ↓oGt, ↓oGe, ↓oI, ↓oIx, ↓oLen, ↓oInt, ↓oOrd, ↓oAbs, ↓oStL, ↓oIn, ↓oNin, ↓oInB, ↓isi_int, ↓isi_int_bl, ↓isi_int_str, ↓isi_int_tup, ↓isi_int_lst, ↓isi_str, ↓isi_str_int, ↓isi_tup, ↓isi_tup_int, ↓isi_tup_str, ↓isi_tup_lst, ↓isi_lst, ↓isi_lst_tup, ↓isi_lst_int, ↓isi_lst_str, ↓cv, ↓Cell.val, ↓Cell.up, ↓Cell.own, ↓lenD, ↓itemsOf, List.getElem?_cons_zero, List.getElem?_cons_succ, List.set_cons_zero, List.set_cons_succ, Option.bind_some, Option.isSome_some, List.length_cons, List.length_nil, true_and, and_true, ↓ixN_lit, ↓atI_lit, ↓reduceIte, Nat.reduceAdd, Nat.reduceLT, Nat.reduceSub, Nat.zero_add, Nat.reduceLeDiff, Nat.lt_add_one, Nat.zero_lt_succ, ↓oEq_int, ↓oNe_int, ↓oEq_str, ↓oNe_str, ↓oEq_bl, ↓oNe_bl, decide_eq_true_eq, Bool.false_eq_true, ↓u_while, ↓ownAt, List.all_cons, List.all_nil, Bool.and_true, List.getD_cons_zero, List.getD_cons_succ, Bool.not_false, ↓oLe_sign, ↓oMulS, ↓dDic, ↓dLock, ↓dGetS, ↓dStD, ↓dInS, ↓oInD, ↓dKeys, ↓dGet1, ↓dGet2, ↓dRev, ↓dMulL, ↓dCount, ↓dScrSl, ↓dScrLen, ↓dScrList, ↓oStrI]
    subst hk
    refine seq_gen fun k hk => ?_
    simp only [↓dSeq, ↓dNext, ↓dBreak, ↓dCont, ↓dNever, ↓dRet, ↓dRetN, ↓dDrop, ↓dSet, ↓dIf, ↓dAug, ↓dAsg, ↓dPar, ↓dVar, ↓dMove, ↓dC, ↓dFz, ↓dUp, ↓dNil, ↓dCons, ↓dTup, ↓dLst, ↓dBin, ↓dUn, ↓dChain, ↓dTest, ↓dAnd, ↓dOr, ↓dNot, ↓dAndV, ↓dOrV, ↓dNotV, ↓dIfE, ↓dgName, ↓dgNil, ↓dgCons, ↓dgTup, ↓dIt, ↓dRng1, ↓dRng2, ↓dZip, ↓dEnum, ↓u_for, ↓u_lc, ↓dYes, ↓u_call, ↓u_callF, ↓u_callIo, ↓dCB, ↓dCBF, ↓dBinS, ↓dLenS, ↓dSl, ↓dSlS, ↓dNo, ↓dPt, ↓dStL, ↓dApp, ↓dExt, ↓dJoin, ↓dRg1, ↓dRg2, ↓dTupRg, ↓dLstRg, ↓oSub, ↓oMulI, ↓oMul, ↓oFdiv, ↓oMod, ↓oPow, ↓oShr, ↓oXor, ↓oNeg, ↓oAdd, ↓oAug, ↓oLt, ↓oLe, ↓oGt, ↓oGe, ↓oI, ↓oIx, ↓oLen, ↓oInt, ↓oOrd, ↓oAbs, ↓oStL, ↓oIn, ↓oNin, ↓oInB, ↓isi_int, ↓isi_int_bl, ↓isi_int_str, ↓isi_int_tup, ↓isi_int_lst, ↓isi_str, ↓isi_str_int, ↓isi_tup, ↓isi_tup_int, ↓isi_tup_str, ↓isi_tup_lst, ↓isi_lst, ↓isi_lst_tup, ↓isi_lst_int, ↓isi_lst_str, ↓cv, ↓Cell.val, ↓Cell.up, ↓Cell.own, ↓lenD, ↓itemsOf, List.getElem?_cons_zero, List.getElem?_cons_succ, List.set_cons_zero, List.set_cons_succ, Option.bind_some, Option.isSome_some, List.length_cons, List.length_nil, true_and, and_true, ↓ixN_lit, ↓atI_lit, ↓reduceIte, Nat.reduceAdd, Nat.reduceLT, Nat.reduceSub, Nat.zero_add, Nat.reduceLeDiff, Nat.lt_add_one, Nat.zero_lt_succ, ↓oEq_int, ↓oNe_int, ↓oEq_str, ↓oNe_str, ↓oEq_bl, ↓oNe_bl, decide_eq_true_eq, Bool.false_eq_true, ↓u_while, ↓ownAt, List.all_cons, List.all_nil, Bool.and_true, List.getD_cons_zero, List.getD_cons_succ, Bool.not_false, ↓oLe_sign, ↓oMulS, ↓dDic, ↓dLock, ↓dGetS, ↓dStD, ↓dInS, ↓oInD, ↓dKeys, ↓dGet1, ↓dGet2, ↓dRev, ↓dMulL, ↓dCount, ↓dScrSl, ↓dScrLen, ↓dScrList, ↓oStrI]
    refine oNe_same rfl (pls_tri _) (by have := deps_tri (runsN t); show deps ((runsN t).map trD) + 1 ≤ 50; omega) ?_
    dsimp only
    simp only [↓dSeq, ↓dNext, ↓dBreak, ↓dCont, ↓dNever, ↓dRet, ↓dRetN, ↓dDrop, ↓dSet, ↓dIf, ↓dAug, ↓dAsg, ↓dPar, ↓dVar, ↓dMove, ↓dC, ↓dFz, ↓dUp, ↓dNil, ↓dCons, ↓dTup, ↓dLst, ↓dBin, ↓dUn, ↓dChain, ↓dTest, ↓dAnd, ↓dOr, ↓dNot, ↓dAndV, ↓dOrV, ↓dNotV, ↓dIfE, ↓dgName, ↓dgNil, ↓dgCons, ↓dgTup, ↓dIt, ↓dRng1, ↓dRng2, ↓dZip, ↓dEnum, ↓u_for, ↓u_lc, ↓dYes, ↓u_call, ↓u_callF, ↓u_callIo, ↓dCB, ↓dCBF, ↓dBinS, ↓dLenS, ↓dSl, ↓dSlS, ↓dNo, ↓dPt, ↓dStL, ↓dApp, ↓dExt, ↓dJoin, ↓dRg1, ↓dRg2, ↓dTupRg, ↓dLstRg, ↓oSub, ↓oMulI, ↓oMul, ↓oFdiv, ↓oMod, ↓oPow, ↓oShr, ↓oXor, ↓oNeg, ↓oAdd, ↓oAug, ↓oLt, ↓oLe, ↓oGt, ↓oGe, ↓oI, ↓oIx, ↓oLen, ↓oInt, ↓oOrd, ↓oAbs, ↓oStL, ↓oIn, ↓oNin, ↓oInB, ↓isi_int, ↓isi_int_bl, ↓isi_int_str, ↓isi_int_tup, ↓isi_int_lst, ↓isi_str, ↓isi_str_int, ↓isi_tup, ↓isi_tup_int, ↓isi_tup_str, ↓isi_tup_lst, ↓isi_lst, ↓isi_lst_tup, ↓isi_lst_int, ↓isi_lst_str, ↓cv, ↓Cell.val, ↓Cell.up, ↓Cell.own, ↓lenD, ↓itemsOf, List.getElem?_cons_zero, List.getElem?_cons_succ, List.set_cons_zero, List.set_cons_succ, Option.bind_some, Option.isSome_some, List.length_cons, List.length_nil, true_and, and_true, ↓ixN_lit, ↓atI_lit, ↓reduceIte, Nat.reduceAdd, Nat.reduceLT, Nat.reduceSub, Nat.zero_add, Nat.reduceLeDiff, Nat.lt_add_one, Nat.zero_lt_succ, ↓oEq_int, ↓oNe_int, ↓oEq_str, ↓oNe_str, ↓oEq_bl, ↓oNe_bl, decide_eq_true_eq, Bool.false_eq_true, ↓u_while, ↓ownAt, List.all_cons, List.all_nil, Bool.and_true, List.getD_cons_zero, List.getD_cons_succ, Bool.not_false, ↓oLe_sign, ↓oMulS, ↓dDic, ↓dLock, ↓dGetS, ↓dStD, ↓dInS, ↓oInD, ↓dKeys, ↓dGet1, ↓dGet2, ↓dRev, ↓dMulL, ↓dCount, ↓dScrSl, ↓dScrLen, ↓dScrList, ↓oStrI]
    rw [if_neg (by decide)]
    subst hk
    refine seq_gen fun k hk => ?_
    simp only [↓dSeq, ↓dNext, ↓dBreak, ↓dCont, ↓dNever, ↓dRet, ↓dRetN, ↓dDrop, ↓dSet, ↓dIf, ↓dAug, ↓dAsg, ↓dPar, ↓dVar, ↓dMove, ↓dC, ↓dFz, ↓dUp, ↓dNil, ↓dCons, ↓dTup, ↓dLst, ↓dBin, ↓dUn, ↓dChain, ↓dTest, ↓dAnd, ↓dOr, ↓dNot, ↓dAndV, ↓dOrV, ↓dNotV, ↓dIfE, ↓dgName, ↓dgNil, ↓dgCons, ↓dgTup, ↓dIt, ↓dRng1, ↓dRng2, ↓dZip, ↓dEnum, ↓u_for, ↓u_lc, ↓dYes, ↓u_call, ↓u_callF, ↓u_callIo, ↓dCB, ↓dCBF, ↓dBinS, ↓dLenS, ↓dSl, ↓dSlS, ↓dNo, ↓dPt, ↓dStL, ↓dApp, ↓dExt, ↓dJoin, ↓dRg1, ↓dRg2, ↓dTupRg, ↓dLstRg, ↓oSub, ↓oMulI, ↓oMul, ↓oFdiv, ↓oMod, ↓oPow, ↓oShr, ↓oXor, ↓oNeg, ↓oAdd, ↓oAug, ↓oLt, ↓oLe, ↓oGt, ↓oGe, ↓oI, ↓oIx, ↓oLen, ↓oInt, ↓oOrd, ↓oAbs, ↓oStL, ↓oIn, ↓oNin, ↓oInB, ↓isi_int, ↓isi_int_bl, ↓isi_int_str, ↓isi_int_tup, ↓isi_int_lst, ↓isi_str, ↓isi_str_int, ↓isi_tup, ↓isi_tup_int, ↓isi_tup_str, ↓isi_tup_lst, ↓isi_lst, ↓isi_lst_tup, ↓isi_lst_int, ↓isi_lst_str, ↓cv, ↓Cell.val, ↓Cell.up, ↓Cell.own, ↓lenD, ↓itemsOf, List.getElem?_cons_zero, List.getElem?_cons_succ, List.set_cons_zero, List.set_cons_succ, Option.bind_some, Option.isSome_some, List.length_cons, List.length_nil, true_and, and_true, ↓ixN_lit, ↓atI_lit, ↓reduceIte, Nat.reduceAdd, Nat.reduceLT, Nat.reduceSub, Nat.zero_add, Nat.reduceLeDiff, Nat.lt_add_one, Nat.zero_lt_succ, ↓oEq_int, ↓oNe_int, ↓oEq_str, ↓oNe_str, ↓oEq_bl, ↓oNe_bl, decide_eq_true_eq, Bool.false_eq_true, ↓u_while, ↓ownAt, List.all_cons, List.all_nil, Bool.and_true, List.getD_cons_zero, List.getD_cons_succ, Bool.not_false, ↓oLe_sign, ↓oMulS, ↓dDic, ↓dLock, ↓dGetS, ↓dStD, ↓dInS, ↓oInD, ↓dKeys, ↓dGet1, ↓dGet2, ↓dRev, ↓dMulL, ↓dCount, ↓dScrSl, ↓dScrLen, ↓dScrList, ↓oStrI]
    refine ⟨rfl, onF t rfl ⟨sg, by omega⟩ ?_⟩
    simp only [↓dSeq, ↓dNext, ↓dBreak, ↓dCont, ↓dNever, ↓dRet, ↓dRetN, ↓dDrop, ↓dSet, ↓dIf, ↓dAug, ↓dAsg, ↓dPar, ↓dVar, ↓dMove, ↓dC, ↓dFz, ↓dUp, ↓dNil, ↓dCons, ↓dTup, ↓dLst, ↓dBin, ↓dUn, ↓dChain, ↓dTest, ↓dAnd, ↓dOr, ↓dNot, ↓dAndV, ↓dOrV, ↓dNotV, ↓dIfE, ↓dgName, ↓dgNil, ↓dgCons, ↓dgTup, ↓dIt, ↓dRng1, ↓dRng2, ↓dZip, ↓dEnum, ↓u_for, ↓u_lc, ↓dYes, ↓u_call, ↓u_callF, ↓u_callIo, ↓dCB, ↓dCBF, ↓dBinS, ↓dLenS, ↓dSl, ↓dSlS, ↓dNo, ↓dPt, ↓dStL, ↓dApp, ↓dExt, ↓dJoin, ↓dRg1, ↓dRg2, ↓dTupRg, ↓dLstRg, ↓oSub, ↓oMulI, ↓oMul, ↓oFdiv, ↓oMod, ↓oPow, ↓oShr, ↓oXor, ↓oNeg, ↓oAdd, ↓oAug, ↓oLt, ↓oLe, ↓oGt, ↓oGe, ↓oI, ↓oIx, ↓oLen, ↓oInt, ↓oOrd, ↓oAbs, ↓oStL, ↓oIn, ↓oNin, ↓oInB, ↓isi_int, ↓isi_int_bl, ↓isi_int_str, ↓isi_int_tup, ↓isi_int_lst, ↓isi_str, ↓isi_str_int, ↓isi_tup, ↓isi_tup_int, ↓isi_tup_str, ↓isi_tup_lst, ↓isi_lst, ↓isi_lst_tup, ↓isi_lst_int, ↓isi_lst_str, ↓cv, ↓Cell.val, ↓Cell.up, ↓Cell.own, ↓lenD, ↓itemsOf, List.getElem?_cons_zero, List.getElem?_cons_succ, List.set_cons_zero, List.set_cons_succ, Option.bind_some, Option.isSome_some, List.length_cons, List.length_nil, true_and, and_true, ↓ixN_lit, ↓atI_lit, ↓reduceIte, Nat.reduceAdd, Nat.reduceLT, Nat.reduceSub, Nat.zero_add, Nat.reduceLeDiff, Nat.lt_add_one, Nat.zero_lt_succ, ↓oEq_int, ↓oNe_int, ↓oEq_str, ↓oNe_str, ↓oEq_bl, ↓oNe_bl, decide_eq_true_eq, Bool.false_eq_true, ↓u_while, ↓ownAt, List.all_cons, List.all_nil, Bool.and_true, List.getD_cons_zero, List.getD_cons_succ, Bool.not_false, ↓oLe_sign, ↓oMulS, ↓dDic, ↓dLock, ↓dGetS, ↓dStD, ↓dInS, ↓oInD, ↓dKeys, ↓dGet1, ↓dGet2, ↓dRev, ↓dMulL, ↓dCount, ↓dScrSl, ↓dScrLen, ↓dScrList, ↓oStrI]
    refine ⟨by omega, by omega, ?_⟩
    rw [show ((t.length : Int) + 1 - 1).toNat = t.length by omega]
    refine lcB_of (lcN_inv (fun m acc ρ => ∃ x10, acc = il (((List.range m).map (· + 1)).filter fun p => decide (Per t p)) ∧ ρ = [.un, .ow h3.d, c2, .fz (.str t), .fz (.lst ((runsN t).map trD)), .fz (.lst ((runsN t).map trD)), x6, x7, x8, x9, x10, .un, .un]) ?_ ?_ _ _ ⟨.un, rfl, rfl⟩)
    · rintro m acc ρ kT kF hm ⟨x10, rfl, rfl⟩ hT hF
      simp only [wipeE, ↓dSeq, ↓dNext, ↓dBreak, ↓dCont, ↓dNever, ↓dRet, ↓dRetN, ↓dDrop, ↓dSet, ↓dIf, ↓dAug, ↓dAsg, ↓dPar, ↓dVar, ↓dMove, ↓dC, ↓dFz, ↓dUp, ↓dNil, ↓dCons, ↓dTup, ↓dLst, ↓dBin, ↓dUn, ↓dChain, ↓dTest, ↓dAnd, ↓dOr, ↓dNot, ↓dAndV, ↓dOrV, ↓dNotV, ↓dIfE, ↓dgName, ↓dgNil, ↓dgCons, ↓dgTup, ↓dIt, ↓dRng1, ↓dRng2, ↓dZip, ↓dEnum, ↓u_for, ↓u_lc, ↓dYes, ↓u_call, ↓u_callF, ↓u_callIo, ↓dCB, ↓dCBF, ↓dBinS, ↓dLenS, ↓dSl, ↓dSlS, ↓dNo, ↓dPt, ↓dStL, ↓dApp, ↓dExt, ↓dJoin, ↓dRg1, ↓dRg2, ↓dTupRg, ↓dLstRg, ↓oSub, ↓oMulI, ↓oMul, ↓oFdiv, ↓oMod, ↓oPow, ↓oShr, ↓oXor, ↓oNeg, ↓oAdd, ↓oAug, ↓oLt, ↓oLe, ↓oGt, ↓oGe, ↓oI, ↓oIx, ↓oLen, ↓oInt, ↓oOrd, ↓oAbs, ↓oStL, ↓oIn, ↓oNin, ↓oInB, ↓isi_int, ↓isi_int_bl, ↓isi_int_str, ↓isi_int_tup, ↓isi_int_lst, ↓isi_str, ↓isi_str_int, ↓isi_tup, ↓isi_tup_int, ↓isi_tup_str, ↓isi_tup_lst, ↓isi_lst, ↓isi_lst_tup, ↓isi_lst_int, ↓isi_lst_str, ↓cv, ↓Cell.val, ↓Cell.up, ↓Cell.own, ↓lenD, ↓itemsOf, List.getElem?_cons_zero, List.getElem?_cons_succ, List.set_cons_zero, List.set_cons_succ, Option.bind_some, Option.isSome_some, List.length_cons, List.length_nil, true_and, and_true, ↓ixN_lit, ↓atI_lit, ↓reduceIte, Nat.reduceAdd, Nat.reduceLT, Nat.reduceSub, Nat.zero_add, Nat.reduceLeDiff, Nat.lt_add_one, Nat.zero_lt_succ, ↓oEq_int, ↓oNe_int, ↓oEq_str, ↓oNe_str, ↓oEq_bl, ↓oNe_bl, decide_eq_true_eq, Bool.false_eq_true, ↓u_while, ↓ownAt, List.all_cons, List.all_nil, Bool.and_true, List.getD_cons_zero, List.getD_cons_succ, Bool.not_false, ↓oLe_sign, ↓oMulS, ↓dDic, ↓dLock, ↓dGetS, ↓dStD, ↓dInS, ↓oInD, ↓dKeys, ↓dGet1, ↓dGet2, ↓dRev, ↓dMulL, ↓dCount, ↓dScrSl, ↓dScrLen, ↓dScrList, ↓oStrI]
      rw [show (1 : Int) + ((m : Nat) : Int) = ((m + 1 : Nat) : Int) by omega]
      refine ⟨rfl, onF (t, m + 1) rfl (by show m + 1 ≤ t.length; omega) ?_⟩
      simp only [↓dSeq, ↓dNext, ↓dBreak, ↓dCont, ↓dNever, ↓dRet, ↓dRetN, ↓dDrop, ↓dSet, ↓dIf, ↓dAug, ↓dAsg, ↓dPar, ↓dVar, ↓dMove, ↓dC, ↓dFz, ↓dUp, ↓dNil, ↓dCons, ↓dTup, ↓dLst, ↓dBin, ↓dUn, ↓dChain, ↓dTest, ↓dAnd, ↓dOr, ↓dNot, ↓dAndV, ↓dOrV, ↓dNotV, ↓dIfE, ↓dgName, ↓dgNil, ↓dgCons, ↓dgTup, ↓dIt, ↓dRng1, ↓dRng2, ↓dZip, ↓dEnum, ↓u_for, ↓u_lc, ↓dYes, ↓u_call, ↓u_callF, ↓u_callIo, ↓dCB, ↓dCBF, ↓dBinS, ↓dLenS, ↓dSl, ↓dSlS, ↓dNo, ↓dPt, ↓dStL, ↓dApp, ↓dExt, ↓dJoin, ↓dRg1, ↓dRg2, ↓dTupRg, ↓dLstRg, ↓oSub, ↓oMulI, ↓oMul, ↓oFdiv, ↓oMod, ↓oPow, ↓oShr, ↓oXor, ↓oNeg, ↓oAdd, ↓oAug, ↓oLt, ↓oLe, ↓oGt, ↓oGe, ↓oI, ↓oIx, ↓oLen, ↓oInt, ↓oOrd, ↓oAbs, ↓oStL, ↓oIn, ↓oNin, ↓oInB, ↓isi_int, ↓isi_int_bl, ↓isi_int_str, ↓isi_int_tup, ↓isi_int_lst, ↓isi_str, ↓isi_str_int, ↓isi_tup, ↓isi_tup_int, ↓isi_tup_str, ↓isi_tup_lst, ↓isi_lst, ↓isi_lst_tup, ↓isi_lst_int, ↓isi_lst_str, ↓cv, ↓Cell.val, ↓Cell.up, ↓Cell.own, ↓lenD, ↓itemsOf, List.getElem?_cons_zero, List.getElem?_cons_succ, List.set_cons_zero, List.set_cons_succ, Option.bind_some, Option.isSome_some, List.length_cons, List.length_nil, true_and, and_true, ↓ixN_lit, ↓atI_lit, ↓reduceIte, Nat.reduceAdd, Nat.reduceLT, Nat.reduceSub, Nat.zero_add, Nat.reduceLeDiff, Nat.lt_add_one, Nat.zero_lt_succ, ↓oEq_int, ↓oNe_int, ↓oEq_str, ↓oNe_str, ↓oEq_bl, ↓oNe_bl, decide_eq_true_eq, Bool.false_eq_true, ↓u_while, ↓ownAt, List.all_cons, List.all_nil, Bool.and_true, List.getD_cons_zero, List.getD_cons_succ, Bool.not_false, ↓oLe_sign, ↓oMulS, ↓dDic, ↓dLock, ↓dGetS, ↓dStD, ↓dInS, ↓oInD, ↓dKeys, ↓dGet1, ↓dGet2, ↓dRev, ↓dMulL, ↓dCount, ↓dScrSl, ↓dScrLen, ↓dScrList, ↓oStrI]
      by_cases q : Per t (m + 1)
      · rw [if_pos q]
        refine hT _ _ ⟨_, ?_, rfl⟩
        rw [List.range_succ, List.map_append, List.filter_append]
        simp [il, q]
      · rw [if_neg q]
        refine hF _ ⟨_, ?_, rfl⟩
        rw [List.range_succ, List.map_append, List.filter_append]
        simp [il, q]
    · rintro acc ρ ⟨x10, rfl, rfl⟩
      simp only [restE, ↓dSeq, ↓dNext, ↓dBreak, ↓dCont, ↓dNever, ↓dRet, ↓dRetN, ↓dDrop, ↓dSet, ↓dIf, ↓dAug, ↓dAsg, ↓dPar, ↓dVar, ↓dMove, ↓dC, ↓dFz, ↓dUp, ↓dNil, ↓dCons, ↓dTup, ↓dLst, ↓dBin, ↓dUn, ↓dChain, ↓dTest, ↓dAnd, ↓dOr, ↓dNot, ↓dAndV, ↓dOrV, ↓dNotV, ↓dIfE, ↓dgName, ↓dgNil, ↓dgCons, ↓dgTup, ↓dIt, ↓dRng1, ↓dRng2, ↓dZip, ↓dEnum, ↓u_for, ↓u_lc, ↓dYes, ↓u_call, ↓u_callF, ↓u_callIo, ↓dCB, ↓dCBF, ↓dBinS, ↓dLenS, ↓dSl, ↓dSlS, ↓dNo, ↓dPt, ↓dStL, ↓dApp, ↓dExt, ↓dJoin, ↓dRg1, ↓dRg2, ↓dTupRg, ↓dLstRg, ↓oSub, ↓oMulI, ↓oMul, ↓oFdiv, ↓oMod, ↓oPow, ↓oShr, ↓oXor, ↓oNeg, ↓oAdd, ↓oAug, ↓oLt, ↓oLe, ↓oGt, ↓oGe, ↓oI, ↓oIx, ↓oLen, ↓oInt, ↓oOrd, ↓oAbs, ↓oStL, ↓oIn, ↓oNin, ↓oInB, ↓isi_int, ↓isi_int_bl, ↓isi_int_str, ↓isi_int_tup, ↓isi_int_lst, ↓isi_str, ↓isi_str_int, ↓isi_tup, ↓isi_tup_int, ↓isi_tup_str, ↓isi_tup_lst, ↓isi_lst, ↓isi_lst_tup, ↓isi_lst_int, ↓isi_lst_str, ↓cv, ↓Cell.val, ↓Cell.up, ↓Cell.own, ↓lenD, ↓itemsOf, List.getElem?_cons_zero, List.getElem?_cons_succ, List.set_cons_zero, List.set_cons_succ, Option.bind_some, Option.isSome_some, List.length_cons, List.length_nil, true_and, and_true, ↓ixN_lit, ↓atI_lit, ↓reduceIte, Nat.reduceAdd, Nat.reduceLT, Nat.reduceSub, Nat.zero_add, Nat.reduceLeDiff, Nat.lt_add_one, Nat.zero_lt_succ, ↓oEq_int, ↓oNe_int, ↓oEq_str, ↓oNe_str, ↓oEq_bl, ↓oNe_bl, decide_eq_true_eq, Bool.false_eq_true, ↓u_while, ↓ownAt, List.all_cons, List.all_nil, Bool.and_true, List.getD_cons_zero, List.getD_cons_succ, Bool.not_false, ↓oLe_sign, ↓oMulS, ↓dDic, ↓dLock, ↓dGetS, ↓dStD, ↓dInS, ↓oInD, ↓dKeys, ↓dGet1, ↓dGet2, ↓dRev, ↓dMulL, ↓dCount, ↓dScrSl, ↓dScrLen, ↓dScrList, ↓oStrI]
      dsimp only [oTuple]
      refine oNe_same rfl (pls_il _) (by have := deps_il (periodsN t); show deps (il (periodsN t)) + 1 ≤ 50; omega) ?_
      dsimp only
      rw [if_neg (by decide)]
      subst hk
      refine seq_gen fun k hk => ?_
      simp only [↓dSeq, ↓dNext, ↓dBreak, ↓dCont, ↓dNever, ↓dRet, ↓dRetN, ↓dDrop, ↓dSet, ↓dIf, ↓dAug, ↓dAsg, ↓dPar, ↓dVar, ↓dMove, ↓dC, ↓dFz, ↓dUp, ↓dNil, ↓dCons, ↓dTup, ↓dLst, ↓dBin, ↓dUn, ↓dChain, ↓dTest, ↓dAnd, ↓dOr, ↓dNot, ↓dAndV, ↓dOrV, ↓dNotV, ↓dIfE, ↓dgName, ↓dgNil, ↓dgCons, ↓dgTup, ↓dIt, ↓dRng1, ↓dRng2, ↓dZip, ↓dEnum, ↓u_for, ↓u_lc, ↓dYes, ↓u_call, ↓u_callF, ↓u_callIo, ↓dCB, ↓dCBF, ↓dBinS, ↓dLenS, ↓dSl, ↓dSlS, ↓dNo, ↓dPt, ↓dStL, ↓dApp, ↓dExt, ↓dJoin, ↓dRg1, ↓dRg2, ↓dTupRg, ↓dLstRg, ↓oSub, ↓oMulI, ↓oMul, ↓oFdiv, ↓oMod, ↓oPow, ↓oShr, ↓oXor, ↓oNeg, ↓oAdd, ↓oAug, ↓oLt, ↓oLe, ↓oGt, ↓oGe, ↓oI, ↓oIx, ↓oLen, ↓oInt, ↓oOrd, ↓oAbs, ↓oStL, ↓oIn, ↓oNin, ↓oInB, ↓isi_int, ↓isi_int_bl, ↓isi_int_str, ↓isi_int_tup, ↓isi_int_lst, ↓isi_str, ↓isi_str_int, ↓isi_tup, ↓isi_tup_int, ↓isi_tup_str, ↓isi_tup_lst, ↓isi_lst, ↓isi_lst_tup, ↓isi_lst_int, ↓isi_lst_str, ↓cv, ↓Cell.val, ↓Cell.up, ↓Cell.own, ↓lenD, ↓itemsOf, List.getElem?_cons_zero, List.getElem?_cons_succ, List.set_cons_zero, List.set_cons_succ, Option.bind_some, Option.isSome_some, List.length_cons, List.length_nil, true_and, and_true, ↓ixN_lit, ↓atI_lit, ↓reduceIte, Nat.reduceAdd, Nat.reduceLT, Nat.reduceSub, Nat.zero_add, Nat.reduceLeDiff, Nat.lt_add_one, Nat.zero_lt_succ, ↓oEq_int, ↓oNe_int, ↓oEq_str, ↓oNe_str, ↓oEq_bl, ↓oNe_bl, decide_eq_true_eq, Bool.false_eq_true, ↓u_while, ↓ownAt, List.all_cons, List.all_nil, Bool.and_true, List.getD_cons_zero, List.getD_cons_succ, Bool.not_false, ↓oLe_sign, ↓oMulS, ↓dDic, ↓dLock, ↓dGetS, ↓dStD, ↓dInS, ↓oInD, ↓dKeys, ↓dGet1, ↓dGet2, ↓dRev, ↓dMulL, ↓dCount, ↓dScrSl, ↓dScrLen, ↓dScrList, ↓oStrI]
      refine ⟨rfl, onF t rfl ⟨sg, by omega⟩ ?_⟩
      simp only [↓dSeq, ↓dNext, ↓dBreak, ↓dCont, ↓dNever, ↓dRet, ↓dRetN, ↓dDrop, ↓dSet, ↓dIf, ↓dAug, ↓dAsg, ↓dPar, ↓dVar, ↓dMove, ↓dC, ↓dFz, ↓dUp, ↓dNil, ↓dCons, ↓dTup, ↓dLst, ↓dBin, ↓dUn, ↓dChain, ↓dTest, ↓dAnd, ↓dOr, ↓dNot, ↓dAndV, ↓dOrV, ↓dNotV, ↓dIfE, ↓dgName, ↓dgNil, ↓dgCons, ↓dgTup, ↓dIt, ↓dRng1, ↓dRng2, ↓dZip, ↓dEnum, ↓u_for, ↓u_lc, ↓dYes, ↓u_call, ↓u_callF, ↓u_callIo, ↓dCB, ↓dCBF, ↓dBinS, ↓dLenS, ↓dSl, ↓dSlS, ↓dNo, ↓dPt, ↓dStL, ↓dApp, ↓dExt, ↓dJoin, ↓dRg1, ↓dRg2, ↓dTupRg, ↓dLstRg, ↓oSub, ↓oMulI, ↓oMul, ↓oFdiv, ↓oMod, ↓oPow, ↓oShr, ↓oXor, ↓oNeg, ↓oAdd, ↓oAug, ↓oLt, ↓oLe, ↓oGt, ↓oGe, ↓oI, ↓oIx, ↓oLen, ↓oInt, ↓oOrd, ↓oAbs, ↓oStL, ↓oIn, ↓oNin, ↓oInB, ↓isi_int, ↓isi_int_bl, ↓isi_int_str, ↓isi_int_tup, ↓isi_int_lst, ↓isi_str, ↓isi_str_int, ↓isi_tup, ↓isi_tup_int, ↓isi_tup_str, ↓isi_tup_lst, ↓isi_lst, ↓isi_lst_tup, ↓isi_lst_int, ↓isi_lst_str, ↓cv, ↓Cell.val, ↓Cell.up, ↓Cell.own, ↓lenD, ↓itemsOf, List.getElem?_cons_zero, List.getElem?_cons_succ, List.set_cons_zero, List.set_cons_succ, Option.bind_some, Option.isSome_some, List.length_cons, List.length_nil, true_and, and_true, ↓ixN_lit, ↓atI_lit, ↓reduceIte, Nat.reduceAdd, Nat.reduceLT, Nat.reduceSub, Nat.zero_add, Nat.reduceLeDiff, Nat.lt_add_one, Nat.zero_lt_succ, ↓oEq_int, ↓oNe_int, ↓oEq_str, ↓oNe_str, ↓oEq_bl, ↓oNe_bl, decide_eq_true_eq, Bool.false_eq_true, ↓u_while, ↓ownAt, List.all_cons, List.all_nil, Bool.and_true, List.getD_cons_zero, List.getD_cons_succ, Bool.not_false, ↓oLe_sign, ↓oMulS, ↓dDic, ↓dLock, ↓dGetS, ↓dStD, ↓dInS, ↓oInD, ↓dKeys, ↓dGet1, ↓dGet2, ↓dRev, ↓dMulL, ↓dCount, ↓dScrSl, ↓dScrLen, ↓dScrList, ↓oStrI, oSl]
      refine ⟨by omega, by omega, ?_⟩
      rw [show ((t.length : Int) - 1).toNat = t.length - 1 by omega]
      refine lcB_of (lcN_inv (fun m acc ρ => ∃ x11, acc = sl ((((List.range (m + 1))).filter fun k => decide (0 < k ∧ Bo t t.length k)).map t.take) ∧ ρ = [.un, .ow h3.d, c2, .fz (.str t), .fz (.lst ((runsN t).map trD)), .fz (.lst ((runsN t).map trD)), x6, x7, x8, x9, .un, x11, .un]) ?_ ?_ _ _ ⟨.un, ?_, rfl⟩)
      · rintro m acc ρ kT kF hm ⟨x11, rfl, rfl⟩ hT hF
        simp only [wipeE, ↓dSeq, ↓dNext, ↓dBreak, ↓dCont, ↓dNever, ↓dRet, ↓dRetN, ↓dDrop, ↓dSet, ↓dIf, ↓dAug, ↓dAsg, ↓dPar, ↓dVar, ↓dMove, ↓dC, ↓dFz, ↓dUp, ↓dNil, ↓dCons, ↓dTup, ↓dLst, ↓dBin, ↓dUn, ↓dChain, ↓dTest, ↓dAnd, ↓dOr, ↓dNot, ↓dAndV, ↓dOrV, ↓dNotV, ↓dIfE, ↓dgName, ↓dgNil, ↓dgCons, ↓dgTup, ↓dIt, ↓dRng1, ↓dRng2, ↓dZip, ↓dEnum, ↓u_for, ↓u_lc, ↓dYes, ↓u_call, ↓u_callF, ↓u_callIo, ↓dCB, ↓dCBF, ↓dBinS, ↓dLenS, ↓dSl, ↓dSlS, ↓dNo, ↓dPt, ↓dStL, ↓dApp, ↓dExt, ↓dJoin, ↓dRg1, ↓dRg2, ↓dTupRg, ↓dLstRg, ↓oSub, ↓oMulI, ↓oMul, ↓oFdiv, ↓oMod, ↓oPow, ↓oShr, ↓oXor, ↓oNeg, ↓oAdd, ↓oAug, ↓oLt, ↓oLe, ↓oGt, ↓oGe, ↓oI, ↓oIx, ↓oLen, ↓oInt, ↓oOrd, ↓oAbs, ↓oStL, ↓oIn, ↓oNin, ↓oInB, ↓isi_int, ↓isi_int_bl, ↓isi_int_str, ↓isi_int_tup, ↓isi_int_lst, ↓isi_str, ↓isi_str_int, ↓isi_tup, ↓isi_tup_int, ↓isi_tup_str, ↓isi_tup_lst, ↓isi_lst, ↓isi_lst_tup, ↓isi_lst_int, ↓isi_lst_str, ↓cv, ↓Cell.val, ↓Cell.up, ↓Cell.own, ↓lenD, ↓itemsOf, List.getElem?_cons_zero, List.getElem?_cons_succ, List.set_cons_zero, List.set_cons_succ, Option.bind_some, Option.isSome_some, List.length_cons, List.length_nil, true_and, and_true, ↓ixN_lit, ↓atI_lit, ↓reduceIte, Nat.reduceAdd, Nat.reduceLT, Nat.reduceSub, Nat.zero_add, Nat.reduceLeDiff, Nat.lt_add_one, Nat.zero_lt_succ, ↓oEq_int, ↓oNe_int, ↓oEq_str, ↓oNe_str, ↓oEq_bl, ↓oNe_bl, decide_eq_true_eq, Bool.false_eq_true, ↓u_while, ↓ownAt, List.all_cons, List.all_nil, Bool.and_true, List.getD_cons_zero, List.getD_cons_succ, Bool.not_false, ↓oLe_sign, ↓oMulS, ↓dDic, ↓dLock, ↓dGetS, ↓dStD, ↓dInS, ↓oInD, ↓dKeys, ↓dGet1, ↓dGet2, ↓dRev, ↓dMulL, ↓dCount, ↓dScrSl, ↓dScrLen, ↓dScrList, ↓oStrI, oSl]
        rw [show (1 : Int) + ((m : Nat) : Int) = ((m + 1 : Nat) : Int) by omega]
        have bc := decide_eq_decide.mp (bo_cut (t := t) (k := m + 1) (by omega) (by omega))
        by_cases q : 0 < m + 1 ∧ Bo t t.length (m + 1)
        · rw [if_pos (bc.mpr q), cutG_to]
          refine hT _ _ ⟨_, ?_, rfl⟩
          rw [List.range_succ (n := m + 1), List.filter_append]
          simp [sl, q.2]
        · rw [if_neg fun z => q (bc.mp z)]
          refine hF _ ⟨_, ?_, rfl⟩
          have q2 : ¬ Bo t t.length (m + 1) := fun z => q ⟨by omega, z⟩
          rw [List.range_succ (n := m + 1), List.filter_append]
          simp [sl, q2]
      · rintro acc ρ ⟨x11, rfl, rfl⟩
        simp only [restE, ↓dSeq, ↓dNext, ↓dBreak, ↓dCont, ↓dNever, ↓dRet, ↓dRetN, ↓dDrop, ↓dSet, ↓dIf, ↓dAug, ↓dAsg, ↓dPar, ↓dVar, ↓dMove, ↓dC, ↓dFz, ↓dUp, ↓dNil, ↓dCons, ↓dTup, ↓dLst, ↓dBin, ↓dUn, ↓dChain, ↓dTest, ↓dAnd, ↓dOr, ↓dNot, ↓dAndV, ↓dOrV, ↓dNotV, ↓dIfE, ↓dgName, ↓dgNil, ↓dgCons, ↓dgTup, ↓dIt, ↓dRng1, ↓dRng2, ↓dZip, ↓dEnum, ↓u_for, ↓u_lc, ↓dYes, ↓u_call, ↓u_callF, ↓u_callIo, ↓dCB, ↓dCBF, ↓dBinS, ↓dLenS, ↓dSl, ↓dSlS, ↓dNo, ↓dPt, ↓dStL, ↓dApp, ↓dExt, ↓dJoin, ↓dRg1, ↓dRg2, ↓dTupRg, ↓dLstRg, ↓oSub, ↓oMulI, ↓oMul, ↓oFdiv, ↓oMod, ↓oPow, ↓oShr, ↓oXor, ↓oNeg, ↓oAdd, ↓oAug, ↓oLt, ↓oLe, ↓oGt, ↓oGe, ↓oI, ↓oIx, ↓oLen, ↓oInt, ↓oOrd, ↓oAbs, ↓oStL, ↓oIn, ↓oNin, ↓oInB, ↓isi_int, ↓isi_int_bl, ↓isi_int_str, ↓isi_int_tup, ↓isi_int_lst, ↓isi_str, ↓isi_str_int, ↓isi_tup, ↓isi_tup_int, ↓isi_tup_str, ↓isi_tup_lst, ↓isi_lst, ↓isi_lst_tup, ↓isi_lst_int, ↓isi_lst_str, ↓cv, ↓Cell.val, ↓Cell.up, ↓Cell.own, ↓lenD, ↓itemsOf, List.getElem?_cons_zero, List.getElem?_cons_succ, List.set_cons_zero, List.set_cons_succ, Option.bind_some, Option.isSome_some, List.length_cons, List.length_nil, true_and, and_true, ↓ixN_lit, ↓atI_lit, ↓reduceIte, Nat.reduceAdd, Nat.reduceLT, Nat.reduceSub, Nat.zero_add, Nat.reduceLeDiff, Nat.lt_add_one, Nat.zero_lt_succ, ↓oEq_int, ↓oNe_int, ↓oEq_str, ↓oNe_str, ↓oEq_bl, ↓oNe_bl, decide_eq_true_eq, Bool.false_eq_true, ↓u_while, ↓ownAt, List.all_cons, List.all_nil, Bool.and_true, List.getD_cons_zero, List.getD_cons_succ, Bool.not_false, ↓oLe_sign, ↓oMulS, ↓dDic, ↓dLock, ↓dGetS, ↓dStD, ↓dInS, ↓oInD, ↓dKeys, ↓dGet1, ↓dGet2, ↓dRev, ↓dMulL, ↓dCount, ↓dScrSl, ↓dScrLen, ↓dScrList, ↓oStrI]
        have eb : (List.range (t.length - 1 + 1)).filter (fun k => decide (0 < k ∧ Bo t t.length k)) = bordersN t := by
          unfold bordersN
          by_cases z : t.length = 0
          · rw [z]; rfl
          · rw [show t.length - 1 + 1 = t.length by omega]
        rw [eb]
        dsimp only [oSorted]
        refine ⟨pls_sl _, fun d hd => ?_, fun d hd d' hd' => ?_, .inr fun d hd => ?_, ?_⟩
        · obtain ⟨x, _, rfl⟩ := List.mem_map.mp hd
          show 0 ≤ 40
          decide
        · obtain ⟨x, hx, rfl⟩ := List.mem_map.mp hd
          obtain ⟨y, hy, rfl⟩ := List.mem_map.mp hd'
          obtain ⟨x, _, rfl⟩ := List.mem_map.mp hx
          obtain ⟨y, _, rfl⟩ := List.mem_map.mp hy
          rfl
        · obtain ⟨x, hx, rfl⟩ := List.mem_map.mp hd
          obtain ⟨x, _, rfl⟩ := List.mem_map.mp hx
          constructor
          · intro z
            cases z
          · intro xs z
            cases z
        refine oNe_same ?_ (pls_sl _) (by have := deps_sl ((bordersN t).map t.take); show deps (sl ((bordersN t).map t.take)) + 1 ≤ 50; omega) ?_
        · exact congrArg D.lst (borders_sorted t).symm
        dsimp only
        rw [if_neg (by decide)]
        subst hk
        refine seq_gen fun k hk => ?_
        simp only [↓dSeq, ↓dNext, ↓dBreak, ↓dCont, ↓dNever, ↓dRet, ↓dRetN, ↓dDrop, ↓dSet, ↓dIf, ↓dAug, ↓dAsg, ↓dPar, ↓dVar, ↓dMove, ↓dC, ↓dFz, ↓dUp, ↓dNil, ↓dCons, ↓dTup, ↓dLst, ↓dBin, ↓dUn, ↓dChain, ↓dTest, ↓dAnd, ↓dOr, ↓dNot, ↓dAndV, ↓dOrV, ↓dNotV, ↓dIfE, ↓dgName, ↓dgNil, ↓dgCons, ↓dgTup, ↓dIt, ↓dRng1, ↓dRng2, ↓dZip, ↓dEnum, ↓u_for, ↓u_lc, ↓dYes, ↓u_call, ↓u_callF, ↓u_callIo, ↓dCB, ↓dCBF, ↓dBinS, ↓dLenS, ↓dSl, ↓dSlS, ↓dNo, ↓dPt, ↓dStL, ↓dApp, ↓dExt, ↓dJoin, ↓dRg1, ↓dRg2, ↓dTupRg, ↓dLstRg, ↓oSub, ↓oMulI, ↓oMul, ↓oFdiv, ↓oMod, ↓oPow, ↓oShr, ↓oXor, ↓oNeg, ↓oAdd, ↓oAug, ↓oLt, ↓oLe, ↓oGt, ↓oGe, ↓oI, ↓oIx, ↓oLen, ↓oInt, ↓oOrd, ↓oAbs, ↓oStL, ↓oIn, ↓oNin, ↓oInB, ↓isi_int, ↓isi_int_bl, ↓isi_int_str, ↓isi_int_tup, ↓isi_int_lst, ↓isi_str, ↓isi_str_int, ↓isi_tup, ↓isi_tup_int, ↓isi_tup_str, ↓isi_tup_lst, ↓isi_lst, ↓isi_lst_tup, ↓isi_lst_int, ↓isi_lst_str, ↓cv, ↓Cell.val, ↓Cell.up, ↓Cell.own, ↓lenD, ↓itemsOf, List.getElem?_cons_zero, List.getElem?_cons_succ, List.set_cons_zero, List.set_cons_succ, Option.bind_some, Option.isSome_some, List.length_cons, List.length_nil, true_and, and_true, ↓ixN_lit, ↓atI_lit, ↓reduceIte, Nat.reduceAdd, Nat.reduceLT, Nat.reduceSub, Nat.zero_add, Nat.reduceLeDiff, Nat.lt_add_one, Nat.zero_lt_succ, ↓oEq_int, ↓oNe_int, ↓oEq_str, ↓oNe_str, ↓oEq_bl, ↓oNe_bl, decide_eq_true_eq, Bool.false_eq_true, ↓u_while, ↓ownAt, List.all_cons, List.all_nil, Bool.and_true, List.getD_cons_zero, List.getD_cons_succ, Bool.not_false, ↓oLe_sign, ↓oMulS, ↓dDic, ↓dLock, ↓dGetS, ↓dStD, ↓dInS, ↓oInD, ↓dKeys, ↓dGet1, ↓dGet2, ↓dRev, ↓dMulL, ↓dCount, ↓dScrSl, ↓dScrLen, ↓dScrList, ↓oStrI, oSl]
        have mem6 : ∀ {m2 x}, (cutG ((runsN t).map trD) none (some 6))[m2]? = some x → ∃ b e p, IsRun t b e p ∧ x = trD (b, e, p) := fun {m2 x} h => by
          obtain ⟨⟨b, e, p⟩, hm, rfl⟩ := List.mem_map.mp (cutG_mem (List.mem_of_getElem? h))
          exact ⟨b, e, p, mem_runsN.mp hm, rfl⟩
        generalize hL : cutG ((runsN t).map trD) none (some 6) = L at mem6
        refine forB_of (forI_inv (fun m2 ρ => ∃ (h4 : Hand) (y6 y7 y8 : Cell), h4.Ok ∧ ρ = [.un, .ow h4.d, c2, .fz (.str t), .fz (.lst ((runsN t).map trD)), .fz (.lst ((runsN t).map trD)), y6, y7, y8, x9, .un, .un, .un]) ?_ ?_ _ ⟨h3, x6, x7, x8, ok3, rfl⟩)
        · rintro m2 x ρ k2 hx ⟨h4, y6, y7, y8, ok4, rfl⟩ hk2
          obtain ⟨b, e, p, hr, rfl⟩ := mem6 hx
          show dSeq _ _ _ [.un, .ow h4.d, c2, .fz (.str t), .fz (.lst ((runsN t).map trD)), .fz (.lst ((runsN t).map trD)), .fz (trD (b, e, p)), y7, y8, x9, .un, .un, .un]
          refine seq_gen fun k3 hk3 => ?_
          simp only [↓dSeq, ↓dNext, ↓dBreak, ↓dCont, ↓dNever, ↓dRet, ↓dRetN, ↓dDrop, ↓dSet, ↓dIf, ↓dAug, ↓dAsg, ↓dPar, ↓dVar, ↓dMove, ↓dC, ↓dFz, ↓dUp, ↓dNil, ↓dCons, ↓dTup, ↓dLst, ↓dBin, ↓dUn, ↓dChain, ↓dTest, ↓dAnd, ↓dOr, ↓dNot, ↓dAndV, ↓dOrV, ↓dNotV, ↓dIfE, ↓dgName, ↓dgNil, ↓dgCons, ↓dgTup, ↓dIt, ↓dRng1, ↓dRng2, ↓dZip, ↓dEnum, ↓u_for, ↓u_lc, ↓dYes, ↓u_call, ↓u_callF, ↓u_callIo, ↓dCB, ↓dCBF, ↓dBinS, ↓dLenS, ↓dSl, ↓dSlS, ↓dNo, ↓dPt, ↓dStL, ↓dApp, ↓dExt, ↓dJoin, ↓dRg1, ↓dRg2, ↓dTupRg, ↓dLstRg, ↓oSub, ↓oMulI, ↓oMul, ↓oFdiv, ↓oMod, ↓oPow, ↓oShr, ↓oXor, ↓oNeg, ↓oAdd, ↓oAug, ↓oLt, ↓oLe, ↓oGt, ↓oGe, ↓oI, ↓oIx, ↓oLen, ↓oInt, ↓oOrd, ↓oAbs, ↓oStL, ↓oIn, ↓oNin, ↓oInB, ↓isi_int, ↓isi_int_bl, ↓isi_int_str, ↓isi_int_tup, ↓isi_int_lst, ↓isi_str, ↓isi_str_int, ↓isi_tup, ↓isi_tup_int, ↓isi_tup_str, ↓isi_tup_lst, ↓isi_lst, ↓isi_lst_tup, ↓isi_lst_int, ↓isi_lst_str, ↓cv, ↓Cell.val, ↓Cell.up, ↓Cell.own, ↓lenD, ↓itemsOf, List.getElem?_cons_zero, List.getElem?_cons_succ, List.set_cons_zero, List.set_cons_succ, Option.bind_some, Option.isSome_some, List.length_cons, List.length_nil, true_and, and_true, ↓ixN_lit, ↓atI_lit, ↓reduceIte, Nat.reduceAdd, Nat.reduceLT, Nat.reduceSub, Nat.zero_add, Nat.reduceLeDiff, Nat.lt_add_one, Nat.zero_lt_succ, ↓oEq_int, ↓oNe_int, ↓oEq_str, ↓oNe_str, ↓oEq_bl, ↓oNe_bl, decide_eq_true_eq, Bool.false_eq_true, ↓u_while, ↓ownAt, List.all_cons, List.all_nil, Bool.and_true, List.getD_cons_zero, List.getD_cons_succ, Bool.not_false, ↓oLe_sign, ↓oMulS, ↓dDic, ↓dLock, ↓dGetS, ↓dStD, ↓dInS, ↓oInD, ↓dKeys, ↓dGet1, ↓dGet2, ↓dRev, ↓dMulL, ↓dCount, ↓dScrSl, ↓dScrLen, ↓dScrList, ↓oStrI]
          refine ⟨rfl, onM (h4, (b, e, p)) rfl ⟨ok4, by have := hr.mx.le; have := hr.mx.en; show b ≤ 2000; omega⟩ ?_⟩
          rintro r os ⟨h5, ok5, odd, rfl⟩
          simp only [ioB, wipeE, fr_odd, ↓dSeq, ↓dNext, ↓dBreak, ↓dCont, ↓dNever, ↓dRet, ↓dRetN, ↓dDrop, ↓dSet, ↓dIf, ↓dAug, ↓dAsg, ↓dPar, ↓dVar, ↓dMove, ↓dC, ↓dFz, ↓dUp, ↓dNil, ↓dCons, ↓dTup, ↓dLst, ↓dBin, ↓dUn, ↓dChain, ↓dTest, ↓dAnd, ↓dOr, ↓dNot, ↓dAndV, ↓dOrV, ↓dNotV, ↓dIfE, ↓dgName, ↓dgNil, ↓dgCons, ↓dgTup, ↓dIt, ↓dRng1, ↓dRng2, ↓dZip, ↓dEnum, ↓u_for, ↓u_lc, ↓dYes, ↓u_call, ↓u_callF, ↓u_callIo, ↓dCB, ↓dCBF, ↓dBinS, ↓dLenS, ↓dSl, ↓dSlS, ↓dNo, ↓dPt, ↓dStL, ↓dApp, ↓dExt, ↓dJoin, ↓dRg1, ↓dRg2, ↓dTupRg, ↓dLstRg, ↓oSub, ↓oMulI, ↓oMul, ↓oFdiv, ↓oMod, ↓oPow, ↓oShr, ↓oXor, ↓oNeg, ↓oAdd, ↓oAug, ↓oLt, ↓oLe, ↓oGt, ↓oGe, ↓oI, ↓oIx, ↓oLen, ↓oInt, ↓oOrd, ↓oAbs, ↓oStL, ↓oIn, ↓oNin, ↓oInB, ↓isi_int, ↓isi_int_bl, ↓isi_int_str, ↓isi_int_tup, ↓isi_int_lst, ↓isi_str, ↓isi_str_int, ↓isi_tup, ↓isi_tup_int, ↓isi_tup_str, ↓isi_tup_lst, ↓isi_lst, ↓isi_lst_tup, ↓isi_lst_int, ↓isi_lst_str, ↓cv, ↓Cell.val, ↓Cell.up, ↓Cell.own, ↓lenD, ↓itemsOf, List.getElem?_cons_zero, List.getElem?_cons_succ, List.set_cons_zero, List.set_cons_succ, Option.bind_some, Option.isSome_some, List.length_cons, List.length_nil, true_and, and_true, ↓ixN_lit, ↓atI_lit, ↓reduceIte, Nat.reduceAdd, Nat.reduceLT, Nat.reduceSub, Nat.zero_add, Nat.reduceLeDiff, Nat.lt_add_one, Nat.zero_lt_succ, ↓oEq_int, ↓oNe_int, ↓oEq_str, ↓oNe_str, ↓oEq_bl, ↓oNe_bl, decide_eq_true_eq, Bool.false_eq_true, ↓u_while, ↓ownAt, List.all_cons, List.all_nil, Bool.and_true, List.getD_cons_zero, List.getD_cons_succ, Bool.not_false, ↓oLe_sign, ↓oMulS, ↓dDic, ↓dLock, ↓dGetS, ↓dStD, ↓dInS, ↓oInD, ↓dKeys, ↓dGet1, ↓dGet2, ↓dRev, ↓dMulL, ↓dCount, ↓dScrSl, ↓dScrLen, ↓dScrList, ↓oStrI]
          subst hk3
          refine seq_gen fun k3 hk3 => ?_
          have fin : k3 [.un, .ow h5.d, c2, .fz (.str t), .fz (.lst ((runsN t).map trD)), .fz (.lst ((runsN t).map trD)), .fz (trD (b, e, p)), .fz r, .fz (.bl (isRunD t r)), x9, .un, .un, .un] := by
            subst hk3
            simp only [↓dSeq, ↓dNext, ↓dBreak, ↓dCont, ↓dNever, ↓dRet, ↓dRetN, ↓dDrop, ↓dSet, ↓dIf, ↓dAug, ↓dAsg, ↓dPar, ↓dVar, ↓dMove, ↓dC, ↓dFz, ↓dUp, ↓dNil, ↓dCons, ↓dTup, ↓dLst, ↓dBin, ↓dUn, ↓dChain, ↓dTest, ↓dAnd, ↓dOr, ↓dNot, ↓dAndV, ↓dOrV, ↓dNotV, ↓dIfE, ↓dgName, ↓dgNil, ↓dgCons, ↓dgTup, ↓dIt, ↓dRng1, ↓dRng2, ↓dZip, ↓dEnum, ↓u_for, ↓u_lc, ↓dYes, ↓u_call, ↓u_callF, ↓u_callIo, ↓dCB, ↓dCBF, ↓dBinS, ↓dLenS, ↓dSl, ↓dSlS, ↓dNo, ↓dPt, ↓dStL, ↓dApp, ↓dExt, ↓dJoin, ↓dRg1, ↓dRg2, ↓dTupRg, ↓dLstRg, ↓oSub, ↓oMulI, ↓oMul, ↓oFdiv, ↓oMod, ↓oPow, ↓oShr, ↓oXor, ↓oNeg, ↓oAdd, ↓oAug, ↓oLt, ↓oLe, ↓oGt, ↓oGe, ↓oI, ↓oIx, ↓oLen, ↓oInt, ↓oOrd, ↓oAbs, ↓oStL, ↓oIn, ↓oNin, ↓oInB, ↓isi_int, ↓isi_int_bl, ↓isi_int_str, ↓isi_int_tup, ↓isi_int_lst, ↓isi_str, ↓isi_str_int, ↓isi_tup, ↓isi_tup_int, ↓isi_tup_str, ↓isi_tup_lst, ↓isi_lst, ↓isi_lst_tup, ↓isi_lst_int, ↓isi_lst_str, ↓cv, ↓Cell.val, ↓Cell.up, ↓Cell.own, ↓lenD, ↓itemsOf, List.getElem?_cons_zero, List.getElem?_cons_succ, List.set_cons_zero, List.set_cons_succ, Option.bind_some, Option.isSome_some, List.length_cons, List.length_nil, true_and, and_true, ↓ixN_lit, ↓atI_lit, ↓reduceIte, Nat.reduceAdd, Nat.reduceLT, Nat.reduceSub, Nat.zero_add, Nat.reduceLeDiff, Nat.lt_add_one, Nat.zero_lt_succ, ↓oEq_int, ↓oNe_int, ↓oEq_str, ↓oNe_str, ↓oEq_bl, ↓oNe_bl, decide_eq_true_eq, Bool.false_eq_true, ↓u_while, ↓ownAt, List.all_cons, List.all_nil, Bool.and_true, List.getD_cons_zero, List.getD_cons_succ, Bool.not_false, ↓oLe_sign, ↓oMulS, ↓dDic, ↓dLock, ↓dGetS, ↓dStD, ↓dInS, ↓oInD, ↓dKeys, ↓dGet1, ↓dGet2, ↓dRev, ↓dMulL, ↓dCount, ↓dScrSl, ↓dScrLen, ↓dScrList, ↓oStrI]
            refine ⟨rfl, onF (t, trD (b, e, p)) rfl ⟨sg, by show t.length ≤ 2000; omega, (odd_tup (odd_tri (b, e, p))).k⟩ ?_⟩
            simp only [isRunD_tri, decide_eq_true hr, oIsN, ↓dSeq, ↓dNext, ↓dBreak, ↓dCont, ↓dNever, ↓dRet, ↓dRetN, ↓dDrop, ↓dSet, ↓dIf, ↓dAug, ↓dAsg, ↓dPar, ↓dVar, ↓dMove, ↓dC, ↓dFz, ↓dUp, ↓dNil, ↓dCons, ↓dTup, ↓dLst, ↓dBin, ↓dUn, ↓dChain, ↓dTest, ↓dAnd, ↓dOr, ↓dNot, ↓dAndV, ↓dOrV, ↓dNotV, ↓dIfE, ↓dgName, ↓dgNil, ↓dgCons, ↓dgTup, ↓dIt, ↓dRng1, ↓dRng2, ↓dZip, ↓dEnum, ↓u_for, ↓u_lc, ↓dYes, ↓u_call, ↓u_callF, ↓u_callIo, ↓dCB, ↓dCBF, ↓dBinS, ↓dLenS, ↓dSl, ↓dSlS, ↓dNo, ↓dPt, ↓dStL, ↓dApp, ↓dExt, ↓dJoin, ↓dRg1, ↓dRg2, ↓dTupRg, ↓dLstRg, ↓oSub, ↓oMulI, ↓oMul, ↓oFdiv, ↓oMod, ↓oPow, ↓oShr, ↓oXor, ↓oNeg, ↓oAdd, ↓oAug, ↓oLt, ↓oLe, ↓oGt, ↓oGe, ↓oI, ↓oIx, ↓oLen, ↓oInt, ↓oOrd, ↓oAbs, ↓oStL, ↓oIn, ↓oNin, ↓oInB, ↓isi_int, ↓isi_int_bl, ↓isi_int_str, ↓isi_int_tup, ↓isi_int_lst, ↓isi_str, ↓isi_str_int, ↓isi_tup, ↓isi_tup_int, ↓isi_tup_str, ↓isi_tup_lst, ↓isi_lst, ↓isi_lst_tup, ↓isi_lst_int, ↓isi_lst_str, ↓cv, ↓Cell.val, ↓Cell.up, ↓Cell.own, ↓lenD, ↓itemsOf, List.getElem?_cons_zero, List.getElem?_cons_succ, List.set_cons_zero, List.set_cons_succ, Option.bind_some, Option.isSome_some, List.length_cons, List.length_nil, true_and, and_true, ↓ixN_lit, ↓atI_lit, ↓reduceIte, Nat.reduceAdd, Nat.reduceLT, Nat.reduceSub, Nat.zero_add, Nat.reduceLeDiff, Nat.lt_add_one, Nat.zero_lt_succ, ↓oEq_int, ↓oNe_int, ↓oEq_str, ↓oNe_str, ↓oEq_bl, ↓oNe_bl, decide_eq_true_eq, Bool.false_eq_true, ↓u_while, ↓ownAt, List.all_cons, List.all_nil, Bool.and_true, List.getD_cons_zero, List.getD_cons_succ, Bool.not_false, ↓oLe_sign, ↓oMulS, ↓dDic, ↓dLock, ↓dGetS, ↓dStD, ↓dInS, ↓oInD, ↓dKeys, ↓dGet1, ↓dGet2, ↓dRev, ↓dMulL, ↓dCount, ↓dScrSl, ↓dScrLen, ↓dScrList, ↓oStrI]
            refine ⟨rfl, onF (t, r) rfl ⟨sg, by show t.length ≤ 2000; omega, odd.k⟩ ?_⟩
            simp only [↓dSeq, ↓dNext, ↓dBreak, ↓dCont, ↓dNever, ↓dRet, ↓dRetN, ↓dDrop, ↓dSet, ↓dIf, ↓dAug, ↓dAsg, ↓dPar, ↓dVar, ↓dMove, ↓dC, ↓dFz, ↓dUp, ↓dNil, ↓dCons, ↓dTup, ↓dLst, ↓dBin, ↓dUn, ↓dChain, ↓dTest, ↓dAnd, ↓dOr, ↓dNot, ↓dAndV, ↓dOrV, ↓dNotV, ↓dIfE, ↓dgName, ↓dgNil, ↓dgCons, ↓dgTup, ↓dIt, ↓dRng1, ↓dRng2, ↓dZip, ↓dEnum, ↓u_for, ↓u_lc, ↓dYes, ↓u_call, ↓u_callF, ↓u_callIo, ↓dCB, ↓dCBF, ↓dBinS, ↓dLenS, ↓dSl, ↓dSlS, ↓dNo, ↓dPt, ↓dStL, ↓dApp, ↓dExt, ↓dJoin, ↓dRg1, ↓dRg2, ↓dTupRg, ↓dLstRg, ↓oSub, ↓oMulI, ↓oMul, ↓oFdiv, ↓oMod, ↓oPow, ↓oShr, ↓oXor, ↓oNeg, ↓oAdd, ↓oAug, ↓oLt, ↓oLe, ↓oGt, ↓oGe, ↓oI, ↓oIx, ↓oLen, ↓oInt, ↓oOrd, ↓oAbs, ↓oStL, ↓oIn, ↓oNin, ↓oInB, ↓isi_int, ↓isi_int_bl, ↓isi_int_str, ↓isi_int_tup, ↓isi_int_lst, ↓isi_str, ↓isi_str_int, ↓isi_tup, ↓isi_tup_int, ↓isi_tup_str, ↓isi_tup_lst, ↓isi_lst, ↓isi_lst_tup, ↓isi_lst_int, ↓isi_lst_str, ↓cv, ↓Cell.val, ↓Cell.up, ↓Cell.own, ↓lenD, ↓itemsOf, List.getElem?_cons_zero, List.getElem?_cons_succ, List.set_cons_zero, List.set_cons_succ, Option.bind_some, Option.isSome_some, List.length_cons, List.length_nil, true_and, and_true, ↓ixN_lit, ↓atI_lit, ↓reduceIte, Nat.reduceAdd, Nat.reduceLT, Nat.reduceSub, Nat.zero_add, Nat.reduceLeDiff, Nat.lt_add_one, Nat.zero_lt_succ, ↓oEq_int, ↓oNe_int, ↓oEq_str, ↓oNe_str, ↓oEq_bl, ↓oNe_bl, decide_eq_true_eq, Bool.false_eq_true, ↓u_while, ↓ownAt, List.all_cons, List.all_nil, Bool.and_true, List.getD_cons_zero, List.getD_cons_succ, Bool.not_false, ↓oLe_sign, ↓oMulS, ↓dDic, ↓dLock, ↓dGetS, ↓dStD, ↓dInS, ↓oInD, ↓dKeys, ↓dGet1, ↓dGet2, ↓dRev, ↓dMulL, ↓dCount, ↓dScrSl, ↓dScrLen, ↓dScrList, ↓oStrI]
            refine ⟨rfl, onF (isRunD t r, isRunD t r) rfl trivial ?_⟩
            simp only [↓dSeq, ↓dNext, ↓dBreak, ↓dCont, ↓dNever, ↓dRet, ↓dRetN, ↓dDrop, ↓dSet, ↓dIf, ↓dAug, ↓dAsg, ↓dPar, ↓dVar, ↓dMove, ↓dC, ↓dFz, ↓dUp, ↓dNil, ↓dCons, ↓dTup, ↓dLst, ↓dBin, ↓dUn, ↓dChain, ↓dTest, ↓dAnd, ↓dOr, ↓dNot, ↓dAndV, ↓dOrV, ↓dNotV, ↓dIfE, ↓dgName, ↓dgNil, ↓dgCons, ↓dgTup, ↓dIt, ↓dRng1, ↓dRng2, ↓dZip, ↓dEnum, ↓u_for, ↓u_lc, ↓dYes, ↓u_call, ↓u_callF, ↓u_callIo, ↓dCB, ↓dCBF, ↓dBinS, ↓dLenS, ↓dSl, ↓dSlS, ↓dNo, ↓dPt, ↓dStL, ↓dApp, ↓dExt, ↓dJoin, ↓dRg1, ↓dRg2, ↓dTupRg, ↓dLstRg, ↓oSub, ↓oMulI, ↓oMul, ↓oFdiv, ↓oMod, ↓oPow, ↓oShr, ↓oXor, ↓oNeg, ↓oAdd, ↓oAug, ↓oLt, ↓oLe, ↓oGt, ↓oGe, ↓oI, ↓oIx, ↓oLen, ↓oInt, ↓oOrd, ↓oAbs, ↓oStL, ↓oIn, ↓oNin, ↓oInB, ↓isi_int, ↓isi_int_bl, ↓isi_int_str, ↓isi_int_tup, ↓isi_int_lst, ↓isi_str, ↓isi_str_int, ↓isi_tup, ↓isi_tup_int, ↓isi_tup_str, ↓isi_tup_lst, ↓isi_lst, ↓isi_lst_tup, ↓isi_lst_int, ↓isi_lst_str, ↓cv, ↓Cell.val, ↓Cell.up, ↓Cell.own, ↓lenD, ↓itemsOf, List.getElem?_cons_zero, List.getElem?_cons_succ, List.set_cons_zero, List.set_cons_succ, Option.bind_some, Option.isSome_some, List.length_cons, List.length_nil, true_and, and_true, ↓ixN_lit, ↓atI_lit, ↓reduceIte, Nat.reduceAdd, Nat.reduceLT, Nat.reduceSub, Nat.zero_add, Nat.reduceLeDiff, Nat.lt_add_one, Nat.zero_lt_succ, ↓oEq_int, ↓oNe_int, ↓oEq_str, ↓oNe_str, ↓oEq_bl, ↓oNe_bl, decide_eq_true_eq, Bool.false_eq_true, ↓u_while, ↓ownAt, List.all_cons, List.all_nil, Bool.and_true, List.getD_cons_zero, List.getD_cons_succ, Bool.not_false, ↓oLe_sign, ↓oMulS, ↓dDic, ↓dLock, ↓dGetS, ↓dStD, ↓dInS, ↓oInD, ↓dKeys, ↓dGet1, ↓dGet2, ↓dRev, ↓dMulL, ↓dCount, ↓dScrSl, ↓dScrLen, ↓dScrList, ↓oStrI, beq_self_eq_true]
            exact hk2 _ ⟨h5, _, _, _, ok5, rfl⟩
          have no : ∀ {Q : D → Env → Prop} {ρ : Env}, (∀ xs, r ≠ .tup xs) → Q (.bl (isRunD t r)) ρ → Q (.bl false) ρ := fun h q => by
            rw [due_no h] at q
            exact q
          cases odd.k.1 with
          | non =>
            rw [due_no (by intro xs z; cases z)] at fin
            simp only [oIsi, tyN, isiB, ↓dSeq, ↓dNext, ↓dBreak, ↓dCont, ↓dNever, ↓dRet, ↓dRetN, ↓dDrop, ↓dSet, ↓dIf, ↓dAug, ↓dAsg, ↓dPar, ↓dVar, ↓dMove, ↓dC, ↓dFz, ↓dUp, ↓dNil, ↓dCons, ↓dTup, ↓dLst, ↓dBin, ↓dUn, ↓dChain, ↓dTest, ↓dAnd, ↓dOr, ↓dNot, ↓dAndV, ↓dOrV, ↓dNotV, ↓dIfE, ↓dgName, ↓dgNil, ↓dgCons, ↓dgTup, ↓dIt, ↓dRng1, ↓dRng2, ↓dZip, ↓dEnum, ↓u_for, ↓u_lc, ↓dYes, ↓u_call, ↓u_callF, ↓u_callIo, ↓dCB, ↓dCBF, ↓dBinS, ↓dLenS, ↓dSl, ↓dSlS, ↓dNo, ↓dPt, ↓dStL, ↓dApp, ↓dExt, ↓dJoin, ↓dRg1, ↓dRg2, ↓dTupRg, ↓dLstRg, ↓oSub, ↓oMulI, ↓oMul, ↓oFdiv, ↓oMod, ↓oPow, ↓oShr, ↓oXor, ↓oNeg, ↓oAdd, ↓oAug, ↓oLt, ↓oLe, ↓oGt, ↓oGe, ↓oI, ↓oIx, ↓oLen, ↓oInt, ↓oOrd, ↓oAbs, ↓oStL, ↓oIn, ↓oNin, ↓oInB, ↓isi_int, ↓isi_int_bl, ↓isi_int_str, ↓isi_int_tup, ↓isi_int_lst, ↓isi_str, ↓isi_str_int, ↓isi_tup, ↓isi_tup_int, ↓isi_tup_str, ↓isi_tup_lst, ↓isi_lst, ↓isi_lst_tup, ↓isi_lst_int, ↓isi_lst_str, ↓cv, ↓Cell.val, ↓Cell.up, ↓Cell.own, ↓lenD, ↓itemsOf, List.getElem?_cons_zero, List.getElem?_cons_succ, List.set_cons_zero, List.set_cons_succ, Option.bind_some, Option.isSome_some, List.length_cons, List.length_nil, true_and, and_true, ↓ixN_lit, ↓atI_lit, ↓reduceIte, Nat.reduceAdd, Nat.reduceLT, Nat.reduceSub, Nat.zero_add, Nat.reduceLeDiff, Nat.lt_add_one, Nat.zero_lt_succ, ↓oEq_int, ↓oNe_int, ↓oEq_str, ↓oNe_str, ↓oEq_bl, ↓oNe_bl, decide_eq_true_eq, Bool.false_eq_true, ↓u_while, ↓ownAt, List.all_cons, List.all_nil, Bool.and_true, List.getD_cons_zero, List.getD_cons_succ, Bool.not_false, ↓oLe_sign, ↓oMulS, ↓dDic, ↓dLock, ↓dGetS, ↓dStD, ↓dInS, ↓oInD, ↓dKeys, ↓dGet1, ↓dGet2, ↓dRev, ↓dMulL, ↓dCount, ↓dScrSl, ↓dScrLen, ↓dScrList, ↓oStrI]
            exact fin
          | bl b =>
            rw [due_no (by intro xs z; cases z)] at fin
            simp only [oIsi, tyN, isiB, ↓dSeq, ↓dNext, ↓dBreak, ↓dCont, ↓dNever, ↓dRet, ↓dRetN, ↓dDrop, ↓dSet, ↓dIf, ↓dAug, ↓dAsg, ↓dPar, ↓dVar, ↓dMove, ↓dC, ↓dFz, ↓dUp, ↓dNil, ↓dCons, ↓dTup, ↓dLst, ↓dBin, ↓dUn, ↓dChain, ↓dTest, ↓dAnd, ↓dOr, ↓dNot, ↓dAndV, ↓dOrV, ↓dNotV, ↓dIfE, ↓dgName, ↓dgNil, ↓dgCons, ↓dgTup, ↓dIt, ↓dRng1, ↓dRng2, ↓dZip, ↓dEnum, ↓u_for, ↓u_lc, ↓dYes, ↓u_call, ↓u_callF, ↓u_callIo, ↓dCB, ↓dCBF, ↓dBinS, ↓dLenS, ↓dSl, ↓dSlS, ↓dNo, ↓dPt, ↓dStL, ↓dApp, ↓dExt, ↓dJoin, ↓dRg1, ↓dRg2, ↓dTupRg, ↓dLstRg, ↓oSub, ↓oMulI, ↓oMul, ↓oFdiv, ↓oMod, ↓oPow, ↓oShr, ↓oXor, ↓oNeg, ↓oAdd, ↓oAug, ↓oLt, ↓oLe, ↓oGt, ↓oGe, ↓oI, ↓oIx, ↓oLen, ↓oInt, ↓oOrd, ↓oAbs, ↓oStL, ↓oIn, ↓oNin, ↓oInB, ↓isi_int, ↓isi_int_bl, ↓isi_int_str, ↓isi_int_tup, ↓isi_int_lst, ↓isi_str, ↓isi_str_int, ↓isi_tup, ↓isi_tup_int, ↓isi_tup_str, ↓isi_tup_lst, ↓isi_lst, ↓isi_lst_tup, ↓isi_lst_int, ↓isi_lst_str, ↓cv, ↓Cell.val, ↓Cell.up, ↓Cell.own, ↓lenD, ↓itemsOf, List.getElem?_cons_zero, List.getElem?_cons_succ, List.set_cons_zero, List.set_cons_succ, Option.bind_some, Option.isSome_some, List.length_cons, List.length_nil, true_and, and_true, ↓ixN_lit, ↓atI_lit, ↓reduceIte, Nat.reduceAdd, Nat.reduceLT, Nat.reduceSub, Nat.zero_add, Nat.reduceLeDiff, Nat.lt_add_one, Nat.zero_lt_succ, ↓oEq_int, ↓oNe_int, ↓oEq_str, ↓oNe_str, ↓oEq_bl, ↓oNe_bl, decide_eq_true_eq, Bool.false_eq_true, ↓u_while, ↓ownAt, List.all_cons, List.all_nil, Bool.and_true, List.getD_cons_zero, List.getD_cons_succ, Bool.not_false, ↓oLe_sign, ↓oMulS, ↓dDic, ↓dLock, ↓dGetS, ↓dStD, ↓dInS, ↓oInD, ↓dKeys, ↓dGet1, ↓dGet2, ↓dRev, ↓dMulL, ↓dCount, ↓dScrSl, ↓dScrLen, ↓dScrList, ↓oStrI]
            exact fin
          | int i =>
            rw [due_no (by intro xs z; cases z)] at fin
            simp only [oIsi, tyN, isiB, ↓dSeq, ↓dNext, ↓dBreak, ↓dCont, ↓dNever, ↓dRet, ↓dRetN, ↓dDrop, ↓dSet, ↓dIf, ↓dAug, ↓dAsg, ↓dPar, ↓dVar, ↓dMove, ↓dC, ↓dFz, ↓dUp, ↓dNil, ↓dCons, ↓dTup, ↓dLst, ↓dBin, ↓dUn, ↓dChain, ↓dTest, ↓dAnd, ↓dOr, ↓dNot, ↓dAndV, ↓dOrV, ↓dNotV, ↓dIfE, ↓dgName, ↓dgNil, ↓dgCons, ↓dgTup, ↓dIt, ↓dRng1, ↓dRng2, ↓dZip, ↓dEnum, ↓u_for, ↓u_lc, ↓dYes, ↓u_call, ↓u_callF, ↓u_callIo, ↓dCB, ↓dCBF, ↓dBinS, ↓dLenS, ↓dSl, ↓dSlS, ↓dNo, ↓dPt, ↓dStL, ↓dApp, ↓dExt, ↓dJoin, ↓dRg1, ↓dRg2, ↓dTupRg, ↓dLstRg, ↓oSub, ↓oMulI, ↓oMul, ↓oFdiv, ↓oMod, ↓oPow, ↓oShr, ↓oXor, ↓oNeg, ↓oAdd, ↓oAug, ↓oLt, ↓oLe, ↓oGt, ↓oGe, ↓oI, ↓oIx, ↓oLen, ↓oInt, ↓oOrd, ↓oAbs, ↓oStL, ↓oIn, ↓oNin, ↓oInB, ↓isi_int, ↓isi_int_bl, ↓isi_int_str, ↓isi_int_tup, ↓isi_int_lst, ↓isi_str, ↓isi_str_int, ↓isi_tup, ↓isi_tup_int, ↓isi_tup_str, ↓isi_tup_lst, ↓isi_lst, ↓isi_lst_tup, ↓isi_lst_int, ↓isi_lst_str, ↓cv, ↓Cell.val, ↓Cell.up, ↓Cell.own, ↓lenD, ↓itemsOf, List.getElem?_cons_zero, List.getElem?_cons_succ, List.set_cons_zero, List.set_cons_succ, Option.bind_some, Option.isSome_some, List.length_cons, List.length_nil, true_and, and_true, ↓ixN_lit, ↓atI_lit, ↓reduceIte, Nat.reduceAdd, Nat.reduceLT, Nat.reduceSub, Nat.zero_add, Nat.reduceLeDiff, Nat.lt_add_one, Nat.zero_lt_succ, ↓oEq_int, ↓oNe_int, ↓oEq_str, ↓oNe_str, ↓oEq_bl, ↓oNe_bl, decide_eq_true_eq, Bool.false_eq_true, ↓u_while, ↓ownAt, List.all_cons, List.all_nil, Bool.and_true, List.getD_cons_zero, List.getD_cons_succ, Bool.not_false, ↓oLe_sign, ↓oMulS, ↓dDic, ↓dLock, ↓dGetS, ↓dStD, ↓dInS, ↓oInD, ↓dKeys, ↓dGet1, ↓dGet2, ↓dRev, ↓dMulL, ↓dCount, ↓dScrSl, ↓dScrLen, ↓dScrList, ↓oStrI]
            exact fin
          | str l =>
            rw [due_no (by intro xs z; cases z)] at fin
            simp only [oIsi, tyN, isiB, ↓dSeq, ↓dNext, ↓dBreak, ↓dCont, ↓dNever, ↓dRet, ↓dRetN, ↓dDrop, ↓dSet, ↓dIf, ↓dAug, ↓dAsg, ↓dPar, ↓dVar, ↓dMove, ↓dC, ↓dFz, ↓dUp, ↓dNil, ↓dCons, ↓dTup, ↓dLst, ↓dBin, ↓dUn, ↓dChain, ↓dTest, ↓dAnd, ↓dOr, ↓dNot, ↓dAndV, ↓dOrV, ↓dNotV, ↓dIfE, ↓dgName, ↓dgNil, ↓dgCons, ↓dgTup, ↓dIt, ↓dRng1, ↓dRng2, ↓dZip, ↓dEnum, ↓u_for, ↓u_lc, ↓dYes, ↓u_call, ↓u_callF, ↓u_callIo, ↓dCB, ↓dCBF, ↓dBinS, ↓dLenS, ↓dSl, ↓dSlS, ↓dNo, ↓dPt, ↓dStL, ↓dApp, ↓dExt, ↓dJoin, ↓dRg1, ↓dRg2, ↓dTupRg, ↓dLstRg, ↓oSub, ↓oMulI, ↓oMul, ↓oFdiv, ↓oMod, ↓oPow, ↓oShr, ↓oXor, ↓oNeg, ↓oAdd, ↓oAug, ↓oLt, ↓oLe, ↓oGt, ↓oGe, ↓oI, ↓oIx, ↓oLen, ↓oInt, ↓oOrd, ↓oAbs, ↓oStL, ↓oIn, ↓oNin, ↓oInB, ↓isi_int, ↓isi_int_bl, ↓isi_int_str, ↓isi_int_tup, ↓isi_int_lst, ↓isi_str, ↓isi_str_int, ↓isi_tup, ↓isi_tup_int, ↓isi_tup_str, ↓isi_tup_lst, ↓isi_lst, ↓isi_lst_tup, ↓isi_lst_int, ↓isi_lst_str, ↓cv, ↓Cell.val, ↓Cell.up, ↓Cell.own, ↓lenD, ↓itemsOf, List.getElem?_cons_zero, List.getElem?_cons_succ, List.set_cons_zero, List.set_cons_succ, Option.bind_some, Option.isSome_some, List.length_cons, List.length_nil, true_and, and_true, ↓ixN_lit, ↓atI_lit, ↓reduceIte, Nat.reduceAdd, Nat.reduceLT, Nat.reduceSub, Nat.zero_add, Nat.reduceLeDiff, Nat.lt_add_one, Nat.zero_lt_succ, ↓oEq_int, ↓oNe_int, ↓oEq_str, ↓oNe_str, ↓oEq_bl, ↓oNe_bl, decide_eq_true_eq, Bool.false_eq_true, ↓u_while, ↓ownAt, List.all_cons, List.all_nil, Bool.and_true, List.getD_cons_zero, List.getD_cons_succ, Bool.not_false, ↓oLe_sign, ↓oMulS, ↓dDic, ↓dLock, ↓dGetS, ↓dStD, ↓dInS, ↓oInD, ↓dKeys, ↓dGet1, ↓dGet2, ↓dRev, ↓dMulL, ↓dCount, ↓dScrSl, ↓dScrLen, ↓dScrList, ↓oStrI]
            exact fin
          | lst xs =>
            rw [due_no (by intro xs z; cases z)] at fin
            simp only [oIsi, tyN, isiB, ↓dSeq, ↓dNext, ↓dBreak, ↓dCont, ↓dNever, ↓dRet, ↓dRetN, ↓dDrop, ↓dSet, ↓dIf, ↓dAug, ↓dAsg, ↓dPar, ↓dVar, ↓dMove, ↓dC, ↓dFz, ↓dUp, ↓dNil, ↓dCons, ↓dTup, ↓dLst, ↓dBin, ↓dUn, ↓dChain, ↓dTest, ↓dAnd, ↓dOr, ↓dNot, ↓dAndV, ↓dOrV, ↓dNotV, ↓dIfE, ↓dgName, ↓dgNil, ↓dgCons, ↓dgTup, ↓dIt, ↓dRng1, ↓dRng2, ↓dZip, ↓dEnum, ↓u_for, ↓u_lc, ↓dYes, ↓u_call, ↓u_callF, ↓u_callIo, ↓dCB, ↓dCBF, ↓dBinS, ↓dLenS, ↓dSl, ↓dSlS, ↓dNo, ↓dPt, ↓dStL, ↓dApp, ↓dExt, ↓dJoin, ↓dRg1, ↓dRg2, ↓dTupRg, ↓dLstRg, ↓oSub, ↓oMulI, ↓oMul, ↓oFdiv, ↓oMod, ↓oPow, ↓oShr, ↓oXor, ↓oNeg, ↓oAdd, ↓oAug, ↓oLt, ↓oLe, ↓oGt, ↓oGe, ↓oI, ↓oIx, ↓oLen, ↓oInt, ↓oOrd, ↓oAbs, ↓oStL, ↓oIn, ↓oNin, ↓oInB, ↓isi_int, ↓isi_int_bl, ↓isi_int_str, ↓isi_int_tup, ↓isi_int_lst, ↓isi_str, ↓isi_str_int, ↓isi_tup, ↓isi_tup_int, ↓isi_tup_str, ↓isi_tup_lst, ↓isi_lst, ↓isi_lst_tup, ↓isi_lst_int, ↓isi_lst_str, ↓cv, ↓Cell.val, ↓Cell.up, ↓Cell.own, ↓lenD, ↓itemsOf, List.getElem?_cons_zero, List.getElem?_cons_succ, List.set_cons_zero, List.set_cons_succ, Option.bind_some, Option.isSome_some, List.length_cons, List.length_nil, true_and, and_true, ↓ixN_lit, ↓atI_lit, ↓reduceIte, Nat.reduceAdd, Nat.reduceLT, Nat.reduceSub, Nat.zero_add, Nat.reduceLeDiff, Nat.lt_add_one, Nat.zero_lt_succ, ↓oEq_int, ↓oNe_int, ↓oEq_str, ↓oNe_str, ↓oEq_bl, ↓oNe_bl, decide_eq_true_eq, Bool.false_eq_true, ↓u_while, ↓ownAt, List.all_cons, List.all_nil, Bool.and_true, List.getD_cons_zero, List.getD_cons_succ, Bool.not_false, ↓oLe_sign, ↓oMulS, ↓dDic, ↓dLock, ↓dGetS, ↓dStD, ↓dInS, ↓oInD, ↓dKeys, ↓dGet1, ↓dGet2, ↓dRev, ↓dMulL, ↓dCount, ↓dScrSl, ↓dScrLen, ↓dScrList, ↓oStrI]
            exact fin
          | tup xs =>
            simp only [↓dSeq, ↓dNext, ↓dBreak, ↓dCont, ↓dNever, ↓dRet, ↓dRetN, ↓dDrop, ↓dSet, ↓dIf, ↓dAug, ↓dAsg, ↓dPar, ↓dVar, ↓dMove, ↓dC, ↓dFz, ↓dUp, ↓dNil, ↓dCons, ↓dTup, ↓dLst, ↓dBin, ↓dUn, ↓dChain, ↓dTest, ↓dAnd, ↓dOr, ↓dNot, ↓dAndV, ↓dOrV, ↓dNotV, ↓dIfE, ↓dgName, ↓dgNil, ↓dgCons, ↓dgTup, ↓dIt, ↓dRng1, ↓dRng2, ↓dZip, ↓dEnum, ↓u_for, ↓u_lc, ↓dYes, ↓u_call, ↓u_callF, ↓u_callIo, ↓dCB, ↓dCBF, ↓dBinS, ↓dLenS, ↓dSl, ↓dSlS, ↓dNo, ↓dPt, ↓dStL, ↓dApp, ↓dExt, ↓dJoin, ↓dRg1, ↓dRg2, ↓dTupRg, ↓dLstRg, ↓oSub, ↓oMulI, ↓oMul, ↓oFdiv, ↓oMod, ↓oPow, ↓oShr, ↓oXor, ↓oNeg, ↓oAdd, ↓oAug, ↓oLt, ↓oLe, ↓oGt, ↓oGe, ↓oI, ↓oIx, ↓oLen, ↓oInt, ↓oOrd, ↓oAbs, ↓oStL, ↓oIn, ↓oNin, ↓oInB, ↓isi_int, ↓isi_int_bl, ↓isi_int_str, ↓isi_int_tup, ↓isi_int_lst, ↓isi_str, ↓isi_str_int, ↓isi_tup, ↓isi_tup_int, ↓isi_tup_str, ↓isi_tup_lst, ↓isi_lst, ↓isi_lst_tup, ↓isi_lst_int, ↓isi_lst_str, ↓cv, ↓Cell.val, ↓Cell.up, ↓Cell.own, ↓lenD, ↓itemsOf, List.getElem?_cons_zero, List.getElem?_cons_succ, List.set_cons_zero, List.set_cons_succ, Option.bind_some, Option.isSome_some, List.length_cons, List.length_nil, true_and, and_true, ↓ixN_lit, ↓atI_lit, ↓reduceIte, Nat.reduceAdd, Nat.reduceLT, Nat.reduceSub, Nat.zero_add, Nat.reduceLeDiff, Nat.lt_add_one, Nat.zero_lt_succ, ↓oEq_int, ↓oNe_int, ↓oEq_str, ↓oNe_str, ↓oEq_bl, ↓oNe_bl, decide_eq_true_eq, Bool.false_eq_true, ↓u_while, ↓ownAt, List.all_cons, List.all_nil, Bool.and_true, List.getD_cons_zero, List.getD_cons_succ, Bool.not_false, ↓oLe_sign, ↓oMulS, ↓dDic, ↓dLock, ↓dGetS, ↓dStD, ↓dInS, ↓oInD, ↓dKeys, ↓dGet1, ↓dGet2, ↓dRev, ↓dMulL, ↓dCount, ↓dScrSl, ↓dScrLen, ↓dScrList, ↓oStrI]
            refine ⟨odd.pl, pls_tri _, by have := odd.dep; omega, ?_⟩
            cases ea : (((runsN t).map trD).any fun z => z.eq (.tup xs)) with
            | false =>
              rw [due_out ea] at fin
              exact fin
            | true =>
              rw [due_in (by omega) ea] at fin
              dsimp only
              refine lcB_of (lcI_inv (fun m acc ρ => ∃ x12, acc = (xs.take m).map (fun x => .bl (inWD x 0 2000)) ∧ ρ = [.un, .ow h5.d, c2, .fz (.str t), .fz (.lst ((runsN t).map trD)), .fz (.lst ((runsN t).map trD)), .fz (trD (b, e, p)), .fz (.tup xs), y8, x9, .un, .un, x12]) ?_ ?_ _ _ ⟨.un, rfl, rfl⟩)
              · rintro m3 y acc ρ kT kF hy ⟨x12, rfl, rfl⟩ hT hF
                simp only [wipeE, ↓dSeq, ↓dNext, ↓dBreak, ↓dCont, ↓dNever, ↓dRet, ↓dRetN, ↓dDrop, ↓dSet, ↓dIf, ↓dAug, ↓dAsg, ↓dPar, ↓dVar, ↓dMove, ↓dC, ↓dFz, ↓dUp, ↓dNil, ↓dCons, ↓dTup, ↓dLst, ↓dBin, ↓dUn, ↓dChain, ↓dTest, ↓dAnd, ↓dOr, ↓dNot, ↓dAndV, ↓dOrV, ↓dNotV, ↓dIfE, ↓dgName, ↓dgNil, ↓dgCons, ↓dgTup, ↓dIt, ↓dRng1, ↓dRng2, ↓dZip, ↓dEnum, ↓u_for, ↓u_lc, ↓dYes, ↓u_call, ↓u_callF, ↓u_callIo, ↓dCB, ↓dCBF, ↓dBinS, ↓dLenS, ↓dSl, ↓dSlS, ↓dNo, ↓dPt, ↓dStL, ↓dApp, ↓dExt, ↓dJoin, ↓dRg1, ↓dRg2, ↓dTupRg, ↓dLstRg, ↓oSub, ↓oMulI, ↓oMul, ↓oFdiv, ↓oMod, ↓oPow, ↓oShr, ↓oXor, ↓oNeg, ↓oAdd, ↓oAug, ↓oLt, ↓oLe, ↓oGt, ↓oGe, ↓oI, ↓oIx, ↓oLen, ↓oInt, ↓oOrd, ↓oAbs, ↓oStL, ↓oIn, ↓oNin, ↓oInB, ↓isi_int, ↓isi_int_bl, ↓isi_int_str, ↓isi_int_tup, ↓isi_int_lst, ↓isi_str, ↓isi_str_int, ↓isi_tup, ↓isi_tup_int, ↓isi_tup_str, ↓isi_tup_lst, ↓isi_lst, ↓isi_lst_tup, ↓isi_lst_int, ↓isi_lst_str, ↓cv, ↓Cell.val, ↓Cell.up, ↓Cell.own, ↓lenD, ↓itemsOf, List.getElem?_cons_zero, List.getElem?_cons_succ, List.set_cons_zero, List.set_cons_succ, Option.bind_some, Option.isSome_some, List.length_cons, List.length_nil, true_and, and_true, ↓ixN_lit, ↓atI_lit, ↓reduceIte, Nat.reduceAdd, Nat.reduceLT, Nat.reduceSub, Nat.zero_add, Nat.reduceLeDiff, Nat.lt_add_one, Nat.zero_lt_succ, ↓oEq_int, ↓oNe_int, ↓oEq_str, ↓oNe_str, ↓oEq_bl, ↓oNe_bl, decide_eq_true_eq, Bool.false_eq_true, ↓u_while, ↓ownAt, List.all_cons, List.all_nil, Bool.and_true, List.getD_cons_zero, List.getD_cons_succ, Bool.not_false, ↓oLe_sign, ↓oMulS, ↓dDic, ↓dLock, ↓dGetS, ↓dStD, ↓dInS, ↓oInD, ↓dKeys, ↓dGet1, ↓dGet2, ↓dRev, ↓dMulL, ↓dCount, ↓dScrSl, ↓dScrLen, ↓dScrList, ↓oStrI]
                refine ⟨rfl, onF (y, 0, 2000) rfl (odd.k.2 _ rfl y (List.mem_of_getElem? hy)) ?_⟩
                simp only [↓dSeq, ↓dNext, ↓dBreak, ↓dCont, ↓dNever, ↓dRet, ↓dRetN, ↓dDrop, ↓dSet, ↓dIf, ↓dAug, ↓dAsg, ↓dPar, ↓dVar, ↓dMove, ↓dC, ↓dFz, ↓dUp, ↓dNil, ↓dCons, ↓dTup, ↓dLst, ↓dBin, ↓dUn, ↓dChain, ↓dTest, ↓dAnd, ↓dOr, ↓dNot, ↓dAndV, ↓dOrV, ↓dNotV, ↓dIfE, ↓dgName, ↓dgNil, ↓dgCons, ↓dgTup, ↓dIt, ↓dRng1, ↓dRng2, ↓dZip, ↓dEnum, ↓u_for, ↓u_lc, ↓dYes, ↓u_call, ↓u_callF, ↓u_callIo, ↓dCB, ↓dCBF, ↓dBinS, ↓dLenS, ↓dSl, ↓dSlS, ↓dNo, ↓dPt, ↓dStL, ↓dApp, ↓dExt, ↓dJoin, ↓dRg1, ↓dRg2, ↓dTupRg, ↓dLstRg, ↓oSub, ↓oMulI, ↓oMul, ↓oFdiv, ↓oMod, ↓oPow, ↓oShr, ↓oXor, ↓oNeg, ↓oAdd, ↓oAug, ↓oLt, ↓oLe, ↓oGt, ↓oGe, ↓oI, ↓oIx, ↓oLen, ↓oInt, ↓oOrd, ↓oAbs, ↓oStL, ↓oIn, ↓oNin, ↓oInB, ↓isi_int, ↓isi_int_bl, ↓isi_int_str, ↓isi_int_tup, ↓isi_int_lst, ↓isi_str, ↓isi_str_int, ↓isi_tup, ↓isi_tup_int, ↓isi_tup_str, ↓isi_tup_lst, ↓isi_lst, ↓isi_lst_tup, ↓isi_lst_int, ↓isi_lst_str, ↓cv, ↓Cell.val, ↓Cell.up, ↓Cell.own, ↓lenD, ↓itemsOf, List.getElem?_cons_zero, List.getElem?_cons_succ, List.set_cons_zero, List.set_cons_succ, Option.bind_some, Option.isSome_some, List.length_cons, List.length_nil, true_and, and_true, ↓ixN_lit, ↓atI_lit, ↓reduceIte, Nat.reduceAdd, Nat.reduceLT, Nat.reduceSub, Nat.zero_add, Nat.reduceLeDiff, Nat.lt_add_one, Nat.zero_lt_succ, ↓oEq_int, ↓oNe_int, ↓oEq_str, ↓oNe_str, ↓oEq_bl, ↓oNe_bl, decide_eq_true_eq, Bool.false_eq_true, ↓u_while, ↓ownAt, List.all_cons, List.all_nil, Bool.and_true, List.getD_cons_zero, List.getD_cons_succ, Bool.not_false, ↓oLe_sign, ↓oMulS, ↓dDic, ↓dLock, ↓dGetS, ↓dStD, ↓dInS, ↓oInD, ↓dKeys, ↓dGet1, ↓dGet2, ↓dRev, ↓dMulL, ↓dCount, ↓dScrSl, ↓dScrLen, ↓dScrList, ↓oStrI]
                refine hT _ _ ⟨_, ?_, rfl⟩
                rw [take_snoc hy, List.map_append]
                rfl
              · rintro acc ρ ⟨x12, rfl, rfl⟩
                rw [List.take_length]
                simp only [restE, ↓dSeq, ↓dNext, ↓dBreak, ↓dCont, ↓dNever, ↓dRet, ↓dRetN, ↓dDrop, ↓dSet, ↓dIf, ↓dAug, ↓dAsg, ↓dPar, ↓dVar, ↓dMove, ↓dC, ↓dFz, ↓dUp, ↓dNil, ↓dCons, ↓dTup, ↓dLst, ↓dBin, ↓dUn, ↓dChain, ↓dTest, ↓dAnd, ↓dOr, ↓dNot, ↓dAndV, ↓dOrV, ↓dNotV, ↓dIfE, ↓dgName, ↓dgNil, ↓dgCons, ↓dgTup, ↓dIt, ↓dRng1, ↓dRng2, ↓dZip, ↓dEnum, ↓u_for, ↓u_lc, ↓dYes, ↓u_call, ↓u_callF, ↓u_callIo, ↓dCB, ↓dCBF, ↓dBinS, ↓dLenS, ↓dSl, ↓dSlS, ↓dNo, ↓dPt, ↓dStL, ↓dApp, ↓dExt, ↓dJoin, ↓dRg1, ↓dRg2, ↓dTupRg, ↓dLstRg, ↓oSub, ↓oMulI, ↓oMul, ↓oFdiv, ↓oMod, ↓oPow, ↓oShr, ↓oXor, ↓oNeg, ↓oAdd, ↓oAug, ↓oLt, ↓oLe, ↓oGt, ↓oGe, ↓oI, ↓oIx, ↓oLen, ↓oInt, ↓oOrd, ↓oAbs, ↓oStL, ↓oIn, ↓oNin, ↓oInB, ↓isi_int, ↓isi_int_bl, ↓isi_int_str, ↓isi_int_tup, ↓isi_int_lst, ↓isi_str, ↓isi_str_int, ↓isi_tup, ↓isi_tup_int, ↓isi_tup_str, ↓isi_tup_lst, ↓isi_lst, ↓isi_lst_tup, ↓isi_lst_int, ↓isi_lst_str, ↓cv, ↓Cell.val, ↓Cell.up, ↓Cell.own, ↓lenD, ↓itemsOf, List.getElem?_cons_zero, List.getElem?_cons_succ, List.set_cons_zero, List.set_cons_succ, Option.bind_some, Option.isSome_some, List.length_cons, List.length_nil, true_and, and_true, ↓ixN_lit, ↓atI_lit, ↓reduceIte, Nat.reduceAdd, Nat.reduceLT, Nat.reduceSub, Nat.zero_add, Nat.reduceLeDiff, Nat.lt_add_one, Nat.zero_lt_succ, ↓oEq_int, ↓oNe_int, ↓oEq_str, ↓oNe_str, ↓oEq_bl, ↓oNe_bl, decide_eq_true_eq, Bool.false_eq_true, ↓u_while, ↓ownAt, List.all_cons, List.all_nil, Bool.and_true, List.getD_cons_zero, List.getD_cons_succ, Bool.not_false, ↓oLe_sign, ↓oMulS, ↓dDic, ↓dLock, ↓dGetS, ↓dStD, ↓dInS, ↓oInD, ↓dKeys, ↓dGet1, ↓dGet2, ↓dRev, ↓dMulL, ↓dCount, ↓dScrSl, ↓dScrLen, ↓dScrList, ↓oStrI, oAll, boolsOf_map]
                rw [List.all_map]
                exact fin
        · rintro ρ ⟨h4, y6, y7, y8, ok4, rfl⟩
          simp only [↓dSeq, ↓dNext, ↓dBreak, ↓dCont, ↓dNever, ↓dRet, ↓dRetN, ↓dDrop, ↓dSet, ↓dIf, ↓dAug, ↓dAsg, ↓dPar, ↓dVar, ↓dMove, ↓dC, ↓dFz, ↓dUp, ↓dNil, ↓dCons, ↓dTup, ↓dLst, ↓dBin, ↓dUn, ↓dChain, ↓dTest, ↓dAnd, ↓dOr, ↓dNot, ↓dAndV, ↓dOrV, ↓dNotV, ↓dIfE, ↓dgName, ↓dgNil, ↓dgCons, ↓dgTup, ↓dIt, ↓dRng1, ↓dRng2, ↓dZip, ↓dEnum, ↓u_for, ↓u_lc, ↓dYes, ↓u_call, ↓u_callF, ↓u_callIo, ↓dCB, ↓dCBF, ↓dBinS, ↓dLenS, ↓dSl, ↓dSlS, ↓dNo, ↓dPt, ↓dStL, ↓dApp, ↓dExt, ↓dJoin, ↓dRg1, ↓dRg2, ↓dTupRg, ↓dLstRg, ↓oSub, ↓oMulI, ↓oMul, ↓oFdiv, ↓oMod, ↓oPow, ↓oShr, ↓oXor, ↓oNeg, ↓oAdd, ↓oAug, ↓oLt, ↓oLe, ↓oGt, ↓oGe, ↓oI, ↓oIx, ↓oLen, ↓oInt, ↓oOrd, ↓oAbs, ↓oStL, ↓oIn, ↓oNin, ↓oInB, ↓isi_int, ↓isi_int_bl, ↓isi_int_str, ↓isi_int_tup, ↓isi_int_lst, ↓isi_str, ↓isi_str_int, ↓isi_tup, ↓isi_tup_int, ↓isi_tup_str, ↓isi_tup_lst, ↓isi_lst, ↓isi_lst_tup, ↓isi_lst_int, ↓isi_lst_str, ↓cv, ↓Cell.val, ↓Cell.up, ↓Cell.own, ↓lenD, ↓itemsOf, List.getElem?_cons_zero, List.getElem?_cons_succ, List.set_cons_zero, List.set_cons_succ, Option.bind_some, Option.isSome_some, List.length_cons, List.length_nil, true_and, and_true, ↓ixN_lit, ↓atI_lit, ↓reduceIte, Nat.reduceAdd, Nat.reduceLT, Nat.reduceSub, Nat.zero_add, Nat.reduceLeDiff, Nat.lt_add_one, Nat.zero_lt_succ, ↓oEq_int, ↓oNe_int, ↓oEq_str, ↓oNe_str, ↓oEq_bl, ↓oNe_bl, decide_eq_true_eq, Bool.false_eq_true, ↓u_while, ↓ownAt, List.all_cons, List.all_nil, Bool.and_true, List.getD_cons_zero, List.getD_cons_succ, Bool.not_false, ↓oLe_sign, ↓oMulS, ↓dDic, ↓dLock, ↓dGetS, ↓dStD, ↓dInS, ↓oInD, ↓dKeys, ↓dGet1, ↓dGet2, ↓dRev, ↓dMulL, ↓dCount, ↓dScrSl, ↓dScrLen, ↓dScrList, ↓oStrI]
          subst hk
          simp only [↓dSeq, ↓dNext, ↓dBreak, ↓dCont, ↓dNever, ↓dRet, ↓dRetN, ↓dDrop, ↓dSet, ↓dIf, ↓dAug, ↓dAsg, ↓dPar, ↓dVar, ↓dMove, ↓dC, ↓dFz, ↓dUp, ↓dNil, ↓dCons, ↓dTup, ↓dLst, ↓dBin, ↓dUn, ↓dChain, ↓dTest, ↓dAnd, ↓dOr, ↓dNot, ↓dAndV, ↓dOrV, ↓dNotV, ↓dIfE, ↓dgName, ↓dgNil, ↓dgCons, ↓dgTup, ↓dIt, ↓dRng1, ↓dRng2, ↓dZip, ↓dEnum, ↓u_for, ↓u_lc, ↓dYes, ↓u_call, ↓u_callF, ↓u_callIo, ↓dCB, ↓dCBF, ↓dBinS, ↓dLenS, ↓dSl, ↓dSlS, ↓dNo, ↓dPt, ↓dStL, ↓dApp, ↓dExt, ↓dJoin, ↓dRg1, ↓dRg2, ↓dTupRg, ↓dLstRg, ↓oSub, ↓oMulI, ↓oMul, ↓oFdiv, ↓oMod, ↓oPow, ↓oShr, ↓oXor, ↓oNeg, ↓oAdd, ↓oAug, ↓oLt, ↓oLe, ↓oGt, ↓oGe, ↓oI, ↓oIx, ↓oLen, ↓oInt, ↓oOrd, ↓oAbs, ↓oStL, ↓oIn, ↓oNin, ↓oInB, ↓isi_int, ↓isi_int_bl, ↓isi_int_str, ↓isi_int_tup, ↓isi_int_lst, ↓isi_str, ↓isi_str_int, ↓isi_tup, ↓isi_tup_int, ↓isi_tup_str, ↓isi_tup_lst, ↓isi_lst, ↓isi_lst_tup, ↓isi_lst_int, ↓isi_lst_str, ↓cv, ↓Cell.val, ↓Cell.up, ↓Cell.own, ↓lenD, ↓itemsOf, List.getElem?_cons_zero, List.getElem?_cons_succ, List.set_cons_zero, List.set_cons_succ, Option.bind_some, Option.isSome_some, List.length_cons, List.length_nil, true_and, and_true, ↓ixN_lit, ↓atI_lit, ↓reduceIte, Nat.reduceAdd, Nat.reduceLT, Nat.reduceSub, Nat.zero_add, Nat.reduceLeDiff, Nat.lt_add_one, Nat.zero_lt_succ, ↓oEq_int, ↓oNe_int, ↓oEq_str, ↓oNe_str, ↓oEq_bl, ↓oNe_bl, decide_eq_true_eq, Bool.false_eq_true, ↓u_while, ↓ownAt, List.all_cons, List.all_nil, Bool.and_true, List.getD_cons_zero, List.getD_cons_succ, Bool.not_false, ↓oLe_sign, ↓oMulS, ↓dDic, ↓dLock, ↓dGetS, ↓dStD, ↓dInS, ↓oInD, ↓dKeys, ↓dGet1, ↓dGet2, ↓dRev, ↓dMulL, ↓dCount, ↓dScrSl, ↓dScrLen, ↓dScrList, ↓oStrI]
          refine ⟨cmul_l (by decide) (by decide), by split <;> decide, by split <;> decide, ?_⟩
          refine forB_of (forN_inv (fun m3 ρ => ∃ (h5 : Hand) (y9 : Cell), h5.Ok ∧ ρ = [.un, .ow h5.d, c2, .fz (.str t), .fz (.lst ((runsN t).map trD)), .fz (.lst ((runsN t).map trD)), y6, y7, y8, y9, .un, .un, .un]) ?_ ?_ _ ⟨h4, x9, ok4, rfl⟩)
          · rintro m3 ρ k4 hm3 ⟨h5, y9, ok5, rfl⟩ hk4
            have ht : t ≠ [] := by
              intro z
              rw [if_neg (fun w => w z)] at hm3
              exact absurd hm3 (Nat.not_lt_zero m3)
            simp only [↓dSeq, ↓dNext, ↓dBreak, ↓dCont, ↓dNever, ↓dRet, ↓dRetN, ↓dDrop, ↓dSet, ↓dIf, ↓dAug, ↓dAsg, ↓dPar, ↓dVar, ↓dMove, ↓dC, ↓dFz, ↓dUp, ↓dNil, ↓dCons, ↓dTup, ↓dLst, ↓dBin, ↓dUn, ↓dChain, ↓dTest, ↓dAnd, ↓dOr, ↓dNot, ↓dAndV, ↓dOrV, ↓dNotV, ↓dIfE, ↓dgName, ↓dgNil, ↓dgCons, ↓dgTup, ↓dIt, ↓dRng1, ↓dRng2, ↓dZip, ↓dEnum, ↓u_for, ↓u_lc, ↓dYes, ↓u_call, ↓u_callF, ↓u_callIo, ↓dCB, ↓dCBF, ↓dBinS, ↓dLenS, ↓dSl, ↓dSlS, ↓dNo, ↓dPt, ↓dStL, ↓dApp, ↓dExt, ↓dJoin, ↓dRg1, ↓dRg2, ↓dTupRg, ↓dLstRg, ↓oSub, ↓oMulI, ↓oMul, ↓oFdiv, ↓oMod, ↓oPow, ↓oShr, ↓oXor, ↓oNeg, ↓oAdd, ↓oAug, ↓oLt, ↓oLe, ↓oGt, ↓oGe, ↓oI, ↓oIx, ↓oLen, ↓oInt, ↓oOrd, ↓oAbs, ↓oStL, ↓oIn, ↓oNin, ↓oInB, ↓isi_int, ↓isi_int_bl, ↓isi_int_str, ↓isi_int_tup, ↓isi_int_lst, ↓isi_str, ↓isi_str_int, ↓isi_tup, ↓isi_tup_int, ↓isi_tup_str, ↓isi_tup_lst, ↓isi_lst, ↓isi_lst_tup, ↓isi_lst_int, ↓isi_lst_str, ↓cv, ↓Cell.val, ↓Cell.up, ↓Cell.own, ↓lenD, ↓itemsOf, List.getElem?_cons_zero, List.getElem?_cons_succ, List.set_cons_zero, List.set_cons_succ, Option.bind_some, Option.isSome_some, List.length_cons, List.length_nil, true_and, and_true, ↓ixN_lit, ↓atI_lit, ↓reduceIte, Nat.reduceAdd, Nat.reduceLT, Nat.reduceSub, Nat.zero_add, Nat.reduceLeDiff, Nat.lt_add_one, Nat.zero_lt_succ, ↓oEq_int, ↓oNe_int, ↓oEq_str, ↓oNe_str, ↓oEq_bl, ↓oNe_bl, decide_eq_true_eq, Bool.false_eq_true, ↓u_while, ↓ownAt, List.all_cons, List.all_nil, Bool.and_true, List.getD_cons_zero, List.getD_cons_succ, Bool.not_false, ↓oLe_sign, ↓oMulS, ↓dDic, ↓dLock, ↓dGetS, ↓dStD, ↓dInS, ↓oInD, ↓dKeys, ↓dGet1, ↓dGet2, ↓dRev, ↓dMulL, ↓dCount, ↓dScrSl, ↓dScrLen, ↓dScrList, ↓oStrI]
            refine ⟨rfl, onM (h5, t) rfl ⟨ok5, List.length_pos_iff.mpr ht, by show t.length ≤ 1000; omega⟩ ?_⟩
            rintro r os ⟨h6, ok6, rfl, rfl⟩
            simp only [ioB, wipeE, fr_lies, ↓dSeq, ↓dNext, ↓dBreak, ↓dCont, ↓dNever, ↓dRet, ↓dRetN, ↓dDrop, ↓dSet, ↓dIf, ↓dAug, ↓dAsg, ↓dPar, ↓dVar, ↓dMove, ↓dC, ↓dFz, ↓dUp, ↓dNil, ↓dCons, ↓dTup, ↓dLst, ↓dBin, ↓dUn, ↓dChain, ↓dTest, ↓dAnd, ↓dOr, ↓dNot, ↓dAndV, ↓dOrV, ↓dNotV, ↓dIfE, ↓dgName, ↓dgNil, ↓dgCons, ↓dgTup, ↓dIt, ↓dRng1, ↓dRng2, ↓dZip, ↓dEnum, ↓u_for, ↓u_lc, ↓dYes, ↓u_call, ↓u_callF, ↓u_callIo, ↓dCB, ↓dCBF, ↓dBinS, ↓dLenS, ↓dSl, ↓dSlS, ↓dNo, ↓dPt, ↓dStL, ↓dApp, ↓dExt, ↓dJoin, ↓dRg1, ↓dRg2, ↓dTupRg, ↓dLstRg, ↓oSub, ↓oMulI, ↓oMul, ↓oFdiv, ↓oMod, ↓oPow, ↓oShr, ↓oXor, ↓oNeg, ↓oAdd, ↓oAug, ↓oLt, ↓oLe, ↓oGt, ↓oGe, ↓oI, ↓oIx, ↓oLen, ↓oInt, ↓oOrd, ↓oAbs, ↓oStL, ↓oIn, ↓oNin, ↓oInB, ↓isi_int, ↓isi_int_bl, ↓isi_int_str, ↓isi_int_tup, ↓isi_int_lst, ↓isi_str, ↓isi_str_int, ↓isi_tup, ↓isi_tup_int, ↓isi_tup_str, ↓isi_tup_lst, ↓isi_lst, ↓isi_lst_tup, ↓isi_lst_int, ↓isi_lst_str, ↓cv, ↓Cell.val, ↓Cell.up, ↓Cell.own, ↓lenD, ↓itemsOf, List.getElem?_cons_zero, List.getElem?_cons_succ, List.set_cons_zero, List.set_cons_succ, Option.bind_some, Option.isSome_some, List.length_cons, List.length_nil, true_and, and_true, ↓ixN_lit, ↓atI_lit, ↓reduceIte, Nat.reduceAdd, Nat.reduceLT, Nat.reduceSub, Nat.zero_add, Nat.reduceLeDiff, Nat.lt_add_one, Nat.zero_lt_succ, ↓oEq_int, ↓oNe_int, ↓oEq_str, ↓oNe_str, ↓oEq_bl, ↓oNe_bl, decide_eq_true_eq, Bool.false_eq_true, ↓u_while, ↓ownAt, List.all_cons, List.all_nil, Bool.and_true, List.getD_cons_zero, List.getD_cons_succ, Bool.not_false, ↓oLe_sign, ↓oMulS, ↓dDic, ↓dLock, ↓dGetS, ↓dStD, ↓dInS, ↓oInD, ↓dKeys, ↓dGet1, ↓dGet2, ↓dRev, ↓dMulL, ↓dCount, ↓dScrSl, ↓dScrLen, ↓dScrList, ↓oStrI]
            exact hk4 _ ⟨h6, _, ok6, rfl⟩
          · rintro ρ ⟨h5, y9, ok5, rfl⟩
            exact hkn _ ⟨h5, _, _, _, _, _, _, _, _, ok5, rfl⟩
      · rfl
  · rintro ρ ⟨h2, x2, x3, x4, x5, x6, x7, x8, x9, ok2, rfl⟩
    subst hkl
    simp only [↓dSeq, ↓dNext, ↓dBreak, ↓dCont, ↓dNever, ↓dRet, ↓dRetN, ↓dDrop, ↓dSet, ↓dIf, ↓dAug, ↓dAsg, ↓dPar, ↓dVar, ↓dMove, ↓dC, ↓dFz, ↓dUp, ↓dNil, ↓dCons, ↓dTup, ↓dLst, ↓dBin, ↓dUn, ↓dChain, ↓dTest, ↓dAnd, ↓dOr, ↓dNot, ↓dAndV, ↓dOrV, ↓dNotV, ↓dIfE, ↓dgName, ↓dgNil, ↓dgCons, ↓dgTup, ↓dIt, ↓dRng1, ↓dRng2, ↓dZip, ↓dEnum, ↓u_for, ↓u_lc, ↓dYes, ↓u_call, ↓u_callF, ↓u_callIo, ↓dCB, ↓dCBF, ↓dBinS, ↓dLenS, ↓dSl, ↓dSlS, ↓dNo, ↓dPt, ↓dStL, ↓dApp, ↓dExt, ↓dJoin, ↓dRg1, ↓dRg2, ↓dTupRg, ↓dLstRg, ↓oSub, ↓oMulI, ↓oMul, ↓oFdiv, ↓oMod, ↓oPow, ↓oShr, ↓oXor, ↓oNeg, ↓oAdd, ↓oAug, ↓oLt, ↓oLe, ↓oGt, ↓oGe, ↓oI, ↓oIx, ↓oLen, ↓oInt, ↓oOrd, ↓oAbs, ↓oStL, ↓oIn, ↓oNin, ↓oInB, ↓isi_int, ↓isi_int_bl, ↓isi_int_str, ↓isi_int_tup, ↓isi_int_lst, ↓isi_str, ↓isi_str_int, ↓isi_tup, ↓isi_tup_int, ↓isi_tup_str, ↓isi_tup_lst, ↓isi_lst, ↓isi_lst_tup, ↓isi_lst_int, ↓isi_lst_str, ↓cv, ↓Cell.val, ↓Cell.up, ↓Cell.own, ↓lenD, ↓itemsOf, List.getElem?_cons_zero, List.getElem?_cons_succ, List.set_cons_zero, List.set_cons_succ, Option.bind_some, Option.isSome_some, List.length_cons, List.length_nil, true_and, and_true, ↓ixN_lit, ↓atI_lit, ↓reduceIte, Nat.reduceAdd, Nat.reduceLT, Nat.reduceSub, Nat.zero_add, Nat.reduceLeDiff, Nat.lt_add_one, Nat.zero_lt_succ, ↓oEq_int, ↓oNe_int, ↓oEq_str, ↓oNe_str, ↓oEq_bl, ↓oNe_bl, decide_eq_true_eq, Bool.false_eq_true, ↓u_while, ↓ownAt, List.all_cons, List.all_nil, Bool.and_true, List.getD_cons_zero, List.getD_cons_succ, Bool.not_false, ↓oLe_sign, ↓oMulS, ↓dDic, ↓dLock, ↓dGetS, ↓dStD, ↓dInS, ↓oInD, ↓dKeys, ↓dGet1, ↓dGet2, ↓dRev, ↓dMulL, ↓dCount, ↓dScrSl, ↓dScrLen, ↓dScrList, ↓oStrI]
    refine ⟨rfl, onM (h2, 4) rfl ⟨ok2, by show (1 : Int) ≤ 4; decide, by show (4 : Int) < 1073741824; decide⟩ ?_⟩
    rintro r os ⟨i, h3, rfl, i0, i1, rfl, ok3⟩
    simp only [ioB, wipeE, fr_draw, ↓dSeq, ↓dNext, ↓dBreak, ↓dCont, ↓dNever, ↓dRet, ↓dRetN, ↓dDrop, ↓dSet, ↓dIf, ↓dAug, ↓dAsg, ↓dPar, ↓dVar, ↓dMove, ↓dC, ↓dFz, ↓dUp, ↓dNil, ↓dCons, ↓dTup, ↓dLst, ↓dBin, ↓dUn, ↓dChain, ↓dTest, ↓dAnd, ↓dOr, ↓dNot, ↓dAndV, ↓dOrV, ↓dNotV, ↓dIfE, ↓dgName, ↓dgNil, ↓dgCons, ↓dgTup, ↓dIt, ↓dRng1, ↓dRng2, ↓dZip, ↓dEnum, ↓u_for, ↓u_lc, ↓dYes, ↓u_call, ↓u_callF, ↓u_callIo, ↓dCB, ↓dCBF, ↓dBinS, ↓dLenS, ↓dSl, ↓dSlS, ↓dNo, ↓dPt, ↓dStL, ↓dApp, ↓dExt, ↓dJoin, ↓dRg1, ↓dRg2, ↓dTupRg, ↓dLstRg, ↓oSub, ↓oMulI, ↓oMul, ↓oFdiv, ↓oMod, ↓oPow, ↓oShr, ↓oXor, ↓oNeg, ↓oAdd, ↓oAug, ↓oLt, ↓oLe, ↓oGt, ↓oGe, ↓oI, ↓oIx, ↓oLen, ↓oInt, ↓oOrd, ↓oAbs, ↓oStL, ↓oIn, ↓oNin, ↓oInB, ↓isi_int, ↓isi_int_bl, ↓isi_int_str, ↓isi_int_tup, ↓isi_int_lst, ↓isi_str, ↓isi_str_int, ↓isi_tup, ↓isi_tup_int, ↓isi_tup_str, ↓isi_tup_lst, ↓isi_lst, ↓isi_lst_tup, ↓isi_lst_int, ↓isi_lst_str, ↓cv, ↓Cell.val, ↓Cell.up, ↓Cell.own, ↓lenD, ↓itemsOf, List.getElem?_cons_zero, List.getElem?_cons_succ, List.set_cons_zero, List.set_cons_succ, Option.bind_some, Option.isSome_some, List.length_cons, List.length_nil, true_and, and_true, ↓ixN_lit, ↓atI_lit, ↓reduceIte, Nat.reduceAdd, Nat.reduceLT, Nat.reduceSub, Nat.zero_add, Nat.reduceLeDiff, Nat.lt_add_one, Nat.zero_lt_succ, ↓oEq_int, ↓oNe_int, ↓oEq_str, ↓oNe_str, ↓oEq_bl, ↓oNe_bl, decide_eq_true_eq, Bool.false_eq_true, ↓u_while, ↓ownAt, List.all_cons, List.all_nil, Bool.and_true, List.getD_cons_zero, List.getD_cons_succ, Bool.not_false, ↓oLe_sign, ↓oMulS, ↓dDic, ↓dLock, ↓dGetS, ↓dStD, ↓dInS, ↓oInD, ↓dKeys, ↓dGet1, ↓dGet2, ↓dRev, ↓dMulL, ↓dCount, ↓dScrSl, ↓dScrLen, ↓dScrList, ↓oStrI]
    by_cases q : 0 < i
    · rw [decide_eq_true q]
      exact rfl
    · rw [decide_eq_false q]
      refine ⟨rfl, onM h3 rfl ok3 ?_⟩
      rintro r os ⟨h4, ok4, rfl, rfl⟩
      simp only [ioB, wipeE, fr_great, ↓dSeq, ↓dNext, ↓dBreak, ↓dCont, ↓dNever, ↓dRet, ↓dRetN, ↓dDrop, ↓dSet, ↓dIf, ↓dAug, ↓dAsg, ↓dPar, ↓dVar, ↓dMove, ↓dC, ↓dFz, ↓dUp, ↓dNil, ↓dCons, ↓dTup, ↓dLst, ↓dBin, ↓dUn, ↓dChain, ↓dTest, ↓dAnd, ↓dOr, ↓dNot, ↓dAndV, ↓dOrV, ↓dNotV, ↓dIfE, ↓dgName, ↓dgNil, ↓dgCons, ↓dgTup, ↓dIt, ↓dRng1, ↓dRng2, ↓dZip, ↓dEnum, ↓u_for, ↓u_lc, ↓dYes, ↓u_call, ↓u_callF, ↓u_callIo, ↓dCB, ↓dCBF, ↓dBinS, ↓dLenS, ↓dSl, ↓dSlS, ↓dNo, ↓dPt, ↓dStL, ↓dApp, ↓dExt, ↓dJoin, ↓dRg1, ↓dRg2, ↓dTupRg, ↓dLstRg, ↓oSub, ↓oMulI, ↓oMul, ↓oFdiv, ↓oMod, ↓oPow, ↓oShr, ↓oXor, ↓oNeg, ↓oAdd, ↓oAug, ↓oLt, ↓oLe, ↓oGt, ↓oGe, ↓oI, ↓oIx, ↓oLen, ↓oInt, ↓oOrd, ↓oAbs, ↓oStL, ↓oIn, ↓oNin, ↓oInB, ↓isi_int, ↓isi_int_bl, ↓isi_int_str, ↓isi_int_tup, ↓isi_int_lst, ↓isi_str, ↓isi_str_int, ↓isi_tup, ↓isi_tup_int, ↓isi_tup_str, ↓isi_tup_lst, ↓isi_lst, ↓isi_lst_tup, ↓isi_lst_int, ↓isi_lst_str, ↓cv, ↓Cell.val, ↓Cell.up, ↓Cell.own, ↓lenD, ↓itemsOf, List.getElem?_cons_zero, List.getElem?_cons_succ, List.set_cons_zero, List.set_cons_succ, Option.bind_some, Option.isSome_some, List.length_cons, List.length_nil, true_and, and_true, ↓ixN_lit, ↓atI_lit, ↓reduceIte, Nat.reduceAdd, Nat.reduceLT, Nat.reduceSub, Nat.zero_add, Nat.reduceLeDiff, Nat.lt_add_one, Nat.zero_lt_succ, ↓oEq_int, ↓oNe_int, ↓oEq_str, ↓oNe_str, ↓oEq_bl, ↓oNe_bl, decide_eq_true_eq, Bool.false_eq_true, ↓u_while, ↓ownAt, List.all_cons, List.all_nil, Bool.and_true, List.getD_cons_zero, List.getD_cons_succ, Bool.not_false, ↓oLe_sign, ↓oMulS, ↓dDic, ↓dLock, ↓dGetS, ↓dStD, ↓dInS, ↓oInD, ↓dKeys, ↓dGet1, ↓dGet2, ↓dRev, ↓dMulL, ↓dCount, ↓dScrSl, ↓dScrLen, ↓dScrList, ↓oStrI]
      exact rfl
end DL

namespace DL
open PySem PySem.Spec PyProof.Rows L2
def topS (i : Nat) : Stmt := PySem.Challenge.pw_everypiece_k42_whole_runs_periods_and_bo.main.body.getD i (.Pass ⟨0, 0, 0, 0⟩)
abbrev st_is_integer : Stmt := topS 7
theorem sc_is_integer : FnScope ["thing"] ["thing"] (defScope st_is_integer) := ⟨rfl, rfl, rfl, by decide +kernel, rfl, by decide +kernel, by decide +kernel⟩
abbrev st_is_within : Stmt := topS 8
theorem sc_is_within : FnScope ["thing", "least", "most"] ["thing", "least", "most"] (defScope st_is_within) := ⟨rfl, rfl, rfl, by decide +kernel, rfl, by decide +kernel, by decide +kernel⟩
abbrev st_is_below : Stmt := topS 9
theorem sc_is_below : FnScope ["thing", "many"] ["thing", "many"] (defScope st_is_below) := ⟨rfl, rfl, rfl, by decide +kernel, rfl, by decide +kernel, by decide +kernel⟩
abbrev st_is_sized : Stmt := topS 10
theorem sc_is_sized : FnScope ["thing", "least", "most"] ["thing", "least", "most"] (defScope st_is_sized) := ⟨rfl, rfl, rfl, by decide +kernel, rfl, by decide +kernel, by decide +kernel⟩
abbrev st_are_signs : Stmt := topS 11
theorem sc_are_signs : FnScope ["thing", "sign"] ["thing"] (defScope st_are_signs) := ⟨rfl, rfl, rfl, by decide +kernel, rfl, by decide +kernel, by decide +kernel⟩
abbrev st_is_text : Stmt := topS 12
theorem sc_is_text : FnScope ["thing"] ["thing"] (defScope st_is_text) := ⟨rfl, rfl, rfl, by decide +kernel, rfl, by decide +kernel, by decide +kernel⟩
abbrev st_check_text : Stmt := topS 13
theorem sc_check_text : FnScope ["thing"] ["thing"] (defScope st_check_text) := ⟨rfl, rfl, rfl, by decide +kernel, rfl, by decide +kernel, by decide +kernel⟩
abbrev st_front_lengths : Stmt := topS 15
theorem sc_front_lengths : FnScope ["text", "found", "many", "at", "sign"] ["text"] (defScope st_front_lengths) := ⟨rfl, rfl, rfl, by decide +kernel, rfl, by decide +kernel, by decide +kernel⟩
abbrev st_border_lengths : Stmt := topS 16
theorem sc_border_lengths : FnScope ["text", "fronts", "found", "many"] ["text"] (defScope st_border_lengths) := ⟨rfl, rfl, rfl, by decide +kernel, rfl, by decide +kernel, by decide +kernel⟩
abbrev st_periods : Stmt := topS 17
theorem sc_periods : FnScope ["text", "many"] ["text"] (defScope st_periods) := ⟨rfl, rfl, rfl, by decide +kernel, rfl, by decide +kernel, by decide +kernel⟩
abbrev st_borders : Stmt := topS 18
theorem sc_borders : FnScope ["text", "many"] ["text"] (defScope st_borders) := ⟨rfl, rfl, rfl, by decide +kernel, rfl, by decide +kernel, by decide +kernel⟩
abbrev st_like_stretches : Stmt := topS 19
theorem sc_like_stretches : FnScope ["text", "period", "found", "begin", "at"] ["text", "period"] (defScope st_like_stretches) := ⟨rfl, rfl, rfl, by decide +kernel, rfl, by decide +kernel, by decide +kernel⟩
abbrev st_all_runs : Stmt := topS 20
theorem sc_all_runs : FnScope ["text", "found", "period", "stretch", "begin", "behind"] ["text"] (defScope st_all_runs) := ⟨rfl, rfl, rfl, by decide +kernel, rfl, by decide +kernel, by decide +kernel⟩
abbrev st_runs : Stmt := topS 21
theorem sc_runs : FnScope ["text"] ["text"] (defScope st_runs) := ⟨rfl, rfl, rfl, by decide +kernel, rfl, by decide +kernel, by decide +kernel⟩
abbrev st_least_period : Stmt := topS 22
theorem sc_least_period : FnScope ["text"] ["text"] (defScope st_least_period) := ⟨rfl, rfl, rfl, by decide +kernel, rfl, by decide +kernel, by decide +kernel⟩
abbrev st_has_period : Stmt := topS 23
theorem sc_has_period : FnScope ["text", "period"] ["text", "period"] (defScope st_has_period) := ⟨rfl, rfl, rfl, by decide +kernel, rfl, by decide +kernel, by decide +kernel⟩
abbrev st_is_run : Stmt := topS 24
theorem sc_is_run : FnScope ["text", "thing", "begin", "behind", "period"] ["text", "thing"] (defScope st_is_run) := ⟨rfl, rfl, rfl, by decide +kernel, rfl, by decide +kernel, by decide +kernel⟩
abbrev st__law_hand : Stmt := topS 26
theorem sc__law_hand : FnScope ["_law_script", "_law_cells", "_law_cell"] ["_law_script"] (defScope st__law_hand) := ⟨rfl, rfl, rfl, by decide +kernel, rfl, by decide +kernel, by decide +kernel⟩
abbrev st__law_draw : Stmt := topS 27
theorem sc__law_draw : FnScope ["_law_hand_here", "_law_many", "_law_cell", "_law_digit", "_law_number"] ["_law_hand_here", "_law_many"] (defScope st__law_draw) := ⟨rfl, rfl, rfl, by decide +kernel, rfl, by decide +kernel, by decide +kernel⟩
abbrev st__law_any : Stmt := topS 28
theorem sc__law_any : FnScope ["_law_hand_here", "_law_some"] ["_law_hand_here", "_law_some"] (defScope st__law_any) := ⟨rfl, rfl, rfl, by decide +kernel, rfl, by decide +kernel, by decide +kernel⟩
abbrev st__law_is_int : Stmt := topS 29
theorem sc__law_is_int : FnScope ["_law_thing", "_law_least_here", "_law_most"] ["_law_thing", "_law_least_here", "_law_most"] (defScope st__law_is_int) := ⟨rfl, rfl, rfl, by decide +kernel, rfl, by decide +kernel, by decide +kernel⟩
abbrev st__law_deep : Stmt := topS 30
theorem sc__law_deep : FnScope ["_law_many", "_law_found", "_law_turn"] ["_law_many"] (defScope st__law_deep) := ⟨rfl, rfl, rfl, by decide +kernel, rfl, by decide +kernel, by decide +kernel⟩
abbrev st__law_text : Stmt := topS 31
theorem sc__law_text : FnScope ["_law_hand_here", "_law_signs_here", "_law_most", "_law_found", "_law_turn", "_law_begin", "_law_sign"] ["_law_hand_here", "_law_signs_here", "_law_most"] (defScope st__law_text) := ⟨rfl, rfl, rfl, by decide +kernel, rfl, by decide +kernel, by decide +kernel⟩
abbrev st__law_signs : Stmt := topS 32
theorem sc__law_signs : FnScope ["_law_hand_here"] ["_law_hand_here"] (defScope st__law_signs) := ⟨rfl, rfl, rfl, by decide +kernel, rfl, by decide +kernel, by decide +kernel⟩
abbrev st__law_is_flag : Stmt := topS 33
theorem sc__law_is_flag : FnScope ["_law_told", "_law_due"] ["_law_told", "_law_due"] (defScope st__law_is_flag) := ⟨rfl, rfl, rfl, by decide +kernel, rfl, by decide +kernel, by decide +kernel⟩
abbrev st__law_has : Stmt := topS 34
theorem sc__law_has : FnScope ["_law_text_here", "_law_period"] ["_law_text_here", "_law_period"] (defScope st__law_has) := ⟨rfl, rfl, rfl, by decide +kernel, rfl, by decide +kernel, by decide +kernel⟩
abbrev st__law_least : Stmt := topS 35
theorem sc__law_least : FnScope ["_law_text_here", "_law_period"] ["_law_text_here"] (defScope st__law_least) := ⟨rfl, rfl, rfl, by decide +kernel, rfl, by decide +kernel, by decide +kernel⟩
abbrev st__law_is_run : Stmt := topS 36
theorem sc__law_is_run : FnScope ["_law_text_here", "_law_begin", "_law_behind", "_law_period"] ["_law_text_here", "_law_begin", "_law_behind", "_law_period"] (defScope st__law_is_run) := ⟨rfl, rfl, rfl, by decide +kernel, rfl, by decide +kernel, by decide +kernel⟩
abbrev st__law_runs : Stmt := topS 37
theorem sc__law_runs : FnScope ["_law_text_here", "_law_found", "_law_begin", "_law_period", "_law_behind"] ["_law_text_here"] (defScope st__law_runs) := ⟨rfl, rfl, rfl, by decide +kernel, rfl, by decide +kernel, by decide +kernel⟩
abbrev st__law_lies_right : Stmt := topS 38
theorem sc__law_lies_right : FnScope ["_law_hand_here", "_law_text_here", "_law_some", "_law_begin", "_law_behind", "_law_period", "_law_one"] ["_law_hand_here", "_law_text_here", "_law_some"] (defScope st__law_lies_right) := ⟨rfl, rfl, rfl, by decide +kernel, rfl, by decide +kernel, by decide +kernel⟩
abbrev st__law_odd : Stmt := topS 39
theorem sc__law_odd : FnScope ["_law_hand_here", "_law_one", "_law_at", "_law_more", "_law_some"] ["_law_hand_here", "_law_one"] (defScope st__law_odd) := ⟨rfl, rfl, rfl, by decide +kernel, rfl, by decide +kernel, by decide +kernel⟩
abbrev st__law_great_right : Stmt := topS 40
theorem sc__law_great_right : FnScope ["_law_hand_here", "_law_word", "_law_many", "_law_text_here", "_law_told"] ["_law_hand_here"] (defScope st__law_great_right) := ⟨rfl, rfl, rfl, by decide +kernel, rfl, by decide +kernel, by decide +kernel⟩
abbrev st_law : Stmt := topS 41
theorem sc_law : FnScope ["_law_script", "_law_hand_here", "_law_turn", "_law_text_here", "_law_some", "_law_told", "_law_one", "_law_odd_here", "_law_is_so", "_law_again", "_law_period", "_law_many", "_law_part"] ["_law_script"] (defScope st_law) := ⟨rfl, rfl, rfl, by decide +kernel, rfl, by decide +kernel, by decide +kernel⟩
structure Zs (mg : Str → Option Value) : Prop where
  z_isinstance : mg "isinstance" = none
  z_int : mg "int" = none
  z_bool : mg "bool" = none
  z_tuple : mg "tuple" = none
  z_len : mg "len" = none
  z_str : mg "str" = none
  z_all : mg "all" = none
  z_enumerate : mg "enumerate" = none
  z_range : mg "range" = none
  z_sorted : mg "sorted" = none
  z_abs : mg "abs" = none
  z_list : mg "list" = none
  z_max : mg "max" = none
  g_FIRST_SIGN : ∃ t, mg "FIRST_SIGN" = some (.str (S [32]) t)
  g_LAST_SIGN : ∃ t, mg "LAST_SIGN" = some (.str (S [126]) t)
  g_MOST_SIGNS : ∃ t, mg "MOST_SIGNS" = some (.int 2000 t)
section
variable {P : Program} {w : World} {K : PySem.W.Frag} {mg : Str → Option Value} {base : Heap}
theorem b_is_integer (Z : Zs mg) (f : Addr) (cdv : Value) (A : Around) (outer : List PySem.Env) (s : Shared) (H : Hp) (E : XK) (hr : Room 0 (A.deeper (envOfC "is_integer" (defScope st_is_integer) s.heap.objs.size f cdv))) :
    PSs (cxOf CX0 P w K mg base ["thing"] "is_integer" (defScope st_is_integer) f cdv A outer s H E).nox (defBody st_is_integer) (tS D_is_integer) :=
  (dss_one (ds_ret (dx_up (de_and (de_isi "int" (by decide +kernel) Z.z_isinstance Z.z_int (de_var 0 (pv 0))) (de_one (de_not (de_isi "bool" (by decide +kernel) Z.z_isinstance Z.z_bool (de_var 0 (pv 0)))))))))
theorem b_is_sized (Z : Zs mg) (f : Addr) (cdv : Value) (A : Around) (outer : List PySem.Env) (s : Shared) (H : Hp) (E : XK) (hr : Room 0 (A.deeper (envOfC "is_sized" (defScope st_is_sized) s.heap.objs.size f cdv))) :
    PSs (cxOf CX0 P w K mg base ["thing", "least", "most"] "is_sized" (defScope st_is_sized) f cdv A outer s H E).nox (defBody st_is_sized) (tS D_is_sized) :=
  (dss_one (ds_ret (dx_up (de_and (de_isi "tuple" (by decide +kernel) Z.z_isinstance Z.z_tuple (de_var 0 (pv 0))) (de_one (de_chain or_le or_le (de_var 1 (pv 1)) (de_lenS 0 Z.z_len (pv 0)) (de_var 2 (pv 2)) (fun ha hb hc ho ho2 => pe_chain ho ho2 ha hb hc)))))))
theorem b_are_signs (Z : Zs mg) (f : Addr) (cdv : Value) (A : Around) (outer : List PySem.Env) (s : Shared) (H : Hp) (E : XK) (hr : Room 0 (A.deeper (envOfC "are_signs" (defScope st_are_signs) s.heap.objs.size f cdv))) :
    PSs (cxOf CX0 P w K mg base ["thing", "sign"] "are_signs" (defScope st_are_signs) f cdv A outer s H E).nox (defBody st_are_signs) (tS D_are_signs) :=
  (dss_one (ds_ret (dx_up (de_and (de_isi "str" (by decide +kernel) Z.z_isinstance Z.z_str (de_var 0 (pv 0))) (de_one (de_cb (cr_all' rfl) Z.z_all (da_cons (de_fz (dx_lc rfl sc_are_signs.nd (own := [("sign", 1)]) (di_any (de_var 0 (pv 0))) (blkOk_by (N := ["thing", "sign"]) (sc := defScope st_are_signs) (by decide +kernel)) (fun _ _ _ _ _ => (dg_name (i := 1) sc_are_signs.nd)) (fun _ _ _ _ _ => dts_nil) (fun _ _ _ _ _ => (de_chain or_le or_le (de_glS (l := [32]) Z.g_FIRST_SIGN) (de_var 1 (pv 1)) (de_glS (l := [126]) Z.g_LAST_SIGN) (fun ha hb hc ho ho2 => pe_chain ho ho2 ha hb hc))) (by decide))) da_nil)))))))
theorem b_front_lengths (Z : Zs mg) (f : Addr) (cdv : Value) (A : Around) (outer : List PySem.Env) (s : Shared) (H : Hp) (E : XK) (hr : Room 0 (A.deeper (envOfC "front_lengths" (defScope st_front_lengths) s.heap.objs.size f cdv))) :
    PSs (cxOf CX0 P w K mg base ["text", "found", "many", "at", "sign"] "front_lengths" (defScope st_front_lengths) f cdv A outer s H E).nox (defBody st_front_lengths) (tS D_front_lengths) :=
  (dss_cons (ds_set (i := 1) sc_front_lengths.nd (dx_lst da_nil))
  (dss_cons (ds_set (i := 2) sc_front_lengths.nd (dx_up de_int))
  (dss_cons (ds_for PassesOwn.never rfl (di_enum (by rfl) Z.z_enumerate (da_cons (de_var 0 (pv 0)) da_nil)) (dg_tup rfl (dgs_cons (dg_name (i := 3) sc_front_lengths.nd) (dgs_cons (dg_name (i := 4) sc_front_lengths.nd) dgs_nil))) (dss_cons (ds_while PassesOwn.never (PW.pt (dw_and (dt_cmp or_gt (de_var 3 (pv 3)) de_int (nomark _)) (dw_and (dt_cmp or_gt (de_var 2 (pv 2)) de_int (nomark _)) (dw_and1 (dt_cmp (or_ne hr) (de_ixS 0 (pv 0) (de_var 2 (pv 2))) (de_var 4 (pv 4)) (nomark _)))))) (dss_one (ds_set (i := 2) sc_front_lengths.nd (dx_up (de_ixS 1 (pv 1) (de_op or_sub (de_var 2 (pv 2)) de_int))))))
  (dss_cons (ds_if (PW.pt (dw_and (dt_cmp or_gt (de_var 3 (pv 3)) de_int (nomark _)) (dw_and1 (dt_cmp (or_eq hr) (de_ixS 0 (pv 0) (de_var 2 (pv 2))) (de_var 4 (pv 4)) (nomark _))))) (dss_one (ds_aug (i := 2) sc_front_lengths.nd de_int ir_add)) dss_nil)
  (dss_one (ds_app 1 (pv 1) (de_var 2 (pv 2)))))))
  (dss_one (ds_ret (dx_move 1 (pv 1)))))))
theorem b_like_stretches (Z : Zs mg) (f : Addr) (cdv : Value) (A : Around) (outer : List PySem.Env) (s : Shared) (H : Hp) (E : XK) (hr : Room 0 (A.deeper (envOfC "like_stretches" (defScope st_like_stretches) s.heap.objs.size f cdv))) :
    PSs (cxOf CX0 P w K mg base ["text", "period", "found", "begin", "at"] "like_stretches" (defScope st_like_stretches) f cdv A outer s H E).nox (defBody st_like_stretches) (tS D_like_stretches) :=
  (dss_cons (ds_set (i := 2) sc_like_stretches.nd (dx_lst da_nil))
  (dss_cons (ds_set (i := 3) sc_like_stretches.nd (dx_up de_int))
  (dss_cons (ds_for PassesOwn.never rfl (di_range1 (by rfl) Z.z_range (da_cons (de_op or_add (de_op or_sub (de_lenS 0 Z.z_len (pv 0)) (de_var 1 (pv 1))) de_int) da_nil)) (dg_name (i := 4) sc_like_stretches.nd) (dss_one (ds_if (PW.pt (dw_or (dt_cmp (or_eq hr) (de_var 4 (pv 4)) (de_op or_sub (de_lenS 0 Z.z_len (pv 0)) (de_var 1 (pv 1))) (nomark _)) (dw_or1 (dt_cmp (or_ne hr) (de_ixS 0 (pv 0) (de_var 4 (pv 4))) (de_ixS 0 (pv 0) (de_op or_add (de_var 4 (pv 4)) (de_var 1 (pv 1)))) (nomark _))))) (dss_cons (ds_if (dt_cmp or_ge (de_op or_sub (de_var 4 (pv 4)) (de_var 3 (pv 3))) (de_var 1 (pv 1)) (nomark _)) (dss_one (ds_app 2 (pv 2) (de_tup (da_cons (de_var 3 (pv 3)) (da_cons (de_op or_add (de_var 4 (pv 4)) (de_var 1 (pv 1))) da_nil))))) dss_nil)
  (dss_one (ds_set (i := 3) sc_like_stretches.nd (dx_up (de_op or_add (de_var 4 (pv 4)) de_int))))) dss_nil)))
  (dss_one (ds_ret (dx_move 2 (pv 2)))))))
theorem b_has_period (Z : Zs mg) (f : Addr) (cdv : Value) (A : Around) (outer : List PySem.Env) (s : Shared) (H : Hp) (E : XK) (hr : Room 0 (A.deeper (envOfC "has_period" (defScope st_has_period) s.heap.objs.size f cdv))) :
    PSs (cxOf CX0 P w K mg base ["text", "period"] "has_period" (defScope st_has_period) f cdv A outer s H E).nox (defBody st_has_period) (tS D_has_period) :=
  (dss_one (ds_ret (dx_up (de_cmp (or_eq hr) (de_slS 0 (pv 0) (do_pt (de_var 1 (pv 1))) do_no) (de_slS 0 (pv 0) do_no (do_pt (de_op or_sub (de_lenS 0 Z.z_len (pv 0)) (de_var 1 (pv 1))))) (nomark _)))))
theorem b__law_hand {a : Addr} {ns : List Int} (hz : ns.length ≤ 63) (Z : Zs mg) (f : Addr) (cdv : Value) (A : Around) (outer : List PySem.Env) (s : Shared) (H : Hp) (E : XK) (hS : ScrAt K H a ns) (hr : Room 0 (A.deeper (envOfC "_law_hand" (defScope st__law_hand) s.heap.objs.size f cdv))) :
    PSs (cxOf CX0 P w K mg base ["_law_script", "_law_cells", "_law_cell"] "_law_hand" (defScope st__law_hand) f cdv A outer s H E).nox (defBody st__law_hand) (tS (D__law_hand a ns)) :=
  (dss_cons (ds_setLcF (i := 1) rfl sc__law_hand.nd rfl rfl (sw_true rfl rfl rfl (by decide +kernel)) (own := [("_law_cell", 2)]) (di_any (de_scrSl 0 (Nat.le_trans hz (by decide)) hS (pv 0) do_no (do_pt de_int))) (blkOk_by (N := ["_law_script", "_law_cells", "_law_cell"]) (sc := defScope st__law_hand) (by decide +kernel)) (fun _ _ _ _ _ => (dg_name (i := 2) sc__law_hand.nd)) (fun _ _ _ _ _ => dts_nil) (fun _ _ _ _ _ => (de_cb cr_abs Z.z_abs (da_cons (de_cty cr_int Z.z_int (da_cons (de_var 2 (pv 2)) da_nil)) da_nil))) (by decide))
  (dss_one (ds_ret (dx_lst (da_cons (de_var 1 (pv 1)) (da_cons de_int (da_cons de_int (da_cons (de_op or_add de_int (de_lenS 1 Z.z_len (pv 1))) (da_cons de_int da_nil)))))))))
theorem b__law_draw (Z : Zs mg) (f : Addr) (cdv : Value) (A : Around) (outer : List PySem.Env) (s : Shared) (H : Hp) (E : XK) (hr : Room 0 (A.deeper (envOfC "_law_draw" (defScope st__law_draw) s.heap.objs.size f cdv))) :
    PSs (cxOf CX0 P w K mg base ["_law_hand_here", "_law_many", "_law_cell", "_law_digit", "_law_number"] "_law_draw" (defScope st__law_draw) f cdv A outer s H E).nox (defBody st__law_draw) (tS D__law_draw) :=
  (dss_cons (ds_if (PW.pt (dw_and (dt_cmp (or_eq hr) (de_ixS 0 (pv 0) de_int) de_int (nomark _)) (dw_and1 (dt_cmp or_lt (de_ixS 0 (pv 0) de_int) (de_cb cr_len Z.z_len (da_cons (de_ixS 0 (pv 0) de_int) da_nil)) (nomark _))))) (dss_cons (ds_set (i := 2) sc__law_draw.nd (dx_up (de_ix (de_ixS 0 (pv 0) de_int) (de_ixS 0 (pv 0) de_int))))
  (dss_cons (ds_stL 0 (pv 0) (de_op or_add (de_ixS 0 (pv 0) de_int) de_int) de_int)
  (dss_cons (ds_stL 0 (pv 0) (de_op or_mod (de_cty cr_int Z.z_int (da_cons (de_op or_add (de_op or_add (de_op or_mulS (de_ixS 0 (pv 0) de_int) de_int) (de_var 2 (pv 2))) de_int) da_nil)) de_int) de_int)
  (dss_one (ds_if (dt_cmp or_ge (de_var 2 (pv 2)) (de_op or_pow de_int de_int) (nomark _)) (dss_one (ds_stL 0 (pv 0) (de_var 2 (pv 2)) de_int)) dss_nil))))) dss_nil)
  (dss_cons (ds_if (dt_cmp or_gt (de_ixS 0 (pv 0) de_int) de_int (nomark _)) (dss_cons (ds_set (i := 3) sc__law_draw.nd (dx_up (de_op or_mod (de_cty cr_int Z.z_int (da_cons (de_ixS 0 (pv 0) de_int) da_nil)) (de_var 1 (pv 1)))))
  (dss_cons (ds_stL 0 (pv 0) (de_op or_fdiv (de_ixS 0 (pv 0) de_int) (de_var 1 (pv 1))) de_int)
  (dss_one (ds_ret (dx_up (de_var 3 (pv 3))))))) dss_nil)
  (dss_cons (ds_stL 0 (pv 0) (de_op or_add (de_ixS 0 (pv 0) de_int) de_int) de_int)
  (dss_cons (ds_set (i := 4) sc__law_draw.nd (dx_up (de_op or_mod (de_cty cr_int Z.z_int (da_cons (de_op or_mulS (de_cty cr_int Z.z_int (da_cons (de_op or_add (de_ixS 0 (pv 0) de_int) (de_op or_mulS de_int (de_ixS 0 (pv 0) de_int))) da_nil)) de_int) da_nil)) de_int)))
  (dss_cons (ds_set (i := 4) sc__law_draw.nd (dx_up (de_op or_mod (de_cty cr_int Z.z_int (da_cons (de_op or_mulS (de_var 4 (pv 4)) (de_op or_add (de_op or_fdiv (de_var 4 (pv 4)) de_int) de_int)) da_nil)) de_int)))
  (dss_cons (ds_set (i := 4) sc__law_draw.nd (dx_up (de_op or_mod (de_cty cr_int Z.z_int (da_cons (de_op or_mulS (de_var 4 (pv 4)) (de_op or_add (de_op or_fdiv (de_var 4 (pv 4)) de_int) de_int)) da_nil)) de_int)))
  (dss_one (ds_ret (dx_up (de_op or_mod (de_cty cr_int Z.z_int (da_cons (de_op or_fdiv (de_var 4 (pv 4)) de_int) da_nil)) (de_var 1 (pv 1))))))))))))
theorem b__law_is_int (Z : Zs mg) (f : Addr) (cdv : Value) (A : Around) (outer : List PySem.Env) (s : Shared) (H : Hp) (E : XK) (hr : Room 0 (A.deeper (envOfC "_law_is_int" (defScope st__law_is_int) s.heap.objs.size f cdv))) :
    PSs (cxOf CX0 P w K mg base ["_law_thing", "_law_least_here", "_law_most"] "_law_is_int" (defScope st__law_is_int) f cdv A outer s H E).nox (defBody st__law_is_int) (tS D__law_is_int) :=
  (dss_one (ds_ret (dx_up (de_and (de_isi "int" (by decide +kernel) Z.z_isinstance Z.z_int (de_var 0 (pv 0))) (de_and (de_not (de_isi "bool" (by decide +kernel) Z.z_isinstance Z.z_bool (de_var 0 (pv 0)))) (de_one (de_chain or_le or_le (de_var 1 (pv 1)) (de_var 0 (pv 0)) (de_var 2 (pv 2)) (fun ha hb hc ho ho2 => pe_chain ho ho2 ha hb hc))))))))
theorem b__law_deep (Z : Zs mg) (f : Addr) (cdv : Value) (A : Around) (outer : List PySem.Env) (s : Shared) (H : Hp) (E : XK) (hr : Room 0 (A.deeper (envOfC "_law_deep" (defScope st__law_deep) s.heap.objs.size f cdv))) :
    PSs (cxOf CX0 P w K mg base ["_law_many", "_law_found", "_law_turn"] "_law_deep" (defScope st__law_deep) f cdv A outer s H E).nox (defBody st__law_deep) (tS D__law_deep) :=
  (dss_cons (ds_set (i := 1) sc__law_deep.nd (dx_up (de_tup da_nil)))
  (dss_cons (ds_for PassesOwn.never rfl (di_range1 (by rfl) Z.z_range (da_cons (de_var 0 (pv 0)) da_nil)) (dg_name (i := 2) sc__law_deep.nd) (dss_one (ds_set (i := 1) sc__law_deep.nd (dx_up (de_tup (da_cons (de_var 1 (pv 1)) da_nil))))))
  (dss_one (ds_ret (dx_up (de_var 1 (pv 1)))))))
theorem b__law_is_flag (Z : Zs mg) (f : Addr) (cdv : Value) (A : Around) (outer : List PySem.Env) (s : Shared) (H : Hp) (E : XK) (hr : Room 0 (A.deeper (envOfC "_law_is_flag" (defScope st__law_is_flag) s.heap.objs.size f cdv))) :
    PSs (cxOf CX0 P w K mg base ["_law_told", "_law_due"] "_law_is_flag" (defScope st__law_is_flag) f cdv A outer s H E).nox (defBody st__law_is_flag) (tS D__law_is_flag) :=
  (dss_one (ds_ret (dx_up (de_and (de_isi "bool" (by decide +kernel) Z.z_isinstance Z.z_bool (de_var 0 (pv 0))) (de_one (de_cmp (or_eq hr) (de_var 0 (pv 0)) (de_var 1 (pv 1)) (nomark _)))))))
theorem b__law_has (Z : Zs mg) (f : Addr) (cdv : Value) (A : Around) (outer : List PySem.Env) (s : Shared) (H : Hp) (E : XK) (hr : Room 0 (A.deeper (envOfC "_law_has" (defScope st__law_has) s.heap.objs.size f cdv))) :
    PSs (cxOf CX0 P w K mg base ["_law_text_here", "_law_period"] "_law_has" (defScope st__law_has) f cdv A outer s H E).nox (defBody st__law_has) (tS D__law_has) :=
  (dss_one (ds_ret (dx_up (de_cmp (or_eq hr) (de_slS 0 (pv 0) (do_pt (de_var 1 (pv 1))) do_no) (de_slS 0 (pv 0) do_no (do_pt (de_op or_sub (de_lenS 0 Z.z_len (pv 0)) (de_var 1 (pv 1))))) (nomark _)))))
theorem b_is_within (c_is_integer : Cl P w K mg base "is_integer" 1 ["thing"] S_is_integer) (Z : Zs mg) (f : Addr) (cdv : Value) (A : Around) (outer : List PySem.Env) (s : Shared) (H : Hp) (E : XK) (hr : Room 1 (A.deeper (envOfC "is_within" (defScope st_is_within) s.heap.objs.size f cdv))) :
    PSs (cxOf CX0 P w K mg base ["thing", "least", "most"] "is_within" (defScope st_is_within) f cdv A outer s H E).nox (defBody st_is_within) (tS D_is_within) :=
  (dss_one (ds_ret (dx_up (de_and (ce_call c_is_integer hr (da_cons (de_var 0 (pv 0)) da_nil)) (de_one (de_chain or_le or_le (de_var 1 (pv 1)) (de_var 0 (pv 0)) (de_var 2 (pv 2)) (fun ha hb hc ho ho2 => pe_chain ho ho2 ha hb hc)))))))
theorem b_is_text (c_are_signs : Cl P w K mg base "are_signs" 1 ["thing"] S_are_signs) (Z : Zs mg) (f : Addr) (cdv : Value) (A : Around) (outer : List PySem.Env) (s : Shared) (H : Hp) (E : XK) (hr : Room 1 (A.deeper (envOfC "is_text" (defScope st_is_text) s.heap.objs.size f cdv))) :
    PSs (cxOf CX0 P w K mg base ["thing"] "is_text" (defScope st_is_text) f cdv A outer s H E).nox (defBody st_is_text) (tS D_is_text) :=
  (dss_one (ds_ret (dx_up (de_and (ce_call c_are_signs hr (da_cons (de_var 0 (pv 0)) da_nil)) (de_one (de_cmp or_le (de_lenS 0 Z.z_len (pv 0)) (de_glI Z.g_MOST_SIGNS) (nomark _)))))))
theorem b_border_lengths (c_front_lengths : Cl P w K mg base "front_lengths" 1 ["text"] S_front_lengths) (Z : Zs mg) (f : Addr) (cdv : Value) (A : Around) (outer : List PySem.Env) (s : Shared) (H : Hp) (E : XK) (hr : Room 1 (A.deeper (envOfC "border_lengths" (defScope st_border_lengths) s.heap.objs.size f cdv))) :
    PSs (cxOf CX0 P w K mg base ["text", "fronts", "found", "many"] "border_lengths" (defScope st_border_lengths) f cdv A outer s H E).nox (defBody st_border_lengths) (tS D_border_lengths) :=
  (dss_cons (ds_set (i := 1) sc_border_lengths.nd (dx_up (de_fz (cx_call c_front_lengths hr (da_cons (de_var 0 (pv 0)) da_nil)))))
  (dss_cons (ds_set (i := 2) sc_border_lengths.nd (dx_lst da_nil))
  (dss_cons (ds_set (i := 3) sc_border_lengths.nd (dx_up (de_fz (dx_ifE (dt_cmp or_gt (de_lenS 1 Z.z_len (pv 1)) de_int (nomark _)) (dx_up (de_ixS 1 (pv 1) (de_un un_neg' de_int))) (dx_up de_int)))))
  (dss_cons (ds_while PassesOwn.never (dt_cmp or_gt (de_var 3 (pv 3)) de_int (nomark _)) (dss_cons (ds_app 2 (pv 2) (de_var 3 (pv 3)))
  (dss_one (ds_set (i := 3) sc_border_lengths.nd (dx_up (de_ixS 1 (pv 1) (de_op or_sub (de_var 3 (pv 3)) de_int)))))))
  (dss_one (ds_ret (dx_rev (de_var 2 (pv 2)))))))))
theorem b_all_runs (c_like_stretches : Cl P w K mg base "like_stretches" 1 ["text", "period"] S_like_stretches) (Z : Zs mg) (f : Addr) (cdv : Value) (A : Around) (outer : List PySem.Env) (s : Shared) (H : Hp) (E : XK) (hr : Room 1 (A.deeper (envOfC "all_runs" (defScope st_all_runs) s.heap.objs.size f cdv))) :
    PSs (cxOf CX0 P w K mg base ["text", "found", "period", "stretch", "begin", "behind"] "all_runs" (defScope st_all_runs) f cdv A outer s H E).nox (defBody st_all_runs) (tS D_all_runs) :=
  (dss_cons (ds_set (i := 1) sc_all_runs.nd dx_dicT)
  (dss_cons (ds_for PassesOwn.never rfl (di_range2 (by rfl) Z.z_range (da_cons de_int (da_cons (de_op or_add (de_op or_fdiv (de_lenS 0 Z.z_len (pv 0)) de_int) de_int) da_nil))) (dg_name (i := 2) sc_all_runs.nd) (dss_one (ds_for PassesOwn.never rfl (di_any (de_fz (cx_call c_like_stretches hr (da_cons (de_var 0 (pv 0)) (da_cons (de_var 2 (pv 2)) da_nil))))) (dg_name (i := 3) sc_all_runs.nd) (dss_one (ds_if (dt_inS 1 (or_ninB hr) (de_var 3 (pv 3)) (pv 1)) (dss_one (ds_stD 1 hr (pv 1) (de_var 2 (pv 2)) (de_var 3 (pv 3)))) dss_nil)))))
  (dss_one (ds_ret (dx_cb (cr_sortedL hr) Z.z_sorted (da_cons (de_fz (dx_lc rfl sc_all_runs.nd (own := [("begin", 4), ("behind", 5)]) (di_keys (de_lock 1 (pv 1))) (blkOk_by (N := ["text", "found", "period", "stretch", "begin", "behind"]) (sc := defScope st_all_runs) (by decide +kernel)) (fun _ _ _ _ _ => (dg_tup rfl (dgs_cons (dg_name (i := 4) sc_all_runs.nd) (dgs_cons (dg_name (i := 5) sc_all_runs.nd) dgs_nil)))) (fun _ _ _ _ _ => dts_nil) (fun _ _ _ _ _ => (de_tup (da_cons (de_var 4 (pv 4)) (da_cons (de_var 5 (pv 5)) (da_cons (de_getS 1 hr (pv 1) (de_tup (da_cons (de_var 4 (pv 4)) (da_cons (de_var 5 (pv 5)) da_nil)))) da_nil))))) (by decide))) da_nil))))))
theorem b_least_period (c_front_lengths : Cl P w K mg base "front_lengths" 1 ["text"] S_front_lengths) (Z : Zs mg) (f : Addr) (cdv : Value) (A : Around) (outer : List PySem.Env) (s : Shared) (H : Hp) (E : XK) (hr : Room 1 (A.deeper (envOfC "least_period" (defScope st_least_period) s.heap.objs.size f cdv))) :
    PSs (cxOf CX0 P w K mg base ["text"] "least_period" (defScope st_least_period) f cdv A outer s H E).nox (defBody st_least_period) (tS D_least_period) :=
  (dss_one (ds_ret (dx_up (de_op or_sub (de_lenS 0 Z.z_len (pv 0)) (de_ix (de_fz (cx_call c_front_lengths hr (da_cons (de_var 0 (pv 0)) da_nil))) (de_un un_neg' de_int))))))
theorem b__law_any (c__law_draw : Cl P w K mg base "_law_draw" 1 ["_law_hand_here", "_law_many"] S__law_draw) (Z : Zs mg) (f : Addr) (cdv : Value) (A : Around) (outer : List PySem.Env) (s : Shared) (H : Hp) (E : XK) (hr : Room 1 (A.deeper (envOfC "_law_any" (defScope st__law_any) s.heap.objs.size f cdv))) :
    PSs (cxOf CX0 P w K mg base ["_law_hand_here", "_law_some"] "_law_any" (defScope st__law_any) f cdv A outer s H E).nox (defBody st__law_any) (tS D__law_any) :=
  (dss_one (ds_ret (dx_up (de_ixS 1 (pv 1) (de_fz (cx_callIo (i := 0) c__law_draw hr (pv 0) (da_cons (de_lenS 1 Z.z_len (pv 1)) da_nil)))))))
theorem b__law_least (c__law_has : Cl P w K mg base "_law_has" 1 ["_law_text_here", "_law_period"] S__law_has) (Z : Zs mg) (f : Addr) (cdv : Value) (A : Around) (outer : List PySem.Env) (s : Shared) (H : Hp) (E : XK) (hr : Room 1 (A.deeper (envOfC "_law_least" (defScope st__law_least) s.heap.objs.size f cdv))) :
    PSs (cxOf CX0 P w K mg base ["_law_text_here", "_law_period"] "_law_least" (defScope st__law_least) f cdv A outer s H E).nox (defBody st__law_least) (tS D__law_least) :=
  (dss_cons (ds_set (i := 1) sc__law_least.nd (dx_up de_int))
  (dss_cons (ds_while PassesOwn.never (dt_not (dt_val (ce_call c__law_has hr (da_cons (de_var 0 (pv 0)) (da_cons (de_var 1 (pv 1)) da_nil))))) (dss_one (ds_set (i := 1) sc__law_least.nd (dx_up (de_op or_add (de_var 1 (pv 1)) de_int)))))
  (dss_one (ds_ret (dx_up (de_var 1 (pv 1)))))))
theorem b_is_below (c_is_within : Cl P w K mg base "is_within" 2 ["thing", "least", "most"] S_is_within) (Z : Zs mg) (f : Addr) (cdv : Value) (A : Around) (outer : List PySem.Env) (s : Shared) (H : Hp) (E : XK) (hr : Room 2 (A.deeper (envOfC "is_below" (defScope st_is_below) s.heap.objs.size f cdv))) :
    PSs (cxOf CX0 P w K mg base ["thing", "many"] "is_below" (defScope st_is_below) f cdv A outer s H E).nox (defBody st_is_below) (tS D_is_below) :=
  (dss_one (ds_ret (dx_up (ce_call c_is_within hr (da_cons (de_var 0 (pv 0)) (da_cons de_int (da_cons (de_op or_sub (de_var 1 (pv 1)) de_int) da_nil)))))))
theorem b_check_text (c_is_text : Cl P w K mg base "is_text" 2 ["thing"] S_is_text) (Z : Zs mg) (f : Addr) (cdv : Value) (A : Around) (outer : List PySem.Env) (s : Shared) (H : Hp) (E : XK) (hr : Room 2 (A.deeper (envOfC "check_text" (defScope st_check_text) s.heap.objs.size f cdv))) :
    PSs (cxOf CX0 P w K mg base ["thing"] "check_text" (defScope st_check_text) f cdv A outer s H E).nox (defBody st_check_text) (tS D_check_text) :=
  (dss_one (ds_if (dt_not (dt_val (ce_call c_is_text hr (da_cons (de_var 0 (pv 0)) da_nil)))) (dss_one ds_never) dss_nil))
theorem b__law_text (c__law_draw : Cl P w K mg base "_law_draw" 1 ["_law_hand_here", "_law_many"] S__law_draw) (c__law_any : Cl P w K mg base "_law_any" 2 ["_law_hand_here", "_law_some"] S__law_any) (Z : Zs mg) (f : Addr) (cdv : Value) (A : Around) (outer : List PySem.Env) (s : Shared) (H : Hp) (E : XK) (hr : Room 2 (A.deeper (envOfC "_law_text" (defScope st__law_text) s.heap.objs.size f cdv))) :
    PSs (cxOf CX0 P w K mg base ["_law_hand_here", "_law_signs_here", "_law_most", "_law_found", "_law_turn", "_law_begin", "_law_sign"] "_law_text" (defScope st__law_text) f cdv A outer s H E).nox (defBody st__law_text) (tS D__law_text) :=
  (dss_cons (ds_set (i := 3) sc__law_text.nd (dx_up (de_str [])))
  (dss_cons (ds_for PassesOwn.never rfl (di_range1 (by rfl) Z.z_range (da_cons (de_fz (cx_callIo (i := 0) c__law_draw (hr.mono (by decide)) (pv 0) (da_cons de_int da_nil))) da_nil)) (dg_name (i := 4) sc__law_text.nd) (dss_one (ds_if (PW.pt (dw_and (dt_cmp (or_ne hr) (de_var 3 (pv 3)) (de_str []) (nomark _)) (dw_and1 (dt_cmp (or_eq hr) (de_fz (cx_callIo (i := 0) c__law_draw (hr.mono (by decide)) (pv 0) (da_cons de_int da_nil))) de_int (nomark _))))) (dss_cons (ds_set (i := 5) sc__law_text.nd (dx_up (de_fz (cx_callIo (i := 0) c__law_draw (hr.mono (by decide)) (pv 0) (da_cons (de_lenS 3 Z.z_len (pv 3)) da_nil)))))
  (dss_one (ds_set (i := 3) sc__law_text.nd (dx_up (de_op or_add (de_var 3 (pv 3)) (de_slS 3 (pv 3) (do_pt (de_var 5 (pv 5))) (do_pt (de_op or_add (de_op or_add (de_var 5 (pv 5)) de_int) (de_fz (cx_callIo (i := 0) c__law_draw (hr.mono (by decide)) (pv 0) (da_cons de_int da_nil))))))))))) (dss_one (ds_set (i := 3) sc__law_text.nd (dx_up (de_op or_add (de_var 3 (pv 3)) (de_join (de_str []) (de_fz (dx_lc rfl sc__law_text.nd (own := [("_law_sign", 6)]) (di_range1 (by rfl) Z.z_range (da_cons (de_op or_add de_int (de_fz (cx_callIo (i := 0) c__law_draw (hr.mono (by decide)) (pv 0) (da_cons de_int da_nil)))) da_nil)) (blkOk_by (N := ["_law_hand_here", "_law_signs_here", "_law_most", "_law_found", "_law_turn", "_law_begin", "_law_sign"]) (sc := defScope st__law_text) (by decide +kernel)) (fun _ _ _ _ _ => (dg_name (i := 6) sc__law_text.nd)) (fun _ _ _ _ _ => dts_nil) (fun _ _ _ _ _ => (de_fz (cx_callIo (i := 0) c__law_any hr (pv 0) (da_cons (de_var 1 (pv 1)) da_nil)))) (by decide)))))))))))
  (dss_one (ds_ret (dx_up (de_slS 3 (pv 3) do_no (do_pt (de_var 2 (pv 2)))))))))
theorem b__law_signs (c__law_any : Cl P w K mg base "_law_any" 2 ["_law_hand_here", "_law_some"] S__law_any) (Z : Zs mg) (f : Addr) (cdv : Value) (A : Around) (outer : List PySem.Env) (s : Shared) (H : Hp) (E : XK) (hr : Room 2 (A.deeper (envOfC "_law_signs" (defScope st__law_signs) s.heap.objs.size f cdv))) :
    PSs (cxOf CX0 P w K mg base ["_law_hand_here"] "_law_signs" (defScope st__law_signs) f cdv A outer s H E).nox (defBody st__law_signs) (tS D__law_signs) :=
  (dss_one (ds_ret (dx_up (de_fz (cx_callIo (i := 0) c__law_any hr (pv 0) (da_cons (de_fz (dx_lst (da_cons (de_str [97]) (da_cons (de_str [97, 98]) (da_cons (de_str [97, 98]) (da_cons (de_str [97, 98, 99]) (da_cons (de_str [97, 98, 32, 126]) (da_cons (de_str [120, 121, 122, 119]) (da_cons (de_str [48, 49, 50, 51, 52, 53, 54, 55, 56, 57]) da_nil))))))))) da_nil))))))
theorem b__law_is_run (c__law_least : Cl P w K mg base "_law_least" 2 ["_law_text_here"] S__law_least) (c__law_has : Cl P w K mg base "_law_has" 1 ["_law_text_here", "_law_period"] S__law_has) (Z : Zs mg) (f : Addr) (cdv : Value) (A : Around) (outer : List PySem.Env) (s : Shared) (H : Hp) (E : XK) (hr : Room 2 (A.deeper (envOfC "_law_is_run" (defScope st__law_is_run) s.heap.objs.size f cdv))) :
    PSs (cxOf CX0 P w K mg base ["_law_text_here", "_law_begin", "_law_behind", "_law_period"] "_law_is_run" (defScope st__law_is_run) f cdv A outer s H E).nox (defBody st__law_is_run) (tS D__law_is_run) :=
  (dss_cons (ds_if (PW.pt (dw_or (dt_cmp or_lt (de_op or_sub (de_var 2 (pv 2)) (de_var 1 (pv 1))) (de_op or_mulS de_int (de_var 3 (pv 3))) (nomark _)) (dw_or1 (dt_cmp (or_ne hr) (ce_call c__law_least hr (da_cons (de_slS 0 (pv 0) (do_pt (de_var 1 (pv 1))) (do_pt (de_var 2 (pv 2)))) da_nil)) (de_var 3 (pv 3)) (nomark _))))) (dss_one (ds_ret (dx_up de_bl))) dss_nil)
  (dss_cons (ds_if (PW.pt (dw_and (dt_cmp or_gt (de_var 1 (pv 1)) de_int (nomark _)) (dw_and1 (dt_val (ce_call c__law_has (hr.mono (by decide)) (da_cons (de_slS 0 (pv 0) (do_pt (de_op or_sub (de_var 1 (pv 1)) de_int)) (do_pt (de_var 2 (pv 2)))) (da_cons (de_var 3 (pv 3)) da_nil))))))) (dss_one (ds_ret (dx_up de_bl))) dss_nil)
  (dss_one (ds_ret (dx_up (de_or (de_cmp (or_eq hr) (de_var 2 (pv 2)) (de_lenS 0 Z.z_len (pv 0)) (nomark _)) (de_one (de_not (ce_call c__law_has (hr.mono (by decide)) (da_cons (de_slS 0 (pv 0) (do_pt (de_var 1 (pv 1))) (do_pt (de_op or_add (de_var 2 (pv 2)) de_int))) (da_cons (de_var 3 (pv 3)) da_nil)))))))))))
theorem b__law_lies_right (c__law_draw : Cl P w K mg base "_law_draw" 1 ["_law_hand_here", "_law_many"] S__law_draw) (c__law_least : Cl P w K mg base "_law_least" 2 ["_law_text_here"] S__law_least) (Z : Zs mg) (f : Addr) (cdv : Value) (A : Around) (outer : List PySem.Env) (s : Shared) (H : Hp) (E : XK) (hr : Room 2 (A.deeper (envOfC "_law_lies_right" (defScope st__law_lies_right) s.heap.objs.size f cdv))) :
    PSs (cxOf CX0 P w K mg base ["_law_hand_here", "_law_text_here", "_law_some", "_law_begin", "_law_behind", "_law_period", "_law_one"] "_law_lies_right" (defScope st__law_lies_right) f cdv A outer s H E).nox (defBody st__law_lies_right) (tS D__law_lies_right) :=
  (dss_cons (ds_set (i := 3) sc__law_lies_right.nd (dx_up (de_fz (cx_callIo (i := 0) c__law_draw (hr.mono (by decide)) (pv 0) (da_cons (de_lenS 1 Z.z_len (pv 1)) da_nil)))))
  (dss_cons (ds_set (i := 4) sc__law_lies_right.nd (dx_up (de_op or_add (de_op or_add (de_var 3 (pv 3)) de_int) (de_fz (cx_callIo (i := 0) c__law_draw (hr.mono (by decide)) (pv 0) (da_cons (de_op or_sub (de_lenS 1 Z.z_len (pv 1)) (de_var 3 (pv 3))) da_nil))))))
  (dss_cons (ds_set (i := 5) sc__law_lies_right.nd (dx_up (ce_call c__law_least hr (da_cons (de_slS 1 (pv 1) (do_pt (de_var 3 (pv 3))) (do_pt (de_var 4 (pv 4)))) da_nil))))
  (dss_cons (ds_if (dt_cmp or_gt (de_op or_mulS de_int (de_var 5 (pv 5))) (de_op or_sub (de_var 4 (pv 4)) (de_var 3 (pv 3))) (nomark _)) (dss_one (ds_ret (dx_up de_bl))) dss_nil)
  (dss_one (ds_ret (dx_up (de_cmp (or_eq hr) (de_count (de_fz (dx_lc rfl sc__law_lies_right.nd (own := [("_law_one", 6)]) (di_any (de_var 2 (pv 2))) (blkOk_by (N := ["_law_hand_here", "_law_text_here", "_law_some", "_law_begin", "_law_behind", "_law_period", "_law_one"]) (sc := defScope st__law_lies_right) (by decide +kernel)) (fun _ _ _ _ _ => (dg_name (i := 6) sc__law_lies_right.nd)) (fun _ _ _ _ _ => (pts_one (PW.pt (dw_and (dt_cmp or_le (de_ixS 6 (pv 6) de_int) (de_var 3 (pv 3)) (nomark _)) (dw_and1 (dt_cmp or_le (de_var 4 (pv 4)) (de_ixS 6 (pv 6) de_int) (nomark _))))))) (fun _ _ _ _ _ => (de_ixS 6 (pv 6) de_int)) (by decide))) (de_var 5 (pv 5))) de_int (nomark _)))))))))
theorem b__law_odd (c__law_draw : Cl P w K mg base "_law_draw" 1 ["_law_hand_here", "_law_many"] S__law_draw) (c__law_any : Cl P w K mg base "_law_any" 2 ["_law_hand_here", "_law_some"] S__law_any) (c__law_deep : Cl P w K mg base "_law_deep" 1 ["_law_many"] S__law_deep) (Z : Zs mg) (f : Addr) (cdv : Value) (A : Around) (outer : List PySem.Env) (s : Shared) (H : Hp) (E : XK) (hr : Room 2 (A.deeper (envOfC "_law_odd" (defScope st__law_odd) s.heap.objs.size f cdv))) :
    PSs (cxOf CX0 P w K mg base ["_law_hand_here", "_law_one", "_law_at", "_law_more", "_law_some"] "_law_odd" (defScope st__law_odd) f cdv A outer s H E).nox (defBody st__law_odd) (tS D__law_odd) :=
  (dss_cons (ds_par (i := 2) (j := 3) rfl sc__law_odd.nd rfl rfl (by decide) rfl rfl (da_cons (de_fz (cx_callIo (i := 0) c__law_draw (hr.mono (by decide)) (pv 0) (da_cons de_int da_nil))) (da_cons (de_fz (cx_callIo (i := 0) c__law_any hr (pv 0) (da_cons (de_fz (dx_lst (da_cons de_int (da_cons (de_un un_neg' de_int) (da_cons de_int da_nil))))) da_nil))) da_nil)))
  (dss_cons (ds_set (i := 4) sc__law_odd.nd (dx_up (de_fz (dx_lst (da_cons (de_op or_add (de_op or_add (de_slS 1 (pv 1) do_no (do_pt (de_var 2 (pv 2)))) (de_tup (da_cons (de_op or_add (de_ixS 1 (pv 1) (de_var 2 (pv 2))) (de_var 3 (pv 3))) da_nil))) (de_slS 1 (pv 1) (do_pt (de_op or_add (de_var 2 (pv 2)) de_int)) do_no)) (da_cons (de_fz (dx_cty cr_list Z.z_list (da_cons (de_var 1 (pv 1)) da_nil))) (da_cons (de_slS 1 (pv 1) do_no (do_pt de_int)) (da_cons (de_op or_add (de_var 1 (pv 1)) (de_tup (da_cons de_int da_nil))) (da_cons (de_op or_add (de_tup (da_cons de_bl da_nil)) (de_slS 1 (pv 1) (do_pt de_int) do_no)) (da_cons de_non da_nil))))))))))
  (dss_one (ds_ret (dx_up (de_fz (cx_callIo (i := 0) c__law_any hr (pv 0) (da_cons (de_op or_add (de_var 4 (pv 4)) (de_fz (dx_lst (da_cons (de_op or_add (de_tup (da_cons (de_cty cr_strI Z.z_str (da_cons (de_ixS 1 (pv 1) de_int) da_nil)) da_nil)) (de_slS 1 (pv 1) (do_pt de_int) do_no)) (da_cons (de_tup (da_cons (de_var 1 (pv 1)) da_nil)) (da_cons (ce_call c__law_deep (hr.mono (by decide)) (da_cons de_int da_nil)) da_nil)))))) da_nil))))))))
theorem b_periods (c_check_text : Cl P w K mg base "check_text" 3 ["thing"] S_check_text) (c_border_lengths : Cl P w K mg base "border_lengths" 2 ["text"] S_border_lengths) (Z : Zs mg) (f : Addr) (cdv : Value) (A : Around) (outer : List PySem.Env) (s : Shared) (H : Hp) (E : XK) (hr : Room 3 (A.deeper (envOfC "periods" (defScope st_periods) s.heap.objs.size f cdv))) :
    PSs (cxOf CX0 P w K mg base ["text", "many"] "periods" (defScope st_periods) f cdv A outer s H E).nox (defBody st_periods) (tS D_periods) :=
  (dss_cons (ds_expr (ce_call c_check_text hr (da_cons (de_var 0 (pv 0)) da_nil)))
  (dss_cons (ds_if (dt_cmp (or_eq hr) (de_var 0 (pv 0)) (de_str []) (nomark _)) (dss_one (ds_ret (dx_up (de_tup da_nil)))) dss_nil)
  (dss_one (ds_ret (dx_up (de_cty cr_tuple Z.z_tuple (da_cons (de_op or_add (de_fz (dx_lc rfl sc_periods.nd (own := [("many", 1)]) (di_any (de_fz (dx_rev (de_fz (cx_call c_border_lengths (hr.mono (by decide)) (da_cons (de_var 0 (pv 0)) da_nil)))))) (blkOk_by (N := ["text", "many"]) (sc := defScope st_periods) (by decide +kernel)) (fun _ _ _ _ _ => (dg_name (i := 1) sc_periods.nd)) (fun _ _ _ _ _ => dts_nil) (fun _ _ _ _ _ => (de_op or_sub (de_lenS 0 Z.z_len (pv 0)) (de_var 1 (pv 1)))) (by decide))) (de_fz (dx_lst (da_cons (de_lenS 0 Z.z_len (pv 0)) da_nil)))) da_nil)))))))
theorem b_borders (c_check_text : Cl P w K mg base "check_text" 3 ["thing"] S_check_text) (c_border_lengths : Cl P w K mg base "border_lengths" 2 ["text"] S_border_lengths) (Z : Zs mg) (f : Addr) (cdv : Value) (A : Around) (outer : List PySem.Env) (s : Shared) (H : Hp) (E : XK) (hr : Room 3 (A.deeper (envOfC "borders" (defScope st_borders) s.heap.objs.size f cdv))) :
    PSs (cxOf CX0 P w K mg base ["text", "many"] "borders" (defScope st_borders) f cdv A outer s H E).nox (defBody st_borders) (tS D_borders) :=
  (dss_cons (ds_expr (ce_call c_check_text hr (da_cons (de_var 0 (pv 0)) da_nil)))
  (dss_one (ds_ret (dx_lc rfl sc_borders.nd (own := [("many", 1)]) (di_any (de_fz (cx_call c_border_lengths (hr.mono (by decide)) (da_cons (de_var 0 (pv 0)) da_nil)))) (blkOk_by (N := ["text", "many"]) (sc := defScope st_borders) (by decide +kernel)) (fun _ _ _ _ _ => (dg_name (i := 1) sc_borders.nd)) (fun _ _ _ _ _ => dts_nil) (fun _ _ _ _ _ => (de_slS 0 (pv 0) do_no (do_pt (de_var 1 (pv 1))))) (by decide)))))
theorem b_runs (c_check_text : Cl P w K mg base "check_text" 3 ["thing"] S_check_text) (c_all_runs : Cl P w K mg base "all_runs" 2 ["text"] S_all_runs) (Z : Zs mg) (f : Addr) (cdv : Value) (A : Around) (outer : List PySem.Env) (s : Shared) (H : Hp) (E : XK) (hr : Room 3 (A.deeper (envOfC "runs" (defScope st_runs) s.heap.objs.size f cdv))) :
    PSs (cxOf CX0 P w K mg base ["text"] "runs" (defScope st_runs) f cdv A outer s H E).nox (defBody st_runs) (tS D_runs) :=
  (dss_cons (ds_expr (ce_call c_check_text hr (da_cons (de_var 0 (pv 0)) da_nil)))
  (dss_one (ds_ret (cx_call c_all_runs (hr.mono (by decide)) (da_cons (de_var 0 (pv 0)) da_nil)))))
theorem b_is_run (c_check_text : Cl P w K mg base "check_text" 3 ["thing"] S_check_text) (c_is_sized : Cl P w K mg base "is_sized" 1 ["thing", "least", "most"] S_is_sized) (c_is_below : Cl P w K mg base "is_below" 3 ["thing", "many"] S_is_below) (c_is_within : Cl P w K mg base "is_within" 2 ["thing", "least", "most"] S_is_within) (c_least_period : Cl P w K mg base "least_period" 2 ["text"] S_least_period) (c_has_period : Cl P w K mg base "has_period" 1 ["text", "period"] S_has_period) (Z : Zs mg) (f : Addr) (cdv : Value) (A : Around) (outer : List PySem.Env) (s : Shared) (H : Hp) (E : XK) (hr : Room 3 (A.deeper (envOfC "is_run" (defScope st_is_run) s.heap.objs.size f cdv))) :
    PSs (cxOf CX0 P w K mg base ["text", "thing", "begin", "behind", "period"] "is_run" (defScope st_is_run) f cdv A outer s H E).nox (defBody st_is_run) (tS D_is_run) :=
  (dss_cons (ds_expr (ce_call c_check_text hr (da_cons (de_var 0 (pv 0)) da_nil)))
  (dss_cons (ds_if (PW.pt (dw_or (dt_not (dt_val (ce_call c_is_sized (hr.mono (by decide)) (da_cons (de_var 1 (pv 1)) (da_cons de_int (da_cons de_int da_nil)))))) (dw_or1 (dt_not (dt_val (ce_call c_is_below hr (da_cons (de_ixS 1 (pv 1) de_int) (da_cons (de_lenS 0 Z.z_len (pv 0)) da_nil)))))))) (dss_one (ds_ret (dx_up de_bl))) dss_nil)
  (dss_cons (ds_if (dt_not (dt_val (ce_call c_is_within (hr.mono (by decide)) (da_cons (de_ixS 1 (pv 1) de_int) (da_cons (de_op or_add (de_ixS 1 (pv 1) de_int) de_int) (da_cons (de_lenS 0 Z.z_len (pv 0)) da_nil)))))) (dss_one (ds_ret (dx_up de_bl))) dss_nil)
  (dss_cons (ds_asg (de_var 1 (pv 1)) (dg_tup rfl (dgs_cons (dg_name (i := 2) sc_is_run.nd) (dgs_cons (dg_name (i := 3) sc_is_run.nd) (dgs_cons (dg_name (i := 4) sc_is_run.nd) dgs_nil)))))
  (dss_cons (ds_if (PW.pt (dw_or (dt_not (dt_val (ce_call c_is_within (hr.mono (by decide)) (da_cons (de_var 4 (pv 4)) (da_cons de_int (da_cons (de_op or_fdiv (de_op or_sub (de_var 3 (pv 3)) (de_var 2 (pv 2))) de_int) da_nil)))))) (dw_or1 (dt_cmp (or_ne hr) (ce_call c_least_period (hr.mono (by decide)) (da_cons (de_slS 0 (pv 0) (do_pt (de_var 2 (pv 2))) (do_pt (de_var 3 (pv 3)))) da_nil)) (de_var 4 (pv 4)) (nomark _))))) (dss_one (ds_ret (dx_up de_bl))) dss_nil)
  (dss_cons (ds_if (PW.pt (dw_and (dt_cmp or_gt (de_var 2 (pv 2)) de_int (nomark _)) (dw_and1 (dt_val (ce_call c_has_period (hr.mono (by decide)) (da_cons (de_slS 0 (pv 0) (do_pt (de_op or_sub (de_var 2 (pv 2)) de_int)) (do_pt (de_var 3 (pv 3)))) (da_cons (de_var 4 (pv 4)) da_nil))))))) (dss_one (ds_ret (dx_up de_bl))) dss_nil)
  (dss_one (ds_ret (dx_up (de_or (de_cmp (or_eq hr) (de_var 3 (pv 3)) (de_lenS 0 Z.z_len (pv 0)) (nomark _)) (de_one (de_not (ce_call c_has_period (hr.mono (by decide)) (da_cons (de_slS 0 (pv 0) (do_pt (de_var 2 (pv 2))) (do_pt (de_op or_add (de_var 3 (pv 3)) de_int))) (da_cons (de_var 4 (pv 4)) da_nil)))))))))))))))
theorem b__law_runs (c__law_is_run : Cl P w K mg base "_law_is_run" 3 ["_law_text_here", "_law_begin", "_law_behind", "_law_period"] S__law_is_run) (Z : Zs mg) (f : Addr) (cdv : Value) (A : Around) (outer : List PySem.Env) (s : Shared) (H : Hp) (E : XK) (hr : Room 3 (A.deeper (envOfC "_law_runs" (defScope st__law_runs) s.heap.objs.size f cdv))) :
    PSs (cxOf CX0 P w K mg base ["_law_text_here", "_law_found", "_law_begin", "_law_period", "_law_behind"] "_law_runs" (defScope st__law_runs) f cdv A outer s H E).nox (defBody st__law_runs) (tS D__law_runs) :=
  (dss_cons (ds_set (i := 1) sc__law_runs.nd (dx_lst da_nil))
  (dss_cons (ds_for PassesOwn.never rfl (di_range1 (by rfl) Z.z_range (da_cons (de_lenS 0 Z.z_len (pv 0)) da_nil)) (dg_name (i := 2) sc__law_runs.nd) (dss_one (ds_for PassesOwn.never rfl (di_range2 (by rfl) Z.z_range (da_cons de_int (da_cons (de_op or_add (de_op or_fdiv (de_op or_sub (de_lenS 0 Z.z_len (pv 0)) (de_var 2 (pv 2))) de_int) de_int) da_nil))) (dg_name (i := 3) sc__law_runs.nd) (dss_cons (ds_set (i := 4) sc__law_runs.nd (dx_up (de_op or_add (de_var 2 (pv 2)) (de_var 3 (pv 3)))))
  (dss_cons (ds_while PassesOwn.never (PW.pt (dw_and (dt_cmp or_lt (de_var 4 (pv 4)) (de_lenS 0 Z.z_len (pv 0)) (nomark _)) (dw_and1 (dt_cmp (or_eq hr) (de_ixS 0 (pv 0) (de_var 4 (pv 4))) (de_ixS 0 (pv 0) (de_op or_sub (de_var 4 (pv 4)) (de_var 3 (pv 3)))) (nomark _))))) (dss_one (ds_set (i := 4) sc__law_runs.nd (dx_up (de_op or_add (de_var 4 (pv 4)) de_int)))))
  (dss_one (ds_if (dt_val (ce_call c__law_is_run hr (da_cons (de_var 0 (pv 0)) (da_cons (de_var 2 (pv 2)) (da_cons (de_var 4 (pv 4)) (da_cons (de_var 3 (pv 3)) da_nil)))))) (dss_one (ds_app 1 (pv 1) (de_tup (da_cons (de_var 2 (pv 2)) (da_cons (de_var 4 (pv 4)) (da_cons (de_var 3 (pv 3)) da_nil)))))) dss_nil)))))))
  (dss_one (ds_ret (dx_move 1 (pv 1))))))
theorem b__law_great_right (c__law_any : Cl P w K mg base "_law_any" 2 ["_law_hand_here", "_law_some"] S__law_any) (c_runs : Cl P w K mg base "runs" 4 ["text"] S_runs) (c_periods : Cl P w K mg base "periods" 4 ["text"] S_periods) (c_borders : Cl P w K mg base "borders" 4 ["text"] S_borders) (Z : Zs mg) (f : Addr) (cdv : Value) (A : Around) (outer : List PySem.Env) (s : Shared) (H : Hp) (E : XK) (hr : Room 4 (A.deeper (envOfC "_law_great_right" (defScope st__law_great_right) s.heap.objs.size f cdv))) :
    PSs (cxOf CX0 P w K mg base ["_law_hand_here", "_law_word", "_law_many", "_law_text_here", "_law_told"] "_law_great_right" (defScope st__law_great_right) f cdv A outer s H E).nox (defBody st__law_great_right) (tS D__law_great_right) :=
  (dss_cons (ds_set (i := 1) sc__law_great_right.nd (dx_up (de_fz (cx_callIo (i := 0) c__law_any (hr.mono (by decide)) (pv 0) (da_cons (de_fz (dx_lst (da_cons (de_str [97]) (da_cons (de_str [97, 98]) (da_cons (de_str [97, 98, 99]) (da_cons (de_str [98, 97, 32]) (da_cons (de_str [119, 120, 121, 122]) da_nil))))))) da_nil)))))
  (dss_cons (ds_set (i := 2) sc__law_great_right.nd (dx_up (de_fz (cx_callIo (i := 0) c__law_any (hr.mono (by decide)) (pv 0) (da_cons (de_fz (dx_lst (da_cons (de_op or_mulS de_int (de_lenS 1 Z.z_len (pv 1))) (da_cons (de_op or_add (de_op or_mulS de_int (de_lenS 1 Z.z_len (pv 1))) de_int) (da_cons de_int (da_cons de_int da_nil)))))) da_nil)))))
  (dss_cons (ds_set (i := 3) sc__law_great_right.nd (dx_up (de_sl (de_op or_mulS (de_var 1 (pv 1)) de_int) do_no (do_pt (de_cb (cr_max2 rfl) Z.z_max (da_cons (de_var 2 (pv 2)) (da_cons (de_op or_mulS de_int (de_lenS 1 Z.z_len (pv 1))) da_nil)))))))
  (dss_cons (ds_if (dt_cmp (or_ne hr) (de_fz (cx_call c_runs hr (da_cons (de_var 3 (pv 3)) da_nil))) (de_fz (dx_lst (da_cons (de_tup (da_cons de_int (da_cons (de_lenS 3 Z.z_len (pv 3)) (da_cons (de_lenS 1 Z.z_len (pv 1)) da_nil)))) da_nil))) (nomark _)) (dss_one (ds_ret (dx_up de_bl))) dss_nil)
  (dss_cons (ds_set (i := 4) sc__law_great_right.nd (dx_up (ce_call c_periods hr (da_cons (de_var 3 (pv 3)) da_nil))))
  (dss_one (ds_ret (dx_up (de_and (de_cmp (or_eq hr) (de_slS 4 (pv 4) do_no (do_pt de_int)) (de_tup (da_cons (de_lenS 1 Z.z_len (pv 1)) da_nil)) (nomark _)) (de_and (de_cmp (or_eq hr) (de_slS 4 (pv 4) (do_pt (de_un un_neg' de_int)) do_no) (de_tup (da_cons (de_lenS 3 Z.z_len (pv 3)) da_nil)) (nomark _)) (de_one (de_cmp (or_eq hr) (de_sl (de_fz (cx_call c_borders hr (da_cons (de_var 3 (pv 3)) da_nil))) (do_pt (de_un un_neg' de_int)) do_no) (de_fz (dx_lst (da_cons (de_slS 3 (pv 3) (do_pt (de_lenS 1 Z.z_len (pv 1))) do_no) da_nil))) (nomark _)))))))))))))
theorem b_law {pre : List Int → Prop} {hd : List Int → D → Prop} {fH : Addr} {fdH : FuncData} (FH : FnOk P w K mg base CX0 1 fH fdH ["_law_script"] (spScr K pre hd)) (mH : mg "_law_hand" = some (.ref fH)) (kH : PySem.W.keepIn K (.ref fH) = true) (bH : Binds K fdH ["_law_script"] []) (c__law_text : Cl P w K mg base "_law_text" 3 ["_law_hand_here", "_law_signs_here", "_law_most"] S__law_text) (c__law_signs : Cl P w K mg base "_law_signs" 3 ["_law_hand_here"] S__law_signs) (c__law_runs : Cl P w K mg base "_law_runs" 4 ["_law_text_here"] S__law_runs) (c_runs : Cl P w K mg base "runs" 4 ["text"] S_runs) (c_periods : Cl P w K mg base "periods" 4 ["text"] S_periods) (c__law_has : Cl P w K mg base "_law_has" 1 ["_law_text_here", "_law_period"] S__law_has) (c_borders : Cl P w K mg base "borders" 4 ["text"] S_borders) (c__law_odd : Cl P w K mg base "_law_odd" 3 ["_law_hand_here", "_law_one"] S__law_odd) (c__law_is_int : Cl P w K mg base "_law_is_int" 1 ["_law_thing", "_law_least_here", "_law_most"] S__law_is_int) (c_is_run : Cl P w K mg base "is_run" 4 ["text", "thing"] S_is_run) (c__law_is_flag : Cl P w K mg base "_law_is_flag" 1 ["_law_told", "_law_due"] S__law_is_flag) (c__law_lies_right : Cl P w K mg base "_law_lies_right" 3 ["_law_hand_here", "_law_text_here", "_law_some"] S__law_lies_right) (c__law_draw : Cl P w K mg base "_law_draw" 1 ["_law_hand_here", "_law_many"] S__law_draw) (c__law_great_right : Cl P w K mg base "_law_great_right" 5 ["_law_hand_here"] S__law_great_right) (Z : Zs mg) (f : Addr) (cdv : Value) (A : Around) (outer : List PySem.Env) (s : Shared) (H : Hp) (E : XK) (hr : Room 5 (A.deeper (envOfC "law" (defScope st_law) s.heap.objs.size f cdv))) :
    PSs (cxOf CX0 P w K mg base ["_law_script", "_law_hand_here", "_law_turn", "_law_text_here", "_law_some", "_law_told", "_law_one", "_law_odd_here", "_law_is_so", "_law_again", "_law_period", "_law_many", "_law_part"] "law" (defScope st_law) f cdv A outer s H E).nox (defBody st_law) (tSeq (tAsg (tCall (spScr K pre hd) [] E0 (tCons (tVar 0) tNil)) (gName 1)) (tS D_law)) :=
  pss_cons (ps_set (i := 1) sc_law.nd rfl (by first | exact .inl rfl | exact .inr rfl) (pe_call FH (hr.mono (by decide)) (by rfl) mH kH bH .nil pass0 (pa_cons (pv 0) pa_nil)))
  (dss_cons (ds_for PassesOwn.never rfl (di_range1 (by rfl) Z.z_range (da_cons de_int da_nil)) (dg_name (i := 2) sc_law.nd) (dss_cons (ds_set (i := 3) sc_law.nd (dx_up (de_fz (cx_callIo (i := 1) c__law_text (hr.mono (by decide)) (pv 1) (da_cons (de_fz (cx_callIo (i := 1) c__law_signs (hr.mono (by decide)) (pv 1) da_nil)) (da_cons de_int da_nil))))))
  (dss_cons (ds_par (i := 4) (j := 5) rfl sc_law.nd rfl rfl (by decide) rfl rfl (da_cons (de_fz (cx_call c__law_runs (hr.mono (by decide)) (da_cons (de_var 3 (pv 3)) da_nil))) (da_cons (de_fz (cx_call c_runs (hr.mono (by decide)) (da_cons (de_var 3 (pv 3)) da_nil))) da_nil)))
  (dss_cons (ds_if (PW.pt (dw_or (dt_cmp (or_ne hr) (de_var 5 (pv 5)) (de_var 4 (pv 4)) (nomark _)) (dw_or1 (dt_not (dt_val (de_isi "list" (by decide +kernel) Z.z_isinstance Z.z_list (de_var 5 (pv 5)))))))) (dss_one (ds_ret (dx_up de_bl))) dss_nil)
  (dss_cons (ds_if (dt_cmp (or_ne hr) (ce_call c_periods (hr.mono (by decide)) (da_cons (de_var 3 (pv 3)) da_nil)) (de_cty cr_tuple Z.z_tuple (da_cons (de_fz (dx_lc rfl sc_law.nd (own := [("_law_period", 10)]) (di_range2 (by rfl) Z.z_range (da_cons de_int (da_cons (de_op or_add (de_lenS 3 Z.z_len (pv 3)) de_int) da_nil))) (blkOk_by (N := ["_law_script", "_law_hand_here", "_law_turn", "_law_text_here", "_law_some", "_law_told", "_law_one", "_law_odd_here", "_law_is_so", "_law_again", "_law_period", "_law_many", "_law_part"]) (sc := defScope st_law) (by decide +kernel)) (fun _ _ _ _ _ => (dg_name (i := 10) sc_law.nd)) (fun _ _ _ _ _ => (pts_one (dt_val (ce_call c__law_has (hr.mono (by decide)) (da_cons (de_var 3 (pv 3)) (da_cons (de_var 10 (pv 10)) da_nil)))))) (fun _ _ _ _ _ => (de_var 10 (pv 10))) (by decide))) da_nil)) (nomark _)) (dss_one (ds_ret (dx_up de_bl))) dss_nil)
  (dss_cons (ds_if (dt_cmp (or_ne hr) (de_fz (cx_call c_borders (hr.mono (by decide)) (da_cons (de_var 3 (pv 3)) da_nil))) (de_fz (dx_cb (cr_sortedL hr) Z.z_sorted (da_cons (de_fz (dx_lc rfl sc_law.nd (own := [("_law_many", 11)]) (di_range2 (by rfl) Z.z_range (da_cons de_int (da_cons (de_lenS 3 Z.z_len (pv 3)) da_nil))) (blkOk_by (N := ["_law_script", "_law_hand_here", "_law_turn", "_law_text_here", "_law_some", "_law_told", "_law_one", "_law_odd_here", "_law_is_so", "_law_again", "_law_period", "_law_many", "_law_part"]) (sc := defScope st_law) (by decide +kernel)) (fun _ _ _ _ _ => (dg_name (i := 11) sc_law.nd)) (fun _ _ _ _ _ => (pts_one (dt_cmp (or_eq hr) (de_slS 3 (pv 3) do_no (do_pt (de_var 11 (pv 11)))) (de_slS 3 (pv 3) (do_pt (de_un un_neg' (de_var 11 (pv 11)))) do_no) (nomark _)))) (fun _ _ _ _ _ => (de_slS 3 (pv 3) do_no (do_pt (de_var 11 (pv 11))))) (by decide))) da_nil))) (nomark _)) (dss_one (ds_ret (dx_up de_bl))) dss_nil)
  (dss_cons (ds_for PassesOwn.never rfl (di_any (de_slS 4 (pv 4) do_no (do_pt de_int))) (dg_name (i := 6) sc_law.nd) (dss_cons (ds_set (i := 7) sc_law.nd (dx_up (de_fz (cx_callIo (i := 1) c__law_odd (hr.mono (by decide)) (pv 1) (da_cons (de_var 6 (pv 6)) da_nil)))))
  (dss_cons (ds_set (i := 8) sc_law.nd (dx_up (de_and (de_isi "tuple" (by decide +kernel) Z.z_isinstance Z.z_tuple (de_var 7 (pv 7))) (de_and (de_inS 4 (or_inB hr) (de_var 7 (pv 7)) (pv 4)) (de_one (de_cb (cr_all' rfl) Z.z_all (da_cons (de_fz (dx_lc rfl sc_law.nd (own := [("_law_part", 12)]) (di_any (de_var 7 (pv 7))) (blkOk_by (N := ["_law_script", "_law_hand_here", "_law_turn", "_law_text_here", "_law_some", "_law_told", "_law_one", "_law_odd_here", "_law_is_so", "_law_again", "_law_period", "_law_many", "_law_part"]) (sc := defScope st_law) (by decide +kernel)) (fun _ _ _ _ _ => (dg_name (i := 12) sc_law.nd)) (fun _ _ _ _ _ => dts_nil) (fun _ _ _ _ _ => (ce_call c__law_is_int (hr.mono (by decide)) (da_cons (de_var 12 (pv 12)) (da_cons de_int (da_cons de_int da_nil))))) (by decide))) da_nil)))))))
  (dss_one (ds_if (PW.pt (dw_or (dt_cmp or_isN (ce_call c_is_run (hr.mono (by decide)) (da_cons (de_var 3 (pv 3)) (da_cons (de_var 6 (pv 6)) da_nil))) de_bl (nomark _)) (dw_or1 (dt_not (dt_val (ce_call c__law_is_flag (hr.mono (by decide)) (da_cons (ce_call c_is_run (hr.mono (by decide)) (da_cons (de_var 3 (pv 3)) (da_cons (de_var 7 (pv 7)) da_nil))) (da_cons (de_var 8 (pv 8)) da_nil)))))))) (dss_one (ds_ret (dx_up de_bl))) dss_nil)))))
  (dss_one (ds_for PassesOwn.never rfl (di_range1 (by rfl) Z.z_range (da_cons (de_op or_mulS de_int (de_cty cr_int Z.z_int (da_cons (de_cmp (or_ne hr) (de_var 3 (pv 3)) (de_str []) (nomark _)) da_nil))) da_nil)) (dg_name (i := 9) sc_law.nd) (dss_one (ds_if (dt_not (dt_val (de_fz (cx_callIo (i := 1) c__law_lies_right (hr.mono (by decide)) (pv 1) (da_cons (de_var 3 (pv 3)) (da_cons (de_var 4 (pv 4)) da_nil)))))) (dss_one (ds_ret (dx_up de_bl))) dss_nil)))))))))))
  (dss_one (ds_ret (dx_up (de_or (de_cmp or_gt (de_fz (cx_callIo (i := 1) c__law_draw (hr.mono (by decide)) (pv 1) (da_cons de_int da_nil))) de_int (nomark _)) (de_one (de_fz (cx_callIo (i := 1) c__law_great_right hr (pv 1) da_nil))))))))
end
section
set_option maxHeartbeats 0 in
theorem all_mk {P : Program} {w : World} {K : PySem.W.Frag} {h : Heap} {mg : Str → Option Value} {fa f1 f2 f3 f4 f5 f6 f7 f8 f9 f10 f11 f12 f13 f14 f15 f16 f17 f18 f19 f20 f21 f22 f23 f24 f25 f26 f27 f28 f29 f30 f31 f32 f33 : Addr} (X : K.In h) (G : h.Ns mainGlobals mg) (hfa : mg "law" = some (.ref fa))
    {od1 an1 od2 an2 od3 an3 od4 an4 od5 an5 od6 an6 od7 an7 od8 an8 od9 an9 od10 an10 od11 an11 od12 an12 od13 an13 od14 an14 od15 an15 od16 an16 od17 an17 od18 an18 od19 an19 od20 an20 od21 an21 od22 an22 od23 an23 od24 an24 od25 an25 od26 an26 od27 an27 od28 an28 od29 an29 od30 an30 od31 an31 od32 an32 od33 an33 : Option Addr} {sl1 sl2 sl3 sl4 sl5 sl6 sl7 sl8 sl9 sl10 sl11 sl12 sl13 sl14 sl15 sl16 sl17 sl18 sl19 sl20 sl21 sl22 sl23 sl24 sl25 sl26 sl27 sl28 sl29 sl30 sl31 sl32 sl33 : Array (Option Value)} {oc1 kV1 dc1 pm1 cd1 ct1 oc2 kV2 dc2 pm2 cd2 ct2 oc3 kV3 dc3 pm3 cd3 ct3 oc4 kV4 dc4 pm4 cd4 ct4 oc5 kV5 dc5 pm5 cd5 ct5 oc6 kV6 dc6 pm6 cd6 ct6 oc7 kV7 dc7 pm7 cd7 ct7 oc8 kV8 dc8 pm8 cd8 ct8 oc9 kV9 dc9 pm9 cd9 ct9 oc10 kV10 dc10 pm10 cd10 ct10 oc11 kV11 dc11 pm11 cd11 ct11 oc12 kV12 dc12 pm12 cd12 ct12 oc13 kV13 dc13 pm13 cd13 ct13 oc14 kV14 dc14 pm14 cd14 ct14 oc15 kV15 dc15 pm15 cd15 ct15 oc16 kV16 dc16 pm16 cd16 ct16 oc17 kV17 dc17 pm17 cd17 ct17 oc18 kV18 dc18 pm18 cd18 ct18 oc19 kV19 dc19 pm19 cd19 ct19 oc20 kV20 dc20 pm20 cd20 ct20 oc21 kV21 dc21 pm21 cd21 ct21 oc22 kV22 dc22 pm22 cd22 ct22 oc23 kV23 dc23 pm23 cd23 ct23 oc24 kV24 dc24 pm24 cd24 ct24 oc25 kV25 dc25 pm25 cd25 ct25 oc26 kV26 dc26 pm26 cd26 ct26 oc27 kV27 dc27 pm27 cd27 ct27 oc28 kV28 dc28 pm28 cd28 ct28 oc29 kV29 dc29 pm29 cd29 ct29 oc30 kV30 dc30 pm30 cd30 ct30 oc31 kV31 dc31 pm31 cd31 ct31 oc32 kV32 dc32 pm32 cd32 ct32 oc33 kV33 dc33 pm33 cd33 ct33 : Value} {t_FIRST_SIGN t_LAST_SIGN t_MOST_SIGNS : Tok}
    (a1 : PySem.W.nsIn K mainGlobals "is_integer" = some (some (.ref f1))) (l1 : K.lookup f1 = some ⟨oc1, od1, .func (PySem.W.fnOf "is_integer" "is_integer" (defArgs st_is_integer) (defBody st_is_integer) (defScope st_is_integer) .none kV1 dc1 pm1 an1 cd1 ct1), sl1⟩) (c1 : PySem.W.codeIn K cd1 "is_integer" = true) (k1 : PySem.W.keepIn K (.ref f1) = true)
    (a2 : PySem.W.nsIn K mainGlobals "is_within" = some (some (.ref f2))) (l2 : K.lookup f2 = some ⟨oc2, od2, .func (PySem.W.fnOf "is_within" "is_within" (defArgs st_is_within) (defBody st_is_within) (defScope st_is_within) .none kV2 dc2 pm2 an2 cd2 ct2), sl2⟩) (c2 : PySem.W.codeIn K cd2 "is_within" = true) (k2 : PySem.W.keepIn K (.ref f2) = true)
    (a3 : PySem.W.nsIn K mainGlobals "is_below" = some (some (.ref f3))) (l3 : K.lookup f3 = some ⟨oc3, od3, .func (PySem.W.fnOf "is_below" "is_below" (defArgs st_is_below) (defBody st_is_below) (defScope st_is_below) .none kV3 dc3 pm3 an3 cd3 ct3), sl3⟩) (c3 : PySem.W.codeIn K cd3 "is_below" = true) (k3 : PySem.W.keepIn K (.ref f3) = true)
    (a4 : PySem.W.nsIn K mainGlobals "is_sized" = some (some (.ref f4))) (l4 : K.lookup f4 = some ⟨oc4, od4, .func (PySem.W.fnOf "is_sized" "is_sized" (defArgs st_is_sized) (defBody st_is_sized) (defScope st_is_sized) .none kV4 dc4 pm4 an4 cd4 ct4), sl4⟩) (c4 : PySem.W.codeIn K cd4 "is_sized" = true) (k4 : PySem.W.keepIn K (.ref f4) = true)
    (a5 : PySem.W.nsIn K mainGlobals "are_signs" = some (some (.ref f5))) (l5 : K.lookup f5 = some ⟨oc5, od5, .func (PySem.W.fnOf "are_signs" "are_signs" (defArgs st_are_signs) (defBody st_are_signs) (defScope st_are_signs) .none kV5 dc5 pm5 an5 cd5 ct5), sl5⟩) (c5 : PySem.W.codeIn K cd5 "are_signs" = true) (k5 : PySem.W.keepIn K (.ref f5) = true)
    (a6 : PySem.W.nsIn K mainGlobals "is_text" = some (some (.ref f6))) (l6 : K.lookup f6 = some ⟨oc6, od6, .func (PySem.W.fnOf "is_text" "is_text" (defArgs st_is_text) (defBody st_is_text) (defScope st_is_text) .none kV6 dc6 pm6 an6 cd6 ct6), sl6⟩) (c6 : PySem.W.codeIn K cd6 "is_text" = true) (k6 : PySem.W.keepIn K (.ref f6) = true)
    (a7 : PySem.W.nsIn K mainGlobals "check_text" = some (some (.ref f7))) (l7 : K.lookup f7 = some ⟨oc7, od7, .func (PySem.W.fnOf "check_text" "check_text" (defArgs st_check_text) (defBody st_check_text) (defScope st_check_text) .none kV7 dc7 pm7 an7 cd7 ct7), sl7⟩) (c7 : PySem.W.codeIn K cd7 "check_text" = true) (k7 : PySem.W.keepIn K (.ref f7) = true)
    (a8 : PySem.W.nsIn K mainGlobals "front_lengths" = some (some (.ref f8))) (l8 : K.lookup f8 = some ⟨oc8, od8, .func (PySem.W.fnOf "front_lengths" "front_lengths" (defArgs st_front_lengths) (defBody st_front_lengths) (defScope st_front_lengths) .none kV8 dc8 pm8 an8 cd8 ct8), sl8⟩) (c8 : PySem.W.codeIn K cd8 "front_lengths" = true) (k8 : PySem.W.keepIn K (.ref f8) = true)
    (a9 : PySem.W.nsIn K mainGlobals "border_lengths" = some (some (.ref f9))) (l9 : K.lookup f9 = some ⟨oc9, od9, .func (PySem.W.fnOf "border_lengths" "border_lengths" (defArgs st_border_lengths) (defBody st_border_lengths) (defScope st_border_lengths) .none kV9 dc9 pm9 an9 cd9 ct9), sl9⟩) (c9 : PySem.W.codeIn K cd9 "border_lengths" = true) (k9 : PySem.W.keepIn K (.ref f9) = true)
    (a10 : PySem.W.nsIn K mainGlobals "periods" = some (some (.ref f10))) (l10 : K.lookup f10 = some ⟨oc10, od10, .func (PySem.W.fnOf "periods" "periods" (defArgs st_periods) (defBody st_periods) (defScope st_periods) .none kV10 dc10 pm10 an10 cd10 ct10), sl10⟩) (c10 : PySem.W.codeIn K cd10 "periods" = true) (k10 : PySem.W.keepIn K (.ref f10) = true)
    (a11 : PySem.W.nsIn K mainGlobals "borders" = some (some (.ref f11))) (l11 : K.lookup f11 = some ⟨oc11, od11, .func (PySem.W.fnOf "borders" "borders" (defArgs st_borders) (defBody st_borders) (defScope st_borders) .none kV11 dc11 pm11 an11 cd11 ct11), sl11⟩) (c11 : PySem.W.codeIn K cd11 "borders" = true) (k11 : PySem.W.keepIn K (.ref f11) = true)
    (a12 : PySem.W.nsIn K mainGlobals "like_stretches" = some (some (.ref f12))) (l12 : K.lookup f12 = some ⟨oc12, od12, .func (PySem.W.fnOf "like_stretches" "like_stretches" (defArgs st_like_stretches) (defBody st_like_stretches) (defScope st_like_stretches) .none kV12 dc12 pm12 an12 cd12 ct12), sl12⟩) (c12 : PySem.W.codeIn K cd12 "like_stretches" = true) (k12 : PySem.W.keepIn K (.ref f12) = true)
    (a13 : PySem.W.nsIn K mainGlobals "all_runs" = some (some (.ref f13))) (l13 : K.lookup f13 = some ⟨oc13, od13, .func (PySem.W.fnOf "all_runs" "all_runs" (defArgs st_all_runs) (defBody st_all_runs) (defScope st_all_runs) .none kV13 dc13 pm13 an13 cd13 ct13), sl13⟩) (c13 : PySem.W.codeIn K cd13 "all_runs" = true) (k13 : PySem.W.keepIn K (.ref f13) = true)
    (a14 : PySem.W.nsIn K mainGlobals "runs" = some (some (.ref f14))) (l14 : K.lookup f14 = some ⟨oc14, od14, .func (PySem.W.fnOf "runs" "runs" (defArgs st_runs) (defBody st_runs) (defScope st_runs) .none kV14 dc14 pm14 an14 cd14 ct14), sl14⟩) (c14 : PySem.W.codeIn K cd14 "runs" = true) (k14 : PySem.W.keepIn K (.ref f14) = true)
    (a15 : PySem.W.nsIn K mainGlobals "least_period" = some (some (.ref f15))) (l15 : K.lookup f15 = some ⟨oc15, od15, .func (PySem.W.fnOf "least_period" "least_period" (defArgs st_least_period) (defBody st_least_period) (defScope st_least_period) .none kV15 dc15 pm15 an15 cd15 ct15), sl15⟩) (c15 : PySem.W.codeIn K cd15 "least_period" = true) (k15 : PySem.W.keepIn K (.ref f15) = true)
    (a16 : PySem.W.nsIn K mainGlobals "has_period" = some (some (.ref f16))) (l16 : K.lookup f16 = some ⟨oc16, od16, .func (PySem.W.fnOf "has_period" "has_period" (defArgs st_has_period) (defBody st_has_period) (defScope st_has_period) .none kV16 dc16 pm16 an16 cd16 ct16), sl16⟩) (c16 : PySem.W.codeIn K cd16 "has_period" = true) (k16 : PySem.W.keepIn K (.ref f16) = true)
    (a17 : PySem.W.nsIn K mainGlobals "is_run" = some (some (.ref f17))) (l17 : K.lookup f17 = some ⟨oc17, od17, .func (PySem.W.fnOf "is_run" "is_run" (defArgs st_is_run) (defBody st_is_run) (defScope st_is_run) .none kV17 dc17 pm17 an17 cd17 ct17), sl17⟩) (c17 : PySem.W.codeIn K cd17 "is_run" = true) (k17 : PySem.W.keepIn K (.ref f17) = true)
    (a18 : PySem.W.nsIn K mainGlobals "_law_hand" = some (some (.ref f18))) (l18 : K.lookup f18 = some ⟨oc18, od18, .func (PySem.W.fnOf "_law_hand" "_law_hand" (defArgs st__law_hand) (defBody st__law_hand) (defScope st__law_hand) .none kV18 dc18 pm18 an18 cd18 ct18), sl18⟩) (c18 : PySem.W.codeIn K cd18 "_law_hand" = true) (k18 : PySem.W.keepIn K (.ref f18) = true)
    (a19 : PySem.W.nsIn K mainGlobals "_law_draw" = some (some (.ref f19))) (l19 : K.lookup f19 = some ⟨oc19, od19, .func (PySem.W.fnOf "_law_draw" "_law_draw" (defArgs st__law_draw) (defBody st__law_draw) (defScope st__law_draw) .none kV19 dc19 pm19 an19 cd19 ct19), sl19⟩) (c19 : PySem.W.codeIn K cd19 "_law_draw" = true) (k19 : PySem.W.keepIn K (.ref f19) = true)
    (a20 : PySem.W.nsIn K mainGlobals "_law_any" = some (some (.ref f20))) (l20 : K.lookup f20 = some ⟨oc20, od20, .func (PySem.W.fnOf "_law_any" "_law_any" (defArgs st__law_any) (defBody st__law_any) (defScope st__law_any) .none kV20 dc20 pm20 an20 cd20 ct20), sl20⟩) (c20 : PySem.W.codeIn K cd20 "_law_any" = true) (k20 : PySem.W.keepIn K (.ref f20) = true)
    (a21 : PySem.W.nsIn K mainGlobals "_law_is_int" = some (some (.ref f21))) (l21 : K.lookup f21 = some ⟨oc21, od21, .func (PySem.W.fnOf "_law_is_int" "_law_is_int" (defArgs st__law_is_int) (defBody st__law_is_int) (defScope st__law_is_int) .none kV21 dc21 pm21 an21 cd21 ct21), sl21⟩) (c21 : PySem.W.codeIn K cd21 "_law_is_int" = true) (k21 : PySem.W.keepIn K (.ref f21) = true)
    (a22 : PySem.W.nsIn K mainGlobals "_law_deep" = some (some (.ref f22))) (l22 : K.lookup f22 = some ⟨oc22, od22, .func (PySem.W.fnOf "_law_deep" "_law_deep" (defArgs st__law_deep) (defBody st__law_deep) (defScope st__law_deep) .none kV22 dc22 pm22 an22 cd22 ct22), sl22⟩) (c22 : PySem.W.codeIn K cd22 "_law_deep" = true) (k22 : PySem.W.keepIn K (.ref f22) = true)
    (a23 : PySem.W.nsIn K mainGlobals "_law_text" = some (some (.ref f23))) (l23 : K.lookup f23 = some ⟨oc23, od23, .func (PySem.W.fnOf "_law_text" "_law_text" (defArgs st__law_text) (defBody st__law_text) (defScope st__law_text) .none kV23 dc23 pm23 an23 cd23 ct23), sl23⟩) (c23 : PySem.W.codeIn K cd23 "_law_text" = true) (k23 : PySem.W.keepIn K (.ref f23) = true)
    (a24 : PySem.W.nsIn K mainGlobals "_law_signs" = some (some (.ref f24))) (l24 : K.lookup f24 = some ⟨oc24, od24, .func (PySem.W.fnOf "_law_signs" "_law_signs" (defArgs st__law_signs) (defBody st__law_signs) (defScope st__law_signs) .none kV24 dc24 pm24 an24 cd24 ct24), sl24⟩) (c24 : PySem.W.codeIn K cd24 "_law_signs" = true) (k24 : PySem.W.keepIn K (.ref f24) = true)
    (a25 : PySem.W.nsIn K mainGlobals "_law_is_flag" = some (some (.ref f25))) (l25 : K.lookup f25 = some ⟨oc25, od25, .func (PySem.W.fnOf "_law_is_flag" "_law_is_flag" (defArgs st__law_is_flag) (defBody st__law_is_flag) (defScope st__law_is_flag) .none kV25 dc25 pm25 an25 cd25 ct25), sl25⟩) (c25 : PySem.W.codeIn K cd25 "_law_is_flag" = true) (k25 : PySem.W.keepIn K (.ref f25) = true)
    (a26 : PySem.W.nsIn K mainGlobals "_law_has" = some (some (.ref f26))) (l26 : K.lookup f26 = some ⟨oc26, od26, .func (PySem.W.fnOf "_law_has" "_law_has" (defArgs st__law_has) (defBody st__law_has) (defScope st__law_has) .none kV26 dc26 pm26 an26 cd26 ct26), sl26⟩) (c26 : PySem.W.codeIn K cd26 "_law_has" = true) (k26 : PySem.W.keepIn K (.ref f26) = true)
    (a27 : PySem.W.nsIn K mainGlobals "_law_least" = some (some (.ref f27))) (l27 : K.lookup f27 = some ⟨oc27, od27, .func (PySem.W.fnOf "_law_least" "_law_least" (defArgs st__law_least) (defBody st__law_least) (defScope st__law_least) .none kV27 dc27 pm27 an27 cd27 ct27), sl27⟩) (c27 : PySem.W.codeIn K cd27 "_law_least" = true) (k27 : PySem.W.keepIn K (.ref f27) = true)
    (a28 : PySem.W.nsIn K mainGlobals "_law_is_run" = some (some (.ref f28))) (l28 : K.lookup f28 = some ⟨oc28, od28, .func (PySem.W.fnOf "_law_is_run" "_law_is_run" (defArgs st__law_is_run) (defBody st__law_is_run) (defScope st__law_is_run) .none kV28 dc28 pm28 an28 cd28 ct28), sl28⟩) (c28 : PySem.W.codeIn K cd28 "_law_is_run" = true) (k28 : PySem.W.keepIn K (.ref f28) = true)
    (a29 : PySem.W.nsIn K mainGlobals "_law_runs" = some (some (.ref f29))) (l29 : K.lookup f29 = some ⟨oc29, od29, .func (PySem.W.fnOf "_law_runs" "_law_runs" (defArgs st__law_runs) (defBody st__law_runs) (defScope st__law_runs) .none kV29 dc29 pm29 an29 cd29 ct29), sl29⟩) (c29 : PySem.W.codeIn K cd29 "_law_runs" = true) (k29 : PySem.W.keepIn K (.ref f29) = true)
    (a30 : PySem.W.nsIn K mainGlobals "_law_lies_right" = some (some (.ref f30))) (l30 : K.lookup f30 = some ⟨oc30, od30, .func (PySem.W.fnOf "_law_lies_right" "_law_lies_right" (defArgs st__law_lies_right) (defBody st__law_lies_right) (defScope st__law_lies_right) .none kV30 dc30 pm30 an30 cd30 ct30), sl30⟩) (c30 : PySem.W.codeIn K cd30 "_law_lies_right" = true) (k30 : PySem.W.keepIn K (.ref f30) = true)
    (a31 : PySem.W.nsIn K mainGlobals "_law_odd" = some (some (.ref f31))) (l31 : K.lookup f31 = some ⟨oc31, od31, .func (PySem.W.fnOf "_law_odd" "_law_odd" (defArgs st__law_odd) (defBody st__law_odd) (defScope st__law_odd) .none kV31 dc31 pm31 an31 cd31 ct31), sl31⟩) (c31 : PySem.W.codeIn K cd31 "_law_odd" = true) (k31 : PySem.W.keepIn K (.ref f31) = true)
    (a32 : PySem.W.nsIn K mainGlobals "_law_great_right" = some (some (.ref f32))) (l32 : K.lookup f32 = some ⟨oc32, od32, .func (PySem.W.fnOf "_law_great_right" "_law_great_right" (defArgs st__law_great_right) (defBody st__law_great_right) (defScope st__law_great_right) .none kV32 dc32 pm32 an32 cd32 ct32), sl32⟩) (c32 : PySem.W.codeIn K cd32 "_law_great_right" = true) (k32 : PySem.W.keepIn K (.ref f32) = true)
    (a33 : PySem.W.nsIn K mainGlobals "law" = some (some (.ref f33))) (l33 : K.lookup f33 = some ⟨oc33, od33, .func (PySem.W.fnOf "law" "law" (defArgs st_law) (defBody st_law) (defScope st_law) .none kV33 dc33 pm33 an33 cd33 ct33), sl33⟩) (c33 : PySem.W.codeIn K cd33 "law" = true) (k33 : PySem.W.keepIn K (.ref f33) = true)
    (z_isinstance : PySem.W.nsIn K mainGlobals "isinstance" = some none)
    (z_int : PySem.W.nsIn K mainGlobals "int" = some none)
    (z_bool : PySem.W.nsIn K mainGlobals "bool" = some none)
    (z_tuple : PySem.W.nsIn K mainGlobals "tuple" = some none)
    (z_len : PySem.W.nsIn K mainGlobals "len" = some none)
    (z_str : PySem.W.nsIn K mainGlobals "str" = some none)
    (z_all : PySem.W.nsIn K mainGlobals "all" = some none)
    (z_enumerate : PySem.W.nsIn K mainGlobals "enumerate" = some none)
    (z_range : PySem.W.nsIn K mainGlobals "range" = some none)
    (z_sorted : PySem.W.nsIn K mainGlobals "sorted" = some none)
    (z_abs : PySem.W.nsIn K mainGlobals "abs" = some none)
    (z_list : PySem.W.nsIn K mainGlobals "list" = some none)
    (z_max : PySem.W.nsIn K mainGlobals "max" = some none)
    (g_FIRST_SIGN : PySem.W.nsIn K mainGlobals "FIRST_SIGN" = some (some (.str " " t_FIRST_SIGN)))
    (g_LAST_SIGN : PySem.W.nsIn K mainGlobals "LAST_SIGN" = some (some (.str "~" t_LAST_SIGN)))
    (g_MOST_SIGNS : PySem.W.nsIn K mainGlobals "MOST_SIGNS" = some (some (.int 2000 t_MOST_SIGNS)))
    : ∃ fd : FuncData, (∀ (s : Shared) (v : Value), BindsTo s fd ⟨[v], []⟩ [("_law_script", v)]) ∧ ∀ base : Heap, K.In base → base.Ns mainGlobals mg → FnOk P w K mg base CX0 6 fa fd ["_law_script"] (spLawD K (fun ns => ns.length ≤ 63)) := by
  have e := hfa.symm.trans (PySem.W.mg_of X G a33)
  cases e
  have F1 := fun_mk (st := st_is_integer) l1 c1 k1
  have F2 := fun_mk (st := st_is_within) l2 c2 k2
  have F3 := fun_mk (st := st_is_below) l3 c3 k3
  have F4 := fun_mk (st := st_is_sized) l4 c4 k4
  have F5 := fun_mk (st := st_are_signs) l5 c5 k5
  have F6 := fun_mk (st := st_is_text) l6 c6 k6
  have F7 := fun_mk (st := st_check_text) l7 c7 k7
  have F8 := fun_mk (st := st_front_lengths) l8 c8 k8
  have F9 := fun_mk (st := st_border_lengths) l9 c9 k9
  have F10 := fun_mk (st := st_periods) l10 c10 k10
  have F11 := fun_mk (st := st_borders) l11 c11 k11
  have F12 := fun_mk (st := st_like_stretches) l12 c12 k12
  have F13 := fun_mk (st := st_all_runs) l13 c13 k13
  have F14 := fun_mk (st := st_runs) l14 c14 k14
  have F15 := fun_mk (st := st_least_period) l15 c15 k15
  have F16 := fun_mk (st := st_has_period) l16 c16 k16
  have F17 := fun_mk (st := st_is_run) l17 c17 k17
  have F18 := fun_mk (st := st__law_hand) l18 c18 k18
  have F19 := fun_mk (st := st__law_draw) l19 c19 k19
  have F20 := fun_mk (st := st__law_any) l20 c20 k20
  have F21 := fun_mk (st := st__law_is_int) l21 c21 k21
  have F22 := fun_mk (st := st__law_deep) l22 c22 k22
  have F23 := fun_mk (st := st__law_text) l23 c23 k23
  have F24 := fun_mk (st := st__law_signs) l24 c24 k24
  have F25 := fun_mk (st := st__law_is_flag) l25 c25 k25
  have F26 := fun_mk (st := st__law_has) l26 c26 k26
  have F27 := fun_mk (st := st__law_least) l27 c27 k27
  have F28 := fun_mk (st := st__law_is_run) l28 c28 k28
  have F29 := fun_mk (st := st__law_runs) l29 c29 k29
  have F30 := fun_mk (st := st__law_lies_right) l30 c30 k30
  have F31 := fun_mk (st := st__law_odd) l31 c31 k31
  have F32 := fun_mk (st := st__law_great_right) l32 c32 k32
  have F33 := fun_mk (st := st_law) l33 c33 k33
  have Z : Zs mg := ⟨PySem.W.mg_none_of X G z_isinstance, PySem.W.mg_none_of X G z_int, PySem.W.mg_none_of X G z_bool, PySem.W.mg_none_of X G z_tuple, PySem.W.mg_none_of X G z_len, PySem.W.mg_none_of X G z_str, PySem.W.mg_none_of X G z_all, PySem.W.mg_none_of X G z_enumerate, PySem.W.mg_none_of X G z_range, PySem.W.mg_none_of X G z_sorted, PySem.W.mg_none_of X G z_abs, PySem.W.mg_none_of X G z_list, PySem.W.mg_none_of X G z_max, ⟨_, PySem.W.mg_of X G g_FIRST_SIGN⟩, ⟨_, PySem.W.mg_of X G g_LAST_SIGN⟩, ⟨_, PySem.W.mg_of X G g_MOST_SIGNS⟩⟩
  refine ⟨PySem.W.fnOf "law" "law" (defArgs st_law) (defBody st_law) (defScope st_law) .none kV33 dc33 pm33 an33 cd33 ct33, fun s v => .of_eq rfl, fun base _ _ => ?_⟩
  have B1 : Binds K _ ["thing"] [] := F1.binds (ps := ["thing"]) fun _ _ _ _ _ _ us hl => match us, hl with | [_], _ => rfl
  have P1 : Pl K mg "is_integer" st_is_integer ["thing"] := ⟨_, _, F1, PySem.W.mg_of X G a1, B1⟩
  have r1 : Cl P w K mg base "is_integer" 1 ["thing"] S_is_integer := P1.cl (k := 0) sc_is_integer rfl (by decide) (fun f cdv A outer s H E hr => b_is_integer  Z f cdv A outer s H E hr) sem_is_integer
  have B4 : Binds K _ ["thing", "least", "most"] [] := F4.binds (ps := ["thing", "least", "most"]) fun _ _ _ _ _ _ us hl => match us, hl with | [_, _, _], _ => rfl
  have P4 : Pl K mg "is_sized" st_is_sized ["thing", "least", "most"] := ⟨_, _, F4, PySem.W.mg_of X G a4, B4⟩
  have r4 : Cl P w K mg base "is_sized" 1 ["thing", "least", "most"] S_is_sized := P4.cl (k := 0) sc_is_sized rfl (by decide) (fun f cdv A outer s H E hr => b_is_sized  Z f cdv A outer s H E hr) sem_is_sized
  have B5 : Binds K _ ["thing"] [] := F5.binds (ps := ["thing"]) fun _ _ _ _ _ _ us hl => match us, hl with | [_], _ => rfl
  have P5 : Pl K mg "are_signs" st_are_signs ["thing"] := ⟨_, _, F5, PySem.W.mg_of X G a5, B5⟩
  have r5 : Cl P w K mg base "are_signs" 1 ["thing"] S_are_signs := P5.cl (k := 0) sc_are_signs rfl (by decide) (fun f cdv A outer s H E hr => b_are_signs  Z f cdv A outer s H E hr) sem_are_signs
  have B8 : Binds K _ ["text"] [] := F8.binds (ps := ["text"]) fun _ _ _ _ _ _ us hl => match us, hl with | [_], _ => rfl
  have P8 : Pl K mg "front_lengths" st_front_lengths ["text"] := ⟨_, _, F8, PySem.W.mg_of X G a8, B8⟩
  have r8 : Cl P w K mg base "front_lengths" 1 ["text"] S_front_lengths := P8.cl (k := 0) sc_front_lengths rfl (by decide) (fun f cdv A outer s H E hr => b_front_lengths  Z f cdv A outer s H E hr) sem_front_lengths
  have B12 : Binds K _ ["text", "period"] [] := F12.binds (ps := ["text", "period"]) fun _ _ _ _ _ _ us hl => match us, hl with | [_, _], _ => rfl
  have P12 : Pl K mg "like_stretches" st_like_stretches ["text", "period"] := ⟨_, _, F12, PySem.W.mg_of X G a12, B12⟩
  have r12 : Cl P w K mg base "like_stretches" 1 ["text", "period"] S_like_stretches := P12.cl (k := 0) sc_like_stretches rfl (by decide) (fun f cdv A outer s H E hr => b_like_stretches  Z f cdv A outer s H E hr) sem_like_stretches
  have B16 : Binds K _ ["text", "period"] [] := F16.binds (ps := ["text", "period"]) fun _ _ _ _ _ _ us hl => match us, hl with | [_, _], _ => rfl
  have P16 : Pl K mg "has_period" st_has_period ["text", "period"] := ⟨_, _, F16, PySem.W.mg_of X G a16, B16⟩
  have r16 : Cl P w K mg base "has_period" 1 ["text", "period"] S_has_period := P16.cl (k := 0) sc_has_period rfl (by decide) (fun f cdv A outer s H E hr => b_has_period  Z f cdv A outer s H E hr) sem_has_period
  have B18 : Binds K _ ["_law_script"] [] := F18.binds (ps := ["_law_script"]) fun _ _ _ _ _ _ us hl => match us, hl with | [_], _ => rfl
  have FH : FnOk P w K mg base CX0 1 f18 _ ["_law_script"] (spScr K (fun ns => ns.length ≤ 63) hdR) := hand_ok (k := 0) F18 sc__law_hand (by decide) (fun a ns hz cdv A outer s H E' hS hr => b__law_hand  hz Z _ cdv A outer s H E' hS hr) sem__law_hand
  have B19 : Binds K _ ["_law_hand_here", "_law_many"] [] := F19.binds (ps := ["_law_hand_here", "_law_many"]) fun _ _ _ _ _ _ us hl => match us, hl with | [_, _], _ => rfl
  have P19 : Pl K mg "_law_draw" st__law_draw ["_law_hand_here", "_law_many"] := ⟨_, _, F19, PySem.W.mg_of X G a19, B19⟩
  have r19 : Cl P w K mg base "_law_draw" 1 ["_law_hand_here", "_law_many"] S__law_draw := P19.cl (k := 0) sc__law_draw rfl (by decide) (fun f cdv A outer s H E hr => b__law_draw  Z f cdv A outer s H E hr) sem__law_draw
  have B21 : Binds K _ ["_law_thing", "_law_least_here", "_law_most"] [] := F21.binds (ps := ["_law_thing", "_law_least_here", "_law_most"]) fun _ _ _ _ _ _ us hl => match us, hl with | [_, _, _], _ => rfl
  have P21 : Pl K mg "_law_is_int" st__law_is_int ["_law_thing", "_law_least_here", "_law_most"] := ⟨_, _, F21, PySem.W.mg_of X G a21, B21⟩
  have r21 : Cl P w K mg base "_law_is_int" 1 ["_law_thing", "_law_least_here", "_law_most"] S__law_is_int := P21.cl (k := 0) sc__law_is_int rfl (by decide) (fun f cdv A outer s H E hr => b__law_is_int  Z f cdv A outer s H E hr) sem__law_is_int
  have B22 : Binds K _ ["_law_many"] [] := F22.binds (ps := ["_law_many"]) fun _ _ _ _ _ _ us hl => match us, hl with | [_], _ => rfl
  have P22 : Pl K mg "_law_deep" st__law_deep ["_law_many"] := ⟨_, _, F22, PySem.W.mg_of X G a22, B22⟩
  have r22 : Cl P w K mg base "_law_deep" 1 ["_law_many"] S__law_deep := P22.cl (k := 0) sc__law_deep rfl (by decide) (fun f cdv A outer s H E hr => b__law_deep  Z f cdv A outer s H E hr) sem__law_deep
  have B25 : Binds K _ ["_law_told", "_law_due"] [] := F25.binds (ps := ["_law_told", "_law_due"]) fun _ _ _ _ _ _ us hl => match us, hl with | [_, _], _ => rfl
  have P25 : Pl K mg "_law_is_flag" st__law_is_flag ["_law_told", "_law_due"] := ⟨_, _, F25, PySem.W.mg_of X G a25, B25⟩
  have r25 : Cl P w K mg base "_law_is_flag" 1 ["_law_told", "_law_due"] S__law_is_flag := P25.cl (k := 0) sc__law_is_flag rfl (by decide) (fun f cdv A outer s H E hr => b__law_is_flag  Z f cdv A outer s H E hr) sem__law_is_flag
  have B26 : Binds K _ ["_law_text_here", "_law_period"] [] := F26.binds (ps := ["_law_text_here", "_law_period"]) fun _ _ _ _ _ _ us hl => match us, hl with | [_, _], _ => rfl
  have P26 : Pl K mg "_law_has" st__law_has ["_law_text_here", "_law_period"] := ⟨_, _, F26, PySem.W.mg_of X G a26, B26⟩
  have r26 : Cl P w K mg base "_law_has" 1 ["_law_text_here", "_law_period"] S__law_has := P26.cl (k := 0) sc__law_has rfl (by decide) (fun f cdv A outer s H E hr => b__law_has  Z f cdv A outer s H E hr) sem__law_has
  have B2 : Binds K _ ["thing", "least", "most"] [] := F2.binds (ps := ["thing", "least", "most"]) fun _ _ _ _ _ _ us hl => match us, hl with | [_, _, _], _ => rfl
  have P2 : Pl K mg "is_within" st_is_within ["thing", "least", "most"] := ⟨_, _, F2, PySem.W.mg_of X G a2, B2⟩
  have r2 : Cl P w K mg base "is_within" 2 ["thing", "least", "most"] S_is_within := P2.cl (k := 1) sc_is_within rfl (by decide) (fun f cdv A outer s H E hr => b_is_within r1 Z f cdv A outer s H E hr) sem_is_within
  have B6 : Binds K _ ["thing"] [] := F6.binds (ps := ["thing"]) fun _ _ _ _ _ _ us hl => match us, hl with | [_], _ => rfl
  have P6 : Pl K mg "is_text" st_is_text ["thing"] := ⟨_, _, F6, PySem.W.mg_of X G a6, B6⟩
  have r6 : Cl P w K mg base "is_text" 2 ["thing"] S_is_text := P6.cl (k := 1) sc_is_text rfl (by decide) (fun f cdv A outer s H E hr => b_is_text r5 Z f cdv A outer s H E hr) sem_is_text
  have B9 : Binds K _ ["text"] [] := F9.binds (ps := ["text"]) fun _ _ _ _ _ _ us hl => match us, hl with | [_], _ => rfl
  have P9 : Pl K mg "border_lengths" st_border_lengths ["text"] := ⟨_, _, F9, PySem.W.mg_of X G a9, B9⟩
  have r9 : Cl P w K mg base "border_lengths" 2 ["text"] S_border_lengths := P9.cl (k := 1) sc_border_lengths rfl (by decide) (fun f cdv A outer s H E hr => b_border_lengths r8 Z f cdv A outer s H E hr) sem_border_lengths
  have B13 : Binds K _ ["text"] [] := F13.binds (ps := ["text"]) fun _ _ _ _ _ _ us hl => match us, hl with | [_], _ => rfl
  have P13 : Pl K mg "all_runs" st_all_runs ["text"] := ⟨_, _, F13, PySem.W.mg_of X G a13, B13⟩
  have r13 : Cl P w K mg base "all_runs" 2 ["text"] S_all_runs := P13.cl (k := 1) sc_all_runs rfl (by decide) (fun f cdv A outer s H E hr => b_all_runs r12 Z f cdv A outer s H E hr) sem_all_runs
  have B15 : Binds K _ ["text"] [] := F15.binds (ps := ["text"]) fun _ _ _ _ _ _ us hl => match us, hl with | [_], _ => rfl
  have P15 : Pl K mg "least_period" st_least_period ["text"] := ⟨_, _, F15, PySem.W.mg_of X G a15, B15⟩
  have r15 : Cl P w K mg base "least_period" 2 ["text"] S_least_period := P15.cl (k := 1) sc_least_period rfl (by decide) (fun f cdv A outer s H E hr => b_least_period r8 Z f cdv A outer s H E hr) sem_least_period
  have B20 : Binds K _ ["_law_hand_here", "_law_some"] [] := F20.binds (ps := ["_law_hand_here", "_law_some"]) fun _ _ _ _ _ _ us hl => match us, hl with | [_, _], _ => rfl
  have P20 : Pl K mg "_law_any" st__law_any ["_law_hand_here", "_law_some"] := ⟨_, _, F20, PySem.W.mg_of X G a20, B20⟩
  have r20 : Cl P w K mg base "_law_any" 2 ["_law_hand_here", "_law_some"] S__law_any := P20.cl (k := 1) sc__law_any rfl (by decide) (fun f cdv A outer s H E hr => b__law_any r19 Z f cdv A outer s H E hr) sem__law_any
  have B27 : Binds K _ ["_law_text_here"] [] := F27.binds (ps := ["_law_text_here"]) fun _ _ _ _ _ _ us hl => match us, hl with | [_], _ => rfl
  have P27 : Pl K mg "_law_least" st__law_least ["_law_text_here"] := ⟨_, _, F27, PySem.W.mg_of X G a27, B27⟩
  have r27 : Cl P w K mg base "_law_least" 2 ["_law_text_here"] S__law_least := P27.cl (k := 1) sc__law_least rfl (by decide) (fun f cdv A outer s H E hr => b__law_least r26 Z f cdv A outer s H E hr) sem__law_least
  have B3 : Binds K _ ["thing", "many"] [] := F3.binds (ps := ["thing", "many"]) fun _ _ _ _ _ _ us hl => match us, hl with | [_, _], _ => rfl
  have P3 : Pl K mg "is_below" st_is_below ["thing", "many"] := ⟨_, _, F3, PySem.W.mg_of X G a3, B3⟩
  have r3 : Cl P w K mg base "is_below" 3 ["thing", "many"] S_is_below := P3.cl (k := 2) sc_is_below rfl (by decide) (fun f cdv A outer s H E hr => b_is_below r2 Z f cdv A outer s H E hr) sem_is_below
  have B7 : Binds K _ ["thing"] [] := F7.binds (ps := ["thing"]) fun _ _ _ _ _ _ us hl => match us, hl with | [_], _ => rfl
  have P7 : Pl K mg "check_text" st_check_text ["thing"] := ⟨_, _, F7, PySem.W.mg_of X G a7, B7⟩
  have r7 : Cl P w K mg base "check_text" 3 ["thing"] S_check_text := P7.cl (k := 2) sc_check_text rfl (by decide) (fun f cdv A outer s H E hr => b_check_text r6 Z f cdv A outer s H E hr) sem_check_text
  have B23 : Binds K _ ["_law_hand_here", "_law_signs_here", "_law_most"] [] := F23.binds (ps := ["_law_hand_here", "_law_signs_here", "_law_most"]) fun _ _ _ _ _ _ us hl => match us, hl with | [_, _, _], _ => rfl
  have P23 : Pl K mg "_law_text" st__law_text ["_law_hand_here", "_law_signs_here", "_law_most"] := ⟨_, _, F23, PySem.W.mg_of X G a23, B23⟩
  have r23 : Cl P w K mg base "_law_text" 3 ["_law_hand_here", "_law_signs_here", "_law_most"] S__law_text := P23.cl (k := 2) sc__law_text rfl (by decide) (fun f cdv A outer s H E hr => b__law_text r19 r20 Z f cdv A outer s H E hr) sem__law_text
  have B24 : Binds K _ ["_law_hand_here"] [] := F24.binds (ps := ["_law_hand_here"]) fun _ _ _ _ _ _ us hl => match us, hl with | [_], _ => rfl
  have P24 : Pl K mg "_law_signs" st__law_signs ["_law_hand_here"] := ⟨_, _, F24, PySem.W.mg_of X G a24, B24⟩
  have r24 : Cl P w K mg base "_law_signs" 3 ["_law_hand_here"] S__law_signs := P24.cl (k := 2) sc__law_signs rfl (by decide) (fun f cdv A outer s H E hr => b__law_signs r20 Z f cdv A outer s H E hr) sem__law_signs
  have B28 : Binds K _ ["_law_text_here", "_law_begin", "_law_behind", "_law_period"] [] := F28.binds (ps := ["_law_text_here", "_law_begin", "_law_behind", "_law_period"]) fun _ _ _ _ _ _ us hl => match us, hl with | [_, _, _, _], _ => rfl
  have P28 : Pl K mg "_law_is_run" st__law_is_run ["_law_text_here", "_law_begin", "_law_behind", "_law_period"] := ⟨_, _, F28, PySem.W.mg_of X G a28, B28⟩
  have r28 : Cl P w K mg base "_law_is_run" 3 ["_law_text_here", "_law_begin", "_law_behind", "_law_period"] S__law_is_run := P28.cl (k := 2) sc__law_is_run rfl (by decide) (fun f cdv A outer s H E hr => b__law_is_run r27 r26 Z f cdv A outer s H E hr) sem__law_is_run
  have B30 : Binds K _ ["_law_hand_here", "_law_text_here", "_law_some"] [] := F30.binds (ps := ["_law_hand_here", "_law_text_here", "_law_some"]) fun _ _ _ _ _ _ us hl => match us, hl with | [_, _, _], _ => rfl
  have P30 : Pl K mg "_law_lies_right" st__law_lies_right ["_law_hand_here", "_law_text_here", "_law_some"] := ⟨_, _, F30, PySem.W.mg_of X G a30, B30⟩
  have r30 : Cl P w K mg base "_law_lies_right" 3 ["_law_hand_here", "_law_text_here", "_law_some"] S__law_lies_right := P30.cl (k := 2) sc__law_lies_right rfl (by decide) (fun f cdv A outer s H E hr => b__law_lies_right r19 r27 Z f cdv A outer s H E hr) sem__law_lies_right
  have B31 : Binds K _ ["_law_hand_here", "_law_one"] [] := F31.binds (ps := ["_law_hand_here", "_law_one"]) fun _ _ _ _ _ _ us hl => match us, hl with | [_, _], _ => rfl
  have P31 : Pl K mg "_law_odd" st__law_odd ["_law_hand_here", "_law_one"] := ⟨_, _, F31, PySem.W.mg_of X G a31, B31⟩
  have r31 : Cl P w K mg base "_law_odd" 3 ["_law_hand_here", "_law_one"] S__law_odd := P31.cl (k := 2) sc__law_odd rfl (by decide) (fun f cdv A outer s H E hr => b__law_odd r19 r20 r22 Z f cdv A outer s H E hr) sem__law_odd
  have B10 : Binds K _ ["text"] [] := F10.binds (ps := ["text"]) fun _ _ _ _ _ _ us hl => match us, hl with | [_], _ => rfl
  have P10 : Pl K mg "periods" st_periods ["text"] := ⟨_, _, F10, PySem.W.mg_of X G a10, B10⟩
  have r10 : Cl P w K mg base "periods" 4 ["text"] S_periods := P10.cl (k := 3) sc_periods rfl (by decide) (fun f cdv A outer s H E hr => b_periods r7 r9 Z f cdv A outer s H E hr) sem_periods
  have B11 : Binds K _ ["text"] [] := F11.binds (ps := ["text"]) fun _ _ _ _ _ _ us hl => match us, hl with | [_], _ => rfl
  have P11 : Pl K mg "borders" st_borders ["text"] := ⟨_, _, F11, PySem.W.mg_of X G a11, B11⟩
  have r11 : Cl P w K mg base "borders" 4 ["text"] S_borders := P11.cl (k := 3) sc_borders rfl (by decide) (fun f cdv A outer s H E hr => b_borders r7 r9 Z f cdv A outer s H E hr) sem_borders
  have B14 : Binds K _ ["text"] [] := F14.binds (ps := ["text"]) fun _ _ _ _ _ _ us hl => match us, hl with | [_], _ => rfl
  have P14 : Pl K mg "runs" st_runs ["text"] := ⟨_, _, F14, PySem.W.mg_of X G a14, B14⟩
  have r14 : Cl P w K mg base "runs" 4 ["text"] S_runs := P14.cl (k := 3) sc_runs rfl (by decide) (fun f cdv A outer s H E hr => b_runs r7 r13 Z f cdv A outer s H E hr) sem_runs
  have B17 : Binds K _ ["text", "thing"] [] := F17.binds (ps := ["text", "thing"]) fun _ _ _ _ _ _ us hl => match us, hl with | [_, _], _ => rfl
  have P17 : Pl K mg "is_run" st_is_run ["text", "thing"] := ⟨_, _, F17, PySem.W.mg_of X G a17, B17⟩
  have r17 : Cl P w K mg base "is_run" 4 ["text", "thing"] S_is_run := P17.cl (k := 3) sc_is_run rfl (by decide) (fun f cdv A outer s H E hr => b_is_run r7 r4 r3 r2 r15 r16 Z f cdv A outer s H E hr) sem_is_run
  have B29 : Binds K _ ["_law_text_here"] [] := F29.binds (ps := ["_law_text_here"]) fun _ _ _ _ _ _ us hl => match us, hl with | [_], _ => rfl
  have P29 : Pl K mg "_law_runs" st__law_runs ["_law_text_here"] := ⟨_, _, F29, PySem.W.mg_of X G a29, B29⟩
  have r29 : Cl P w K mg base "_law_runs" 4 ["_law_text_here"] S__law_runs := P29.cl (k := 3) sc__law_runs rfl (by decide) (fun f cdv A outer s H E hr => b__law_runs r28 Z f cdv A outer s H E hr) sem__law_runs
  have B32 : Binds K _ ["_law_hand_here"] [] := F32.binds (ps := ["_law_hand_here"]) fun _ _ _ _ _ _ us hl => match us, hl with | [_], _ => rfl
  have P32 : Pl K mg "_law_great_right" st__law_great_right ["_law_hand_here"] := ⟨_, _, F32, PySem.W.mg_of X G a32, B32⟩
  have r32 : Cl P w K mg base "_law_great_right" 5 ["_law_hand_here"] S__law_great_right := P32.cl (k := 4) sc__law_great_right rfl (by decide) (fun f cdv A outer s H E hr => b__law_great_right r20 r14 r10 r11 Z f cdv A outer s H E hr) sem__law_great_right
  exact law_D (k := 5) (E := E0) F33 sc_law (by decide) (fun cdv A outer s H E' hr => b_law FH (PySem.W.mg_of X G a18) F18.kp B18 r23 r24 r29 r14 r10 r26 r11 r31 r21 r17 r25 r30 r19 r32 Z _ cdv A outer s H E' hr) sem_law
end
end DL
open PySem PySem.W PyProof.Rows
set_option maxHeartbeats 0 in
theorem PySem.Challenge.cw_everypiece_k42_whole_runs_periods_and_bo_holds : PySem.Challenge.rw_everypiece_k42_whole_runs_periods_and_bo.Holds := by
  w_on; o_law; k_head; (case hw => w_witness2)
  k_fill
  refine L2.walk_of (l := PySem.Challenge.rw_everypiece_k42_whole_runs_periods_and_bo) (n := 63) (k := 6) (x := "_law_script") (CX := fun _ => L2.CX0) (sp := fun w => DL.spLawD _ (fun ns => ns.length ≤ 63)) rfl (by decide) rfl ⟨rfl, by decide, by decide⟩ (fun w h Y => PySem.W.kIn_of Y) ?F (fun _ _ a ns hl hO hS => ⟨a, ns, rfl, DL.ScrAt.of hO hS, hl, fun _ => rfl⟩) (fun _ _ _ _ _ h => h)
  case F =>
    intro w mg fa h KX G hmg
    refine' DL.all_mk KX G hmg ?a1 ?l1 ?c1 ?k1 ?a2 ?l2 ?c2 ?k2 ?a3 ?l3 ?c3 ?k3 ?a4 ?l4 ?c4 ?k4 ?a5 ?l5 ?c5 ?k5 ?a6 ?l6 ?c6 ?k6 ?a7 ?l7 ?c7 ?k7 ?a8 ?l8 ?c8 ?k8 ?a9 ?l9 ?c9 ?k9 ?a10 ?l10 ?c10 ?k10 ?a11 ?l11 ?c11 ?k11 ?a12 ?l12 ?c12 ?k12 ?a13 ?l13 ?c13 ?k13 ?a14 ?l14 ?c14 ?k14 ?a15 ?l15 ?c15 ?k15 ?a16 ?l16 ?c16 ?k16 ?a17 ?l17 ?c17 ?k17 ?a18 ?l18 ?c18 ?k18 ?a19 ?l19 ?c19 ?k19 ?a20 ?l20 ?c20 ?k20 ?a21 ?l21 ?c21 ?k21 ?a22 ?l22 ?c22 ?k22 ?a23 ?l23 ?c23 ?k23 ?a24 ?l24 ?c24 ?k24 ?a25 ?l25 ?c25 ?k25 ?a26 ?l26 ?c26 ?k26 ?a27 ?l27 ?c27 ?k27 ?a28 ?l28 ?c28 ?k28 ?a29 ?l29 ?c29 ?k29 ?a30 ?l30 ?c30 ?k30 ?a31 ?l31 ?c31 ?k31 ?a32 ?l32 ?c32 ?k32 ?a33 ?l33 ?c33 ?k33 ?z_isinstance ?z_int ?z_bool ?z_tuple ?z_len ?z_str ?z_all ?z_enumerate ?z_range ?z_sorted ?z_abs ?z_list ?z_max ?g_FIRST_SIGN ?g_LAST_SIGN ?g_MOST_SIGNS
    (case a1 => k_is)
    (case l1 => k_is)
    (case c1 => k_is)
    (case k1 => k_is)
    (case a2 => k_is)
    (case l2 => k_is)
    (case c2 => k_is)
    (case k2 => k_is)
    (case a3 => k_is)
    (case l3 => k_is)
    (case c3 => k_is)
    (case k3 => k_is)
    (case a4 => k_is)
    (case l4 => k_is)
    (case c4 => k_is)
    (case k4 => k_is)
    (case a5 => k_is)
    (case l5 => k_is)
    (case c5 => k_is)
    (case k5 => k_is)
    (case a6 => k_is)
    (case l6 => k_is)
    (case c6 => k_is)
    (case k6 => k_is)
    (case a7 => k_is)
    (case l7 => k_is)
    (case c7 => k_is)
    (case k7 => k_is)
    (case a8 => k_is)
    (case l8 => k_is)
    (case c8 => k_is)
    (case k8 => k_is)
    (case a9 => k_is)
    (case l9 => k_is)
    (case c9 => k_is)
    (case k9 => k_is)
    (case a10 => k_is)
    (case l10 => k_is)
    (case c10 => k_is)
    (case k10 => k_is)
    (case a11 => k_is)
    (case l11 => k_is)
    (case c11 => k_is)
    (case k11 => k_is)
    (case a12 => k_is)
    (case l12 => k_is)
    (case c12 => k_is)
    (case k12 => k_is)
    (case a13 => k_is)
    (case l13 => k_is)
    (case c13 => k_is)
    (case k13 => k_is)
    (case a14 => k_is)
    (case l14 => k_is)
    (case c14 => k_is)
    (case k14 => k_is)
    (case a15 => k_is)
    (case l15 => k_is)
    (case c15 => k_is)
    (case k15 => k_is)
    (case a16 => k_is)
    (case l16 => k_is)
    (case c16 => k_is)
    (case k16 => k_is)
    (case a17 => k_is)
    (case l17 => k_is)
    (case c17 => k_is)
    (case k17 => k_is)
    (case a18 => k_is)
    (case l18 => k_is)
    (case c18 => k_is)
    (case k18 => k_is)
    (case a19 => k_is)
    (case l19 => k_is)
    (case c19 => k_is)
    (case k19 => k_is)
    (case a20 => k_is)
    (case l20 => k_is)
    (case c20 => k_is)
    (case k20 => k_is)
    (case a21 => k_is)
    (case l21 => k_is)
    (case c21 => k_is)
    (case k21 => k_is)
    (case a22 => k_is)
    (case l22 => k_is)
    (case c22 => k_is)
    (case k22 => k_is)
    (case a23 => k_is)
    (case l23 => k_is)
    (case c23 => k_is)
    (case k23 => k_is)
    (case a24 => k_is)
    (case l24 => k_is)
    (case c24 => k_is)
    (case k24 => k_is)
    (case a25 => k_is)
    (case l25 => k_is)
    (case c25 => k_is)
    (case k25 => k_is)
    (case a26 => k_is)
    (case l26 => k_is)
    (case c26 => k_is)
    (case k26 => k_is)
    (case a27 => k_is)
    (case l27 => k_is)
    (case c27 => k_is)
    (case k27 => k_is)
    (case a28 => k_is)
    (case l28 => k_is)
    (case c28 => k_is)
    (case k28 => k_is)
    (case a29 => k_is)
    (case l29 => k_is)
    (case c29 => k_is)
    (case k29 => k_is)
    (case a30 => k_is)
    (case l30 => k_is)
    (case c30 => k_is)
    (case k30 => k_is)
    (case a31 => k_is)
    (case l31 => k_is)
    (case c31 => k_is)
    (case k31 => k_is)
    (case a32 => k_is)
    (case l32 => k_is)
    (case c32 => k_is)
    (case k32 => k_is)
    (case a33 => k_is)
    (case l33 => k_is)
    (case c33 => k_is)
    (case k33 => k_is)
    (case z_isinstance => k_is)
    (case z_int => k_is)
    (case z_bool => k_is)
    (case z_tuple => k_is)
    (case z_len => k_is)
    (case z_str => k_is)
    (case z_all => k_is)
    (case z_enumerate => k_is)
    (case z_range => k_is)
    (case z_sorted => k_is)
    (case z_abs => k_is)
    (case z_list => k_is)
    (case z_max => k_is)
    (case g_FIRST_SIGN => k_is)
    (case g_LAST_SIGN => k_is)
    (case g_MOST_SIGNS => k_is)
