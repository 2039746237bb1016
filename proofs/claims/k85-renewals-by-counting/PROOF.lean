import PyProof.Rows.All
import Wide.All
import OpenK.AllK
import Wide.FinOn
import HandS.ForMost
import HandS.Walk
import HandS.Conv
import HandS.Flow
import HandS.Codes
import HandS.IsInst
import HandS.TupAny
import HandS.TupMul
import HandS.Star
import HandS.SortKw
import HandS.TupSets
import HandS.Zip
import HandS.SortRule
import HandS.SortInts
import HandS.Style
import KE.GoesEnum
import KE.KDictZip
import HandS.Slots
import PySem.Challenge.RW_anydlooks_k85_whole_renewals_by_counting
set_option Elab.async false
set_option linter.all false
set_option maxRecDepth 100000
set_option maxHeartbeats 8000000
/-! VX: a calculus over pure data on top of the hand layer. The heap is hidden: slots hold data (D), own lists (changed in place), or nothing. -/
namespace VX
open PySem PySem.Spec PyProof.Rows L2

/-- data: what never changes -/
inductive D where
  | non | bl (b : Bool) | int (i : Int) | str (s : Str) | tup (ts : List D) | lst (ts : List D) | scr (ts : List D)

mutual
inductive Rep (K : PySem.W.Frag) (H : Hp) : D → V → Prop
  | non : Rep K H .non .non
  | bl (b : Bool) : Rep K H (.bl b) (.bl b)
  | int (i : Int) : Rep K H (.int i) (.int i)
  | str (x : Str) : Rep K H (.str x) (.str x)
  | tup {a : Addr} {xs : List V} {ts : List D} : H a = some (.tup xs) → Reps K H ts xs → Rep K H (.tup ts) (.ref a)
  | lst {a : Addr} {xs : List V} {ts : List D} : H a = some (.lst xs) → Reps K H ts xs → Rep K H (.lst ts) (.ref a)
  | scr {a : Addr} {xs : List V} {ts : List D} : SqL K H a xs → Reps K H ts xs → Rep K H (.scr ts) (.ref a)
inductive Reps (K : PySem.W.Frag) (H : Hp) : List D → List V → Prop
  | nil : Reps K H [] []
  | cons {t : D} {v : V} {ts : List D} {vs : List V} : Rep K H t v → Reps K H ts vs → Reps K H (t :: ts) (v :: vs)
end

def Ex (H H' : Hp) : Prop := ∀ a o, H a = some o → H' a = some o
theorem Ex.refl (H : Hp) : Ex H H := fun _ _ h => h
theorem Ex.trans {H H1 H2 : Hp} (a : Ex H H1) (b : Ex H1 H2) : Ex H H2 := fun x o h => b x o (a x o h)
theorem Ex.new {H : Hp} {p : Addr} {o : HO} (h : H p = none) : Ex H (upd H p o) := fun a u e => by
  rw [upd_ne (ne_of_none e h)]
  exact e
theorem Ex.sq {K : PySem.W.Frag} {H H' : Hp} {a : Addr} {xs : List V} (e : Ex H H') (h : SqL K H a xs) : SqL K H' a xs := by
  rcases h with (h | ⟨o, h⟩) | h
  · exact .inl (.inl (e _ _ h))
  · exact .inl (.inr ⟨o, e _ _ h⟩)
  · exact .inr h

mutual
theorem Rep.ex {K : PySem.W.Frag} {H H' : Hp} (e : Ex H H') : ∀ {t : D} {v : V}, Rep K H t v → Rep K H' t v
  | _, _, .non => .non
  | _, _, .bl b => .bl b
  | _, _, .int i => .int i
  | _, _, .str x => .str x
  | _, _, .tup h r => .tup (e _ _ h) (Reps.ex e r)
  | _, _, .lst h r => .lst (e _ _ h) (Reps.ex e r)
  | _, _, .scr h r => .scr (e.sq h) (Reps.ex e r)
theorem Reps.ex {K : PySem.W.Frag} {H H' : Hp} (e : Ex H H') : ∀ {ts : List D} {vs : List V}, Reps K H ts vs → Reps K H' ts vs
  | _, _, .nil => .nil
  | _, _, .cons r s => .cons (Rep.ex e r) (Reps.ex e s)
end
section
variable {K : PySem.W.Frag} {H : Hp}
theorem Reps.len : ∀ {ts : List D} {vs : List V}, Reps K H ts vs → ts.length = vs.length
  | _, _, .nil => rfl
  | _, _, .cons _ s => congrArg (· + 1) s.len
theorem Reps.get : ∀ {ts : List D} {vs : List V} {i : Nat} {t : D}, Reps K H ts vs → ts[i]? = some t → ∃ v, vs[i]? = some v ∧ Rep K H t v
  | _, _, _, _, .nil, h => by simp at h
  | _, _, 0, _, .cons r _, h => by simp at h; subst h; exact ⟨_, rfl, r⟩
  | _, _, i + 1, t, .cons _ s, h => by
    obtain ⟨v, e, r⟩ := Reps.get (i := i) (t := t) s (by simpa using h)
    exact ⟨v, by simpa using e, r⟩
theorem Reps.getV : ∀ {ts : List D} {vs : List V} {i : Nat} {v : V}, Reps K H ts vs → vs[i]? = some v → ∃ t, ts[i]? = some t ∧ Rep K H t v
  | _, _, _, _, .nil, h => by simp at h
  | _, _, 0, _, .cons r _, h => by simp at h; subst h; exact ⟨_, rfl, r⟩
  | _, _, i + 1, v, .cons _ s, h => by
    obtain ⟨t, e, r⟩ := Reps.getV (i := i) (v := v) s (by simpa using h)
    exact ⟨t, by simpa using e, r⟩
theorem Reps.append : ∀ {ts us : List D} {vs ws : List V}, Reps K H ts vs → Reps K H us ws → Reps K H (ts ++ us) (vs ++ ws)
  | _, _, _, _, .nil, s => s
  | _, _, _, _, .cons r t, s => .cons r (Reps.append t s)
theorem Reps.one {t : D} {v : V} (r : Rep K H t v) : Reps K H [t] [v] := .cons r .nil
theorem Reps.take : ∀ {ts : List D} {vs : List V} (n : Nat), Reps K H ts vs → Reps K H (ts.take n) (vs.take n)
  | _, _, 0, _ => .nil
  | _, _, _ + 1, .nil => .nil
  | _, _, n + 1, .cons r t => .cons r (Reps.take n t)
theorem Reps.drop : ∀ {ts : List D} {vs : List V} (n : Nat), Reps K H ts vs → Reps K H (ts.drop n) (vs.drop n)
  | _, _, 0, r => r
  | _, _, _ + 1, .nil => .nil
  | _, _, n + 1, .cons _ t => Reps.drop n t
theorem Reps.set {t : D} {v : V} (r : Rep K H t v) : ∀ {ts : List D} {vs : List V} (i : Nat), Reps K H ts vs → Reps K H (ts.set i t) (vs.set i v)
  | _, _, _, .nil => .nil
  | _, _, 0, .cons _ s => .cons r s
  | _, _, i + 1, .cons q s => .cons q (Reps.set r i s)
theorem Reps.erase : ∀ {ts : List D} {vs : List V} (i : Nat), Reps K H ts vs → Reps K H (ts.eraseIdx i) (vs.eraseIdx i)
  | _, _, _, .nil => .nil
  | _, _, 0, .cons _ s => s
  | _, _, i + 1, .cons q s => .cons q (Reps.erase i s)
theorem Reps.rep {ts : List D} {vs : List V} (r : Reps K H ts vs) : ∀ n : Nat, Reps K H (List.replicate n ts).flatten (List.replicate n vs).flatten
  | 0 => .nil
  | n + 1 => by
    rw [List.replicate_succ, List.replicate_succ, List.flatten_cons, List.flatten_cons]
    exact r.append (Reps.rep r n)
theorem Reps.ints : ∀ {ns : List Int}, Reps K H (ns.map D.int) (ns.map V.int)
  | [] => .nil
  | n :: ns => .cons (.int n) Reps.ints
theorem Reps.ints_eq : ∀ {ns : List Int} {vs : List V}, Reps K H (ns.map D.int) vs → vs = ns.map V.int
  | [], _, .nil => rfl
  | n :: ns, _, .cons r s => by
    cases r
    rw [Reps.ints_eq s]
    rfl
theorem Reps.bools_eq : ∀ {bs : List Bool} {vs : List V}, Reps K H (bs.map D.bl) vs → vs = bs.map V.bl
  | [], _, .nil => rfl
  | b :: bs, _, .cons r s => by
    cases r
    rw [Reps.bools_eq s]
    rfl
theorem Rep.int_eq {i : Int} {v : V} (r : Rep K H (.int i) v) : v = .int i := by cases r; rfl
theorem Rep.bl_eq {b : Bool} {v : V} (r : Rep K H (.bl b) v) : v = .bl b := by cases r; rfl
theorem Rep.str_eq {b : Str} {v : V} (r : Rep K H (.str b) v) : v = .str b := by cases r; rfl
theorem Rep.non_eq {v : V} (r : Rep K H .non v) : v = .non := by cases r; rfl
end

/-! ### slots -/
inductive Dsc where
  | un | dat (d : D) | own (ds : List D) | io (ds : List D)
/-- the activation: its in-and-out lists by slot, the heap at the entry, what was frozen there -/
structure Ac where
  io : Nat → Option Addr
  H0 : Hp
  F0 : Hp
structure LstAt (K : PySem.W.Frag) (F H : Hp) (a : Addr) (ds : List D) : Prop where
  at_ : ∃ xs, H a = some (.lst xs) ∧ Reps K F ds xs
  nf : F a = none
def OwnAt (σ : L2.St) (Γ : List Dsc) (i : Nat) (a : Addr) : Prop := σ[i]? = some (some (.ref a)) ∧ ∃ ds, Γ[i]? = some (.own ds) ∨ Γ[i]? = some (.io ds)
def Own (σ : L2.St) (Γ : List Dsc) (a : Addr) : Prop := ∃ i, OwnAt σ Γ i a
structure Fm (K : PySem.W.Frag) (A : Ac) (F H : Hp) (σ : L2.St) (Γ : List Dsc) : Prop where
  len : σ.length = Γ.length
  fh : Ex F H
  ff : Ex A.F0 F
  base : ∀ b o, A.H0 b = some o → (∀ i, A.io i ≠ some b) → H b = some o
  nf : ∀ b o, A.H0 b = some o → A.F0 b = none → F b = none
  dat : ∀ (i : Nat) (d : D), Γ[i]? = some (.dat d) → ∃ v, σ[i]? = some (some v) ∧ Rep K F d v
  own : ∀ (i : Nat) (ds : List D), Γ[i]? = some (.own ds) → ∃ a, σ[i]? = some (some (.ref a)) ∧ LstAt K F H a ds ∧ A.H0 a = none
  iio : ∀ (i : Nat) (ds : List D), Γ[i]? = some (.io ds) → ∃ a, σ[i]? = some (some (.ref a)) ∧ LstAt K F H a ds ∧ A.io i = some a
  ia : ∀ (i : Nat) (a : Addr), A.io i = some a → ∃ ds, Γ[i]? = some (.io ds)
  dj : ∀ (i j : Nat) (a : Addr), OwnAt σ Γ i a → OwnAt σ Γ j a → i = j
def Sim (Γ Γ' : List Dsc) : Prop := Γ.length = Γ'.length ∧ ∀ i : Nat, Γ'[i]? = Γ[i]? ∨ (∃ ds ds', Γ[i]? = some (.own ds) ∧ Γ'[i]? = some (.own ds')) ∨ (∃ ds ds', Γ[i]? = some (.io ds) ∧ Γ'[i]? = some (.io ds'))
theorem Sim.refl (Γ : List Dsc) : Sim Γ Γ := ⟨rfl, fun _ => .inl rfl⟩
theorem Sim.trans {Γ Γ1 Γ2 : List Dsc} (a : Sim Γ Γ1) (b : Sim Γ1 Γ2) : Sim Γ Γ2 := ⟨a.1.trans b.1, fun i => by
  rcases a.2 i with h | ⟨ds, es, h1, h2⟩ | ⟨ds, es, h1, h2⟩ <;> rcases b.2 i with g | ⟨us, ws, g1, g2⟩ | ⟨us, ws, g1, g2⟩
  · exact .inl (g.trans h)
  · exact .inr (.inl ⟨us, ws, by rw [← h]; exact g1, g2⟩)
  · exact .inr (.inr ⟨us, ws, by rw [← h]; exact g1, g2⟩)
  · exact .inr (.inl ⟨ds, es, h1, by rw [g]; exact h2⟩)
  · exact .inr (.inl ⟨ds, ws, h1, g2⟩)
  · rw [h2] at g1; cases g1
  · exact .inr (.inr ⟨ds, es, h1, by rw [g]; exact h2⟩)
  · rw [h2] at g1; cases g1
  · exact .inr (.inr ⟨ds, ws, h1, g2⟩)⟩
theorem Sim.ownAt {Γ Γ' : List Dsc} {σ : L2.St} {i : Nat} {a : Addr} (s : Sim Γ Γ') : OwnAt σ Γ' i a ↔ OwnAt σ Γ i a := by
  constructor
  · rintro ⟨h, ds, e⟩
    refine ⟨h, ?_⟩
    rcases s.2 i with g | ⟨us, ws, g1, g2⟩ | ⟨us, ws, g1, g2⟩
    · exact ⟨ds, by rw [← g]; exact e⟩
    · exact ⟨us, .inl g1⟩
    · exact ⟨us, .inr g1⟩
  · rintro ⟨h, ds, e⟩
    refine ⟨h, ?_⟩
    rcases s.2 i with g | ⟨us, ws, g1, g2⟩ | ⟨us, ws, g1, g2⟩
    · exact ⟨ds, by rw [g]; exact e⟩
    · exact ⟨ws, .inl g2⟩
    · exact ⟨ws, .inr g2⟩
theorem Sim.own {Γ Γ' : List Dsc} {σ : L2.St} {a : Addr} (s : Sim Γ Γ') : Own σ Γ' a ↔ Own σ Γ a :=
  ⟨fun ⟨i, h⟩ => ⟨i, s.ownAt.mp h⟩, fun ⟨i, h⟩ => ⟨i, s.ownAt.mpr h⟩⟩
/-- what an expression may do -/
structure Stp (σ : L2.St) (Γ Γ' : List Dsc) (F H F' H' : Hp) : Prop where
  f : Ex F F'
  k : ∀ b o, H b = some o → ¬ Own σ Γ b → H' b = some o
  n : ∀ b o, H b = some o → F b = none → F' b = none
  g : ∀ b, H' b = none → H b = none
  sm : Sim Γ Γ'
theorem Stp.refl {σ : L2.St} {Γ : List Dsc} {F H : Hp} : Stp σ Γ Γ F H F H := ⟨Ex.refl _, fun _ _ h _ => h, fun _ _ _ h => h, fun _ h => h, Sim.refl _⟩
theorem Stp.trans {σ : L2.St} {Γ Γ1 Γ2 : List Dsc} {F H F1 H1 F2 H2 : Hp} (a : Stp σ Γ Γ1 F H F1 H1) (b : Stp σ Γ1 Γ2 F1 H1 F2 H2) : Stp σ Γ Γ2 F H F2 H2 where
  f := a.f.trans b.f
  k := fun x o h n => b.k x o (a.k x o h n) fun z => n (a.sm.own.mp z)
  n := fun x o h n => by
    cases q : H1 x with
    | none => rw [a.g x q] at h; cases h
    | some u => exact b.n x u q (a.n x o h n)
  g := fun x h => a.g x (b.g x h)
  sm := a.sm.trans b.sm

/-! ### values of expressions -/
inductive Dv where
  | dat (d : D) | new (ds : List D) | loc (i : Nat)
def VOk (K : PySem.W.Frag) (A : Ac) (Hs F H : Hp) (σ : L2.St) (Γ : List Dsc) : Dv → V → Prop
  | .dat d, v => Rep K F d v
  | .new ds, v => ∃ a, v = .ref a ∧ LstAt K F H a ds ∧ A.H0 a = none ∧ ¬ Own σ Γ a ∧ Hs a = none
  | .loc i, v => ∃ a, v = .ref a ∧ OwnAt σ Γ i a
section
variable {K : PySem.W.Frag} {A : Ac} {Hs Hs' F H F' H' : Hp} {σ : L2.St} {Γ Γ' : List Dsc} {d : Dv} {v : V}
theorem VOk.stp (h : VOk K A Hs F H σ Γ d v) (s : Stp σ Γ Γ' F H F' H') : VOk K A Hs F' H' σ Γ' d v := by
  cases d with
  | dat d => exact Rep.ex s.f h
  | new ds =>
    obtain ⟨a, rfl, ⟨⟨xs, e, r⟩, z⟩, h0, no, hs⟩ := h
    exact ⟨a, rfl, ⟨⟨xs, s.k a _ e no, r.ex s.f⟩, s.n a _ e z⟩, h0, fun q => no (s.sm.own.mp q), hs⟩
  | loc i =>
    obtain ⟨a, rfl, o⟩ := h
    exact ⟨a, rfl, s.sm.ownAt.mpr o⟩
theorem VOk.back (h : VOk K A Hs F H σ Γ d v) (b : ∀ x, Hs x = none → Hs' x = none) : VOk K A Hs' F H σ Γ d v := by
  cases d with
  | dat d => exact h
  | new ds =>
    obtain ⟨a, e, l, h0, no, hs⟩ := h
    exact ⟨a, e, l, h0, no, b a hs⟩
  | loc i => exact h
end
abbrev VsOk (K : PySem.W.Frag) (A : Ac) (Hs F H : Hp) (σ : L2.St) (Γ : List Dsc) : List Dv → List V → Prop := Paired (VOk K A Hs F H σ Γ)
section
variable {K : PySem.W.Frag} {A : Ac} {Hs Hs' F H F' H' : Hp} {σ : L2.St} {Γ Γ' : List Dsc}
theorem VsOk.stp (s : Stp σ Γ Γ' F H F' H') : ∀ {ds : List Dv} {vs : List V}, VsOk K A Hs F H σ Γ ds vs → VsOk K A Hs F' H' σ Γ' ds vs
  | _, _, .nil => .nil
  | _, _, .cons r t => .cons (VOk.stp r s) (VsOk.stp s t)
theorem VsOk.back (b : ∀ x, Hs x = none → Hs' x = none) : ∀ {ds : List Dv} {vs : List V}, VsOk K A Hs F H σ Γ ds vs → VsOk K A Hs' F H σ Γ ds vs
  | _, _, .nil => .nil
  | _, _, .cons r t => .cons (VOk.back r b) (VsOk.back b t)
end

/-! ### the frame is kept -/
section
variable {K : PySem.W.Frag} {A : Ac} {F H : Hp} {σ : L2.St} {Γ : List Dsc} {p : Addr} {o : HO}
theorem Fm.g0 (fm : Fm K A F H σ Γ) {b : Addr} {o : HO} (h : A.H0 b = some o) : ∃ o', H b = some o' := by
  by_cases q : ∃ i, A.io i = some b
  · obtain ⟨i, e⟩ := q
    obtain ⟨ds, g⟩ := fm.ia i b e
    obtain ⟨a, _, ⟨⟨xs, e1, _⟩, _⟩, e2⟩ := fm.iio i ds g
    rw [e] at e2
    cases e2
    exact ⟨_, e1⟩
  · exact ⟨o, fm.base b o h fun i e => q ⟨i, e⟩⟩
theorem Fm.h0 (fm : Fm K A F H σ Γ) {b : Addr} (h : H b = none) : A.H0 b = none := by
  cases q : A.H0 b with
  | none => rfl
  | some o =>
    obtain ⟨o', e⟩ := fm.g0 q
    rw [h] at e
    cases e
theorem Fm.ownSome (fm : Fm K A F H σ Γ) {b : Addr} (h : Own σ Γ b) : ∃ ds, LstAt K F H b ds := by
  obtain ⟨i, e, ds, g | g⟩ := h
  · obtain ⟨a, e1, l, _⟩ := fm.own i ds g
    rw [e] at e1; cases e1
    exact ⟨ds, l⟩
  · obtain ⟨a, e1, l, _⟩ := fm.iio i ds g
    rw [e] at e1; cases e1
    exact ⟨ds, l⟩
theorem Fm.notOwn (fm : Fm K A F H σ Γ) {b : Addr} (h : H b = none) : ¬ Own σ Γ b := fun z => by
  obtain ⟨ds, ⟨xs, e, _⟩, _⟩ := fm.ownSome z
  rw [h] at e; cases e
theorem Fm.fnone (fm : Fm K A F H σ Γ) {b : Addr} (h : H b = none) : F b = none := by
  cases q : F b with
  | none => rfl
  | some o => rw [fm.fh b o q] at h; cases h
theorem LstAt.grow {F' H' : Hp} {a : Addr} {ds : List D} (l : LstAt K F H a ds) (f : Ex F F') (h : H' a = H a) (z : F' a = none) : LstAt K F' H' a ds := by
  obtain ⟨⟨xs, e, r⟩, _⟩ := l
  exact ⟨⟨xs, h.trans e, r.ex f⟩, z⟩
/-- a new object, not frozen -/
theorem Fm.alloc (fm : Fm K A F H σ Γ) (hp : H p = none) : Fm K A F (upd H p o) σ Γ where
  len := fm.len
  fh := fm.fh.trans (Ex.new hp)
  ff := fm.ff
  base := fun b u h n => Ex.new hp _ _ (fm.base b u h n)
  nf := fm.nf
  dat := fm.dat
  own := fun i ds h => by
    obtain ⟨a, e, l, z⟩ := fm.own i ds h
    obtain ⟨⟨xs, e1, _⟩, z1⟩ := id l
    exact ⟨a, e, l.grow (Ex.refl _) (upd_ne (ne_of_none e1 hp)) z1, z⟩
  iio := fun i ds h => by
    obtain ⟨a, e, l, z⟩ := fm.iio i ds h
    obtain ⟨⟨xs, e1, _⟩, z1⟩ := id l
    exact ⟨a, e, l.grow (Ex.refl _) (upd_ne (ne_of_none e1 hp)) z1, z⟩
  ia := fm.ia
  dj := fm.dj
/-- a new object, frozen at once -/
theorem Fm.allocF (fm : Fm K A F H σ Γ) (hp : H p = none) : Fm K A (upd F p o) (upd H p o) σ Γ where
  len := fm.len
  fh := fun b u h => by
    by_cases q : b = p
    · subst q; rw [upd_same] at h ⊢; exact h
    · rw [upd_ne q] at h ⊢; exact fm.fh b u h
  ff := fm.ff.trans (Ex.new (fm.fnone hp))
  base := fun b u h n => Ex.new hp _ _ (fm.base b u h n)
  nf := fun b u h z => by
    obtain ⟨o', e⟩ := fm.g0 h
    rw [upd_ne (ne_of_none e hp)]
    exact fm.nf b u h z
  dat := fun i d h => by
    obtain ⟨v, e, r⟩ := fm.dat i d h
    exact ⟨v, e, r.ex (Ex.new (fm.fnone hp))⟩
  own := fun i ds h => by
    obtain ⟨a, e, l, z⟩ := fm.own i ds h
    obtain ⟨⟨xs, e1, _⟩, z1⟩ := id l
    exact ⟨a, e, l.grow (Ex.new (fm.fnone hp)) (upd_ne (ne_of_none e1 hp)) (by rw [upd_ne (ne_of_none e1 hp)]; exact z1), z⟩
  iio := fun i ds h => by
    obtain ⟨a, e, l, z⟩ := fm.iio i ds h
    obtain ⟨⟨xs, e1, _⟩, z1⟩ := id l
    exact ⟨a, e, l.grow (Ex.new (fm.fnone hp)) (upd_ne (ne_of_none e1 hp)) (by rw [upd_ne (ne_of_none e1 hp)]; exact z1), z⟩
  ia := fm.ia
  dj := fm.dj
/-- an object that nobody owns is frozen -/
theorem Fm.freeze (fm : Fm K A F H σ Γ) (hp : H p = some o) (hf : F p = none) (no : ¬ Own σ Γ p) (h0 : A.H0 p = none) : Fm K A (upd F p o) H σ Γ where
  len := fm.len
  fh := fun b u h => by
    by_cases q : b = p
    · subst q; rw [upd_same] at h; rw [hp]; exact h
    · rw [upd_ne q] at h; exact fm.fh b u h
  ff := fm.ff.trans (Ex.new hf)
  base := fm.base
  nf := fun b u h z => by
    rw [upd_ne (ne_of_none h h0)]
    exact fm.nf b u h z
  dat := fun i d h => by
    obtain ⟨v, e, r⟩ := fm.dat i d h
    exact ⟨v, e, r.ex (Ex.new hf)⟩
  own := fun i ds h => by
    obtain ⟨a, e, l, z⟩ := fm.own i ds h
    have ne : a ≠ p := fun q => no ⟨i, by rw [← q]; exact e, ds, .inl h⟩
    exact ⟨a, e, l.grow (Ex.new hf) rfl (by rw [upd_ne ne]; exact l.nf), z⟩
  iio := fun i ds h => by
    obtain ⟨a, e, l, z⟩ := fm.iio i ds h
    have ne : a ≠ p := fun q => no ⟨i, by rw [← q]; exact e, ds, .inr h⟩
    exact ⟨a, e, l.grow (Ex.new hf) rfl (by rw [upd_ne ne]; exact l.nf), z⟩
  ia := fm.ia
  dj := fm.dj
theorem Stp.alloc (hp : H p = none) : Stp σ Γ Γ F H F (upd H p o) :=
  ⟨Ex.refl _, fun b u h _ => Ex.new hp _ _ h, fun _ _ _ z => z, fun b h => by
    by_cases q : b = p
    · rw [q]; exact hp
    · rw [upd_ne q] at h; exact h, Sim.refl _⟩
theorem Stp.allocF (hp : H p = none) (hf : F p = none) : Stp σ Γ Γ F H (upd F p o) (upd H p o) :=
  ⟨Ex.new hf, fun b u h _ => Ex.new hp _ _ h, fun b u h z => by rw [upd_ne (ne_of_none h hp)]; exact z, fun b h => by
    by_cases q : b = p
    · rw [q]; exact hp
    · rw [upd_ne q] at h; exact h, Sim.refl _⟩
/-- freezing what is younger than the start -/
theorem Stp.freeze {Γs : List Dsc} {Fs Hs : Hp} (s : Stp σ Γs Γ Fs Hs F H) (hf : F p = none) (hs : Hs p = none) : Stp σ Γs Γ Fs Hs (upd F p o) H :=
  ⟨s.f.trans (Ex.new hf), s.k, fun b u h z => by rw [upd_ne (ne_of_none h hs)]; exact s.n b u h z, s.g, s.sm⟩
end
end VX

/-! VX: the judgements (EW, TW, AW, Kw) and the rules for expressions. -/
namespace VX
open PySem PySem.Spec PyProof.Rows L2

/-! ### readings at their strongest -/
def EV (X : Cx) (e : Expr) : TE := fun σ H Q => ∃ t, PE X e t ∧ t σ H Q
theorem pe_top {X : Cx} {e : Expr} : PE X e (EV X e) := ⟨fun pins s σ H Q I ⟨_, h, q⟩ => h.run pins s σ H Q I q⟩
theorem EV.of {X : Cx} {e : Expr} {t : TE} {σ : L2.St} {H : Hp} {Q : VK} (h : PE X e t) (q : t σ H Q) : EV X e σ H Q := ⟨t, h, q⟩
def TV (X : Cx) (e : Expr) : TT := fun σ H Q => ∃ t, PT X e t ∧ t σ H Q
theorem pt_top {X : Cx} {e : Expr} : PT X e (TV X e) := ⟨fun pins s σ H Q I ⟨_, h, q⟩ => h.run pins s σ H Q I q⟩
def WV (X : Cx) (e : Expr) : TT := fun σ H Q => ∃ t, PW X e t ∧ t σ H Q
theorem pw_top {X : Cx} {e : Expr} : PW X e (WV X e) := ⟨fun wh pins s σ H Q I ⟨_, h, q⟩ => h.run wh pins s σ H Q I q⟩
def AV (X : Cx) (es : List Expr) : TA := fun σ H Q => ∃ t, PA X es t ∧ t σ H Q
theorem pa_top {X : Cx} {es : List Expr} : PA X es (AV X es) := ⟨fun pos pins s σ H Q I ⟨_, h, q⟩ => h.run pos pins s σ H Q I q⟩

/-! ### the judgements -/
abbrev PD := Dv → List Dsc → Prop
def EW (X : Cx) (e : Expr) (Γ : List Dsc) (P : PD) : Prop := ∀ A F H σ, Fm X.K A F H σ Γ → ∀ Q : VK,
  (∀ d Γ' v F' H', P d Γ' → Stp σ Γ Γ' F H F' H' → Fm X.K A F' H' σ Γ' → VOk X.K A H F' H' σ Γ' d v → Q v H') → EV X e σ H Q
def TW (X : Cx) (e : Expr) (Γ : List Dsc) (P : Bool → List Dsc → Prop) : Prop := ∀ A F H σ, Fm X.K A F H σ Γ → ∀ Q : Bool → Hp → Prop,
  (∀ b Γ' F' H', P b Γ' → Stp σ Γ Γ' F H F' H' → Fm X.K A F' H' σ Γ' → Q b H') → TV X e σ H Q
def WW (X : Cx) (e : Expr) (Γ : List Dsc) (P : Bool → List Dsc → Prop) : Prop := ∀ A F H σ, Fm X.K A F H σ Γ → ∀ Q : Bool → Hp → Prop,
  (∀ b Γ' F' H', P b Γ' → Stp σ Γ Γ' F H F' H' → Fm X.K A F' H' σ Γ' → Q b H') → WV X e σ H Q
def AW (X : Cx) (es : List Expr) (Γ : List Dsc) (P : List Dv → List Dsc → Prop) : Prop := ∀ A F H σ, Fm X.K A F H σ Γ → ∀ Q : List V → Hp → Prop,
  (∀ ds Γ' vs F' H', P ds Γ' → Stp σ Γ Γ' F H F' H' → Fm X.K A F' H' σ Γ' → VsOk X.K A H F' H' σ Γ' ds vs → Q vs H') → AV X es σ H Q
/-- an operation on values that are there -/
def Kw (X : Cx) (Γ : List Dsc) (xs : List Dv) (r : List V → Hp → VK → Prop) (P : PD) : Prop := ∀ A Fs Hs Γs F H σ vs, Fm X.K A F H σ Γ → Stp σ Γs Γ Fs Hs F H → VsOk X.K A Hs F H σ Γ xs vs →
  ∀ Q : VK, (∀ d Γ' v F' H', P d Γ' → Stp σ Γs Γ' Fs Hs F' H' → Fm X.K A F' H' σ Γ' → VOk X.K A Hs F' H' σ Γ' d v → Q v H') → r vs H Q
section
variable {X : Cx} {A : Ac} {Fs Hs F H : Hp} {σ : L2.St} {Γs Γ : List Dsc}
theorem EW.run {e : Expr} {P : PD} (h : EW X e Γ P) (fm : Fm X.K A F H σ Γ) (st : Stp σ Γs Γ Fs Hs F H) {Q : VK}
    (q : ∀ d Γ' v F' H', P d Γ' → Stp σ Γs Γ' Fs Hs F' H' → Stp σ Γ Γ' F H F' H' → Fm X.K A F' H' σ Γ' → VOk X.K A Hs F' H' σ Γ' d v → Q v H') : EV X e σ H Q :=
  h A F H σ fm Q fun d Γ' v F' H' p s fm' ok => q d Γ' v F' H' p (st.trans s) s fm' (ok.back st.g)
theorem TW.run {e : Expr} {P : Bool → List Dsc → Prop} (h : TW X e Γ P) (fm : Fm X.K A F H σ Γ) (st : Stp σ Γs Γ Fs Hs F H) {Q : Bool → Hp → Prop}
    (q : ∀ b Γ' F' H', P b Γ' → Stp σ Γs Γ' Fs Hs F' H' → Stp σ Γ Γ' F H F' H' → Fm X.K A F' H' σ Γ' → Q b H') : TV X e σ H Q :=
  h A F H σ fm Q fun d Γ' F' H' p s fm' => q d Γ' F' H' p (st.trans s) s fm'
theorem WW.run {e : Expr} {P : Bool → List Dsc → Prop} (h : WW X e Γ P) (fm : Fm X.K A F H σ Γ) (st : Stp σ Γs Γ Fs Hs F H) {Q : Bool → Hp → Prop}
    (q : ∀ b Γ' F' H', P b Γ' → Stp σ Γs Γ' Fs Hs F' H' → Stp σ Γ Γ' F H F' H' → Fm X.K A F' H' σ Γ' → Q b H') : WV X e σ H Q :=
  h A F H σ fm Q fun d Γ' F' H' p s fm' => q d Γ' F' H' p (st.trans s) s fm'
theorem AW.run {es : List Expr} {P : List Dv → List Dsc → Prop} (h : AW X es Γ P) (fm : Fm X.K A F H σ Γ) (st : Stp σ Γs Γ Fs Hs F H) {Q : List V → Hp → Prop}
    (q : ∀ ds Γ' vs F' H', P ds Γ' → Stp σ Γs Γ' Fs Hs F' H' → Stp σ Γ Γ' F H F' H' → Fm X.K A F' H' σ Γ' → VsOk X.K A Hs F' H' σ Γ' ds vs → Q vs H') : AV X es σ H Q :=
  h A F H σ fm Q fun d Γ' v F' H' p s fm' ok => q d Γ' v F' H' p (st.trans s) s fm' (VsOk.back st.g ok)
theorem EW.mono {e : Expr} {P P' : PD} (h : EW X e Γ P) (k : ∀ d Γ', P d Γ' → P' d Γ') : EW X e Γ P' :=
  fun A F H σ fm Q q => h A F H σ fm Q fun d Γ' v F' H' p => q d Γ' v F' H' (k d Γ' p)
theorem TW.mono {e : Expr} {P P' : Bool → List Dsc → Prop} (h : TW X e Γ P) (k : ∀ d Γ', P d Γ' → P' d Γ') : TW X e Γ P' :=
  fun A F H σ fm Q q => h A F H σ fm Q fun d Γ' F' H' p => q d Γ' F' H' (k d Γ' p)
end

/-! ### lists and tuples among values -/
def lstOf (Γ : List Dsc) : Dv → Option (List D)
  | .new ds => some ds
  | .dat (.lst ds) => some ds
  | .loc i => match Γ[i]? with
    | some (.own ds) => some ds
    | some (.io ds) => some ds
    | _ => none
  | _ => none
def seqOf (Γ : List Dsc) : Dv → Option (List D)
  | .dat (.tup ds) => some ds
  | .dat (.scr ds) => some ds
  | x => lstOf Γ x
section
variable {K : PySem.W.Frag} {A : Ac} {Hs F H : Hp} {σ : L2.St} {Γ : List Dsc} {x : Dv} {v : V} {ds : List D}
theorem VOk.lst (ok : VOk K A Hs F H σ Γ x v) (fm : Fm K A F H σ Γ) (h : lstOf Γ x = some ds) : ∃ a vs, v = .ref a ∧ H a = some (.lst vs) ∧ Reps K F ds vs := by
  cases x with
  | new es =>
    obtain ⟨a, e, ⟨⟨xs, e1, r⟩, _⟩, _⟩ := ok
    cases h
    exact ⟨a, xs, e, e1, r⟩
  | dat d =>
    cases d with
    | lst es =>
      cases h
      cases ok with
      | lst e r => exact ⟨_, _, rfl, fm.fh _ _ e, r⟩
    | _ => cases h
  | loc i =>
    obtain ⟨a, rfl, e, es, g⟩ := ok
    rcases g with g | g
    · obtain ⟨b, e1, ⟨⟨xs, e2, r⟩, _⟩, _⟩ := fm.own i es g
      rw [e] at e1
      cases e1
      have hh : lstOf Γ (.loc i) = some es := by
        show (match Γ[i]? with | some (.own ds) => some ds | some (.io ds) => some ds | _ => none) = _
        rw [g]
      rw [hh] at h
      cases h
      exact ⟨a, xs, rfl, e2, r⟩
    · obtain ⟨b, e1, ⟨⟨xs, e2, r⟩, _⟩, _⟩ := fm.iio i es g
      rw [e] at e1
      cases e1
      have hh : lstOf Γ (.loc i) = some es := by
        show (match Γ[i]? with | some (.own ds) => some ds | some (.io ds) => some ds | _ => none) = _
        rw [g]
      rw [hh] at h
      cases h
      exact ⟨a, xs, rfl, e2, r⟩
theorem VOk.seq (ok : VOk K A Hs F H σ Γ x v) (fm : Fm K A F H σ Γ) (h : seqOf Γ x = some ds) : ∃ a vs, v = .ref a ∧ (SqL K H a vs ∨ SqT K H a vs) ∧ Reps K F ds vs := by
  have L : lstOf Γ x = some ds → ∃ a vs, v = .ref a ∧ (SqL K H a vs ∨ SqT K H a vs) ∧ Reps K F ds vs := fun h => by
    obtain ⟨a, vs, e, e1, r⟩ := ok.lst fm h
    exact ⟨a, vs, e, .inl (.inl (.inl e1)), r⟩
  cases x with
  | new es => exact L h
  | loc i => exact L h
  | dat d =>
    cases d with
    | tup es =>
      cases h
      cases ok with
      | tup e r => exact ⟨_, _, rfl, .inr (.inl (.inl (fm.fh _ _ e))), r⟩
    | scr es =>
      cases h
      cases ok with
      | scr e r => exact ⟨_, _, rfl, .inl (fm.fh.sq e), r⟩
    | lst es => exact L h
    | _ => cases h
end
theorem sz {n : Nat} (h : n ≤ 1000000) : n ≤ sizeLine := Nat.le_trans h (by decide)
theorem sz1 {n : Nat} (h : n < 1000000) : n < sizeLine := Nat.lt_of_lt_of_le h (by decide)

section
variable {X : Cx} {Γ : List Dsc} {P : PD} {a b c e o : Expr} {es : List Expr} {pos p pos' : Pos} {x : Str}

/-! ### names, constants -/
def dvOf (i : Nat) : Dsc → Dv
  | .dat d => .dat d
  | .un => .dat .non
  | _ => .loc i
theorem ew_name (i : Nat) {d : Dsc} (h : Γ[i]? = some d) (hd : d ≠ .un) (q : P (dvOf i d) Γ) (hN : X.N[i]? = some x := by rfl) (hv : Vis X.env.scope x := by first | exact Or.inl rfl | exact Or.inr (Or.inl rfl) | exact Or.inr (Or.inr rfl))
    (hb : (x == ("__debug__" : Str)) = false := by decide) (hcd : (x == ("__classdict__" : Str)) = false := by decide) : EW X (.Name x pos) Γ P := by
  intro A F H σ fm Q k
  refine ⟨_, pe_var hN hv hb hcd, ?_⟩
  cases d with
  | un => exact absurd rfl hd
  | dat d =>
    obtain ⟨v, e, r⟩ := fm.dat i d h
    exact ⟨v, e, k _ _ v F H q Stp.refl fm r⟩
  | own ds =>
    obtain ⟨a, e, l, z⟩ := fm.own i ds h
    exact ⟨.ref a, e, k _ _ _ F H q Stp.refl fm ⟨a, rfl, e, ds, .inl h⟩⟩
  | io ds =>
    obtain ⟨a, e, l, z⟩ := fm.iio i ds h
    exact ⟨.ref a, e, k _ _ _ F H q Stp.refl fm ⟨a, rfl, e, ds, .inr h⟩⟩
theorem ew_int {i : Int} {j : Nat} (q : P (.dat (.int i)) Γ) : EW X (.Constant (.int i) j pos) Γ P := fun A F H σ fm Q k => ⟨_, pe_int, k _ _ _ F H q Stp.refl fm (.int i)⟩
theorem ew_bl {i : Bool} {j : Nat} (q : P (.dat (.bl i)) Γ) : EW X (.Constant (.bool i) j pos) Γ P := fun A F H σ fm Q k => ⟨_, pe_bl, k _ _ _ F H q Stp.refl fm (.bl i)⟩
theorem ew_non {j : Nat} (q : P (.dat .non) Γ) : EW X (.Constant .none j pos) Γ P := fun A F H σ fm Q k => ⟨_, pe_non, k _ _ _ F H q Stp.refl fm .non⟩
theorem ew_str {s : Str} {j : Nat} (q : P (.dat (.str s)) Γ) : EW X (.Constant (.str s) j pos) Γ P := fun A F H σ fm Q k => ⟨_, pe_str, k _ _ _ F H q Stp.refl fm (.str s)⟩
/-- a module's constant -/
def scV : D → Option V
  | .non => some .non
  | .bl b => some (.bl b)
  | .int i => some (.int i)
  | .str s => some (.str s)
  | _ => none
theorem scV_rep {K : PySem.W.Frag} {H : Hp} {d : D} {v : V} (h : scV d = some v) : Rep K H d v := by
  cases d <;> cases h
  · exact .non
  · exact .bl _
  · exact .int _
  · exact .str _
theorem rep_scV {K : PySem.W.Frag} {H : Hp} {d : D} {v v' : V} (h : scV d = some v) (r : Rep K H d v') : v' = v := by
  cases d <;> cases h <;> cases r <;> rfl
theorem ew_glob {d : D} {v : V} {u : Value} (hm : X.mg x = some u) (hd : scV d = some v) (r : RelV v u) (q : P (.dat d) Γ) (hg : Gl X x := by rfl) (hb : (x == ("__debug__" : Str)) = false := by decide) : EW X (.Name x pos) Γ P :=
  fun A F H σ fm Q k => ⟨_, pe_glob hg hm r hb, k _ _ _ F H q Stp.refl fm (scV_rep hd)⟩

/-! ### operators -/
def r2 (r : R2) : List V → Hp → VK → Prop := fun vs H Q => ∃ u v, vs = [u, v] ∧ r u v H Q
theorem ew_bin {op : Operator} {r : R2} (ho : OpR X (binaryOp op) r) (h : EW X a Γ fun x Γ1 => EW X b Γ1 fun y Γ2 => Kw X Γ2 [x, y] (r2 r) P) : EW X (.BinOp a op b pos) Γ P := by
  intro A F H σ fm Q q
  refine ⟨_, pe_op ho pe_top pe_top, ?_⟩
  show EV X a σ H (fun x H1 => EV X b σ H1 fun y H2 => r x y H2 Q)
  refine h.run fm Stp.refl fun x Γ1 vx F1 H1 hx s1 _ fm1 ox => ?_
  refine hx.run fm1 s1 fun y Γ2 vy F2 H2 hk s2 s12 fm2 oy => ?_
  obtain ⟨_, _, e, hr⟩ := hk A F H Γ F2 H2 σ [vx, vy] fm2 s2 (.cons (ox.stp s12) (.cons oy .nil)) Q q
  cases e
  exact hr
theorem ew_cmp {op : CmpOp} {r : R2} (ho : OpR X (compareOp op) r) (h : EW X a Γ fun x Γ1 => EW X b Γ1 fun y Γ2 => Kw X Γ2 [x, y] (r2 r) P) (hm : behindInMarks op b = false := by first | exact nomark _ | rfl) : EW X (.Compare a [op] [b] pos) Γ P := by
  intro A F H σ fm Q q
  refine ⟨_, pe_cmpR ho pe_top pe_top hm, ?_⟩
  show EV X a σ H (fun x H1 => EV X b σ H1 fun y H2 => r x y H2 Q)
  refine h.run fm Stp.refl fun x Γ1 vx F1 H1 hx s1 _ fm1 ox => ?_
  refine hx.run fm1 s1 fun y Γ2 vy F2 H2 hk s2 s12 fm2 oy => ?_
  obtain ⟨_, _, e, hr⟩ := hk A F H Γ F2 H2 σ [vx, vy] fm2 s2 (.cons (ox.stp s12) (.cons oy .nil)) Q q
  cases e
  exact hr
theorem tw_cmp {P : Bool → List Dsc → Prop} {op : CmpOp} {r : R2} (ho : OpR X (compareOp op) r) (h : EW X a Γ fun x Γ1 => EW X b Γ1 fun y Γ2 => Kw X Γ2 [x, y] (r2 r) fun d Γ3 => ∃ k, d = .dat (.bl k) ∧ P k Γ3)
    (hm : behindInMarks op b = false := by first | exact nomark _ | rfl) : TW X (.Compare a [op] [b] pos) Γ P := by
  intro A F H σ fm Q q
  refine ⟨_, pt_cmpR ho pe_top pe_top hm, ?_⟩
  show EV X a σ H (fun x H1 => EV X b σ H1 fun y H2 => r x y H2 fun z H3 => ∃ k, z = .bl k ∧ Q k H3)
  refine h.run fm Stp.refl fun x Γ1 vx F1 H1 hx s1 _ fm1 ox => ?_
  refine hx.run fm1 s1 fun y Γ2 vy F2 H2 hk s2 s12 fm2 oy => ?_
  obtain ⟨_, _, e, hr⟩ := hk A F H Γ F2 H2 σ [vx, vy] fm2 s2 (.cons (ox.stp s12) (.cons oy .nil)) (fun z H3 => ∃ k, z = .bl k ∧ Q k H3) fun d Γ' v F' H' p s fm' ok => by
    obtain ⟨k, rfl, p⟩ := p
    exact ⟨k, Rep.bl_eq ok, q k Γ' F' H' p s fm'⟩
  cases e
  exact hr
theorem Kw.or {xs : List Dv} {r r' : List V → Hp → VK → Prop} (h : Kw X Γ xs r P ∨ Kw X Γ xs r' P) : Kw X Γ xs (fun vs H Q => r vs H Q ∨ r' vs H Q) P :=
  fun A Fs Hs Γs F H σ vs fm st ok Q q => h.elim (fun h => .inl (h A Fs Hs Γs F H σ vs fm st ok Q q)) fun h => .inr (h A Fs Hs Γs F H σ vs fm st ok Q q)
theorem Kw.mono {xs : List Dv} {r r' : List V → Hp → VK → Prop} (h : Kw X Γ xs r P) (k : ∀ vs H Q, r vs H Q → r' vs H Q) : Kw X Γ xs r' P :=
  fun A Fs Hs Γs F H σ vs fm st ok Q q => k _ _ _ (h A Fs Hs Γs F H σ vs fm st ok Q q)
/-- ints -/
theorem kw_int {C : Int → Int → Prop} {g : Int → Int → V} {f : Int → Int → D} {x y : Dv} (hf : ∀ i j, scV (f i j) = some (g i j)) (h : ∃ i j, x = .dat (.int i) ∧ y = .dat (.int j) ∧ C i j ∧ P (.dat (f i j)) Γ) : Kw X Γ [x, y] (r2 (rI C g)) P := by
  intro A Fs Hs Γs F H σ vs fm st ok Q q
  obtain ⟨i, j, rfl, rfl, hc, hp⟩ := h
  cases ok with
  | cons o1 ok =>
    cases ok with
    | cons o2 ok =>
      cases ok
      exact ⟨_, _, rfl, i, j, Rep.int_eq o1, Rep.int_eq o2, hc, q _ _ _ F H hp st fm (scV_rep (hf i j))⟩
theorem kw_int0 {g : Int → Int → V} {f : Int → Int → D} {x y : Dv} (hf : ∀ i j, scV (f i j) = some (g i j)) (h : ∃ i j, x = .dat (.int i) ∧ y = .dat (.int j) ∧ P (.dat (f i j)) Γ) : Kw X Γ [x, y] (r2 (rI0 g)) P := by
  intro A Fs Hs Γs F H σ vs fm st ok Q q
  obtain ⟨i, j, rfl, rfl, hp⟩ := h
  cases ok with
  | cons o1 ok =>
    cases ok with
    | cons o2 ok =>
      cases ok
      exact ⟨_, _, rfl, i, j, Rep.int_eq o1, Rep.int_eq o2, q _ _ _ F H hp st fm (scV_rep (hf i j))⟩
theorem ew_add (h : EW X a Γ fun x Γ1 => EW X b Γ1 fun y Γ2 => ∃ i j, x = .dat (.int i) ∧ y = .dat (.int j) ∧ P (.dat (.int (i + j))) Γ2) : EW X (.BinOp a .Add b pos) Γ P :=
  ew_bin op_add (h.mono fun x Γ1 h1 => h1.mono fun y Γ2 h2 => kw_int0 (f := fun i j => .int (i + j)) (fun _ _ => rfl) h2)
theorem ew_sub (h : EW X a Γ fun x Γ1 => EW X b Γ1 fun y Γ2 => ∃ i j, x = .dat (.int i) ∧ y = .dat (.int j) ∧ P (.dat (.int (i - j))) Γ2) : EW X (.BinOp a .Sub b pos) Γ P :=
  ew_bin op_sub (h.mono fun x Γ1 h1 => h1.mono fun y Γ2 h2 => kw_int0 (f := fun i j => .int (i - j)) (fun _ _ => rfl) h2)
theorem ew_mul (h : EW X a Γ fun x Γ1 => EW X b Γ1 fun y Γ2 => ∃ i j, x = .dat (.int i) ∧ y = .dat (.int j) ∧ CMul i j ∧ P (.dat (.int (i * j))) Γ2) : EW X (.BinOp a .Mult b pos) Γ P :=
  ew_bin op_mul (h.mono fun x Γ1 h1 => h1.mono fun y Γ2 h2 => kw_int (f := fun i j => .int (i * j)) (fun _ _ => rfl) h2)
theorem ew_mod (h : EW X a Γ fun x Γ1 => EW X b Γ1 fun y Γ2 => ∃ i j, x = .dat (.int i) ∧ y = .dat (.int j) ∧ 0 < j ∧ P (.dat (.int (i % j))) Γ2) : EW X (.BinOp a .Mod b pos) Γ P :=
  ew_bin op_mod (h.mono fun x Γ1 h1 => h1.mono fun y Γ2 h2 => kw_int (f := fun i j => .int (i % j)) (fun _ _ => rfl) h2)
theorem ew_fdiv (h : EW X a Γ fun x Γ1 => EW X b Γ1 fun y Γ2 => ∃ i j, x = .dat (.int i) ∧ y = .dat (.int j) ∧ CDiv i j ∧ P (.dat (.int (i / j))) Γ2) : EW X (.BinOp a .FloorDiv b pos) Γ P :=
  ew_bin op_fdiv (h.mono fun x Γ1 h1 => h1.mono fun y Γ2 h2 => kw_int (f := fun i j => .int (i / j)) (fun _ _ => rfl) h2)
theorem ew_pow (h : EW X a Γ fun x Γ1 => EW X b Γ1 fun y Γ2 => ∃ i j, x = .dat (.int i) ∧ y = .dat (.int j) ∧ CPow i j ∧ P (.dat (.int (i ^ j.toNat))) Γ2) : EW X (.BinOp a .Pow b pos) Γ P :=
  ew_bin op_pow (h.mono fun x Γ1 h1 => h1.mono fun y Γ2 h2 => kw_int (f := fun i j => .int (i ^ j.toNat)) (fun _ _ => rfl) h2)
/-- comparisons of ints -/
theorem ew_lt (h : EW X a Γ fun x Γ1 => EW X b Γ1 fun y Γ2 => ∃ i j, x = .dat (.int i) ∧ y = .dat (.int j) ∧ P (.dat (.bl (decide (i < j)))) Γ2) : EW X (.Compare a [.Lt] [b] pos) Γ P :=
  ew_cmp op_lt (h.mono fun x Γ1 h1 => h1.mono fun y Γ2 h2 => kw_int0 (f := fun i j => .bl (decide (i < j))) (fun _ _ => rfl) h2)
theorem ew_le (h : EW X a Γ fun x Γ1 => EW X b Γ1 fun y Γ2 => ∃ i j, x = .dat (.int i) ∧ y = .dat (.int j) ∧ P (.dat (.bl (decide (i ≤ j)))) Γ2) : EW X (.Compare a [.LtE] [b] pos) Γ P :=
  ew_cmp op_le (h.mono fun x Γ1 h1 => h1.mono fun y Γ2 h2 => kw_int0 (f := fun i j => .bl (decide (i ≤ j))) (fun _ _ => rfl) h2)
theorem ew_gt (h : EW X a Γ fun x Γ1 => EW X b Γ1 fun y Γ2 => ∃ i j, x = .dat (.int i) ∧ y = .dat (.int j) ∧ P (.dat (.bl (decide (j < i)))) Γ2) : EW X (.Compare a [.Gt] [b] pos) Γ P :=
  ew_cmp op_gt (h.mono fun x Γ1 h1 => h1.mono fun y Γ2 h2 => kw_int0 (f := fun i j => .bl (decide (j < i))) (fun _ _ => rfl) h2)
theorem ew_ge (h : EW X a Γ fun x Γ1 => EW X b Γ1 fun y Γ2 => ∃ i j, x = .dat (.int i) ∧ y = .dat (.int j) ∧ P (.dat (.bl (decide (j ≤ i)))) Γ2) : EW X (.Compare a [.GtE] [b] pos) Γ P :=
  ew_cmp op_ge (h.mono fun x Γ1 h1 => h1.mono fun y Γ2 h2 => kw_int0 (f := fun i j => .bl (decide (j ≤ i))) (fun _ _ => rfl) h2)
theorem tw_lt {P : Bool → List Dsc → Prop} (h : EW X a Γ fun x Γ1 => EW X b Γ1 fun y Γ2 => ∃ i j, x = .dat (.int i) ∧ y = .dat (.int j) ∧ P (decide (i < j)) Γ2) : TW X (.Compare a [.Lt] [b] pos) Γ P :=
  tw_cmp op_lt (h.mono fun x Γ1 h1 => h1.mono fun y Γ2 ⟨i, j, e1, e2, h2⟩ => kw_int0 (f := fun i j => .bl (decide (i < j))) (fun _ _ => rfl) ⟨i, j, e1, e2, _, rfl, h2⟩)
theorem tw_le {P : Bool → List Dsc → Prop} (h : EW X a Γ fun x Γ1 => EW X b Γ1 fun y Γ2 => ∃ i j, x = .dat (.int i) ∧ y = .dat (.int j) ∧ P (decide (i ≤ j)) Γ2) : TW X (.Compare a [.LtE] [b] pos) Γ P :=
  tw_cmp op_le (h.mono fun x Γ1 h1 => h1.mono fun y Γ2 ⟨i, j, e1, e2, h2⟩ => kw_int0 (f := fun i j => .bl (decide (i ≤ j))) (fun _ _ => rfl) ⟨i, j, e1, e2, _, rfl, h2⟩)
theorem tw_gt {P : Bool → List Dsc → Prop} (h : EW X a Γ fun x Γ1 => EW X b Γ1 fun y Γ2 => ∃ i j, x = .dat (.int i) ∧ y = .dat (.int j) ∧ P (decide (j < i)) Γ2) : TW X (.Compare a [.Gt] [b] pos) Γ P :=
  tw_cmp op_gt (h.mono fun x Γ1 h1 => h1.mono fun y Γ2 ⟨i, j, e1, e2, h2⟩ => kw_int0 (f := fun i j => .bl (decide (j < i))) (fun _ _ => rfl) ⟨i, j, e1, e2, _, rfl, h2⟩)
theorem tw_ge {P : Bool → List Dsc → Prop} (h : EW X a Γ fun x Γ1 => EW X b Γ1 fun y Γ2 => ∃ i j, x = .dat (.int i) ∧ y = .dat (.int j) ∧ P (decide (j ≤ i)) Γ2) : TW X (.Compare a [.GtE] [b] pos) Γ P :=
  tw_cmp op_ge (h.mono fun x Γ1 h1 => h1.mono fun y Γ2 ⟨i, j, e1, e2, h2⟩ => kw_int0 (f := fun i j => .bl (decide (j ≤ i))) (fun _ _ => rfl) ⟨i, j, e1, e2, _, rfl, h2⟩)
/-- == of flat data -/
theorem kw_eqS {x y : Dv} (h : ∃ d e u v, x = .dat d ∧ y = .dat e ∧ scV d = some u ∧ scV e = some v ∧ scal u v = true ∧ P (.dat (.bl (decide (u = v)))) Γ) : Kw X Γ [x, y] (r2 rEq) P := by
  intro A Fs Hs Γs F H σ vs fm st ok Q q
  obtain ⟨d, e, u, v, rfl, rfl, hu, hv, hs, hp⟩ := h
  cases ok with
  | cons o1 ok =>
    cases ok with
    | cons o2 ok =>
      cases ok
      have e1 := rep_scV hu o1
      have e2 := rep_scV hv o2
      subst e1 e2
      exact ⟨_, _, rfl, hs, q _ _ _ F H hp st fm (.bl _)⟩
theorem kw_neS {x y : Dv} (h : ∃ d e u v, x = .dat d ∧ y = .dat e ∧ scV d = some u ∧ scV e = some v ∧ scal u v = true ∧ P (.dat (.bl (!decide (u = v)))) Γ) : Kw X Γ [x, y] (r2 rNe) P := by
  intro A Fs Hs Γs F H σ vs fm st ok Q q
  obtain ⟨d, e, u, v, rfl, rfl, hu, hv, hs, hp⟩ := h
  cases ok with
  | cons o1 ok =>
    cases ok with
    | cons o2 ok =>
      cases ok
      have e1 := rep_scV hu o1
      have e2 := rep_scV hv o2
      subst e1 e2
      exact ⟨_, _, rfl, hs, q _ _ _ F H hp st fm (.bl _)⟩
end

/-! ### data of any depth -/
mutual
def py : D → PyData
  | .non => .none
  | .bl b => .bool b
  | .int i => .int i
  | .str s => .str s
  | .tup ts => .tuple (pys ts)
  | .lst ts => .list (pys ts)
  | .scr ts => .list (pys ts)
def pys : List D → List PyData
  | [] => []
  | t :: ts => py t :: pys ts
end
mutual
theorem Rep.dp {K : PySem.W.Frag} {F H : Hp} (e : Ex F H) : ∀ {t : D} {v : V}, Rep K F t v → Dp K H v (py t)
  | _, _, .non => by rw [py]; exact .non
  | _, _, .bl b => by rw [py]; exact .bl b
  | _, _, .int i => by rw [py]; exact .int i
  | _, _, .str x => by rw [py]; exact .str x
  | _, _, .tup h r => by rw [py]; exact .tup (.inl (.inl (e _ _ h))) (Reps.dp e r)
  | _, _, .lst h r => by rw [py]; exact .lst (.inl (.inl (e _ _ h))) (Reps.dp e r)
  | _, _, .scr h r => by rw [py]; exact .lst (e.sq h) (Reps.dp e r)
theorem Reps.dp {K : PySem.W.Frag} {F H : Hp} (e : Ex F H) : ∀ {ts : List D} {vs : List V}, Reps K F ts vs → DpAll K H vs (pys ts)
  | _, _, .nil => by rw [pys]; exact .nil
  | _, _, .cons r s => by rw [pys]; exact .cons (Rep.dp e r) (Reps.dp e s)
end
def pyOf (Γ : List Dsc) : Dv → Option PyData
  | .dat d => some (py d)
  | x => (lstOf Γ x).map fun ds => .list (pys ds)
section
variable {X : Cx} {Γ : List Dsc} {P : PD} {a b c e o : Expr} {es : List Expr} {pos p pos' : Pos} {x : Str}
theorem VOk.dp {K : PySem.W.Frag} {A : Ac} {Hs F H : Hp} {σ : L2.St} {x : Dv} {v : V} {d : PyData} (ok : VOk K A Hs F H σ Γ x v) (fm : Fm K A F H σ Γ) (h : pyOf Γ x = some d) : Dp K H v d := by
  have L : (lstOf Γ x).map (fun ds => PyData.list (pys ds)) = some d → Dp K H v d := fun h => by
    obtain ⟨ds, e1, e2⟩ := Option.map_eq_some_iff.mp h
    obtain ⟨a, vs, rfl, e3, r⟩ := ok.lst fm e1
    rw [← e2]
    exact .lst (.inl (.inl e3)) (r.dp fm.fh)
  cases x with
  | dat t => cases h; exact Rep.dp fm.fh ok
  | new ds => exact L h
  | loc i => exact L h
theorem kw_eqD {x y : Dv} (h : ∃ d e, pyOf Γ x = some d ∧ pyOf Γ y = some e ∧ SeqAt.shaped d = true ∧ SeqAt.shaped e = true ∧ P (.dat (.bl (PyData.eqv d e))) Γ) : Kw X Γ [x, y] (r2 (rEqD X.K)) P := by
  intro A Fs Hs Γs F H σ vs fm st ok Q q
  obtain ⟨d, e, hd, he, sd, se, hp⟩ := h
  cases ok with
  | cons o1 ok =>
    cases ok with
    | cons o2 ok =>
      cases ok
      exact ⟨_, _, rfl, d, e, o1.dp fm hd, o2.dp fm he, sd, se, q _ _ _ F H hp st fm (.bl _)⟩
/-- a == b: flat data, or data of any depth -/
theorem ew_eq {k : Nat} (hr : Room k X.A) (h : EW X a Γ fun x Γ1 => EW X b Γ1 fun y Γ2 => (∃ d e u v, x = .dat d ∧ y = .dat e ∧ scV d = some u ∧ scV e = some v ∧ scal u v = true ∧ P (.dat (.bl (decide (u = v)))) Γ2) ∨
      ∃ d e, pyOf Γ2 x = some d ∧ pyOf Γ2 y = some e ∧ SeqAt.shaped d = true ∧ SeqAt.shaped e = true ∧ P (.dat (.bl (PyData.eqv d e))) Γ2) : EW X (.Compare a [.Eq] [b] pos) Γ P :=
  ew_cmp (OpR.or op_eq (op_eqD (by have := hr.un; omega))) (h.mono fun x Γ1 h1 => h1.mono fun y Γ2 h2 => h2.elim
    (fun h => (kw_eqS h).mono fun vs H Q ⟨u, v, e, q⟩ => ⟨u, v, e, .inl q⟩) fun h => (kw_eqD h).mono fun vs H Q ⟨u, v, e, q⟩ => ⟨u, v, e, .inr q⟩)
theorem tw_eq {P : Bool → List Dsc → Prop} {k : Nat} (hr : Room k X.A) (h : EW X a Γ fun x Γ1 => EW X b Γ1 fun y Γ2 => (∃ d e u v, x = .dat d ∧ y = .dat e ∧ scV d = some u ∧ scV e = some v ∧ scal u v = true ∧ P (decide (u = v)) Γ2) ∨
      ∃ d e, pyOf Γ2 x = some d ∧ pyOf Γ2 y = some e ∧ SeqAt.shaped d = true ∧ SeqAt.shaped e = true ∧ P (PyData.eqv d e) Γ2) : TW X (.Compare a [.Eq] [b] pos) Γ P :=
  tw_cmp (OpR.or op_eq (op_eqD (by have := hr.un; omega))) (h.mono fun x Γ1 h1 => h1.mono fun y Γ2 h2 => h2.elim
    (fun ⟨d, e, u, v, a1, a2, a3, a4, a5, h⟩ => (kw_eqS ⟨d, e, u, v, a1, a2, a3, a4, a5, _, rfl, h⟩).mono fun vs H Q ⟨u, v, e, q⟩ => ⟨u, v, e, .inl q⟩)
    fun ⟨d, e, a1, a2, a3, a4, h⟩ => (kw_eqD ⟨d, e, a1, a2, a3, a4, _, rfl, h⟩).mono fun vs H Q ⟨u, v, e, q⟩ => ⟨u, v, e, .inr q⟩)
theorem ew_ne (h : EW X a Γ fun x Γ1 => EW X b Γ1 fun y Γ2 => (∃ d e u v, x = .dat d ∧ y = .dat e ∧ scV d = some u ∧ scV e = some v ∧ scal u v = true ∧ P (.dat (.bl (!decide (u = v)))) Γ2)) : EW X (.Compare a [.NotEq] [b] pos) Γ P :=
  ew_cmp op_ne (h.mono fun x Γ1 h1 => h1.mono fun y Γ2 h2 => kw_neS h2)
theorem tw_ne {P : Bool → List Dsc → Prop} (h : EW X a Γ fun x Γ1 => EW X b Γ1 fun y Γ2 => (∃ d e u v, x = .dat d ∧ y = .dat e ∧ scV d = some u ∧ scV e = some v ∧ scal u v = true ∧ P (!decide (u = v)) Γ2)) : TW X (.Compare a [.NotEq] [b] pos) Γ P :=
  tw_cmp op_ne (h.mono fun x Γ1 h1 => h1.mono fun y Γ2 ⟨d, e, u, v, a1, a2, a3, a4, a5, h⟩ => kw_neS ⟨d, e, u, v, a1, a2, a3, a4, a5, _, rfl, h⟩)
/-- x is None -/
theorem kw_isN {neg : Bool} {x y : Dv} (h : ∃ d, x = .dat d ∧ y = .dat .non ∧ P (.dat (.bl (match d with | .non => !neg | _ => neg))) Γ) : Kw X Γ [x, y] (r2 fun x y H Q => y = .non ∧ Q (.bl (if neg then !decide (x = .non) else decide (x = .non))) H) P := by
  intro A Fs Hs Γs F H σ vs fm st ok Q q
  obtain ⟨d, rfl, rfl, hp⟩ := h
  cases ok with
  | cons o1 ok =>
    cases ok with
    | cons o2 ok =>
      cases ok
      refine ⟨_, _, rfl, Rep.non_eq o2, ?_⟩
      refine q _ _ _ F H hp st fm ?_
      have r1 : Rep X.K F d _ := o1
      cases r1 <;> cases neg <;> exact .bl _
theorem ew_isN (h : EW X a Γ fun x Γ1 => EW X b Γ1 fun y Γ2 => ∃ d, x = .dat d ∧ y = .dat .non ∧ P (.dat (.bl (match d with | .non => true | _ => false))) Γ2) : EW X (.Compare a [.Is] [b] pos) Γ P :=
  ew_cmp op_isN (h.mono fun x Γ1 h1 => h1.mono fun y Γ2 h2 => (kw_isN (neg := false) h2).mono fun vs H Q z => z)
theorem ew_notN (h : EW X a Γ fun x Γ1 => EW X b Γ1 fun y Γ2 => ∃ d, x = .dat d ∧ y = .dat .non ∧ P (.dat (.bl (match d with | .non => false | _ => true))) Γ2) : EW X (.Compare a [.IsNot] [b] pos) Γ P :=
  ew_cmp op_notN (h.mono fun x Γ1 h1 => h1.mono fun y Γ2 h2 => (kw_isN (neg := true) h2).mono fun vs H Q z => z)
/-! ### tests -/
theorem tw_val {P : Bool → List Dsc → Prop} (h : EW X e Γ fun x Γ' => ∃ k, x = .dat (.bl k) ∧ P k Γ') (he : ∀ whole, isTrue e X.env whole = (do let v ← whole; standAt e.pos; holding [v] (truthy v)) := by intro _; rfl) : TW X e Γ P := by
  intro A F H σ fm Q q
  refine ⟨_, pt_val pe_top he, ?_⟩
  show EV X e σ H fun x H1 => ∃ c, x = .bl c ∧ Q c H1
  refine h.run fm Stp.refl fun x Γ1 vx F1 H1 hx s1 _ fm1 ox => ?_
  obtain ⟨k, rfl, p⟩ := hx
  exact ⟨k, Rep.bl_eq ox, q k Γ1 F1 H1 p s1 fm1⟩
theorem tw_not {P : Bool → List Dsc → Prop} (h : TW X a Γ fun k Γ' => P (!k) Γ') : TW X (.UnaryOp .Not a pos) Γ P := by
  intro A F H σ fm Q q
  refine ⟨_, pt_not pt_top, ?_⟩
  show TV X a σ H fun c H1 => Q (!c) H1
  exact h.run fm Stp.refl fun k Γ1 F1 H1 p s1 _ fm1 => q (!k) Γ1 F1 H1 p s1 fm1
theorem ww_one {P : Bool → List Dsc → Prop} {op : BoolOp} (h : TW X a Γ P) : WW X (.BoolOp op [a] pos) Γ P := by
  intro A F H σ fm Q q
  cases op
  · exact ⟨_, pw_and1 pt_top, h A F H σ fm Q q⟩
  · exact ⟨_, pw_or1 pt_top, h A F H σ fm Q q⟩
theorem ww_and {P : Bool → List Dsc → Prop} (h : TW X a Γ fun k Γ1 => (k = true → WW X (.BoolOp .And (b :: es) pos) Γ1 P) ∧ (k = false → P false Γ1)) : WW X (.BoolOp .And (a :: b :: es) pos) Γ P := by
  intro A F H σ fm Q q
  refine ⟨_, pw_and pt_top pw_top, ?_⟩
  show TV X a σ H fun c H1 => if c = true then WV X (.BoolOp .And (b :: es) pos) σ H1 Q else Q false H1
  refine h.run fm Stp.refl fun k Γ1 F1 H1 p s1 _ fm1 => ?_
  cases k with
  | true =>
    rw [if_pos rfl]
    exact (p.1 rfl).run fm1 s1 fun b Γ2 F2 H2 p2 s2 _ fm2 => q b Γ2 F2 H2 p2 s2 fm2
  | false =>
    rw [if_neg Bool.false_ne_true]
    exact q false Γ1 F1 H1 (p.2 rfl) s1 fm1
theorem ww_or {P : Bool → List Dsc → Prop} (h : TW X a Γ fun k Γ1 => (k = true → P true Γ1) ∧ (k = false → WW X (.BoolOp .Or (b :: es) pos) Γ1 P)) : WW X (.BoolOp .Or (a :: b :: es) pos) Γ P := by
  intro A F H σ fm Q q
  refine ⟨_, pw_or pt_top pw_top, ?_⟩
  show TV X a σ H fun c H1 => if c = true then Q true H1 else WV X (.BoolOp .Or (b :: es) pos) σ H1 Q
  refine h.run fm Stp.refl fun k Γ1 F1 H1 p s1 _ fm1 => ?_
  cases k with
  | true =>
    rw [if_pos rfl]
    exact q true Γ1 F1 H1 (p.1 rfl) s1 fm1
  | false =>
    rw [if_neg Bool.false_ne_true]
    exact (p.2 rfl).run fm1 s1 fun b Γ2 F2 H2 p2 s2 _ fm2 => q b Γ2 F2 H2 p2 s2 fm2
theorem tw_w {P : Bool → List Dsc → Prop} (h : WW X e Γ P) : TW X e Γ P := fun A F H σ fm Q q => by
  obtain ⟨t, ht, hq⟩ := h A F H σ fm Q q
  exact ⟨t, ht.pt, hq⟩
/-! ### and, or, not of truth values; a if c else b -/
theorem ew_one {op : BoolOp} (h : EW X a Γ P) : EW X (.BoolOp op [a] pos) Γ P := fun A F H σ fm Q q => ⟨_, pe_one pe_top, h A F H σ fm Q q⟩
theorem ew_and (h : EW X a Γ fun x Γ1 => ∃ k, x = .dat (.bl k) ∧ (k = true → EW X (.BoolOp .And (b :: es) pos) Γ1 P) ∧ (k = false → P (.dat (.bl false)) Γ1)) : EW X (.BoolOp .And (a :: b :: es) pos) Γ P := by
  intro A F H σ fm Q q
  refine ⟨_, pe_and pe_top pe_top, ?_⟩
  show EV X a σ H fun x H1 => ∃ c, x = .bl c ∧ if c = true then EV X (.BoolOp .And (b :: es) pos) σ H1 Q else Q (.bl false) H1
  refine h.run fm Stp.refl fun x Γ1 vx F1 H1 p s1 _ fm1 ox => ?_
  obtain ⟨k, rfl, p1, p2⟩ := p
  refine ⟨k, Rep.bl_eq ox, ?_⟩
  cases k with
  | true =>
    rw [if_pos rfl]
    exact (p1 rfl).run fm1 s1 fun d Γ2 v F2 H2 p2 s2 _ fm2 o2 => q d Γ2 v F2 H2 p2 s2 fm2 o2
  | false =>
    rw [if_neg Bool.false_ne_true]
    exact q _ Γ1 _ F1 H1 (p2 rfl) s1 fm1 (.bl _)
theorem ew_or (h : EW X a Γ fun x Γ1 => ∃ k, x = .dat (.bl k) ∧ (k = true → P (.dat (.bl true)) Γ1) ∧ (k = false → EW X (.BoolOp .Or (b :: es) pos) Γ1 P)) : EW X (.BoolOp .Or (a :: b :: es) pos) Γ P := by
  intro A F H σ fm Q q
  refine ⟨_, pe_or pe_top pe_top, ?_⟩
  show EV X a σ H fun x H1 => ∃ c, x = .bl c ∧ if c = true then Q (.bl true) H1 else EV X (.BoolOp .Or (b :: es) pos) σ H1 Q
  refine h.run fm Stp.refl fun x Γ1 vx F1 H1 p s1 _ fm1 ox => ?_
  obtain ⟨k, rfl, p1, p2⟩ := p
  refine ⟨k, Rep.bl_eq ox, ?_⟩
  cases k with
  | true =>
    rw [if_pos rfl]
    exact q _ Γ1 _ F1 H1 (p1 rfl) s1 fm1 (.bl _)
  | false =>
    rw [if_neg Bool.false_ne_true]
    exact (p2 rfl).run fm1 s1 fun d Γ2 v F2 H2 p2 s2 _ fm2 o2 => q d Γ2 v F2 H2 p2 s2 fm2 o2
theorem ew_not (h : EW X a Γ fun x Γ1 => ∃ k, x = .dat (.bl k) ∧ P (.dat (.bl (!k))) Γ1) : EW X (.UnaryOp .Not a pos) Γ P := by
  intro A F H σ fm Q q
  refine ⟨_, pe_not pe_top, ?_⟩
  show EV X a σ H fun x H1 => ∃ c, x = .bl c ∧ Q (.bl (!c)) H1
  refine h.run fm Stp.refl fun x Γ1 vx F1 H1 p s1 _ fm1 ox => ?_
  obtain ⟨k, rfl, p1⟩ := p
  exact ⟨k, Rep.bl_eq ox, q _ Γ1 _ F1 H1 p1 s1 fm1 (.bl _)⟩
theorem ew_if (h : TW X c Γ fun k Γ1 => (k = true → EW X a Γ1 P) ∧ (k = false → EW X b Γ1 P)) : EW X (.IfExp c a b pos) Γ P := by
  intro A F H σ fm Q q
  refine ⟨_, pe_ifExp pt_top pe_top pe_top, ?_⟩
  show TV X c σ H fun k H1 => if k = true then EV X a σ H1 Q else EV X b σ H1 Q
  refine h.run fm Stp.refl fun k Γ1 F1 H1 p s1 _ fm1 => ?_
  cases k with
  | true =>
    rw [if_pos rfl]
    exact (p.1 rfl).run fm1 s1 fun d Γ2 v F2 H2 p2 s2 _ fm2 o2 => q d Γ2 v F2 H2 p2 s2 fm2 o2
  | false =>
    rw [if_neg Bool.false_ne_true]
    exact (p.2 rfl).run fm1 s1 fun d Γ2 v F2 H2 p2 s2 _ fm2 o2 => q d Γ2 v F2 H2 p2 s2 fm2 o2
theorem ew_neg {i : Int} (h : EW X a Γ fun x Γ1 => ∃ i, x = .dat (.int i) ∧ P (.dat (.int (-i))) Γ1) : EW X (.UnaryOp .USub a pos) Γ P := by
  intro A F H σ fm Q q
  refine ⟨_, pe_un un_neg pe_top, ?_⟩
  show EV X a σ H fun x H1 => ∃ i, x = .int i ∧ Q (.int (-i)) H1
  refine h.run fm Stp.refl fun x Γ1 vx F1 H1 p s1 _ fm1 ox => ?_
  obtain ⟨k, rfl, p1⟩ := p
  exact ⟨k, Rep.int_eq ox, q _ Γ1 _ F1 H1 p1 s1 fm1 (.int _)⟩
end
end VX

/-! VX: arguments, displays, subscripts, slices, built-in calls, methods. -/
namespace VX
open PySem PySem.Spec PyProof.Rows L2

/-! ### freezing -/
def datOf : Dv → Option D
  | .dat d => some d
  | .new ds => some (.lst ds)
  | .loc _ => none
theorem freeze1 {K : PySem.W.Frag} {A : Ac} {Fs Hs F H : Hp} {σ : L2.St} {Γs Γ : List Dsc} {x : Dv} {v : V} {d : D} (ok : VOk K A Hs F H σ Γ x v) (fm : Fm K A F H σ Γ) (st : Stp σ Γs Γ Fs Hs F H) (h : datOf x = some d) :
    ∃ F', Ex F F' ∧ Fm K A F' H σ Γ ∧ Stp σ Γs Γ Fs Hs F' H ∧ Rep K F' d v := by
  cases x with
  | dat t => cases h; exact ⟨F, Ex.refl _, fm, st, ok⟩
  | new ds =>
    cases h
    obtain ⟨a, rfl, ⟨⟨xs, e, r⟩, z⟩, h0, no, hs⟩ := ok
    exact ⟨upd F a (.lst xs), Ex.new z, fm.freeze e z no h0, st.freeze z hs, .lst upd_same (r.ex (Ex.new z))⟩
  | loc i => cases h
theorem VOk.seq2 {K : PySem.W.Frag} {A : Ac} {Hs F H : Hp} {σ : L2.St} {Γ : List Dsc} {x : Dv} {v : V} {ds : List D} (ok : VOk K A Hs F H σ Γ x v) (fm : Fm K A F H σ Γ) (h : seqOf Γ x = some ds) :
    (∃ a vs, v = .ref a ∧ SqL K H a vs ∧ Reps K F ds vs) ∨ ∃ a vs, v = .ref a ∧ F a = some (.tup vs) ∧ Reps K F ds vs := by
  have L : lstOf Γ x = some ds → ∃ a vs, v = .ref a ∧ SqL K H a vs ∧ Reps K F ds vs := fun h => by
    obtain ⟨a, vs, e, e1, r⟩ := ok.lst fm h
    exact ⟨a, vs, e, .inl (.inl e1), r⟩
  cases x with
  | new es => exact .inl (L h)
  | loc i => exact .inl (L h)
  | dat d =>
    cases d with
    | tup es =>
      cases h
      cases ok with
      | tup e r => exact .inr ⟨_, _, rfl, e, r⟩
    | scr es =>
      cases h
      cases ok with
      | scr e r => exact .inl ⟨_, _, rfl, fm.fh.sq e, r⟩
    | lst es => exact .inl (L h)
    | _ => cases h
section
variable {X : Cx} {Γ : List Dsc} {P : PD} {a b c e o : Expr} {es : List Expr} {pos p pos' : Pos} {x : Str}
theorem ew_frz (h : EW X e Γ fun x Γ1 => ∃ d, datOf x = some d ∧ P (.dat d) Γ1) : EW X e Γ P := by
  intro A F H σ fm Q q
  refine h.run fm Stp.refl fun x Γ1 v F1 H1 hx s1 _ fm1 ok => ?_
  obtain ⟨d, hd, hp⟩ := hx
  obtain ⟨F2, _, fm2, s2, r⟩ := freeze1 ok fm1 s1 hd
  exact q _ Γ1 v F2 H1 hp s2 fm2 r

/-! ### arguments -/
theorem aw_nil {P : List Dv → List Dsc → Prop} (h : P [] Γ) : AW X [] Γ P := fun A F H σ fm Q q => ⟨_, pa_nil, q [] Γ [] F H h Stp.refl fm .nil⟩
theorem aw_cons {P : List Dv → List Dsc → Prop} (h : EW X e Γ fun x Γ1 => AW X es Γ1 fun xs Γ2 => P (x :: xs) Γ2) (hs : starEach (e :: es) X.env = (false, eval e X.env) :: starEach es X.env := by rfl) : AW X (e :: es) Γ P := by
  intro A F H σ fm Q q
  refine ⟨_, pa_cons pe_top pa_top hs, ?_⟩
  show EV X e σ H fun x H1 => AV X es σ H1 fun xs H2 => Q (x :: xs) H2
  refine h.run fm Stp.refl fun x Γ1 v F1 H1 hx s1 _ fm1 ok => ?_
  exact hx.run fm1 s1 fun xs Γ2 vs F2 H2 hp s2 s12 fm2 oks => q _ Γ2 _ F2 H2 hp s2 fm2 (.cons (ok.stp s12) oks)
/-- *e, e's items data -/
theorem aw_star {P : List Dv → List Dsc → Prop} (h : EW X e Γ fun x Γ1 => ∃ ds, seqOf Γ1 x = some ds ∧ (∀ i, x ≠ .loc i) ∧ AW X es Γ1 fun xs Γ2 => P (ds.map .dat ++ xs) Γ2)
    (hs : starEach (.Starred e p :: es) X.env = (true, eval e X.env) :: starEach es X.env := by rfl) : AW X (.Starred e p :: es) Γ P := by
  intro A F H σ fm Q q
  refine ⟨_, StX.pa_star pe_top pa_top hs, ?_⟩
  show EV X e σ H fun x H1 => ∃ a xs, x = V.ref a ∧ (SqT X.K H1 a xs ∨ SqL X.K H1 a xs) ∧ AV X es σ H1 fun ys H2 => Q (xs ++ ys) H2
  refine h.run fm Stp.refl fun x Γ1 v F1 H1 hx s1 _ fm1 ok => ?_
  obtain ⟨ds, hd, _, h2⟩ := hx
  obtain ⟨a, vs, rfl, hq, r⟩ := ok.seq fm1 hd
  refine ⟨a, vs, rfl, hq.elim .inr .inl, ?_⟩
  refine h2.run fm1 s1 fun xs Γ2 ws F2 H2 hp s2 s12 fm2 oks => q _ Γ2 _ F2 H2 hp s2 fm2 ?_
  have : ∀ (ds : List D) (vs : List V), Reps X.K F1 ds vs → VsOk X.K A H F2 H2 σ Γ2 (ds.map .dat ++ xs) (vs ++ ws) := by
    intro ds vs r
    induction ds generalizing vs with
    | nil => cases r; exact oks
    | cons d ds ih =>
      cases r with
      | cons r1 r2 => exact .cons (Rep.ex s12.f r1) (ih _ r2)
  exact this ds vs r

/-! ### displays -/
def datsOf : List Dv → Option (List D)
  | [] => some []
  | .dat d :: r => (datsOf r).map (d :: ·)
  | _ => none
theorem reps_of {K : PySem.W.Frag} {A : Ac} {Hs F H : Hp} {σ : L2.St} {Γ : List Dsc} : ∀ {xs : List Dv} {vs : List V} {ds : List D}, VsOk K A Hs F H σ Γ xs vs → datsOf xs = some ds → Reps K F ds vs
  | [], _, _, .nil, h => by cases h; exact .nil
  | .dat d :: r, _, _, .cons o t, h => by
    obtain ⟨es, e1, e2⟩ := Option.map_eq_some_iff.mp (show (datsOf r).map (d :: ·) = some _ from h)
    subst e2
    exact .cons o (reps_of t e1)
  | .new _ :: _, _, _, _, h => by cases h
  | .loc _ :: _, _, _, _, h => by cases h
theorem datsOf_map (ds : List D) : datsOf (ds.map .dat) = some ds := by
  induction ds with
  | nil => rfl
  | cons d ds ih =>
    show (datsOf (ds.map .dat)).map (d :: ·) = _
    rw [ih]
    rfl
theorem datsOf_append {xs ys : List Dv} {ds es : List D} (h : datsOf xs = some ds) (h' : datsOf ys = some es) : datsOf (xs ++ ys) = some (ds ++ es) := by
  induction xs generalizing ds with
  | nil => cases h; exact h'
  | cons x xs ih =>
    cases x with
    | dat d =>
      obtain ⟨us, e1, e2⟩ := Option.map_eq_some_iff.mp (show (datsOf xs).map (d :: ·) = some _ from h)
      subst e2
      show (datsOf (xs ++ ys)).map (d :: ·) = _
      rw [ih e1]
      rfl
    | new _ => cases h
    | loc _ => cases h
theorem ew_tup {k : Nat} (h : AW X es Γ fun xs Γ1 => ∃ ds, datsOf xs = some ds ∧ ds.length ≤ 1000000 ∧ P (.dat (.tup ds)) Γ1) : EW X (.Tuple es k pos) Γ P := by
  intro A F H σ fm Q q
  refine ⟨_, pe_tup pa_top, ?_⟩
  show AV X es σ H fun xs H1 => xs.length ≤ sizeLine ∧ ∀ p, H1 p = none → Q (.ref p) (upd H1 p (.tup xs))
  refine h.run fm Stp.refl fun xs Γ1 vs F1 H1 hx s1 _ fm1 ok => ?_
  obtain ⟨ds, hd, hl, hp⟩ := hx
  have r := reps_of ok hd
  refine ⟨by rw [← r.len]; exact sz hl, fun p np => ?_⟩
  exact q _ Γ1 _ _ _ hp (s1.trans (Stp.allocF np (fm1.fnone np))) (fm1.allocF np) (.tup upd_same (r.ex (Ex.new (fm1.fnone np))))
theorem newOk {K : PySem.W.Frag} {A : Ac} {Hs F H : Hp} {σ : L2.St} {Γs Γ : List Dsc} {Fs : Hp} {p : Addr} {vs : List V} {ds : List D} (fm : Fm K A F H σ Γ) (st : Stp σ Γs Γ Fs Hs F H) (np : H p = none) (r : Reps K F ds vs) :
    VOk K A Hs F (upd H p (.lst vs)) σ Γ (.new ds) (.ref p) := ⟨p, rfl, ⟨⟨vs, upd_same, r⟩, fm.fnone np⟩, fm.h0 np, fm.notOwn np, st.g p np⟩
theorem ew_lst (h : AW X es Γ fun xs Γ1 => ∃ ds, datsOf xs = some ds ∧ ds.length ≤ 1000000 ∧ P (.new ds) Γ1) : EW X (.List es pos) Γ P := by
  intro A F H σ fm Q q
  refine ⟨_, pe_lst pa_top, ?_⟩
  show AV X es σ H fun xs H1 => xs.length ≤ sizeLine ∧ ∀ p, H1 p = none → Q (.ref p) (upd H1 p (.lst xs))
  refine h.run fm Stp.refl fun xs Γ1 vs F1 H1 hx s1 _ fm1 ok => ?_
  obtain ⟨ds, hd, hl, hp⟩ := hx
  have r := reps_of ok hd
  refine ⟨by rw [← r.len]; exact sz hl, fun p np => ?_⟩
  exact q _ Γ1 _ _ _ hp (s1.trans (Stp.alloc np)) (fm1.alloc np) (newOk fm1 s1 np r)

/-! ### +, * of tuples and lists -/
theorem ew_catT (h : EW X a Γ fun x Γ1 => EW X b Γ1 fun y Γ2 => ∃ xs ys, x = .dat (.tup xs) ∧ y = .dat (.tup ys) ∧ xs.length + ys.length ≤ 1000000 ∧ P (.dat (.tup (xs ++ ys))) Γ2) : EW X (.BinOp a .Add b pos) Γ P :=
  ew_bin op_catA (h.mono fun x Γ1 h1 => h1.mono fun y Γ2 ⟨xs, ys, e1, e2, hl, hp⟩ A Fs Hs Γs F H σ vs fm st ok Q q => by
    subst e1 e2
    cases ok with
    | cons o1 ok =>
      cases ok with
      | cons o2 ok =>
        cases ok
        cases o1 with
        | tup e1 r1 =>
          cases o2 with
          | tup e2 r2 =>
            refine ⟨_, _, rfl, _, _, _, _, rfl, rfl, .inl (.inl (fm.fh _ _ e1)), .inl (.inl (fm.fh _ _ e2)), by rw [← r1.len, ← r2.len]; exact sz hl, fun z => ?_, fun _ z => ?_, fun _ _ p np => ?_⟩
            · subst z
              cases r1
              exact q _ _ _ F H hp st fm (.tup e2 r2)
            · subst z
              cases r2
              rw [List.append_nil] at hp
              exact q _ _ _ F H hp st fm (.tup e1 r1)
            · exact q _ _ _ _ _ hp (st.trans (Stp.allocF np (fm.fnone np))) (fm.allocF np) (.tup upd_same ((r1.append r2).ex (Ex.new (fm.fnone np)))))
theorem ew_catL (h : EW X a Γ fun x Γ1 => EW X b Γ1 fun y Γ2 => ∃ xs ys, lstOf Γ2 x = some xs ∧ lstOf Γ2 y = some ys ∧ xs.length + ys.length ≤ 1000000 ∧ P (.new (xs ++ ys)) Γ2) : EW X (.BinOp a .Add b pos) Γ P :=
  ew_bin op_cat (h.mono fun x Γ1 h1 => h1.mono fun y Γ2 ⟨xs, ys, e1, e2, hl, hp⟩ A Fs Hs Γs F H σ vs fm st ok Q q => by
    cases ok with
    | cons o1 ok =>
      cases ok with
      | cons o2 ok =>
        cases ok
        obtain ⟨l1, v1, rfl, g1, r1⟩ := VOk.lst o1 fm e1
        obtain ⟨l2, v2, rfl, g2, r2⟩ := VOk.lst o2 fm e2
        refine ⟨_, _, rfl, l1, l2, v1, v2, rfl, rfl, g1, g2, by rw [← r1.len, ← r2.len]; exact sz hl, fun p np => ?_⟩
        exact q _ _ _ _ _ hp (st.trans (Stp.alloc np)) (fm.alloc np) (newOk fm st np (r1.append r2)))
theorem ew_repL (h : EW X a Γ fun x Γ1 => EW X b Γ1 fun y Γ2 => ∃ xs k, lstOf Γ2 x = some xs ∧ y = .dat (.int k) ∧ k ≤ 1000 ∧ -1000 ≤ k ∧ xs.length ≤ 1000 ∧ P (.new (List.replicate k.toNat xs).flatten) Γ2) : EW X (.BinOp a .Mult b pos) Γ P :=
  ew_bin op_rep (h.mono fun x Γ1 h1 => h1.mono fun y Γ2 ⟨xs, k, e1, e2, hk, hk2, hl, hp⟩ A Fs Hs Γs F H σ vs fm st ok Q q => by
    subst e2
    cases ok with
    | cons o1 ok =>
      cases ok with
      | cons o2 ok =>
        cases ok
        obtain ⟨l1, v1, rfl, g1, r1⟩ := VOk.lst o1 fm e1
        cases Rep.int_eq o2
        have hm : xs.length * k.toNat ≤ 1000 * 1000 := Nat.mul_le_mul hl (by omega)
        refine ⟨_, _, rfl, l1, k, v1, rfl, rfl, g1, by omega, by omega, by rw [← r1.len]; exact sz hm, fun p np => ?_⟩
        exact q _ _ _ _ _ hp (st.trans (Stp.alloc np)) (fm.alloc np) (newOk fm st np (r1.rep _)))
theorem ew_repT (h : EW X a Γ fun x Γ1 => EW X b Γ1 fun y Γ2 => ∃ xs k, x = .dat (.tup xs) ∧ y = .dat (.int k) ∧ xs ≠ [] ∧ 2 ≤ k ∧ k ≤ 1000 ∧ xs.length ≤ 1000 ∧ P (.dat (.tup (List.replicate k.toNat xs).flatten)) Γ2) : EW X (.BinOp a .Mult b pos) Γ P :=
  ew_bin op_repT (h.mono fun x Γ1 h1 => h1.mono fun y Γ2 ⟨xs, k, e1, e2, hne, hk, hk2, hl, hp⟩ A Fs Hs Γs F H σ vs fm st ok Q q => by
    subst e1 e2
    cases ok with
    | cons o1 ok =>
      cases ok with
      | cons o2 ok =>
        cases ok
        cases Rep.int_eq o2
        cases o1 with
        | tup e1 r1 =>
          refine ⟨_, _, rfl, _, k, _, rfl, rfl, .inl (.inl (fm.fh _ _ e1)), fun z => hne ?_, hk, hk2, by rw [← r1.len]; exact hl, fun p np => ?_⟩
          · subst z
            cases r1
            rfl
          · exact q _ _ _ _ _ hp (st.trans (Stp.allocF np (fm.fnone np))) (fm.allocF np) (.tup upd_same ((r1.rep _).ex (Ex.new (fm.fnone np)))))

/-! ### subscripts, slices -/
theorem atI_reps {K : PySem.W.Frag} {H : Hp} {ds : List D} {vs : List V} {i : Int} {d : D} (r : Reps K H ds vs) (h : atI ds i = some d) : ∃ v, atI vs i = some v ∧ Rep K H d v := by
  unfold atI at h ⊢
  rw [r.len] at h
  cases e : ixN vs.length i with
  | none => rw [e] at h; cases h
  | some j =>
    rw [e] at h
    exact r.get h
theorem ew_ix (h : EW X a Γ fun x Γ1 => EW X b Γ1 fun y Γ2 => ∃ ds i d, seqOf Γ2 x = some ds ∧ y = .dat (.int i) ∧ atI ds i = some d ∧ P (.dat d) Γ2) (hs : PlainIx b := by exact fun _ _ => rfl) : EW X (.Subscript a b pos) Γ P := by
  intro A F H σ fm Q q
  refine ⟨_, pe_ix (IxR.or ix_list ix_tup) pe_top pe_top hs, ?_⟩
  show EV X a σ H (fun x H1 => EV X b σ H1 fun y H2 => rIxL X.K x y H2 Q ∨ rIxT X.K x y H2 Q)
  refine h.run fm Stp.refl fun x Γ1 vx F1 H1 hx s1 _ fm1 ox => ?_
  refine hx.run fm1 s1 fun y Γ2 vy F2 H2 hk s2 s12 fm2 oy => ?_
  obtain ⟨ds, i, d, e1, rfl, e3, hp⟩ := hk
  obtain ⟨l, vs, rfl, hq, r⟩ := (ox.stp s12).seq fm2 e1
  obtain ⟨v, e4, rv⟩ := atI_reps r e3
  cases Rep.int_eq oy
  rcases hq with hq | hq
  · exact .inl ⟨l, vs, i, v, rfl, rfl, hq, e4, q _ Γ2 v F2 H2 hp s2 fm2 rv⟩
  · exact .inr ⟨l, vs, i, v, rfl, rfl, hq, e4, q _ Γ2 v F2 H2 hp s2 fm2 rv⟩
/-- a slice's part -/
def OV (X : Cx) (e : Option Expr) : TO := fun σ H Q => ∃ t, PO X e t ∧ t σ H Q
theorem po_top {X : Cx} {e : Option Expr} : PO X e (OV X e) := ⟨fun pins s σ H Q I ⟨_, h, q⟩ => h.run pins s σ H Q I q⟩
def OW (X : Cx) (e : Option Expr) (Γ : List Dsc) (P : Option Int → List Dsc → Prop) : Prop := ∀ A F H σ, Fm X.K A F H σ Γ → ∀ Q : Option Int → Hp → Prop,
  (∀ b Γ' F' H', P b Γ' → Stp σ Γ Γ' F H F' H' → Fm X.K A F' H' σ Γ' → Q b H') → OV X e σ H Q
theorem ow_none {P : Option Int → List Dsc → Prop} (h : P none Γ) : OW X none Γ P := fun A F H σ fm Q q => ⟨_, po_none, q none Γ F H h Stp.refl fm⟩
theorem ow_some {P : Option Int → List Dsc → Prop} (h : EW X e Γ fun x Γ1 => ∃ i, x = .dat (.int i) ∧ P (some i) Γ1) : OW X (some e) Γ P := by
  intro A F H σ fm Q q
  refine ⟨_, po_some pe_top, ?_⟩
  show EV X e σ H fun x H1 => ∃ i, x = .int i ∧ Q (some i) H1
  refine h.run fm Stp.refl fun x Γ1 vx F1 H1 hx s1 _ fm1 ox => ?_
  obtain ⟨i, rfl, hp⟩ := hx
  exact ⟨i, Rep.int_eq ox, q _ Γ1 F1 H1 hp s1 fm1⟩
def cutD (xs : List D) (lo hi : Option Int) : List D := (xs.drop (HT.sIx xs.length 0 lo)).take (HT.sIx xs.length xs.length hi - HT.sIx xs.length 0 lo)
theorem Reps.cut {K : PySem.W.Frag} {H : Hp} {ds : List D} {vs : List V} (r : Reps K H ds vs) (lo hi : Option Int) : Reps K H (cutD ds lo hi) (cutV vs lo hi) := by
  unfold cutD cutV
  rw [r.len]
  exact (r.drop _).take _
theorem ew_slT {lo hi : Option Expr} (h : EW X a Γ fun x Γ1 => OW X lo Γ1 fun l Γ2 => OW X hi Γ2 fun u Γ3 => ∃ ds, x = .dat (.tup ds) ∧ P (.dat (.tup (cutD ds l u))) Γ3) : EW X (.Subscript a (.Slice lo hi none p) pos) Γ P := by
  intro A F H σ fm Q q
  refine ⟨_, pe_slice sl_tupA pe_top po_top po_top, ?_⟩
  show EV X a σ H fun x H1 => OV X lo σ H1 fun l H2 => OV X hi σ H2 fun u H3 => rSlA X.K x l u H3 Q
  refine h.run fm Stp.refl fun x Γ1 vx F1 H1 hx s1 _ fm1 ox => ?_
  refine hx A F1 H1 σ fm1 _ fun l Γ2 F2 H2 h2 s12 fm2 => ?_
  refine h2 A F2 H2 σ fm2 _ fun u Γ3 F3 H3 h3 s23 fm3 => ?_
  obtain ⟨ds, rfl, hp⟩ := h3
  have ox3 := (VOk.stp ox s12).stp s23
  have st := (s1.trans s12).trans s23
  cases ox3 with
  | tup e1 r1 =>
    rename_i aa xs
    refine ⟨_, _, rfl, .inl (.inl (fm3.fh _ _ e1)), fun z => ?_, fun z p np => ?_⟩
    · have e : cutD ds l u = ds := by
        unfold cutD
        rw [r1.len, z.1, z.2, ← r1.len, List.drop_zero, Nat.sub_zero, List.take_length]
      rw [e] at hp
      exact q _ _ _ F3 H3 hp st fm3 (.tup e1 r1)
    · exact q _ _ _ _ _ hp (st.trans (Stp.allocF np (fm3.fnone np))) (fm3.allocF np) (.tup upd_same ((r1.cut l u).ex (Ex.new (fm3.fnone np))))
theorem ew_slL {lo hi : Option Expr} (h : EW X a Γ fun x Γ1 => OW X lo Γ1 fun l Γ2 => OW X hi Γ2 fun u Γ3 => ∃ ds, (x = .dat (.scr ds) ∨ lstOf Γ3 x = some ds) ∧ P (.new (cutD ds l u)) Γ3) : EW X (.Subscript a (.Slice lo hi none p) pos) Γ P := by
  intro A F H σ fm Q q
  refine ⟨_, pe_slice sl_list pe_top po_top po_top, ?_⟩
  show EV X a σ H fun x H1 => OV X lo σ H1 fun l H2 => OV X hi σ H2 fun u H3 => rSlL X.K x l u H3 Q
  refine h.run fm Stp.refl fun x Γ1 vx F1 H1 hx s1 _ fm1 ox => ?_
  refine hx A F1 H1 σ fm1 _ fun l Γ2 F2 H2 h2 s12 fm2 => ?_
  refine h2 A F2 H2 σ fm2 _ fun u Γ3 F3 H3 h3 s23 fm3 => ?_
  obtain ⟨ds, hd, hp⟩ := h3
  have ox3 := (VOk.stp ox s12).stp s23
  have st := (s1.trans s12).trans s23
  have key : ∃ a vs, vx = .ref a ∧ SqL X.K H3 a vs ∧ Reps X.K F3 ds vs := by
    rcases hd with rfl | hd
    · cases ox3 with
      | scr e r => exact ⟨_, _, rfl, fm3.fh.sq e, r⟩
    · obtain ⟨a, vs, e, g, r⟩ := ox3.lst fm3 hd
      exact ⟨a, vs, e, .inl (.inl g), r⟩
  obtain ⟨a, vs, rfl, g, r⟩ := key
  exact ⟨a, vs, rfl, g, fun p np => q _ _ _ _ _ hp (st.trans (Stp.alloc np)) (fm3.alloc np) (newOk fm3 st np (r.cut l u))⟩

/-! ### calls of what is built in -/
theorem ew_cb {id : String} {r : List V → Hp → VK → Prop} (hc : CallR X (.builtin id) r) (hm : X.mg x = none) (hv : bootBuiltins x = some (.builtin id)) (h : AW X (e :: es) Γ fun xs Γ1 => Kw X Γ1 xs r P) (hg : Gl X x := by rfl)
    (hn : x ≠ "__name__" := by decide) (hdb : (x == ("__debug__" : Str)) = false := by decide)
    (he : starEach (e :: es) X.env = (false, eval e X.env) :: starEach es X.env := by rfl) (hpl : (backTo pos (starEach es X.env)).any (·.1) = false := by rfl) : EW X (.Call (.Name x p) (e :: es) [] pos) Γ P := by
  intro A F H σ fm Q q
  refine ⟨_, pe_callB hc hg hm hv pa_top hn hdb he hpl, ?_⟩
  show AV X (e :: es) σ H fun vs H1 => r vs H1 Q
  exact h.run fm Stp.refl fun xs Γ1 vs F1 H1 hx s1 _ fm1 ok => hx A F H Γ F1 H1 σ vs fm1 s1 ok Q q
theorem ew_cty {T : String} {r : List V → Hp → VK → Prop} (hc : CallR X (.type T) r) (hm : X.mg x = none) (hv : bootBuiltins x = some (.type T)) (h : AW X (e :: es) Γ fun xs Γ1 => Kw X Γ1 xs r P) (hg : Gl X x := by rfl)
    (hn : x ≠ "__name__" := by decide) (hdb : (x == ("__debug__" : Str)) = false := by decide)
    (he : starEach (e :: es) X.env = (false, eval e X.env) :: starEach es X.env := by rfl) (hpl : (backTo pos (starEach es X.env)).any (·.1) = false := by rfl) : EW X (.Call (.Name x p) (e :: es) [] pos) Γ P := by
  intro A F H σ fm Q q
  refine ⟨_, pe_callTy hc hg hm hv pa_top hn hdb he hpl, ?_⟩
  show AV X (e :: es) σ H fun vs H1 => r vs H1 Q
  exact h.run fm Stp.refl fun xs Γ1 vs F1 H1 hx s1 _ fm1 ok => hx A F H Γ F1 H1 σ vs fm1 s1 ok Q q
abbrev one (k : Dv → List Dsc → Prop) : List Dv → List Dsc → Prop := fun xs Γ => ∃ x, xs = [x] ∧ k x Γ
theorem aw_one {k : List Dv → List Dsc → Prop} (h : EW X e Γ fun x Γ1 => k [x] Γ1) (hs : starEach [e] X.env = (false, eval e X.env) :: starEach [] X.env := by rfl) : AW X [e] Γ k := aw_cons (h.mono fun x Γ1 h1 => aw_nil h1) hs
theorem ew_len (hm : X.mg "len" = none) (h : EW X e Γ fun x Γ1 => ∃ ds, seqOf Γ1 x = some ds ∧ P (.dat (.int ds.length)) Γ1) (hg : Gl X "len" := by rfl)
    (he : starEach [e] X.env = (false, eval e X.env) :: starEach [] X.env := by rfl) : EW X (.Call (.Name "len" p) [e] [] pos) Γ P :=
  ew_cb call_len_seq hm PySem.boot_len (aw_one (h.mono fun x Γ1 ⟨ds, hd, hp⟩ A Fs Hs Γs F H σ vs fm st ok Q q => by
    cases ok with
    | cons o1 ok =>
      cases ok
      obtain ⟨a, vs, rfl, hq, r⟩ := VOk.seq o1 fm hd
      refine ⟨a, vs, rfl, hq, ?_⟩
      rw [← r.len]
      exact q _ _ _ F H hp st fm (.int _)) he) hg (by decide) (by decide) he (by rfl)
theorem ew_int1 (hm : X.mg "int" = none) (h : EW X e Γ fun x Γ1 => (∃ i, x = .dat (.int i) ∧ P (.dat (.int i)) Γ1) ∨ ∃ k, x = .dat (.bl k) ∧ P (.dat (.int (if k then 1 else 0))) Γ1) (hg : Gl X "int" := by rfl)
    (he : starEach [e] X.env = (false, eval e X.env) :: starEach [] X.env := by rfl) : EW X (.Call (.Name "int" p) [e] [] pos) Γ P :=
  ew_cty call_int1 hm (by decide +kernel) (aw_one (h.mono fun x Γ1 hh A Fs Hs Γs F H σ vs fm st ok Q q => by
    cases ok with
    | cons o1 ok =>
      cases ok
      rcases hh with ⟨i, rfl, hp⟩ | ⟨k, rfl, hp⟩
      · cases Rep.int_eq o1
        exact .inl ⟨i, rfl, q _ _ _ F H hp st fm (.int _)⟩
      · cases Rep.bl_eq o1
        exact .inr ⟨k, rfl, q _ _ _ F H hp st fm (.int _)⟩) he) hg (by decide) (by decide) he (by rfl)
theorem ew_abs (hm : X.mg "abs" = none) (h : EW X e Γ fun x Γ1 => ∃ i, x = .dat (.int i) ∧ P (.dat (.int (if i < 0 then -i else i))) Γ1) (hg : Gl X "abs" := by rfl)
    (he : starEach [e] X.env = (false, eval e X.env) :: starEach [] X.env := by rfl) : EW X (.Call (.Name "abs" p) [e] [] pos) Γ P :=
  ew_cb call_abs hm (by decide +kernel) (aw_one (h.mono fun x Γ1 ⟨i, e1, hp⟩ A Fs Hs Γs F H σ vs fm st ok Q q => by
    subst e1
    cases ok with
    | cons o1 ok =>
      cases ok
      cases Rep.int_eq o1
      exact ⟨i, rfl, q _ _ _ F H hp st fm (.int _)⟩) he) hg (by decide) (by decide) he (by rfl)
theorem ew_min2 (hc : X.calm = true) (hm : X.mg "min" = none) (h : EW X a Γ fun x Γ1 => EW X b Γ1 fun y Γ2 => ∃ i j, x = .dat (.int i) ∧ y = .dat (.int j) ∧ P (.dat (.int (if j < i then j else i))) Γ2) (hg : Gl X "min" := by rfl)
    (he : starEach [a, b] X.env = (false, eval a X.env) :: starEach [b] X.env := by rfl) (he2 : starEach [b] X.env = (false, eval b X.env) :: starEach [] X.env := by rfl) (hpl : (backTo pos (starEach [b] X.env)).any (·.1) = false := by rfl) : EW X (.Call (.Name "min" p) [a, b] [] pos) Γ P :=
  ew_cb (call_min2 hc) hm (by decide +kernel) (aw_cons (h.mono fun x Γ1 h1 => aw_one (h1.mono fun y Γ2 ⟨i, j, e1, e2, hp⟩ A Fs Hs Γs F H σ vs fm st ok Q q => by
    subst e1 e2
    cases ok with
    | cons o1 ok =>
      cases ok with
      | cons o2 ok =>
        cases ok
        cases Rep.int_eq o1
        cases Rep.int_eq o2
        exact ⟨i, j, rfl, q _ _ _ F H hp st fm (.int _)⟩) he2) he) hg (by decide) (by decide) he hpl
theorem ew_list (hm : X.mg "list" = none) (h : EW X e Γ fun x Γ1 => ∃ ds, seqOf Γ1 x = some ds ∧ P (.new ds) Γ1) (hg : Gl X "list" := by rfl)
    (he : starEach [e] X.env = (false, eval e X.env) :: starEach [] X.env := by rfl) : EW X (.Call (.Name "list" p) [e] [] pos) Γ P :=
  ew_cty call_list_of hm PyProof.Rows.boot_list (aw_one (h.mono fun x Γ1 ⟨ds, hd, hp⟩ A Fs Hs Γs F H σ vs fm st ok Q q => by
    cases ok with
    | cons o1 ok =>
      cases ok
      obtain ⟨a, vs, rfl, hq, r⟩ := VOk.seq o1 fm hd
      exact ⟨a, vs, rfl, hq, fun p np => q _ _ _ _ _ hp (st.trans (Stp.alloc np)) (fm.alloc np) (newOk fm st np r)⟩) he) hg (by decide) (by decide) he (by rfl)
theorem ew_tuple (hm : X.mg "tuple" = none) (h : EW X e Γ fun x Γ1 => ∃ ds, seqOf Γ1 x = some ds ∧ P (.dat (.tup ds)) Γ1) (hg : Gl X "tuple" := by rfl)
    (he : starEach [e] X.env = (false, eval e X.env) :: starEach [] X.env := by rfl) : EW X (.Call (.Name "tuple" p) [e] [] pos) Γ P :=
  ew_cty call_tuple_of hm PyProof.Rows.boot_tuple (aw_one (h.mono fun x Γ1 ⟨ds, hd, hp⟩ A Fs Hs Γs F H σ vs fm st ok Q q => by
    cases ok with
    | cons o1 ok =>
      cases ok
      rcases VOk.seq2 o1 fm hd with ⟨a, vs, rfl, hq, r⟩ | ⟨a, vs, rfl, hq, r⟩
      · exact ⟨a, vs, rfl, .inl ⟨hq, fun p np => q _ _ _ _ _ hp (st.trans (Stp.allocF np (fm.fnone np))) (fm.allocF np) (.tup upd_same (r.ex (Ex.new (fm.fnone np))))⟩⟩
      · exact ⟨a, vs, rfl, .inr ⟨.inl (.inl (fm.fh _ _ hq)), q _ _ _ F H hp st fm (.tup hq r)⟩⟩) he) hg (by decide) (by decide) he (by rfl)
end
end VX

/-! VX: isinstance, sum, all, any, in, chains, sorted, methods that change an own list. -/
namespace VX
open PySem PySem.Spec PyProof.Rows L2
section
variable {X : Cx} {Γ : List Dsc} {P : PD} {a b c e o : Expr} {es : List Expr} {pos p p2 pos' apos cpos : Pos} {x : Str}

/-! ### isinstance -/
def kindOf : Dv → String
  | .dat .non => "NoneType"
  | .dat (.bl _) => "bool"
  | .dat (.int _) => "int"
  | .dat (.str _) => "str"
  | .dat (.tup _) => "tuple"
  | _ => "list"
theorem VOk.ty {K : PySem.W.Frag} {A : Ac} {Hs F H : Hp} {σ : L2.St} {x : Dv} {v : V} (ok : VOk K A Hs F H σ Γ x v) (fm : Fm K A F H σ Γ) : TyX K H v (.type (kindOf x)) := by
  cases x with
  | new ds =>
    obtain ⟨a, rfl, ⟨⟨xs, e, _⟩, _⟩, _⟩ := ok
    exact .base (.lst e)
  | loc i =>
    obtain ⟨a, rfl, h⟩ := ok
    obtain ⟨ds, ⟨xs, e, _⟩, _⟩ := fm.ownSome ⟨i, h⟩
    exact .base (.lst e)
  | dat d =>
    cases ok with
    | non => exact .base .non
    | bl b => exact .base (.bl b)
    | int i => exact .base (.int i)
    | str s => exact .base (.str s)
    | tup e r => exact .base (.tup (fm.fh _ _ e))
    | lst e r => exact .base (.lst (fm.fh _ _ e))
    | scr e r =>
      rcases fm.fh.sq e with (h | ⟨o, h⟩) | ⟨o, its, n, h1, h2, _⟩
      · exact .base (.lst h)
      · exact .base (.frz h)
      · exact .kList h1 h2
theorem ew_isi {T : String} {t : Str} (hm : X.mg "isinstance" = none) (ht : X.mg t = none) (hvt : bootBuiltins t = some (.type T)) (h : EW X e Γ fun x Γ1 => ∃ k, kitB (kindOf x) T = some k ∧ P (.dat (.bl k)) Γ1)
    (hg : Gl X "isinstance" := by rfl) (hgt : Gl X t := by rfl) (hn : t ≠ "__name__" := by decide) (hd : (t == ("__debug__" : Str)) = false := by decide)
    (he : starEach [e, .Name t p2] X.env = (false, eval e X.env) :: starEach [.Name t p2] X.env := by rfl)
    (hpl : (backTo pos (starEach [.Name t p2] X.env)).any (·.1) = false := by rfl) (hs2 : starEach [.Name t p2] X.env = (false, eval (.Name t p2) X.env) :: starEach [] X.env := by rfl) : EW X (.Call (.Name "isinstance" p) [e, .Name t p2] [] pos) Γ P := by
  intro A F H σ fm Q q
  refine ⟨_, pe_callB call_isi hg hm (by decide +kernel) (pa_cons pe_top (pa_cons (pe_bltn hgt ht hvt (v := .ty T) rfl hn hd) pa_nil hs2) he) (by decide) (by decide) he hpl, ?_⟩
  show EV X e σ H fun x H1 => rIsi X.K [x, .ty T] H1 Q
  refine h.run fm Stp.refl fun x Γ1 vx F1 H1 hx s1 _ fm1 ox => ?_
  obtain ⟨k, hk, hp⟩ := hx
  exact ⟨vx, .ty T, _, _, k, rfl, .ty T, VOk.ty ox fm1, kit_ty hk, q _ Γ1 _ F1 H1 hp s1 fm1 (.bl _)⟩
/-- isinstance(e, (S, T)) -/
theorem ew_isi2 {S T : String} {s t : Str} {p3 p4 : Pos} {kk : Nat} (hm : X.mg "isinstance" = none) (hs : X.mg s = none) (hvs : bootBuiltins s = some (.type S)) (ht : X.mg t = none) (hvt : bootBuiltins t = some (.type T))
    (h : EW X e Γ fun x Γ1 => ∃ k l, kitB (kindOf x) S = some k ∧ kitB (kindOf x) T = some l ∧ P (.dat (.bl (k || l))) Γ1)
    (hg : Gl X "isinstance" := by rfl) (hgs : Gl X s := by rfl) (hns : s ≠ "__name__" := by decide) (hds : (s == ("__debug__" : Str)) = false := by decide) (hgt : Gl X t := by rfl) (hn : t ≠ "__name__" := by decide) (hd : (t == ("__debug__" : Str)) = false := by decide)
    (he : starEach [e, .Tuple [.Name s p2, .Name t p3] kk p4] X.env = (false, eval e X.env) :: starEach [.Tuple [.Name s p2, .Name t p3] kk p4] X.env := by rfl)
    (hpl : (backTo pos (starEach [.Tuple [.Name s p2, .Name t p3] kk p4] X.env)).any (·.1) = false := by rfl)
    (hs2 : starEach [.Tuple [.Name s p2, .Name t p3] kk p4] X.env = (false, eval (.Tuple [.Name s p2, .Name t p3] kk p4) X.env) :: starEach [] X.env := by rfl)
    (hs3 : starEach [.Name s p2, .Name t p3] X.env = (false, eval (.Name s p2) X.env) :: starEach [.Name t p3] X.env := by rfl) (hs4 : starEach [.Name t p3] X.env = (false, eval (.Name t p3) X.env) :: starEach [] X.env := by rfl) :
    EW X (.Call (.Name "isinstance" p) [e, .Tuple [.Name s p2, .Name t p3] kk p4] [] pos) Γ P := by
  intro A F H σ fm Q q
  refine ⟨_, pe_callB call_isiT hg hm (by decide +kernel) (pa_cons pe_top (pa_cons (pe_tup (pa_cons (pe_bltn hgs hs hvs (v := .ty S) rfl hns hds) (pa_cons (pe_bltn hgt ht hvt (v := .ty T) rfl hn hd) pa_nil hs4) hs3)) pa_nil hs2) he) (by decide) (by decide) he hpl, ?_⟩
  show EV X e σ H fun x H1 => 2 ≤ sizeLine ∧ ∀ p, H1 p = none → rIsiT X.K [x, .ref p] (upd H1 p (.tup [.ty S, .ty T])) Q
  refine h.run fm Stp.refl fun x Γ1 vx F1 H1 hx s1 _ fm1 ox => ⟨by decide, fun tp np => ?_⟩
  obtain ⟨k, l, hk, hl, hp⟩ := hx
  have fm2 := fm1.alloc (o := .tup [.ty S, .ty T]) np
  have s2 := s1.trans (Stp.alloc (o := .tup [.ty S, .ty T]) np)
  refine ⟨vx, tp, _, _, [.type S, .type T], k || l, rfl, upd_same, .cons (.ty S) (.cons (.ty T) .nil), VOk.ty (VOk.stp ox (Stp.alloc np)) fm2, ?_, q _ Γ1 _ F1 _ hp s2 fm2 (.bl _)⟩
  refine kitAny_cons (kit_ty hk) (fun hk0 => ?_) (fun hk1 => by rw [hk1]; rfl)
  refine kitAny_cons (kit_ty hl) (fun hl0 => ?_) (fun hl1 => by rw [hl1, Bool.or_true])
  rw [hk0, hl0]
  rfl

/-! ### sum, all, any of lists -/
theorem ew_sum (hc : X.calm = true) (hm : X.mg "sum" = none) (h : EW X e Γ fun x Γ1 => ∃ ns : List Int, lstOf Γ1 x = some (ns.map .int) ∧ P (.dat (.int ns.sum)) Γ1) (hg : Gl X "sum" := by rfl)
    (he : starEach [e] X.env = (false, eval e X.env) :: starEach [] X.env := by rfl) : EW X (.Call (.Name "sum" p) [e] [] pos) Γ P :=
  ew_cb (cr_sum hc) hm (by decide +kernel) (aw_one (h.mono fun x Γ1 ⟨ns, hd, hp⟩ A Fs Hs Γs F H σ vs fm st ok Q q => by
    cases ok with
    | cons o1 ok =>
      cases ok
      obtain ⟨a, vs, rfl, g, r⟩ := VOk.lst o1 fm hd
      rw [Reps.ints_eq r] at g
      exact ⟨a, ns, rfl, .inl (.inl g), q _ _ _ F H hp st fm (.int _)⟩) he) hg (by decide) (by decide) he (by rfl)
theorem ew_all (hc : X.calm = true) (hm : X.mg "all" = none) (h : EW X e Γ fun x Γ1 => ∃ ns : List Bool, lstOf Γ1 x = some (ns.map .bl) ∧ P (.dat (.bl (ns.all id))) Γ1) (hg : Gl X "all" := by rfl)
    (he : starEach [e] X.env = (false, eval e X.env) :: starEach [] X.env := by rfl) : EW X (.Call (.Name "all" p) [e] [] pos) Γ P :=
  ew_cb (cr_all hc) hm (by decide +kernel) (aw_one (h.mono fun x Γ1 ⟨ns, hd, hp⟩ A Fs Hs Γs F H σ vs fm st ok Q q => by
    cases ok with
    | cons o1 ok =>
      cases ok
      obtain ⟨a, vs, rfl, g, r⟩ := VOk.lst o1 fm hd
      rw [Reps.bools_eq r] at g
      exact ⟨a, ns, rfl, .inl (.inl g), q _ _ _ F H hp st fm (.bl _)⟩) he) hg (by decide) (by decide) he (by rfl)
theorem ew_any (hc : X.calm = true) (hm : X.mg "any" = none) (h : EW X e Γ fun x Γ1 => ∃ ns : List Bool, lstOf Γ1 x = some (ns.map .bl) ∧ P (.dat (.bl (ns.any id))) Γ1) (hg : Gl X "any" := by rfl)
    (he : starEach [e] X.env = (false, eval e X.env) :: starEach [] X.env := by rfl) : EW X (.Call (.Name "any" p) [e] [] pos) Γ P :=
  ew_cb (cr_any hc) hm (by decide +kernel) (aw_one (h.mono fun x Γ1 ⟨ns, hd, hp⟩ A Fs Hs Γs F H σ vs fm st ok Q q => by
    cases ok with
    | cons o1 ok =>
      cases ok
      obtain ⟨a, vs, rfl, g, r⟩ := VOk.lst o1 fm hd
      rw [Reps.bools_eq r] at g
      exact ⟨a, ns, rfl, .inl (.inl g), q _ _ _ F H hp st fm (.bl _)⟩) he) hg (by decide) (by decide) he (by rfl)

/-! ### a < b <= c of ints -/
theorem ew_chLeLt (h : EW X a Γ fun x Γ1 => EW X b Γ1 fun y Γ2 => ∃ i j, x = .dat (.int i) ∧ y = .dat (.int j) ∧ (¬ i ≤ j → P (.dat (.bl false)) Γ2) ∧ (i ≤ j → EW X c Γ2 fun z Γ3 => ∃ l, z = .dat (.int l) ∧ P (.dat (.bl (decide (j < l)))) Γ3))
    (hm : lastMarks [.LtE, .Lt] [b, c] = false := by with_unfolding_all rfl) : EW X (.Compare a [.LtE, .Lt] [b, c] pos) Γ P := by
  intro A F H σ fm Q q
  refine ⟨_, pe_chain op_le op_lt pe_top pe_top pe_top hm, ?_⟩
  show EV X a σ H fun x H1 => EV X b σ H1 fun y H2 => rI0 (fun i j => .bl (decide (i ≤ j))) x y H2 fun z H3 => ∃ k, z = .bl k ∧ (if k = true then EV X c σ H3 fun w' H4 => rI0 (fun i j => .bl (decide (i < j))) y w' H4 Q else Q (.bl false) H3)
  refine h.run fm Stp.refl fun x Γ1 vx F1 H1 hx s1 _ fm1 ox => ?_
  refine hx.run fm1 s1 fun y Γ2 vy F2 H2 hk s2 s12 fm2 oy => ?_
  obtain ⟨i, j, rfl, rfl, h1, h2⟩ := hk
  cases Rep.int_eq (VOk.stp ox s12)
  cases Rep.int_eq oy
  refine ⟨i, j, rfl, rfl, _, rfl, ?_⟩
  by_cases hij : i ≤ j
  · rw [if_pos (decide_eq_true hij)]
    refine (h2 hij).run fm2 s2 fun z Γ3 vz F3 H3 hz s3 _ fm3 oz => ?_
    obtain ⟨l, rfl, hp⟩ := hz
    cases Rep.int_eq oz
    exact ⟨j, l, rfl, rfl, q _ Γ3 _ F3 H3 hp s3 fm3 (.bl _)⟩
  · rw [if_neg (by rw [decide_eq_true_eq]; exact hij)]
    exact q _ Γ2 _ F2 H2 (h1 hij) s2 fm2 (.bl _)
theorem tw_chLeLt {P : Bool → List Dsc → Prop} (h : EW X a Γ fun x Γ1 => EW X b Γ1 fun y Γ2 => ∃ i j, x = .dat (.int i) ∧ y = .dat (.int j) ∧ (¬ i ≤ j → P false Γ2) ∧ (i ≤ j → EW X c Γ2 fun z Γ3 => ∃ l, z = .dat (.int l) ∧ P (decide (j < l)) Γ3))
    (hm : lastMarks [.LtE, .Lt] [b, c] = false := by with_unfolding_all rfl) : TW X (.Compare a [.LtE, .Lt] [b, c] pos) Γ P := by
  intro A F H σ fm Q q
  refine ⟨_, pt_chain op_le op_lt pe_top pe_top pe_top hm, ?_⟩
  show EV X a σ H fun x H1 => EV X b σ H1 fun y H2 => rI0 (fun i j => .bl (decide (i ≤ j))) x y H2 fun z H3 => ∃ k, z = .bl k ∧ (if k = true then EV X c σ H3 fun w' H4 => rI0 (fun i j => .bl (decide (i < j))) y w' H4 (fun z H5 => ∃ k, z = .bl k ∧ Q k H5) else ∃ k, V.bl false = .bl k ∧ Q k H3)
  refine h.run fm Stp.refl fun x Γ1 vx F1 H1 hx s1 _ fm1 ox => ?_
  refine hx.run fm1 s1 fun y Γ2 vy F2 H2 hk s2 s12 fm2 oy => ?_
  obtain ⟨i, j, rfl, rfl, h1, h2⟩ := hk
  cases Rep.int_eq (VOk.stp ox s12)
  cases Rep.int_eq oy
  refine ⟨i, j, rfl, rfl, _, rfl, ?_⟩
  by_cases hij : i ≤ j
  · rw [if_pos (decide_eq_true hij)]
    refine (h2 hij).run fm2 s2 fun z Γ3 vz F3 H3 hz s3 _ fm3 oz => ?_
    obtain ⟨l, rfl, hp⟩ := hz
    cases Rep.int_eq oz
    exact ⟨j, l, rfl, rfl, _, rfl, q _ Γ3 F3 H3 hp s3 fm3⟩
  · rw [if_neg (by rw [decide_eq_true_eq]; exact hij)]
    exact ⟨false, rfl, q _ Γ2 F2 H2 (h1 hij) s2 fm2⟩

/-! ### in, not in: flat items -/
def scVs : List D → Option (List V)
  | [] => some []
  | d :: r => (scV d).bind fun v => (scVs r).map (v :: ·)
theorem reps_scVs {K : PySem.W.Frag} {H : Hp} : ∀ {ds : List D} {us vs : List V}, scVs ds = some us → Reps K H ds vs → vs = us ∧ us.all flatV = true
  | [], _, _, h, .nil => by cases h; exact ⟨rfl, rfl⟩
  | d :: r, _, _, h, .cons r1 r2 => by
    obtain ⟨v, e1, e2⟩ := Option.bind_eq_some_iff.mp (show (scV d).bind (fun v => (scVs r).map (v :: ·)) = some _ from h)
    obtain ⟨ws, e3, e4⟩ := Option.map_eq_some_iff.mp e2
    subst e4
    obtain ⟨h1, h2⟩ := reps_scVs e3 r2
    subst h1
    have e5 := rep_scV e1 r1
    subst e5
    refine ⟨rfl, ?_⟩
    rw [List.all_cons, h2, Bool.and_true]
    cases d <;> cases e1 <;> rfl
theorem scVs_ints (ns : List Int) : scVs (ns.map .int) = some (ns.map V.int) := by
  induction ns with
  | nil => rfl
  | cons n ns ih =>
    show (scV (.int n)).bind (fun v => (scVs (ns.map .int)).map (v :: ·)) = _
    rw [ih]
    rfl
theorem inV_ints (n : Int) (ns : List Int) : inV (.int n) (ns.map V.int) = decide (n ∈ ns) := by
  unfold inV
  induction ns with
  | nil => rfl
  | cons m ns ih =>
    rw [List.map_cons, List.any_cons, ih]
    show ((m == n) || decide (n ∈ ns)) = decide (n ∈ m :: ns)
    by_cases h : m = n
    · subst h
      simp
    · have h2 : ¬ n = m := fun e => h e.symm
      simp [h, h2]
theorem kw_in {neg : Bool} {x y : Dv} (h : ∃ d u ds us, x = .dat d ∧ scV d = some u ∧ seqOf Γ y = some ds ∧ scVs ds = some us ∧ P (.dat (.bl (if neg then !inV u us else inV u us))) Γ) : Kw X Γ [x, y] (r2 (rIn X.K neg)) P := by
  intro A Fs Hs Γs F H σ vs fm st ok Q q
  obtain ⟨d, u, ds, us, rfl, hu, hd, hus, hp⟩ := h
  cases ok with
  | cons o1 ok =>
    cases ok with
    | cons o2 ok =>
      cases ok
      obtain ⟨a, vs, rfl, hq, r⟩ := VOk.seq o2 fm hd
      obtain ⟨e1, e2⟩ := reps_scVs hus r
      subst e1
      have e3 := rep_scV hu o1
      subst e3
      exact ⟨_, _, rfl, a, _, rfl, hq, by cases d <;> cases hu <;> rfl, e2, q _ _ _ F H hp st fm (.bl _)⟩
theorem ew_in (h : EW X a Γ fun x Γ1 => EW X b Γ1 fun y Γ2 => ∃ d u ds us, x = .dat d ∧ scV d = some u ∧ seqOf Γ2 y = some ds ∧ scVs ds = some us ∧ P (.dat (.bl (inV u us))) Γ2) (hm : behindInMarks .In b = false := by rfl) : EW X (.Compare a [.In] [b] pos) Γ P :=
  ew_cmp op_in_seq (h.mono fun x Γ1 h1 => h1.mono fun y Γ2 h2 => kw_in (neg := false) h2) hm
theorem ew_notin (h : EW X a Γ fun x Γ1 => EW X b Γ1 fun y Γ2 => ∃ d u ds us, x = .dat d ∧ scV d = some u ∧ seqOf Γ2 y = some ds ∧ scVs ds = some us ∧ P (.dat (.bl (!inV u us))) Γ2) (hm : behindInMarks .NotIn b = false := by rfl) : EW X (.Compare a [.NotIn] [b] pos) Γ P :=
  ew_cmp op_notIn_seq (h.mono fun x Γ1 h1 => h1.mono fun y Γ2 h2 => kw_in (neg := true) h2) hm
theorem tw_in {P : Bool → List Dsc → Prop} (h : EW X a Γ fun x Γ1 => EW X b Γ1 fun y Γ2 => ∃ d u ds us, x = .dat d ∧ scV d = some u ∧ seqOf Γ2 y = some ds ∧ scVs ds = some us ∧ P (inV u us) Γ2) (hm : behindInMarks .In b = false := by rfl) : TW X (.Compare a [.In] [b] pos) Γ P :=
  tw_cmp op_in_seq (h.mono fun x Γ1 h1 => h1.mono fun y Γ2 ⟨d, u, ds, us, a1, a2, a3, a4, h2⟩ => kw_in (neg := false) ⟨d, u, ds, us, a1, a2, a3, a4, _, rfl, h2⟩) hm
theorem tw_notin {P : Bool → List Dsc → Prop} (h : EW X a Γ fun x Γ1 => EW X b Γ1 fun y Γ2 => ∃ d u ds us, x = .dat d ∧ scV d = some u ∧ seqOf Γ2 y = some ds ∧ scVs ds = some us ∧ P (!inV u us) Γ2) (hm : behindInMarks .NotIn b = false := by rfl) : TW X (.Compare a [.NotIn] [b] pos) Γ P :=
  tw_cmp op_notIn_seq (h.mono fun x Γ1 h1 => h1.mono fun y Γ2 ⟨d, u, ds, us, a1, a2, a3, a4, h2⟩ => kw_in (neg := true) ⟨d, u, ds, us, a1, a2, a3, a4, _, rfl, h2⟩) hm

/-! ### sorted of ints; of pairs of ints -/
theorem ew_sortedI (hm : X.mg "sorted" = none) (h : EW X e Γ fun x Γ1 => ∃ ns : List Int, lstOf Γ1 x = some (ns.map .int) ∧ ∀ ns' : List Int, ns'.Perm ns → ns'.Pairwise (· ≤ ·) → P (.new (ns'.map .int)) Γ1) (hg : Gl X "sorted" := by rfl)
    (he : starEach [e] X.env = (false, eval e X.env) :: starEach [] X.env := by rfl) : EW X (.Call (.Name "sorted" p) [e] [] pos) Γ P :=
  ew_cb cr_sortedI hm (by decide +kernel) (aw_one (h.mono fun x Γ1 ⟨ns, hd, hp⟩ A Fs Hs Γs F H σ vs fm st ok Q q => by
    cases ok with
    | cons o1 ok =>
      cases ok
      obtain ⟨a, vs, rfl, g, r⟩ := VOk.lst o1 fm hd
      rw [Reps.ints_eq r] at g
      exact ⟨a, ns, rfl, .inl (.inl g), fun ns' p hp1 hp2 np => q _ _ _ _ _ (hp ns' hp1 hp2) (st.trans (Stp.alloc np)) (fm.alloc np) (newOk fm st np Reps.ints)⟩) he) hg (by decide) (by decide) he (by rfl)
def pairD (q : Int × Int) : D := .tup [.int q.1, .int q.2]
def lexLt (a b : Int × Int) : Prop := a.1 < b.1 ∨ (a.1 = b.1 ∧ a.2 < b.2)
def pairIn (F : Hp) : V → Int × Int
  | .ref t => match F t with
    | some (.tup [.int i, .int j]) => (i, j)
    | _ => (0, 0)
  | _ => (0, 0)
theorem pair_rep {K : PySem.W.Frag} {F : Hp} {q : Int × Int} {v : V} (r : Rep K F (pairD q) v) : (∃ t, v = .ref t ∧ F t = some (.tup [.int q.1, .int q.2])) ∧ pairIn F v = q := by
  cases r with
  | tup e r =>
    cases r with
    | cons r1 r2 =>
      cases r2 with
      | cons r2 r3 =>
        cases r3
        cases Rep.int_eq r1
        cases Rep.int_eq r2
        refine ⟨⟨_, rfl, e⟩, ?_⟩
        show (match F _ with | some (.tup [.int i, .int j]) => (i, j) | _ => (0, 0)) = q
        rw [e]
theorem pairs_in {K : PySem.W.Frag} {F : Hp} : ∀ {qs : List (Int × Int)} {vs : List V}, Reps K F (qs.map pairD) vs → (∀ v ∈ vs, ∃ t, v = .ref t ∧ F t = some (.tup [.int (pairIn F v).1, .int (pairIn F v).2])) ∧ vs.map (pairIn F) = qs
  | [], _, .nil => ⟨fun v h => (nomatch h), rfl⟩
  | q :: qs, _, .cons r1 r2 => by
    obtain ⟨⟨t, e1, e2⟩, e3⟩ := pair_rep r1
    obtain ⟨h1, h2⟩ := pairs_in r2
    refine ⟨fun v hv => ?_, by rw [List.map_cons, e3, h2]⟩
    rcases List.mem_cons.mp hv with rfl | hv
    · rw [e3]
      exact ⟨t, e1, e2⟩
    · exact h1 v hv
theorem pairs_back {K : PySem.W.Frag} {F : Hp} : ∀ {vs : List V}, (∀ v ∈ vs, ∃ t, v = .ref t ∧ F t = some (.tup [.int (pairIn F v).1, .int (pairIn F v).2])) → Reps K F ((vs.map (pairIn F)).map pairD) vs
  | [], _ => .nil
  | v :: vs, h => by
    obtain ⟨t, e1, e2⟩ := h v List.mem_cons_self
    refine .cons ?_ (pairs_back fun w hw => h w (List.mem_cons_of_mem _ hw))
    generalize pairIn F v = z at e2
    subst e1
    exact .tup e2 (.cons (.int _) (.cons (.int _) .nil))
theorem ew_sortedP (hm : X.mg "sorted" = none) (h : EW X e Γ fun x Γ1 => ∃ qs qs' : List (Int × Int), lstOf Γ1 x = some (qs.map pairD) ∧ qs'.Perm qs ∧ qs'.Pairwise lexLt ∧ P (.new (qs'.map pairD)) Γ1) (hg : Gl X "sorted" := by rfl)
    (he : starEach [e] X.env = (false, eval e X.env) :: starEach [] X.env := by rfl) : EW X (.Call (.Name "sorted" p) [e] [] pos) Γ P :=
  ew_cb cr_sortedPO hm (by decide +kernel) (aw_one (h.mono fun x Γ1 ⟨qs, qs', hd, hpe, hpw, hp⟩ A Fs Hs Γs F H σ vs fm st ok Q q => by
    cases ok with
    | cons o1 ok =>
      cases ok
      obtain ⟨a, vs, rfl, g, r⟩ := VOk.lst o1 fm hd
      obtain ⟨h1, h2⟩ := pairs_in r
      refine ⟨a, vs, pairIn F, rfl, .inl (.inl g), fun v hv => ?_, fun ys p hs hb np => ?_⟩
      · obtain ⟨t, e1, e2⟩ := h1 v hv
        exact ⟨t, e1, fm.fh _ _ e2⟩
      · have hy : ∀ v ∈ ys, ∃ t, v = .ref t ∧ F t = some (.tup [.int (pairIn F v).1, .int (pairIn F v).2]) := fun v hv => h1 v (hb.perm.mem_iff.mp hv)
        have e : ys.map (pairIn F) = qs' := by
          refine List.Perm.eq_of_pairwise (le := fun a b : Int × Int => a.1 < b.1 ∨ (a.1 = b.1 ∧ a.2 ≤ b.2)) (fun u v _ _ a1 a2 => ?_) ?_ ?_ ?_
          · have : u.1 = v.1 := by omega
            have : u.2 = v.2 := by omega
            exact Prod.ext ‹_› ‹_›
          · rw [List.pairwise_map]
            refine hs.imp fun {u v} h => ?_
            have := SrtO.lexB_no.mp h
            omega
          · refine hpw.imp fun {u v} h => ?_
            rcases h with h | h
            · exact .inl h
            · exact .inr ⟨h.1, Int.le_of_lt h.2⟩
          · refine (hb.perm.map _).trans ?_
            rw [h2]
            exact hpe.symm
        have r2 := pairs_back (K := X.K) hy
        rw [e] at r2
        exact q _ _ _ _ _ hp (st.trans (Stp.alloc np)) (fm.alloc np) (newOk fm st np r2)) he) hg (by decide) (by decide) he (by rfl)

/-! ### an own list is changed -/
def setLst (Γ : List Dsc) (i : Nat) (ds : List D) : List Dsc := match Γ[i]? with
  | some (.own _) => Γ.set i (.own ds)
  | some (.io _) => Γ.set i (.io ds)
  | _ => Γ
theorem setLst_sim (Γ : List Dsc) (i : Nat) (ds : List D) : Sim Γ (setLst Γ i ds) := by
  unfold setLst
  split
  · rename_i es h
    refine ⟨by rw [List.length_set], fun j => ?_⟩
    by_cases e : i = j
    · subst e
      exact .inr (.inl ⟨es, ds, h, by rw [List.getElem?_set_self (List.getElem?_eq_some_iff.mp h).1]⟩)
    · exact .inl (List.getElem?_set_ne e)
  · rename_i es h
    refine ⟨by rw [List.length_set], fun j => ?_⟩
    by_cases e : i = j
    · subst e
      exact .inr (.inr ⟨es, ds, h, by rw [List.getElem?_set_self (List.getElem?_eq_some_iff.mp h).1]⟩)
    · exact .inl (List.getElem?_set_ne e)
  · exact Sim.refl _
theorem setLst_get {Γ : List Dsc} {i j : Nat} {ds : List D} : (setLst Γ i ds)[j]? = if i = j then (match Γ[i]? with | some (.own _) => some (.own ds) | some (.io _) => some (.io ds) | z => z) else Γ[j]? := by
  unfold setLst
  by_cases e : i = j
  · subst e
    rw [if_pos rfl]
    split
    · rename_i es h
      rw [List.getElem?_set_self (List.getElem?_eq_some_iff.mp h).1]
    · rename_i es h
      rw [List.getElem?_set_self (List.getElem?_eq_some_iff.mp h).1]
    · rfl
  · rw [if_neg e]
    split
    · exact List.getElem?_set_ne e
    · exact List.getElem?_set_ne e
    · rfl
theorem Fm.write {K : PySem.W.Frag} {A : Ac} {F H : Hp} {σ : L2.St} {i : Nat} {a : Addr} {ds : List D} {ys : List V} (fm : Fm K A F H σ Γ) (o : OwnAt σ Γ i a) (r : Reps K F ds ys) :
    Fm K A F (upd H a (.lst ys)) σ (setLst Γ i ds) := by
  obtain ⟨es, ⟨xs, ha, _⟩, hfa⟩ := fm.ownSome ⟨i, o⟩
  have hneF : ∀ b o, F b = some o → b ≠ a := fun b o e z => by rw [z, hfa] at e; cases e
  have sm := setLst_sim Γ i ds
  refine ⟨fm.len.trans sm.1, fun b u e => ?_, fm.ff, fun b u e n => ?_, fm.nf, fun j d h => ?_, fun j ds' h => ?_, fun j ds' h => ?_, fun j b e => ?_, fun j k b h1 h2 => ?_⟩
  · rw [upd_ne (hneF b u e)]
    exact fm.fh b u e
  · by_cases z : b = a
    · exfalso
      subst z
      obtain ⟨h1, es', h2 | h2⟩ := o
      · obtain ⟨a', e1, _, e2⟩ := fm.own i es' h2
        rw [h1] at e1; cases e1
        rw [e] at e2; cases e2
      · obtain ⟨a', e1, _, e2⟩ := fm.iio i es' h2
        rw [h1] at e1; cases e1
        exact n i e2
    · rw [upd_ne z]
      exact fm.base b u e n
  · rw [setLst_get] at h
    by_cases z : i = j
    · rw [if_pos z] at h
      obtain ⟨h1, es', h2 | h2⟩ := o
      · rw [h2] at h; cases h
      · rw [h2] at h; cases h
    · rw [if_neg z] at h
      exact fm.dat j d h
  · rw [setLst_get] at h
    by_cases z : i = j
    · rw [if_pos z] at h
      subst z
      obtain ⟨h1, es', h2 | h2⟩ := o
      · rw [h2] at h
        cases h
        obtain ⟨a', e1, _, e2⟩ := fm.own i es' h2
        rw [h1] at e1; cases e1
        exact ⟨a, h1, ⟨⟨ys, upd_same, r⟩, hfa⟩, e2⟩
      · rw [h2] at h; cases h
    · rw [if_neg z] at h
      obtain ⟨b, e1, l, e2⟩ := fm.own j ds' h
      have ne : b ≠ a := fun w => z (fm.dj i j a o ⟨by rw [← w]; exact e1, ds', .inl h⟩)
      exact ⟨b, e1, l.grow (Ex.refl _) (upd_ne ne) l.nf, e2⟩
  · rw [setLst_get] at h
    by_cases z : i = j
    · rw [if_pos z] at h
      subst z
      obtain ⟨h1, es', h2 | h2⟩ := o
      · rw [h2] at h; cases h
      · rw [h2] at h
        cases h
        obtain ⟨a', e1, _, e2⟩ := fm.iio i es' h2
        rw [h1] at e1; cases e1
        exact ⟨a, h1, ⟨⟨ys, upd_same, r⟩, hfa⟩, e2⟩
    · rw [if_neg z] at h
      obtain ⟨b, e1, l, e2⟩ := fm.iio j ds' h
      have ne : b ≠ a := fun w => z (fm.dj i j a o ⟨by rw [← w]; exact e1, ds', .inr h⟩)
      exact ⟨b, e1, l.grow (Ex.refl _) (upd_ne ne) l.nf, e2⟩
  · obtain ⟨ds', h⟩ := fm.ia j b e
    rcases sm.2 j with w | ⟨us, ws, w1, w2⟩ | ⟨us, ws, w1, w2⟩
    · exact ⟨ds', by rw [w]; exact h⟩
    · rw [h] at w1; cases w1
    · exact ⟨ws, w2⟩
  · exact fm.dj j k b (sm.ownAt.mp h1) (sm.ownAt.mp h2)
theorem Stp.write {F H : Hp} {σ : L2.St} {i : Nat} {a : Addr} {ds : List D} {ys : List V} (o : OwnAt σ Γ i a) (ha : ∃ xs, H a = some (.lst xs)) : Stp σ Γ (setLst Γ i ds) F H F (upd H a (.lst ys)) :=
  ⟨Ex.refl _, fun b u e n => by rw [upd_ne fun z => n ⟨i, by rw [z]; exact o⟩]; exact e, fun _ _ _ z => z, fun b e => by
    by_cases z : b = a
    · rw [z, upd_same] at e; cases e
    · rw [upd_ne z] at e; exact e, setLst_sim Γ i ds⟩
theorem VOk.loc {K : PySem.W.Frag} {A : Ac} {Hs F H : Hp} {σ : L2.St} {i : Nat} {v : V} {ds : List D} (ok : VOk K A Hs F H σ Γ (.loc i) v) (fm : Fm K A F H σ Γ) (h : lstOf Γ (.loc i) = some ds) :
    ∃ a xs, v = .ref a ∧ OwnAt σ Γ i a ∧ H a = some (.lst xs) ∧ Reps K F ds xs := by
  obtain ⟨a, xs, e, g, r⟩ := VOk.lst ok fm h
  obtain ⟨b, e2, o⟩ := ok
  rw [e] at e2
  cases e2
  exact ⟨a, xs, e, o, g, r⟩
/-- o.append(e) -/
theorem ew_append (h : EW X o Γ fun x Γ1 => ∃ i, x = .loc i ∧ EW X e Γ1 fun y Γ2 => ∃ d ds, datOf y = some d ∧ lstOf Γ2 (.loc i) = some ds ∧ ds.length < 1000000 ∧ P (.dat .non) (setLst Γ2 i (ds ++ [d])))
    (hbase : attributeBase o "append" X.env (eval o X.env) = eval o X.env := by rfl)
    (hfew : ((backTo cpos (starEach [e] X.env)).all (fun x => !x.1) && (backToKw cpos (keywordEach [] X.env)).all (fun x => x.1.isSome)
      && decide (([e] : List Expr).length + ([] : List Keyword).length + (if ([] : List Keyword).isEmpty then 0 else 1) < 30)) = true := by rfl)
    (hline : (apos.endLine == cpos.line) = true := by rfl) (hs : starEach [e] X.env = (false, eval e X.env) :: starEach [] X.env := by rfl) :
    EW X (.Call (.Attribute o "append" apos) [e] [] cpos) Γ P := by
  intro A F H σ fm Q q
  refine ⟨_, pe_bm PySem.F.plainAttrs_list PySem.F.slot_list_append PySem.F.type_list_append mt_append pe_top (pa_cons pe_top pa_nil hs) hbase hfew hline hs (by rfl), ?_⟩
  show EV X o σ H fun x H1 => tyV X.K "list" x H1 ∧ EV X e σ H1 fun y H2 => rAppend x [y] H2 Q
  refine h.run fm Stp.refl fun x Γ1 vx F1 H1 hx s1 _ fm1 ox => ?_
  obtain ⟨i, rfl, h2⟩ := hx
  obtain ⟨a, rfl, oa⟩ := id ox
  obtain ⟨es0, ⟨xs0, e0, _⟩, _⟩ := fm1.ownSome ⟨i, oa⟩
  refine ⟨.inl ⟨rfl, _, .inl (.inl e0)⟩, ?_⟩
  refine h2.run fm1 s1 fun y Γ2 vy F2 H2 hy s2 s12 fm2 oy => ?_
  obtain ⟨d, ds, hd, hl, hz, hp⟩ := hy
  obtain ⟨F3, f23, fm3, s3, rd⟩ := freeze1 oy fm2 s2 hd
  obtain ⟨a', xs, e, o', g, r⟩ := VOk.loc ((VOk.stp ox s12)) fm2 hl
  cases e
  refine ⟨a, xs, vy, rfl, rfl, g, by rw [← r.len]; exact sz1 hz, ?_⟩
  have r' : Reps X.K F3 (ds ++ [d]) (xs ++ [vy]) := (r.ex f23).append (Reps.one rd)
  exact q _ _ _ F3 _ hp (s3.trans (Stp.write o' ⟨xs, g⟩)) (fm3.write o' r') .non
/-- o.pop(e) -/
theorem ew_popAt (h : EW X o Γ fun x Γ1 => ∃ i, x = .loc i ∧ EW X e Γ1 fun y Γ2 => ∃ k j d ds, y = .dat (.int k) ∧ lstOf Γ2 (.loc i) = some ds ∧ -(2 ^ 63) ≤ k ∧ k < 2 ^ 63 ∧ seqIndex? k ds.length = some j ∧ ds[j]? = some d ∧ P (.dat d) (setLst Γ2 i (ds.eraseIdx j)))
    (hbase : attributeBase o "pop" X.env (eval o X.env) = eval o X.env := by rfl)
    (hfew : ((backTo cpos (starEach [e] X.env)).all (fun x => !x.1) && (backToKw cpos (keywordEach [] X.env)).all (fun x => x.1.isSome)
      && decide (([e] : List Expr).length + ([] : List Keyword).length + (if ([] : List Keyword).isEmpty then 0 else 1) < 30)) = true := by rfl)
    (hline : (apos.endLine == cpos.line) = true := by rfl) (hs : starEach [e] X.env = (false, eval e X.env) :: starEach [] X.env := by rfl) :
    EW X (.Call (.Attribute o "pop" apos) [e] [] cpos) Γ P := by
  intro A F H σ fm Q q
  refine ⟨_, pe_bm PySem.F.plainAttrs_list PySem.F.slot_list_pop PySem.F.type_list_pop mt_popAt pe_top (pa_cons pe_top pa_nil hs) hbase hfew hline hs (by rfl), ?_⟩
  show EV X o σ H fun x H1 => tyV X.K "list" x H1 ∧ EV X e σ H1 fun y H2 => rPopAt x [y] H2 Q
  refine h.run fm Stp.refl fun x Γ1 vx F1 H1 hx s1 _ fm1 ox => ?_
  obtain ⟨i, rfl, h2⟩ := hx
  obtain ⟨a, rfl, oa⟩ := id ox
  obtain ⟨es0, ⟨xs0, e0, _⟩, _⟩ := fm1.ownSome ⟨i, oa⟩
  refine ⟨.inl ⟨rfl, _, .inl (.inl e0)⟩, ?_⟩
  refine h2.run fm1 s1 fun y Γ2 vy F2 H2 hy s2 s12 fm2 oy => ?_
  obtain ⟨k, j, d, ds, rfl, hl, hk1, hk2, hj, hd, hp⟩ := hy
  obtain ⟨a', xs, e, o', g, r⟩ := VOk.loc ((VOk.stp ox s12)) fm2 hl
  cases e
  cases Rep.int_eq oy
  obtain ⟨v, hv, rv⟩ := r.get hd
  refine ⟨a, xs, k, j, v, rfl, rfl, g, hk1, hk2, by rw [← r.len]; exact hj, hv, ?_⟩
  exact q _ _ _ F2 _ hp (s2.trans (Stp.write o' ⟨xs, g⟩)) (fm2.write o' (r.erase j)) rv
end
end VX

/-! VX: what is walked, comprehensions. -/
namespace VX
open PySem PySem.Spec PyProof.Rows L2

/-! ### what is walked -/
def IV (X : Cx) (tg iter : Expr) : TI := fun σ H R => ∃ t, PI X tg iter t ∧ t σ H R
theorem pi_top {X : Cx} {tg iter : Expr} : PI X tg iter (IV X tg iter) := ⟨fun pins s σ H R I ⟨_, h, q⟩ => h.run pins s σ H R I q⟩
def Yld (K : PySem.W.Frag) (F H : Hp) (x : V) (H' : Hp) (d : D) : Prop :=
  (H' = H ∧ Rep K F d x) ∨ ∃ T xs es, x = .ref T ∧ H T = none ∧ H' = upd H T (.tup xs) ∧ d = .tup es ∧ Reps K F es xs
structure Its (K : PySem.W.Frag) (F : Hp) (J : It) (ds : List D) : Prop where
  ex : ∃ G Y, Walk J ds.length G Y ∧ (∀ F2 H2, Ex F F2 → Ex F2 H2 → G H2) ∧ ∀ i H2 x H3 F2, i < ds.length → Ex F F2 → Ex F2 H2 → Y i H2 x H3 → ∃ d, ds[i]? = some d ∧ Yld K F2 H2 x H3 d
def IW (X : Cx) (tg iter : Expr) (Γ : List Dsc) (P : List D → List Dsc → Prop) : Prop := ∀ A F H σ, Fm X.K A F H σ Γ → ∀ R : It → Hp → Prop,
  (∀ J ds Γ' F' H', P ds Γ' → Stp σ Γ Γ' F H F' H' → Fm X.K A F' H' σ Γ' → Its X.K F' J ds → R J H') → IV X tg iter σ H R
section
variable {X : Cx} {Γ : List Dsc} {a b e tg iter : Expr} {pos p pos' tpos : Pos} {Q : List D → List Dsc → Prop} {elts : List Expr} {kk : Nat}
theorem iw_tup (h : EW X iter Γ fun x Γ1 => ∃ ds, x = .dat (.tup ds) ∧ Q ds Γ1) : IW X tg iter Γ Q := by
  intro A F H σ fm R q
  refine ⟨_, pi_tup pe_top, ?_⟩
  show EV X iter σ H fun x H1 => ∃ a, x = .ref a ∧ (∃ xs, SqT X.K H1 a xs) ∧ R (Itt X.K a) H1
  refine h.run fm Stp.refl fun x Γ1 v F1 H1 hx s1 _ fm1 ok => ?_
  obtain ⟨ds, rfl, hp⟩ := hx
  cases ok with
  | tup e r =>
    refine ⟨_, rfl, ⟨_, .inl (.inl (fm1.fh _ _ e))⟩, q _ ds Γ1 F1 H1 hp s1 fm1 ⟨⟨_, _, r.len ▸ walk_tup, fun F2 H2 f1 f2 => .inl (.inl (f2 _ _ (f1 _ _ e))), fun i H2 x H3 F2 hi f1 f2 y => ?_⟩⟩⟩
    obtain ⟨d, hd, rd⟩ := r.getV y.2
    exact ⟨d, hd, .inl ⟨y.1, rd.ex f1⟩⟩
theorem iw_lst (h : EW X iter Γ fun x Γ1 => ∃ ds, (x = .dat (.scr ds) ∨ datOf x = some (.lst ds)) ∧ Q ds Γ1) : IW X tg iter Γ Q := by
  intro A F H σ fm R q
  refine ⟨_, pi_list pe_top, ?_⟩
  show EV X iter σ H fun x H1 => ∃ a, x = .ref a ∧ (∃ xs, SqL X.K H1 a xs) ∧ R (Itl X.K a) H1
  refine h.run fm Stp.refl fun x Γ1 v F1 H1 hx s1 _ fm1 ok => ?_
  obtain ⟨ds, hd, hp⟩ := hx
  have key : ∃ F2, Fm X.K A F2 H1 σ Γ1 ∧ Stp σ Γ Γ1 F H F2 H1 ∧ ∃ a vs, v = .ref a ∧ SqL X.K F2 a vs ∧ Reps X.K F2 ds vs := by
    rcases hd with rfl | hd
    · cases ok with
      | scr e r => exact ⟨F1, fm1, s1, _, _, rfl, e, r⟩
    · obtain ⟨F2, _, fm2, s2, r⟩ := freeze1 ok fm1 s1 hd
      cases r with
      | lst e r => exact ⟨F2, fm2, s2, _, _, rfl, .inl (.inl e), r⟩
  obtain ⟨F2, fm2, s2, a, vs, rfl, e, r⟩ := key
  refine ⟨_, rfl, ⟨_, fm2.fh.sq e⟩, q _ ds Γ1 F2 H1 hp s2 fm2 ⟨⟨_, _, r.len ▸ walk_list, fun F2 H2 f1 f2 => (f1.trans f2).sq e, fun i H2 x H3 F2 hi f1 f2 y => ?_⟩⟩⟩
  obtain ⟨d, hd, rd⟩ := r.getV y.2
  exact ⟨d, hd, .inl ⟨y.1, rd.ex f1⟩⟩
def rangeD (lo : Int) (n : Nat) : List D := (List.range n).map fun i => .int (lo + (i : Nat))
theorem rangeD_get {lo : Int} {n i : Nat} (h : i < n) : (rangeD lo n)[i]? = some (.int (lo + (i : Nat))) := by
  unfold rangeD
  rw [List.getElem?_map, List.getElem?_range h]
  rfl
theorem rangeD_len {lo : Int} {n : Nat} : (rangeD lo n).length = n := by unfold rangeD; rw [List.length_map, List.length_range]
theorem its_range {K : PySem.W.Frag} {F : Hp} {lo : Int} {n : Nat} : Its K F (Itr lo n) (rangeD lo n) := by
  refine ⟨⟨fun _ => True, _, (show Walk (Itr lo n) (rangeD lo n).length _ _ by rw [rangeD_len]; exact walk_range), fun _ _ _ _ => trivial, fun i H2 x H3 F2 hi f1 f2 y => ?_⟩⟩
  rw [rangeD_len] at hi
  obtain ⟨e, y⟩ := y
  exact ⟨_, rangeD_get hi, .inl ⟨e, by rw [y]; exact .int _⟩⟩
theorem iw_range1 (hm : X.mg "range" = none) (h : EW X a Γ fun x Γ1 => ∃ n, x = .dat (.int n) ∧ -1000000 ≤ n ∧ n ≤ 1000000 ∧ Q (rangeD 0 n.toNat) Γ1) (hg : Gl X "range" := by rfl)
    (hs : starEach [a] X.env = [(false, eval a X.env)] := by rfl) : IW X tg (.Call (.Name "range" p) [a] [] pos) Γ Q := by
  intro A F H σ fm R q
  refine ⟨_, pi_range1 hg hm (pa_cons pe_top pa_nil hs) hs, ?_⟩
  show EV X a σ H fun x H1 => ∃ j : Int, [x] = [.int j] ∧ -(2 ^ 62) ≤ j ∧ j < 2 ^ 62 ∧ R (Itr 0 j.toNat) H1
  refine h.run fm Stp.refl fun x Γ1 v F1 H1 hx s1 _ fm1 ok => ?_
  obtain ⟨n, rfl, h1, h2, hp⟩ := hx
  cases Rep.int_eq ok
  exact ⟨n, rfl, by omega, by omega, q _ _ Γ1 F1 H1 hp s1 fm1 its_range⟩
theorem iw_range2 (hm : X.mg "range" = none) (h : EW X a Γ fun x Γ1 => EW X b Γ1 fun y Γ2 => ∃ i j, x = .dat (.int i) ∧ y = .dat (.int j) ∧ (-1000000 ≤ i ∧ i ≤ 1000000 ∧ -1000000 ≤ j ∧ j ≤ 1000000) ∧ Q (rangeD i (j - i).toNat) Γ2) (hg : Gl X "range" := by rfl)
    (hs : starEach [a, b] X.env = [(false, eval a X.env), (false, eval b X.env)] := by rfl) (hs2 : starEach [b] X.env = [(false, eval b X.env)] := by rfl) : IW X tg (.Call (.Name "range" p) [a, b] [] pos) Γ Q := by
  intro A F H σ fm R q
  refine ⟨_, pi_range2 hg hm (pa_cons pe_top (pa_cons pe_top pa_nil hs2) (by rw [hs, hs2])) hs hs2, ?_⟩
  show EV X a σ H fun x H1 => EV X b σ H1 fun y H2 => ∃ i j : Int, [x, y] = [.int i, .int j] ∧ (-(2 ^ 62) ≤ i ∧ i < 2 ^ 62 ∧ -(2 ^ 62) ≤ j ∧ j < 2 ^ 62) ∧ R (Itr i (j - i).toNat) H2
  refine h.run fm Stp.refl fun x Γ1 v F1 H1 hx s1 _ fm1 ok => ?_
  refine hx.run fm1 s1 fun y Γ2 v2 F2 H2 hy s2 s12 fm2 ok2 => ?_
  obtain ⟨i, j, rfl, rfl, ⟨h1, h2, h3, h4⟩, hp⟩ := hy
  cases Rep.int_eq (VOk.stp ok s12)
  cases Rep.int_eq ok2
  exact ⟨i, j, rfl, ⟨by omega, by omega, by omega, by omega⟩, q _ _ Γ2 F2 H2 hp s2 fm2 its_range⟩
def enumD (ds : List D) : List D := ds.zipIdx.map fun z => .tup [.int (z.2 : Nat), z.1]
theorem enumD_len {ds : List D} : (enumD ds).length = ds.length := by unfold enumD; rw [List.length_map, List.length_zipIdx]
theorem enumD_get {ds : List D} {i : Nat} {d : D} (h : ds[i]? = some d) : (enumD ds)[i]? = some (.tup [.int (i : Nat), d]) := by
  unfold enumD
  rw [List.getElem?_map, List.getElem?_zipIdx, h]
  simp
theorem iw_enumL (hm : X.mg "enumerate" = none) (h : EW X e Γ fun x Γ1 => ∃ ds, (x = .dat (.scr ds) ∨ datOf x = some (.lst ds)) ∧ Q (enumD ds) Γ1) (hg : Gl X "enumerate" := by rfl)
    (hs : starEach [e] X.env = [(false, eval e X.env)] := by rfl) : IW X (.Tuple elts kk tpos) (.Call (.Name "enumerate" p) [e] [] pos) Γ Q := by
  intro A F H σ fm R q
  refine ⟨_, pi_enum hg hm (pa_cons pe_top pa_nil hs) hs, ?_⟩
  show EV X e σ H fun x H1 => ∃ a xs, [x] = [.ref a] ∧ SqL X.K H1 a xs ∧ R (Ite X.K a) H1
  refine h.run fm Stp.refl fun x Γ1 v F1 H1 hx s1 _ fm1 ok => ?_
  obtain ⟨ds, hd, hp⟩ := hx
  have key : ∃ F2, Fm X.K A F2 H1 σ Γ1 ∧ Stp σ Γ Γ1 F H F2 H1 ∧ ∃ a vs, v = .ref a ∧ SqL X.K F2 a vs ∧ Reps X.K F2 ds vs := by
    rcases hd with rfl | hd
    · cases ok with
      | scr e r => exact ⟨F1, fm1, s1, _, _, rfl, e, r⟩
    · obtain ⟨F2, _, fm2, s2, r⟩ := freeze1 ok fm1 s1 hd
      cases r with
      | lst e r => exact ⟨F2, fm2, s2, _, _, rfl, .inl (.inl e), r⟩
  obtain ⟨F2, fm2, s2, a, vs, rfl, e, r⟩ := key
  refine ⟨_, _, rfl, fm2.fh.sq e, q _ _ Γ1 F2 H1 hp s2 fm2 ⟨⟨_, _, (enumD_len.trans r.len) ▸ walk_enum, fun F2 H2 f1 f2 => (f1.trans f2).sq e, fun i H2 x H3 F2 hi f1 f2 y => ?_⟩⟩⟩
  obtain ⟨T, x1, x2, h1, h2, h3, h4, h5⟩ := y
  cases h4
  obtain ⟨d, hd, rd⟩ := r.getV h5
  exact ⟨_, enumD_get hd, .inr ⟨T, _, _, h1, h2, h3, rfl, .cons (.int _) (.cons (rd.ex f1) .nil)⟩⟩
def zipD (xs ys : List D) : List D := List.zipWith (fun a b => .tup [a, b]) xs ys
theorem zipD_len {xs ys : List D} : (zipD xs ys).length = min xs.length ys.length := List.length_zipWith
theorem zipD_get {xs ys : List D} {i : Nat} {x y : D} (h : xs[i]? = some x) (h' : ys[i]? = some y) : (zipD xs ys)[i]? = some (.tup [x, y]) := by
  unfold zipD
  rw [List.getElem?_zipWith, h, h']
theorem its_zip {K : PySem.W.Frag} {F : Hp} {J : It} {G : Hp → Prop} {xs ys : List D} {us vs : List V} (w : Walk J (min us.length vs.length) G (YPair (fun i => us[i]?) (fun i => vs[i]?))) (hG : ∀ F2 H2, Ex F F2 → Ex F2 H2 → G H2) (r1 : Reps K F xs us) (r2 : Reps K F ys vs) : Its K F J (zipD xs ys) := by
  refine ⟨⟨G, _, (show (zipD xs ys).length = min us.length vs.length by rw [zipD_len, r1.len, r2.len]) ▸ w, hG, fun i H2 x H3 F2 hi f1 f2 y => ?_⟩⟩
  obtain ⟨T, x1, x2, h1, h2, h3, h4, h5⟩ := y
  obtain ⟨d1, e1, q1⟩ := r1.getV h4
  obtain ⟨d2, e2, q2⟩ := r2.getV h5
  exact ⟨_, zipD_get e1 e2, .inr ⟨T, _, _, h1, h2, h3, rfl, .cons (q1.ex f1) (.cons (q2.ex f1) .nil)⟩⟩
theorem walk_zipT {K : PySem.W.Frag} {a b : Addr} {xs ys : List V} : Walk (RZ.ItzT K a b) (min xs.length ys.length) (fun H => SqT K H a xs ∧ SqT K H b ys) (YPair (fun i => xs[i]?) (fun i => ys[i]?)) := by
  refine ⟨fun i _ hi q => ?_, fun _ q => ⟨xs, ys, q.1, q.2, by omega⟩, fun i H v H' _ q y => ?_⟩
  · have h1 : i < xs.length := by omega
    have h2 : i < ys.length := by omega
    exact ⟨xs, ys, xs[i], ys[i], q.1, q.2, by simp [h1], by simp [h2]⟩
  · obtain ⟨T, x, z, h1, h2, h3, h4, h5⟩ := y
    exact ⟨T, x, z, h1, h2, h3, h4 xs q.1, h5 ys q.2⟩
/-- zip of two tuples of data -/
theorem iw_zipT (hm : X.mg "zip" = none) (h : EW X a Γ fun x Γ1 => EW X b Γ1 fun y Γ2 => ∃ xs ys, x = .dat (.tup xs) ∧ y = .dat (.tup ys) ∧ Q (zipD xs ys) Γ2) (hg : Gl X "zip" := by rfl)
    (hs : starEach [a, b] X.env = (false, eval a X.env) :: starEach [b] X.env := by rfl) (hs2 : starEach [b] X.env = (false, eval b X.env) :: starEach [] X.env := by rfl) (hpl : (backTo pos (starEach [b] X.env)).any (·.1) = false := by rfl) :
    IW X (.Tuple elts kk tpos) (.Call (.Name "zip" p) [a, b] [] pos) Γ Q := by
  intro A F H σ fm R q
  refine ⟨_, RZ.pi_zipA hg hm (pa_cons pe_top (pa_cons pe_top pa_nil hs2) hs) hs hpl, ?_⟩
  show EV X a σ H fun x H1 => EV X b σ H1 fun y H2 => ∃ a b xs ys, [x, y] = [.ref a, .ref b] ∧ ((SqL X.K H2 a xs ∧ SqL X.K H2 b ys ∧ R (Itz X.K a b) H2) ∨ (SqT X.K H2 a xs ∧ SqT X.K H2 b ys ∧ R (RZ.ItzT X.K a b) H2))
  refine h.run fm Stp.refl fun x Γ1 v F1 H1 hx s1 _ fm1 ok => ?_
  refine hx.run fm1 s1 fun y Γ2 v2 F2 H2 hy s2 s12 fm2 ok2 => ?_
  obtain ⟨xs, ys, rfl, rfl, hp⟩ := hy
  have ok1 := VOk.stp ok s12
  cases ok1 with
  | tup e1 r1 =>
    cases ok2 with
    | tup e2 r2 =>
      refine ⟨_, _, _, _, rfl, .inr ⟨.inl (.inl (fm2.fh _ _ e1)), .inl (.inl (fm2.fh _ _ e2)), q _ _ Γ2 F2 H2 hp s2 fm2 (its_zip walk_zipT (fun F3 H3 f1 f2 => ⟨.inl (.inl (f2 _ _ (f1 _ _ e1))), .inl (.inl (f2 _ _ (f1 _ _ e2)))⟩) r1 r2)⟩⟩
/-- zip of two lists of data -/
theorem iw_zipL (hm : X.mg "zip" = none) (h : EW X a Γ fun x Γ1 => EW X b Γ1 fun y Γ2 => ∃ xs ys, x = .dat (.lst xs) ∧ y = .dat (.lst ys) ∧ Q (zipD xs ys) Γ2) (hg : Gl X "zip" := by rfl)
    (hs : starEach [a, b] X.env = (false, eval a X.env) :: starEach [b] X.env := by rfl) (hs2 : starEach [b] X.env = (false, eval b X.env) :: starEach [] X.env := by rfl) (hpl : (backTo pos (starEach [b] X.env)).any (·.1) = false := by rfl) :
    IW X (.Tuple elts kk tpos) (.Call (.Name "zip" p) [a, b] [] pos) Γ Q := by
  intro A F H σ fm R q
  refine ⟨_, RZ.pi_zipA hg hm (pa_cons pe_top (pa_cons pe_top pa_nil hs2) hs) hs hpl, ?_⟩
  show EV X a σ H fun x H1 => EV X b σ H1 fun y H2 => ∃ a b xs ys, [x, y] = [.ref a, .ref b] ∧ ((SqL X.K H2 a xs ∧ SqL X.K H2 b ys ∧ R (Itz X.K a b) H2) ∨ (SqT X.K H2 a xs ∧ SqT X.K H2 b ys ∧ R (RZ.ItzT X.K a b) H2))
  refine h.run fm Stp.refl fun x Γ1 v F1 H1 hx s1 _ fm1 ok => ?_
  refine hx.run fm1 s1 fun y Γ2 v2 F2 H2 hy s2 s12 fm2 ok2 => ?_
  obtain ⟨xs, ys, rfl, rfl, hp⟩ := hy
  have ok1 := VOk.stp ok s12
  cases ok1 with
  | lst e1 r1 =>
    cases ok2 with
    | lst e2 r2 =>
      refine ⟨_, _, _, _, rfl, .inl ⟨.inl (.inl (fm2.fh _ _ e1)), .inl (.inl (fm2.fh _ _ e2)), q _ _ Γ2 F2 H2 hp s2 fm2 (its_zip (walk_zip rfl) (fun F3 H3 f1 f2 => ⟨.inl (.inl (f2 _ _ (f1 _ _ e1))), .inl (.inl (f2 _ _ (f1 _ _ e2)))⟩) r1 r2)⟩⟩
end

/-! ### more of the frame -/
section
variable {K : PySem.W.Frag} {A : Ac} {F H F' H' : Hp} {σ : L2.St} {Γ Γ' : List Dsc} {p : Addr} {o : HO}
theorem Fm.upd (fm : Fm K A F H σ Γ) (f : Ex F F') (fh : Ex F' H') (n : ∀ b o, H b = some o → F b = none → F' b = none) (k : ∀ b o, H b = some o → ¬ Own σ Γ b → H' b = some o) (sm : Sim Γ Γ')
    (l : ∀ i a ds, OwnAt σ Γ i a → (Γ'[i]? = some (.own ds) ∨ Γ'[i]? = some (.io ds)) → LstAt K F' H' a ds) : Fm K A F' H' σ Γ' where
  len := fm.len.trans sm.1
  fh := fh
  ff := fm.ff.trans f
  base := fun b u e z => by
    by_cases w : Own σ Γ b
    · exfalso
      obtain ⟨i, h1, ds, h2 | h2⟩ := w
      · obtain ⟨a, e1, _, e2⟩ := fm.own i ds h2
        rw [h1] at e1; cases e1
        rw [e] at e2; cases e2
      · obtain ⟨a, e1, _, e2⟩ := fm.iio i ds h2
        rw [h1] at e1; cases e1
        exact z i e2
    · exact k b u (fm.base b u e z) w
  nf := fun b u e z => by
    obtain ⟨o', e'⟩ := fm.g0 e
    exact n b o' e' (fm.nf b u e z)
  dat := fun i d h => by
    rcases sm.2 i with w | ⟨us, ws, w1, w2⟩ | ⟨us, ws, w1, w2⟩
    · rw [w] at h
      obtain ⟨v, e, r⟩ := fm.dat i d h
      exact ⟨v, e, r.ex f⟩
    · rw [w2] at h; cases h
    · rw [w2] at h; cases h
  own := fun i ds h => by
    rcases sm.2 i with w | ⟨us, ws, w1, w2⟩ | ⟨us, ws, w1, w2⟩
    · rw [w] at h
      obtain ⟨a, e, _, z⟩ := fm.own i ds h
      exact ⟨a, e, l i a ds ⟨e, ds, .inl h⟩ (.inl (by rw [w]; exact h)), z⟩
    · obtain ⟨a, e, _, z⟩ := fm.own i us w1
      exact ⟨a, e, l i a ds ⟨e, us, .inl w1⟩ (.inl h), z⟩
    · rw [w2] at h; cases h
  iio := fun i ds h => by
    rcases sm.2 i with w | ⟨us, ws, w1, w2⟩ | ⟨us, ws, w1, w2⟩
    · rw [w] at h
      obtain ⟨a, e, _, z⟩ := fm.iio i ds h
      exact ⟨a, e, l i a ds ⟨e, ds, .inr h⟩ (.inr (by rw [w]; exact h)), z⟩
    · rw [w2] at h; cases h
    · obtain ⟨a, e, _, z⟩ := fm.iio i us w1
      exact ⟨a, e, l i a ds ⟨e, us, .inr w1⟩ (.inr h), z⟩
  ia := fun j b e => by
    obtain ⟨ds', h⟩ := fm.ia j b e
    rcases sm.2 j with w | ⟨us, ws, w1, w2⟩ | ⟨us, ws, w1, w2⟩
    · exact ⟨ds', by rw [w]; exact h⟩
    · rw [h] at w1; cases w1
    · exact ⟨ws, w2⟩
  dj := fun j k b h1 h2 => fm.dj j k b (sm.ownAt.mp h1) (sm.ownAt.mp h2)
/-- what nobody owns and is not frozen may change -/
theorem Fm.scratch (fm : Fm K A F H σ Γ) (hf : F p = none) (no : ¬ Own σ Γ p) (h0 : A.H0 p = none) : Fm K A F (L2.upd H p o) σ Γ where
  len := fm.len
  fh := fun b u h => by rw [upd_ne (ne_of_none h hf)]; exact fm.fh b u h
  ff := fm.ff
  base := fun b u h n => by rw [upd_ne (ne_of_none h h0)]; exact fm.base b u h n
  nf := fm.nf
  dat := fm.dat
  own := fun i ds h => by
    obtain ⟨a, e, l, z⟩ := fm.own i ds h
    have ne : a ≠ p := fun q => no ⟨i, by rw [← q]; exact e, ds, .inl h⟩
    exact ⟨a, e, l.grow (Ex.refl _) (upd_ne ne) l.nf, z⟩
  iio := fun i ds h => by
    obtain ⟨a, e, l, z⟩ := fm.iio i ds h
    have ne : a ≠ p := fun q => no ⟨i, by rw [← q]; exact e, ds, .inr h⟩
    exact ⟨a, e, l.grow (Ex.refl _) (upd_ne ne) l.nf, z⟩
  ia := fm.ia
  dj := fm.dj
def canSet (Γ : List Dsc) (i : Nat) : Bool := match Γ[i]? with
  | some (.io _) => false
  | some _ => true
  | none => false
theorem canSet_lt {Γ : List Dsc} {i : Nat} (h : canSet Γ i = true) : i < Γ.length ∧ ∀ ds, Γ[i]? ≠ some (.io ds) := by
  unfold canSet at h
  split at h
  · cases h
  · rename_i z n e
    exact ⟨(List.getElem?_eq_some_iff.mp e).1, fun ds w => by rw [w] at e; cases e; exact n ds rfl⟩
  · cases h
theorem Fm.setUn (fm : Fm K A F H σ Γ) {i : Nat} {v : Option V} (c : canSet Γ i = true) : Fm K A F H (σ.set i v) (Γ.set i .un) := by
  obtain ⟨hlt, hio⟩ := canSet_lt c
  have at_ : ∀ j a, OwnAt (σ.set i v) (Γ.set i .un) j a → i ≠ j ∧ OwnAt σ Γ j a := fun j a h => by
    obtain ⟨h1, ds, h2⟩ := h
    by_cases e : i = j
    · subst e
      rw [List.getElem?_set_self hlt] at h2
      rcases h2 with h2 | h2 <;> cases h2
    · rw [List.getElem?_set_ne e] at h1 h2
      exact ⟨e, h1, ds, h2⟩
  refine ⟨by rw [List.length_set, List.length_set]; exact fm.len, fm.fh, fm.ff, fm.base, fm.nf, fun j d h => ?_, fun j ds h => ?_, fun j ds h => ?_, fun j a h => ?_, fun j k a h1 h2 => fm.dj j k a (at_ j a h1).2 (at_ k a h2).2⟩
  · by_cases e : i = j
    · subst e; rw [List.getElem?_set_self hlt] at h; cases h
    · rw [List.getElem?_set_ne e] at h ⊢; exact fm.dat j d h
  · by_cases e : i = j
    · subst e; rw [List.getElem?_set_self hlt] at h; cases h
    · rw [List.getElem?_set_ne e] at h ⊢; exact fm.own j ds h
  · by_cases e : i = j
    · subst e; rw [List.getElem?_set_self hlt] at h; cases h
    · rw [List.getElem?_set_ne e] at h ⊢; exact fm.iio j ds h
  · obtain ⟨ds, g⟩ := fm.ia j a h
    have e : i ≠ j := fun z => by subst z; exact hio ds g
    exact ⟨ds, by rw [List.getElem?_set_ne e]; exact g⟩
theorem Fm.setDat (fm : Fm K A F H σ Γ) {i : Nat} {d : D} {v : V} (c : canSet Γ i = true) (r : Rep K F d v) : Fm K A F H (σ.set i (some v)) (Γ.set i (.dat d)) := by
  obtain ⟨hlt, hio⟩ := canSet_lt c
  have hl : i < σ.length := by rw [fm.len]; exact hlt
  have at_ : ∀ j a, OwnAt (σ.set i (some v)) (Γ.set i (.dat d)) j a → i ≠ j ∧ OwnAt σ Γ j a := fun j a h => by
    obtain ⟨h1, ds, h2⟩ := h
    by_cases e : i = j
    · subst e
      rw [List.getElem?_set_self hlt] at h2
      rcases h2 with h2 | h2 <;> cases h2
    · rw [List.getElem?_set_ne e] at h1 h2
      exact ⟨e, h1, ds, h2⟩
  refine ⟨by rw [List.length_set, List.length_set]; exact fm.len, fm.fh, fm.ff, fm.base, fm.nf, fun j d' h => ?_, fun j ds h => ?_, fun j ds h => ?_, fun j a h => ?_, fun j k a h1 h2 => fm.dj j k a (at_ j a h1).2 (at_ k a h2).2⟩
  · by_cases e : i = j
    · subst e; rw [List.getElem?_set_self hlt] at h; cases h; exact ⟨v, List.getElem?_set_self hl, r⟩
    · rw [List.getElem?_set_ne e] at h ⊢; exact fm.dat j d' h
  · by_cases e : i = j
    · subst e; rw [List.getElem?_set_self hlt] at h; cases h
    · rw [List.getElem?_set_ne e] at h ⊢; exact fm.own j ds h
  · by_cases e : i = j
    · subst e; rw [List.getElem?_set_self hlt] at h; cases h
    · rw [List.getElem?_set_ne e] at h ⊢; exact fm.iio j ds h
  · obtain ⟨ds, g⟩ := fm.ia j a h
    have e : i ≠ j := fun z => by subst z; exact hio ds g
    exact ⟨ds, by rw [List.getElem?_set_ne e]; exact g⟩
theorem Fm.setOwn (fm : Fm K A F H σ Γ) {i : Nat} {ds : List D} {a : Addr} (c : canSet Γ i = true) (l : LstAt K F H a ds) (h0 : A.H0 a = none) (no : ∀ j, i ≠ j → ¬ OwnAt σ Γ j a) : Fm K A F H (σ.set i (some (.ref a))) (Γ.set i (.own ds)) := by
  obtain ⟨hlt, hio⟩ := canSet_lt c
  have hl : i < σ.length := by rw [fm.len]; exact hlt
  have at_ : ∀ j b, OwnAt (σ.set i (some (.ref a))) (Γ.set i (.own ds)) j b → (i = j ∧ b = a) ∨ (i ≠ j ∧ OwnAt σ Γ j b) := fun j b h => by
    obtain ⟨h1, es, h2⟩ := h
    by_cases e : i = j
    · subst e
      rw [List.getElem?_set_self hl] at h1
      cases h1
      exact .inl ⟨rfl, rfl⟩
    · rw [List.getElem?_set_ne e] at h1 h2
      exact .inr ⟨e, h1, es, h2⟩
  refine ⟨by rw [List.length_set, List.length_set]; exact fm.len, fm.fh, fm.ff, fm.base, fm.nf, fun j d' h => ?_, fun j es h => ?_, fun j es h => ?_, fun j b h => ?_, fun j k b h1 h2 => ?_⟩
  · by_cases e : i = j
    · subst e; rw [List.getElem?_set_self hlt] at h; cases h
    · rw [List.getElem?_set_ne e] at h ⊢; exact fm.dat j d' h
  · by_cases e : i = j
    · subst e; rw [List.getElem?_set_self hlt] at h; cases h; exact ⟨a, List.getElem?_set_self hl, l, h0⟩
    · rw [List.getElem?_set_ne e] at h ⊢; exact fm.own j es h
  · by_cases e : i = j
    · subst e; rw [List.getElem?_set_self hlt] at h; cases h
    · rw [List.getElem?_set_ne e] at h ⊢; exact fm.iio j es h
  · obtain ⟨es, g⟩ := fm.ia j b h
    have e : i ≠ j := fun z => by subst z; exact hio es g
    exact ⟨es, by rw [List.getElem?_set_ne e]; exact g⟩
  · rcases at_ j b h1 with ⟨e1, e2⟩ | ⟨e1, e2⟩ <;> rcases at_ k b h2 with ⟨e3, e4⟩ | ⟨e3, e4⟩
    · rw [← e1, ← e3]
    · exact absurd (e2 ▸ e4) (no k e3)
    · exact absurd (e4 ▸ e2) (no j e1)
    · exact fm.dj j k b e2 e4
end

theorem Stp.scratch {σ : L2.St} {Γs Γ : List Dsc} {Fs Hs F H : Hp} {p : Addr} {o : HO} (s : Stp σ Γs Γ Fs Hs F H) (hs : Hs p = none) : Stp σ Γs Γ Fs Hs F (L2.upd H p o) :=
  ⟨s.f, fun b u e n => by rw [upd_ne (ne_of_none e hs)]; exact s.k b u e n, s.n, fun b e => by
    by_cases z : b = p
    · rw [z]; exact hs
    · rw [upd_ne z] at e; exact s.g b e, s.sm⟩
/-! ### comprehensions -/
def wipeG (Γ : List Dsc) : List Nat → List Dsc
  | [] => Γ
  | v :: vs => (wipeG Γ vs).set v .un
def mergeG (vs : List Nat) (Γ Γ5 : List Dsc) : List Dsc := (Γ.zip Γ5).mapIdx fun i z => if i ∈ vs then z.1 else z.2
theorem mergeG_get {vs : List Nat} {Γ Γ5 : List Dsc} (h : Γ.length = Γ5.length) (i : Nat) : (mergeG vs Γ Γ5)[i]? = if i ∈ vs then Γ[i]? else Γ5[i]? := by
  unfold mergeG
  rw [List.getElem?_mapIdx]
  by_cases hi : i < Γ.length
  · have hi5 : i < Γ5.length := by omega
    have e : (Γ.zip Γ5)[i]? = some (Γ[i], Γ5[i]) := by
      rw [List.getElem?_eq_getElem (by rw [List.length_zip]; omega), List.getElem_zip]
    rw [e, List.getElem?_eq_getElem hi, List.getElem?_eq_getElem hi5]
    show some (if i ∈ vs then Γ[i] else Γ5[i]) = _
    split <;> rfl
  · have e : (Γ.zip Γ5)[i]? = none := List.getElem?_eq_none (by rw [List.length_zip]; omega)
    rw [e, List.getElem?_eq_none (by omega), List.getElem?_eq_none (by omega)]
    show none = _
    split <;> rfl
theorem wipe_get {σ : L2.St} {i : Nat} : ∀ {vs : List Nat}, i ∉ vs → (wipe σ vs)[i]? = σ[i]?
  | [], _ => rfl
  | v :: vs, h => by
    unfold wipe
    rw [List.getElem?_set_ne (fun e => h (by rw [e]; exact List.mem_cons_self))]
    exact wipe_get fun e => h (List.mem_cons_of_mem _ e)
theorem wipeG_get {Γ : List Dsc} {i : Nat} : ∀ {vs : List Nat}, i ∉ vs → (wipeG Γ vs)[i]? = Γ[i]?
  | [], _ => rfl
  | v :: vs, h => by
    unfold wipeG
    rw [List.getElem?_set_ne (fun e => h (by rw [e]; exact List.mem_cons_self))]
    exact wipeG_get fun e => h (List.mem_cons_of_mem _ e)
theorem wipeG_len {Γ : List Dsc} : ∀ {vs : List Nat}, (wipeG Γ vs).length = Γ.length
  | [] => rfl
  | v :: vs => by unfold wipeG; rw [List.length_set]; exact wipeG_len
theorem wipe_set {σ : L2.St} {i : Nat} {x : Option V} : ∀ {vs : List Nat}, i ∈ vs → wipe (σ.set i x) vs = wipe σ vs
  | v :: vs, h => by
    unfold wipe
    by_cases e : i ∈ vs
    · rw [wipe_set e]
    · have e2 : i = v := by
        rcases List.mem_cons.mp h with h | h
        · exact h
        · exact absurd h e
      subst e2
      have key : ∀ ws : List Nat, i ∉ ws → wipe (σ.set i x) ws = (wipe σ ws).set i x := fun ws hw => by
        induction ws with
        | nil => rfl
        | cons w ws ih =>
          unfold wipe
          rw [ih fun z => hw (List.mem_cons_of_mem _ z)]
          rw [List.set_comm _ _ (fun z => hw (by rw [z]; exact List.mem_cons_self))]
      rw [key vs e, List.set_set]
theorem wipe_wipe {σ : L2.St} : ∀ (vs ws : List Nat), (∀ v ∈ vs, v ∈ ws) → wipe (wipe σ vs) ws = wipe σ ws
  | [], _, _ => rfl
  | v :: vs, ws, h => by
    show wipe ((wipe σ vs).set v none) ws = _
    rw [wipe_set (h v List.mem_cons_self)]
    exact wipe_wipe vs ws fun u hu => h u (List.mem_cons_of_mem _ hu)
theorem canSet_wipe {Γ : List Dsc} {i : Nat} (h : canSet Γ i = true) : ∀ vs : List Nat, canSet (wipeG Γ vs) i = true
  | [] => h
  | v :: vs => by
    have ih := canSet_wipe h vs
    unfold wipeG
    by_cases e : v = i
    · subst e
      unfold canSet
      rw [List.getElem?_set_self (canSet_lt ih).1]
    · unfold canSet at ih ⊢
      rw [List.getElem?_set_ne e]
      exact ih
theorem Fm.wipe {K : PySem.W.Frag} {A : Ac} {F H : Hp} {σ : L2.St} {Γ : List Dsc} (fm : Fm K A F H σ Γ) : ∀ {vs : List Nat}, (∀ v ∈ vs, canSet Γ v = true) → Fm K A F H (L2.wipe σ vs) (wipeG Γ vs)
  | [], _ => fm
  | v :: vs, h => (Fm.wipe fm fun u hu => h u (List.mem_cons_of_mem _ hu)).setUn (canSet_wipe (h v List.mem_cons_self) vs)

/-- the forms of a comprehension's target -/
inductive Shp where
  | one (j : Nat) | two (j k : Nat)
def Shp.js : Shp → List Nat
  | .one j => [j]
  | .two j k => [j, k]
def Shp.rd (K : PySem.W.Frag) : Shp → TG
  | .one j => gName j
  | .two j k => gTup K 2 (gCons (gName j) (gCons (gName k) gNil))
def Shp.parts : Shp → D → Option (List D)
  | .one _, d => some [d]
  | .two _ _, .tup [a, b] => some [a, b]
  | _, _ => none
def setsG : List Dsc → List Nat → List D → List Dsc
  | Γ, j :: js, d :: ds => setsG (Γ.set j (.dat d)) js ds
  | Γ, _, _ => Γ
def setsS : L2.St → List Nat → List V → L2.St
  | σ, j :: js, d :: ds => setsS (σ.set j (some d)) js ds
  | σ, _, _ => σ
theorem Shp.ok {K : PySem.W.Frag} {F H : Hp} {d : D} {v : V} {es : List D} {τ : L2.St} {Q : L2.St → Hp → Prop} (sh : Shp) (hp : sh.parts d = some es) (r : Rep K F d v) (f : Ex F H) (q : ∀ ws, Reps K F es ws → Q (setsS τ sh.js ws) H) : sh.rd K v τ H Q := by
  cases sh with
  | one j => cases hp; exact q [v] (Reps.one r)
  | two j k =>
    cases r with
    | tup e r =>
      cases r with
      | nil => cases hp
      | cons r1 r =>
        cases r with
        | nil => cases hp
        | cons r2 r =>
          cases r with
          | nil =>
            cases hp
            exact ⟨_, _, rfl, .inl (.inl (f _ _ e)), rfl, _, _, rfl, _, _, rfl, rfl, q _ (.cons r1 (.cons r2 .nil))⟩
          | cons r3 r => cases hp
    | _ => cases hp
theorem sets_ok {K : PySem.W.Frag} {A : Ac} {F H : Hp} : ∀ {js : List Nat} {es : List D} {ws : List V} {σ : L2.St} {Γ : List Dsc}, Fm K A F H σ Γ → (∀ j ∈ js, canSet Γ j = true) → Reps K F es ws → Fm K A F H (setsS σ js ws) (setsG Γ js es)
  | [], _, _, _, _, fm, _, _ => by unfold setsS setsG; exact fm
  | j :: js, _, _, _, _, fm, _, .nil => by unfold setsS setsG; exact fm
  | j :: js, d :: es, w :: ws, σ, Γ, fm, c, .cons r1 r2 => by
    unfold setsS setsG
    refine sets_ok (fm.setDat (c j List.mem_cons_self) r1) (fun i hi => ?_) r2
    have ci := c i (List.mem_cons_of_mem _ hi)
    unfold canSet at ci ⊢
    by_cases e : j = i
    · subst e
      rw [List.getElem?_set_self (canSet_lt (c j List.mem_cons_self)).1]
    · rw [List.getElem?_set_ne e]
      exact ci
theorem setsS_get {i : Nat} : ∀ {js : List Nat} {ws : List V} {σ : L2.St}, i ∉ js → (setsS σ js ws)[i]? = σ[i]?
  | [], _, _, _ => by unfold setsS; rfl
  | j :: js, [], _, _ => by unfold setsS; rfl
  | j :: js, w :: ws, σ, h => by
    unfold setsS
    rw [setsS_get fun e => h (List.mem_cons_of_mem _ e), List.getElem?_set_ne fun e => h (by rw [e]; exact List.mem_cons_self)]
theorem setsG_get {i : Nat} : ∀ {js : List Nat} {ws : List D} {σ : List Dsc}, i ∉ js → (setsG σ js ws)[i]? = σ[i]?
  | [], _, _, _ => by unfold setsG; rfl
  | j :: js, [], _, _ => by unfold setsG; rfl
  | j :: js, w :: ws, σ, h => by
    unfold setsG
    rw [setsG_get fun e => h (List.mem_cons_of_mem _ e), List.getElem?_set_ne fun e => h (by rw [e]; exact List.mem_cons_self)]
theorem setsG_len : ∀ {js : List Nat} {ws : List D} {σ : List Dsc}, (setsG σ js ws).length = σ.length
  | [], _, _ => by unfold setsG; rfl
  | j :: js, [], _ => by unfold setsG; rfl
  | j :: js, w :: ws, σ => by unfold setsG; rw [setsG_len, List.length_set]
theorem wipe_sets {vs : List Nat} : ∀ {js : List Nat} {ws : List V} {σ : L2.St}, (∀ j ∈ js, j ∈ vs) → wipe (setsS σ js ws) vs = wipe σ vs
  | [], _, _, _ => by unfold setsS; rfl
  | j :: js, [], _, _ => by unfold setsS; rfl
  | j :: js, w :: ws, σ, h => by
    unfold setsS
    rw [wipe_sets fun i hi => h i (List.mem_cons_of_mem _ hi), wipe_set (h j List.mem_cons_self)]
def Nl (Γ : List Dsc) (k : Nat) : Prop := ∀ ds, Γ[k]? ≠ some (.own ds) ∧ Γ[k]? ≠ some (.io ds)
theorem nl_set {Γ : List Dsc} {k j : Nat} {z : Dsc} (h : Nl Γ k) (hz : z = .un ∨ ∃ d, z = .dat d) : Nl (Γ.set j z) k := fun ds => by
  by_cases e : j = k
  · subst e
    by_cases hl : j < Γ.length
    · rw [List.getElem?_set_self hl]
      rcases hz with rfl | ⟨d, rfl⟩ <;> exact ⟨fun q => (nomatch q), fun q => (nomatch q)⟩
    · rw [List.getElem?_eq_none (by rw [List.length_set]; omega)]
      exact ⟨fun q => (nomatch q), fun q => (nomatch q)⟩
  · rw [List.getElem?_set_ne e]
    exact h ds
theorem nl_un {Γ : List Dsc} {k : Nat} : Nl (Γ.set k .un) k := fun ds => by
  by_cases hl : k < Γ.length
  · rw [List.getElem?_set_self hl]
    exact ⟨fun q => (nomatch q), fun q => (nomatch q)⟩
  · rw [List.getElem?_eq_none (by rw [List.length_set]; omega)]
    exact ⟨fun q => (nomatch q), fun q => (nomatch q)⟩
theorem nl_wipe {Γ : List Dsc} {k : Nat} : ∀ {vs : List Nat}, k ∈ vs → Nl (wipeG Γ vs) k
  | v :: vs, h => by
    unfold wipeG
    rcases List.mem_cons.mp h with rfl | h
    · exact nl_un
    · exact nl_set (nl_wipe h) (.inl rfl)
theorem nl_sets {k : Nat} : ∀ {js : List Nat} {es : List D} {Γ : List Dsc}, Nl Γ k → Nl (setsG Γ js es) k
  | [], _, _, h => by unfold setsG; exact h
  | j :: js, [], _, h => by unfold setsG; exact h
  | j :: js, e :: es, _, h => by unfold setsG; exact nl_sets (nl_set h (.inr ⟨e, rfl⟩))
/-- all blocks of a comprehension -/
def inBlk (X : Cx) (scope : Scope) (p : Cx → Prop) : Prop := ∀ (s : Shared) (H : Hp) (C : Addr) (cl : List (Str × Addr)) (fp : List Addr), p (X.blk s H scope (compEnvC scope cl C X.env) fp)
def BE (X : Cx) (scope : Scope) (e : Expr) : TE := fun σ H Q => inBlk X scope fun Y => EV Y e σ H Q
def TsV (X : Cx) (ifs : List Expr) : TT := fun σ H Q => ∃ t, PTs X ifs t ∧ t σ H Q
theorem pts_top {X : Cx} {e : List Expr} : PTs X e (TsV X e) := ⟨fun pins s σ H Q I ⟨_, h, q⟩ => h.run pins s σ H Q I q⟩
def BTs (X : Cx) (scope : Scope) (ifs : List Expr) : TT := fun σ H Q => inBlk X scope fun Y => TsV Y ifs σ H Q
def TsW (X : Cx) (ifs : List Expr) (Γ : List Dsc) (P : Bool → List Dsc → Prop) : Prop := match ifs with
  | [] => P true Γ
  | [c] => TW X c Γ P
  | _ => False
section
variable {X : Cx} {Γ : List Dsc} {P : PD} {elt tg iter : Expr} {ifs : List Expr} {scope : Scope} {own : List (Str × Nat)} {pos : Pos}
theorem TsW.run {A : Ac} {Fs Hs F H : Hp} {σ : L2.St} {Γs : List Dsc} {P : Bool → List Dsc → Prop} (h : TsW X ifs Γ P) (fm : Fm X.K A F H σ Γ) {Q : Bool → Hp → Prop}
    (q : ∀ b Γ' F' H', P b Γ' → Stp σ Γ Γ' F H F' H' → Fm X.K A F' H' σ Γ' → Q b H') : TsV X ifs σ H Q := by
  match ifs, h with
  | [], h => exact ⟨_, pts_nil, q true Γ F H h Stp.refl fm⟩
  | [c], h => exact ⟨_, pts_one pt_top, TW.run h fm Stp.refl fun b Γ' F' H' p s _ fm' => q b Γ' F' H' p s fm'⟩
/-- one turn's end, seen from outside -/
theorem merge_ok {K : PySem.W.Frag} {A : Ac} {F2 H2 F5 H5 : Hp} {σ τ : L2.St} {Γ2 Γ3 Γ5 : List Dsc} {vs : List Nat} (fm : Fm K A F2 H2 σ Γ2) (fi : Fm K A F5 H5 τ Γ5) (s : Stp τ Γ3 Γ5 F2 H2 F5 H5) (hl : Γ3.length = Γ2.length)
    (h3 : ∀ i, i ∉ vs → Γ3[i]? = Γ2[i]?) (hv : ∀ i ∈ vs, ∀ a, ¬ OwnAt τ Γ3 i a) (ht : ∀ i, i ∉ vs → τ[i]? = σ[i]?) : Fm K A F5 H5 σ (mergeG vs Γ2 Γ5) ∧ Stp σ Γ2 (mergeG vs Γ2 Γ5) F2 H2 F5 H5 := by
  have l5 : Γ2.length = Γ5.length := hl.symm.trans s.sm.1
  have inn : ∀ i a, OwnAt τ Γ3 i a → OwnAt σ Γ2 i a ∧ i ∉ vs := fun i a h => by
    have n : i ∉ vs := fun z => hv i z a h
    exact ⟨⟨by rw [← ht i n]; exact h.1, by rw [← h3 i n]; exact h.2⟩, n⟩
  have noI : ∀ b, ¬ Own σ Γ2 b → ¬ Own τ Γ3 b := fun b h ⟨i, z⟩ => h ⟨i, (inn i b z).1⟩
  have sm : Sim Γ2 (mergeG vs Γ2 Γ5) := by
    refine ⟨by unfold mergeG; rw [List.length_mapIdx, List.length_zip]; omega, fun i => ?_⟩
    rw [mergeG_get l5]
    by_cases hi : i ∈ vs
    · rw [if_pos hi]; exact .inl rfl
    · rw [if_neg hi, ← h3 i hi]
      exact s.sm.2 i
  have kk : ∀ b o, H2 b = some o → ¬ Own σ Γ2 b → H5 b = some o := fun b o h n => s.k b o h (noI b n)
  refine ⟨fm.upd s.f fi.fh s.n kk sm fun i a ds o hm => ?_, ⟨s.f, kk, s.n, s.g, sm⟩⟩
  rw [mergeG_get l5] at hm
  by_cases hi : i ∈ vs
  · rw [if_pos hi] at hm
    obtain ⟨es, l⟩ := fm.ownSome ⟨i, o⟩
    have nI : ¬ Own τ Γ3 a := fun ⟨j, z⟩ => by
      obtain ⟨z1, z2⟩ := inn j a z
      have e := fm.dj i j a o z1
      subst e
      exact z2 hi
    have l2 : LstAt K F2 H2 a ds := by
      rcases hm with hm | hm
      · obtain ⟨b, e1, l, _⟩ := fm.own i ds hm
        rw [o.1] at e1; cases e1; exact l
      · obtain ⟨b, e1, l, _⟩ := fm.iio i ds hm
        rw [o.1] at e1; cases e1; exact l
    obtain ⟨⟨xs, e, r⟩, z⟩ := l2
    exact ⟨⟨xs, s.k a _ e nI, r.ex s.f⟩, s.n a _ e z⟩
  · rw [if_neg hi] at hm
    have e1 : τ[i]? = some (some (.ref a)) := by rw [ht i hi]; exact o.1
    rcases hm with hm | hm
    · obtain ⟨b, e2, l, _⟩ := fi.own i ds hm
      rw [e1] at e2; cases e2; exact l
    · obtain ⟨b, e2, l, _⟩ := fi.iio i ds hm
      rw [e1] at e2; cases e2; exact l
/-- the reading of a comprehension -/
theorem lc_read (sh : Shp) (hsh : ∀ j ∈ sh.js, j ∈ own.map (·.2))
    (h : IW X tg iter Γ fun ds Γ1 => ds.length < 1000000 ∧ ∃ J : Nat → List D → List Dsc → Prop, J 0 [] Γ1 ∧ (∀ i d acc Γ2, ds[i]? = some d → J i acc Γ2 → acc.length ≤ i → (∀ v ∈ own.map (·.2), canSet Γ2 v = true) ∧ ∃ es, sh.parts d = some es ∧
        inBlk X scope fun Y => TsW Y ifs (setsG (wipeG Γ2 (own.map (·.2))) sh.js es) fun k Γ4 => (k = true → inBlk X scope fun Y => EW Y elt Γ4 fun y Γ5 => ∃ d', datOf y = some d' ∧ J (i + 1) (acc ++ [d']) (mergeG (own.map (·.2)) Γ2 Γ5)) ∧ (k = false → J (i + 1) acc (mergeG (own.map (·.2)) Γ2 Γ4))) ∧
        ∀ acc Γ2, J ds.length acc Γ2 → P (.new acc) Γ2) :
    ∀ A F H σ, Fm X.K A F H σ Γ → ∀ Q : VK, (∀ d Γ' v F' H', P d Γ' → Stp σ Γ Γ' F H F' H' → Fm X.K A F' H' σ Γ' → VOk X.K A H F' H' σ Γ' d v → Q v H') →
      tLc (IV X tg iter) (sh.rd X.K) (BTs X scope ifs) (BE X scope elt) (own.map (·.2)) σ H Q := by
  intro A F H σ fm Q q
  generalize hvs : own.map (·.2) = vs at h hsh ⊢
  refine h A F H σ fm _ fun I ds Γ1 F1 H1 hp s1 fm1 its => ?_
  obtain ⟨hlen, J, hJ0, hJs, hJd⟩ := hp
  obtain ⟨G, Y, w, hG, hY⟩ := its.ex
  intro Dl hD
  refine ⟨fun i m Hc => m = ds.length - i ∧ i ≤ ds.length ∧ ∃ Fc Γ2 acc, acc.length ≤ i ∧ J i acc Γ2 ∧ Fm X.K A Fc Hc σ Γ2 ∧ Stp σ Γ Γ2 F H Fc Hc ∧ Ex F1 Fc ∧ VOk X.K A H Fc Hc σ Γ2 (.new acc) (.ref Dl),
    ⟨ds.length, by rw [Nat.sub_zero], Nat.zero_le _, F1, Γ1, [], Nat.le_refl _, hJ0, fm1.alloc hD, s1.trans (Stp.alloc hD), Ex.refl _, newOk fm1 s1 hD .nil⟩, ?_⟩
  rintro i m Hc ⟨rfl, hi, Fc, Γ2, acc, hacc, hJ, fmc, sc, f1c, okD⟩
  have hGc := hG Fc Hc f1c fmc.fh
  by_cases hlt : i < ds.length
  · refine .inr ⟨w.goes i Hc hlt hGc, fun Hn => ∃ Fc Γ2 acc, acc.length ≤ i + 1 ∧ J (i + 1) acc Γ2 ∧ Fm X.K A Fc Hn σ Γ2 ∧ Stp σ Γ Γ2 F H Fc Hn ∧ Ex F1 Fc ∧ VOk X.K A H Fc Hn σ Γ2 (.new acc) (.ref Dl), fun Hn hn => ⟨ds.length - (i + 1), by omega, rfl, hlt, hn⟩, fun x Hy hy => ?_⟩
    obtain ⟨d, hd, yl⟩ := hY i Hc x Hy Fc hlt f1c fmc.fh (w.yields i Hc x Hy hlt hGc hy)
    have key : ∃ Fy, Fm X.K A Fy Hy σ Γ2 ∧ Stp σ Γ2 Γ2 Fc Hc Fy Hy ∧ Rep X.K Fy d x := by
      rcases yl with ⟨rfl, r⟩ | ⟨T, xs, es, rfl, nT, rfl, rfl, r⟩
      · exact ⟨Fc, fmc, Stp.refl, r⟩
      · exact ⟨L2.upd Fc T (.tup xs), fmc.allocF nT, Stp.allocF nT (fmc.fnone nT), .tup upd_same (r.ex (Ex.new (fmc.fnone nT)))⟩
    obtain ⟨Fy, fmy, sy, rx⟩ := key
    obtain ⟨hcs, es, hpt, hb⟩ := hJs i d acc Γ2 hd hJ hacc
    refine sh.ok hpt rx fmy.fh fun ws rw_ => ⟨by rw [wipe_sets hsh]; exact wipe_wipe vs vs fun _ z => z, ?_⟩
    have fmi := sets_ok (js := sh.js) (fmy.wipe hcs) (fun j hj => canSet_wipe (hcs j (hsh j hj)) vs) rw_
    have h3l : (setsG (wipeG Γ2 vs) sh.js es).length = Γ2.length := by rw [setsG_len, wipeG_len]
    have h3 : ∀ k, k ∉ vs → (setsG (wipeG Γ2 vs) sh.js es)[k]? = Γ2[k]? := fun k hk => by rw [setsG_get fun z => hk (hsh k z), wipeG_get hk]
    have ht : ∀ k, k ∉ vs → (setsS (wipe σ vs) sh.js ws)[k]? = σ[k]? := fun k hk => by rw [setsS_get fun z => hk (hsh k z), wipe_get hk]
    have hv : ∀ k ∈ vs, ∀ a, ¬ OwnAt (setsS (wipe σ vs) sh.js ws) (setsG (wipeG Γ2 vs) sh.js es) k a := fun k hk a h => by
      obtain ⟨_, ds', h1 | h1⟩ := h
      · exact (nl_sets (nl_wipe hk) ds').1 h1
      · exact (nl_sets (nl_wipe hk) ds').2 h1
    intro s0 H0 C cl fp
    refine TsW.run (Fs := F) (Hs := H) (Γs := Γ) (hb s0 H0 C cl fp) fmi fun k Γ4 F4 H4 hk s4 fm4 => ?_
    cases k with
    | false =>
      rw [if_neg Bool.false_ne_true]
      obtain ⟨g1, g2⟩ := merge_ok (vs := vs) fmy fm4 s4 h3l h3 hv ht
      exact ⟨F4, _, acc, Nat.le_succ_of_le hacc, hk.2 rfl, g1, (sc.trans sy).trans g2, f1c.trans (sy.f.trans s4.f), VOk.stp (VOk.stp okD sy) g2⟩
    | true =>
      rw [if_pos rfl]
      intro s0 H0 C cl fp
      refine (hk.1 rfl s0 H0 C cl fp) A F4 H4 _ fm4 _ fun y Γ5 vy F5 H5 hy s5 fm5 oy => ?_
      obtain ⟨d', hd', hJ'⟩ := hy
      have s45 := s4.trans s5
      obtain ⟨F6, f56, fm6, s6, r6⟩ := freeze1 (Fs := Fy) (Hs := Hy) (VOk.back oy s4.g) fm5 s45 hd'
      obtain ⟨g1, g2⟩ := merge_ok (vs := vs) fmy fm6 s6 h3l h3 hv ht
      have okE := VOk.stp (VOk.stp okD sy) g2
      obtain ⟨b, eb, ⟨⟨zs, ez, rz⟩, fz⟩, h0z, nz, hz⟩ := okE
      cases eb
      have r7 : Reps X.K F6 (acc ++ [d']) (zs ++ [vy]) := rz.append (Reps.one r6)
      refine ⟨zs, ez, by rw [← rz.len]; exact sz1 (by omega), F6, _, acc ++ [d'], by rw [List.length_append]; exact Nat.succ_le_succ hacc, hJ', g1.scratch fz nz h0z, (((sc.trans sy).trans g2).scratch hz), f1c.trans (sy.f.trans s6.f), Dl, rfl, ⟨⟨_, upd_same, r7⟩, fz⟩, h0z, nz, hz⟩
  · have e : i = ds.length := by omega
    subst e
    exact .inl ⟨w.stops Hc hGc, q _ Γ2 _ Fc Hc (hJd acc Γ2 hJ) sc fmc okD⟩
/-- a list comprehension of one clause -/
theorem ew_lc (sh : Shp) (own : List (Str × Nat)) (hc : X.calm = true) (hN : X.N.Nodup) (ok : BlkOk X.N X.env.scope scope own) (hsh : ∀ j ∈ sh.js, j ∈ own.map (·.2)) (hg : inBlk X scope fun Y => PG Y tg (sh.rd X.K))
    (h : IW X tg iter Γ fun ds Γ1 => ds.length < 1000000 ∧ ∃ J : Nat → List D → List Dsc → Prop, J 0 [] Γ1 ∧ (∀ i d acc Γ2, ds[i]? = some d → J i acc Γ2 → acc.length ≤ i → (∀ v ∈ own.map (·.2), canSet Γ2 v = true) ∧ ∃ es, sh.parts d = some es ∧
        inBlk X scope fun Y => TsW Y ifs (setsG (wipeG Γ2 (own.map (·.2))) sh.js es) fun k Γ4 => (k = true → inBlk X scope fun Y => EW Y elt Γ4 fun y Γ5 => ∃ d', datOf y = some d' ∧ J (i + 1) (acc ++ [d']) (mergeG (own.map (·.2)) Γ2 Γ5)) ∧ (k = false → J (i + 1) acc (mergeG (own.map (·.2)) Γ2 Γ4))) ∧
        ∀ acc Γ2, J ds.length acc Γ2 → P (.new acc) Γ2)
    (hs : ∀ x, foldedSetIterable iter X.env x = pure x := by intro _; rfl) : EW X (.ListComp elt [⟨tg, iter, ifs, 0⟩] scope pos) Γ P :=
  fun A F H σ fm Q q => ⟨_, pe_lc (own := own) (tt := BTs X scope ifs) (te := BE X scope elt) hc hN pi_top ok hg
    (fun s H C cl fp => ⟨fun pins s' σ H' Q I hq => pts_top.run pins s' σ H' Q I (hq s H C cl fp)⟩) (fun s H C cl fp => ⟨fun pins s' σ H' Q I hq => pe_top.run pins s' σ H' Q I (hq s H C cl fp)⟩) hs, lc_read sh hsh h A F H σ fm Q q⟩
end
end VX

/-! VX: statements, defs, calls. -/
namespace VX
open PySem PySem.Spec PyProof.Rows L2

/-! ### comprehensions that only read -/
theorem merge_id {vs js : List Nat} {Γ : List Dsc} {es : List D} (h : ∀ j ∈ js, j ∈ vs) : mergeG vs Γ (setsG (wipeG Γ vs) js es) = Γ := by
  refine List.ext_getElem? fun i => ?_
  rw [mergeG_get (by rw [setsG_len, wipeG_len])]
  by_cases hi : i ∈ vs
  · rw [if_pos hi]
  · rw [if_neg hi, setsG_get fun z => hi (h i z), wipeG_get hi]
section
variable {X : Cx} {Γ : List Dsc} {P : PD} {elt tg iter c : Expr} {ifs : List Expr} {scope : Scope} {pos : Pos} {α : Type}
/-- what is asked of a comprehension that only reads: ds = xs.map enc, the result (xs.filter p).map g -/
def LcOk (X : Cx) (scope : Scope) (sh : Shp) (vs : List Nat) (elt : Expr) (ifs : List Expr) (enc g : α → D) (p : α → Bool) (ds : List D) (Γ1 : List Dsc) (xs : List α) : Prop :=
  ds = xs.map enc ∧ xs.length < 1000000 ∧ vs.all (canSet Γ1) = true ∧ ∀ x ∈ xs, ∃ es, sh.parts (enc x) = some es ∧
    inBlk X scope fun Y => TsW Y ifs (setsG (wipeG Γ1 vs) sh.js es) fun k Γ4 => Γ4 = setsG (wipeG Γ1 vs) sh.js es ∧ k = p x ∧ (p x = true → inBlk X scope fun Y => EW Y elt (setsG (wipeG Γ1 vs) sh.js es) fun y Γ5 => datOf y = some (g x) ∧ Γ5 = setsG (wipeG Γ1 vs) sh.js es)
theorem filter_take {p : α → Bool} {xs : List α} {i : Nat} {x : α} (h : xs[i]? = some x) : (xs.take (i + 1)).filter p = (xs.take i).filter p ++ (if p x = true then [x] else []) := by
  rw [List.take_add_one, h, List.filter_append]
  congr 1
  show ([x]).filter p = _
  rw [List.filter_cons]
  split <;> rfl
theorem lc_pure {own : List (Str × Nat)} {enc g : α → D} {p : α → Bool} {xs : List α} {ds : List D} {Γ1 : List Dsc} (sh : Shp) (hsh : ∀ j ∈ sh.js, j ∈ own.map (·.2)) (h : LcOk X scope sh (own.map (·.2)) elt ifs enc g p ds Γ1 xs) (hp : P (.new ((xs.filter p).map g)) Γ1) :
    ds.length < 1000000 ∧ ∃ J : Nat → List D → List Dsc → Prop, J 0 [] Γ1 ∧ (∀ i d acc Γ2, ds[i]? = some d → J i acc Γ2 → acc.length ≤ i → (∀ v ∈ own.map (·.2), canSet Γ2 v = true) ∧ ∃ es, sh.parts d = some es ∧
        inBlk X scope fun Y => TsW Y ifs (setsG (wipeG Γ2 (own.map (·.2))) sh.js es) fun k Γ4 => (k = true → inBlk X scope fun Y => EW Y elt Γ4 fun y Γ5 => ∃ d', datOf y = some d' ∧ J (i + 1) (acc ++ [d']) (mergeG (own.map (·.2)) Γ2 Γ5)) ∧ (k = false → J (i + 1) acc (mergeG (own.map (·.2)) Γ2 Γ4))) ∧
        ∀ acc Γ2, J ds.length acc Γ2 → P (.new acc) Γ2 := by
  obtain ⟨rfl, hl, hcs, hx⟩ := h
  refine ⟨by rw [List.length_map]; exact hl, fun i acc Γ2 => Γ2 = Γ1 ∧ acc = ((xs.take i).filter p).map g, ⟨rfl, rfl⟩, ?_, ?_⟩
  · rintro i d acc Γ2 hd ⟨rfl, rfl⟩ hacc
    obtain ⟨x, hxi, rfl⟩ : ∃ x, xs[i]? = some x ∧ enc x = d := by
      rw [List.getElem?_map] at hd
      cases e : xs[i]? with
      | none => rw [e] at hd; cases hd
      | some x => rw [e] at hd; exact ⟨x, rfl, Option.some.inj hd⟩
    obtain ⟨es, hpt, hb⟩ := hx x (List.mem_of_getElem? hxi)
    refine ⟨List.all_eq_true.mp hcs, es, hpt, fun s H C cl fp => ?_⟩
    have := hb s H C cl fp
    have go : ∀ k Γ4, (Γ4 = setsG (wipeG Γ2 (own.map (·.2))) sh.js es ∧ k = p x ∧ (p x = true → inBlk X scope fun Y => EW Y elt (setsG (wipeG Γ2 (own.map (·.2))) sh.js es) fun y Γ5 => datOf y = some (g x) ∧ Γ5 = setsG (wipeG Γ2 (own.map (·.2))) sh.js es)) →
        (k = true → inBlk X scope fun Y => EW Y elt Γ4 fun y Γ5 => ∃ d', datOf y = some d' ∧ (mergeG (own.map (·.2)) Γ2 Γ5 = Γ2 ∧ ((xs.take i).filter p).map g ++ [d'] = ((xs.take (i + 1)).filter p).map g)) ∧
        (k = false → mergeG (own.map (·.2)) Γ2 Γ4 = Γ2 ∧ ((xs.take i).filter p).map g = ((xs.take (i + 1)).filter p).map g) := by
      rintro k Γ4 ⟨rfl, rfl, h2⟩
      refine ⟨fun hk => fun s H C cl fp => ?_, fun hk => ⟨merge_id hsh, ?_⟩⟩
      · refine (h2 hk s H C cl fp).mono fun y Γ5 ⟨e1, e2⟩ => ⟨g x, e1, ?_, ?_⟩
        · rw [e2]; exact merge_id hsh
        · rw [filter_take hxi, if_pos hk, List.map_append]
          rfl
      · rw [filter_take hxi, if_neg (by rw [hk]; exact Bool.false_ne_true), List.append_nil]
    match ifs, this with
    | [], h1 => exact go _ _ h1
    | [c], h1 => exact TW.mono h1 go
    | _ :: _ :: _, h1 => exact h1
  · rintro acc Γ2 ⟨rfl, rfl⟩
    rw [List.length_map, List.take_length]
    exact hp
/-- [elt for tg in iter (if c)] that only reads -/
theorem ew_lcF (sh : Shp) (own : List (Str × Nat)) (enc g : α → D) (p : α → Bool) (hc : X.calm = true) (hN : X.N.Nodup) (ok : BlkOk X.N X.env.scope scope own) (hsh : ∀ j ∈ sh.js, j ∈ own.map (·.2)) (hg : inBlk X scope fun Y => PG Y tg (sh.rd X.K))
    (h : IW X tg iter Γ fun ds Γ1 => ∃ xs, LcOk X scope sh (own.map (·.2)) elt ifs enc g p ds Γ1 xs ∧ P (.new ((xs.filter p).map g)) Γ1)
    (hs : ∀ x, foldedSetIterable iter X.env x = pure x := by intro _; rfl) : EW X (.ListComp elt [⟨tg, iter, ifs, 0⟩] scope pos) Γ P :=
  ew_lc sh own hc hN ok hsh hg (fun A F H σ fm R q => h A F H σ fm R fun J ds Γ' F' H' ⟨xs, h1, h2⟩ => q J ds Γ' F' H' (lc_pure sh hsh h1 h2)) hs
theorem filter_true (xs : List α) : xs.filter (fun _ => true) = xs := by induction xs with
  | nil => rfl
  | cons x xs ih => rw [List.filter_cons, if_pos rfl, ih]
/-- what is asked where there is no test -/
def LmOk (X : Cx) (scope : Scope) (sh : Shp) (vs : List Nat) (elt : Expr) (enc g : α → D) (ds : List D) (Γ1 : List Dsc) (xs : List α) : Prop :=
  ds = xs.map enc ∧ xs.length < 1000000 ∧ vs.all (canSet Γ1) = true ∧ ∀ x ∈ xs, ∃ es, sh.parts (enc x) = some es ∧
    inBlk X scope fun Y => EW Y elt (setsG (wipeG Γ1 vs) sh.js es) fun y Γ5 => datOf y = some (g x) ∧ Γ5 = setsG (wipeG Γ1 vs) sh.js es
theorem LmOk.lc {sh : Shp} {vs : List Nat} {enc g : α → D} {ds : List D} {Γ1 : List Dsc} {xs : List α} (h : LmOk X scope sh vs elt enc g ds Γ1 xs) : LcOk X scope sh vs elt [] enc g (fun _ => true) ds Γ1 xs := by
  obtain ⟨h1, h2, h3, h4⟩ := h
  refine ⟨h1, h2, h3, fun x hx => ?_⟩
  obtain ⟨es, e1, e2⟩ := h4 x hx
  exact ⟨es, e1, fun s H C cl fp => ⟨rfl, rfl, fun _ => e2⟩⟩
theorem ew_lcM (sh : Shp) (own : List (Str × Nat)) (enc g : α → D) (hc : X.calm = true) (hN : X.N.Nodup) (ok : BlkOk X.N X.env.scope scope own) (hsh : ∀ j ∈ sh.js, j ∈ own.map (·.2)) (hg : inBlk X scope fun Y => PG Y tg (sh.rd X.K))
    (h : IW X tg iter Γ fun ds Γ1 => ∃ xs, LmOk X scope sh (own.map (·.2)) elt enc g ds Γ1 xs ∧ P (.new (xs.map g)) Γ1)
    (hs : ∀ x, foldedSetIterable iter X.env x = pure x := by intro _; rfl) : EW X (.ListComp elt [⟨tg, iter, [], 0⟩] scope pos) Γ P :=
  ew_lcF sh own enc g (fun _ => true) hc hN ok hsh hg (fun A F H σ fm R q => h A F H σ fm R fun J ds Γ' F' H' ⟨xs, h1, h2⟩ => q J ds Γ' F' H' ⟨xs, h1.lc, by rw [filter_true]; exact h2⟩) hs
end

/-! ### targets -/
def GV (X : Cx) (tg : Expr) : TG := fun v σ H Q => ∃ t, PG X tg t ∧ t v σ H Q
theorem pg_top {X : Cx} {tg : Expr} : PG X tg (GV X tg) := ⟨fun pins s σ H v u Q I r ⟨_, h, q⟩ => h.run pins s σ H v u Q I r q⟩
def GsV (X : Cx) (tgs : List Expr) : TGs := fun v σ H Q => ∃ t, PGs X tgs t ∧ t v σ H Q
theorem pgs_top {X : Cx} {tgs : List Expr} : PGs X tgs (GsV X tgs) := ⟨fun pins s σ H v u Q I r ⟨_, h, q⟩ => h.run pins s σ H v u Q I r q⟩
abbrev H00 : Hp := fun _ => none
def GW (X : Cx) (tg : Expr) (d : Dv) (Γ : List Dsc) (P : List Dsc → Prop) : Prop := ∀ A F H σ v, Fm X.K A F H σ Γ → VOk X.K A H00 F H σ Γ d v → ∀ Q : L2.St → Hp → Prop,
  (∀ Γ' F' H' σ', P Γ' → Ex F F' → Fm X.K A F' H' σ' Γ' → Q σ' H') → GV X tg v σ H Q
def GsW (X : Cx) (tgs : List Expr) (ds : List D) (Γ : List Dsc) (P : List Dsc → Prop) : Prop := ∀ A F H σ vs, Fm X.K A F H σ Γ → Reps X.K F ds vs → ∀ Q : L2.St → Hp → Prop,
  (∀ Γ' F' H' σ', P Γ' → Ex F F' → Fm X.K A F' H' σ' Γ' → Q σ' H') → GsV X tgs vs σ H Q
def dscOf : Dv → Option Dsc
  | .dat d => some (.dat d)
  | .new ds => some (.own ds)
  | .loc _ => none
section
variable {X : Cx} {Γ : List Dsc} {a b c e o tg : Expr} {es : List Expr} {pos p pos' : Pos} {x : Str} {P : List Dsc → Prop}
theorem setDv {K : PySem.W.Frag} {A : Ac} {Hs F H : Hp} {σ : L2.St} {d : Dv} {s : Dsc} {v : V} {i : Nat} (fm : Fm K A F H σ Γ) (ok : VOk K A Hs F H σ Γ d v) (h : dscOf d = some s) (c : canSet Γ i = true) : Fm K A F H (σ.set i (some v)) (Γ.set i s) := by
  cases d with
  | dat d => cases h; exact fm.setDat c ok
  | new ds =>
    cases h
    obtain ⟨a, rfl, l, h0, no, _⟩ := ok
    exact fm.setOwn c l h0 fun j _ z => no ⟨j, z⟩
  | loc i => cases h
theorem gw_name (i : Nat) {d : Dv} {s : Dsc} (hN : X.N.Nodup) (hs : dscOf d = some s) (c : canSet Γ i = true) (h : P (Γ.set i s)) (hi : X.N[i]? = some x := by rfl) (hx : Loc X.env.scope x := by first | exact .inl rfl | exact .inr rfl)
    (hf : X.fn x = true ∨ X.env.scope.names.lookup x = some .local := by first | exact .inl rfl | exact .inr rfl) : GW X (.Name x pos) d Γ P :=
  fun A F H σ v fm ok Q q => ⟨_, pg_name hN hi hx hf, q _ F H _ h (Ex.refl _) (setDv fm ok hs c)⟩
theorem gsw_nil (h : P Γ) : GsW X [] [] Γ P := fun A F H σ vs fm r Q q => ⟨_, pgs_nil, by cases r; exact ⟨rfl, q Γ F H σ h (Ex.refl _) fm⟩⟩
theorem gsw_cons {d : D} {ds : List D} (h : GW X e (.dat d) Γ fun Γ1 => GsW X es ds Γ1 P) (hs : (assignEach (e :: es) X.env).map (·.2) = assign e X.env :: (assignEach es X.env).map (·.2) := by rfl) : GsW X (e :: es) (d :: ds) Γ P := by
  intro A F H σ vs fm r Q q
  refine ⟨_, pgs_cons pg_top pgs_top hs, ?_⟩
  cases r with
  | cons r1 r2 =>
    refine ⟨_, _, rfl, ?_⟩
    exact h A F H σ _ fm r1 _ fun Γ1 F1 H1 σ1 h1 f1 fm1 => h1 A F1 H1 σ1 _ fm1 (r2.ex f1) Q fun Γ2 F2 H2 σ2 h2 f2 fm2 => q Γ2 F2 H2 σ2 h2 (f1.trans f2) fm2
theorem gw_tup {k : Nat} {ds : List D} (hc : X.calm = true) (hl : ds.length = es.length) (h : GsW X es ds Γ P) (hn : (assignEach es X.env).length = es.length := by rfl) (hst : (assignEach es X.env).findIdx? (·.1) = none := by rfl) : GW X (.Tuple es k pos) (.dat (.tup ds)) Γ P := by
  intro A F H σ v fm ok Q q
  refine ⟨_, pg_tup (n := es.length) hc pgs_top hn hst, ?_⟩
  cases ok with
  | tup e r => exact ⟨_, _, rfl, .inl (.inl (fm.fh _ _ e)), by rw [← r.len]; exact hl, h A F H σ _ fm r Q q⟩
theorem stp_triv {σ : L2.St} {F H : Hp} : Stp σ Γ Γ F H00 F H := ⟨Ex.refl _, fun _ _ h => (nomatch h), fun _ _ h => (nomatch h), fun _ _ => rfl, Sim.refl _⟩
/-- o[i] = a value, o an own list -/
theorem gw_sub {d : Dv} {t : D} (hd : datOf d = some t) (h : EW X a Γ fun x Γ1 => ∃ i, x = .loc i ∧ EW X b Γ1 fun y Γ2 => ∃ k j ds, y = .dat (.int k) ∧ lstOf Γ2 (.loc i) = some ds ∧ ixN ds.length k = some j ∧ P (setLst Γ2 i (ds.set j t)))
    (ha : ∀ v, assign (.Subscript a b pos) X.env v = (do
      let ov ← holding [v] (eval a X.env)
      let iv ← holding [v, ov] (eval b X.env)
      standAt pos
      holding [v, ov, iv] (setItem ov iv v)
      release [v, ov, iv] []) := by intro _; rfl) : GW X (.Subscript a b pos) d Γ P := by
  intro A F H σ v fm ok Q q
  refine ⟨_, pg_sub pe_top pe_top set_list ha, ?_⟩
  show EV X a σ H fun o H1 => EV X b σ H1 fun i H2 => rSetL o i v H2 fun H3 => Q σ H3
  obtain ⟨F0, _, fm0, s0, r0⟩ := freeze1 ok fm stp_triv hd
  refine h.run (Fs := F0) (Hs := H) (Γs := Γ) fm0 Stp.refl fun x Γ1 vx F1 H1 hx s1 _ fm1 ox => ?_
  obtain ⟨i, rfl, h2⟩ := hx
  refine h2.run fm1 s1 fun y Γ2 vy F2 H2 hy s2 s12 fm2 oy => ?_
  obtain ⟨k, j, ds, rfl, hl, hj, hp⟩ := hy
  obtain ⟨l, xs, rfl, o', g, r⟩ := VOk.loc (VOk.stp ox s12) fm2 hl
  cases Rep.int_eq oy
  exact ⟨l, xs, k, j, rfl, rfl, g, by rw [← r.len]; exact hj, q _ F2 _ σ hp (s0.f.trans s2.f) (fm2.write o' (r.set (r0.ex s2.f) j))⟩
end

/-! ### statements -/
structure PEnds where
  nx : List Dsc → Prop
  rt : Dv → List Dsc → Prop
  bk : List Dsc → Prop := fun _ => False
  ct : List Dsc → Prop := fun _ => False
structure EndsOk (K : PySem.W.Frag) (A : Ac) (F : Hp) (D : PEnds) (E : Ends) : Prop where
  nx : ∀ Γ' F' H' σ', D.nx Γ' → Ex F F' → Fm K A F' H' σ' Γ' → E.nx σ' H'
  rt : ∀ d Γ' v F' H' σ', D.rt d Γ' → Ex F F' → Fm K A F' H' σ' Γ' → VOk K A H00 F' H' σ' Γ' d v → E.rt v H'
  bk : ∀ Γ' F' H' σ', D.bk Γ' → Ex F F' → Fm K A F' H' σ' Γ' → E.bk σ' H'
  ct : ∀ Γ' F' H' σ', D.ct Γ' → Ex F F' → Fm K A F' H' σ' Γ' → E.ct σ' H'
theorem EndsOk.on {K : PySem.W.Frag} {A : Ac} {F F1 : Hp} {D : PEnds} {E : Ends} (e : EndsOk K A F D E) (f : Ex F F1) : EndsOk K A F1 D E :=
  ⟨fun a b c d h g => e.nx a b c d h (f.trans g), fun a b c d g k h z => e.rt a b c d g k h (f.trans z), fun a b c d h g => e.bk a b c d h (f.trans g), fun a b c d h g => e.ct a b c d h (f.trans g)⟩
def SV (X : Cx) (st : Stmt) : TS := fun D σ H => ∃ t, PS X st t ∧ t D σ H
theorem ps_top {X : Cx} {st : Stmt} : PS X st (SV X st) := ⟨fun pins s σ H D I ⟨_, h, q⟩ => h.run pins s σ H D I q⟩
def SsV (X : Cx) (st : List Stmt) : TS := fun D σ H => ∃ t, PSs X st t ∧ t D σ H
theorem pss_top {X : Cx} {st : List Stmt} : PSs X st (SsV X st) := ⟨fun pins s σ H D I ⟨_, h, q⟩ => h.run pins s σ H D I q⟩
def SW (X : Cx) (st : Stmt) (Γ : List Dsc) (D : PEnds) : Prop := ∀ A F H σ, Fm X.K A F H σ Γ → ∀ E, EndsOk X.K A F D E → SV X st E σ H
def SsW (X : Cx) (st : List Stmt) (Γ : List Dsc) (D : PEnds) : Prop := ∀ A F H σ, Fm X.K A F H σ Γ → ∀ E, EndsOk X.K A F D E → SsV X st E σ H
section
variable {X : Cx} {Γ : List Dsc} {a b c e o tg iter : Expr} {es : List Expr} {pos p pos' : Pos} {x : Str} {D : PEnds} {st : Stmt} {rest s1 s2 : List Stmt}
theorem ssw_nil (h : D.nx Γ) : SsW X [] Γ D := fun A F H σ fm E e => ⟨_, pss_nil, e.nx Γ F H σ h (Ex.refl _) fm⟩
theorem ssw_cons (h : SW X st Γ { D with nx := fun Γ1 => SsW X rest Γ1 D }) : SsW X (st :: rest) Γ D := by
  intro A F H σ fm E e
  refine ⟨_, pss_cons ps_top pss_top, ?_⟩
  show SV X st { E with nx := SsV X rest E } σ H
  exact h A F H σ fm _ ⟨fun Γ' F' H' σ' p f fm' => p A F' H' σ' fm' E (e.on f), e.rt, e.bk, e.ct⟩
theorem ssw_one (h : SW X st Γ D) : SsW X [st] Γ D := fun A F H σ fm E e => ⟨_, pss_one ps_top, h A F H σ fm E e⟩
theorem sw_expr (h : EW X e Γ fun _ Γ1 => D.nx Γ1) (hs : swapsWith e none pos.line X.env = pure false := by rfl) : SW X (.Expr e pos) Γ D := by
  intro A F H σ fm E k
  refine ⟨_, ps_expr pe_top hs, ?_⟩
  show EV X e σ H fun _ H1 => E.nx σ H1
  exact h.run fm Stp.refl fun d Γ' v F' H' p s _ fm' _ => k.nx Γ' F' H' σ p s.f fm'
theorem sw_ret (h : EW X e Γ D.rt) : SW X (.Return (some e) pos) Γ D := by
  intro A F H σ fm E k
  refine ⟨_, ps_ret pe_top, ?_⟩
  show EV X e σ H E.rt
  exact h.run fm Stp.refl fun d Γ' v F' H' p s _ fm' ok => k.rt d Γ' v F' H' σ p s.f fm' (ok.back fun _ _ => rfl)
theorem sw_if (h : TW X c Γ fun k Γ1 => (k = true → SsW X s1 Γ1 D) ∧ (k = false → SsW X s2 Γ1 D)) : SW X (.If c s1 s2 pos) Γ D := by
  intro A F H σ fm E k
  refine ⟨_, ps_if pt_top pss_top pss_top, ?_⟩
  show TV X c σ H fun b H1 => if b = true then SsV X s1 E σ H1 else SsV X s2 E σ H1
  refine h.run fm Stp.refl fun b Γ' F' H' p s _ fm' => ?_
  cases b with
  | true => rw [if_pos rfl]; exact p.1 rfl A F' H' σ fm' E (k.on s.f)
  | false => rw [if_neg Bool.false_ne_true]; exact p.2 rfl A F' H' σ fm' E (k.on s.f)
/-- x = e -/
theorem sw_set (i : Nat) (hN : X.N.Nodup) (h : EW X e Γ fun d Γ1 => ∃ s, dscOf d = some s ∧ canSet Γ1 i = true ∧ D.nx (Γ1.set i s)) (hi : X.N[i]? = some x := by rfl) (hx : Loc X.env.scope x := by first | exact .inl rfl | exact .inr rfl)
    (hs : swapsWith e (some (.Name x pos')) pos.line X.env = pure false := by rfl) (hf : X.fn x = true ∨ X.env.scope.names.lookup x = some .local := by first | exact .inl rfl | exact .inr rfl) : SW X (.Assign [.Name x pos'] e pos) Γ D := by
  intro A F H σ fm E k
  refine ⟨_, ps_set hN hi hx pe_top hs hf, ?_⟩
  show EV X e σ H fun v H1 => E.nx (σ.set i (some v)) H1
  refine h.run fm Stp.refl fun d Γ' v F' H' p s _ fm' ok => ?_
  obtain ⟨z, h1, h2, h3⟩ := p
  exact k.nx _ F' H' _ h3 s.f (setDv fm' ok h1 h2)
/-- a target of any form = e -/
theorem sw_asg (h : EW X e Γ fun d Γ1 => GW X tg d Γ1 D.nx) (hs : swapsWithSole [tg] e pos.line X.env = pure false := by rfl) (hw : swappedStores [tg] e X.env = pure none := by rfl)
    (h1 : (assignEach [tg] X.env).map (·.2) = [assign tg X.env] := by rfl) : SW X (.Assign [tg] e pos) Γ D := by
  intro A F H σ fm E k
  refine ⟨_, ps_asg pe_top pg_top hs hw h1, ?_⟩
  show EV X e σ H fun x H1 => GV X tg x σ H1 E.nx
  refine h.run fm Stp.refl fun d Γ' v F' H' p s _ fm' ok => ?_
  exact p A F' H' σ v fm' (ok.back fun _ _ => rfl) _ fun Γ2 F2 H2 σ2 h2 f2 fm2 => k.nx Γ2 F2 H2 σ2 h2 (s.f.trans f2) fm2
/-- x, y = a, b stored without a tuple -/
theorem sw_par (i j : Nat) {x y : Str} {px py pt : Pos} {kt k2 : Nat} {pt2 : Pos} (hc : X.calm = true) (hN : X.N.Nodup)
    (h : EW X a Γ fun d Γ1 => EW X b Γ1 fun d2 Γ2 => ∃ s t, dscOf d = some s ∧ dscOf d2 = some t ∧ canSet Γ2 i = true ∧ canSet (Γ2.set i s) j = true ∧ D.nx ((Γ2.set i s).set j t))
    (hw : swappedStores [.Tuple [.Name x px, .Name y py] kt pt] (.Tuple [a, b] k2 pt2) X.env = pure (some [x, y]) := by rfl)
    (hij : i ≠ j := by decide) (hi : X.N[i]? = some x := by rfl) (hj : X.N[j]? = some y := by rfl) (hx : X.env.scope.names.lookup x = some .local := by rfl) (hy : X.env.scope.names.lookup y = some .local := by rfl)
    (hs : swapsWithSole [.Tuple [.Name x px, .Name y py] kt pt] (.Tuple [a, b] k2 pt2) pos.line X.env = pure false := by rfl)
    (he : starEach [a, b] X.env = (false, eval a X.env) :: starEach [b] X.env := by rfl) (he2 : starEach [b] X.env = (false, eval b X.env) :: starEach [] X.env := by rfl) :
    SW X (.Assign [.Tuple [.Name x px, .Name y py] kt pt] (.Tuple [a, b] k2 pt2) pos) Γ D := by
  intro A F H σ fm E k
  refine ⟨_, ps_par hc hN hi hj hij hx hy (pa_cons pe_top (pa_cons pe_top pa_nil he2) he) hw hs, ?_⟩
  show EV X a σ H fun v H1 => EV X b σ H1 fun w H2 => ∃ v' w', [v, w] = [v', w'] ∧ E.nx ((σ.set i (some v')).set j (some w')) H2
  refine h.run fm Stp.refl fun d Γ1 v F1 H1 p s1 _ fm1 ok1 => ?_
  refine p A F1 H1 σ fm1 _ fun d2 Γ2 w F2 H2 p2 s12 fm2 ok2 => ?_
  obtain ⟨s, t, e1, e2, c1, c2, hp⟩ := p2
  have ok1' := VOk.stp ok1 s12
  refine ⟨v, w, rfl, k.nx _ F2 H2 _ hp ((s1.trans s12).f) ?_⟩
  have fm3 := setDv fm2 ok1' e1 c1
  cases d2 with
  | dat z => cases e2; exact fm3.setDat c2 ok2
  | new ds =>
    cases e2
    obtain ⟨q, rfl, l, h0, no, hq⟩ := ok2
    refine fm3.setOwn c2 l h0 fun m hm z => ?_
    obtain ⟨z1, es, z2⟩ := z
    by_cases hmi : i = m
    · subst hmi
      cases d with
      | dat d =>
        cases e1
        rw [List.getElem?_set_self (canSet_lt c1).1] at z2
        rcases z2 with z2 | z2 <;> cases z2
      | new ds1 =>
        obtain ⟨q1, rfl, ⟨⟨xs, g, _⟩, _⟩, _⟩ := ok1
        rw [List.getElem?_set_self (by rw [fm2.len]; exact (canSet_lt c1).1)] at z1
        cases z1
        rw [hq] at g; cases g
      | loc m => cases e1
    · rw [List.getElem?_set_ne hmi] at z1 z2
      exact no ⟨m, z1, es, z2⟩
  | loc m => cases e2
/-- x, y, z = a, b, c: the first two data -/
theorem sw_par3 (i j l : Nat) {x y z : Str} {px py pz pt : Pos} {kt k2 : Nat} {pt2 : Pos} (hc : X.calm = true) (hN : X.N.Nodup)
    (h : EW X a Γ fun d Γ1 => EW X b Γ1 fun d2 Γ2 => EW X c Γ2 fun d3 Γ3 => ∃ s t u, d = .dat s ∧ d2 = .dat t ∧ dscOf d3 = some u ∧ canSet Γ3 i = true ∧ canSet (Γ3.set i (.dat s)) j = true ∧ canSet ((Γ3.set i (.dat s)).set j (.dat t)) l = true ∧ D.nx (((Γ3.set i (.dat s)).set j (.dat t)).set l u))
    (hw : swappedStores [.Tuple [.Name x px, .Name y py, .Name z pz] kt pt] (.Tuple [a, b, c] k2 pt2) X.env = pure (some [x, y, z]) := by rfl)
    (hij : i ≠ j := by decide) (hil : i ≠ l := by decide) (hjl : j ≠ l := by decide) (hi : X.N[i]? = some x := by rfl) (hj : X.N[j]? = some y := by rfl) (hl : X.N[l]? = some z := by rfl) (hx : X.env.scope.names.lookup x = some .local := by rfl) (hy : X.env.scope.names.lookup y = some .local := by rfl) (hz : X.env.scope.names.lookup z = some .local := by rfl)
    (hs : swapsWithSole [.Tuple [.Name x px, .Name y py, .Name z pz] kt pt] (.Tuple [a, b, c] k2 pt2) pos.line X.env = pure false := by rfl)
    (he : starEach [a, b, c] X.env = (false, eval a X.env) :: starEach [b, c] X.env := by rfl) (he2 : starEach [b, c] X.env = (false, eval b X.env) :: starEach [c] X.env := by rfl) (he3 : starEach [c] X.env = (false, eval c X.env) :: starEach [] X.env := by rfl) :
    SW X (.Assign [.Tuple [.Name x px, .Name y py, .Name z pz] kt pt] (.Tuple [a, b, c] k2 pt2) pos) Γ D := by
  intro A F H σ fm E k
  refine ⟨_, ps_par3 hc hN hi hj hl hij hil hjl hx hy hz (pa_cons pe_top (pa_cons pe_top (pa_cons pe_top pa_nil he3) he2) he) hw hs, ?_⟩
  show EV X a σ H fun v H1 => EV X b σ H1 fun w H2 => EV X c σ H2 fun u H3 => ∃ v' w' u', [v, w, u] = [v', w', u'] ∧ E.nx (((σ.set i (some v')).set j (some w')).set l (some u')) H3
  refine h.run fm Stp.refl fun d Γ1 v F1 H1 p s1 _ fm1 ok1 => ?_
  refine p.run fm1 s1 fun d2 Γ2 w F2 H2 p2 s2 s12 fm2 ok2 => ?_
  refine p2.run fm2 s2 fun d3 Γ3 u F3 H3 p3 s3 s23 fm3 ok3 => ?_
  obtain ⟨s, t, r, rfl, rfl, e3, c1, c2, c3, hp⟩ := p3
  have o1 := (VOk.stp ok1 s12).stp s23
  have o2 := VOk.stp ok2 s23
  refine ⟨v, w, u, rfl, k.nx _ F3 H3 _ hp s3.f ?_⟩
  have fm4 := (fm3.setDat c1 o1).setDat c2 o2
  cases d3 with
  | dat z => cases e3; exact fm4.setDat c3 ok3
  | new ds =>
    cases e3
    obtain ⟨q, rfl, ll, h0, no, hq⟩ := ok3
    refine fm4.setOwn c3 ll h0 fun m hm z => ?_
    obtain ⟨z1, es, z2⟩ := z
    have nl : Nl ((Γ3.set i (.dat s)).set j (.dat t)) i := nl_set (fun ds => by
      rw [List.getElem?_set_self (canSet_lt c1).1]
      exact ⟨fun q => (nomatch q), fun q => (nomatch q)⟩) (.inr ⟨_, rfl⟩)
    by_cases hmj : j = m
    · subst hmj
      rw [List.getElem?_set_self (canSet_lt c2).1] at z2
      rcases z2 with z2 | z2 <;> cases z2
    · by_cases hmi : i = m
      · subst hmi
        rcases z2 with z2 | z2
        · exact (nl es).1 z2
        · exact (nl es).2 z2
      · rw [List.getElem?_set_ne hmj, List.getElem?_set_ne hmi] at z1 z2
        exact no ⟨m, z1, es, z2⟩
  | loc m => cases e3
/-- x += e, ints -/
theorem sw_aug (i : Nat) {n : Int} (hN : X.N.Nodup) (hx0 : Γ[i]? = some (.dat (.int n))) (h : EW X e Γ fun d Γ1 => ∃ m, d = .dat (.int m) ∧ canSet Γ1 i = true ∧ D.nx (Γ1.set i (.dat (.int (n + m))))) (hi : X.N[i]? = some x := by rfl) (hx : Loc X.env.scope x := by first | exact .inl rfl | exact .inr rfl)
    (hf : X.fn x = true ∨ X.env.scope.names.lookup x = some .local := by first | exact .inl rfl | exact .inr rfl) : SW X (.AugAssign (.Name x pos') .Add e pos) Γ D := by
  intro A F H σ fm E k
  refine ⟨_, ps_aug hN hi hx pe_top ip_add hf, ?_⟩
  obtain ⟨v0, e0, r0⟩ := fm.dat i _ hx0
  cases Rep.int_eq r0
  refine ⟨_, e0, ?_⟩
  show EV X e σ H fun y H1 => ∃ i' j, V.int n = .int i' ∧ y = .int j ∧ E.nx (σ.set i (some (.int (i' + j)))) H1
  refine h.run fm Stp.refl fun d Γ' v F' H' p s _ fm' ok => ?_
  obtain ⟨m, rfl, c, hp⟩ := p
  cases Rep.int_eq ok
  exact ⟨n, m, rfl, rfl, k.nx _ F' H' _ hp s.f (fm'.setDat c (.int _))⟩
/-- a local list becomes data -/
theorem ssw_freeze (i : Nat) {ds : List VX.D} (h : Γ[i]? = some (.own ds)) (k : SsW X rest (Γ.set i (.dat (.lst ds))) D) : SsW X rest Γ D := by
  intro A F H σ fm E e
  obtain ⟨a, e1, ⟨⟨xs, g, r⟩, z⟩, h0⟩ := fm.own i ds h
  have hlt : i < Γ.length := (List.getElem?_eq_some_iff.mp h).1
  have no : ∀ j, i ≠ j → ¬ OwnAt σ Γ j a := fun j hj w => hj (fm.dj i j a ⟨e1, ds, .inl h⟩ w)
  have c : canSet Γ i = true := by unfold canSet; rw [h]
  have fm1 := fm.setUn (v := none) c
  have no1 : ¬ Own (σ.set i none) (Γ.set i .un) a := fun ⟨j, z1, es, z2⟩ => by
    by_cases hj : i = j
    · subst hj
      rw [List.getElem?_set_self hlt] at z2
      rcases z2 with z2 | z2 <;> cases z2
    · rw [List.getElem?_set_ne hj] at z1 z2
      exact no j hj ⟨z1, es, z2⟩
  have fm2 := fm1.freeze g z no1 h0
  have c2 : canSet (Γ.set i .un) i = true := by unfold canSet; rw [List.getElem?_set_self hlt]
  have fm3 := fm2.setDat (d := .lst ds) (v := .ref a) c2 (.lst upd_same (r.ex (Ex.new z)))
  rw [List.set_set, List.set_set] at fm3
  have e4 : σ.set i (some (.ref a)) = σ := by
    refine List.ext_getElem? fun j => ?_
    by_cases hj : i = j
    · subst hj
      rw [List.getElem?_set_self (by rw [fm.len]; exact hlt), e1]
    · rw [List.getElem?_set_ne hj]
  rw [e4] at fm3
  exact k A _ H σ fm3 E (e.on (Ex.new z))
theorem sw_for (hc : X.calm = true) (hp : PassesOwn (model X.prog X.w) X.A X.env X.xe)
    (h : IW X tg iter Γ fun ds Γ1 => ∃ J : Nat → List Dsc → Prop, J 0 Γ1 ∧ (∀ i d Γ2, ds[i]? = some d → J i Γ2 → GW X tg (.dat d) Γ2 fun Γ3 => SsW X rest Γ3 { D with nx := J (i + 1), ct := J (i + 1), bk := D.nx }) ∧ ∀ Γ2, J ds.length Γ2 → D.nx Γ2)
    (hs : ∀ x, foldedSetIterable iter X.env x = pure x := by intro _; rfl) : SW X (.For tg iter rest [] pos) Γ D := by
  intro A F H σ fm E k
  refine ⟨_, ps_for hp hc pi_top pg_top pss_top hs, ?_⟩
  refine h A F H σ fm _ fun I ds Γ1 F1 H1 hp s1 fm1 its => ?_
  obtain ⟨J, hJ0, hJs, hJd⟩ := hp
  obtain ⟨G, Y, w, hG, hY⟩ := its.ex
  refine ⟨fun i m σc Hc => m = ds.length - i ∧ i ≤ ds.length ∧ ∃ Fc Γ2, J i Γ2 ∧ Fm X.K A Fc Hc σc Γ2 ∧ Ex F1 Fc, ⟨ds.length, by rw [Nat.sub_zero], Nat.zero_le _, F1, Γ1, hJ0, fm1, Ex.refl _⟩, ?_⟩
  rintro i m σc Hc ⟨rfl, hi, Fc, Γ2, hJ, fmc, f1c⟩
  have hGc := hG Fc Hc f1c fmc.fh
  have fc := s1.f.trans f1c
  by_cases hlt : i < ds.length
  · refine .inr ⟨w.goes i Hc hlt hGc, fun σn Hn => ∃ Fc Γ2, J (i + 1) Γ2 ∧ Fm X.K A Fc Hn σn Γ2 ∧ Ex F1 Fc, fun σn Hn hn => ⟨ds.length - (i + 1), by omega, rfl, hlt, hn⟩, fun x Hy hy => ?_⟩
    obtain ⟨d, hd, yl⟩ := hY i Hc x Hy Fc hlt f1c fmc.fh (w.yields i Hc x Hy hlt hGc hy)
    have key : ∃ Fy, Fm X.K A Fy Hy σc Γ2 ∧ Ex Fc Fy ∧ Rep X.K Fy d x := by
      rcases yl with ⟨rfl, r⟩ | ⟨T, xs, es, rfl, nT, rfl, rfl, r⟩
      · exact ⟨Fc, fmc, Ex.refl _, r⟩
      · exact ⟨L2.upd Fc T (.tup xs), fmc.allocF nT, Ex.new (fmc.fnone nT), .tup upd_same (r.ex (Ex.new (fmc.fnone nT)))⟩
    obtain ⟨Fy, fmy, fy, rx⟩ := key
    refine hJs i d Γ2 hd hJ A Fy Hy σc x fmy rx _ fun Γ3 F3 H3 σ3 hb f3 fm3 => ?_
    have fall := (f1c.trans fy).trans f3
    exact hb A F3 H3 σ3 fm3 _ ⟨fun Γ' F' H' σ' p f fm' => ⟨F', Γ', p, fm', fall.trans f⟩, fun d Γ' v F' H' σ' p f fm' ok => k.rt d Γ' v F' H' σ' p ((s1.f.trans fall).trans f) fm' ok,
      fun Γ' F' H' σ' p f fm' => k.nx Γ' F' H' σ' p ((s1.f.trans fall).trans f) fm', fun Γ' F' H' σ' p f fm' => ⟨F', Γ', p, fm', fall.trans f⟩⟩
  · have e : i = ds.length := by omega
    subst e
    exact .inl ⟨w.stops Hc hGc, k.nx Γ2 Fc Hc σc (hJd Γ2 hJ) fc fmc⟩
/-- x = [..] on one line, x a local -/
theorem sw_setLc {y : Str} {py spos : Pos} {elt : Expr} {ifs : List Expr} {scope : Scope} (i : Nat) (sh : Shp) (own : List (Str × Nat)) (hc : X.calm = true) (hN : X.N.Nodup) (ok : BlkOk X.N X.env.scope scope own) (hsh : ∀ j ∈ sh.js, j ∈ own.map (·.2)) (hg : inBlk X scope fun Y => PG Y tg (sh.rd X.K))
    (hsw : swapsWith (.ListComp elt [⟨tg, iter, ifs, 0⟩] scope pos) (some (.Name y py)) spos.line X.env = pure true)
    (h : IW X tg iter Γ fun ds Γ1 => ds.length < 1000000 ∧ ∃ J : Nat → List VX.D → List Dsc → Prop, J 0 [] Γ1 ∧ (∀ i d acc Γ2, ds[i]? = some d → J i acc Γ2 → acc.length ≤ i → (∀ v ∈ own.map (·.2), canSet Γ2 v = true) ∧ ∃ es, sh.parts d = some es ∧
        inBlk X scope fun Y => TsW Y ifs (setsG (wipeG Γ2 (own.map (·.2))) sh.js es) fun k Γ4 => (k = true → inBlk X scope fun Y => EW Y elt Γ4 fun y Γ5 => ∃ d', datOf y = some d' ∧ J (i + 1) (acc ++ [d']) (mergeG (own.map (·.2)) Γ2 Γ5)) ∧ (k = false → J (i + 1) acc (mergeG (own.map (·.2)) Γ2 Γ4))) ∧
        ∀ acc Γ2, J ds.length acc Γ2 → canSet Γ2 i = true ∧ D.nx (Γ2.set i (.own acc)))
    (hi : X.N[i]? = some y := by rfl) (hyl : X.env.scope.names.lookup y = some .local := by rfl) (hs : ∀ x, foldedSetIterable iter X.env x = pure x := by intro _; rfl) : SW X (.Assign [.Name y py] (.ListComp elt [⟨tg, iter, ifs, 0⟩] scope pos) spos) Γ D := by
  intro A F H σ fm E k
  refine ⟨_, ps_setLc (own := own) (tt := BTs X scope ifs) (te := BE X scope elt) hc hN hi hyl hsw pi_top ok hg
    (fun s H C cl fp => ⟨fun pins s' σ H' Q I hq => pts_top.run pins s' σ H' Q I (hq s H C cl fp)⟩) (fun s H C cl fp => ⟨fun pins s' σ H' Q I hq => pe_top.run pins s' σ H' Q I (hq s H C cl fp)⟩) hs, ?_⟩
  refine lc_read (P := fun d Γ2 => ∃ acc, d = .new acc ∧ canSet Γ2 i = true ∧ D.nx (Γ2.set i (.own acc))) sh hsh (fun A F H σ fm R q => h A F H σ fm R fun J ds Γ' F' H' ⟨h1, JJ, h2, h3, h4⟩ => q J ds Γ' F' H' ⟨h1, JJ, h2, h3, fun acc Γ2 z => ⟨acc, rfl, h4 acc Γ2 z⟩⟩) A F H σ fm _ fun d Γ' v F' H' p s fm' ok => ?_
  obtain ⟨acc, rfl, c, hn⟩ := p
  exact k.nx _ F' H' _ hn s.f (setDv fm' ok rfl c)
end
end VX

/-! VX: what a def promises, its proof, its call. -/
namespace VX
open PySem PySem.Spec PyProof.Rows L2

inductive Ag where
  | dat (d : D) | io (ds : List D)
abbrev Spc := List Ag → (Dv → List (List D) → Prop) → Prop
inductive ArgsOk (K : PySem.W.Frag) (F H : Hp) : List Ag → List V → Prop
  | nil : ArgsOk K F H [] []
  | dat {d : D} {v : V} {as : List Ag} {vs : List V} : Rep K F d v → ArgsOk K F H as vs → ArgsOk K F H (.dat d :: as) (v :: vs)
  | io {ds : List D} {a : Addr} {as : List Ag} {vs : List V} : LstAt K F H a ds → ArgsOk K F H as vs → ArgsOk K F H (.io ds :: as) (.ref a :: vs)
def ioA : List Ag → List V → List Addr
  | .io _ :: as, .ref a :: vs => a :: ioA as vs
  | _ :: as, _ :: vs => ioA as vs
  | _, _ => []
def RtOk (K : PySem.W.Frag) (F' H' H : Hp) : Dv → V → Prop
  | .dat d, v => Rep K F' d v
  | .new ds, v => ∃ a, v = .ref a ∧ LstAt K F' H' a ds ∧ H a = none
  | .loc _, _ => False
abbrev OutsOk (K : PySem.W.Frag) (F' H' : Hp) : List Addr → List (List D) → Prop := Paired (LstAt K F' H')
def spW (K : PySem.W.Frag) (S : Spc) : Sp := fun vs H Q _ => ∃ F as P, Ex F H ∧ ArgsOk K F H as vs ∧ (ioA as vs).Nodup ∧ S as P ∧ ∀ r outs v F' H', P r outs → Ex F F' → Ex F' H' → (∀ b o, H b = some o → F b = none → F' b = none) →
  (∀ b o, H b = some o → b ∉ ioA as vs → H' b = some o) → (∀ b, H' b = none → H b = none) → RtOk K F' H' H r v → OutsOk K F' H' (ioA as vs) outs → Q v H'
section
variable {K : PySem.W.Frag} {F H : Hp}
theorem ArgsOk.len : ∀ {as : List Ag} {vs : List V}, ArgsOk K F H as vs → as.length = vs.length
  | _, _, .nil => rfl
  | _, _, .dat _ t => congrArg (· + 1) t.len
  | _, _, .io _ t => congrArg (· + 1) t.len
def agD : Ag → Dsc
  | .dat d => .dat d
  | .io ds => .io ds
/-- the slots at the entry -/
def G0 (N : List Str) (as : List Ag) : List Dsc := as.map agD ++ List.replicate (N.length - as.length) .un
/-- what the in-and-out lists hold at the end -/
def outsG (Γ : List Dsc) : Nat → List Ag → List (List D)
  | _, [] => []
  | i, .dat _ :: as => outsG Γ (i + 1) as
  | i, .io _ :: as => (match Γ[i]? with | some (.io ds) => ds | _ => []) :: outsG Γ (i + 1) as
def retOf (Γ : List Dsc) : Dv → Option Dv
  | .loc i => match Γ[i]? with
    | some (.own ds) => some (.new ds)
    | _ => none
  | d => some d
/-- the io address of a slot -/
def ioF : Nat → List Ag → List V → Nat → Option Addr
  | n, .io _ :: as, .ref a :: vs, i => if i = n then some a else ioF (n + 1) as vs i
  | n, _ :: as, _ :: vs, i => ioF (n + 1) as vs i
  | _, _, _, _ => none
theorem ioF_of : ∀ {as : List Ag} {vs : List V} {n i : Nat} {a : Addr}, ArgsOk K F H as vs → ioF n as vs i = some a → n ≤ i ∧ ∃ ds, as[i - n]? = some (.io ds) ∧ vs[i - n]? = some (.ref a) ∧ LstAt K F H a ds ∧ a ∈ ioA as vs
  | _, _, _, _, _, .nil, h => by unfold ioF at h; cases h
  | _, _, n, i, a, .dat r t, h => by
    unfold ioF at h
    obtain ⟨h1, ds, h2, h3, h4, h5⟩ := ioF_of t h
    refine ⟨by omega, ds, ?_, ?_, h4, by unfold ioA; exact h5⟩
    · rw [show i - n = (i - (n + 1)) + 1 by omega, List.getElem?_cons_succ]; exact h2
    · rw [show i - n = (i - (n + 1)) + 1 by omega, List.getElem?_cons_succ]; exact h3
  | _, _, n, i, a, .io l t, h => by
    unfold ioF at h
    split at h
    · rename_i e
      cases h
      subst e
      exact ⟨Nat.le_refl _, _, by rw [Nat.sub_self]; rfl, by rw [Nat.sub_self]; rfl, l, by unfold ioA; exact List.mem_cons_self⟩
    · obtain ⟨h1, ds, h2, h3, h4, h5⟩ := ioF_of t h
      refine ⟨by omega, ds, ?_, ?_, h4, by unfold ioA; exact List.mem_cons_of_mem _ h5⟩
      · rw [show i - n = (i - (n + 1)) + 1 by omega, List.getElem?_cons_succ]; exact h2
      · rw [show i - n = (i - (n + 1)) + 1 by omega, List.getElem?_cons_succ]; exact h3
theorem ioF_to : ∀ {as : List Ag} {vs : List V} {n i : Nat} {ds : List D}, ArgsOk K F H as vs → as[i]? = some (.io ds) → ∃ a, vs[i]? = some (.ref a) ∧ LstAt K F H a ds ∧ ioF n as vs (n + i) = some a
  | _, _, _, _, _, .nil, h => by simp at h
  | _, _, n, 0, ds, .dat _ _, h => by simp at h
  | _, _, n, 0, ds, .io l t, h => by
    simp at h
    subst h
    exact ⟨_, rfl, l, by unfold ioF; rw [if_pos (by omega)]⟩
  | _, _, n, i + 1, ds, .dat r t, h => by
    rw [List.getElem?_cons_succ] at h
    obtain ⟨a, h1, h2, h3⟩ := ioF_to (n := n + 1) t h
    exact ⟨a, by rw [List.getElem?_cons_succ]; exact h1, h2, by unfold ioF; rw [show n + (i + 1) = n + 1 + i by omega]; exact h3⟩
  | _, _, n, i + 1, ds, .io l t, h => by
    rw [List.getElem?_cons_succ] at h
    obtain ⟨a, h1, h2, h3⟩ := ioF_to (n := n + 1) t h
    exact ⟨a, by rw [List.getElem?_cons_succ]; exact h1, h2, by unfold ioF; rw [if_neg (by omega), show n + (i + 1) = n + 1 + i by omega]; exact h3⟩
theorem ioA_mem : ∀ {as : List Ag} {vs : List V} {n : Nat} {a : Addr}, ArgsOk K F H as vs → a ∈ ioA as vs → ∃ i, ioF n as vs i = some a
  | _, _, _, _, .nil, h => by unfold ioA at h; cases h
  | _, _, n, a, .dat r t, h => by
    unfold ioA at h
    obtain ⟨i, e⟩ := ioA_mem (n := n + 1) t h
    exact ⟨i, by unfold ioF; exact e⟩
  | _, _, n, a, .io l t, h => by
    unfold ioA at h
    rcases List.mem_cons.mp h with rfl | h
    · exact ⟨n, by unfold ioF; rw [if_pos rfl]⟩
    · obtain ⟨i, e⟩ := ioA_mem (n := n + 1) t h
      refine ⟨i, ?_⟩
      unfold ioF
      rw [if_neg (fun z => ?_)]
      · exact e
      · have := (ioF_of t e).1
        omega
theorem ioF_inj : ∀ {as : List Ag} {vs : List V} {n i j : Nat} {a : Addr}, ArgsOk K F H as vs → (ioA as vs).Nodup → ioF n as vs i = some a → ioF n as vs j = some a → i = j
  | _, _, _, _, _, _, .nil, _, h, _ => by unfold ioF at h; cases h
  | _, _, n, i, j, a, .dat r t, nd, h1, h2 => by
    unfold ioF at h1 h2
    unfold ioA at nd
    exact ioF_inj t nd h1 h2
  | _, _, n, i, j, a, .io l t, nd, h1, h2 => by
    unfold ioF at h1 h2
    unfold ioA at nd
    obtain ⟨n1, n2⟩ := List.nodup_cons.mp nd
    split at h1
    · rename_i e1
      split at h2
      · rename_i e2; omega
      · cases h1
        obtain ⟨_, _, _, _, _, m⟩ := ioF_of t h2
        exact absurd m n1
    · split at h2
      · cases h2
        obtain ⟨_, _, _, _, _, m⟩ := ioF_of t h1
        exact absurd m n1
      · exact ioF_inj t n2 h1 h2
theorem G0_get {N : List Str} {as : List Ag} {i : Nat} : (G0 N as)[i]? = if i < as.length then as[i]?.map agD else if i < N.length then some .un else none := by
  unfold G0
  by_cases h : i < as.length
  · rw [if_pos h, List.getElem?_append_left (by rw [List.length_map]; exact h), List.getElem?_map]
  · rw [if_neg h, List.getElem?_append_right (by rw [List.length_map]; omega), List.length_map, List.getElem?_replicate]
    by_cases h2 : i < N.length
    · rw [if_pos h2, if_pos (by omega)]
    · rw [if_neg h2, if_neg (by omega)]
theorem start_get {N : List Str} {vs : List V} {i : Nat} (h : i < vs.length) : (L2.start N vs)[i]? = (vs[i]?).map some := by
  unfold L2.start
  rw [List.getElem?_append_left (by rw [List.length_map]; exact h), List.getElem?_map]
theorem ArgsOk.datAt : ∀ {as : List Ag} {vs : List V} {i : Nat} {d : D}, ArgsOk K F H as vs → as[i]? = some (.dat d) → ∃ v, vs[i]? = some v ∧ Rep K F d v
  | _, _, _, _, .nil, h => by simp at h
  | _, _, 0, d, .dat r t, h => by simp at h; subst h; exact ⟨_, rfl, r⟩
  | _, _, 0, d, .io l t, h => by simp at h
  | _, _, i + 1, d, .dat r t, h => by
    rw [List.getElem?_cons_succ] at h
    obtain ⟨v, h1, h2⟩ := ArgsOk.datAt t h
    exact ⟨v, by rw [List.getElem?_cons_succ]; exact h1, h2⟩
  | _, _, i + 1, d, .io l t, h => by
    rw [List.getElem?_cons_succ] at h
    obtain ⟨v, h1, h2⟩ := ArgsOk.datAt t h
    exact ⟨v, by rw [List.getElem?_cons_succ]; exact h1, h2⟩
/-- the frame at a def's entry -/
theorem fm_start {N : List Str} {as : List Ag} {vs : List V} (f : Ex F H) (a : ArgsOk K F H as vs) (nd : (ioA as vs).Nodup) (hl : as.length ≤ N.length) : Fm K ⟨ioF 0 as vs, H, F⟩ F H (L2.start N vs) (G0 N as) := by
  have hvl := a.len
  have agEq : ∀ (i : Nat) (z : Dsc), (G0 N as)[i]? = some z → z = .un ∨ ∃ g, as[i]? = some g ∧ agD g = z ∧ i < vs.length := fun i z h => by
    rw [G0_get] at h
    split at h
    · rename_i hi
      obtain ⟨g, e1, e2⟩ := Option.map_eq_some_iff.mp h
      exact .inr ⟨g, e1, e2, by omega⟩
    · split at h
      · cases h; exact .inl rfl
      · cases h
  have ioAt : ∀ (i : Nat) (ds : List D), (G0 N as)[i]? = some (.io ds) → ∃ b, (L2.start N vs)[i]? = some (some (.ref b)) ∧ LstAt K F H b ds ∧ ioF 0 as vs i = some b := fun i ds h => by
    rcases agEq i _ h with h | ⟨g, e1, e2, hi⟩
    · cases h
    · cases g with
      | dat d => cases e2
      | io es =>
        cases e2
        obtain ⟨b, h1, h2, h3⟩ := ioF_to (n := 0) a e1
        rw [Nat.zero_add] at h3
        exact ⟨b, by rw [start_get hi, h1]; rfl, h2, h3⟩
  refine ⟨?_, f, Ex.refl _, fun b o h _ => h, fun _ _ _ h => h, fun i d h => ?_, fun i ds h => ?_, fun i ds h => ?_, fun i b h => ?_, fun i j b h1 h2 => ?_⟩
  · unfold L2.start G0
    rw [List.length_append, List.length_append, List.length_map, List.length_map, List.length_replicate, List.length_replicate, hvl]
  · rcases agEq i _ h with h | ⟨g, e1, e2, hi⟩
    · cases h
    · cases g with
      | io es => cases e2
      | dat e =>
        cases e2
        obtain ⟨v, h1, h2⟩ := a.datAt e1
        exact ⟨v, by rw [start_get hi, h1]; rfl, h2⟩
  · rcases agEq i _ h with h | ⟨g, e1, e2, hi⟩
    · cases h
    · cases g <;> cases e2
  · exact ioAt i ds h
  · obtain ⟨_, ds, h2, h3, h4, _⟩ := ioF_of a (show ioF 0 as vs i = some b from h)
    rw [Nat.sub_zero] at h2
    refine ⟨ds, ?_⟩
    have hi : i < as.length := (List.getElem?_eq_some_iff.mp h2).1
    rw [G0_get, if_pos hi, h2]
    rfl
  · obtain ⟨z1, ds1, z2 | z2⟩ := h1
    · rcases agEq i _ z2 with h | ⟨g, e1, e2, hi⟩
      · cases h
      · cases g <;> cases e2
    · obtain ⟨w1, ds2, w2 | w2⟩ := h2
      · rcases agEq j _ w2 with h | ⟨g, e1, e2, hi⟩
        · cases h
        · cases g <;> cases e2
      · obtain ⟨b1, g1, _, g3⟩ := ioAt i ds1 z2
        obtain ⟨b2, k1, _, k3⟩ := ioAt j ds2 w2
        rw [z1] at g1; cases g1
        rw [w1] at k1; cases k1
        exact ioF_inj a nd g3 k3
theorem outs_ok {A : Ac} {H' F' : Hp} {σ : L2.St} {Γ : List Dsc} (fm : Fm K A F' H' σ Γ) : ∀ {as : List Ag} {vs : List V} {n : Nat}, ArgsOk K F H as vs → (∀ i a, ioF n as vs i = some a → A.io i = some a) → OutsOk K F' H' (ioA as vs) (outsG Γ n as)
  | _, _, _, .nil, _ => by unfold ioA outsG; exact .nil
  | _, _, n, .dat r t, h => by
    unfold ioA outsG
    exact outs_ok fm t fun i a e => h i a (by unfold ioF; exact e)
  | _, _, n, .io l t, h => by
    rename_i ds a as vs
    unfold ioA outsG
    refine .cons ?_ (outs_ok fm t fun i b e => h i b ?_)
    · have e : A.io n = some a := h n a (by unfold ioF; rw [if_pos rfl])
      obtain ⟨es, g⟩ := fm.ia n a e
      obtain ⟨b, _, l', e2⟩ := fm.iio n es g
      rw [e] at e2; cases e2
      rw [g]
      exact l'
    · unfold ioF
      rw [if_neg (fun z => ?_)]
      · exact e
      · have := (ioF_of t e).1
        omega
end

/-! ### a def's proof -/
/-- the context of a def's body -/
abbrev bx (P : Program) (w : World) (K : PySem.W.Frag) (mg : Str → Option Value) (base : Heap) (N : List Str) (qual : Str) (st : Stmt) (f : Addr) (cdv : Value) (A : Around) (outer : List Env) (s : Shared) (H : Hp) (E : XK) : Cx :=
  (cxOf CX0 P w K mg base N qual (defScope st) f cdv A outer s H E).nox
def endsW (as : List Ag) (P : Dv → List (List D) → Prop) : PEnds where
  nx := fun Γ => P (.dat .non) (outsG Γ 0 as)
  rt := fun d Γ => ∃ r, retOf Γ d = some r ∧ P r (outsG Γ 0 as)
section
variable {P : Program} {w : World} {K : PySem.W.Frag} {mg : Str → Option Value} {base : Heap}
theorem fn_w {x qual : Str} {st : Stmt} {f : Addr} {fd : FuncData} {N ps : List Str} {k : Nat} {S : Spc} (F : Fun K x qual st f fd) (sc : FnScope N ps (defScope st)) (hlen : ∀ as P, S as P → as.length = ps.length)
    (hbody : ∀ (cdv : Value) (A : Around) (outer : List Env) (s : Shared) (H : Hp) (E : XK), Room k (bx P w K mg base N qual st f cdv A outer s H E).A → ∀ as R, S as R → SsW (bx P w K mg base N qual st f cdv A outer s H E) (defBody st) (G0 N as) (endsW as R)) :
    FnOk P w K mg base CX0 (k + 1) f fd ps (spW K S) := by
  have hN : ps.length ≤ N.length := by
    have e := congrArg List.length sc.pre
    rw [List.length_take] at e
    omega
  refine F.ok sc (fun vs H Q E h => ?_) fun cdv A outer s H vs Q E hr h => ?_
  · obtain ⟨F0, as, R, _, ha, _, hS, _⟩ := h
    rw [← ha.len]
    exact hlen as R hS
  · obtain ⟨F0, as, R, hf, ha, nd, hS, q⟩ := h
    refine ⟨_, pss_top, ?_⟩
    have hl : as.length ≤ N.length := by rw [hlen as R hS]; exact hN
    refine hbody cdv A outer s H E hr as R hS ⟨ioF 0 as vs, H, F0⟩ F0 H (L2.start N vs) (fm_start hf ha nd hl) _ ⟨fun Γ' F' H' σ' p f fm => ?_, fun d Γ' v F' H' σ' p f fm ok => ?_, fun _ _ _ _ p => p.elim, fun _ _ _ _ p => p.elim⟩
    · exact q _ _ .non F' H' p f fm.fh fm.nf (fun b o e n => fm.base b o e fun i z => n (ioF_of ha z).2.choose_spec.2.2.2) (fun b e => fm.h0 e) .non (outs_ok fm ha fun i a z => z)
    · obtain ⟨r, hr, p⟩ := p
      refine q r _ v F' H' p f fm.fh fm.nf (fun b o e n => fm.base b o e fun i z => n (ioF_of ha z).2.choose_spec.2.2.2) (fun b e => fm.h0 e) ?_ (outs_ok fm ha fun i a z => z)
      cases d with
      | dat d => cases hr; exact ok
      | new ds =>
        cases hr
        obtain ⟨a, e, l, h0, _⟩ := ok
        exact ⟨a, e, l, h0⟩
      | loc i =>
        obtain ⟨a, rfl, z1, ds, z2⟩ := ok
        have hr' : (match Γ'[i]? with | some (.own ds) => some (Dv.new ds) | _ => none) = some r := hr
        rcases z2 with z2 | z2
        · rw [z2] at hr'
          cases hr'
          obtain ⟨b, e1, l, h0⟩ := fm.own i ds z2
          rw [z1] at e1; cases e1
          exact ⟨a, rfl, l, h0⟩
        · rw [z2] at hr'
          cases hr'
theorem cal_w {x : Str} {f : Addr} {fd : FuncData} {ps : List Str} {k : Nat} {S : Spc} (F : FnOk P w K mg base CX0 k f fd ps (spW K S)) (hm : mg x = some (.ref f)) (kp : PySem.W.keepIn K (.ref f) = true) (b : Binds K fd ps []) : C8.Cal P w K mg base k x (spW K S) [] :=
  ⟨f, fd, ps, [], F, hm, kp, b, .nil⟩
end

/-! ### a call -/
def agsOf (Γ : List Dsc) : List Dv → Option (List Ag)
  | [] => some []
  | .dat d :: r => (agsOf Γ r).map (.dat d :: ·)
  | .loc i :: r => (lstOf Γ (.loc i)).bind fun ds => (agsOf Γ r).map (.io ds :: ·)
  | .new _ :: _ => none
def locsOf : List Dv → List Nat
  | [] => []
  | .loc i :: r => i :: locsOf r
  | _ :: r => locsOf r
def putOuts : List Dsc → List Nat → List (List D) → List Dsc
  | Γ, i :: is, ds :: os => putOuts (setLst Γ i ds) is os
  | Γ, _, _ => Γ
def rtD : Dv → Prop
  | .loc _ => False
  | _ => True
section
variable {K : PySem.W.Frag} {A : Ac} {Hs F H : Hp} {σ : L2.St} {Γ : List Dsc}
theorem args_of (fm : Fm K A F H σ Γ) : ∀ {xs : List Dv} {vs : List V} {as : List Ag}, VsOk K A Hs F H σ Γ xs vs → agsOf Γ xs = some as → ArgsOk K F H as vs ∧ Paired (fun i a => OwnAt σ Γ i a) (locsOf xs) (ioA as vs)
  | [], _, _, .nil, h => by cases h; exact ⟨.nil, by unfold locsOf ioA; exact .nil⟩
  | .dat d :: r, _, _, .cons o t, h => by
    obtain ⟨bs, e1, e2⟩ := Option.map_eq_some_iff.mp (show (agsOf Γ r).map (.dat d :: ·) = some _ from h)
    subst e2
    obtain ⟨h1, h2⟩ := args_of fm t e1
    exact ⟨.dat o h1, by unfold locsOf ioA; exact h2⟩
  | .loc i :: r, _, _, .cons o t, h => by
    obtain ⟨ds, e0, e3⟩ := Option.bind_eq_some_iff.mp (show (lstOf Γ (.loc i)).bind (fun ds => (agsOf Γ r).map (.io ds :: ·)) = some _ from h)
    obtain ⟨bs, e1, e2⟩ := Option.map_eq_some_iff.mp e3
    subst e2
    obtain ⟨h1, h2⟩ := args_of fm t e1
    obtain ⟨a, xs, rfl, oa, g, rr⟩ := VOk.loc o fm e0
    obtain ⟨es, l⟩ := fm.ownSome ⟨i, oa⟩
    exact ⟨.io ⟨⟨xs, g, rr⟩, l.nf⟩ h1, by unfold locsOf ioA; exact .cons oa h2⟩
  | .new _ :: _, _, _, _, h => by cases h
theorem paired_nodup (fm : Fm K A F H σ Γ) : ∀ {is : List Nat} {as : List Addr}, Paired (fun i a => OwnAt σ Γ i a) is as → is.Nodup → as.Nodup
  | _, _, .nil, _ => List.nodup_nil
  | i :: is, a :: as, .cons o t, h => by
    obtain ⟨h1, h2⟩ := List.nodup_cons.mp h
    refine List.nodup_cons.mpr ⟨fun m => h1 ?_, paired_nodup fm t h2⟩
    have : ∀ {is : List Nat} {as : List Addr}, Paired (fun i a => OwnAt σ Γ i a) is as → a ∈ as → i ∈ is := fun {is as} t => by
      induction t with
      | nil => intro m; cases m
      | cons o' _ ih =>
        intro m
        rcases List.mem_cons.mp m with rfl | m
        · rw [fm.dj _ _ _ o o']; exact List.mem_cons_self
        · exact List.mem_cons_of_mem _ (ih m)
    exact this t m
theorem putOuts_sim : ∀ {is : List Nat} {os : List (List D)} {Γ : List Dsc}, Sim Γ (putOuts Γ is os)
  | [], _, _ => by unfold putOuts; exact Sim.refl _
  | _ :: _, [], _ => by unfold putOuts; exact Sim.refl _
  | i :: is, ds :: os, Γ => by unfold putOuts; exact (setLst_sim Γ i ds).trans putOuts_sim
theorem putOuts_get {j : Nat} : ∀ {is : List Nat} {os : List (List D)} {Γ : List Dsc}, j ∉ is → (putOuts Γ is os)[j]? = Γ[j]?
  | [], _, _, _ => by unfold putOuts; rfl
  | _ :: _, [], _, _ => by unfold putOuts; rfl
  | i :: is, ds :: os, Γ, h => by
    unfold putOuts
    rw [putOuts_get fun z => h (List.mem_cons_of_mem _ z), setLst_get, if_neg fun z => h (by rw [z]; exact List.mem_cons_self)]
theorem putOuts_at {F' H' : Hp} : ∀ {is : List Nat} {as : List Addr} {os : List (List D)} {Γ1 : List Dsc}, Paired (fun i a => OwnAt σ Γ1 i a) is as → is.Nodup → OutsOk K F' H' as os → ∀ (i : Nat) (a : Addr) (ds : List D), i ∈ is → OwnAt σ Γ1 i a → ((putOuts Γ1 is os)[i]? = some (.own ds) ∨ (putOuts Γ1 is os)[i]? = some (.io ds)) → LstAt K F' H' a ds
  | [], _, _, _, _, _, _, i, _, _, m, _, _ => by cases m
  | k :: is, b :: as, o :: os, Γ1, .cons p t, nd, .cons l ls, i, a, ds, m, oa, h => by
    obtain ⟨n1, n2⟩ := List.nodup_cons.mp nd
    unfold putOuts at h
    have t' : Paired (fun i a => OwnAt σ (setLst Γ1 k o) i a) is as := by
      clear h m ls n1 n2 nd
      induction t with
      | nil => exact .nil
      | cons q _ ih => exact .cons ((setLst_sim Γ1 k o).ownAt.mpr q) ih
    by_cases e : k = i
    · subst e
      have ea : a = b := by
        have := p.1.symm.trans oa.1
        cases this
        rfl
      subst ea
      rw [putOuts_get n1, setLst_get, if_pos rfl] at h
      obtain ⟨_, es, g | g⟩ := p
      · rw [g] at h
        rcases h with h | h
        · cases h; exact l
        · cases h
      · rw [g] at h
        rcases h with h | h
        · cases h
        · cases h; exact l
    · have mi : i ∈ is := by
        rcases List.mem_cons.mp m with m | m
        · exact absurd m.symm e
        · exact m
      exact putOuts_at t' n2 ls i a ds mi ((setLst_sim Γ1 k o).ownAt.mpr oa) h
end
section
variable {X : Cx} {Γ : List Dsc} {Pd : PD} {e : Expr} {es : List Expr} {pos p : Pos} {x : Str}
theorem ew_call {k j : Nat} {S : Spc} (c : C8.Cal X.prog X.w X.K X.mg X.base k x (spW X.K S) []) (hr : Room j X.A) (hk : k ≤ j)
    (h : AW X (e :: es) Γ fun xs Γ1 => ∃ as, agsOf Γ1 xs = some as ∧ (locsOf xs).Nodup ∧ S as fun r outs => rtD r ∧ Pd r (putOuts Γ1 (locsOf xs) outs)) (hg : Gl X x := by rfl)
    (hdb : (x == ("__debug__" : Str)) = false := by decide) (he : starEach (e :: es) X.env = (false, eval e X.env) :: starEach es X.env := by rfl) (hpl : (backTo pos (starEach es X.env)).any (·.1) = false := by rfl) :
    EW X (.Call (.Name x p) (e :: es) [] pos) Γ Pd := by
  intro A F H σ fm Q q
  refine ⟨_, C8.pe_c c hr hk hg pa_top hdb he hpl, ?_⟩
  show AV X (e :: es) σ H fun vs H1 => spW X.K S (vs ++ []) H1 Q E0
  refine h.run fm Stp.refl fun xs Γ1 vs F1 H1 hx s1 _ fm1 ok => ?_
  obtain ⟨as, ha, nd, hS⟩ := hx
  rw [List.append_nil]
  obtain ⟨hA, hP⟩ := args_of fm1 ok ha
  refine ⟨F1, as, _, fm1.fh, hA, paired_nodup fm1 hP nd, hS, fun r outs v F' H' hp f fh n kk g rt os => ?_⟩
  have notIn : ∀ b, ¬ Own σ Γ1 b → b ∉ ioA as vs := fun b hb m => hb <| by
    clear hS hp os
    revert m
    have : ∀ {is : List Nat} {as : List Addr}, Paired (fun i a => OwnAt σ Γ1 i a) is as → b ∈ as → Own σ Γ1 b := fun {is as} t => by
      induction t with
      | nil => intro m; cases m
      | cons o' _ ih =>
        intro m
        rcases List.mem_cons.mp m with rfl | m
        · exact ⟨_, o'⟩
        · exact ih m
    exact this hP
  have sm := putOuts_sim (is := locsOf xs) (os := outs) (Γ := Γ1)
  have fm2 : Fm X.K A F' H' σ (putOuts Γ1 (locsOf xs) outs) := by
    refine fm1.upd f fh n (fun b o e' nb => kk b o e' (notIn b nb)) sm fun i a ds oa hh => ?_
    by_cases mi : i ∈ locsOf xs
    · exact putOuts_at hP nd os i a ds mi oa hh
    · rw [putOuts_get mi] at hh
      have l2 : LstAt X.K F1 H1 a ds := by
        rcases hh with hh | hh
        · obtain ⟨b, e1, l, _⟩ := fm1.own i ds hh
          rw [oa.1] at e1; cases e1; exact l
        · obtain ⟨b, e1, l, _⟩ := fm1.iio i ds hh
          rw [oa.1] at e1; cases e1; exact l
      obtain ⟨⟨ys, ey, ry⟩, z⟩ := l2
      have na : a ∉ ioA as vs := fun m => mi <| by
        clear hS hp os
        revert m
        have : ∀ {is : List Nat} {as : List Addr}, Paired (fun i a => OwnAt σ Γ1 i a) is as → a ∈ as → i ∈ is := fun {is as} t => by
          induction t with
          | nil => intro m; cases m
          | cons o' _ ih =>
            intro m
            rcases List.mem_cons.mp m with rfl | m
            · rw [fm1.dj _ _ _ oa o']; exact List.mem_cons_self
            · exact List.mem_cons_of_mem _ (ih m)
        exact this hP
      exact ⟨⟨ys, kk a _ ey na, ry.ex f⟩, n a _ ey z⟩
  have s2 : Stp σ Γ1 (putOuts Γ1 (locsOf xs) outs) F1 H1 F' H' := ⟨f, fun b o e' nb => kk b o e' (notIn b nb), n, g, sm⟩
  refine q r _ v F' H' hp.2 (s1.trans s2) fm2 ?_
  cases r with
  | dat d => exact rt
  | new ds =>
    obtain ⟨a, rfl, l, hz⟩ := rt
    refine ⟨a, rfl, l, fm1.h0 hz, fun z => ?_, s1.g a hz⟩
    obtain ⟨es', ⟨ys, ey, _⟩, _⟩ := fm1.ownSome (sm.own.mp z)
    rw [hz] at ey; cases ey
  | loc i => exact rt.elim
end
end VX

/-! VX: iterators that the hand layer lacks: enumerate(tuple), zip(list, tuple). -/
namespace PySem
open Sem (wp)
set_option maxHeartbeats 1000000 in
theorem vx_meets_enum {v : Value} {o : Obj} {H : Heap → Prop} (B : Begins v o H) :
    Meets (Builtin.«enumerate.__new__» ⟨[.type "enumerate", v], []⟩) (fun _ R s => H s.heap ∧
      R (.ok (.ret (.ref (s.heap.push o).objs.size))) { s with heap := (s.heap.push o).push { cls := .type "enumerate", data := .fields #[.none, .bool false, .ref s.heap.objs.size, rawInt 0, .none, .none] } }) :=
  .of_wp fun prog w A R s h => by
    obtain ⟨hp, g, d, tk, os⟩ := s; obtain ⟨h1, h⟩ := h
    have hsub := sub_enumerate
    have q1 : ∀ {A' : Around} {E : Value → Shared → Prop} {Q : Value → Shared → Prop}, Q (.ref hp.objs.size) ⟨hp.push o, g, d, tk, os⟩ → wpAny (model prog w) A' (pyIter v) Q E ⟨hp, g, d, tk, os⟩ :=
      fun q => B.iter prog w _ _ ⟨hp, g, d, tk, os⟩ _ h1 q
    wp_walk using q1
    refine wpAny_stack_any fun st => wpAny_pure ?_
    split
    · rename_i c _ _ _ _ _
      cases (c == Value.type "enumerate")
      · wp_walk using q1
        exact ⟨_, rfl, h⟩
      · wp_walk using q1
        exact ⟨_, rfl, h⟩
    · wp_walk using q1
      exact ⟨_, rfl, h⟩
section
variable {prog : Program} {w : World} {A : Around} {E : Value → Shared → Prop} {s : Shared}
theorem vx_call_enum {v : Value} {o : Obj} {H : Heap → Prop} {Q : Value → Shared → Prop} (B : Begins v o H) (h1 : H s.heap)
    (h : ∀ h', IsEnum h' (s.heap.objs.size + 1) s.heap.objs.size 0 .none → h'.get? s.heap.objs.size = some o → h'.objs.size = s.heap.objs.size + 2 →
      (∀ b o, s.heap.get? b = some o → h'.get? b = some o) → Q (.ref (s.heap.objs.size + 1)) { s with heap := h' }) :
    wpAny (model prog w) A (call (.type "enumerate") [v]) Q E s := by
  refine callType_new F.called_enumerate (by decide) (F.typeCall_enumerate_1 _) (F.newCall_enumerate_1 _) (fun obj => F.args_object_init_2 obj _) F.entry_enumerate_new
    (vx_meets_enum B) ⟨h1, ?_⟩
  have hz : (s.heap.push o).objs.size = s.heap.objs.size + 1 := Heap.size_push ..
  show _ ∧ _
  rw [hz]
  have he : IsEnum ((s.heap.push o).push { cls := .type "enumerate", data := .fields #[.none, .bool false, .ref s.heap.objs.size, rawInt 0, .none, .none] }) (s.heap.objs.size + 1) s.heap.objs.size 0 .none := by
    have := Heap.get?_push_size (s.heap.push o) (o := { cls := .type "enumerate", data := .fields #[.none, .bool false, .ref s.heap.objs.size, rawInt 0, .none, .none] }) rfl
    rw [hz] at this; exact this
  refine ⟨⟨_, he, rfl⟩, h _ he (Heap.get?_push_of_some _ (Heap.get?_push_size _ B.free)) (by rw [Heap.size_push, hz]) fun b o x => Heap.get?_push_of_some _ (Heap.get?_push_of_some _ x)⟩
end
end PySem
namespace VX
open PySem PySem.Spec PyProof.Rows L2
/-! ### enumerate(tuple) -/
def IteT (K : PySem.W.Frag) (a : Addr) : It :=
  ⟨fun i H => ∃ (xs : List V) (x : V), SqT K H a xs ∧ xs[i]? = some x, fun i H v H' => ∃ T x, v = .ref T ∧ H T = none ∧ H' = upd H T (.tup [.int (i : Nat), x]) ∧ ∀ xs, SqT K H a xs → xs[i]? = some x, fun i H => ∃ xs : List V, SqT K H a xs ∧ xs.length = i⟩
theorem turn_enumT {P : Program} {w : World} {K : PySem.W.Frag} {elts : List Expr} {kk : Nat} {tpos : Pos} (a e it : Addr) (hae : a ≠ e) (hai : a ≠ it) :
    Turn P w K (.Tuple elts kk tpos) (IteT K a) [e, it] e (fun i h => (∃ old, IsEnum h e it ((i : Nat) : Int) old) ∧ h.IsTupleIter it a i ∧ e ≠ it) where
  mem := by simp
  obj := fun i h st b hb => by
    obtain ⟨⟨old, he⟩, ⟨o, ho, hc, hd⟩, _⟩ := st
    have e' : b = e ∨ b = it := by simpa using hb
    rcases e' with z | z
    · rw [z]; exact ⟨_, he, fun v q => nomatch q⟩
    · rw [z]; exact ⟨o, ho, fun v q => by rw [hd] at q; cases q⟩
  keep := fun i h h' st k => let ⟨⟨old, he⟩, hi, hne⟩ := st; ⟨⟨old, k e (by simp) _ he⟩, hi.at fun o q => k it (by simp) o q, hne⟩
  item := by
    intro X hP hw hK hc i pins s σ H E I hf st hg
    subst hP hw hK
    obtain ⟨⟨old, he⟩, hit, hne⟩ := st
    obtain ⟨xs, x, hq, hx⟩ := hg
    obtain ⟨its, rv, p, hz⟩ := I.tuple hq
    obtain ⟨u, hu, ru⟩ := rv.get hx
    have hel : e < s.heap.objs.size := Heap.lt_size he
    have hil : it < s.heap.objs.size := by obtain ⟨_, q, _⟩ := hit; exact Heap.lt_size q
    have hlt : i < its.toArray.size := by
      have := (List.getElem?_eq_some_iff.mp hu).1
      simpa using this
    refine wpAny_pyNext_enum_itemC (Draws.tuple (prog := X.prog) (w := X.w) (A := X.A.in1) (I.ok.hd hc) it a hai its.toArray) he ⟨hit, p⟩ hlt hne (by simp [hne, Ne.symm hae]) fun x' h' tk hx' ho hit' hT hsz hk => ?_
    have ex : x' = u := by
      have h1 : its.toArray[i]? = some x' := hx'
      have h2 : its.toArray[i]? = some u := by simpa using hu
      exact Option.some.inj (h1.symm.trans h2)
    subst ex
    refine ⟨_, rfl, wpAny_letOwnedTupleGo_enum (s := { s with heap := h', toks := tk + 1 }) ho fun h'' he' sb => ?_⟩
    have hT2 : h''.get? s.heap.objs.size = some { cls := .type "tuple", data := .seq #[.int i tk, x'] } := (sb.2 _ (Nat.ne_of_gt hel)).trans hT
    have new : ObjOk X.prog X.w (upd H s.heap.objs.size (.tup [.int (i : Nat), x])) h'' s.heap.objs.size (.tup [.int (i : Nat), x]) :=
      ⟨by show 2 ≤ sizeLine; decide, [.int i tk, x'], .cons ⟨_, rfl⟩ (.cons ru .nil), ⟨_, hT2, rfl, _, rfl⟩⟩
    have I1 : Inv X pins σ (upd H s.heap.objs.size (.tup [.int (i : Nat), x])) { s with heap := h'', toks := tk + 1 } :=
      I.turnedNew (ch := [e, it]) (fun b ob hb q => (sb.2 b (fun z => hb (by simp [z]))).trans (hk b ob (fun z => hb (by simp [z])) (fun z => hb (by simp [z])) q)) hf (Nat.le_refl _) new
    refine ⟨.ref s.heap.objs.size, _, I1, rfl, ⟨_, x, rfl, I.hok.fresh (Nat.le_refl _), rfl, fun ys hy => by rw [I.tuple_inj hy hq]; exact hx⟩, ⟨⟨x', ?_⟩, hit'.1.at fun o q => (sb.2 it (Ne.symm hne)).trans q, hne⟩, fun b hb => ?_⟩
    · have e1 : ((i + 1 : Nat) : Int) = (i : Int) + 1 := by omega
      rw [e1]; exact he'
    · have hb' : b < s.heap.objs.size := by
        have e' : b = e ∨ b = it := by simpa using hb
        rcases e' with z | z
        · rw [z]; exact hel
        · rw [z]; exact hil
      rw [upd_ne (Nat.ne_of_lt hb')]
      exact (hf b hb).1
  done := by
    intro X hP hw hK hc i pins s σ H E I hf st hg
    subst hP hw hK
    obtain ⟨⟨old, he⟩, hit, hne⟩ := st
    obtain ⟨xs, hq, hx⟩ := hg
    obtain ⟨its, rv, p, hz⟩ := I.tuple hq
    obtain ⟨f0, f1, f2, f3, f4, f5⟩ := hf it (by simp)
    have hl := rv.length
    have hi : i = its.toArray.size := by simp; omega
    subst hi
    exact wpAny_pyNext_enum_endD (Draws.tuple (prog := X.prog) (w := X.w) (A := X.A.in1) (I.ok.hd hc) it a hai its.toArray) he ⟨hit, p⟩ fun h' eb => ⟨rfl, I.turned (t' := s.toks) (fun b o hb q => eb b o hb q) f0 f1 f3 f4 f5⟩
  self := fun A i s Q E st h => let ⟨⟨_, he⟩, _⟩ := st; wpAny_pyIter_enum he h
def iEnumT (K : PySem.W.Frag) (ta : TA) : TI := fun σ H R => ta σ H fun vs H1 => ∃ a xs, vs = [.ref a] ∧ SqT K H1 a xs ∧ R (IteT K a) H1
theorem pi_enumT {X : Cx} {e : Expr} {ta : TA} {p pos tpos : Pos} {elts : List Expr} {kk : Nat} (hg : Gl X "enumerate") (hm : X.mg "enumerate" = none) (ha : PA X [e] ta) (hs : starEach [e] X.env = [(false, eval e X.env)] := by rfl) :
    PI X (.Tuple elts kk tpos) (.Call (.Name "enumerate" p) [e] [] pos) (iEnumT X.K ta) := by
  refine ⟨fun pins s σ H R I h => ?_⟩
  refine Call_ (ld_blt I hg hm boot_enumerate (PyProof.Rows.callWith_type1 (thn (ha.run pos pins s σ H _ I h) fun us s1 ⟨vs, H1, I1, r1, q1⟩ => ?_) hs rfl))
  obtain ⟨a, xs, ex, hq, q⟩ := q1
  subst ex
  cases r1 with
  | cons r rr =>
    cases rr
    cases r
    obtain ⟨its, rv, p', hz⟩ := I1.tuple hq
    have hal : a < s1.heap.objs.size := by obtain ⟨o, ho, _⟩ := id p'; exact Heap.lt_size ho
    refine vx_call_enum (begins_tuple a its.toArray) p' fun h' he hit hsz hk => wpAny_pyIter_enum he ?_
    have I2 : Inv X pins σ H1 { s1 with heap := h' } := I1.kept (t' := s1.toks) hk
    refine ⟨s1.heap.objs.size + 1, [s1.heap.objs.size + 1, s1.heap.objs.size], _, _, H1, rfl, I2, turn_enumT a (s1.heap.objs.size + 1) s1.heap.objs.size (Nat.ne_of_lt (Nat.lt_succ_of_lt hal)) (Nat.ne_of_lt hal), ⟨⟨.none, he⟩, ⟨_, hit, rfl, rfl⟩, Nat.succ_ne_self _⟩, fun b hb => ?_, q⟩
    have e' : b = s1.heap.objs.size + 1 ∨ b = s1.heap.objs.size := by simpa using hb
    have hle : s1.heap.objs.size ≤ b := by
      rcases e' with z | z
      · rw [z]; exact Nat.le_add_right _ _
      · rw [z]; exact Nat.le_refl _
    exact I1.fpOk hle (I1.hok.fresh hle)
theorem walk_enumT {K : PySem.W.Frag} {a : Addr} {xs : List V} : Walk (IteT K a) xs.length (fun H => SqT K H a xs) (YPair (fun i => some (.int (i : Nat))) (fun i => xs[i]?)) := by
  refine ⟨fun i _ hi q => ⟨xs, xs[i], q, by simp [hi]⟩, fun _ q => ⟨xs, q, rfl⟩, fun i H v H' _ q y => ?_⟩
  obtain ⟨T, x, h1, h2, h3, h4⟩ := y
  exact ⟨T, .int (i : Nat), x, h1, h2, h3, rfl, h4 xs q⟩
section
variable {X : Cx} {Γ : List Dsc} {a b e tg iter : Expr} {pos p pos' tpos : Pos} {Q : List D → List Dsc → Prop} {elts : List Expr} {kk : Nat}
theorem iw_enumT (hm : X.mg "enumerate" = none) (h : EW X e Γ fun x Γ1 => ∃ ds, x = .dat (.tup ds) ∧ Q (enumD ds) Γ1) (hg : Gl X "enumerate" := by rfl)
    (hs : starEach [e] X.env = [(false, eval e X.env)] := by rfl) : IW X (.Tuple elts kk tpos) (.Call (.Name "enumerate" p) [e] [] pos) Γ Q := by
  intro A F H σ fm R q
  refine ⟨_, pi_enumT hg hm (pa_cons pe_top pa_nil hs) hs, ?_⟩
  show EV X e σ H fun x H1 => ∃ a xs, [x] = [.ref a] ∧ SqT X.K H1 a xs ∧ R (IteT X.K a) H1
  refine h.run fm Stp.refl fun x Γ1 v F1 H1 hx s1 _ fm1 ok => ?_
  obtain ⟨ds, rfl, hp⟩ := hx
  cases ok with
  | tup e r =>
  refine ⟨_, _, rfl, .inl (.inl (fm1.fh _ _ e)), q _ _ Γ1 F1 H1 hp s1 fm1 ⟨⟨_, _, (enumD_len.trans r.len) ▸ walk_enumT, fun F2 H2 f1 f2 => .inl (.inl ((f1.trans f2) _ _ e)), fun i H2 x H3 F2 hi f1 f2 y => ?_⟩⟩⟩
  obtain ⟨T, x1, x2, h1, h2, h3, h4, h5⟩ := y
  cases h4
  obtain ⟨d, hd, rd⟩ := r.getV h5
  exact ⟨_, enumD_get hd, .inr ⟨T, _, _, h1, h2, h3, rfl, .cons (.int _) (.cons (rd.ex f1) .nil)⟩⟩
end
end VX

/-! VX: zip(list, tuple). -/
namespace VX
open PySem PySem.Spec PyProof.Rows L2
def ItzM (K : PySem.W.Frag) (a b : Addr) : It :=
  ⟨fun i H => ∃ (xs ys : List V) (x y : V), SqL K H a xs ∧ SqT K H b ys ∧ xs[i]? = some x ∧ ys[i]? = some y,
    fun i H v H' => ∃ T x y, v = .ref T ∧ H T = none ∧ H' = upd H T (.tup [x, y]) ∧ (∀ xs, SqL K H a xs → xs[i]? = some x) ∧ ∀ ys, SqT K H b ys → ys[i]? = some y,
    fun i H => ∃ xs ys : List V, SqL K H a xs ∧ SqT K H b ys ∧ i ≤ xs.length ∧ i ≤ ys.length ∧ (i = xs.length ∨ i = ys.length)⟩
theorem turn_zipM {P : Program} {w : World} {K : PySem.W.Frag} {elts : List Expr} {kk : Nat} {tpos : Pos} {a b z TI TO i1 i2 : Addr} (S : ZipSep2 z TI TO i1 i2 [i1, a] [i2, b]) (ha : a ≠ i1) (hb2 : b ≠ i2) :
    Turn P w K (.Tuple elts kk tpos) (ItzM K a b) [z, TI, TO, i1, i2] z (fun i h => IsZip h z TI TO .none ∧ IsTupOf2 h TI (.ref i1) (.ref i2) ∧ (∃ x y, IsTupOf2 h TO x y) ∧ h.IsListIter i1 a i ∧ h.IsTupleIter i2 b i) where
  mem := by simp
  obj := fun i h st c hc => by
    obtain ⟨hz, hTI, ⟨x, y, hTO⟩, ⟨o1, e1, _, d1⟩, ⟨o2, e2, _, d2⟩⟩ := st
    have e' : c = z ∨ c = TI ∨ c = TO ∨ c = i1 ∨ c = i2 := by simpa using hc
    rcases e' with q | q | q | q | q
    · rw [q]; exact ⟨_, hz, fun v q => nomatch q⟩
    · rw [q]; exact ⟨_, hTI, fun v q => nomatch q⟩
    · rw [q]; exact ⟨_, hTO, fun v q => nomatch q⟩
    · rw [q]; exact ⟨o1, e1, fun v q => by rw [d1] at q; cases q⟩
    · rw [q]; exact ⟨o2, e2, fun v q => by rw [d2] at q; cases q⟩
  keep := fun i h h' st k => by
    obtain ⟨hz, hTI, ⟨x, y, hTO⟩, h1, h2⟩ := st
    exact ⟨k z (by simp) _ hz, k TI (by simp) _ hTI, ⟨x, y, k TO (by simp) _ hTO⟩, h1.at fun o q => k i1 (by simp) o q, h2.at fun o q => k i2 (by simp) o q⟩
  item := by
    intro X hP hw hK hc i pins s σ H E I hf st hg
    subst hP hw hK
    obtain ⟨hz, hTI, ⟨x0, y0, hTO⟩, h1, h2⟩ := st
    obtain ⟨xs, ys, x, y, hqx, hqy, hx, hy⟩ := hg
    obtain ⟨its, rv, p, _⟩ := I.list hqx
    obtain ⟨its2, rv2, p2, _⟩ := I.tuple hqy
    obtain ⟨u, hu, ru⟩ := rv.get hx
    obtain ⟨u2, hu2, ru2⟩ := rv2.get hy
    have hzl : z < s.heap.objs.size := Heap.lt_size hz
    have l1 : i < its.toArray.size := by simpa using (List.getElem?_eq_some_iff.mp hu).1
    have l2 : i < its2.toArray.size := by simpa using (List.getElem?_eq_some_iff.mp hu2).1
    refine wpAny_pyNext_zipD2_item S (Draws.list (prog := X.prog) (w := X.w) (A := X.A.in1) (I.ok.hd hc) i1 a ha its.toArray) (Draws.tuple (prog := X.prog) (w := X.w) (A := X.A.in1) (I.ok.hd hc) i2 b hb2 its2.toArray) hz hTI hTO ⟨h1, p.isList⟩ ⟨h2, p2⟩ l1 l2 fun x' y' h' tk hx' hy' z' TO' h1' h2' hT hsz hk => ?_
    have ex : x' = u := by
      have a1 : its.toArray[i]? = some x' := hx'
      have a2 : its.toArray[i]? = some u := by simpa using hu
      exact Option.some.inj (a1.symm.trans a2)
    have ey : y' = u2 := by
      have a1 : its2.toArray[i]? = some y' := hy'
      have a2 : its2.toArray[i]? = some u2 := by simpa using hu2
      exact Option.some.inj (a1.symm.trans a2)
    subst ex ey
    refine ⟨_, rfl, wpAny_letOwnedTupleGo_zip (s := { s with heap := h', toks := tk }) z' fun h'' z'' sb => ?_⟩
    have hT2 : h''.get? s.heap.objs.size = some { cls := .type "tuple", data := .seq #[x', y'] } := (sb.2 _ (Nat.ne_of_gt hzl)).trans hT
    have new : ObjOk X.prog X.w (upd H s.heap.objs.size (.tup [x, y])) h'' s.heap.objs.size (.tup [x, y]) :=
      ⟨by show 2 ≤ sizeLine; decide, [x', y'], .cons ru (.cons ru2 .nil), ⟨_, hT2, rfl, _, rfl⟩⟩
    have I1 : Inv X pins σ (upd H s.heap.objs.size (.tup [x, y])) { s with heap := h'', toks := tk } :=
      I.turnedNew (t' := tk) (ch := [z, TI, TO, i1, i2]) (fun c o hb q => (sb.2 c (fun q' => hb (by simp [q']))).trans (hk c o (fun q' => hb (by simp [q'])) (fun q' => hb (by simp [q'])) (fun q' => hb (by simp [q'])) (fun q' => hb (by simp [q'])) q)) hf (Nat.le_refl _) new
    have i1z : i1 ≠ z := fun e => S.zf1 (by rw [← e]; simp)
    have i2z : i2 ≠ z := fun e => S.zf2 (by rw [← e]; simp)
    refine ⟨.ref s.heap.objs.size, _, I1, rfl, ⟨_, x, y, rfl, I.hok.fresh (Nat.le_refl _), rfl, fun l hl => by rw [I.list_inj hl hqx]; exact hx, fun l hl => by rw [I.tuple_inj hl hqy]; exact hy⟩, ⟨z'', ?_, ⟨x', y', ?_⟩, ?_, ?_⟩, fun c hcm => ?_⟩
    · exact (sb.2 _ S.TIz).trans (hk _ _ S.TIz S.TITO S.TIi1 S.TIi2 hTI)
    · exact (sb.2 _ S.TOz).trans TO'
    · exact h1'.1.at fun o q => (sb.2 _ i1z).trans q
    · exact h2'.1.at fun o q => (sb.2 _ i2z).trans q
    · have hlt : c < s.heap.objs.size := by
        have e' : c = z ∨ c = TI ∨ c = TO ∨ c = i1 ∨ c = i2 := by simpa using hcm
        rcases e' with q | q | q | q | q
        · rw [q]; exact hzl
        · rw [q]; exact Heap.lt_size hTI
        · rw [q]; exact Heap.lt_size hTO
        · rw [q]; obtain ⟨_, e1, _⟩ := h1; exact Heap.lt_size e1
        · rw [q]; obtain ⟨_, e2, _⟩ := h2; exact Heap.lt_size e2
      rw [upd_ne (Nat.ne_of_lt hlt)]
      exact (hf c hcm).1
  done := by
    intro X hP hw hK hc i pins s σ H E I hf st hg
    subst hP hw hK
    obtain ⟨hz, hTI, ⟨x0, y0, hTO⟩, h1, h2⟩ := st
    obtain ⟨xs, ys, hqx, hqy, q1, q2, hend⟩ := hg
    obtain ⟨its, rv, p, _⟩ := I.list hqx
    obtain ⟨its2, rv2, p2, _⟩ := I.tuple hqy
    have l1 := rv.length
    have l2 := rv2.length
    exact wpAny_pyNext_zipD2_end S (Draws.list (prog := X.prog) (w := X.w) (A := X.A.in1) (I.ok.hd hc) i1 a ha its.toArray) (Draws.tuple (prog := X.prog) (w := X.w) (A := X.A.in1) (I.ok.hd hc) i2 b hb2 its2.toArray) hz hTI hTO ⟨h1, p.isList⟩ ⟨h2, p2⟩ (by simp; omega) (by simp; omega) (by simp; omega)
      fun h' tk hk => ⟨rfl, I.turnedL (t' := tk) (ch := [z, TI, TO, i1, i2]) (fun c o hb q => hk c o (fun q' => hb (by simp [q'])) (fun q' => hb (by simp [q'])) (fun q' => hb (by simp [q'])) (fun q' => hb (by simp [q'])) q) hf⟩
  self := fun A i s Q E st h => wpAny_pyIter_zip st.1 h
def iZipM (K : PySem.W.Frag) (ta : TA) : TI := fun σ H R => ta σ H fun vs H1 => ∃ a b xs ys, vs = [.ref a, .ref b] ∧ SqL K H1 a xs ∧ SqT K H1 b ys ∧ R (ItzM K a b) H1
theorem pi_zipM {X : Cx} {e e2 : Expr} {ta : TA} {p pos tpos : Pos} {elts : List Expr} {kk : Nat} (hg : Gl X "zip") (hm : X.mg "zip" = none) (ha : PA X [e, e2] ta)
    (hs : starEach [e, e2] X.env = (false, eval e X.env) :: starEach [e2] X.env := by rfl) (hpl : (backTo pos (starEach [e2] X.env)).any (·.1) = false := by rfl) :
    PI X (.Tuple elts kk tpos) (.Call (.Name "zip" p) [e, e2] [] pos) (iZipM X.K ta) := by
  refine ⟨fun pins s σ H R I h => ?_⟩
  refine Call_ (ld_blt I hg hm PyProof.Rows.boot_zip (PyProof.Rows.callWith_type1 (thn (ha.run pos pins s σ H _ I h) fun us s1 ⟨vs, H1, I1, r1, q1⟩ => ?_) hs hpl))
  obtain ⟨a, b, xs, ys, ex, hqx, hqy, q⟩ := q1
  subst ex
  cases r1 with
  | cons r rr =>
    cases rr with
    | cons r' rr =>
      cases rr
      cases r
      cases r'
      have fresh5 : ∀ c, c ∈ [s1.heap.objs.size + 4, s1.heap.objs.size + 2, s1.heap.objs.size + 3, s1.heap.objs.size, s1.heap.objs.size + 1] → FpOk X pins H1 c := fun c hcm => by
        have e' : c = s1.heap.objs.size + 4 ∨ c = s1.heap.objs.size + 2 ∨ c = s1.heap.objs.size + 3 ∨ c = s1.heap.objs.size ∨ c = s1.heap.objs.size + 1 := by simpa using hcm
        have hle : s1.heap.objs.size ≤ c := by
          rcases e' with z | z | z | z | z
          · rw [z]; exact Nat.le_add_right _ _
          · rw [z]; exact Nat.le_add_right _ _
          · rw [z]; exact Nat.le_add_right _ _
          · rw [z]; exact Nat.le_refl _
          · rw [z]; exact Nat.le_add_right _ _
        exact I1.fpOk hle (I1.hok.fresh hle)
      obtain ⟨its, rv, p1, _⟩ := I1.list hqx
      obtain ⟨its2, rv2, p2, _⟩ := I1.tuple hqy
      obtain ⟨o2, ho2, _⟩ := id p2
      have la : a < s1.heap.objs.size := p1.lt
      have lb : b < s1.heap.objs.size := Heap.lt_size ho2
      refine zip_begins2 (begins_list a its.toArray) (begins_tuple b its2.toArray) p1.isList p2 fun h' hz hTI hTO h1 h2 hsz hk => wpAny_pyIter_zip hz ?_
      have I2 : Inv X pins σ H1 { s1 with heap := h' } := I1.kept (t' := s1.toks) hk
      exact ⟨s1.heap.objs.size + 4, [s1.heap.objs.size + 4, s1.heap.objs.size + 2, s1.heap.objs.size + 3, s1.heap.objs.size, s1.heap.objs.size + 1], _, _, H1, rfl, I2, turn_zipM (zip_sep2 (N := s1.heap.objs.size) (fp1 := [a]) (fp2 := [b]) (by simpa using la) (by simpa using lb)) (Nat.ne_of_lt la) (Nat.ne_of_lt (Nat.lt_succ_of_lt lb)), ⟨hz, hTI, ⟨_, _, hTO⟩, ⟨_, h1, rfl, rfl⟩, ⟨_, h2, rfl, rfl⟩⟩, fresh5, q⟩
theorem walk_zipM {K : PySem.W.Frag} {a b : Addr} {xs ys : List V} : Walk (ItzM K a b) (min xs.length ys.length) (fun H => SqL K H a xs ∧ SqT K H b ys) (YPair (fun i => xs[i]?) (fun i => ys[i]?)) := by
  refine ⟨fun i _ hi q => ?_, fun _ q => ⟨xs, ys, q.1, q.2, by omega, by omega, by omega⟩, fun i H v H' _ q y => ?_⟩
  · have h1 : i < xs.length := by omega
    have h2 : i < ys.length := by omega
    exact ⟨xs, ys, xs[i], ys[i], q.1, q.2, by simp [h1], by simp [h2]⟩
  · obtain ⟨T, x, z, h1, h2, h3, h4, h5⟩ := y
    exact ⟨T, x, z, h1, h2, h3, h4 xs q.1, h5 ys q.2⟩
section
variable {X : Cx} {Γ : List Dsc} {a b e tg iter : Expr} {pos p pos' tpos : Pos} {Q : List D → List Dsc → Prop} {elts : List Expr} {kk : Nat}
theorem iw_zipM (hm : X.mg "zip" = none) (h : EW X a Γ fun x Γ1 => EW X b Γ1 fun y Γ2 => ∃ xs ys, x = .dat (.lst xs) ∧ y = .dat (.tup ys) ∧ Q (zipD xs ys) Γ2) (hg : Gl X "zip" := by rfl)
    (hs : starEach [a, b] X.env = (false, eval a X.env) :: starEach [b] X.env := by rfl) (hs2 : starEach [b] X.env = (false, eval b X.env) :: starEach [] X.env := by rfl) (hpl : (backTo pos (starEach [b] X.env)).any (·.1) = false := by rfl) :
    IW X (.Tuple elts kk tpos) (.Call (.Name "zip" p) [a, b] [] pos) Γ Q := by
  intro A F H σ fm R q
  refine ⟨_, pi_zipM hg hm (pa_cons pe_top (pa_cons pe_top pa_nil hs2) hs) hs hpl, ?_⟩
  show EV X a σ H fun x H1 => EV X b σ H1 fun y H2 => ∃ a b xs ys, [x, y] = [.ref a, .ref b] ∧ SqL X.K H2 a xs ∧ SqT X.K H2 b ys ∧ R (ItzM X.K a b) H2
  refine h.run fm Stp.refl fun x Γ1 v F1 H1 hx s1 _ fm1 ok => ?_
  refine hx.run fm1 s1 fun y Γ2 v2 F2 H2 hy s2 s2' fm2 ok2 => ?_
  obtain ⟨xs, ys, rfl, rfl, hp⟩ := hy
  have ok' := ok.stp s2'
  cases ok' with
  | lst e r =>
  cases ok2 with
  | tup e2 r2 =>
  refine ⟨_, _, _, _, rfl, .inl (.inl (fm2.fh _ _ e)), .inl (.inl (fm2.fh _ _ e2)), q _ _ Γ2 F2 H2 hp s2 fm2 ?_⟩
  have hl : (zipD xs ys).length = _ := zipD_len
  exact its_zip walk_zipM (fun F2 H2 f1 f2 => ⟨.inl (.inl ((f1.trans f2) _ _ e)), .inl (.inl ((f1.trans f2) _ _ e2))⟩) r r2
end
end VX

/-! VX: for x in zip(*rows), rows a list of two tuples: the tuples that are given out are kept. -/
namespace PySem
open Sem (wp)
open PySem.W (StarOf ks_lone)
abbrev IsZipG (h : Heap) (z TI TO : Addr) (f0 : Value) (b : Bool) : Prop :=
  h.get? z = some { cls := .type "zip", dict := none, data := .fields #[f0, .bool b, .bool false, .ref TI, .ref TO], slots := #[] }
def ZOk (f0 : Value) : Prop := f0 = .none ∨ ∃ T : Addr, f0 = rawInt T
section
variable {prog : Program} {w : World} {A : Around} {E : Value → Shared → Prop} {s : Shared} {z TI TO i1 i2 : Addr} {fp1 fp2 : List Addr} {n1 n2 i : Nat} {P1 P2 : Nat → Value → Prop} {St1 St2 : Nat → Heap → Prop} {a1 a2 : Value} {f0 : Value} {b : Bool}
theorem zg_free {Q : Bool → Shared → Prop} (hz : IsZipG s.heap z TI TO f0 b) (ok : ZOk f0)
    (h : ∀ r h' b', IsZipG h' z TI TO f0 b' → Heap.SameBut z s.heap h' → Q r { s with heap := h' }) : wpAny (model prog w) A (Builtin.SmallTypes.ownedTupleIsFree (.ref z)) Q E s := by
  unfold Builtin.SmallTypes.ownedTupleIsFree
  rcases ok with rfl | ⟨T, rfl⟩
  · exact wpAny_bind (wpAny_field hz rfl (x := .none) rfl (wpAny_pure (h true s.heap b hz (Heap.SameBut.refl _ _))))
  · refine wpAny_bind (wpAny_field hz rfl (x := rawInt T) rfl ?_)
    show wpAny _ _ (loadIfAlive ((T : Int).toNat) >>= _) _ _ _
    rw [Int.toNat_natCast]
    have al : ∀ {Q' : Option Obj → Shared → Prop}, Q' (s.heap.get? T) s → wpAny (model prog w) A (loadIfAlive T) Q' E s := fun h' => fun _ _ _ => h'
    refine wpAny_bind (al ?_)
    cases s.heap.get? T with
    | none =>
      simp only [Option.isNone_none, if_true]
      exact wpAny_pure (h true s.heap b hz (Heap.SameBut.refl _ _))
    | some oT =>
      simp only [Option.isNone_some, Bool.false_eq_true, if_false]
      refine wpAny_bind (wpAny_field hz rfl (x := .bool b) rfl ?_)
      cases b with
      | true =>
        rw [if_neg (show ¬ ((Value.bool true != Value.bool true) = true) from Bool.false_ne_true)]
        exact wpAny_pure (h false s.heap true hz (Heap.SameBut.refl _ _))
      | false =>
        rw [if_pos (show (Value.bool false != Value.bool true) = true from rfl)]
        exact wpAny_bind (wpAny_setField_rec hz (by simp) fun h₁ hz₁ hs₁ => wpAny_pure (h false h₁ true hz₁ hs₁))
theorem zg_next_item {Q : Value → Shared → Prop} (S : ZipSep2 z TI TO i1 i2 fp1 fp2) (D1 : Draws prog w A i1 fp1 n1 P1 St1) (D2 : Draws prog w A i2 fp2 n2 P2 St2) (D1' : Draws prog w A.in1 i1 fp1 n1 P1 St1) (D2' : Draws prog w A.in1 i2 fp2 n2 P2 St2)
    (hz : IsZipG s.heap z TI TO f0 b) (ok : ZOk f0) (hTI : IsTupOf2 s.heap TI (.ref i1) (.ref i2)) (hTO : IsTupOf2 s.heap TO a1 a2) (st1 : St1 i s.heap) (st2 : St2 i s.heap) (hlt1 : i < n1) (hlt2 : i < n2)
    (hQ : ∀ x1 x2 h' tk f0' b', P1 i x1 → P2 i x2 → ZOk f0' → IsZipG h' z TI TO f0' b' → (∃ a1 a2, IsTupOf2 h' TO a1 a2) → St1 (i + 1) h' → St2 (i + 1) h' → IsTupOf2 h' s.heap.objs.size x1 x2 → h'.objs.size = s.heap.objs.size + 1 →
      (∀ c o, c ≠ z → c ≠ TO → c ≠ i1 → c ≠ i2 → s.heap.get? c = some o → h'.get? c = some o) → Q (.ref s.heap.objs.size) { s with heap := h', toks := tk }) :
    wpAny (model prog w) A (Builtin.«zip.__next__» ⟨[.ref z], []⟩) (fun fin s' => ∃ v, fin = .done (.ret v) ∧ Q v s') E s := by
  obtain ⟨hp, g, d, tk0, os⟩ := s
  show wpAny _ _ (field (.ref z) 2 >>= _) _ _ _
  refine wpAny_bind (wpAny_field hz rfl (x := .bool false) rfl ?_)
  show wpAny _ _ (field (.ref z) 3 >>= _) _ _ _
  refine wpAny_bind (wpAny_field hz rfl (x := .ref TI) rfl ?_)
  refine wpAny_bind (wpAny_seqItems hTI rfl ?_)
  show wpAny _ _ (Builtin.SmallTypes.ownedTupleIsFree (.ref z) >>= _) _ _ _
  refine wpAny_bind (zg_free hz ok fun r h00 b' hz' hs00 => ?_)
  replace hs00 : Heap.SameBut z hp h00 := hs00
  cases r with
  | true =>
    simp only [if_true]
    refine wpAny_bind (wpAny_rule ?_)
    refine wpAny_bind (wpAny_field (s := ⟨h00, g, d, tk0, os⟩) hz' rfl (x := .ref TO) rfl ?_)
    refine wpAny_bind (wpAny_setField_rec (s := ⟨h00, g, d, tk0, os⟩) hz' (by simp) fun g0 hz0 hs0' => ?_)
    replace hz0 : IsZipG g0 z TI TO .ellipsis b' := hz0
    replace hs0' : Heap.SameBut z h00 g0 := hs0'
    have hs0 : Heap.SameBut z hp g0 := ⟨by rw [hs0'.1, hs00.1], fun c hc => (hs0'.2 c hc).trans (hs00.2 c hc)⟩
    refine wpAny_bind ?_
    simp only [List.zipIdx_cons, List.zipIdx_nil, List.forIn_cons, List.forIn_nil]
    refine wpAny_bind (wpAny_bind (wpAny_onRaise ?_))
    show wpAny _ _ (Builtin.SmallTypes.nextOf (.ref i1) >>= _) _ _ ⟨g0, g, d, tk0, os⟩
    refine wpAny_bind (D1.item i _ _ _ hlt1 (D1.over st1 hs0 S.zf1) fun x1 p1 tk1 hx1 sn1 hp1 => wpAny_pure ?_)
    replace hp1 : Heap.SameBut i1 g0 p1 := hp1
    have hU1 : IsTupOf2 p1 TO a1 a2 := hp1.extBut _ _ S.Ti1 (hs0.extBut _ _ S.TOz hTO)
    refine wpAny_bind (wpAny_seqItems (s := ⟨p1, g, d, tk1, os⟩) hU1 rfl ?_)
    refine wpAny_bind (updateSeq_IsTupOf2 (s := ⟨p1, g, d, tk1, os⟩) hU1 fun g1 hT1 hs1 => ?_)
    replace hT1 : IsTupOf2 g1 TO x1 a2 := hT1
    replace hs1 : Heap.SameBut TO p1 g1 := hs1
    refine wpAny_bind (wpAny_letGo (wpAny_pure ?_))
    refine wpAny_bind (wpAny_bind (wpAny_onRaise ?_))
    show wpAny _ _ (Builtin.SmallTypes.nextOf (.ref i2) >>= _) _ _ ⟨g1, g, d, tk1, os⟩
    refine wpAny_bind (D2.item i _ _ _ hlt2 (D2.over (D2.over (D2.over st2 hs0 S.zf2) hp1 S.sep1_2) hs1 S.Tf2) fun x2 p2 tk2 hx2 sn2 hp2 => wpAny_pure ?_)
    replace hp2 : Heap.SameBut i2 g1 p2 := hp2
    have hU2 : IsTupOf2 p2 TO x1 a2 := hp2.extBut _ _ S.Ti2 hT1
    refine wpAny_bind (wpAny_seqItems (s := ⟨p2, g, d, tk2, os⟩) hU2 rfl ?_)
    refine wpAny_bind (updateSeq_IsTupOf2 (s := ⟨p2, g, d, tk2, os⟩) hU2 fun g2 hT2 hs2 => ?_)
    replace hT2 : IsTupOf2 g2 TO x1 x2 := hT2
    replace hs2 : Heap.SameBut TO p2 g2 := hs2
    refine wpAny_bind (wpAny_letGo (wpAny_pure (wpAny_pure ?_)))
    refine wpAny_bind (wpAny_seqItems (s := ⟨g2, g, d, tk2, os⟩) hT2 rfl ?_)
    refine wpAny_bind (wpAny_newTuple ?_)
    have hsz : g2.objs.size = hp.objs.size := by rw [hs2.1, hp2.1, hs1.1, hp1.1, hs0.1]
    have hzz : IsZipG g2 z TI TO .ellipsis b' := (hs2.extBut _ _ S.TOz.symm (hp2.extBut _ _ S.zi2 (hs1.extBut _ _ S.TOz.symm (hp1.extBut _ _ S.zi1 hz0))))
    have hkk : ∀ c o, c ≠ z → c ≠ TO → c ≠ i1 → c ≠ i2 → hp.get? c = some o → g2.get? c = some o := fun c o cz cT c1 c2 e =>
      (hs2.extBut _ _ cT (hp2.extBut _ _ c2 (hs1.extBut _ _ cT (hp1.extBut _ _ c1 (hs0.extBut _ _ cz e)))))
    have hj1 : St1 (i + 1) g2 := (D1.over (D1.over (D1.over sn1 hs1 S.Tf1) hp2 S.sep2_1) hs2 S.Tf1)
    have hj2 : St2 (i + 1) g2 := (D2.over sn2 hs2 S.Tf2)
    have hzlt : z < g2.objs.size := Heap.lt_size hzz
    show wpAny _ _ (Builtin.SmallTypes.ownedTupleHandOut (.ref z) (.ref g2.objs.size) >>= _) _ _ ⟨g2.push { cls := .type "tuple", data := .seq #[x1, x2] }, g, d, tk2, os⟩
    refine wpAny_bind ?_
    unfold Builtin.SmallTypes.ownedTupleHandOut
    have hz₆ : IsZipG (g2.push { cls := .type "tuple", data := .seq #[x1, x2] }) z TI TO .ellipsis b' := Heap.get?_push_of_some _ hzz
    refine wpAny_bind (wpAny_setField_rec hz₆ (by simp) fun h₇ hz₇ hs₇ => ?_)
    replace hz₇ : IsZipG h₇ z TI TO (rawInt g2.objs.size) b' := hz₇
    refine wpAny_setField_rec hz₇ (by simp) fun h₈ hz₈ hs₈ => ?_
    replace hz₈ : IsZipG h₈ z TI TO (rawInt g2.objs.size) false := hz₈
    replace hs₇ : Heap.SameBut z (g2.push { cls := .type "tuple", data := .seq #[x1, x2] }) h₇ := hs₇
    replace hs₈ : Heap.SameBut z h₇ h₈ := hs₈
    have up : ∀ c o, c ≠ z → g2.get? c = some o → h₈.get? c = some o := fun c o c1 e => hs₈.extBut _ _ c1 (hs₇.extBut _ _ c1 (Heap.get?_push_of_some _ e))
    have hT₈ : IsTupOf2 h₈ g2.objs.size x1 x2 := hs₈.extBut _ _ (Nat.ne_of_gt hzlt) (hs₇.extBut _ _ (Nat.ne_of_gt hzlt) (Heap.get?_push_size _ rfl))
    have hz8 : h₈.objs.size = g2.objs.size + 1 := by rw [hs₈.1, hs₇.1, Heap.size_push]
    rw [hsz] at hz₈ hT₈ hz8
    refine wpAny_pure ⟨_, rfl, ?_⟩
    show Q (.ref g2.objs.size) ⟨h₈, g, d, tk2, os⟩
    rw [hsz]
    exact hQ x1 x2 h₈ tk2 _ _ hx1 hx2 (.inr ⟨_, rfl⟩) hz₈ ⟨_, _, up _ _ S.TOz hT2⟩ (D1.frame _ _ _ hj1 fun b hb o e => up b o (fun q => S.zf1 (q ▸ hb)) e) (D2.frame _ _ _ hj2 fun b hb o e => up b o (fun q => S.zf2 (q ▸ hb)) e) hT₈ hz8 fun c o cz cT c1 c2 e => up c o cz (hkk c o cz cT c1 c2 e)
  | false =>
    simp only [Bool.false_eq_true, if_false]
    refine wpAny_bind ?_
    rw [← Array.forIn_toList]
    simp only [List.forIn_cons, List.forIn_nil]
    refine wpAny_bind (wpAny_bind (wpAny_holding ?_))
    show wpAny _ _ (Builtin.SmallTypes.nextOf (.ref i1) >>= _) _ _ ⟨h00, g, d, tk0, os⟩
    refine wpAny_bind (D1.item i _ _ _ hlt1 (D1.over st1 hs00 S.zf1) fun x1 p1 tk1 hx1 sn1 hp1 => wpAny_pure ?_)
    replace hp1 : Heap.SameBut i1 h00 p1 := hp1
    refine wpAny_pure ?_
    refine wpAny_bind (wpAny_bind (wpAny_holding ?_))
    show wpAny _ _ (Builtin.SmallTypes.nextOf (.ref i2) >>= _) _ _ ⟨p1, g, d, tk1, os⟩
    refine wpAny_bind (D2.item i _ _ _ hlt2 (D2.over (D2.over st2 hs00 S.zf2) hp1 S.sep1_2) fun x2 p2 tk2 hx2 sn2 hp2 => wpAny_pure ?_)
    replace hp2 : Heap.SameBut i2 p1 p2 := hp2
    refine wpAny_pure (wpAny_pure ?_)
    show wpAny _ _ (newTuple [x1, x2] >>= _) _ _ ⟨p2, g, d, tk2, os⟩
    refine wpAny_bind (wpAny_newTuple ?_)
    have hsz : p2.objs.size = hp.objs.size := by rw [hp2.1, hp1.1, hs00.1]
    have up : ∀ c o, p2.get? c = some o → (p2.push { cls := .type "tuple", data := .seq #[x1, x2] }).get? c = some o := fun c o e => Heap.get?_push_of_some _ e
    have hkk : ∀ c o, c ≠ z → c ≠ TO → c ≠ i1 → c ≠ i2 → hp.get? c = some o → (p2.push { cls := .type "tuple", data := .seq #[x1, x2] }).get? c = some o := fun c o cz cT c1 c2 e =>
      up c o (hp2.extBut _ _ c2 (hp1.extBut _ _ c1 (hs00.extBut _ _ cz e)))
    have hzz : IsZipG (p2.push { cls := .type "tuple", data := .seq #[x1, x2] }) z TI TO f0 b' := up _ _ (hp2.extBut _ _ S.zi2 (hp1.extBut _ _ S.zi1 hz'))
    have hTO2 : IsTupOf2 (p2.push { cls := .type "tuple", data := .seq #[x1, x2] }) TO a1 a2 := up _ _ (hp2.extBut _ _ S.Ti2 (hp1.extBut _ _ S.Ti1 (hs00.extBut _ _ S.TOz hTO)))
    have hj1 : St1 (i + 1) (p2.push { cls := .type "tuple", data := .seq #[x1, x2] }) := D1.frame _ _ _ (D1.over sn1 hp2 S.sep2_1) fun b hb o e => up b o e
    have hj2 : St2 (i + 1) (p2.push { cls := .type "tuple", data := .seq #[x1, x2] }) := D2.frame _ _ _ sn2 fun b hb o e => up b o e
    have hT : IsTupOf2 (p2.push { cls := .type "tuple", data := .seq #[x1, x2] }) p2.objs.size x1 x2 := Heap.get?_push_size _ rfl
    have hz8 : (p2.push { cls := .type "tuple", data := .seq #[x1, x2] }).objs.size = p2.objs.size + 1 := Heap.size_push ..
    refine wpAny_pure ⟨_, rfl, ?_⟩
    show Q (.ref p2.objs.size) ⟨_, g, d, tk2, os⟩
    rw [hsz] at hT hz8 ⊢
    exact hQ x1 x2 _ tk2 _ _ hx1 hx2 ok hzz ⟨_, _, hTO2⟩ hj1 hj2 hT hz8 hkk
end
end PySem

namespace PySem
open Sem (wp)
open PySem.W (StarOf ks_lone)
section
variable {prog : Program} {w : World} {A : Around} {E : Value → Shared → Prop} {s : Shared} {z TI TO i1 i2 : Addr} {fp1 fp2 : List Addr} {n1 n2 i : Nat} {P1 P2 : Nat → Value → Prop} {St1 St2 : Nat → Heap → Prop} {a1 a2 : Value} {f0 : Value} {b : Bool}
theorem zg_next_end {Q : Fin → Shared → Prop} (S : ZipSep2 z TI TO i1 i2 fp1 fp2) (D1 : Draws prog w A i1 fp1 n1 P1 St1) (D2 : Draws prog w A i2 fp2 n2 P2 St2)
    (hz : IsZipG s.heap z TI TO f0 b) (ok : ZOk f0) (hTI : IsTupOf2 s.heap TI (.ref i1) (.ref i2)) (hTO : IsTupOf2 s.heap TO a1 a2) (st1 : St1 i s.heap) (st2 : St2 i s.heap) (hle1 : i ≤ n1) (hle2 : i ≤ n2) (hend : i = n1 ∨ i = n2)
    (hE : ∀ h' tk e, (∀ c o, c ≠ z → c ≠ TO → c ≠ i1 → c ≠ i2 → s.heap.get? c = some o → h'.get? c = some o) → (∃ o, h'.get? e = some o ∧ o.cls = .type "StopIteration") → E (.ref e) { s with heap := h', toks := tk }) :
    wpAny (model prog w) A (Builtin.«zip.__next__» ⟨[.ref z], []⟩) Q E s := by
  obtain ⟨hp, g, d, tk0, os⟩ := s
  show wpAny _ _ (field (.ref z) 2 >>= _) _ _ _
  refine wpAny_bind (wpAny_field hz rfl (x := .bool false) rfl ?_)
  show wpAny _ _ (field (.ref z) 3 >>= _) _ _ _
  refine wpAny_bind (wpAny_field hz rfl (x := .ref TI) rfl ?_)
  refine wpAny_bind (wpAny_seqItems hTI rfl ?_)
  show wpAny _ _ (Builtin.SmallTypes.ownedTupleIsFree (.ref z) >>= _) _ _ _
  refine wpAny_bind (zg_free hz ok fun r h00 b' hz' hs00 => ?_)
  replace hs00 : Heap.SameBut z hp h00 := hs00
  cases r with
  | true =>
    simp only [if_true]
    refine wpAny_bind (wpAny_rule ?_)
    refine wpAny_bind (wpAny_field (s := ⟨h00, g, d, tk0, os⟩) hz' rfl (x := .ref TO) rfl ?_)
    refine wpAny_bind (wpAny_setField_rec (s := ⟨h00, g, d, tk0, os⟩) hz' (by simp) fun g0 hz0 hs0' => ?_)
    replace hz0 : IsZipG g0 z TI TO .ellipsis b' := hz0
    replace hs0' : Heap.SameBut z h00 g0 := hs0'
    have hs0 : Heap.SameBut z hp g0 := ⟨by rw [hs0'.1, hs00.1], fun c hc => (hs0'.2 c hc).trans (hs00.2 c hc)⟩
    refine wpAny_bind ?_
    simp only [List.zipIdx_cons, List.zipIdx_nil, List.forIn_cons, List.forIn_nil]
    refine wpAny_bind (wpAny_bind (wpAny_onRaise ?_))
    show wpAny _ _ (Builtin.SmallTypes.nextOf (.ref i1) >>= _) _ _ ⟨g0, g, d, tk0, os⟩
    by_cases hlt1 : i < n1
    · refine wpAny_bind (D1.item i _ _ _ hlt1 (D1.over st1 hs0 S.zf1) fun x1 p1 tk1 hx1 sn1 hp1 => wpAny_pure ?_)
      replace hp1 : Heap.SameBut i1 g0 p1 := hp1
      have hU1 : IsTupOf2 p1 TO a1 a2 := hp1.extBut _ _ S.Ti1 (hs0.extBut _ _ S.TOz hTO)
      refine wpAny_bind (wpAny_seqItems (s := ⟨p1, g, d, tk1, os⟩) hU1 rfl ?_)
      refine wpAny_bind (updateSeq_IsTupOf2 (s := ⟨p1, g, d, tk1, os⟩) hU1 fun g1 hT1 hs1 => ?_)
      replace hT1 : IsTupOf2 g1 TO x1 a2 := hT1
      replace hs1 : Heap.SameBut TO p1 g1 := hs1
      refine wpAny_bind (wpAny_letGo (wpAny_pure ?_))
      have hi2 : i = n2 := by omega
      refine wpAny_bind (wpAny_bind (wpAny_onRaise ?_))
      show wpAny _ _ (Builtin.SmallTypes.nextOf (.ref i2) >>= _) _ _ ⟨g1, g, d, tk1, os⟩
      refine wpAny_bind (D2.done ⟨g1, g, d, tk1, os⟩ _ _ (by rw [← hi2]; exact (D2.over (D2.over (D2.over st2 hs0 S.zf2) hp1 S.sep1_2) hs1 S.Tf2)) fun q e hq he => ?_)
      replace hq : Heap.ExtBut i2 g1 q := hq
      obtain ⟨oe, hoe, hce⟩ := he
      replace hoe : q.get? e = some oe := hoe
      have hzq : IsZipG q z TI TO .ellipsis b' := hq _ _ S.zi2 (hs1.extBut _ _ S.TOz.symm (hp1.extBut _ _ S.zi1 hz0))
      have hez : e ≠ z := fun x => by subst x; rw [hzq] at hoe; cases hoe; simp at hce
      refine wpAny_setField_rec (s := ⟨q, g, d, tk1, os⟩) hzq (by simp) fun q' _ hq' => ?_
      replace hq' : Heap.SameBut z q q' := hq'
      exact hE q' tk1 e (fun c o cz cT c1 c2 x => hq'.extBut _ _ cz (hq _ _ c2 (hs1.extBut _ _ cT (hp1.extBut _ _ c1 (hs0.extBut _ _ cz x))))) ⟨oe, hq'.extBut _ _ hez hoe, hce⟩
    · have hi1 : i = n1 := by omega
      refine wpAny_bind (D1.done ⟨g0, g, d, tk0, os⟩ _ _ (by rw [← hi1]; exact (D1.over st1 hs0 S.zf1)) fun q e hq he => ?_)
      replace hq : Heap.ExtBut i1 g0 q := hq
      obtain ⟨oe, hoe, hce⟩ := he
      replace hoe : q.get? e = some oe := hoe
      have hzq : IsZipG q z TI TO .ellipsis b' := hq _ _ S.zi1 hz0
      have hez : e ≠ z := fun x => by subst x; rw [hzq] at hoe; cases hoe; simp at hce
      refine wpAny_setField_rec (s := ⟨q, g, d, tk0, os⟩) hzq (by simp) fun q' _ hq' => ?_
      replace hq' : Heap.SameBut z q q' := hq'
      exact hE q' tk0 e (fun c o cz cT c1 c2 x => hq'.extBut _ _ cz (hq _ _ c1 (hs0.extBut _ _ cz x))) ⟨oe, hq'.extBut _ _ hez hoe, hce⟩
  | false =>
    simp only [Bool.false_eq_true, if_false]
    refine wpAny_bind ?_
    rw [← Array.forIn_toList]
    simp only [List.forIn_cons, List.forIn_nil]
    refine wpAny_bind (wpAny_bind (wpAny_holding ?_))
    show wpAny _ _ (Builtin.SmallTypes.nextOf (.ref i1) >>= _) _ _ ⟨h00, g, d, tk0, os⟩
    by_cases hlt1 : i < n1
    · refine wpAny_bind (D1.item i _ _ _ hlt1 (D1.over st1 hs00 S.zf1) fun x1 p1 tk1 hx1 sn1 hp1 => wpAny_pure ?_)
      replace hp1 : Heap.SameBut i1 h00 p1 := hp1
      refine wpAny_pure ?_
      have hi2 : i = n2 := by omega
      refine wpAny_bind (wpAny_bind (wpAny_holding ?_))
      show wpAny _ _ (Builtin.SmallTypes.nextOf (.ref i2) >>= _) _ _ ⟨p1, g, d, tk1, os⟩
      refine wpAny_bind (D2.done ⟨p1, g, d, tk1, os⟩ _ _ (by rw [← hi2]; exact (D2.over (D2.over st2 hs00 S.zf2) hp1 S.sep1_2)) fun q e hq he => ?_)
      replace hq : Heap.ExtBut i2 p1 q := hq
      exact hE q tk1 e (fun c o cz cT c1 c2 x => hq _ _ c2 (hp1.extBut _ _ c1 (hs00.extBut _ _ cz x))) he
    · have hi1 : i = n1 := by omega
      refine wpAny_bind (D1.done ⟨h00, g, d, tk0, os⟩ _ _ (by rw [← hi1]; exact (D1.over st1 hs00 S.zf1)) fun q e hq he => ?_)
      replace hq : Heap.ExtBut i1 h00 q := hq
      exact hE q tk0 e (fun c o cz cT c1 c2 x => hq _ _ c1 (hs00.extBut _ _ cz x)) he
theorem zg_pyNext_item {Q : Option Value → Shared → Prop} (S : ZipSep2 z TI TO i1 i2 fp1 fp2) (D1 : Draws prog w A.in1 i1 fp1 n1 P1 St1) (D2 : Draws prog w A.in1 i2 fp2 n2 P2 St2) (D1' : Draws prog w A.in1.in1 i1 fp1 n1 P1 St1) (D2' : Draws prog w A.in1.in1 i2 fp2 n2 P2 St2)
    (hz : IsZipG s.heap z TI TO f0 b) (ok : ZOk f0) (hTI : IsTupOf2 s.heap TI (.ref i1) (.ref i2)) (hTO : IsTupOf2 s.heap TO a1 a2) (st1 : St1 i s.heap) (st2 : St2 i s.heap) (hlt1 : i < n1) (hlt2 : i < n2)
    (hQ : ∀ x1 x2 h' tk f0' b', P1 i x1 → P2 i x2 → ZOk f0' → IsZipG h' z TI TO f0' b' → (∃ a1 a2, IsTupOf2 h' TO a1 a2) → St1 (i + 1) h' → St2 (i + 1) h' → IsTupOf2 h' s.heap.objs.size x1 x2 → h'.objs.size = s.heap.objs.size + 1 →
      (∀ c o, c ≠ z → c ≠ TO → c ≠ i1 → c ≠ i2 → s.heap.get? c = some o → h'.get? c = some o) → Q (some (.ref s.heap.objs.size)) { s with heap := h', toks := tk }) :
    wpAny (model prog w) A (pyNext (.ref z)) Q E s := by
  have hT : s.TypeIs (.ref z) "zip" := ⟨_, hz, rfl⟩
  unfold pyNext
  exact wpAny_bind (wpAny_attempt (wpAny_callSpecial?_slot (name := Str.ofString "__next__") hT F.slot_zip_next
    (wpAny_call_entry F.slot_zip_next hT F.entry_zip_next
      (zg_next_item S D1 D2 D1' D2' hz ok hTI hTO st1 st2 hlt1 hlt2 fun x1 x2 h' tk f b y1 y2 b0 b1 b2 d1 d2 b5 b6 b7 => wpAny_pure (hQ x1 x2 h' tk f b y1 y2 b0 b1 b2 d1 d2 b5 b6 b7)) (F.args_zip_next_1 _))))
theorem zg_pyNext_end {Q : Option Value → Shared → Prop} (S : ZipSep2 z TI TO i1 i2 fp1 fp2) (D1 : Draws prog w A.in1 i1 fp1 n1 P1 St1) (D2 : Draws prog w A.in1 i2 fp2 n2 P2 St2)
    (hz : IsZipG s.heap z TI TO f0 b) (ok : ZOk f0) (hTI : IsTupOf2 s.heap TI (.ref i1) (.ref i2)) (hTO : IsTupOf2 s.heap TO a1 a2) (st1 : St1 i s.heap) (st2 : St2 i s.heap) (hle1 : i ≤ n1) (hle2 : i ≤ n2) (hend : i = n1 ∨ i = n2)
    (hQ : ∀ h' tk, (∀ c o, c ≠ z → c ≠ TO → c ≠ i1 → c ≠ i2 → s.heap.get? c = some o → h'.get? c = some o) → Q none { s with heap := h', toks := tk }) : wpAny (model prog w) A (pyNext (.ref z)) Q E s := by
  have hT : s.TypeIs (.ref z) "zip" := ⟨_, hz, rfl⟩
  unfold pyNext
  refine wpAny_bind (wpAny_attempt (wpAny_callSpecial?_slot (name := Str.ofString "__next__") hT F.slot_zip_next
    (wpAny_call_entry F.slot_zip_next hT F.entry_zip_next (zg_next_end S D1 D2 hz ok hTI hTO st1 st2 hle1 hle2 hend fun h' tk e hk he => ?_) (F.args_zip_next_1 _))))
  obtain ⟨o, ho, hc⟩ := he
  refine wpAny_bind (wpAny_isInstance (T := "StopIteration") (b := true) ⟨o, ho, hc⟩ isSubtype_stop ?_)
  exact wpAny_pure (hQ _ _ hk)
theorem callWith_typeS {M : Model} {pos : Pos} {T : String} {first : List Value} {args : List (Bool × Sem Value)} {Q : Value → Shared → Prop} (hst : args.any (·.1) = true)
    (h : wpAny M A (evalArgs (.type T) true args []) (fun a s₁ => wpAny M A (call (.type T) (first ++ a.pos) a.kw) Q E s₁) E s) :
    wpAny M A (callWith pos (.type T) first args []) Q E s := by
  unfold callWith
  refine wpAny_bind (wpAny_holding (wpAny_mono h (fun a s₁ h₁ => wpAny_bind (wpAny_standAt ?_)) fun _ _ x => x))
  simp only [hst, Bool.true_or]
  refine wpAny_bind (wpAny_pure ?_)
  exact wpAny_bind (wpAny_mono (by first | exact wpAny_operating h₁ | exact h₁) (fun r s₂ hr => wpAny_bind (wpAny_holding (wpAny_point (wpAny_pure hr)))) fun _ _ x => x)
end
end PySem
namespace VX
open PySem PySem.Spec PyProof.Rows L2
def ItzE (K : PySem.W.Frag) (a b : Addr) : It :=
  ⟨fun i H => ∃ (xs ys : List V) (x y : V), SqT K H a xs ∧ SqT K H b ys ∧ xs[i]? = some x ∧ ys[i]? = some y,
    fun i H v H' => ∃ T x y, v = .ref T ∧ H T = none ∧ H' = upd H T (.tup [x, y]) ∧ (∀ xs, SqT K H a xs → xs[i]? = some x) ∧ ∀ ys, SqT K H b ys → ys[i]? = some y,
    fun i H => ∃ xs ys : List V, SqT K H a xs ∧ SqT K H b ys ∧ i ≤ xs.length ∧ i ≤ ys.length ∧ (i = xs.length ∨ i = ys.length)⟩
/-- as ItzT, the pairs kept -/
theorem turn_zipG {P : Program} {w : World} {K : PySem.W.Frag} {x : Str} {tpos : Pos} {a b z TI TO i1 i2 : Addr} (S : ZipSep2 z TI TO i1 i2 [i1, a] [i2, b]) (ha : a ≠ i1) (hb2 : b ≠ i2) (hia : i1 ≠ z) (hib : i2 ≠ z) :
    Turn P w K (.Name x tpos) (ItzE K a b) [z, TI, TO, i1, i2] z (fun i h => (∃ f0 c, ZOk f0 ∧ IsZipG h z TI TO f0 c) ∧ IsTupOf2 h TI (.ref i1) (.ref i2) ∧ (∃ x y, IsTupOf2 h TO x y) ∧ h.IsTupleIter i1 a i ∧ h.IsTupleIter i2 b i) where
  mem := by simp
  obj := fun i h st c hc => by
    obtain ⟨⟨f0, c0, _, hz⟩, hTI, ⟨x, y, hTO⟩, ⟨o1, e1, _, d1⟩, ⟨o2, e2, _, d2⟩⟩ := st
    have e' : c = z ∨ c = TI ∨ c = TO ∨ c = i1 ∨ c = i2 := by simpa using hc
    rcases e' with q | q | q | q | q
    · rw [q]; exact ⟨_, hz, fun v q => nomatch q⟩
    · rw [q]; exact ⟨_, hTI, fun v q => nomatch q⟩
    · rw [q]; exact ⟨_, hTO, fun v q => nomatch q⟩
    · rw [q]; exact ⟨o1, e1, fun v q => by rw [d1] at q; cases q⟩
    · rw [q]; exact ⟨o2, e2, fun v q => by rw [d2] at q; cases q⟩
  keep := fun i h h' st k => by
    obtain ⟨⟨f0, c0, z0, hz⟩, hTI, ⟨x, y, hTO⟩, h1, h2⟩ := st
    exact ⟨⟨f0, c0, z0, k z (by simp) _ hz⟩, k TI (by simp) _ hTI, ⟨x, y, k TO (by simp) _ hTO⟩, h1.at fun o q => k i1 (by simp) o q, h2.at fun o q => k i2 (by simp) o q⟩
  item := by
    intro X hP hw hK hc i pins s σ H E I hf st hg
    subst hP hw hK
    obtain ⟨⟨f0, c0, z0, hz⟩, hTI, ⟨x0, y0, hTO⟩, h1, h2⟩ := st
    obtain ⟨xs, ys, x, y, hqx, hqy, hx, hy⟩ := hg
    obtain ⟨its, rv, p, _⟩ := I.tuple hqx
    obtain ⟨its2, rv2, p2, _⟩ := I.tuple hqy
    obtain ⟨u, hu, ru⟩ := rv.get hx
    obtain ⟨u2, hu2, ru2⟩ := rv2.get hy
    have hzl : z < s.heap.objs.size := Heap.lt_size hz
    have l1 : i < its.toArray.size := by simpa using (List.getElem?_eq_some_iff.mp hu).1
    have l2 : i < its2.toArray.size := by simpa using (List.getElem?_eq_some_iff.mp hu2).1
    refine zg_pyNext_item S (Draws.tuple (prog := X.prog) (w := X.w) (A := X.A.in1) (I.ok.hd hc) i1 a ha its.toArray) (Draws.tuple (prog := X.prog) (w := X.w) (A := X.A.in1) (I.ok.hd hc) i2 b hb2 its2.toArray)
      (Draws.tuple (prog := X.prog) (w := X.w) (A := X.A.in1.in1) (I.ok.hd hc) i1 a ha its.toArray) (Draws.tuple (prog := X.prog) (w := X.w) (A := X.A.in1.in1) (I.ok.hd hc) i2 b hb2 its2.toArray) hz z0 hTI hTO ⟨h1, p⟩ ⟨h2, p2⟩ l1 l2 fun x' y' h' tk f1 c1 hx' hy' z1 z' TO' h1' h2' hT hsz hk => ?_
    have ex : x' = u := by
      have a1 : its.toArray[i]? = some x' := hx'
      have a2 : its.toArray[i]? = some u := by simpa using hu
      exact Option.some.inj (a1.symm.trans a2)
    have ey : y' = u2 := by
      have a1 : its2.toArray[i]? = some y' := hy'
      have a2 : its2.toArray[i]? = some u2 := by simpa using hu2
      exact Option.some.inj (a1.symm.trans a2)
    subst ex ey
    refine ⟨_, rfl, wpAny_pure ?_⟩
    have new : ObjOk X.prog X.w (upd H s.heap.objs.size (.tup [x, y])) h' s.heap.objs.size (.tup [x, y]) :=
      ⟨by show 2 ≤ sizeLine; decide, [x', y'], .cons ru (.cons ru2 .nil), ⟨_, hT, rfl, _, rfl⟩⟩
    have I1 : Inv X pins σ (upd H s.heap.objs.size (.tup [x, y])) { s with heap := h', toks := tk } :=
      I.turnedNew (t' := tk) (ch := [z, TI, TO, i1, i2]) (fun c o hb q => hk c o (fun q' => hb (by simp [q'])) (fun q' => hb (by simp [q'])) (fun q' => hb (by simp [q'])) (fun q' => hb (by simp [q'])) q) hf (Nat.le_refl _) new
    refine ⟨.ref s.heap.objs.size, _, I1, rfl, ⟨_, x, y, rfl, I.hok.fresh (Nat.le_refl _), rfl, fun l hl => by rw [I.tuple_inj hl hqx]; exact hx, fun l hl => by rw [I.tuple_inj hl hqy]; exact hy⟩, ⟨⟨f1, c1, z1, z'⟩, ?_, TO', h1'.1, h2'.1⟩, fun c hcm => ?_⟩
    · exact hk _ _ S.TIz S.TITO S.TIi1 S.TIi2 hTI
    · have hlt : c < s.heap.objs.size := by
        have e' : c = z ∨ c = TI ∨ c = TO ∨ c = i1 ∨ c = i2 := by simpa using hcm
        rcases e' with q | q | q | q | q
        · rw [q]; exact hzl
        · rw [q]; exact Heap.lt_size hTI
        · rw [q]; exact Heap.lt_size hTO
        · rw [q]; obtain ⟨_, e1, _⟩ := h1; exact Heap.lt_size e1
        · rw [q]; obtain ⟨_, e2, _⟩ := h2; exact Heap.lt_size e2
      rw [upd_ne (Nat.ne_of_lt hlt)]
      exact (hf c hcm).1
  done := by
    intro X hP hw hK hc i pins s σ H E I hf st hg
    subst hP hw hK
    obtain ⟨⟨f0, c0, z0, hz⟩, hTI, ⟨x0, y0, hTO⟩, h1, h2⟩ := st
    obtain ⟨xs, ys, hqx, hqy, q1, q2, hend⟩ := hg
    obtain ⟨its, rv, p, _⟩ := I.tuple hqx
    obtain ⟨its2, rv2, p2, _⟩ := I.tuple hqy
    have l1 := rv.length
    have l2 := rv2.length
    exact zg_pyNext_end S (Draws.tuple (prog := X.prog) (w := X.w) (A := X.A.in1) (I.ok.hd hc) i1 a ha its.toArray) (Draws.tuple (prog := X.prog) (w := X.w) (A := X.A.in1) (I.ok.hd hc) i2 b hb2 its2.toArray) hz z0 hTI hTO ⟨h1, p⟩ ⟨h2, p2⟩ (by simp; omega) (by simp; omega) (by simp; omega)
      fun h' tk hk => ⟨rfl, I.turnedL (t' := tk) (ch := [z, TI, TO, i1, i2]) (fun c o hb q => hk c o (fun q' => hb (by simp [q'])) (fun q' => hb (by simp [q'])) (fun q' => hb (by simp [q'])) (fun q' => hb (by simp [q'])) q) hf⟩
  self := fun A i s Q E st h => by
    obtain ⟨⟨f0, c0, z0, hz⟩, _⟩ := st
    have hT : s.TypeIs (.ref z) "zip" := ⟨_, hz, rfl⟩
    refine wpAny_pyIter_slot hT F.slot_zip_iter (wpAny_call_entry F.slot_zip_iter hT F.entry_zip_iter ?_ (F.args_zip_iter_1 _))
    show wpAny _ _ (ret (.ref z)) _ _ s
    exact wpAny_pure ⟨_, rfl, "zip", _, hT, F.slot_zip_next.lookup, h⟩
def iZipS (K : PySem.W.Frag) (te : TE) : TI := fun σ H R => te σ H fun y H1 => ∃ l a b xs ys, y = V.ref l ∧ (SqT K H1 l [.ref a, .ref b] ∨ SqL K H1 l [.ref a, .ref b]) ∧ SqT K H1 a xs ∧ SqT K H1 b ys ∧ R (ItzE K a b) H1
theorem pi_zipS {X : Cx} {e : Expr} {te : TE} {p pos sp_ tpos : Pos} {x : Str} (hg : Gl X "zip") (hm : X.mg "zip" = none) (he : PE X e te)
    (hst : starEach [.Starred e sp_] X.env = [(true, eval e X.env)] := by rfl) :
    PI X (.Name x tpos) (.Call (.Name "zip" p) [.Starred e sp_] [] pos) (iZipS X.K te) := by
  refine ⟨fun pins s σ H R I h => ?_⟩
  refine Call_ (ld_blt I hg hm PyProof.Rows.boot_zip ?_)
  rw [hst]
  refine callWith_typeS rfl (PySem.W.ks_lone (thn (he.run pins s σ H _ I h) fun v s1 ⟨y, H1, I1, ry, l, a, b, xs, ys, ey, hl, hqx, hqy, q⟩ => ?_))
  subst ey
  obtain rfl : v = Value.ref l := ry
  refine StX.star_any I1 hl fun us s2 I2 rv => ?_
  cases rv with
  | cons r rr =>
    cases rr with
    | cons r' rr =>
      cases rr
      cases r
      cases r'
      have fresh5 : ∀ c, c ∈ [s2.heap.objs.size + 4, s2.heap.objs.size + 2, s2.heap.objs.size + 3, s2.heap.objs.size, s2.heap.objs.size + 1] → FpOk X pins H1 c := fun c hcm => by
        have e' : c = s2.heap.objs.size + 4 ∨ c = s2.heap.objs.size + 2 ∨ c = s2.heap.objs.size + 3 ∨ c = s2.heap.objs.size ∨ c = s2.heap.objs.size + 1 := by simpa using hcm
        have hle : s2.heap.objs.size ≤ c := by
          rcases e' with z | z | z | z | z
          · rw [z]; exact Nat.le_add_right _ _
          · rw [z]; exact Nat.le_add_right _ _
          · rw [z]; exact Nat.le_add_right _ _
          · rw [z]; exact Nat.le_refl _
          · rw [z]; exact Nat.le_add_right _ _
        exact I2.fpOk hle (I2.hok.fresh hle)
      obtain ⟨its, rv, p1, _⟩ := I2.tuple hqx
      obtain ⟨its2, rv2, p2, _⟩ := I2.tuple hqy
      obtain ⟨o1, ho1, _⟩ := id p1
      obtain ⟨o2, ho2, _⟩ := id p2
      have la : a < s2.heap.objs.size := Heap.lt_size ho1
      have lb : b < s2.heap.objs.size := Heap.lt_size ho2
      show wpAny _ _ (call (.type "zip") [.ref a, .ref b]) _ _ _
      refine zip_begins2 (begins_tuple a its.toArray) (begins_tuple b its2.toArray) p1 p2 fun h' hz hTI hTO h1 h2 hsz hk => wpAny_pyIter_zip hz ?_
      have I3 : Inv X pins σ H1 { s2 with heap := h' } := I2.kept (t' := s2.toks) hk
      exact ⟨s2.heap.objs.size + 4, [s2.heap.objs.size + 4, s2.heap.objs.size + 2, s2.heap.objs.size + 3, s2.heap.objs.size, s2.heap.objs.size + 1], _, _, H1, rfl, I3, turn_zipG (z := s2.heap.objs.size + 4) (i1 := s2.heap.objs.size) (i2 := s2.heap.objs.size + 1) (zip_sep2 (N := s2.heap.objs.size) (fp1 := [a]) (fp2 := [b]) (by simpa using la) (by simpa using lb)) (Nat.ne_of_lt la) (Nat.ne_of_lt (Nat.lt_succ_of_lt lb)) (Nat.ne_of_lt (by show s2.heap.objs.size < s2.heap.objs.size + 4; exact Nat.lt_add_of_pos_right (by decide))) (Nat.ne_of_lt (by show s2.heap.objs.size + 1 < s2.heap.objs.size + 4; exact Nat.add_lt_add_left (by decide) _)), ⟨⟨_, _, .inl rfl, hz⟩, hTI, ⟨_, _, hTO⟩, ⟨_, h1, rfl, rfl⟩, ⟨_, h2, rfl, rfl⟩⟩, fresh5, q⟩
theorem walk_zipE {K : PySem.W.Frag} {a b : Addr} {xs ys : List V} : Walk (ItzE K a b) (min xs.length ys.length) (fun H => SqT K H a xs ∧ SqT K H b ys) (YPair (fun i => xs[i]?) (fun i => ys[i]?)) := by
  refine ⟨fun i _ hi q => ?_, fun _ q => ⟨xs, ys, q.1, q.2, by omega, by omega, by omega⟩, fun i H v H' _ q y => ?_⟩
  · have h1 : i < xs.length := by omega
    have h2 : i < ys.length := by omega
    exact ⟨xs, ys, xs[i], ys[i], q.1, q.2, by simp [h1], by simp [h2]⟩
  · obtain ⟨T, x, z, h1, h2, h3, h4, h5⟩ := y
    exact ⟨T, x, z, h1, h2, h3, h4 xs q.1, h5 ys q.2⟩
section
variable {X : Cx} {Γ : List Dsc} {a b e tg iter : Expr} {pos p pos' tpos sp_ : Pos} {Q : List D → List Dsc → Prop} {elts : List Expr} {kk : Nat} {x : Str}
theorem iw_zipS (hm : X.mg "zip" = none) (h : EW X e Γ fun z Γ1 => ∃ xs ys, datOf z = some (.lst [.tup xs, .tup ys]) ∧ Q (zipD xs ys) Γ1) (hg : Gl X "zip" := by rfl)
    (hst : starEach [.Starred e sp_] X.env = [(true, eval e X.env)] := by rfl) :
    IW X (.Name x tpos) (.Call (.Name "zip" p) [.Starred e sp_] [] pos) Γ Q := by
  intro A F H σ fm R q
  refine ⟨_, pi_zipS hg hm pe_top hst, ?_⟩
  show EV X e σ H fun y H1 => ∃ l a b xs ys, y = V.ref l ∧ (SqT X.K H1 l [.ref a, .ref b] ∨ SqL X.K H1 l [.ref a, .ref b]) ∧ SqT X.K H1 a xs ∧ SqT X.K H1 b ys ∧ R (ItzE X.K a b) H1
  refine h.run fm Stp.refl fun z Γ1 v F1 H1 hz s1 _ fm1 ok => ?_
  obtain ⟨xs, ys, hd, hp⟩ := hz
  obtain ⟨F2, _, fm2, s2, r⟩ := freeze1 ok fm1 s1 hd
  cases r with
  | lst e0 r0 =>
  cases r0 with
  | cons ra r0 =>
  cases r0 with
  | cons rb r0 =>
  cases r0
  cases ra with
  | tup e1 r1 =>
  cases rb with
  | tup e2 r2 =>
  refine ⟨_, _, _, _, _, rfl, .inr (.inl (.inl (fm2.fh _ _ e0))), .inl (.inl (fm2.fh _ _ e1)), .inl (.inl (fm2.fh _ _ e2)), q _ _ Γ1 F2 H1 hp s2 fm2 ?_⟩
  exact its_zip walk_zipE (fun F2 H2 f1 f2 => ⟨.inl (.inl ((f1.trans f2) _ _ e1)), .inl (.inl ((f1.trans f2) _ _ e2))⟩) r1 r2
end
end VX

/-! VX: more calls; displays taken apart; x = [..]. -/
namespace VX
open PySem PySem.Spec PyProof.Rows L2
section
variable {X : Cx} {Γ : List Dsc} {P : PD} {a b c e o tg iter elt : Expr} {es ifs : List Expr} {pos p p2 q2 pos' apos cpos : Pos} {x : Str}
theorem cr_sumT (hc : X.calm = true) : CallR X (.builtin "sum") (fun vs H Q => ∃ (a : Addr) (ns : List Int), vs = [V.ref a] ∧ SqT X.K H a (ns.map V.int) ∧ Q (.int ns.sum) H) := by
  intro pins s σ H vs us Q I r h
  obtain ⟨a, ns, rfl, hs, q⟩ := h
  obtain ⟨its, rv, hl, _⟩ := I.tuple hs
  rw [Vals.ref1 r]
  have hi := rv.ints
  obtain ⟨xs, e⟩ := hi.allInts.items
  have hn : numsOf (intItems xs).toList = ns := by rw [← e]; exact hi.numsOf
  rw [nums_intItems] at hn
  have hl' : s.heap.IsTuple a (intItems xs) := by rw [← e]; exact hl
  refine PySem.W.ktm_sumG (I.ok.hd hc) hl' fun h' tk t' hk => ?_
  rw [preSum_eq, List.take_of_length_le (by simp), hn]
  exact ⟨.int _, H, I.kept hk, ⟨_, rfl⟩, q⟩
theorem ew_sumT (hc : X.calm = true) (hm : X.mg "sum" = none) (h : EW X e Γ fun x Γ1 => ∃ ns : List Int, x = .dat (.tup (ns.map .int)) ∧ P (.dat (.int ns.sum)) Γ1) (hg : Gl X "sum" := by rfl)
    (he : starEach [e] X.env = (false, eval e X.env) :: starEach [] X.env := by rfl) : EW X (.Call (.Name "sum" p) [e] [] pos) Γ P :=
  ew_cb (cr_sumT hc) hm (by decide +kernel) (aw_one (h.mono fun x Γ1 ⟨ns, hd, hp⟩ A Fs Hs Γs F H σ vs fm st ok Q q => by
    cases ok with
    | cons o1 ok =>
      cases ok
      subst hd
      cases o1 with
      | tup g r =>
        rw [Reps.ints_eq r] at g
        exact ⟨_, ns, rfl, .inl (.inl (fm.fh _ _ g)), q _ _ _ F H hp st fm (.int _)⟩) he) hg (by decide) (by decide) he (by rfl)
/-- the number of different ints -/
def ddN (ns : List Int) : Nat := (firstMet (fun i => ns.getD i 0) ns.length).length
def tLenSetG (K : PySem.W.Frag) (ta : TE) : TE := fun σ H Q => ta σ H fun x H1 => ∃ (l : Addr) (ns : List Int), x = .ref l ∧ SqL K H1 l (ns.map V.int) ∧ ns.length ≤ 4000 ∧ Q (.int (ddN ns)) H1
theorem pe_lenSetG {ta : TE} (hg : Gl X "len") (hm : X.mg "len" = none) (hg2 : Gl X "set") (hm2 : X.mg "set" = none) (ha : PE X a ta) (hc : X.calm = true := by rfl)
    (na : starEach [a] X.env = (false, eval a X.env) :: starEach [] X.env := by rfl) : PE X (.Call (.Name "len" p) [.Call (.Name "set" p2) [a] [] q2] [] pos) (tLenSetG X.K ta) := by
  refine ⟨fun pins s σ H Q I h => ?_⟩
  refine Call_ (ld_blt I hg hm boot_len ?_)
  refine PyProof.Rows.callWith_builtin1 (PyProof.Rows.args_cons ?_ rfl) rfl rfl
  refine Call_ (ld_blt I hg2 hm2 boot_set ?_)
  refine PyProof.Rows.callWith_type1 (PyProof.Rows.args_cons (thn (ha.run pins s σ H _ I h) fun v s1 ⟨x, H1, I1, r1, q1⟩ => PyProof.Rows.args_nil ?_) na) na rfl
  obtain ⟨l, ns, rfl, hq, hl, q1⟩ := q1
  cases r1
  obtain ⟨its, r, pl, hz⟩ := I1.list hq
  have hlen : its.toArray.size = ns.length := by rw [List.size_toArray, ← r.length, List.length_map]
  refine call_set_list (I1.ok.hd hc) pl.isList (by simpa using RZ.intsAre_vals r) (by rw [hlen]; unfold scanBound; omega) fun h' tk hS hk => ?_
  refine PyProof.Rows.args_nil ?_
  rw [hlen] at hS
  obtain ⟨o, es, ep, t, ho, hex, hd, _, _, _, hf, hn⟩ := hS
  have I2 : Inv X pins σ H1 { s1 with heap := h', toks := tk } := I1.kept fun b o e => hk b o (Heap.lt_size e) e
  have hle := firstMet_length_le (fun i => ns.getD i 0) ns.length
  exact call_len_set ho hex hd hf (by rw [hn] <;> omega) ⟨.int (ddN ns), H1, I2.tok _, ⟨_, by rw [hn] <;> rfl⟩, q1⟩
theorem ew_lenSet (hc : X.calm = true) (hm : X.mg "len" = none) (hm2 : X.mg "set" = none) (h : EW X e Γ fun x Γ1 => ∃ ns : List Int, lstOf Γ1 x = some (ns.map .int) ∧ ns.length ≤ 4000 ∧ P (.dat (.int (ddN ns))) Γ1) (hg : Gl X "len" := by rfl) (hg2 : Gl X "set" := by rfl)
    (he : starEach [e] X.env = (false, eval e X.env) :: starEach [] X.env := by rfl) : EW X (.Call (.Name "len" p) [.Call (.Name "set" p2) [e] [] q2] [] pos) Γ P := by
  intro A F H σ fm Q q
  refine ⟨_, pe_lenSetG hg hm hg2 hm2 pe_top hc he, ?_⟩
  show EV X e σ H fun x H1 => ∃ (l : Addr) (ns : List Int), x = .ref l ∧ SqL X.K H1 l (ns.map V.int) ∧ ns.length ≤ 4000 ∧ Q (.int (ddN ns)) H1
  refine h.run fm Stp.refl fun x Γ1 v F1 H1 hx s1 _ fm1 ok => ?_
  obtain ⟨ns, hd, hl, hp⟩ := hx
  obtain ⟨a, vs, rfl, g, r⟩ := VOk.lst ok fm1 hd
  rw [Reps.ints_eq r] at g
  exact ⟨a, ns, rfl, .inl (.inl g), hl, q _ _ _ F1 H1 hp s1 fm1 (.int _)⟩
theorem reps_rg {K : PySem.W.Frag} {F : Hp} (n : Int) : Reps K F (rangeD 0 n.toNat) (rgV 0 n) := by
  have e1 : rangeD 0 n.toNat = ((List.range n.toNat).map fun i : Nat => (0 : Int) + (i : Nat)).map D.int := by unfold rangeD; rw [List.map_map]; rfl
  have e2 : rgV 0 n = ((List.range n.toNat).map fun i : Nat => (0 : Int) + (i : Nat)).map V.int := by
    unfold rgV
    rw [List.map_map, show (n - 0) = n by omega]; rfl
  rw [e1, e2]
  exact Reps.ints
theorem ew_listRg (hc : X.calm = true) (hm : X.mg "list" = none) (hm2 : X.mg "range" = none) (h : EW X e Γ fun x Γ1 => ∃ n : Int, x = .dat (.int n) ∧ 0 ≤ n ∧ n ≤ 1000000 ∧ P (.new (rangeD 0 n.toNat)) Γ1) (hg : Gl X "list" := by rfl) (hg2 : Gl X "range" := by rfl)
    (he : starEach [e] X.env = (false, eval e X.env) :: starEach [] X.env := by rfl) (he2 : starEach [.Call (.Name "range" p2) [e] [] q2] X.env = (false, eval (.Call (.Name "range" p2) [e] [] q2) X.env) :: starEach [] X.env := by rfl) : EW X (.Call (.Name "list" p) [.Call (.Name "range" p2) [e] [] q2] [] pos) Γ P := by
  intro A F H σ fm Q q
  refine ⟨_, pe_listRg hc hg hm (prg_1 hg2 hm2 pe_top he) he2, ?_⟩
  show EV X e σ H fun x H1 => ∃ n, x = .int n ∧ RgOk 0 n ∧ ∀ q, H1 q = none → Q (.ref q) (upd H1 q (.lst (rgV 0 n)))
  refine h.run fm Stp.refl fun x Γ1 v F1 H1 hx s1 _ fm1 ok => ?_
  obtain ⟨n, rfl, h0, h1, hp⟩ := hx
  cases ok
  exact ⟨n, rfl, RgOk.of_le (by decide) (by omega) (by decide) h0, fun p np => q _ _ _ _ _ hp (s1.trans (Stp.alloc np)) (fm1.alloc np) (newOk fm1 s1 np (reps_rg n))⟩
theorem ew_orL (h : EW X a Γ fun x Γ1 => ∃ ds, lstOf Γ1 x = some ds ∧ (ds ≠ [] → P x Γ1) ∧ (ds = [] → EW X (.BoolOp .Or (b :: es) pos) Γ1 P)) : EW X (.BoolOp .Or (a :: b :: es) pos) Γ P := by
  intro A F H σ fm Q q
  refine ⟨_, pe_orT pe_top pe_top, ?_⟩
  show EV X a σ H fun x H1 => ∃ k, TruV X.K x H1 k ∧ if k = true then Q x H1 else EV X (.BoolOp .Or (b :: es) pos) σ H1 Q
  refine h.run fm Stp.refl fun x Γ1 v F1 H1 hx s1 _ fm1 ok => ?_
  obtain ⟨ds, hd, h1, h2⟩ := hx
  obtain ⟨a, vs, rfl, g, r⟩ := VOk.lst ok fm1 hd
  refine ⟨!vs.isEmpty, .inl ⟨vs, .inl (.inl g), rfl⟩, ?_⟩
  have hl := r.len
  cases ds with
  | nil =>
    cases r
    refine iteF ?_
    exact (h2 rfl).run fm1 s1 fun d Γ' v F' H' p st _ fm' ok' => q d Γ' v F' H' p st fm' ok'
  | cons d ds =>
    cases r with
    | cons r0 r =>
    refine iteT ?_
    exact q _ Γ1 _ F1 H1 (h1 (by nofun)) s1 fm1 ok
theorem ew_call0 {k j : Nat} {S : Spc} (c : C8.Cal X.prog X.w X.K X.mg X.base k x (spW X.K S) []) (hr : Room j X.A) (hk : k ≤ j)
    (h : S [] fun r outs => rtD r ∧ P r Γ) (hg : Gl X x := by rfl)
    (hdb : (x == ("__debug__" : Str)) = false := by decide) :
    EW X (.Call (.Name x p) [] [] pos) Γ P := by
  intro A F H σ fm Q q
  obtain ⟨f, fd, ps, ds, Fn, hm, kp, b, d⟩ := c.ex
  refine ⟨_, pe_call0 Fn (hr.mono hk) hg hm kp b d pass0 hdb, ?_⟩
  show spW X.K S ([] ++ []) H Q E0
  refine ⟨F, [], _, fm.fh, .nil, List.nodup_nil, h, fun r outs v F' H' hp f fh n kk g rt os => ?_⟩
  have s2 : Stp σ Γ Γ F H F' H' := ⟨f, fun b o e' nb => kk b o e' (by show b ∉ []; simp), n, g, Sim.refl _⟩
  have fm2 : Fm X.K A F' H' σ Γ := by
    refine fm.upd f fh n (fun b o e' nb => kk b o e' (by show b ∉ []; simp)) (Sim.refl _) fun i a ds oa hh => ?_
    have l2 : LstAt X.K F H a ds := by
      rcases hh with hh | hh
      · obtain ⟨b, e1, l, _⟩ := fm.own i ds hh
        rw [oa.1] at e1; cases e1; exact l
      · obtain ⟨b, e1, l, _⟩ := fm.iio i ds hh
        rw [oa.1] at e1; cases e1; exact l
    obtain ⟨⟨ys, ey, ry⟩, z⟩ := l2
    exact ⟨⟨ys, kk a _ ey (by show a ∉ []; simp), ry.ex f⟩, n a _ ey z⟩
  refine q r _ v F' H' hp.2 s2 fm2 ?_
  cases r with
  | dat d => exact rt
  | new ds =>
    obtain ⟨a, rfl, l, hz⟩ := rt
    refine ⟨a, rfl, l, fm.h0 hz, fun z => ?_, hz⟩
    obtain ⟨es', ⟨ys, ey, _⟩, _⟩ := fm.ownSome z
    rw [hz] at ey; cases ey
  | loc i => exact rt.elim
end
section
variable {X : Cx} {Γ : List Dsc} {a b c e o tg iter elt : Expr} {es ifs : List Expr} {pos p pos' : Pos} {x : Str} {D : PEnds} {α : Type}
/-- x = [elt for tg in iter (if c)] that only reads, x a local on the same line -/
theorem sw_lcF {y : Str} {py spos : Pos} {scope : Scope} (i : Nat) (sh : Shp) (own : List (Str × Nat)) (enc g : α → VX.D) (p : α → Bool) (hc : X.calm = true) (hN : X.N.Nodup) (ok : BlkOk X.N X.env.scope scope own) (hsh : ∀ j ∈ sh.js, j ∈ own.map (·.2)) (hg : inBlk X scope fun Y => PG Y tg (sh.rd X.K))
    (hsw : swapsWith (.ListComp elt [⟨tg, iter, ifs, 0⟩] scope pos) (some (.Name y py)) spos.line X.env = pure true)
    (h : IW X tg iter Γ fun ds Γ1 => ∃ xs, LcOk X scope sh (own.map (·.2)) elt ifs enc g p ds Γ1 xs ∧ canSet Γ1 i = true ∧ D.nx (Γ1.set i (.own ((xs.filter p).map g))))
    (hi : X.N[i]? = some y := by rfl) (hyl : X.env.scope.names.lookup y = some .local := by rfl) (hs : ∀ x, foldedSetIterable iter X.env x = pure x := by intro _; rfl) : SW X (.Assign [.Name y py] (.ListComp elt [⟨tg, iter, ifs, 0⟩] scope pos) spos) Γ D :=
  sw_setLc i sh own hc hN ok hsh hg hsw (fun A F H σ fm R q => h A F H σ fm R fun J ds Γ' F' H' ⟨xs, h1, h2, h3⟩ => q J ds Γ' F' H' (by
    obtain ⟨l1, JJ, j1, j2, j3⟩ := lc_pure (P := fun d Γ2 => ∃ acc, d = .new acc ∧ canSet Γ2 i = true ∧ D.nx (Γ2.set i (.own acc))) sh hsh h1 ⟨_, rfl, h2, h3⟩
    refine ⟨l1, JJ, j1, j2, fun acc Γ2 hj => ?_⟩
    obtain ⟨acc', e, c1, c2⟩ := j3 acc Γ2 hj
    cases e
    exact ⟨c1, c2⟩)) hi hyl hs
theorem sw_lcM {y : Str} {py spos : Pos} {scope : Scope} (i : Nat) (sh : Shp) (own : List (Str × Nat)) (enc g : α → VX.D) (hc : X.calm = true) (hN : X.N.Nodup) (ok : BlkOk X.N X.env.scope scope own) (hsh : ∀ j ∈ sh.js, j ∈ own.map (·.2)) (hg : inBlk X scope fun Y => PG Y tg (sh.rd X.K))
    (hsw : swapsWith (.ListComp elt [⟨tg, iter, [], 0⟩] scope pos) (some (.Name y py)) spos.line X.env = pure true)
    (h : IW X tg iter Γ fun ds Γ1 => ∃ xs, LmOk X scope sh (own.map (·.2)) elt enc g ds Γ1 xs ∧ canSet Γ1 i = true ∧ D.nx (Γ1.set i (.own (xs.map g))))
    (hi : X.N[i]? = some y := by rfl) (hyl : X.env.scope.names.lookup y = some .local := by rfl) (hs : ∀ x, foldedSetIterable iter X.env x = pure x := by intro _; rfl) : SW X (.Assign [.Name y py] (.ListComp elt [⟨tg, iter, [], 0⟩] scope pos) spos) Γ D :=
  sw_lcF i sh own enc g (fun _ => true) hc hN ok hsh hg hsw (fun A F H σ fm R q => h A F H σ fm R fun J ds Γ' F' H' ⟨xs, h1, h2, h3⟩ => q J ds Γ' F' H' ⟨xs, h1.lc, h2, by rw [filter_true]; exact h3⟩) hi hyl hs
/-- x, y = a, b through a tuple, names of any kind -/
theorem sw_dis2 (i j : Nat) {x y : Str} {px py pt : Pos} {kt k2 : Nat} {pt2 : Pos} (hc : X.calm = true) (hN : X.N.Nodup)
    (h : EW X a Γ fun d Γ1 => EW X b Γ1 fun d2 Γ2 => ∃ s t, dscOf d = some s ∧ dscOf d2 = some t ∧ canSet Γ2 i = true ∧ canSet (Γ2.set i s) j = true ∧ D.nx ((Γ2.set i s).set j t))
    (hw : swappedStores [.Tuple [.Name x px, .Name y py] kt pt] (.Tuple [a, b] k2 pt2) X.env = pure none := by rfl)
    (hi : X.N[i]? = some x := by rfl) (hj : X.N[j]? = some y := by rfl) (hx : Loc X.env.scope x := by first | exact .inl rfl | exact .inr rfl) (hy : Loc X.env.scope y := by first | exact .inl rfl | exact .inr rfl)
    (hfx : X.fn x = true ∨ X.env.scope.names.lookup x = some .local := by first | exact .inl rfl | exact .inr rfl) (hfy : X.fn y = true ∨ X.env.scope.names.lookup y = some .local := by first | exact .inl rfl | exact .inr rfl)
    (hs : swapsWithSole [.Tuple [.Name x px, .Name y py] kt pt] (.Tuple [a, b] k2 pt2) pos.line X.env = pure false := by rfl)
    (h1 : (assignEach [.Tuple [.Name x px, .Name y py] kt pt] X.env).map (·.2) = [assign (.Tuple [.Name x px, .Name y py] kt pt) X.env] := by rfl)
    (hs1 : (assignEach [.Name x px, .Name y py] X.env).map (·.2) = assign (.Name x px) X.env :: (assignEach [.Name y py] X.env).map (·.2) := by rfl)
    (hs2 : (assignEach [.Name y py] X.env).map (·.2) = assign (.Name y py) X.env :: (assignEach [] X.env).map (·.2) := by rfl)
    (hn : (assignEach [.Name x px, .Name y py] X.env).length = 2 := by rfl) (hst : (assignEach [.Name x px, .Name y py] X.env).findIdx? (·.1) = none := by rfl)
    (he : starEach [a, b] X.env = (false, eval a X.env) :: starEach [b] X.env := by rfl) (he2 : starEach [b] X.env = (false, eval b X.env) :: starEach [] X.env := by rfl) :
    SW X (.Assign [.Tuple [.Name x px, .Name y py] kt pt] (.Tuple [a, b] k2 pt2) pos) Γ D := by
  intro A F H σ fm E k
  refine ⟨_, ps_asg (pe_tup (pa_cons pe_top (pa_cons pe_top pa_nil he2) he)) (pg_tup (n := 2) hc (pgs_cons (pg_name hN hi hx hfx) (pgs_cons (pg_name hN hj hy hfy) pgs_nil hs2) hs1) hn hst) hs hw h1, ?_⟩
  show EV X a σ H fun v H1 => EV X b σ H1 fun w H2 => [v, w].length ≤ sizeLine ∧ ∀ p, H2 p = none → ∃ a xs, V.ref p = .ref a ∧ SqT X.K (upd H2 p (.tup [v, w])) a xs ∧ xs.length = 2 ∧ ∃ v1 r1, xs = v1 :: r1 ∧ ∃ v2 r2, r1 = v2 :: r2 ∧ r2 = [] ∧ E.nx ((σ.set i (some v1)).set j (some v2)) (upd H2 p (.tup [v, w]))
  refine h.run fm Stp.refl fun d Γ1 v F1 H1 p s1 _ fm1 ok1 => ?_
  refine p A F1 H1 σ fm1 _ fun d2 Γ2 w F2 H2 p2 s12 fm2' ok2' => ?_
  refine ⟨by show 2 ≤ sizeLine; decide, fun pt np => ⟨pt, [v, w], rfl, .inl (.inl upd_same), rfl, v, [w], rfl, w, [], rfl, rfl, ?_⟩⟩
  obtain ⟨s, t, e1, e2, c1, c2, hp⟩ := p2
  have st3 : Stp σ Γ2 Γ2 F2 H2 F2 (upd H2 pt (.tup [v, w])) := Stp.alloc np
  have fm2 := fm2'.alloc (o := .tup [v, w]) np
  have ok2 := VOk.stp ok2' st3
  have ok1' := (VOk.stp ok1 s12).stp st3
  refine k.nx _ F2 _ _ hp ((s1.trans s12).f) ?_
  have fm3 := setDv fm2 ok1' e1 c1
  cases d2 with
  | dat z => cases e2; exact fm3.setDat c2 ok2
  | new ds =>
    cases e2
    obtain ⟨q, rfl, l, h0, no, hq⟩ := ok2
    refine fm3.setOwn c2 l h0 fun m hm z => ?_
    obtain ⟨z1, es, z2⟩ := z
    by_cases hmi : i = m
    · subst hmi
      cases d with
      | dat d =>
        cases e1
        rw [List.getElem?_set_self (canSet_lt c1).1] at z2
        rcases z2 with z2 | z2 <;> cases z2
      | new ds1 =>
        obtain ⟨q1, rfl, ⟨⟨xs, g, _⟩, _⟩, _⟩ := ok1
        rw [List.getElem?_set_self (by rw [fm2.len]; exact (canSet_lt c1).1)] at z1
        cases z1
        rw [hq] at g; cases g
      | loc m => cases e1
    · rw [List.getElem?_set_ne hmi] at z1 z2
      exact no ⟨m, z1, es, z2⟩
  | loc m => cases e2
/-- x, y, z, u = d1, [..], d3, d4: the second alone a new list -/
theorem sw_dis4 (i j l m : Nat) {x y z u : Str} {px py pz pu pt : Pos} {kt k2 : Nat} {pt2 : Pos} (hc : X.calm = true) (hN : X.N.Nodup)
    (h : EW X a Γ fun d Γ1 => EW X b Γ1 fun d2 Γ2 => EW X c Γ2 fun d3 Γ3 => EW X e Γ3 fun d4 Γ4 => ∃ s1 ds s3 s4, d = .dat s1 ∧ d2 = .new ds ∧ d3 = .dat s3 ∧ d4 = .dat s4 ∧ canSet Γ4 j = true ∧ canSet (Γ4.set j (.own ds)) i = true ∧ canSet ((Γ4.set j (.own ds)).set i (.dat s1)) l = true ∧ canSet (((Γ4.set j (.own ds)).set i (.dat s1)).set l (.dat s3)) m = true ∧ D.nx ((((Γ4.set j (.own ds)).set i (.dat s1)).set l (.dat s3)).set m (.dat s4)))
    (hij : i ≠ j := by decide)
    (hw : swappedStores [.Tuple [.Name x px, .Name y py, .Name z pz, .Name u pu] kt pt] (.Tuple [a, b, c, e] k2 pt2) X.env = pure none := by rfl)
    (hi : X.N[i]? = some x := by rfl) (hj : X.N[j]? = some y := by rfl) (hl : X.N[l]? = some z := by rfl) (hm : X.N[m]? = some u := by rfl) (hx : Loc X.env.scope x := by first | exact .inl rfl | exact .inr rfl) (hy : Loc X.env.scope y := by first | exact .inl rfl | exact .inr rfl) (hz : Loc X.env.scope z := by first | exact .inl rfl | exact .inr rfl) (hu : Loc X.env.scope u := by first | exact .inl rfl | exact .inr rfl)
    (hfx : X.fn x = true ∨ X.env.scope.names.lookup x = some .local := by first | exact .inl rfl | exact .inr rfl) (hfy : X.fn y = true ∨ X.env.scope.names.lookup y = some .local := by first | exact .inl rfl | exact .inr rfl) (hfz : X.fn z = true ∨ X.env.scope.names.lookup z = some .local := by first | exact .inl rfl | exact .inr rfl) (hfu : X.fn u = true ∨ X.env.scope.names.lookup u = some .local := by first | exact .inl rfl | exact .inr rfl)
    (hs : swapsWithSole [.Tuple [.Name x px, .Name y py, .Name z pz, .Name u pu] kt pt] (.Tuple [a, b, c, e] k2 pt2) pos.line X.env = pure false := by rfl)
    (h1 : (assignEach [.Tuple [.Name x px, .Name y py, .Name z pz, .Name u pu] kt pt] X.env).map (·.2) = [assign (.Tuple [.Name x px, .Name y py, .Name z pz, .Name u pu] kt pt) X.env] := by rfl)
    (hs1 : (assignEach [.Name x px, .Name y py, .Name z pz, .Name u pu] X.env).map (·.2) = assign (.Name x px) X.env :: (assignEach [.Name y py, .Name z pz, .Name u pu] X.env).map (·.2) := by rfl)
    (hs2 : (assignEach [.Name y py, .Name z pz, .Name u pu] X.env).map (·.2) = assign (.Name y py) X.env :: (assignEach [.Name z pz, .Name u pu] X.env).map (·.2) := by rfl)
    (hs3 : (assignEach [.Name z pz, .Name u pu] X.env).map (·.2) = assign (.Name z pz) X.env :: (assignEach [.Name u pu] X.env).map (·.2) := by rfl)
    (hs4 : (assignEach [.Name u pu] X.env).map (·.2) = assign (.Name u pu) X.env :: (assignEach [] X.env).map (·.2) := by rfl)
    (hn : (assignEach [.Name x px, .Name y py, .Name z pz, .Name u pu] X.env).length = 4 := by rfl) (hst : (assignEach [.Name x px, .Name y py, .Name z pz, .Name u pu] X.env).findIdx? (·.1) = none := by rfl)
    (he : starEach [a, b, c, e] X.env = (false, eval a X.env) :: starEach [b, c, e] X.env := by rfl) (he2 : starEach [b, c, e] X.env = (false, eval b X.env) :: starEach [c, e] X.env := by rfl) (he3 : starEach [c, e] X.env = (false, eval c X.env) :: starEach [e] X.env := by rfl) (he4 : starEach [e] X.env = (false, eval e X.env) :: starEach [] X.env := by rfl)
    (hne : i ≠ j ∧ j ≠ l ∧ j ≠ m := by decide) :
    SW X (.Assign [.Tuple [.Name x px, .Name y py, .Name z pz, .Name u pu] kt pt] (.Tuple [a, b, c, e] k2 pt2) pos) Γ D := by
  intro A F H σ fm E k
  refine ⟨_, ps_asg (pe_tup (pa_cons pe_top (pa_cons pe_top (pa_cons pe_top (pa_cons pe_top pa_nil he4) he3) he2) he)) (pg_tup (n := 4) hc (pgs_cons (pg_name hN hi hx hfx) (pgs_cons (pg_name hN hj hy hfy) (pgs_cons (pg_name hN hl hz hfz) (pgs_cons (pg_name hN hm hu hfu) pgs_nil hs4) hs3) hs2) hs1) hn hst) hs hw h1, ?_⟩
  show EV X a σ H fun v H1 => EV X b σ H1 fun w H2 => EV X c σ H2 fun v3 H3 => EV X e σ H3 fun v4 H4 => [v, w, v3, v4].length ≤ sizeLine ∧ ∀ p, H4 p = none → ∃ a xs, V.ref p = .ref a ∧ SqT X.K (upd H4 p (.tup [v, w, v3, v4])) a xs ∧ xs.length = 4 ∧ ∃ y1 r1, xs = y1 :: r1 ∧ ∃ y2 r2, r1 = y2 :: r2 ∧ ∃ y3 r3, r2 = y3 :: r3 ∧ ∃ y4 r4, r3 = y4 :: r4 ∧ r4 = [] ∧ E.nx ((((σ.set i (some y1)).set j (some y2)).set l (some y3)).set m (some y4)) (upd H4 p (.tup [v, w, v3, v4]))
  refine h.run fm Stp.refl fun d Γ1 v F1 H1 p st1 _ fm1 ok1 => ?_
  refine p.run fm1 st1 fun d2 Γ2 w F2 H2 p2 st2 t12 fm2 ok2 => ?_
  refine p2.run fm2 st2 fun d3 Γ3 v3 F3 H3 p3 st3 t23 fm3 ok3 => ?_
  refine p3.run fm3 st3 fun d4 Γ4 v4 F4 H4 p4 st4 t34 fm4' ok4' => ?_
  refine ⟨by show 4 ≤ sizeLine; decide, fun pt np => ⟨pt, [v, w, v3, v4], rfl, .inl (.inl upd_same), rfl, v, _, rfl, w, _, rfl, v3, _, rfl, v4, [], rfl, rfl, ?_⟩⟩
  obtain ⟨s1, ds, s3, s4, rfl, rfl, rfl, rfl, c1, c2, c3, c4, hp⟩ := p4
  have t5 : Stp σ Γ4 Γ4 F4 H4 F4 (upd H4 pt (.tup [v, w, v3, v4])) := Stp.alloc np
  have fm4 := fm4'.alloc (o := .tup [v, w, v3, v4]) np
  have o4 := VOk.stp ok4' t5
  have o3 := (VOk.stp ok3 t34).stp t5
  have o2 := ((VOk.stp ok2 t23).stp t34).stp t5
  have o1 := (((VOk.stp ok1 t12).stp t23).stp t34).stp t5
  have e : (((σ.set i (some v)).set j (some w)).set l (some v3)).set m (some v4) = (((σ.set j (some w)).set i (some v)).set l (some v3)).set m (some v4) := by
    rw [List.set_comm _ _ hij]
  rw [e]
  exact k.nx _ F4 _ _ hp st4.f ((((setDv fm4 o2 rfl c1).setDat c2 o1).setDat c3 o3).setDat c4 o4)
end
end VX

/-! VX: sorted(set(pairs)). -/
namespace VX
open PySem PySem.Spec PyProof.Rows L2
def adOf : V → Addr
  | .ref t => t
  | _ => 0
def ksOf (F : Hp) (vs : List V) : List (Addr × List Int) := vs.map fun v => (adOf v, [(pairIn F v).1, (pairIn F v).2])
theorem ksOf_ref {F : Hp} : ∀ {vs : List V}, (∀ v ∈ vs, ∃ t, v = .ref t ∧ F t = some (.tup [.int (pairIn F v).1, .int (pairIn F v).2])) → (ksOf F vs).map (fun p => V.ref p.1) = vs
  | [], _ => rfl
  | v :: vs, h => by
    obtain ⟨t, rfl, _⟩ := h v List.mem_cons_self
    show V.ref t :: (ksOf F vs).map (fun p => V.ref p.1) = _
    rw [ksOf_ref fun u hu => h u (List.mem_cons_of_mem _ hu)]
theorem lex_uniq {xs ys : List (Int × Int)} (hx : xs.Pairwise lexLt) (hy : ys.Pairwise lexLt) (h : ∀ p, p ∈ xs ↔ p ∈ ys) : xs = ys := by
  have irr : ∀ a : Int × Int, ¬ lexLt a a := fun a h => by
    rcases h with h | h <;> omega
  have nx : xs.Nodup := hx.imp (S := fun a b => a ≠ b) fun {a b} h => fun e : a = b => irr a (by rw [← e] at h; exact h)
  have ny : ys.Nodup := hy.imp (S := fun a b => a ≠ b) fun {a b} h => fun e : a = b => irr a (by rw [← e] at h; exact h)
  have pm : xs.Perm ys := (List.perm_ext_iff_of_nodup nx ny).mpr h
  refine List.Perm.eq_of_pairwise (le := lexLt) (fun u v _ _ a1 a2 => ?_) hx hy pm
  exfalso
  rcases a1 with a1 | a1 <;> rcases a2 with a2 | a2 <;> omega
section
variable {X : Cx} {Γ : List Dsc} {P : PD} {a b c e o tg iter elt : Expr} {es ifs : List Expr} {pos p p2 q2 pos' apos cpos : Pos} {x : Str}
theorem ew_sortedSet (hc : X.calm = true) (hu : X.A.units + 64 < cLine) (hm : X.mg "sorted" = none) (hm2 : X.mg "set" = none)
    (h : EW X e Γ fun x Γ1 => ∃ qs qs' : List (Int × Int), lstOf Γ1 x = some (qs.map pairD) ∧ qs.length < 64 ∧ (∀ q ∈ qs, (0 ≤ q.1 ∧ q.1 < 64) ∧ 0 ≤ q.2 ∧ q.2 < 64) ∧ (∀ q, q ∈ qs' ↔ q ∈ qs) ∧ qs'.Pairwise lexLt ∧ P (.new (qs'.map pairD)) Γ1) (hg : Gl X "sorted" := by rfl) (hg2 : Gl X "set" := by rfl)
    (he : starEach [e] X.env = (false, eval e X.env) :: starEach [] X.env := by rfl) (he2 : starEach [.Call (.Name "set" p2) [e] [] q2] X.env = (false, eval (.Call (.Name "set" p2) [e] [] q2) X.env) :: starEach [] X.env := by rfl) :
    EW X (.Call (.Name "sorted" p) [.Call (.Name "set" p2) [e] [] q2] [] pos) Γ P := by
  intro A F H σ fm Q q
  refine ⟨_, pe_callB (cr_sortedT hc) hg hm (by decide +kernel) (pa_cons (pe_callTy (cr_setOfT hc hu) hg2 hm2 PyProof.Rows.boot_set (pa_cons pe_top pa_nil he) (by decide) (by decide) he (by rfl)) pa_nil he2) (by decide) (by decide) he2 (by rfl), ?_⟩
  show EV X e σ H fun v H1 => rSetOfT X.K X.prog X.w [v] H1 fun u H2 => rSortedT X.K X.prog X.w [u] H2 Q
  refine h.run fm Stp.refl fun x Γ1 v F1 H1 hx s1 _ fm1 ok => ?_
  obtain ⟨qs, qs', hd, hl, hb, hmem, hpw, hp⟩ := hx
  obtain ⟨l, vs, rfl, g, r⟩ := VOk.lst ok fm1 hd
  obtain ⟨h1, h2⟩ := pairs_in r
  have hk : ∀ p ∈ ksOf F1 vs, ∃ v ∈ vs, p = (adOf v, [(pairIn F1 v).1, (pairIn F1 v).2]) ∧ v = .ref p.1 ∧ F1 p.1 = some (.tup (p.2.map V.int)) := fun p hp => by
    obtain ⟨v, hv, rfl⟩ := List.mem_map.mp hp
    obtain ⟨t, rfl, e2⟩ := h1 v hv
    exact ⟨.ref t, hv, rfl, rfl, e2⟩
  have hin : ∀ v ∈ vs, pairIn F1 v ∈ qs := fun v hv => by rw [← h2]; exact List.mem_map.mpr ⟨v, hv, rfl⟩
  refine ⟨l, ksOf F1 vs, rfl, ?_, fun p hp => ?_, ?_, fun a L na hL1 hL2 => ?_⟩
  · rw [ksOf_ref h1]; exact .inl (.inl g)
  · obtain ⟨v, _, _, _, e2⟩ := hk p hp
    exact .inl (.inl (fm1.fh _ _ e2))
  · show (List.map _ vs).length < 64
    rw [List.length_map, ← r.len, List.length_map]; exact hl
  · have st2 : Stp σ Γ1 Γ1 F1 H1 F1 (upd H1 a (SetTO X.prog X.w a L)) := Stp.alloc na
    have fm2 := fm1.alloc (o := SetTO X.prog X.w a L) na
    refine ⟨a, L, 2, 64, rfl, upd_same, fun p hp => ?_, by decide, fun p hp => ?_, fun L' b pm nd hlt pw nb => ?_⟩
    · obtain ⟨v, _, _, _, e2⟩ := hk p (hL1 p hp)
      exact .inl (.inl (fm2.fh _ _ e2))
    · obtain ⟨v, hv, e1, _, _⟩ := hk p (hL1 p hp)
      obtain ⟨b1, b2⟩ := hb _ (hin v hv)
      rw [e1]
      refine ⟨rfl, fun m hm => ?_⟩
      rcases List.mem_cons.mp hm with rfl | hm
      · exact b1
      · rcases List.mem_cons.mp hm with rfl | hm
        · exact b2
        · cases hm
    · have hL' : ∀ p ∈ L', ∃ v ∈ vs, p = (adOf v, [(pairIn F1 v).1, (pairIn F1 v).2]) ∧ v = .ref p.1 ∧ F1 p.1 = some (.tup (p.2.map V.int)) := fun p hp => hk p (hL1 p (pm.mem_iff.mp hp))
      have hvL : ∀ p ∈ L', ∃ t, V.ref p.1 = .ref t ∧ F1 t = some (.tup [.int (pairIn F1 (V.ref p.1)).1, .int (pairIn F1 (V.ref p.1)).2]) := fun p hp => by
        obtain ⟨v, hv, e1, e2, e3⟩ := hL' p hp
        rw [← e2]
        exact h1 v hv
      have hp2 : ∀ p ∈ L', p.2 = [(pairIn F1 (V.ref p.1)).1, (pairIn F1 (V.ref p.1)).2] := fun p hp => by
        obtain ⟨v, hv, e1, e2, e3⟩ := hL' p hp
        rw [← e2, e1]
      have e : (L'.map fun q => V.ref q.1).map (pairIn F1) = qs' := by
        refine lex_uniq ?_ hpw fun z => ?_
        · rw [List.map_map, List.pairwise_map]
          have nd' : L'.Pairwise fun a b => a.2 ≠ b.2 := List.pairwise_map.mp nd
          refine (List.Pairwise.and pw nd').imp_of_mem fun {u w} hu hw h => ?_
          have eu := hp2 u hu
          have ew := hp2 w hw
          obtain ⟨c1, c2⟩ := h
          rw [eu, ew] at c1 c2
          obtain ⟨vu, hvu, _, e2, _⟩ := hL' u hu
          obtain ⟨vw, hvw, _, e3, _⟩ := hL' w hw
          obtain ⟨b1, b2⟩ := hb _ (hin vu hvu)
          obtain ⟨b3, b4⟩ := hb _ (hin vw hvw)
          rw [e2] at b1 b2
          rw [e3] at b3 b4
          exact pair_lt c1 c2 b1 b2 b3 b4
        · rw [hmem z, ← h2]
          constructor
          · intro hz
            rw [List.map_map] at hz
            obtain ⟨p, hp, rfl⟩ := List.mem_map.mp hz
            obtain ⟨v, hv, _, e2, _⟩ := hL' p hp
            exact List.mem_map.mpr ⟨v, hv, by rw [e2]; rfl⟩
          · intro hz
            obtain ⟨v, hv, rfl⟩ := List.mem_map.mp hz
            have hkv : (adOf v, [(pairIn F1 v).1, (pairIn F1 v).2]) ∈ ksOf F1 vs := List.mem_map.mpr ⟨v, hv, rfl⟩
            obtain ⟨p, hp, ep⟩ := List.mem_map.mp (hL2 _ hkv)
            have hp' := pm.mem_iff.mpr hp
            rw [List.map_map]
            refine List.mem_map.mpr ⟨p, hp', ?_⟩
            have z2 := hp2 p hp'
            have z3 : [(pairIn F1 (V.ref p.1)).1, (pairIn F1 (V.ref p.1)).2] = [(pairIn F1 v).1, (pairIn F1 v).2] := z2.symm.trans ep
            injection z3 with y1 y2
            injection y2 with y2 _
            exact Prod.ext y1 y2
      have hy : ∀ v ∈ L'.map fun q => V.ref q.1, ∃ t, v = .ref t ∧ F1 t = some (.tup [.int (pairIn F1 v).1, .int (pairIn F1 v).2]) := fun v hv => by
        obtain ⟨p, hp, rfl⟩ := List.mem_map.mp hv
        exact hvL p hp
      have r2 := pairs_back (K := X.K) hy
      rw [e] at r2
      have s2 := s1.trans st2
      exact q _ _ _ _ _ hp (s2.trans (Stp.alloc nb)) (fm2.alloc nb) (newOk fm2 s2 nb r2)
end
end VX

/-! VX: sorted(xs, key=f), f an own def that gives ints and changes nothing. -/
namespace VX
open PySem PySem.Spec PyProof.Rows L2
/-- all that is there stays -/
structure Kp (H H' : Hp) : Prop where
  k : Ex H H'
  g : ∀ b, H' b = none → H b = none
theorem Kp.refl (H : Hp) : Kp H H := ⟨Ex.refl _, fun _ z => z⟩
theorem Kp.trans {H H1 H2 : Hp} (a : Kp H H1) (b : Kp H1 H2) : Kp H H2 := ⟨a.k.trans b.k, fun c z => a.g c (b.g c z)⟩
/-- what does not change of FpOk -/
def FpSt (X : Cx) (pins : List (Addr × Obj)) (b : Addr) : Prop :=
  b ≠ X.env.locals ∧ b ∉ X.fs ∧ (b ∈ X.ex ∨ X.s_0.heap.objs.size ≤ b) ∧ (∀ x c, X.env.cells.lookup x = some c → c ≠ b) ∧ ∀ p ∈ X.pn ++ pins, p.1 ≠ b
section
variable {X : Cx} {pins : List (Addr × Obj)} {σ : L2.St} {a kS : Addr} {vs : List Value} {xs : List V} {kz : List Int} {e1 : Nat} {f : Value} {A : Around} {E : Value → Shared → Prop} {P : PySem.Fin → Shared → Prop}
theorem inv_pin2 {H : Hp} {s : Shared} {o1 o2 : Obj} (I : Inv X pins σ H s) (h1 : s.heap.get? kS = some o1) (h2 : s.heap.get? a = some o2) (f1 : FpSt X pins kS) (f2 : FpSt X pins a) (n1 : H kS = none) (n2 : H a = none) (d1 : ∀ v, o1.data ≠ .cell v) (d2 : ∀ v, o2.data ≠ .cell v) :
    Inv X ((kS, o1) :: (a, o2) :: pins) σ H s :=
  I.pins_of fun p hp => by
    rcases List.mem_cons.mp hp with rfl | hp
    · exact ⟨h1, n1, f1.1, f1.2.1, d1⟩
    · rcases List.mem_cons.mp hp with rfl | hp
      · exact ⟨h2, n2, f2.1, f2.2.1, d2⟩
      · exact I.pin p (List.mem_append_right _ hp)
theorem inv_unpin {H : Hp} {s : Shared} {p1 p2 : Addr × Obj} (I : Inv X (p1 :: p2 :: pins) σ H s) : Inv X pins σ H s :=
  I.pins_of fun p hp => I.pin p (List.mem_append_right _ (List.mem_cons_of_mem _ (List.mem_cons_of_mem _ hp)))
/-- the keys are asked for, then the sort -/
theorem sk_rest {H : Hp} {s : Shared} (I : Inv X pins σ H s) (hk0 : s.heap.get? kS = some (seqObj "list" #[] 0)) (ha0 : s.heap.get? a = some (seqObj "list" #[] e1)) (hka : kS ≠ a) (fk : FpSt X pins kS) (fa : FpSt X pins a) (nk : H kS = none) (na : H a = none)
    (hv : Vals xs vs) (hlen : kz.length = vs.length) (h64 : vs.length < 64)
    (turn : ∀ (i : Nat) (x : V) (v : Value) (k : Int) (pins' : List (Addr × Obj)) (H1 : Hp) (s1 : Shared), xs[i]? = some x → RelV x v → kz[i]? = some k → Kp H H1 → Inv X pins' σ H1 s1 →
      wpAny (model X.prog X.w) A (call f [v]) (EP X pins' σ fun r H2 => r = .int k ∧ Kp H1 H2) (fun _ _ => False) s1)
    (h : ∀ (H2 : Hp) (s2 : Shared) (ys : List V), Kp H H2 → H2 a = none → Inv X pins σ (upd H2 a (.lst ys)) s2 → ys.Perm xs → P (.done (.ret .none)) s2) :
    wpAny (model X.prog X.w) A (ksk_rest a f false vs.toArray e1 (.ref kS)) P E s := by
  unfold ksk_rest
  refine wpAny_bind (wpAny_rule ?_)
  first
    | rw [List.forIn_toArray]
    | (rw [← Array.forIn_toList]; simp only [List.toList_toArray])
    | rw [← Array.forIn_toList]
  refine wpAny_bind (ksk_fold (fun i s' => ∃ H1 kA e, Kp H H1 ∧ H1 kS = none ∧ H1 a = none ∧ Inv X pins σ H1 s' ∧ s'.heap.get? kS = some (seqObj "list" kA e) ∧ s'.heap.get? a = some (seqObj "list" #[] e1) ∧ IntsAre kA.toList (kz.take i)) vs 0 s
    ⟨H, #[], 0, Kp.refl _, nk, na, I, hk0, ha0, by simpa using IntsAre.nil⟩ ?step ?done)
  case step =>
    rintro j v s' hx ⟨H1, kA, e, kp, n1, n2, I1, g1, g2, hk⟩
    simp only [Nat.zero_add] at hk ⊢
    have hj : j < vs.length := (List.getElem?_eq_some_iff.mp hx).1
    obtain ⟨k, hkj⟩ : ∃ k, kz[j]? = some k := ⟨_, List.getElem?_eq_getElem (by omega)⟩
    have hz : kA.size ≤ vs.length := by
      have h1 := hk.length
      rw [Array.length_toList, List.length_take] at h1
      omega
    have hxl : j < xs.length := by rw [hv.length]; exact hj
    obtain ⟨u, hu, ru⟩ := hv.get (List.getElem?_eq_getElem hxl)
    rw [hx] at hu
    cases hu
    have I2 := inv_pin2 I1 g1 g2 fk fa n1 n2 (fun v q => nomatch q) (fun v q => nomatch q)
    refine wpAny_bind (wpAny_attempt (wpAny_mono (turn j _ v k _ H1 s' (List.getElem?_eq_getElem hxl) ru hkj kp I2) (fun w s'' he => ?_) fun _ _ hF => hF.elim))
    obtain ⟨r, H2, I3, rr, rfl, kp2⟩ := he
    obtain ⟨t2, rfl⟩ := rr
    try dsimp only
    have q1 := I3.pin (kS, seqObj "list" kA e) (List.mem_append_right _ List.mem_cons_self)
    have q2 := I3.pin (a, seqObj "list" #[] e1) (List.mem_append_right _ (List.mem_cons_of_mem _ List.mem_cons_self))
    have I4 := inv_unpin I3
    have s1 := Heap.SameBut.update s''.heap kS (Obj.mapSeq (·.push (.int k t2)))
    obtain ⟨c2, hc2⟩ : ∃ c2, (s''.heap.update kS (Obj.mapSeq (·.push (.int k t2)))).get? kS = some (seqObj "list" (kA.push (.int k t2)) c2) := ⟨_, get?_update_seq q1.1 (·.push (.int k t2))⟩
    have ek : kz.take (j + 1) = kz.take j ++ [k] := by rw [List.take_add_one, hkj]; simp
    have ea : (kA.push (Value.int k t2)).toList = kA.toList ++ [Value.int k t2] := by simp
    refine wpAny_bind (listUpdate_at q1.1 rfl ?_ (by rw [sizeLine_eq]; omega) (Nat.le_trans (Nat.le_of_eq (Array.size_push ..)) (by rw [sizeLine_eq]; omega)))
    refine wpAny_pure ⟨rfl, H2, kA.push (.int k t2), c2, kp.trans kp2, q1.2.1, q2.2.1, ?_, hc2, (s1.2 a hka.symm).trans q2.1, by rw [ea, ek]; exact ksk_snoc hk⟩
    exact I4.turnedL (t' := s''.toks) (ch := [kS]) (fun b o hb q => (s1.2 b (fun z => hb (by simp [z]))).trans q) fun b hb => by
      have : b = kS := by simpa using hb
      subst this
      exact ⟨q1.2.1, fk⟩
  case done =>
    rintro s' ⟨H1, kA, e, kp, n1, n2, I1, g1, g2, hk⟩
    have hk' : IntsAre kA.toList kz := by
      have e3 : kz.take (0 + vs.length) = kz := List.take_of_length_le (by omega)
      rw [e3] at hk
      exact hk
    try dsimp only
    refine wpAny_bind (listItems_at g1 rfl ?_)
    obtain ⟨m, F⟩ := I1.fr
    have bk : X.base.get? kS = none := by
      cases q : X.base.get? kS with
      | none => rfl
      | some o =>
        rcases fk.2.2.1 with z | z
        · exact absurd z (I1.ok.noex _ _ q)
        · exact absurd (Nat.lt_of_lt_of_le (Heap.lt_size (I1.ok.bs _ _ q).1) z) (Nat.lt_irrefl _)
    have ba : X.base.get? a = none := by
      cases q : X.base.get? a with
      | none => rfl
      | some o =>
        rcases fa.2.2.1 with z | z
        · exact absurd z (I1.ok.noex _ _ q)
        · exact absurd (Nat.lt_of_lt_of_le (Heap.lt_size (I1.ok.bs _ _ q).1) z) (Nat.lt_irrefl _)
    refine ksk_end_ (e := e) (news := (rest X.base s'.heap X.env.locals kS).filter fun p => decide (p.1 ≠ a)) F (fun p hp => ?_) hka (fun p hp => rest_ne p (List.mem_filter.mp hp).1) (fun p hp => of_decide_eq_true (List.mem_filter.mp hp).2) hk' hlen h64 fun h3 tk3 out c F3 N3 k3 => ?_
    · rcases List.mem_append.mp hp with hp | hp
      · exact news_all p (List.mem_filter.mp (List.mem_filter.mp hp).1).1
      · rcases List.mem_cons.mp hp with rfl | hp
        · exact ⟨g1, fk.1, bk⟩
        · rw [List.mem_singleton.mp hp]
          exact ⟨g2, fa.1, ba⟩
    · obtain ⟨ps, hp1, hp2, _⟩ := k3
      have hperm : out.toList.Perm vs := by
        rw [hp2]
        have z := hp1.map Prod.snd
        rw [List.map_snd_zip (by omega)] at z
        exact z
      obtain ⟨ys, hys, pys⟩ : ∃ ys : List V, Vals ys out.toList ∧ ys.Perm xs := by
        clear hp1 hp2 N3 F3 hlen h64 turn h hk hk'
        generalize out.toList = l at hperm
        clear out
        induction hperm generalizing xs with
        | nil => cases hv; exact ⟨[], .nil, .nil⟩
        | cons x _ ih =>
          cases hv with
          | cons r t =>
          obtain ⟨ys, h1, h2⟩ := ih t
          exact ⟨_ :: ys, .cons r h1, h2.cons _⟩
        | swap x y l =>
          cases hv with
          | cons r t =>
          cases t with
          | cons r' t =>
          exact ⟨_ :: _ :: _, .cons r' (.cons r t), List.Perm.swap _ _ _⟩
        | trans _ _ ih1 ih2 =>
          obtain ⟨ys, h1, h2⟩ := ih2 hv
          obtain ⟨zs, h3, h4⟩ := ih1 h1
          exact ⟨zs, h3, h4.trans h2⟩
      have ka := N3 _ List.mem_cons_self
      have keep : ∀ b o, b ∉ [kS, a, X.env.locals] → s'.heap.get? b = some o → h3.get? b = some o := fun b o hb q => by
        cases q0 : X.base.get? b with
        | some u =>
          have e0 := I1.bk b u q0
          rw [q] at e0; cases e0
          exact F3.keep b _ q0
        | none => exact (N3 (b, o) (List.mem_cons_of_mem _ (List.mem_filter.mpr ⟨mem_rest (fun z => hb (by simp [z])) q0 q (fun z => hb (by simp [z])), decide_eq_true (fun z => hb (by rw [show b = a from z]; simp))⟩))).1
      refine h H1 _ ys kp n2 ?_ pys
      have nb : ∀ b u, H1 b = some u → b ≠ kS ∧ b ≠ a := fun b u q => ⟨ne_of_none q n1, ne_of_none q n2⟩
      have hch : ∀ b ∈ [kS, a], FpSt X pins b := fun b hb => by
        have : b = kS ∨ b = a := by simpa using hb
        rcases this with rfl | rfl
        · exact fk
        · exact fa
      have kp' : ∀ b o, b ≠ X.env.locals → b ∉ [kS, a] → s'.heap.get? b = some o → h3.get? b = some o := fun b o h1 h2 q => keep b o (fun z => by
        have : b = kS ∨ b = a ∨ b = X.env.locals := by simpa using z
        rcases this with z | z | z
        · exact h2 (by simp [z])
        · exact h2 (by simp [z])
        · exact h1 z) q
      refine I1.step (g' := s'.gens) (d' := s'.drawn) (ch := [kS, a]) (fun b hb => ⟨(hch b hb).2.2.1, (hch b hb).1, (hch b hb).2.2.2.1, (hch b hb).2.2.2.2⟩) (fun b o h1 _ hc e _ => kp' b o h1 hc e) (fun b o h1 _ hc e _ => ⟨o.slots, kp' b o h1 hc e⟩)
        (fun b o hc _ n => ?_) (fun b o hc q => ?_) (fun b xs q => ?_) (fun b o u q => ?_) (fun b ps q => ⟨#[], ?_⟩) (fun m' hm => ?_) (fun b u q => ?_) I1.bare
      · rw [upd_ne (fun z => hc (by simp [z]))]; exact n
      · by_cases hL : b = X.env.locals
        · subst hL
          obtain ⟨o', es, ep, ho, _⟩ := F3.ns
          exact ⟨_, ho⟩
        · exact ⟨o, kp' b o hL hc q⟩
      · rw [upd_ne (nb _ _ q).2]; exact q
      · rw [upd_ne (nb _ _ q).2]; exact q
      · rw [upd_ne (nb _ _ q).2, q]; simp
      · rw [SlX.ns_only hm F.ns]
        exact F3.ns
      · by_cases hb : b = a
        · subst hb
          rw [upd_same] at q
          cases q
          refine ⟨?_, out.toList, c, hys, ?_⟩
          · rw [pys.length_eq, hv.length, sizeLine_eq]; omega
          · rw [Array.toArray_toList]; exact ka.1
        · rw [upd_ne hb] at q
          refine (I1.hok b u q).stay (fun c v hc q' => kp' c v ?_ ?_ q') (fun c q' => by rw [upd_ne (nb _ _ q').2]; exact q') fun c xs q' => by rw [upd_ne (nb _ _ q').2]; exact q'
          · rcases hc with z | z
            · rw [z]; exact fun y => by rw [y, I1.free] at q; cases q
            · exact fun y => by rw [y, I1.free] at z; cases z
          · have : c ≠ kS ∧ c ≠ a := by
              rcases hc with z | z
              · rw [z]; exact nb b u q
              · exact nb c _ z
            simp [this]
end
end VX

namespace VX
open PySem PySem.Spec PyProof.Rows L2
def rSortedOwn (K : PySem.W.Frag) (sp : Sp) (f : Addr) : List V → List V → Hp → VK → Prop := fun vs zs H Q => ∃ (l : Addr) (xs : List V) (kz : List Int), vs = [V.ref l] ∧ zs = [.ref f] ∧ SqL K H l xs ∧ xs.length < 64 ∧ kz.length = xs.length ∧
  (∀ (i : Nat) (x : V) (k : Int), xs[i]? = some x → kz[i]? = some k → ∀ H1, Kp H H1 → sp [x] H1 (fun r H2 => r = .int k ∧ Kp H1 H2) E0) ∧
  ∀ (ys : List V) (H2 : Hp) (p : Addr), ys.Perm xs → Kp H H2 → H2 p = none → Q (.ref p) (upd H2 p (.lst ys))
section
variable {X : Cx} {Γ : List Dsc} {P : PD} {a b c e o tg iter elt : Expr} {es ifs : List Expr} {pos p p2 q2 pos' apos cpos kpos : Pos} {x y : Str}
theorem cr_sortedOwn {k j : Nat} {f : Addr} {fd : FuncData} {ps : List Str} {sp : Sp} (Fn : FnOk X.prog X.w X.K X.mg X.base CX0 k f fd ps sp) (hb : Binds X.K fd ps []) (hr : Room j X.A) (hk : k + 2 ≤ j) :
    CallRK X (.builtin "sorted") [Str.ofString "key"] (rSortedOwn X.K sp f) := by
  intro pins s σ H xs0 zs0 us ws Q I r1 r2 h
  obtain ⟨l, xs, kz, rfl, rfl, hl, h64, hkz, turn, q⟩ := h
  cases r2 with
  | cons rf r2 =>
  cases r2
  cases rf
  rw [Vals.ref1 r1]
  obtain ⟨its, rv, pl, hz⟩ := I.list hl
  have hlen : xs.length = its.length := rv.length
  have hLs : s.heap.IsList l its.toArray := pl.isList
  show wpAny (model X.prog X.w) X.A (call (.builtin "sorted") [.ref l] [(Str.ofString "key", .ref f)]) (EP X pins σ Q) X.xe s
  refine call_function_entry_kw kind_sorted plain_sorted entry_sorted (ksk_s1 _ _) ?_
  unfold Builtin.«sorted»
  refine wpAny_bind (m := checkCount "sorted" 1 1 _) (wpAny_pure ?_)
  refine wpAny_bind (collect_list hLs ?_ (by first | (rw [List.size_toArray, sizeLine_eq]; omega) | (rw [sizeLine_eq]; omega)))
  refine wpAny_bind (wpAny_newList ?_ (by rw [sizeLine_eq]; first | omega | (simp; omega)))
  have hsz : ((s.heap.push (seqObj "list" #[] 0)).update s.heap.objs.size (Obj.mapSeq (· ++ its.toArray))).objs.size = s.heap.objs.size + 1 := by
    rw [Heap.size_update, size_push']
  have hoL : (((s.heap.push (seqObj "list" #[] 0)).update s.heap.objs.size (Obj.mapSeq (· ++ its.toArray))).push (seqObj "list" its.toArray 0)).get? (s.heap.objs.size + 1) = some (seqObj "list" its.toArray 0) := by
    rw [← hsz]; exact Heap.get?_push_size _ rfl
  have keep : ∀ b o, s.heap.get? b = some o → (((s.heap.push (seqObj "list" #[] 0)).update s.heap.objs.size (Obj.mapSeq (· ++ its.toArray))).push (seqObj "list" its.toArray 0)).get? b = some o := fun b o q => by
    have hlt : b < s.heap.objs.size := Heap.lt_size q
    rw [Heap.get?_push_ne _ _ _ (by rw [hsz]; exact Nat.ne_of_lt (Nat.lt_succ_of_lt hlt)), Heap.get?_update_ne _ _ _ _ (Nat.ne_of_lt hlt), Heap.get?_push_ne _ _ _ (Nat.ne_of_lt hlt)]
    exact q
  show wpAny _ _ _ _ _ { s with heap := ((s.heap.push (seqObj "list" #[] 0)).update s.heap.objs.size (Obj.mapSeq (· ++ its.toArray))).push (seqObj "list" its.toArray 0) }
  rw [hsz]
  generalize hh1 : (((s.heap.push (seqObj "list" #[] 0)).update s.heap.objs.size (Obj.mapSeq (· ++ its.toArray))).push (seqObj "list" its.toArray 0)) = h1 at hoL keep ⊢
  have hs1 : h1.objs.size = s.heap.objs.size + 2 := by rw [← hh1, size_push', hsz]
  refine wpAny_bind (wpAny_holding (wpAny_call_entry_kw slot_list_sort ⟨_, hoL, rfl⟩ entry_list_sort ?body (ksk_l1 _ _)))
  case body =>
    show wpAny (model X.prog X.w) X.A.in1.in1 (Builtin.«list.sort» ⟨[.ref (s.heap.objs.size + 1)], [(Str.ofString "key", .ref f)]⟩) _ _ _
    rw [ksk_t1]
    obtain ⟨e1, ho1⟩ : ∃ e1, (h1.update (s.heap.objs.size + 1) (Obj.mapSeq fun _ => (#[] : Array Value))).get? (s.heap.objs.size + 1) = some (seqObj "list" #[] e1) := ⟨_, get?_update_seq hoL fun _ => #[]⟩
    unfold ksk_tree
    refine wpAny_bind (listItems_at (s := { s with heap := h1 }) hoL rfl ?_)
    refine wpAny_bind (listUpdate_at (s := { s with heap := h1 }) hoL rfl ?_ (by rw [List.size_toArray, sizeLine_eq]; omega) (Nat.zero_le _))
    refine wpAny_bind (seqEpoch_at (s := { s with heap := h1.update (s.heap.objs.size + 1) (Obj.mapSeq fun _ => (#[] : Array Value)) }) ho1 rfl ?_)
    refine wpAny_bind (wpAny_newTuple ?_ (by show its.length ≤ _; rw [sizeLine_eq]; omega))
    refine wpAny_bind (wpAny_newList ?_ (Nat.zero_le _))
    refine wpAny_holding ?_
    have hs2 : (h1.update (s.heap.objs.size + 1) (Obj.mapSeq fun _ => (#[] : Array Value))).objs.size = s.heap.objs.size + 2 := by rw [Heap.size_update, hs1]
    have hs3 : ((h1.update (s.heap.objs.size + 1) (Obj.mapSeq fun _ => (#[] : Array Value))).push (seqObj "tuple" its.toArray 0)).objs.size = s.heap.objs.size + 3 := by rw [size_push', hs2]
    have keep2 : ∀ b o, s.heap.get? b = some o → (((h1.update (s.heap.objs.size + 1) (Obj.mapSeq fun _ => (#[] : Array Value))).push (seqObj "tuple" its.toArray 0)).push (seqObj "list" #[] 0)).get? b = some o := fun b o q => by
      have hlt : b < s.heap.objs.size := Heap.lt_size q
      refine Heap.get?_push_of_some _ (Heap.get?_push_of_some _ ?_)
      rw [Heap.get?_update_ne _ _ _ _ (Nat.ne_of_lt (Nat.lt_succ_of_lt hlt))]
      exact keep b o q
    have I2 : Inv X pins σ H { s with heap := ((h1.update (s.heap.objs.size + 1) (Obj.mapSeq fun _ => (#[] : Array Value))).push (seqObj "tuple" its.toArray 0)).push (seqObj "list" #[] 0) } := I.kept (t' := s.toks) keep2
    have fp : ∀ b, s.heap.objs.size ≤ b → FpSt X pins b ∧ H b = none := fun b hb => by
      have n := I.hok.fresh hb
      exact ⟨(I.fpOk hb n).2, n⟩
    obtain ⟨fa, na⟩ := fp (s.heap.objs.size + 1) (Nat.le_succ _)
    obtain ⟨fk, nk⟩ := fp (s.heap.objs.size + 3) (by omega)
    show wpAny _ _ (ksk_rest (s.heap.objs.size + 1) (.ref f) false its.toArray e1 (.ref ((h1.update (s.heap.objs.size + 1) (Obj.mapSeq fun _ => (#[] : Array Value))).push (seqObj "tuple" its.toArray 0)).objs.size)) _ _ _
    rw [hs3]
    refine sk_rest (xs := xs) (kz := kz) I2 (by rw [← hs3]; exact Heap.get?_push_size _ rfl) (Heap.get?_push_of_some _ (Heap.get?_push_of_some _ ho1)) (Nat.ne_of_gt (Nat.add_lt_add_left (by decide) _)) fk fa nk na rv (by rw [hkz, hlen]) (by rw [← hlen]; exact h64)
      (fun i x v ki pins' H1 s1 hx rx hki kp I1 => ?_) fun H2 s2 ys kp n2 I3 pm => ⟨_, rfl, ?_⟩
    · have hsp := turn i x ki hx hki H1 kp
      have hr' : Room k X.A.in1.in1 := ((hr.mono hk).in1).in1
      have hl' : ([v] : List Value).length = ps.length := Fn.len _ _ _ _ hsp ▸ rfl
      refine wpAny_call (codeAny_mono (Fn.run X.A.in1.in1 X.stack s1 H1 ⟨[v], []⟩ [v] [x] _ E0 hr' I1.env0.in1.in1 (hb s1 [v] I1.kIn hl') (.cons rx .nil) hsp) fun r s' hq => ?_)
      cases r with
      | error e => exact hq.elim
      | ok fl =>
        cases fl with
        | ret u => exact I1.after hq
        | next => exact False.elim hq
        | brk => exact False.elim hq
        | cont => exact False.elim hq
    · exact wpAny_pure ⟨_, rfl, .ref (s.heap.objs.size + 1), _, I3, rfl, q ys H2 _ pm kp n2⟩
/-- sorted(e, key=f) -/
theorem ew_sortedK {k j : Nat} {S : Spc} (cf : C8.Cal X.prog X.w X.K X.mg X.base k y (spW X.K S) []) (hr : Room j X.A) (hk : k + 2 ≤ j) (hm : X.mg "sorted" = none)
    (h : EW X e Γ fun x Γ1 => ∃ (ds : List D) (kz : List Int), lstOf Γ1 x = some ds ∧ ds.length < 64 ∧ kz.length = ds.length ∧ (∀ (i : Nat) d z, ds[i]? = some d → kz[i]? = some z → S [.dat d] fun r _ => r = .dat (.int z)) ∧ ∀ ds' : List D, ds'.Perm ds → P (.new ds') Γ1) (hg : Gl X "sorted" := by rfl) (hgy : Gl X y := by rfl)
    (hdb : (y == ("__debug__" : Str)) = false := by decide)
    (he : backTo pos (starEach [e] X.env) = (false, eval e X.env) :: backTo pos (starEach [] X.env) := by rfl) (hpl : (backTo pos (starEach [e] X.env)).any (·.1) = false := by rfl) (hst : starEach [e] X.env = (false, eval e X.env) :: starEach [] X.env := by rfl)
    (hall : (backToKw pos (keywordEach [⟨some (Str.ofString "key"), .Name y p2, kpos⟩] X.env)).all (·.1.isSome) = true := by rfl) (hnone : (backToKw pos (keywordEach [⟨some (Str.ofString "key"), .Name y p2, kpos⟩] X.env)).any (·.1.isNone) = false := by rfl) (hks : (backToKw pos (keywordEach [⟨some (Str.ofString "key"), .Name y p2, kpos⟩] X.env)).filterMap (·.1) = [Str.ofString "key"] := by rfl) :
    EW X (.Call (.Name "sorted" p) [e] [⟨some (Str.ofString "key"), .Name y p2, kpos⟩] pos) Γ P := by
  intro A F H σ fm Q q
  obtain ⟨f, fd, ps, dvs, Fn, hmy, kp, b, dv⟩ := cf.ex
  cases dv
  refine ⟨_, pe_callBK (cr_sortedOwn Fn b hr hk) hg hm (by decide +kernel) (pa_cons pe_top pa_nil hst) (pk_cons (pe_glob (v := .ref f) hgy hmy rfl hdb) pk_nil) (by decide) (by decide) he hpl hall hnone hks, ?_⟩
  show EV X e σ H fun v H1 => rSortedOwn X.K (spW X.K S) f [v] [.ref f] H1 Q
  refine h.run fm Stp.refl fun x Γ1 v F1 H1 hx s1 _ fm1 ok => ?_
  obtain ⟨ds, kz, hd, hl, hkz, hS, hp⟩ := hx
  obtain ⟨a, xs, rfl, g, r⟩ := VOk.lst ok fm1 hd
  have hlx : ds.length = xs.length := r.len
  refine ⟨a, xs, kz, rfl, rfl, .inl (.inl g), by omega, by omega, fun i x z hx hz H2 kp2 => ?_, fun ys H2 b pm kp2 nb => ?_⟩
  · obtain ⟨d, hd, rd⟩ := r.getV hx
    refine ⟨F1, [.dat d], _, fm1.fh.trans kp2.k, .dat rd .nil, List.nodup_nil, hS i d z hd hz, fun r outs w F' H' hr f fh n kk g rt os => ?_⟩
    subst hr
    exact ⟨Rep.int_eq rt, fun b o e => kk b o e (by show b ∉ []; simp), g⟩
  · obtain ⟨ds', e1, e2⟩ : ∃ ds', Reps X.K F1 ds' ys ∧ ds'.Perm ds := by
      clear hp hS hkz hl hd g hlx
      induction pm generalizing ds with
      | nil => cases r; exact ⟨[], .nil, .nil⟩
      | cons x _ ih =>
        cases r with
        | cons r t =>
        obtain ⟨ys, h1, h2⟩ := ih _ t
        exact ⟨_ :: ys, .cons r h1, h2.cons _⟩
      | swap x y l =>
        cases r with
        | cons r t =>
        cases t with
        | cons r' t =>
        exact ⟨_ :: _ :: _, .cons r' (.cons r t), List.Perm.swap _ _ _⟩
      | trans _ _ ih1 ih2 =>
        obtain ⟨ys, h1, h2⟩ := ih2 _ r
        obtain ⟨zs, h3, h4⟩ := ih1 _ h1
        exact ⟨zs, h3, h4.trans h2⟩
    have st2 : Stp σ Γ1 Γ1 F1 H1 F1 H2 := ⟨Ex.refl _, fun b o e _ => kp2.k b o e, fun _ _ _ z => z, kp2.g, Sim.refl _⟩
    have fm2 : Fm X.K A F1 H2 σ Γ1 := by
      refine fm1.upd (Ex.refl _) (fm1.fh.trans kp2.k) (fun _ _ _ z => z) (fun b o e _ => kp2.k b o e) (Sim.refl _) fun i a' ds oa hh => ?_
      have l2 : LstAt X.K F1 H1 a' ds := by
        rcases hh with hh | hh
        · obtain ⟨b, e1, l, _⟩ := fm1.own i ds hh
          rw [oa.1] at e1; cases e1; exact l
        · obtain ⟨b, e1, l, _⟩ := fm1.iio i ds hh
          rw [oa.1] at e1; cases e1; exact l
      obtain ⟨⟨ys, ey, ry⟩, z⟩ := l2
      exact ⟨⟨ys, kp2.k a' _ ey, ry⟩, z⟩
    have s2 := s1.trans st2
    exact q _ _ _ _ _ (hp ds' e2) (s2.trans (Stp.alloc nb)) (fm2.alloc nb) (newOk fm2 s2 nb e1)
end
end VX

namespace V85
open PySem PySem.Spec PyProof.Rows L2 VX
def topS (i : Nat) : Stmt := PySem.Challenge.pw_anydlooks_k85_whole_renewals_by_counting.main.body.getD i (.Pass ⟨0, 0, 0, 0⟩)
def Gc (mg : Str → Option Value) (x : Str) (v : V) : Prop := ∃ u, mg x = some u ∧ RelV v u
theorem ew_gc {X : Cx} {Γ : List Dsc} {P : PD} {x : Str} {pos : Pos} {d : D} {v : V} (h : Gc X.mg x v) (hd : scV d = some v) (q : P (.dat d) Γ) (hg : Gl X x := by rfl) (hb : (x == ("__debug__" : Str)) = false := by decide) : EW X (.Name x pos) Γ P := by
  obtain ⟨u, hm, r⟩ := h
  exact ew_glob hm hd r q hg hb
/-- the builtins are not shadowed; the module's constants -/
structure Bs (mg : Str → Option Value) : Prop where
  len : mg "len" = none
  isinstance : mg "isinstance" = none
  int : mg "int" = none
  bool : mg "bool" = none
  tuple : mg "tuple" = none
  list : mg "list" = none
  str : mg "str" = none
  all : mg "all" = none
  any : mg "any" = none
  range : mg "range" = none
  zip : mg "zip" = none
  enumerate : mg "enumerate" = none
  sorted : mg "sorted" = none
  sum : mg "sum" = none
  abs : mg "abs" = none
  min : mg "min" = none
  set : mg "set" = none
  LEAST_WAYS : Gc mg "LEAST_WAYS" (.int 2)
  MOST_WAYS : Gc mg "MOST_WAYS" (.int 4)
  DRAW : Gc mg "DRAW" (.str "draw")
  SET : Gc mg "SET" (.str "set")
  FEWEST : Gc mg "FEWEST" (.int 2)
section
variable {P : Program} {w : World} {K : PySem.W.Frag} {mg : Str → Option Value} {base : Heap}
def isNum : D → Bool
  | .int _ => true
  | _ => false
def s_is_number : Spc := fun as P => ∃ d, as = [.dat d] ∧ (∃ i, d = .int i) ∧ P (.dat (.bl true)) []
theorem sc_is_number : FnScope ["thing"] ["thing"] (defScope (topS 4)) := ⟨rfl, rfl, rfl, by decide +kernel, rfl, by decide +kernel, by decide +kernel⟩
theorem ok_is_number {f : Addr} {fd : FuncData} (F : Fun K "is_number" "is_number" (topS 4) f fd) (B : Bs mg) (k : Nat) : FnOk P w K mg base CX0 (k + 1) f fd ["thing"] (spW K s_is_number) := by
  have sc := sc_is_number
  refine fn_w F sc (fun as P h => ?_) fun cdv A outer s H E hr as R h => ?_
  · obtain ⟨d, rfl, h⟩ := h
    rfl
  obtain ⟨d, rfl, ⟨i, rfl⟩, h⟩ := h
  show SsW _ _ [.dat (.int i)] _
  refine ssw_one ?_
  refine sw_ret ?_
  refine ew_and ?_
  refine ew_isi (T := "int") B.isinstance B.int rfl ?_
  refine ew_name 0 rfl (by nofun) ?_
  refine ⟨_, rfl, ?_⟩
  refine ⟨_, rfl, fun hb => ?_, fun hb => by cases hb⟩
  refine ew_one ?_
  refine ew_not ?_
  refine ew_isi (T := "bool") B.isinstance B.bool rfl ?_
  refine ew_name 0 rfl (by nofun) ?_
  refine ⟨_, rfl, ?_⟩
  refine ⟨_, rfl, ?_⟩
  exact ⟨_, rfl, h⟩
end
end V85

namespace V85
open PySem PySem.Spec PyProof.Rows L2 VX
def Tp : Nat → D → Prop
  | m, .tup ts => match m with
    | 0 => False
    | m + 1 => ts.length < 1000000 ∧ ∀ t ∈ ts, Tp m t
  | _, .lst _ => False
  | _, .scr _ => False
  | _, _ => True
def s_tupled (m : Nat) : Spc := fun as P => ∃ d, as = [.dat d] ∧ Tp m d ∧ P (.dat d) []
def intsD (ns : List Int) : D := .tup (ns.map .int)
def s_rises : Spc := fun as P => ∃ ns, as = [.dat (intsD ns)] ∧ ns.length ≤ 1000 ∧ ns.Pairwise (· < ·) ∧ P (.dat (.bl true)) []
def s_is_tuple_of : Spc := fun as P => ∃ ds, as = [.dat (.tup ds), .dat (.int (ds.length : Nat))] ∧ P (.dat (.bl true)) []
def s_is_place : Spc := fun as P => ∃ i m : Int, as = [.dat (.int i), .dat (.int m)] ∧ (0 ≤ i ∧ i < m) ∧ P (.dat (.bl true)) []
def s_is_set_below : Spc := fun as P => ∃ (ns : List Int) (m : Int), as = [.dat (intsD ns), .dat (.int m)] ∧ (ns.length ≤ 1000 ∧ ns.Pairwise (· < ·) ∧ ∀ i ∈ ns, 0 ≤ i ∧ i < m) ∧ P (.dat (.bl true)) []
section
variable {P : Program} {w : World} {K : PySem.W.Frag} {mg : Str → Option Value} {base : Heap}
theorem sc_tupled : FnScope ["value", "own"] ["value"] (defScope (topS 5)) := ⟨rfl, rfl, rfl, by decide +kernel, rfl, by decide +kernel, by decide +kernel⟩
theorem ok_tupled {f : Addr} {fd : FuncData} (F : Fun K "tupled" "tupled" (topS 5) f fd) (B : Bs mg) (hm : mg "tupled" = some (.ref f)) (kp : PySem.W.keepIn K (.ref f) = true) (b : Binds K fd ["value"] []) : ∀ m : Nat, FnOk P w K mg base CX0 (m + 1) f fd ["value"] (spW K (s_tupled m)) := by
  intro m
  induction m with
  | zero =>
    have sc := sc_tupled
    refine fn_w F sc (fun as P h => ?_) fun cdv A outer s H E hr as R h => ?_
    · obtain ⟨d, rfl, h⟩ := h
      rfl
    obtain ⟨d, rfl, ht, h⟩ := h
    show SsW _ _ [.dat d, .un] _
    refine ssw_one ?_
    refine sw_ret ?_
    refine ew_if ?_
    refine tw_val ?_
    refine ew_isi2 (S := "list") (T := "tuple") B.isinstance B.list rfl B.tuple rfl ?_
    refine ew_name 0 rfl (by nofun) ?_
    cases d with
    | tup ts => exact ht.elim
    | lst ts => exact ht.elim
    | scr ts => exact ht.elim
    | _ =>
      refine ⟨_, _, rfl, rfl, ?_⟩
      refine ⟨_, rfl, ?_⟩
      refine ⟨fun hb => (nomatch hb), fun hb => ?_⟩
      refine ew_name 0 rfl (by nofun) ?_
      exact ⟨_, rfl, h⟩
  | succ m ih =>
    have C_tupled := cal_w ih hm kp b
    have sc := sc_tupled
    refine fn_w F sc (fun as P h => ?_) fun cdv A outer s H E hr as R h => ?_
    · obtain ⟨d, rfl, h⟩ := h
      rfl
    obtain ⟨d, rfl, ht, h⟩ := h
    show SsW _ _ [.dat d, .un] _
    refine ssw_one ?_
    refine sw_ret ?_
    refine ew_if ?_
    refine tw_val ?_
    refine ew_isi2 (S := "list") (T := "tuple") B.isinstance B.list rfl B.tuple rfl ?_
    refine ew_name 0 rfl (by nofun) ?_
    cases d with
    | lst ts => exact ht.elim
    | scr ts => exact ht.elim
    | tup ts =>
      obtain ⟨hl, ht⟩ : ts.length < 1000000 ∧ ∀ t ∈ ts, Tp m t := ht
      refine ⟨_, _, rfl, rfl, ?_⟩
      refine ⟨_, rfl, ?_⟩
      refine ⟨fun hb => ?_, fun hb => (nomatch hb)⟩
      refine ew_tuple B.tuple ?_
      refine ew_lcM (.one 1) [("own", 1)] (fun x : D => x) (fun x => x) rfl sc.nd (blkOk_by (N := ["value", "own"]) (sc := defScope (topS 5)) (by decide +kernel)) (by decide) (fun _ _ _ _ _ => (pg_name (i := 1) sc.nd rfl (.inl rfl))) ?_
      refine iw_tup ?_
      refine ew_name 0 rfl (by nofun) ?_
      refine ⟨_, rfl, ?_⟩
      refine ⟨ts, ⟨(List.map_id' ts).symm, hl, rfl, fun x hx => ⟨_, rfl, ?_⟩⟩, ?_⟩
      · intro s H C cl fp
        refine ew_call C_tupled hr (Nat.le_refl _) ?_
        refine aw_cons ?_
        refine ew_name 1 rfl (by nofun) ?_
        refine aw_nil ?_
        refine ⟨_, rfl, List.nodup_nil, ⟨_, rfl, ht x hx, trivial, ?_⟩⟩
        exact ⟨rfl, rfl⟩
      refine ⟨_, rfl, ?_⟩
      exact ⟨_, rfl, by rw [List.map_id']; exact h⟩
    | _ =>
      refine ⟨_, _, rfl, rfl, ?_⟩
      refine ⟨_, rfl, ?_⟩
      refine ⟨fun hb => (nomatch hb), fun hb => ?_⟩
      refine ew_name 0 rfl (by nofun) ?_
      exact ⟨_, rfl, h⟩
theorem sc_rises : FnScope ["row", "k"] ["row"] (defScope (topS 6)) := ⟨rfl, rfl, rfl, by decide +kernel, rfl, by decide +kernel, by decide +kernel⟩
theorem atI_ints {ns : List Int} {i : Nat} {z : Int} (h : ns[i]? = some z) : atI (ns.map D.int) ((i : Nat) : Int) = some (.int z) := atI_nat (by rw [List.getElem?_map, h]; rfl)
theorem rangeD_map (n : Nat) : rangeD 0 n = (List.range n).map fun i => D.int ((i : Nat) : Int) := by
  unfold rangeD
  exact List.map_congr_left fun i _ => by rw [Int.zero_add]
theorem all_true {α : Type} (xs : List α) : (xs.map fun _ => true).all id = true := by simp
theorem ok_rises {f : Addr} {fd : FuncData} (F : Fun K "rises" "rises" (topS 6) f fd) (B : Bs mg) : FnOk P w K mg base CX0 1 f fd ["row"] (spW K s_rises) := by
  have sc := sc_rises
  refine fn_w F sc (fun as P h => ?_) fun cdv A outer s H E hr as R h => ?_
  · obtain ⟨ns, rfl, h⟩ := h
    rfl
  obtain ⟨ns, rfl, hl, hp, h⟩ := h
  show SsW _ _ [.dat (.tup (ns.map .int)), .un] _
  refine ssw_one ?_
  refine sw_ret ?_
  refine ew_all rfl B.all ?_
  refine ew_lcM (.one 1) [("k", 1)] (fun i : Nat => D.int ((i : Nat) : Int)) (fun x => .bl true) rfl sc.nd (blkOk_by (N := ["row", "k"]) (sc := defScope (topS 6)) (by decide +kernel)) (by decide) (fun _ _ _ _ _ => (pg_name (i := 1) sc.nd rfl (.inl rfl))) ?_
  refine iw_range1 B.range ?_
  refine ew_sub ?_
  refine ew_len B.len ?_
  refine ew_name 0 rfl (by nofun) ?_
  refine ⟨_, rfl, ?_⟩
  refine ew_int ?_
  refine ⟨_, _, rfl, rfl, ?_⟩
  rw [List.length_map]
  refine ⟨_, rfl, by omega, by omega, ?_⟩
  refine ⟨List.range ((ns.length : Int) - 1).toNat, ⟨rangeD_map _, by rw [List.length_range]; omega, rfl, fun i hx => ⟨_, rfl, ?_⟩⟩, ?_⟩
  · intro s H C cl fp
    have hi := List.mem_range.mp hx
    have e1 : ns[i]? = some ns[i] := List.getElem?_eq_getElem (by omega)
    have e2 : ns[i + 1]? = some ns[i + 1] := List.getElem?_eq_getElem (by omega)
    refine ew_lt ?_
    refine ew_ix ?_
    refine ew_name 0 rfl (by nofun) ?_
    refine ew_name 1 rfl (by nofun) ?_
    refine ⟨_, _, _, rfl, rfl, atI_ints e1, ?_⟩
    refine ew_ix ?_
    refine ew_name 0 rfl (by nofun) ?_
    refine ew_add ?_
    refine ew_name 1 rfl (by nofun) ?_
    refine ew_int ?_
    refine ⟨_, _, rfl, rfl, ?_⟩
    refine ⟨_, _, _, rfl, rfl, atI_ints e2, ?_⟩
    refine ⟨_, _, rfl, rfl, ?_⟩
    have := List.pairwise_iff_getElem.mp hp i (i + 1) (by omega) (by omega) (by omega)
    exact ⟨by rw [decide_eq_true this]; rfl, rfl⟩
  refine ⟨(List.range ((ns.length : Int) - 1).toNat).map fun _ => true, by rw [List.map_map]; rfl, ?_⟩
  rw [all_true]
  exact ⟨_, rfl, h⟩
theorem sc_is_tuple_of : FnScope ["thing", "many"] ["thing", "many"] (defScope (topS 10)) := ⟨rfl, rfl, rfl, by decide +kernel, rfl, by decide +kernel, by decide +kernel⟩
theorem ok_is_tuple_of {f : Addr} {fd : FuncData} (F : Fun K "is_tuple_of" "is_tuple_of" (topS 10) f fd) (B : Bs mg) : FnOk P w K mg base CX0 1 f fd ["thing", "many"] (spW K s_is_tuple_of) := by
  have sc := sc_is_tuple_of
  refine fn_w F sc (fun as P h => ?_) fun cdv A outer s H E hr as R h => ?_
  · obtain ⟨ds, rfl, h⟩ := h
    rfl
  obtain ⟨ds, rfl, h⟩ := h
  show SsW _ _ [.dat (.tup ds), .dat (.int (ds.length : Nat))] _
  refine ssw_one ?_
  refine sw_ret ?_
  refine ew_and ?_
  refine ew_isi (T := "tuple") B.isinstance B.tuple rfl ?_
  refine ew_name 0 rfl (by nofun) ?_
  refine ⟨_, rfl, ?_⟩
  refine ⟨_, rfl, fun hb => ?_, fun hb => (nomatch hb)⟩
  refine ew_one ?_
  refine ew_eq hr ?_
  refine ew_len B.len ?_
  refine ew_name 0 rfl (by nofun) ?_
  refine ⟨_, rfl, ?_⟩
  refine ew_name 1 rfl (by nofun) ?_
  refine .inl ⟨_, _, _, _, rfl, rfl, rfl, rfl, rfl, ?_⟩
  rw [decide_eq_true rfl]
  exact ⟨_, rfl, h⟩
theorem sc_is_place : FnScope ["thing", "many"] ["thing", "many"] (defScope (topS 11)) := ⟨rfl, rfl, rfl, by decide +kernel, rfl, by decide +kernel, by decide +kernel⟩
theorem ok_is_place {f : Addr} {fd : FuncData} (F : Fun K "is_place" "is_place" (topS 11) f fd) (B : Bs mg) (C_is_number : C8.Cal P w K mg base 1 "is_number" (spW K s_is_number) []) : FnOk P w K mg base CX0 2 f fd ["thing", "many"] (spW K s_is_place) := by
  have sc := sc_is_place
  refine fn_w F sc (fun as P h => ?_) fun cdv A outer s H E hr as R h => ?_
  · obtain ⟨i, m, rfl, h⟩ := h
    rfl
  obtain ⟨i, m, rfl, ⟨h0, h1⟩, h⟩ := h
  show SsW _ _ [.dat (.int i), .dat (.int m)] _
  refine ssw_one ?_
  refine sw_ret ?_
  refine ew_and ?_
  refine ew_call C_is_number hr (by decide) ?_
  refine aw_cons ?_
  refine ew_name 0 rfl (by nofun) ?_
  refine aw_nil ?_
  refine ⟨_, rfl, List.nodup_nil, ⟨_, rfl, ⟨_, rfl⟩, trivial, ?_⟩⟩
  refine ⟨_, rfl, fun hb => ?_, fun hb => (nomatch hb)⟩
  refine ew_one ?_
  refine ew_chLeLt ?_
  refine ew_int ?_
  refine ew_name 0 rfl (by nofun) ?_
  refine ⟨_, _, rfl, rfl, fun hb => absurd h0 hb, fun hb => ?_⟩
  refine ew_name 1 rfl (by nofun) ?_
  refine ⟨_, rfl, ?_⟩
  rw [decide_eq_true h1]
  exact ⟨_, rfl, h⟩
theorem sc_is_set_below : FnScope ["thing", "many", "own"] ["thing", "many"] (defScope (topS 12)) := ⟨rfl, rfl, rfl, by decide +kernel, rfl, by decide +kernel, by decide +kernel⟩
theorem ok_is_set_below {f : Addr} {fd : FuncData} (F : Fun K "is_set_below" "is_set_below" (topS 12) f fd) (B : Bs mg) (C_is_place : C8.Cal P w K mg base 2 "is_place" (spW K s_is_place) []) (C_rises : C8.Cal P w K mg base 1 "rises" (spW K s_rises) []) : FnOk P w K mg base CX0 3 f fd ["thing", "many"] (spW K s_is_set_below) := by
  have sc := sc_is_set_below
  refine fn_w F sc (fun as P h => ?_) fun cdv A outer s H E hr as R h => ?_
  · obtain ⟨ns, m, rfl, h⟩ := h
    rfl
  obtain ⟨ns, m, rfl, ⟨hl, hp, hr'⟩, h⟩ := h
  show SsW _ _ [.dat (.tup (ns.map .int)), .dat (.int m), .un] _
  refine ssw_one ?_
  refine sw_ret ?_
  refine ew_and ?_
  refine ew_isi (T := "tuple") B.isinstance B.tuple rfl ?_
  refine ew_name 0 rfl (by nofun) ?_
  refine ⟨_, rfl, ?_⟩
  refine ⟨_, rfl, fun hb => ?_, fun hb => (nomatch hb)⟩
  refine ew_and ?_
  refine ew_all rfl B.all ?_
  refine ew_lcM (.one 2) [("own", 2)] D.int (fun x => .bl true) rfl sc.nd (blkOk_by (N := ["thing", "many", "own"]) (sc := defScope (topS 12)) (by decide +kernel)) (by decide) (fun _ _ _ _ _ => (pg_name (i := 2) sc.nd rfl (.inl rfl))) ?_
  refine iw_tup ?_
  refine ew_name 0 rfl (by nofun) ?_
  refine ⟨_, rfl, ?_⟩
  refine ⟨ns, ⟨rfl, by omega, rfl, fun x hx => ⟨_, rfl, ?_⟩⟩, ?_⟩
  · intro s H C cl fp
    refine ew_call C_is_place hr (by decide) ?_
    refine aw_cons ?_
    refine ew_name 2 rfl (by nofun) ?_
    refine aw_cons ?_
    refine ew_name 1 rfl (by nofun) ?_
    refine aw_nil ?_
    refine ⟨_, rfl, List.nodup_nil, ⟨_, _, rfl, hr' x hx, trivial, ?_⟩⟩
    exact ⟨rfl, rfl⟩
  refine ⟨ns.map fun _ => true, by rw [List.map_map]; rfl, ?_⟩
  rw [all_true]
  refine ⟨_, rfl, fun hb => ?_, fun hb => (nomatch hb)⟩
  refine ew_one ?_
  refine ew_call C_rises hr (by decide) ?_
  refine aw_cons ?_
  refine ew_name 0 rfl (by nofun) ?_
  refine aw_nil ?_
  refine ⟨_, rfl, List.nodup_nil, ⟨ns, rfl, hl, hp, trivial, ?_⟩⟩
  exact ⟨_, rfl, h⟩
end
end V85

namespace V85
open PySem PySem.Spec PyProof.Rows L2 VX
def Sh : Nat → D → Prop
  | 0, d => match d with
    | .tup _ => False
    | .lst _ => False
    | .scr _ => False
    | .str s => PySem.PyData.strOk s = true
    | _ => True
  | m + 1, d => match d with
    | .tup ts => ∀ t ∈ ts, Sh m t
    | .lst ts => ∀ t ∈ ts, Sh m t
    | .scr _ => False
    | .str s => PySem.PyData.strOk s = true
    | _ => True
theorem pys_ok (m : Nat) (ih : ∀ d, Sh m d → (py d).canLay0 = true ∧ (py d).depth ≤ m) : ∀ ts : List D, (∀ t ∈ ts, Sh m t) → PyData.canLayAll0 (pys ts) = true ∧ PyData.depthAll (pys ts) ≤ m
  | [], _ => ⟨rfl, Nat.zero_le _⟩
  | t :: ts, h => by
    obtain ⟨a1, a2⟩ := ih t (h t List.mem_cons_self)
    obtain ⟨b1, b2⟩ := pys_ok m ih ts fun u hu => h u (List.mem_cons_of_mem _ hu)
    unfold pys PyData.canLayAll0 PyData.depthAll
    exact ⟨by rw [a1, b1]; rfl, Nat.max_le.mpr ⟨a2, b2⟩⟩
theorem py_ok : ∀ (m : Nat) (d : D), Sh m d → (py d).canLay0 = true ∧ (py d).depth ≤ m := by
  intro m
  induction m with
  | zero =>
    intro d h
    cases d with
    | tup ts => exact False.elim h
    | lst ts => exact False.elim h
    | scr ts => exact False.elim h
    | str s => exact ⟨by unfold py PyData.canLay0; exact h, by unfold py PyData.depth; exact Nat.zero_le _⟩
    | _ => exact ⟨by unfold py PyData.canLay0; rfl, by unfold py PyData.depth; exact Nat.zero_le _⟩
  | succ m ih =>
    intro d h
    cases d with
    | scr ts => exact False.elim h
    | str s => exact ⟨by unfold py PyData.canLay0; exact h, by unfold py PyData.depth; exact Nat.zero_le _⟩
    | tup ts =>
      obtain ⟨a, b⟩ := pys_ok m ih ts h
      unfold py PyData.canLay0 PyData.depth
      exact ⟨a, Nat.succ_le_succ b⟩
    | lst ts =>
      obtain ⟨a, b⟩ := pys_ok m ih ts h
      unfold py PyData.canLay0 PyData.depth
      exact ⟨a, Nat.succ_le_succ b⟩
    | _ => exact ⟨by unfold py PyData.canLay0; rfl, by unfold py PyData.depth; exact Nat.zero_le _⟩
theorem shaped_of {m : Nat} {d : D} (h : Sh m d) (hm : m ≤ 64 := by decide) : SeqAt.shaped (py d) = true := by
  obtain ⟨a, b⟩ := py_ok m d h
  unfold SeqAt.shaped
  rw [a, decide_eq_true (Nat.le_trans b hm)]; rfl
/-! ### machines, items, ways -/
def plainD : D := .tup [.tup [.str "pass", .int 1], .tup [.str "put", .int 1], .tup [.str "turn", .int 1]]
def machD (p : Int) (n : Nat) : D := .tup [.int p, .tup (List.replicate n .non), plainD]
inductive It where
  | dr (s : Int) | st (s : Int) (l : List (Int × Int))
def sumD (l : List (Int × Int)) : D := .tup (l.map pairD)
def itD : It → D
  | .dr s => .tup [.str "draw", .int s]
  | .st s l => .tup [.str "set", .int s, sumD l]
def wayD (w : List It) : D := .tup (w.map itD)
def okSum (p : Int) (n : Nat) (l : List (Int × Int)) : Prop := l.length ≤ 1000 ∧ (l.map (·.1)).Pairwise (· < ·) ∧ ∀ q ∈ l, (0 ≤ q.1 ∧ q.1 < n) ∧ 0 < q.2 ∧ q.2 < p
def okIt (p : Int) (n : Nat) : It → Prop
  | .dr s => 0 ≤ s ∧ s < n
  | .st s l => (0 ≤ s ∧ s < n) ∧ okSum p n l
def s_is_sum : Spc := fun as P => ∃ p n l, as = [.dat (machD p n), .dat (sumD l)] ∧ okSum p n l ∧ P (.dat (.bl true)) []
def s_is_item : Spc := fun as P => ∃ p n m it, as = [.dat (machD p n), .dat (.int m), .dat (itD it)] ∧ okIt p n it ∧ P (.dat (.bl true)) []
def s_is_way : Spc := fun as P => ∃ p n m w, as = [.dat (machD p n), .dat (.int m), .dat (wayD w)] ∧ (w.length ≤ 1000 ∧ ∀ it ∈ w, okIt p n it) ∧ P (.dat (.bl true)) []
theorem sh_sum (l : List (Int × Int)) : Sh 2 (sumD l) := fun t ht => by
  obtain ⟨q, _, rfl⟩ := List.mem_map.mp ht
  intro u hu
  rcases List.mem_cons.mp hu with rfl | hu
  · trivial
  · rcases List.mem_cons.mp hu with rfl | hu
    · trivial
    · cases hu
theorem sh_it (it : It) : Sh 3 (itD it) := by
  cases it with
  | dr s =>
    intro u hu
    rcases List.mem_cons.mp hu with rfl | hu
    · show PySem.PyData.strOk "draw" = true; decide +kernel
    · rcases List.mem_cons.mp hu with rfl | hu
      · trivial
      · cases hu
  | st s l =>
    intro u hu
    rcases List.mem_cons.mp hu with rfl | hu
    · show PySem.PyData.strOk "set" = true; decide +kernel
    · rcases List.mem_cons.mp hu with rfl | hu
      · trivial
      · rcases List.mem_cons.mp hu with rfl | hu
        · exact sh_sum l
        · cases hu
theorem eqv_it (it : It) : PyData.eqv (py (itD it)) (py (.tup [])) = false := by
  cases it with
  | dr s => rfl
  | st s l => rfl
section
variable {P : Program} {w : World} {K : PySem.W.Frag} {mg : Str → Option Value} {base : Heap}
theorem sc_is_sum : FnScope ["machine", "thing", "own"] ["machine", "thing"] (defScope (topS 13)) := ⟨rfl, rfl, rfl, by decide +kernel, rfl, by decide +kernel, by decide +kernel⟩
theorem ok_is_sum {f : Addr} {fd : FuncData} (F : Fun K "is_sum" "is_sum" (topS 13) f fd) (B : Bs mg) (C_is_tuple_of : C8.Cal P w K mg base 1 "is_tuple_of" (spW K s_is_tuple_of) []) (C_is_place : C8.Cal P w K mg base 2 "is_place" (spW K s_is_place) []) (C_is_set_below : C8.Cal P w K mg base 3 "is_set_below" (spW K s_is_set_below) []) :
    FnOk P w K mg base CX0 4 f fd ["machine", "thing"] (spW K s_is_sum) := by
  have sc := sc_is_sum
  refine fn_w F sc (fun as P h => ?_) fun cdv A outer s H E hr as R h => ?_
  · obtain ⟨p, n, l, rfl, h⟩ := h
    rfl
  obtain ⟨p, n, l, rfl, ⟨hl, hp, hq⟩, h⟩ := h
  show SsW _ _ [.dat (machD p n), .dat (.tup (l.map pairD)), .un] _
  refine ssw_cons ?_
  refine sw_if ?_
  refine tw_w ?_
  refine ww_or ?_
  refine tw_not ?_
  refine tw_val ?_
  refine ew_isi (T := "tuple") B.isinstance B.tuple rfl ?_
  refine ew_name 1 rfl (by nofun) ?_
  refine ⟨_, rfl, ?_⟩
  refine ⟨_, rfl, ?_⟩
  refine ⟨fun hb => (nomatch hb), fun hb => ?_⟩
  refine ww_one ?_
  refine tw_not ?_
  refine tw_val ?_
  refine ew_all rfl B.all ?_
  refine ew_lcM (.one 2) [("own", 2)] pairD (fun x => .bl true) rfl sc.nd (blkOk_by (N := ["machine", "thing", "own"]) (sc := defScope (topS 13)) (by decide +kernel)) (by decide) (fun _ _ _ _ _ => (pg_name (i := 2) sc.nd rfl (.inl rfl))) ?_
  refine iw_tup ?_
  refine ew_name 1 rfl (by nofun) ?_
  refine ⟨_, rfl, ?_⟩
  refine ⟨l, ⟨rfl, by omega, rfl, fun x hx => ⟨_, rfl, ?_⟩⟩, ?_⟩
  · intro s H C cl fp
    refine ew_call C_is_tuple_of hr (by decide) ?_
    refine aw_cons ?_
    refine ew_name 2 rfl (by nofun) ?_
    refine aw_cons ?_
    refine ew_int ?_
    refine aw_nil ?_
    refine ⟨_, rfl, List.nodup_nil, ⟨[.int x.1, .int x.2], rfl, trivial, ?_⟩⟩
    exact ⟨rfl, rfl⟩
  refine ⟨l.map fun _ => true, by rw [List.map_map]; rfl, ?_⟩
  rw [all_true]
  refine ⟨_, rfl, ?_⟩
  refine ⟨fun hb => (nomatch hb), fun hb => ?_⟩
  refine ssw_nil ?_
  refine ssw_cons ?_
  refine sw_if ?_
  refine tw_not ?_
  refine tw_val ?_
  refine ew_all rfl B.all ?_
  refine ew_lcM (.one 2) [("own", 2)] pairD (fun x => .bl true) rfl sc.nd (blkOk_by (N := ["machine", "thing", "own"]) (sc := defScope (topS 13)) (by decide +kernel)) (by decide) (fun _ _ _ _ _ => (pg_name (i := 2) sc.nd rfl (.inl rfl))) ?_
  refine iw_tup ?_
  refine ew_name 1 rfl (by nofun) ?_
  refine ⟨_, rfl, ?_⟩
  refine ⟨l, ⟨rfl, by omega, rfl, fun x hx => ⟨_, rfl, ?_⟩⟩, ?_⟩
  · intro s H C cl fp
    obtain ⟨q1, q2, q3⟩ := hq x hx
    refine ew_and ?_
    refine ew_call C_is_place hr (by decide) ?_
    refine aw_cons ?_
    refine ew_ix ?_
    refine ew_name 2 rfl (by nofun) ?_
    refine ew_int ?_
    refine ⟨_, _, _, rfl, rfl, rfl, ?_⟩
    refine aw_cons ?_
    refine ew_ix ?_
    refine ew_name 0 rfl (by nofun) ?_
    refine ew_int ?_
    refine ⟨_, _, _, rfl, rfl, rfl, ?_⟩
    refine aw_nil ?_
    refine ⟨_, rfl, List.nodup_nil, ⟨_, _, rfl, ⟨Int.le_of_lt q2, q3⟩, trivial, ?_⟩⟩
    refine ⟨_, rfl, fun hb => ?_, fun hb => (nomatch hb)⟩
    refine ew_one ?_
    refine ew_gt ?_
    refine ew_ix ?_
    refine ew_name 2 rfl (by nofun) ?_
    refine ew_int ?_
    refine ⟨_, _, _, rfl, rfl, rfl, ?_⟩
    refine ew_int ?_
    refine ⟨_, _, rfl, rfl, ?_⟩
    exact ⟨by rw [decide_eq_true q2]; rfl, rfl⟩
  refine ⟨l.map fun _ => true, by rw [List.map_map]; rfl, ?_⟩
  rw [all_true]
  refine ⟨_, rfl, ?_⟩
  refine ⟨fun hb => (nomatch hb), fun hb => ?_⟩
  refine ssw_nil ?_
  refine ssw_one ?_
  refine sw_ret ?_
  refine ew_call C_is_set_below hr (by decide) ?_
  refine aw_cons ?_
  refine ew_tuple B.tuple ?_
  refine ew_lcM (.one 2) [("own", 2)] pairD (fun x => .int x.1) rfl sc.nd (blkOk_by (N := ["machine", "thing", "own"]) (sc := defScope (topS 13)) (by decide +kernel)) (by decide) (fun _ _ _ _ _ => (pg_name (i := 2) sc.nd rfl (.inl rfl))) ?_
  refine iw_tup ?_
  refine ew_name 1 rfl (by nofun) ?_
  refine ⟨_, rfl, ?_⟩
  refine ⟨l, ⟨rfl, by omega, rfl, fun x hx => ⟨_, rfl, ?_⟩⟩, ?_⟩
  · intro s H C cl fp
    refine ew_ix ?_
    refine ew_name 2 rfl (by nofun) ?_
    refine ew_int ?_
    refine ⟨_, _, _, rfl, rfl, rfl, ?_⟩
    exact ⟨rfl, rfl⟩
  refine ⟨_, rfl, ?_⟩
  refine aw_cons ?_
  refine ew_len B.len ?_
  refine ew_ix ?_
  refine ew_name 0 rfl (by nofun) ?_
  refine ew_int ?_
  refine ⟨_, _, _, rfl, rfl, rfl, ?_⟩
  refine ⟨_, rfl, ?_⟩
  refine aw_nil ?_
  refine ⟨_, rfl, List.nodup_nil, ⟨l.map (·.1), (n : Int), ?_, ⟨by rw [List.length_map]; exact hl, hp, fun i hi => ?_⟩, trivial, ?_⟩⟩
  · rw [List.length_replicate]
    unfold intsD
    rw [List.map_map]; rfl
  · obtain ⟨q, hq', rfl⟩ := List.mem_map.mp hi
    exact (hq q hq').1
  exact ⟨_, rfl, h⟩
theorem sc_is_item : FnScope ["machine", "many", "thing", "registers", "way"] ["machine", "many", "thing"] (defScope (topS 14)) := ⟨rfl, rfl, rfl, by decide +kernel, rfl, by decide +kernel, by decide +kernel⟩
theorem ok_is_item {f : Addr} {fd : FuncData} (F : Fun K "is_item" "is_item" (topS 14) f fd) (B : Bs mg) (C_is_place : C8.Cal P w K mg base 2 "is_place" (spW K s_is_place) []) (C_is_sum : C8.Cal P w K mg base 4 "is_sum" (spW K s_is_sum) []) :
    FnOk P w K mg base CX0 5 f fd ["machine", "many", "thing"] (spW K s_is_item) := by
  have sc := sc_is_item
  refine fn_w F sc (fun as P h => ?_) fun cdv A outer s H E hr as R h => ?_
  · obtain ⟨p, n, m, it, rfl, h⟩ := h
    rfl
  obtain ⟨p, n, m, it, rfl, ok, h⟩ := h
  show SsW _ _ [.dat (machD p n), .dat (.int m), .dat (itD it), .un, .un] _
  have hsh := shaped_of (sh_it it)
  have heq := eqv_it it
  obtain ⟨ts, x, hts, hx, hxs⟩ : ∃ ts x, itD it = .tup ts ∧ atI ts 0 = some (.str x) ∧ ts ≠ [] := by
    cases it with
    | dr s => exact ⟨_, _, rfl, rfl, nofun⟩
    | st s l => exact ⟨_, _, rfl, rfl, nofun⟩
  refine ssw_cons ?_
  refine sw_if ?_
  refine tw_w ?_
  refine ww_or ?_
  refine tw_not ?_
  refine tw_val ?_
  refine ew_isi (T := "tuple") B.isinstance B.tuple rfl ?_
  refine ew_name 2 rfl (by nofun) ?_
  refine ⟨true, by show kitB (kindOf (.dat (itD it))) "tuple" = _; rw [hts]; rfl, ?_⟩
  refine ⟨_, rfl, ?_⟩
  refine ⟨fun hb => (nomatch hb), fun hb => ?_⟩
  refine ww_or ?_
  refine tw_eq hr ?_
  refine ew_name 2 rfl (by nofun) ?_
  refine ew_tup ?_
  refine aw_nil ?_
  refine ⟨_, rfl, by decide, ?_⟩
  refine .inr ⟨_, _, rfl, rfl, hsh, rfl, ?_⟩
  rw [heq]
  refine ⟨fun hb => (nomatch hb), fun hb => ?_⟩
  refine ww_one ?_
  refine tw_not ?_
  refine tw_val ?_
  refine ew_isi (T := "str") B.isinstance B.str rfl ?_
  refine ew_ix ?_
  refine ew_name 2 rfl (by nofun) ?_
  refine ew_int ?_
  refine ⟨ts, _, _, by show seqOf _ (.dat (itD it)) = _; rw [hts]; rfl, rfl, hx, ?_⟩
  refine ⟨_, rfl, ?_⟩
  refine ⟨_, rfl, ?_⟩
  refine ⟨fun hb => (nomatch hb), fun hb => ?_⟩
  refine ssw_nil ?_
  refine ssw_cons ?_
  refine sw_set 3 sc.nd ?_
  refine ew_len B.len ?_
  refine ew_ix ?_
  refine ew_name 0 rfl (by nofun) ?_
  refine ew_int ?_
  refine ⟨_, _, _, rfl, rfl, rfl, ?_⟩
  refine ⟨_, rfl, ?_⟩
  refine ⟨_, rfl, rfl, ?_⟩
  rw [List.length_replicate]
  show SsW _ _ [.dat (machD p n), .dat (.int m), .dat (itD it), .dat (.int (n : Nat)), .un] _
  clear hsh heq hx hxs hts
  cases it with
  | st s l =>
    obtain ⟨ok1, ok2⟩ := ok
    refine ssw_cons ?_
    refine sw_if ?_
    refine tw_eq hr ?_
    refine ew_ix ?_
    refine ew_name 2 rfl (by nofun) ?_
    refine ew_int ?_
    refine ⟨_, _, _, rfl, rfl, rfl, ?_⟩
    refine ew_str ?_
    refine .inl ⟨_, _, _, _, rfl, rfl, rfl, rfl, rfl, ?_⟩
    rw [decide_eq_true rfl]
    refine ⟨fun hb => ?_, fun hb => (nomatch hb)⟩
    refine ssw_one ?_
    refine sw_ret ?_
    refine ew_and ?_
    refine ew_eq hr ?_
    refine ew_len B.len ?_
    refine ew_name 2 rfl (by nofun) ?_
    refine ⟨_, rfl, ?_⟩
    refine ew_int ?_
    refine .inl ⟨_, _, _, _, rfl, rfl, rfl, rfl, rfl, ?_⟩
    refine ⟨_, rfl, fun hb => ?_, fun hb => by simp at hb⟩
    refine ew_and ?_
    refine ew_call C_is_place hr (by decide) ?_
    refine aw_cons ?_
    refine ew_ix ?_
    refine ew_name 2 rfl (by nofun) ?_
    refine ew_int ?_
    refine ⟨_, _, _, rfl, rfl, rfl, ?_⟩
    refine aw_cons ?_
    refine ew_name 3 rfl (by nofun) ?_
    refine aw_nil ?_
    refine ⟨_, rfl, List.nodup_nil, ⟨_, _, rfl, ok1, trivial, ?_⟩⟩
    refine ⟨_, rfl, fun hb => ?_, fun hb => (nomatch hb)⟩
    refine ew_one ?_
    refine ew_call C_is_sum hr (by decide) ?_
    refine aw_cons ?_
    refine ew_name 0 rfl (by nofun) ?_
    refine aw_cons ?_
    refine ew_ix ?_
    refine ew_name 2 rfl (by nofun) ?_
    refine ew_int ?_
    refine ⟨_, _, _, rfl, rfl, rfl, ?_⟩
    refine aw_nil ?_
    refine ⟨_, rfl, List.nodup_nil, ⟨p, n, l, rfl, ok2, trivial, ?_⟩⟩
    exact ⟨_, rfl, h⟩
  | dr s =>
    refine ssw_cons ?_
    refine sw_if ?_
    refine tw_eq hr ?_
    refine ew_ix ?_
    refine ew_name 2 rfl (by nofun) ?_
    refine ew_int ?_
    refine ⟨_, _, _, rfl, rfl, rfl, ?_⟩
    refine ew_str ?_
    refine .inl ⟨_, _, _, _, rfl, rfl, rfl, rfl, rfl, ?_⟩
    rw [decide_eq_false (by decide +kernel)]
    refine ⟨fun hb => (nomatch hb), fun hb => ?_⟩
    refine ssw_nil ?_
    refine ssw_cons ?_
    refine sw_if ?_
    refine tw_eq hr ?_
    refine ew_ix ?_
    refine ew_name 2 rfl (by nofun) ?_
    refine ew_int ?_
    refine ⟨_, _, _, rfl, rfl, rfl, ?_⟩
    refine ew_str ?_
    refine .inl ⟨_, _, _, _, rfl, rfl, rfl, rfl, rfl, ?_⟩
    rw [decide_eq_false (by decide +kernel)]
    refine ⟨fun hb => (nomatch hb), fun hb => ?_⟩
    refine ssw_nil ?_
    refine ssw_cons ?_
    refine sw_if ?_
    refine tw_ne ?_
    refine ew_len B.len ?_
    refine ew_name 2 rfl (by nofun) ?_
    refine ⟨_, rfl, ?_⟩
    refine ew_int ?_
    refine ⟨_, _, _, _, rfl, rfl, rfl, rfl, rfl, ?_⟩
    refine ⟨fun hb => by simp at hb, fun hb => ?_⟩
    refine ssw_nil ?_
    refine ssw_cons ?_
    refine sw_if ?_
    refine tw_eq hr ?_
    refine ew_ix ?_
    refine ew_name 2 rfl (by nofun) ?_
    refine ew_int ?_
    refine ⟨_, _, _, rfl, rfl, rfl, ?_⟩
    refine ew_str ?_
    refine .inl ⟨_, _, _, _, rfl, rfl, rfl, rfl, rfl, ?_⟩
    rw [decide_eq_true rfl]
    refine ⟨fun hb => ?_, fun hb => (nomatch hb)⟩
    refine ssw_one ?_
    refine sw_ret ?_
    refine ew_call C_is_place hr (by decide) ?_
    refine aw_cons ?_
    refine ew_ix ?_
    refine ew_name 2 rfl (by nofun) ?_
    refine ew_int ?_
    refine ⟨_, _, _, rfl, rfl, rfl, ?_⟩
    refine aw_cons ?_
    refine ew_name 3 rfl (by nofun) ?_
    refine aw_nil ?_
    refine ⟨_, rfl, List.nodup_nil, ⟨_, _, rfl, ok, trivial, ?_⟩⟩
    exact ⟨_, rfl, h⟩
theorem sc_is_way : FnScope ["machine", "many", "thing", "item"] ["machine", "many", "thing"] (defScope (topS 15)) := ⟨rfl, rfl, rfl, by decide +kernel, rfl, by decide +kernel, by decide +kernel⟩
theorem ok_is_way {f : Addr} {fd : FuncData} (F : Fun K "is_way" "is_way" (topS 15) f fd) (B : Bs mg) (C_is_item : C8.Cal P w K mg base 5 "is_item" (spW K s_is_item) []) : FnOk P w K mg base CX0 6 f fd ["machine", "many", "thing"] (spW K s_is_way) := by
  have sc := sc_is_way
  refine fn_w F sc (fun as P h => ?_) fun cdv A outer s H E hr as R h => ?_
  · obtain ⟨p, n, m, ws, rfl, h⟩ := h
    rfl
  obtain ⟨p, n, m, ws, rfl, ⟨hl, hq⟩, h⟩ := h
  show SsW _ _ [.dat (machD p n), .dat (.int m), .dat (.tup (ws.map itD)), .un] _
  refine ssw_one ?_
  refine sw_ret ?_
  refine ew_and ?_
  refine ew_isi (T := "tuple") B.isinstance B.tuple rfl ?_
  refine ew_name 2 rfl (by nofun) ?_
  refine ⟨_, rfl, ?_⟩
  refine ⟨_, rfl, fun hb => ?_, fun hb => (nomatch hb)⟩
  refine ew_one ?_
  refine ew_all rfl B.all ?_
  refine ew_lcM (.one 3) [("item", 3)] itD (fun x => .bl true) rfl sc.nd (blkOk_by (N := ["machine", "many", "thing", "item"]) (sc := defScope (topS 15)) (by decide +kernel)) (by decide) (fun _ _ _ _ _ => (pg_name (i := 3) sc.nd rfl (.inl rfl))) ?_
  refine iw_tup ?_
  refine ew_name 2 rfl (by nofun) ?_
  refine ⟨_, rfl, ?_⟩
  refine ⟨ws, ⟨rfl, by omega, rfl, fun x hx => ⟨_, rfl, ?_⟩⟩, ?_⟩
  · intro s H C cl fp
    refine ew_call C_is_item hr (by decide) ?_
    refine aw_cons ?_
    refine ew_name 0 rfl (by nofun) ?_
    refine aw_cons ?_
    refine ew_name 1 rfl (by nofun) ?_
    refine aw_cons ?_
    refine ew_name 3 rfl (by nofun) ?_
    refine aw_nil ?_
    refine ⟨_, rfl, List.nodup_nil, ⟨p, n, m, x, rfl, hq x hx, trivial, ?_⟩⟩
    exact ⟨rfl, rfl⟩
  refine ⟨ws.map fun _ => true, by rw [List.map_map]; rfl, ?_⟩
  rw [all_true]
  exact ⟨_, rfl, h⟩
end
end V85

namespace V85
open PySem PySem.Spec PyProof.Rows L2 VX
/-! ### residues: what the defs compute -/
def leadL (row : List Int) : Option Nat := row.findIdx? (· != 0)
def leadD (row : List Int) : D := match leadL row with
  | some i => .int (i : Nat)
  | none => .non
def timesL (p : Int) (row : List Int) (f : Int) : List Int := row.map fun x => x * f % p
def lessL (p : Int) (row other : List Int) (f : Int) : List Int := (row.zip other).map fun q => (q.1 - f * q.2) % p
def sml (f : Int) : Bool := decide (-(2 ^ 64) < f ∧ f < 2 ^ 64)
def lessO (p : Int) (row own : List Int) (at_ : Option Nat) (g : List Int) : Option (List Int) :=
  at_.bind fun i => g[i]?.bind fun f => if sml f then some (lessL p row own f) else none
def reducedL (p : Int) : List Int → List (List Int) → Option (List Int)
  | row, [] => some row
  | row, own :: found => (lessO p row own (leadL own) row).bind fun r => reducedL p r found
def invL (p r : Int) : Option Int := ((List.range (p - 1).toNat).find? fun i : Nat => (1 + (i : Nat) : Int) * r % p == 1).map fun i => (1 + (i : Nat) : Int)
def lessAll (p : Int) (left : List Int) (i : Nat) : List (List Int) → Option (List (List Int))
  | [] => some []
  | own :: found => (lessO p own left (some i) own).bind fun r => (lessAll p left i found).map (r :: ·)
def stepL (p : Int) (found : List (List Int)) (row : List Int) : Option (List (List Int)) :=
  (reducedL p row found).bind fun r => match leadL r with
    | none => some found
    | some i => r[i]?.bind fun f => if sml f then (invL p f).bind fun v => if sml v then (lessAll p (timesL p r v) i found).map (· ++ [timesL p r v]) else none else none
def foundL (p : Int) : List (List Int) → List (List Int) → Option (List (List Int))
  | found, [] => some found
  | found, row :: rows => (stepL p found row).bind fun f => foundL p f rows
def leadsL : List (List Int) → Option (List Nat)
  | [] => some []
  | own :: found => (leadL own).bind fun i => (leadsL found).map (i :: ·)
def basisL (p : Int) (rows : List (List Int)) : Option (List (List Int)) := (foundL p [] rows).bind fun f => (leadsL f).map fun _ => f
def s_inverse : Spc := fun as P => ∃ p r v : Int, as = [.dat (.int p), .dat (.int r)] ∧ (0 < p ∧ p ≤ 1000 ∧ sml r = true ∧ invL p r = some v) ∧ P (.dat (.int v)) []
def s_times : Spc := fun as P => ∃ (p : Int) (row : List Int) (f : Int), as = [.dat (.int p), .dat (intsD row), .dat (.int f)] ∧ (0 < p ∧ row.length < 1000 ∧ sml f = true) ∧ P (.dat (intsD (timesL p row f))) []
def s_less : Spc := fun as P => ∃ (p : Int) (row other : List Int) (f : Int), as = [.dat (.int p), .dat (intsD row), .dat (intsD other), .dat (.int f)] ∧ (0 < p ∧ row.length < 1000 ∧ sml f = true) ∧ P (.dat (intsD (lessL p row other f))) []
def s_lead_of : Spc := fun as P => ∃ row : List Int, as = [.dat (intsD row)] ∧ P (.dat (leadD row)) []
def s_reduced : Spc := fun as P => ∃ (p : Int) (row : List Int) (found : List (List Int)) (r : List Int), as = [.dat (.int p), .dat (intsD row), .dat (.lst (found.map intsD))] ∧ (0 < p ∧ row.length < 1000 ∧ reducedL p row found = some r) ∧ P (.dat (intsD r)) []
def s_basis : Spc := fun as P => ∃ (p : Int) (rows : List (List Int)) (f : List (List Int)), as = [.dat (.int p), .dat (.tup (rows.map intsD))] ∧ (0 < p ∧ p ≤ 1000 ∧ rows.length ≤ 50 ∧ (∀ r ∈ rows, r.length < 1000) ∧ basisL p rows = some f) ∧ ∀ ds : List D, ds.length = f.length → P (.dat (.tup ds)) []
def s_rank : Spc := fun as P => ∃ (p : Int) (rows : List (List Int)) (f : List (List Int)), as = [.dat (.int p), .dat (.tup (rows.map intsD))] ∧ (0 < p ∧ p ≤ 1000 ∧ rows.length ≤ 50 ∧ (∀ r ∈ rows, r.length < 1000) ∧ basisL p rows = some f) ∧ P (.dat (.int (f.length : Nat))) []
theorem zipD_ints : ∀ xs ys : List Int, zipD (xs.map .int) (ys.map .int) = (xs.zip ys).map VX.pairD
  | [], _ => by simp [zipD]
  | _ :: _, [] => by simp [zipD]
  | x :: xs, y :: ys => by
    have := zipD_ints xs ys
    unfold zipD at this ⊢
    rw [List.map_cons, List.map_cons, List.zipWith_cons_cons, this]
    rfl
theorem canSet_of {Γ : List Dsc} {i : Nat} {x : Dsc} (h : Γ[i]? = some x) (hx : ∀ ds, x ≠ .io ds) : canSet Γ i = true := by
  unfold canSet
  rw [h]
  cases x with
  | io ds => exact absurd rfl (hx ds)
  | _ => rfl
theorem sml_mul {i f : Int} (h : sml f = true) : CMul i f := .inr (of_decide_eq_true h)
theorem sml_mul2 {i f : Int} (h : sml f = true) : CMul f i := .inl (of_decide_eq_true h)
section
variable {P : Program} {w : World} {K : PySem.W.Frag} {mg : Str → Option Value} {base : Heap}
theorem sc_inverse : FnScope ["prime", "residue", "own"] ["prime", "residue"] (defScope (topS 17)) := ⟨rfl, rfl, rfl, by decide +kernel, rfl, by decide +kernel, by decide +kernel⟩
theorem ok_inverse {f : Addr} {fd : FuncData} (F : Fun K "inverse" "inverse" (topS 17) f fd) (B : Bs mg) : FnOk P w K mg base CX0 1 f fd ["prime", "residue"] (spW K s_inverse) := by
  have sc := sc_inverse
  refine fn_w F sc (fun as P h => ?_) fun cdv A outer s H E hr as R h => ?_
  · obtain ⟨p, r, v, rfl, h⟩ := h
    rfl
  obtain ⟨p, r, v, rfl, ⟨h0, h1, hs, hv⟩, h⟩ := h
  show SsW _ _ [.dat (.int p), .dat (.int r), .un] _
  obtain ⟨iv, hf, rfl⟩ := Option.map_eq_some_iff.mp hv
  have hiv : iv < (p - 1).toNat := List.mem_range.mp (List.mem_of_find?_eq_some hf)
  have hbefore := (List.find?_range_eq_some.mp hf).2
  have hat : ((1 + (iv : Nat) : Int) * r % p == 1) = true := List.find?_some (p := fun i : Nat => (1 + (i : Nat) : Int) * r % p == 1) hf
  refine ssw_cons ?_
  refine sw_for rfl PassesOwn.never ?_
  refine iw_range2 B.range ?_
  refine ew_int ?_
  refine ew_name 0 rfl (by nofun) ?_
  refine ⟨_, _, rfl, rfl, by omega, ?_⟩
  refine ⟨fun i Γ => ∃ x, (∀ ds, x ≠ Dsc.io ds) ∧ Γ = [.dat (.int p), .dat (.int r), x] ∧ i ≤ iv, ⟨.un, (by intro ds e; cases e), rfl, Nat.zero_le _⟩, fun i d Γ2 hd hJ => ?_, fun Γ2 hJ => ?_⟩
  · obtain ⟨x, hx, rfl, hi⟩ := hJ
    rw [rangeD_get (by omega)] at hd
    cases hd
    refine gw_name 2 sc.nd rfl (canSet_of rfl hx) ?_
    refine ssw_one ?_
    refine sw_if ?_
    refine tw_eq hr ?_
    refine ew_mod ?_
    refine ew_mul ?_
    refine ew_name 2 rfl (by nofun) ?_
    refine ew_name 1 rfl (by nofun) ?_
    refine ⟨_, _, rfl, rfl, sml_mul hs, ?_⟩
    refine ew_name 0 rfl (by nofun) ?_
    refine ⟨_, _, rfl, rfl, h0, ?_⟩
    refine ew_int ?_
    refine .inl ⟨_, _, _, _, rfl, rfl, rfl, rfl, rfl, ?_⟩
    refine ⟨fun hb => ?_, fun hb => ?_⟩
    · -- return own
      refine ssw_one ?_
      refine sw_ret ?_
      refine ew_name 2 rfl (by nofun) ?_
      have e1 : (1 + (i : Nat) : Int) * r % p = 1 := V.int.inj (of_decide_eq_true hb)
      have e2 : i = iv := by
        rcases Nat.lt_or_ge i iv with c | c
        · have := hbefore.2 i c
          simp [e1] at this
        · omega
      subst e2
      exact ⟨_, rfl, h⟩
    · refine ssw_nil ?_
      refine ⟨.dat _, (by intro ds e; cases e), rfl, ?_⟩
      rcases Nat.lt_or_ge i iv with c | c
      · exact c
      · exfalso
        have e2 : i = iv := by omega
        subst e2
        have e1 : (1 + (i : Nat) : Int) * r % p = 1 := by simpa using hat
        exact of_decide_eq_false hb (congrArg V.int e1)
  · obtain ⟨x, hx, rfl, hi⟩ := hJ
    rw [rangeD_len] at hi
    omega
theorem sc_times : FnScope ["prime", "row", "factor", "own"] ["prime", "row", "factor"] (defScope (topS 18)) := ⟨rfl, rfl, rfl, by decide +kernel, rfl, by decide +kernel, by decide +kernel⟩
theorem ok_times {f : Addr} {fd : FuncData} (F : Fun K "times" "times" (topS 18) f fd) (B : Bs mg) : FnOk P w K mg base CX0 1 f fd ["prime", "row", "factor"] (spW K s_times) := by
  have sc := sc_times
  refine fn_w F sc (fun as P h => ?_) fun cdv A outer s H E hr as R h => ?_
  · obtain ⟨p, row, f, rfl, h⟩ := h
    rfl
  obtain ⟨p, row, f, rfl, ⟨h0, hl, hs⟩, h⟩ := h
  show SsW _ _ [.dat (.int p), .dat (.tup (row.map .int)), .dat (.int f), .un] _
  refine ssw_one ?_
  refine sw_ret ?_
  refine ew_tuple B.tuple ?_
  refine ew_lcM (.one 3) [("own", 3)] D.int (fun x => .int (x * f % p)) rfl sc.nd (blkOk_by (N := ["prime", "row", "factor", "own"]) (sc := defScope (topS 18)) (by decide +kernel)) (by decide) (fun _ _ _ _ _ => (pg_name (i := 3) sc.nd rfl (.inl rfl))) ?_
  refine iw_tup ?_
  refine ew_name 1 rfl (by nofun) ?_
  refine ⟨_, rfl, ?_⟩
  refine ⟨row, ⟨rfl, by omega, rfl, fun x hx => ⟨_, rfl, ?_⟩⟩, ?_⟩
  · intro s H C cl fp
    refine ew_mod ?_
    refine ew_mul ?_
    refine ew_name 3 rfl (by nofun) ?_
    refine ew_name 2 rfl (by nofun) ?_
    refine ⟨_, _, rfl, rfl, sml_mul hs, ?_⟩
    refine ew_name 0 rfl (by nofun) ?_
    refine ⟨_, _, rfl, rfl, h0, ?_⟩
    exact ⟨rfl, rfl⟩
  refine ⟨_, rfl, ?_⟩
  refine ⟨_, rfl, ?_⟩
  have e : intsD (timesL p row f) = .tup (row.map fun x => .int (x * f % p)) := by unfold intsD timesL; rw [List.map_map]; rfl
  rw [← e]
  exact h
theorem sc_less : FnScope ["prime", "row", "other", "factor", "own", "far"] ["prime", "row", "other", "factor"] (defScope (topS 19)) := ⟨rfl, rfl, rfl, by decide +kernel, rfl, by decide +kernel, by decide +kernel⟩
theorem ok_less {f : Addr} {fd : FuncData} (F : Fun K "less" "less" (topS 19) f fd) (B : Bs mg) : FnOk P w K mg base CX0 1 f fd ["prime", "row", "other", "factor"] (spW K s_less) := by
  have sc := sc_less
  refine fn_w F sc (fun as P h => ?_) fun cdv A outer s H E hr as R h => ?_
  · obtain ⟨p, row, other, f, rfl, h⟩ := h
    rfl
  obtain ⟨p, row, other, f, rfl, ⟨h0, hl, hs⟩, h⟩ := h
  show SsW _ _ [.dat (.int p), .dat (.tup (row.map .int)), .dat (.tup (other.map .int)), .dat (.int f), .un, .un] _
  refine ssw_one ?_
  refine sw_ret ?_
  refine ew_tuple B.tuple ?_
  refine ew_lcM (.two 4 5) [("own", 4), ("far", 5)] VX.pairD (fun q => .int ((q.1 - f * q.2) % p)) rfl sc.nd (blkOk_by (N := ["prime", "row", "other", "factor", "own", "far"]) (sc := defScope (topS 19)) (by decide +kernel)) (by decide) (fun _ _ _ _ _ => pg_tup rfl (pgs_cons (pg_name (i := 4) sc.nd rfl (.inl rfl)) (pgs_cons (pg_name (i := 5) sc.nd rfl (.inl rfl)) pgs_nil))) ?_
  refine iw_zipT B.zip ?_
  refine ew_name 1 rfl (by nofun) ?_
  refine ew_name 2 rfl (by nofun) ?_
  refine ⟨_, _, rfl, rfl, ?_⟩
  refine ⟨row.zip other, ⟨zipD_ints _ _, by rw [List.length_zip]; omega, rfl, fun x hx => ⟨_, rfl, ?_⟩⟩, ?_⟩
  · intro s H C cl fp
    refine ew_mod ?_
    refine ew_sub ?_
    refine ew_name 4 rfl (by nofun) ?_
    refine ew_mul ?_
    refine ew_name 3 rfl (by nofun) ?_
    refine ew_name 5 rfl (by nofun) ?_
    refine ⟨_, _, rfl, rfl, sml_mul2 hs, ?_⟩
    refine ⟨_, _, rfl, rfl, ?_⟩
    refine ew_name 0 rfl (by nofun) ?_
    refine ⟨_, _, rfl, rfl, h0, ?_⟩
    exact ⟨rfl, rfl⟩
  refine ⟨_, rfl, ?_⟩
  refine ⟨_, rfl, ?_⟩
  have e : intsD (lessL p row other f) = .tup ((row.zip other).map fun q => .int ((q.1 - f * q.2) % p)) := by unfold intsD lessL; rw [List.map_map]; rfl
  rw [← e]
  exact h
theorem sc_lead_of : FnScope ["row", "place", "own"] ["row"] (defScope (topS 20)) := ⟨rfl, rfl, rfl, by decide +kernel, rfl, by decide +kernel, by decide +kernel⟩
theorem ok_lead_of {f : Addr} {fd : FuncData} (F : Fun K "lead_of" "lead_of" (topS 20) f fd) (B : Bs mg) : FnOk P w K mg base CX0 1 f fd ["row"] (spW K s_lead_of) := by
  have sc := sc_lead_of
  refine fn_w F sc (fun as P h => ?_) fun cdv A outer s H E hr as R h => ?_
  · obtain ⟨row, rfl, h⟩ := h
    rfl
  obtain ⟨row, rfl, h⟩ := h
  show SsW _ _ [.dat (.tup (row.map .int)), .un, .un] _
  refine ssw_cons ?_
  refine sw_for rfl PassesOwn.never ?_
  refine iw_enumT B.enumerate ?_
  refine ew_name 0 rfl (by nofun) ?_
  refine ⟨_, rfl, ?_⟩
  refine ⟨fun i Γ => ∃ x y, (∀ ds, x ≠ Dsc.io ds) ∧ (∀ ds, y ≠ Dsc.io ds) ∧ Γ = [.dat (.tup (row.map .int)), x, y] ∧ ∀ (j : Nat) (z : Int), j < i → row[j]? = some z → z = 0, ⟨.un, .un, (by intro ds e; cases e), (by intro ds e; cases e), rfl, fun j z hj => absurd hj (Nat.not_lt_zero _)⟩, fun i d Γ2 hd hJ => ?_, fun Γ2 hJ => ?_⟩
  · obtain ⟨x, y, hx, hy, rfl, hz⟩ := hJ
    have hi : i < row.length := by
      have := (List.getElem?_eq_some_iff.mp hd).1
      rw [enumD_len, List.length_map] at this
      exact this
    have e0 : row[i]? = some row[i] := List.getElem?_eq_getElem hi
    rw [enumD_get (show (row.map D.int)[i]? = some (.int row[i]) by rw [List.getElem?_map, e0]; rfl)] at hd
    cases hd
    refine gw_tup rfl rfl ?_
    refine gsw_cons ?_
    refine gw_name 1 sc.nd rfl (canSet_of rfl hx) ?_
    refine gsw_cons ?_
    refine gw_name 2 sc.nd rfl (canSet_of rfl hy) ?_
    refine gsw_nil ?_
    refine ssw_one ?_
    refine sw_if ?_
    refine tw_ne ?_
    refine ew_name 2 rfl (by nofun) ?_
    refine ew_int ?_
    refine ⟨_, _, _, _, rfl, rfl, rfl, rfl, rfl, ?_⟩
    refine ⟨fun hb => ?_, fun hb => ?_⟩
    · -- return place
      refine ssw_one ?_
      refine sw_ret ?_
      refine ew_name 1 rfl (by nofun) ?_
      have ne : row[i] ≠ 0 := fun z => by rw [z] at hb; cases hb
      have el : leadL row = some i := by
        unfold leadL
        rw [List.findIdx?_eq_some_iff_getElem]
        refine ⟨hi, by simp [ne], fun j hj => ?_⟩
        simp [hz j _ hj (List.getElem?_eq_getElem (by omega))]
      have e : leadD row = .int (i : Nat) := by unfold leadD; rw [el]
      rw [e] at h
      exact ⟨_, rfl, h⟩
    · refine ssw_nil ?_
      refine ⟨.dat _, .dat _, (by intro ds e; cases e), (by intro ds e; cases e), rfl, fun j z hj hjz => ?_⟩
      rcases Nat.lt_or_ge j i with c | c
      · exact hz j z c hjz
      · have : j = i := by omega
        subst this
        rw [e0] at hjz
        cases hjz
        rcases Decidable.em (row[j] = 0) with c | c
        · exact c
        · have := of_decide_eq_true (show decide (V.int row[j] = V.int 0) = true by simpa using hb)
          exact V.int.inj this
  · obtain ⟨x, y, hx, hy, rfl, hz⟩ := hJ
    rw [enumD_len, List.length_map] at hz
    refine ssw_one ?_
    refine sw_ret ?_
    refine ew_non ?_
    have el : leadL row = none := by
      unfold leadL
      rw [List.findIdx?_eq_none_iff]
      intro z hzm
      obtain ⟨j, hj⟩ := List.mem_iff_getElem?.mp hzm
      simp [hz j z (List.getElem?_eq_some_iff.mp hj).1 hj]
    have e : leadD row = .non := by unfold leadD; rw [el]
    rw [e] at h
    exact ⟨_, rfl, h⟩
end
end V85

namespace VX
open PySem PySem.Spec PyProof.Rows L2
theorem tw_isN {X : Cx} {Γ : List Dsc} {a b : Expr} {pos : Pos} {P : Bool → List Dsc → Prop} (h : EW X a Γ fun x Γ1 => EW X b Γ1 fun y Γ2 => ∃ d, x = .dat d ∧ y = .dat .non ∧ P (match d with | .non => true | _ => false) Γ2) : TW X (.Compare a [.Is] [b] pos) Γ P :=
  tw_cmp op_isN (h.mono fun x Γ1 h1 => h1.mono fun y Γ2 ⟨d, e1, e2, hp⟩ => (kw_isN (neg := false) (P := fun d Γ3 => ∃ k, d = .dat (.bl k) ∧ P k Γ3) ⟨d, e1, e2, _, rfl, hp⟩).mono fun vs H Q z => z)
theorem tw_notN {X : Cx} {Γ : List Dsc} {a b : Expr} {pos : Pos} {P : Bool → List Dsc → Prop} (h : EW X a Γ fun x Γ1 => EW X b Γ1 fun y Γ2 => ∃ d, x = .dat d ∧ y = .dat .non ∧ P (match d with | .non => false | _ => true) Γ2) : TW X (.Compare a [.IsNot] [b] pos) Γ P :=
  tw_cmp op_notN (h.mono fun x Γ1 h1 => h1.mono fun y Γ2 ⟨d, e1, e2, hp⟩ => (kw_isN (neg := true) (P := fun d Γ3 => ∃ k, d = .dat (.bl k) ∧ P k Γ3) ⟨d, e1, e2, _, rfl, hp⟩).mono fun vs H Q z => z)
end VX
namespace V85
open PySem PySem.Spec PyProof.Rows L2 VX
theorem lessO_some {p : Int} {row own g r : List Int} {a : Option Nat} (h : lessO p row own a g = some r) : ∃ i f, a = some i ∧ g[i]? = some f ∧ sml f = true ∧ r = lessL p row own f := by
  unfold lessO at h
  obtain ⟨i, h1, h⟩ := Option.bind_eq_some_iff.mp h
  obtain ⟨f, h2, h⟩ := Option.bind_eq_some_iff.mp h
  split at h
  · rename_i hs
    cases h
    exact ⟨i, f, h1, h2, hs, rfl⟩
  · cases h
theorem lessL_len {p : Int} {row own : List Int} {f : Int} : (lessL p row own f).length ≤ row.length := by
  unfold lessL
  rw [List.length_map, List.length_zip]
  exact Nat.min_le_left _ _
theorem lessAll_some {p : Int} {left : List Int} {i : Nat} : ∀ {found fs : List (List Int)}, lessAll p left i found = some fs → fs = found.map (fun own => lessL p own left (own[i]?.getD 0)) ∧ ∀ own ∈ found, ∃ f, own[i]? = some f ∧ sml f = true
  | [], fs, h => by
    cases h
    exact ⟨rfl, nofun⟩
  | own :: found, fs, h => by
    unfold lessAll at h
    obtain ⟨r, h1, h⟩ := Option.bind_eq_some_iff.mp h
    obtain ⟨gs, h2, rfl⟩ := Option.map_eq_some_iff.mp h
    obtain ⟨i', f, e1, e2, e3, e4⟩ := lessO_some h1
    cases e1
    obtain ⟨q1, q2⟩ := lessAll_some h2
    refine ⟨?_, fun o ho => ?_⟩
    · rw [List.map_cons, ← q1, e4, e2]; rfl
    · rcases List.mem_cons.mp ho with rfl | ho
      · exact ⟨f, e2, e3⟩
      · exact q2 o ho
theorem leadsL_some : ∀ {found : List (List Int)} {ks : List Nat}, leadsL found = some ks → ks.length = found.length ∧ ∀ (i : Nat) (own : List Int), found[i]? = some own → ∃ k, ks[i]? = some k ∧ leadL own = some k
  | [], ks, h => by
    cases h
    exact ⟨rfl, fun i own h => by simp at h⟩
  | own :: found, ks, h => by
    unfold leadsL at h
    obtain ⟨k, h1, h⟩ := Option.bind_eq_some_iff.mp h
    obtain ⟨gs, h2, rfl⟩ := Option.map_eq_some_iff.mp h
    obtain ⟨q1, q2⟩ := leadsL_some h2
    refine ⟨by rw [List.length_cons, List.length_cons, q1], fun i o ho => ?_⟩
    cases i with
    | zero => simp at ho; subst ho; exact ⟨k, rfl, h1⟩
    | succ i =>
      rw [List.getElem?_cons_succ] at ho
      obtain ⟨k', e1, e2⟩ := q2 i o ho
      exact ⟨k', by rw [List.getElem?_cons_succ]; exact e1, e2⟩
theorem drop_get {α : Type} {xs : List α} {i : Nat} {x : α} (h : xs[i]? = some x) : xs.drop i = x :: xs.drop (i + 1) := by
  obtain ⟨hi, rfl⟩ := List.getElem?_eq_some_iff.mp h
  exact List.drop_eq_getElem_cons hi
section
variable {P : Program} {w : World} {K : PySem.W.Frag} {mg : Str → Option Value} {base : Heap}
theorem sc_reduced : FnScope ["prime", "row", "found", "own"] ["prime", "row", "found"] (defScope (topS 21)) := ⟨rfl, rfl, rfl, by decide +kernel, rfl, by decide +kernel, by decide +kernel⟩
theorem ok_reduced {f : Addr} {fd : FuncData} (F : Fun K "reduced" "reduced" (topS 21) f fd) (B : Bs mg) (C_less : C8.Cal P w K mg base 1 "less" (spW K s_less) []) (C_lead_of : C8.Cal P w K mg base 1 "lead_of" (spW K s_lead_of) []) : FnOk P w K mg base CX0 2 f fd ["prime", "row", "found"] (spW K s_reduced) := by
  have sc := sc_reduced
  refine fn_w F sc (fun as P h => ?_) fun cdv A outer s H E hr as R h => ?_
  · obtain ⟨p, row, found, r, rfl, h⟩ := h
    rfl
  obtain ⟨p, row, found, r, rfl, ⟨h0, hl, hred⟩, h⟩ := h
  show SsW _ _ [.dat (.int p), .dat (intsD row), .dat (.lst (found.map intsD)), .un] _
  refine ssw_cons ?_
  refine sw_for rfl PassesOwn.never ?_
  refine iw_lst ?_
  refine ew_name 2 rfl (by nofun) ?_
  refine ⟨_, .inr rfl, ?_⟩
  refine ⟨fun i Γ => ∃ ri x, (∀ ds, x ≠ Dsc.io ds) ∧ Γ = [.dat (.int p), .dat (intsD ri), .dat (.lst (found.map intsD)), x] ∧ ri.length < 1000 ∧ reducedL p ri (found.drop i) = some r, ⟨row, .un, (by intro ds e; cases e), rfl, hl, hred⟩, fun i d Γ2 hd hJ => ?_, fun Γ2 hJ => ?_⟩
  · obtain ⟨ri, x, hx, rfl, hl', hj⟩ := hJ
    rw [List.getElem?_map] at hd
    obtain ⟨own, ho, rfl⟩ := Option.map_eq_some_iff.mp hd
    rw [drop_get ho] at hj
    unfold reducedL at hj
    obtain ⟨r1, h1, h2⟩ := Option.bind_eq_some_iff.mp hj
    obtain ⟨k, f, e1, e2, e3, rfl⟩ := lessO_some h1
    have el : leadD own = .int (k : Nat) := by unfold leadD; rw [e1]
    refine gw_name 3 sc.nd rfl (canSet_of rfl hx) ?_
    refine ssw_one ?_
    refine sw_set 1 sc.nd ?_
    refine ew_call C_less hr (by decide) ?_
    refine aw_cons ?_
    refine ew_name 0 rfl (by nofun) ?_
    refine aw_cons ?_
    refine ew_name 1 rfl (by nofun) ?_
    refine aw_cons ?_
    refine ew_name 3 rfl (by nofun) ?_
    refine aw_cons ?_
    refine ew_ix ?_
    refine ew_name 1 rfl (by nofun) ?_
    refine ew_call C_lead_of hr (by decide) ?_
    refine aw_cons ?_
    refine ew_name 3 rfl (by nofun) ?_
    refine aw_nil ?_
    refine ⟨_, rfl, List.nodup_nil, ⟨own, rfl, trivial, ?_⟩⟩
    rw [el]
    refine ⟨_, _, _, rfl, rfl, atI_ints e2, ?_⟩
    refine aw_nil ?_
    refine ⟨_, rfl, List.nodup_nil, ⟨p, ri, own, f, rfl, ⟨h0, hl', e3⟩, trivial, ?_⟩⟩
    refine ⟨_, rfl, rfl, ?_⟩
    exact ⟨_, .dat _, (by intro ds e; cases e), rfl, Nat.lt_of_le_of_lt lessL_len hl', h2⟩
  · obtain ⟨ri, x, hx, rfl, hl', hj⟩ := hJ
    rw [List.length_map, List.drop_length] at hj
    cases hj
    refine ssw_one ?_
    refine sw_ret ?_
    refine ew_name 1 rfl (by nofun) ?_
    exact ⟨_, rfl, h⟩
theorem tp_rows {rows : List (List Int)} (h1 : rows.length ≤ 50) (h2 : ∀ r ∈ rows, r.length < 1000) : Tp 8 (.tup (rows.map intsD)) := by
  refine ⟨by rw [List.length_map]; omega, fun t ht => ?_⟩
  obtain ⟨r, hr, rfl⟩ := List.mem_map.mp ht
  have := h2 r hr
  refine ⟨by rw [List.length_map]; omega, fun t ht => ?_⟩
  obtain ⟨z, _, rfl⟩ := List.mem_map.mp ht
  trivial
theorem sc_basis : FnScope ["prime", "rows", "found", "row", "left", "place", "own"] ["prime", "rows"] (defScope (topS 22)) := ⟨rfl, rfl, rfl, by decide +kernel, rfl, by decide +kernel, by decide +kernel⟩
theorem ok_basis {f : Addr} {fd : FuncData} (F : Fun K "basis" "basis" (topS 22) f fd) (B : Bs mg) (C_tupled : C8.Cal P w K mg base 9 "tupled" (spW K (s_tupled 8)) []) (C_reduced : C8.Cal P w K mg base 2 "reduced" (spW K s_reduced) []) (C_lead_of : C8.Cal P w K mg base 1 "lead_of" (spW K s_lead_of) [])
    (C_times : C8.Cal P w K mg base 1 "times" (spW K s_times) []) (C_inverse : C8.Cal P w K mg base 1 "inverse" (spW K s_inverse) []) (C_less : C8.Cal P w K mg base 1 "less" (spW K s_less) []) : FnOk P w K mg base CX0 10 f fd ["prime", "rows"] (spW K s_basis) := by
  have sc := sc_basis
  refine fn_w F sc (fun as P h => ?_) fun cdv A outer s H E hr as R h => ?_
  · obtain ⟨p, rows, ff, rfl, h⟩ := h
    rfl
  obtain ⟨p, rows, ff, rfl, ⟨h0, h1, hl, hlr, hb⟩, h⟩ := h
  unfold basisL at hb
  obtain ⟨ff', hfound, hb⟩ := Option.bind_eq_some_iff.mp hb
  obtain ⟨ks, hks, e⟩ := Option.map_eq_some_iff.mp hb
  subst e
  show SsW _ _ [.dat (.int p), .dat (.tup (rows.map intsD)), .un, .un, .un, .un, .un] _
  refine ssw_cons ?_
  refine sw_set 2 sc.nd ?_
  refine ew_lst ?_
  refine aw_nil ?_
  refine ⟨_, rfl, by decide, ?_⟩
  refine ⟨_, rfl, rfl, ?_⟩
  refine ssw_cons ?_
  refine sw_for rfl PassesOwn.never ?_
  refine iw_tup ?_
  refine ew_call C_tupled hr (by decide) ?_
  refine aw_cons ?_
  refine ew_name 1 rfl (by nofun) ?_
  refine aw_nil ?_
  refine ⟨_, rfl, List.nodup_nil, ⟨_, rfl, tp_rows hl hlr, trivial, ?_⟩⟩
  refine ⟨_, rfl, ?_⟩
  refine ⟨fun i Γ => ∃ (fi : List (List Int)) (s2 x3 x4 x5 : Dsc), (s2 = .own (fi.map intsD) ∨ s2 = .dat (.lst (fi.map intsD))) ∧ (∀ ds, x3 ≠ Dsc.io ds) ∧ (∀ ds, x4 ≠ Dsc.io ds) ∧ (∀ ds, x5 ≠ Dsc.io ds) ∧ Γ = [.dat (.int p), .dat (.tup (rows.map intsD)), s2, x3, x4, x5, .un] ∧
    fi.length ≤ i ∧ (∀ o ∈ fi, o.length < 1000) ∧ foundL p fi (rows.drop i) = some ff', ⟨[], .own [], .un, .un, .un, .inl rfl, (by intro ds e; cases e), (by intro ds e; cases e), (by intro ds e; cases e), rfl, Nat.le_refl _, nofun, hfound⟩, fun i d Γ2 hd hJ => ?_, fun Γ2 hJ => ?_⟩
  · obtain ⟨fi, s2, x3, x4, x5, hs2, hx3, hx4, hx5, rfl, hfl, hfo, hj⟩ := hJ
    rw [List.getElem?_map] at hd
    obtain ⟨row, ho, rfl⟩ := Option.map_eq_some_iff.mp hd
    have hrow : row.length < 1000 := hlr row (List.mem_of_getElem? ho)
    have hi : i < rows.length := (List.getElem?_eq_some_iff.mp ho).1
    rw [drop_get ho] at hj
    unfold foundL at hj
    obtain ⟨f1, hst, hj⟩ := Option.bind_eq_some_iff.mp hj
    unfold stepL at hst
    obtain ⟨r, hred, hst⟩ := Option.bind_eq_some_iff.mp hst
    have hrl : ∀ {found : List (List Int)} {row r : List Int}, reducedL p row found = some r → r.length ≤ row.length := fun {found} => by
      induction found with
      | nil => intro row r h; cases h; exact Nat.le_refl _
      | cons o found ih =>
        intro row r h
        unfold reducedL at h
        obtain ⟨r1, h1, h2⟩ := Option.bind_eq_some_iff.mp h
        obtain ⟨_, _, _, _, _, rfl⟩ := lessO_some h1
        exact Nat.le_trans (ih h2) lessL_len
    have hr1 : r.length < 1000 := Nat.lt_of_le_of_lt (hrl hred) hrow
    refine gw_name 3 sc.nd rfl (canSet_of rfl hx3) ?_
    have fr : ∀ {X : Cx} {rest : List Stmt} {D : PEnds}, SsW X rest [.dat (.int p), .dat (.tup (rows.map intsD)), .dat (.lst (fi.map intsD)), .dat (intsD row), x4, x5, .un] D → SsW X rest [.dat (.int p), .dat (.tup (rows.map intsD)), s2, .dat (intsD row), x4, x5, .un] D := fun hh => by
      rcases hs2 with rfl | rfl
      · exact ssw_freeze 2 rfl hh
      · exact hh
    refine fr ?_
    ·
      refine ssw_cons ?_
      refine sw_set 4 sc.nd ?_
      refine ew_call C_reduced hr (by decide) ?_
      refine aw_cons ?_
      refine ew_name 0 rfl (by nofun) ?_
      refine aw_cons ?_
      refine ew_name 3 rfl (by nofun) ?_
      refine aw_cons ?_
      refine ew_name 2 rfl (by nofun) ?_
      refine aw_nil ?_
      refine ⟨_, rfl, List.nodup_nil, ⟨p, row, fi, r, rfl, ⟨h0, hrow, hred⟩, trivial, ?_⟩⟩
      refine ⟨_, rfl, canSet_of rfl hx4, ?_⟩
      refine ssw_cons ?_
      refine sw_set 5 sc.nd ?_
      refine ew_call C_lead_of hr (by decide) ?_
      refine aw_cons ?_
      refine ew_name 4 rfl (by nofun) ?_
      refine aw_nil ?_
      refine ⟨_, rfl, List.nodup_nil, ⟨r, rfl, trivial, ?_⟩⟩
      refine ⟨_, rfl, canSet_of rfl hx5, ?_⟩
      show SsW _ _ [.dat (.int p), .dat (.tup (rows.map intsD)), .dat (.lst (fi.map intsD)), .dat (intsD row), .dat (intsD r), .dat (leadD r), .un] _
      refine ssw_one ?_
      refine sw_if ?_
      refine tw_notN ?_
      refine ew_name 5 rfl (by nofun) ?_
      refine ew_non ?_
      cases el : leadL r with
      | none =>
        have ed : leadD r = .non := by unfold leadD; rw [el]
        rw [ed]
        rw [el] at hst
        cases hst
        refine ⟨_, rfl, rfl, ?_⟩
        refine ⟨fun hb => (nomatch hb), fun hb => ?_⟩
        refine ssw_nil ?_
        exact ⟨fi, _, _, _, _, .inr rfl, (by intro ds e; cases e), (by intro ds e; cases e), (by intro ds e; cases e), rfl, by omega, hfo, hj⟩
      | some k =>
        have ed : leadD r = .int (k : Nat) := by unfold leadD; rw [el]
        rw [ed]
        rw [el] at hst
        obtain ⟨g, hg, hst⟩ := Option.bind_eq_some_iff.mp hst
        split at hst
        · rename_i hsg
          obtain ⟨v, hv, hst⟩ := Option.bind_eq_some_iff.mp hst
          split at hst
          · rename_i hsv
            obtain ⟨fs, hfs, rfl⟩ := Option.map_eq_some_iff.mp hst
            obtain ⟨hfe, hff⟩ := lessAll_some hfs
            have htl : (timesL p r v).length < 1000 := by unfold timesL; rw [List.length_map]; exact hr1
            refine ⟨_, rfl, rfl, ?_⟩
            refine ⟨fun hb => ?_, fun hb => (nomatch hb)⟩
            refine ssw_cons ?_
            refine sw_set 4 sc.nd ?_
            refine ew_call C_times hr (by decide) ?_
            refine aw_cons ?_
            refine ew_name 0 rfl (by nofun) ?_
            refine aw_cons ?_
            refine ew_name 4 rfl (by nofun) ?_
            refine aw_cons ?_
            refine ew_call C_inverse hr (by decide) ?_
            refine aw_cons ?_
            refine ew_name 0 rfl (by nofun) ?_
            refine aw_cons ?_
            refine ew_ix ?_
            refine ew_name 4 rfl (by nofun) ?_
            refine ew_name 5 rfl (by nofun) ?_
            refine ⟨_, _, _, rfl, rfl, atI_ints hg, ?_⟩
            refine aw_nil ?_
            refine ⟨_, rfl, List.nodup_nil, ⟨p, g, v, rfl, ⟨h0, h1, hsg, hv⟩, trivial, ?_⟩⟩
            refine aw_nil ?_
            refine ⟨_, rfl, List.nodup_nil, ⟨p, r, v, rfl, ⟨h0, hr1, hsv⟩, trivial, ?_⟩⟩
            refine ⟨_, rfl, rfl, ?_⟩
            show SsW _ _ [.dat (.int p), .dat (.tup (rows.map intsD)), .dat (.lst (fi.map intsD)), .dat (intsD row), .dat (intsD (timesL p r v)), .dat (.int (k : Nat)), .un] _
            refine ssw_one ?_
            refine sw_set 2 sc.nd ?_
            refine ew_catL ?_
            refine ew_lcM (.one 6) [("own", 6)] intsD (fun own => intsD (lessL p own (timesL p r v) (own[k]?.getD 0))) rfl sc.nd (blkOk_by (N := ["prime", "rows", "found", "row", "left", "place", "own"]) (sc := defScope (topS 22)) (by decide +kernel)) (by decide) (fun _ _ _ _ _ => (pg_name (i := 6) sc.nd rfl (.inl rfl))) ?_
            refine iw_lst ?_
            refine ew_name 2 rfl (by nofun) ?_
            refine ⟨_, .inr rfl, ?_⟩
            refine ⟨fi, ⟨rfl, by omega, rfl, fun own hx => ⟨_, rfl, ?_⟩⟩, ?_⟩
            · intro s H C cl fp
              obtain ⟨g, hg1, hg2⟩ := hff own hx
              refine ew_call C_less hr (by decide) ?_
              refine aw_cons ?_
              refine ew_name 0 rfl (by nofun) ?_
              refine aw_cons ?_
              refine ew_name 6 rfl (by nofun) ?_
              refine aw_cons ?_
              refine ew_name 4 rfl (by nofun) ?_
              refine aw_cons ?_
              refine ew_ix ?_
              refine ew_name 6 rfl (by nofun) ?_
              refine ew_name 5 rfl (by nofun) ?_
              refine ⟨_, _, _, rfl, rfl, atI_ints hg1, ?_⟩
              refine aw_nil ?_
              refine ⟨_, rfl, List.nodup_nil, ⟨p, own, timesL p r v, g, rfl, ⟨h0, hfo own hx, hg2⟩, trivial, ?_⟩⟩
              exact ⟨by show some _ = some (intsD (lessL p own (timesL p r v) (own[k]?.getD 0))); rw [hg1]; rfl, rfl⟩
            refine ew_lst ?_
            refine aw_cons ?_
            refine ew_name 4 rfl (by nofun) ?_
            refine aw_nil ?_
            refine ⟨_, rfl, by show 1 ≤ 1000000; decide, ?_⟩
            refine ⟨_, _, rfl, rfl, ?_, ?_⟩
            · rw [List.length_map]; show fi.length + 1 ≤ 1000000; omega
            refine ⟨_, rfl, rfl, ?_⟩
            refine ⟨fs ++ [timesL p r v], _, _, _, _, .inl ?_, (by intro ds e; cases e), (by intro ds e; cases e), (by intro ds e; cases e), rfl, ?_, ?_, hj⟩
            · rw [List.map_append, hfe, List.map_map]; rfl
            · rw [hfe, List.length_append, List.length_map]; show fi.length + 1 ≤ i + 1; omega
            · intro o ho
              rcases List.mem_append.mp ho with ho | ho
              · rw [hfe] at ho
                obtain ⟨o', ho', rfl⟩ := List.mem_map.mp ho
                exact Nat.lt_of_le_of_lt lessL_len (hfo o' ho')
              · rw [List.mem_singleton.mp ho]; exact htl
          · cases hst
        · cases hst
  · obtain ⟨fi, s2, x3, x4, x5, hs2, hx3, hx4, hx5, rfl, hfl, hfo, hj⟩ := hJ
    rw [List.length_map, List.drop_length] at hj
    cases hj
    rw [List.length_map] at hfl
    obtain ⟨q1, q2⟩ := leadsL_some hks
    refine ssw_one ?_
    refine sw_ret ?_
    refine ew_tuple B.tuple ?_
    refine ew_sortedK C_lead_of hr (by decide) B.sorted ?_
    have fin : ∀ x : Dv, lstOf [.dat (.int p), .dat (.tup (rows.map intsD)), s2, x3, x4, x5, .un] x = some (ff'.map intsD) → ∃ (ds : List D) (kz : List Int), lstOf [.dat (.int p), .dat (.tup (rows.map intsD)), s2, x3, x4, x5, .un] x = some ds ∧ ds.length < 64 ∧ kz.length = ds.length ∧ (∀ (i : Nat) d z, ds[i]? = some d → kz[i]? = some z → s_lead_of [.dat d] fun r _ => r = .dat (.int z)) ∧
        ∀ ds' : List D, ds'.Perm ds → ∃ ds0, seqOf [.dat (.int p), .dat (.tup (rows.map intsD)), s2, x3, x4, x5, .un] (.new ds') = some ds0 ∧ (endsW [.dat (.int p), .dat (.tup (rows.map intsD))] R).rt (.dat (.tup ds0)) [.dat (.int p), .dat (.tup (rows.map intsD)), s2, x3, x4, x5, .un] := fun x hx => by
      refine ⟨_, ks.map fun k : Nat => (k : Int), hx, by rw [List.length_map]; omega, by rw [List.length_map, List.length_map, q1], fun i d z hd hz => ?_, fun ds' pm => ⟨ds', rfl, _, rfl, h ds' (by rw [pm.length_eq, List.length_map])⟩⟩
      rw [List.getElem?_map] at hd hz
      obtain ⟨own, ho, rfl⟩ := Option.map_eq_some_iff.mp hd
      obtain ⟨k, hk, rfl⟩ := Option.map_eq_some_iff.mp hz
      obtain ⟨k', e1, e2⟩ := q2 i own ho
      rw [hk] at e1
      cases e1
      exact ⟨own, rfl, by unfold leadD; rw [e2]⟩
    rcases hs2 with rfl | rfl
    · refine ew_name 2 rfl (by nofun) ?_
      exact fin _ rfl
    · refine ew_name 2 rfl (by nofun) ?_
      exact fin _ rfl
theorem sc_rank : FnScope ["prime", "rows"] ["prime", "rows"] (defScope (topS 23)) := ⟨rfl, rfl, rfl, by decide +kernel, rfl, by decide +kernel, by decide +kernel⟩
theorem ok_rank {f : Addr} {fd : FuncData} (F : Fun K "rank" "rank" (topS 23) f fd) (B : Bs mg) (C_basis : C8.Cal P w K mg base 10 "basis" (spW K s_basis) []) : FnOk P w K mg base CX0 11 f fd ["prime", "rows"] (spW K s_rank) := by
  have sc := sc_rank
  refine fn_w F sc (fun as P h => ?_) fun cdv A outer s H E hr as R h => ?_
  · obtain ⟨p, rows, ff, rfl, h⟩ := h
    rfl
  obtain ⟨p, rows, ff, rfl, ok, h⟩ := h
  show SsW _ _ [.dat (.int p), .dat (.tup (rows.map intsD))] _
  refine ssw_one ?_
  refine sw_ret ?_
  refine ew_len B.len ?_
  refine ew_call C_basis hr (by decide) ?_
  refine aw_cons ?_
  refine ew_name 0 rfl (by nofun) ?_
  refine aw_cons ?_
  refine ew_name 1 rfl (by nofun) ?_
  refine aw_nil ?_
  refine ⟨_, rfl, List.nodup_nil, ⟨p, rows, ff, rfl, ok, fun ds hds => ⟨trivial, ?_⟩⟩⟩
  refine ⟨_, rfl, ?_⟩
  rw [hds]
  exact ⟨_, rfl, h⟩
end
end V85

namespace V85
open PySem PySem.Spec PyProof.Rows L2 VX
def regsOk (n : Nat) (rs : List Int) : Prop := rs.length ≤ 100 ∧ ∀ r ∈ rs, 0 ≤ r ∧ r < n
def srt2 (x y : Int × Int) : List (Int × Int) := if x.1 < y.1 then [x, y] else [y, x]
def fresh (p a b s : Int) : List It := [.dr s, .st a (srt2 (a, 1) (s, 1)), .st b (srt2 (b, 1) (s, p - 1)), .st s []]
def s_sure_registers : Spc := fun as P => ∃ p n rs, as = [.dat (machD p n), .dat (intsD rs)] ∧ regsOk n rs ∧ P (.dat .non) []
def s_sure_parts : Spc := fun as P => ∃ p n rs s, as = [.dat (machD p n), .dat (intsD rs), .dat (.int s)] ∧ (regsOk n (rs ++ [s]) ∧ s ∉ rs ∧ 2 ≤ rs.length) ∧ P (.dat .non) []
def s_renewal_way : Spc := fun as P => ∃ p n a b s, as = [.dat (machD p n), .dat (intsD [a, b]), .dat (.int s)] ∧ (a ≠ s ∧ b ≠ s) ∧ P (.dat (wayD (fresh p a b s))) []
def s_renewal : Spc := fun as P => ∃ p n a b s, as = [.dat (machD p n), .dat (intsD [a, b]), .dat (.int s)] ∧ (n ≤ 1000 ∧ regsOk n [a, b, s] ∧ a ≠ s ∧ b ≠ s) ∧ P (.dat (wayD (fresh p a b s))) []
def s_sure_line_way : Spc := fun as P => ∃ p n rs w, as = [.dat (machD p n), .dat (intsD rs), .dat (wayD w)] ∧ (regsOk n rs ∧ 2 ≤ rs.length ∧ w.length ≤ 1000 ∧ ∀ it ∈ w, okIt p n it) ∧ P (.dat .non) []
theorem srt2_perm (x y : Int × Int) : (srt2 x y).Perm [x, y] := by
  unfold srt2
  split
  · exact List.Perm.refl _
  · exact List.Perm.swap _ _ _
theorem srt2_lt {x y : Int × Int} (h : x.1 ≠ y.1) : (srt2 x y).Pairwise lexLt := by
  unfold srt2
  split
  · rename_i c
    exact List.pairwise_cons.mpr ⟨fun z hz => by rw [List.mem_singleton.mp hz]; exact .inl c, List.pairwise_singleton _ _⟩
  · rename_i c
    exact List.pairwise_cons.mpr ⟨fun z hz => by rw [List.mem_singleton.mp hz]; exact .inl (by omega), List.pairwise_singleton _ _⟩
theorem tp_mach (p : Int) {n : Nat} (h : n ≤ 1000) : Tp 8 (machD p n) := by
  refine ⟨by show 3 < 1000000; decide, fun t ht => ?_⟩
  rcases List.mem_cons.mp ht with rfl | ht
  · trivial
  · rcases List.mem_cons.mp ht with rfl | ht
    · refine ⟨by rw [List.length_replicate]; omega, fun t ht => ?_⟩
      rw [List.eq_of_mem_replicate ht]
      trivial
    · rw [List.mem_singleton.mp ht]
      refine ⟨by show 3 < 1000000; decide, fun t ht => ?_⟩
      have pr : ∀ x : Str, ∀ i : Int, Tp 6 (.tup [.str x, .int i]) := fun x i => ⟨by show 2 < 1000000; decide, fun t ht => by
        rcases List.mem_cons.mp ht with rfl | ht
        · trivial
        · rw [List.mem_singleton.mp ht]; trivial⟩
      rcases List.mem_cons.mp ht with rfl | ht
      · exact pr _ _
      · rcases List.mem_cons.mp ht with rfl | ht
        · exact pr _ _
        · rw [List.mem_singleton.mp ht]; exact pr _ _
theorem tp_ints {m : Nat} {rs : List Int} (h : rs.length < 1000000) : Tp (m + 1) (intsD rs) := by
  refine ⟨by rw [List.length_map]; exact h, fun t ht => ?_⟩
  obtain ⟨z, _, rfl⟩ := List.mem_map.mp ht
  cases m <;> trivial
theorem tp_pair (m : Nat) (q : Int × Int) : Tp (m + 1) (VX.pairD q) := tp_ints (rs := [q.1, q.2]) (by show 2 < 1000000; decide)
theorem tp_way {p : Int} {n : Nat} {ws : List It} (h : ws.length ≤ 1000) (ok : ∀ it ∈ ws, okIt p n it) : Tp 8 (wayD ws) := by
  refine ⟨by rw [List.length_map]; omega, fun t ht => ?_⟩
  obtain ⟨it, hit, rfl⟩ := List.mem_map.mp ht
  have o := ok it hit
  cases it with
  | dr s =>
    refine ⟨by show 2 < 1000000; decide, fun t ht => ?_⟩
    rcases List.mem_cons.mp ht with rfl | ht
    · trivial
    · rw [List.mem_singleton.mp ht]; trivial
  | st s l =>
    refine ⟨by show 3 < 1000000; decide, fun t ht => ?_⟩
    rcases List.mem_cons.mp ht with rfl | ht
    · trivial
    · rcases List.mem_cons.mp ht with rfl | ht
      · trivial
      · rw [List.mem_singleton.mp ht]
        refine ⟨by rw [List.length_map]; have := o.2.1; omega, fun t ht => ?_⟩
        obtain ⟨q, _, rfl⟩ := List.mem_map.mp ht
        exact tp_pair _ q
section
variable {P : Program} {w : World} {K : PySem.W.Frag} {mg : Str → Option Value} {base : Heap}
theorem sc_sure_registers : FnScope ["machine", "registers", "slot"] ["machine", "registers"] (defScope (topS 28)) := ⟨rfl, rfl, rfl, by decide +kernel, rfl, by decide +kernel, by decide +kernel⟩
theorem ok_sure_registers {f : Addr} {fd : FuncData} (F : Fun K "sure_registers" "sure_registers" (topS 28) f fd) (B : Bs mg) : FnOk P w K mg base CX0 1 f fd ["machine", "registers"] (spW K s_sure_registers) := by
  have sc := sc_sure_registers
  refine fn_w F sc (fun as P h => ?_) fun cdv A outer s H E hr as R h => ?_
  · obtain ⟨p, n, rs, rfl, h⟩ := h
    rfl
  obtain ⟨p, n, rs, rfl, ⟨hl, hrs⟩, h⟩ := h
  show SsW _ _ [.dat (machD p n), .dat (.tup (rs.map .int)), .un] _
  refine ssw_one ?_
  refine sw_for rfl PassesOwn.never ?_
  refine iw_tup ?_
  refine ew_name 1 rfl (by nofun) ?_
  refine ⟨_, rfl, ?_⟩
  refine ⟨fun i Γ => ∃ x, (∀ ds, x ≠ Dsc.io ds) ∧ Γ = [.dat (machD p n), .dat (.tup (rs.map .int)), x], ⟨.un, (by intro ds e; cases e), rfl⟩, fun i d Γ2 hd hJ => ?_, fun Γ2 hJ => ?_⟩
  · obtain ⟨x, hx, rfl⟩ := hJ
    rw [List.getElem?_map] at hd
    obtain ⟨r, hr', rfl⟩ := Option.map_eq_some_iff.mp hd
    obtain ⟨r0, r1⟩ := hrs r (List.mem_of_getElem? hr')
    refine gw_name 2 sc.nd rfl (canSet_of rfl hx) ?_
    refine ssw_one ?_
    refine sw_if ?_
    refine tw_not ?_
    refine tw_chLeLt ?_
    refine ew_int ?_
    refine ew_name 2 rfl (by nofun) ?_
    refine ⟨_, _, rfl, rfl, fun hb => absurd r0 hb, fun hb => ?_⟩
    refine ew_len B.len ?_
    refine ew_ix ?_
    refine ew_name 0 rfl (by nofun) ?_
    refine ew_int ?_
    refine ⟨_, _, _, rfl, rfl, rfl, ?_⟩
    refine ⟨_, rfl, ?_⟩
    refine ⟨_, rfl, ?_⟩
    rw [List.length_replicate, decide_eq_true r1]
    refine ⟨fun hb => (nomatch hb), fun hb => ?_⟩
    refine ssw_nil ?_
    exact ⟨.dat _, (by intro ds e; cases e), rfl⟩
  · obtain ⟨x, hx, rfl⟩ := hJ
    exact h
theorem sc_sure_parts : FnScope ["machine", "registers", "slot"] ["machine", "registers", "slot"] (defScope (topS 29)) := ⟨rfl, rfl, rfl, by decide +kernel, rfl, by decide +kernel, by decide +kernel⟩
theorem ok_sure_parts {f : Addr} {fd : FuncData} (F : Fun K "sure_parts" "sure_parts" (topS 29) f fd) (B : Bs mg) (C_sure_registers : C8.Cal P w K mg base 1 "sure_registers" (spW K s_sure_registers) []) : FnOk P w K mg base CX0 2 f fd ["machine", "registers", "slot"] (spW K s_sure_parts) := by
  have sc := sc_sure_parts
  refine fn_w F sc (fun as P h => ?_) fun cdv A outer s H E hr as R h => ?_
  · obtain ⟨p, n, rs, sl, rfl, h⟩ := h
    rfl
  obtain ⟨p, n, rs, sl, rfl, ⟨hrs, hn, hl⟩, h⟩ := h
  show SsW _ _ [.dat (machD p n), .dat (.tup (rs.map .int)), .dat (.int sl)] _
  refine ssw_cons ?_
  refine sw_expr ?_
  refine ew_call C_sure_registers hr (by decide) ?_
  refine aw_cons ?_
  refine ew_name 0 rfl (by nofun) ?_
  refine aw_cons ?_
  refine ew_tup ?_
  refine aw_star ?_
  refine ew_name 1 rfl (by nofun) ?_
  refine ⟨_, rfl, nofun, ?_⟩
  refine aw_cons ?_
  refine ew_name 2 rfl (by nofun) ?_
  refine aw_nil ?_
  refine ⟨rs.map .int ++ [.int sl], datsOf_append (datsOf_map _) rfl, ?_, ?_⟩
  · rw [List.length_append, List.length_map]
    have := hrs.1
    rw [List.length_append] at this
    show rs.length + 1 ≤ 1000000
    have h1 : ([sl] : List Int).length = 1 := rfl
    omega
  refine aw_nil ?_
  refine ⟨_, rfl, List.nodup_nil, ⟨p, n, rs ++ [sl], by unfold intsD; rw [List.map_append]; rfl, hrs, trivial, ?_⟩⟩
  refine ssw_one ?_
  refine sw_if ?_
  refine tw_w ?_
  refine ww_or ?_
  refine tw_in ?_
  refine ew_name 2 rfl (by nofun) ?_
  refine ew_name 1 rfl (by nofun) ?_
  refine ⟨_, _, _, _, rfl, rfl, rfl, scVs_ints rs, ?_⟩
  rw [inV_ints, decide_eq_false hn]
  refine ⟨fun hb => (nomatch hb), fun hb => ?_⟩
  refine ww_one ?_
  refine tw_lt ?_
  refine ew_len B.len ?_
  refine ew_name 1 rfl (by nofun) ?_
  refine ⟨_, rfl, ?_⟩
  refine ew_gc (d := .int 2) B.FEWEST rfl ?_
  refine ⟨_, _, rfl, rfl, ?_⟩
  rw [List.length_map, decide_eq_false (by omega)]
  refine ⟨fun hb => (nomatch hb), fun hb => ?_⟩
  refine ssw_nil ?_
  exact h
theorem sc_renewal_way : FnScope ["machine", "registers", "slot", "prime", "least", "found", "other"] ["machine", "registers", "slot"] (defScope (topS 30)) := ⟨rfl, rfl, rfl, by decide +kernel, rfl, by decide +kernel, by decide +kernel⟩
theorem ok_renewal_way {f : Addr} {fd : FuncData} (F : Fun K "renewal_way" "renewal_way" (topS 30) f fd) (B : Bs mg) : FnOk P w K mg base CX0 1 f fd ["machine", "registers", "slot"] (spW K s_renewal_way) := by
  have sc := sc_renewal_way
  refine fn_w F sc (fun as P h => ?_) fun cdv A outer s H E hr as R h => ?_
  · obtain ⟨p, n, a, b, sl, rfl, h⟩ := h
    rfl
  obtain ⟨p, n, a, b, sl, rfl, ⟨ha, hb'⟩, h⟩ := h
  show SsW _ _ [.dat (machD p n), .dat (.tup [.int a, .int b]), .dat (.int sl), .un, .un, .un, .un] _
  refine ssw_cons ?_
  refine sw_par3 3 4 5 rfl sc.nd ?_
  refine ew_ix ?_
  refine ew_name 0 rfl (by nofun) ?_
  refine ew_int ?_
  refine ⟨_, _, _, rfl, rfl, rfl, ?_⟩
  refine ew_ix ?_
  refine ew_name 1 rfl (by nofun) ?_
  refine ew_int ?_
  refine ⟨_, _, _, rfl, rfl, rfl, ?_⟩
  refine ew_lst ?_
  refine aw_nil ?_
  refine ⟨_, rfl, by decide, ?_⟩
  refine ⟨_, _, _, rfl, rfl, rfl, rfl, rfl, rfl, ?_⟩
  refine ssw_cons ?_
  refine sw_for rfl PassesOwn.never ?_
  refine iw_tup ?_
  refine ew_slT ?_
  refine ew_name 1 rfl (by nofun) ?_
  refine ow_some ?_
  refine ew_int ?_
  refine ⟨_, rfl, ?_⟩
  refine ow_none ?_
  refine ⟨_, rfl, ?_⟩
  refine ⟨_, rfl, ?_⟩
  show ∃ J : Nat → List Dsc → Prop, J 0 _ ∧ (∀ i d Γ2, ([.int b] : List VX.D)[i]? = some d → J i Γ2 → _) ∧ ∀ Γ2, J ([.int b] : List VX.D).length Γ2 → _
  refine ⟨fun i Γ => ∃ x, (∀ ds, x ≠ Dsc.io ds) ∧ Γ = [.dat (machD p n), .dat (.tup [.int a, .int b]), .dat (.int sl), .dat (.int p), .dat (.int a), .own (if i = 0 then [] else ((fresh p a b sl).take 3).map itD), x], ⟨.un, (by intro ds e; cases e), rfl⟩, fun i d Γ2 hd hJ => ?_, fun Γ2 hJ => ?_⟩
  · obtain ⟨x, hx, rfl⟩ := hJ
    have hi : i = 0 := by
      have := (List.getElem?_eq_some_iff.mp hd).1
      have h1 : ([.int b] : List VX.D).length = 1 := rfl
      omega
    subst hi
    cases hd
    refine gw_name 6 sc.nd rfl (canSet_of rfl hx) ?_
    show SsW _ _ [.dat (machD p n), .dat (.tup [.int a, .int b]), .dat (.int sl), .dat (.int p), .dat (.int a), .own [], .dat (.int b)] _
    refine ssw_cons ?_
    refine sw_expr ?_
    refine ew_append ?_
    refine ew_name 5 rfl (by nofun) ?_
    refine ⟨_, rfl, ?_⟩
    refine ew_tup ?_
    refine aw_cons ?_
    refine ew_gc (d := .str "draw") B.DRAW rfl ?_
    refine aw_cons ?_
    refine ew_name 2 rfl (by nofun) ?_
    refine aw_nil ?_
    refine ⟨_, rfl, by show 2 ≤ 1000000; decide, ?_⟩
    refine ⟨_, _, rfl, rfl, by decide, ?_⟩
    refine ssw_cons ?_
    refine sw_expr ?_
    refine ew_append ?_
    refine ew_name 5 rfl (by nofun) ?_
    refine ⟨_, rfl, ?_⟩
    refine ew_tup ?_
    refine aw_cons ?_
    refine ew_gc (d := .str "set") B.SET rfl ?_
    refine aw_cons ?_
    refine ew_name 4 rfl (by nofun) ?_
    refine aw_cons ?_
    refine ew_tuple B.tuple ?_
    refine ew_sortedP B.sorted ?_
    refine ew_lst ?_
    refine aw_cons ?_
    refine ew_tup ?_
    refine aw_cons ?_
    refine ew_name 4 rfl (by nofun) ?_
    refine aw_cons ?_
    refine ew_int ?_
    refine aw_nil ?_
    refine ⟨_, rfl, by show 2 ≤ 1000000; decide, ?_⟩
    refine aw_cons ?_
    refine ew_tup ?_
    refine aw_cons ?_
    refine ew_name 2 rfl (by nofun) ?_
    refine aw_cons ?_
    refine ew_int ?_
    refine aw_nil ?_
    refine ⟨_, rfl, by show 2 ≤ 1000000; decide, ?_⟩
    refine aw_nil ?_
    refine ⟨_, rfl, by show 2 ≤ 1000000; decide, ?_⟩
    refine ⟨[(a, 1), (sl, 1)], srt2 (a, 1) (sl, 1), rfl, srt2_perm _ _, srt2_lt ha, ?_⟩
    refine ⟨_, rfl, ?_⟩
    refine aw_nil ?_
    refine ⟨_, rfl, by show 3 ≤ 1000000; decide, ?_⟩
    refine ⟨_, _, rfl, rfl, by show 1 < 1000000; decide, ?_⟩
    refine ssw_one ?_
    refine sw_expr ?_
    refine ew_append ?_
    refine ew_name 5 rfl (by nofun) ?_
    refine ⟨_, rfl, ?_⟩
    refine ew_tup ?_
    refine aw_cons ?_
    refine ew_gc (d := .str "set") B.SET rfl ?_
    refine aw_cons ?_
    refine ew_name 6 rfl (by nofun) ?_
    refine aw_cons ?_
    refine ew_tuple B.tuple ?_
    refine ew_sortedP B.sorted ?_
    refine ew_lst ?_
    refine aw_cons ?_
    refine ew_tup ?_
    refine aw_cons ?_
    refine ew_name 6 rfl (by nofun) ?_
    refine aw_cons ?_
    refine ew_int ?_
    refine aw_nil ?_
    refine ⟨_, rfl, by show 2 ≤ 1000000; decide, ?_⟩
    refine aw_cons ?_
    refine ew_tup ?_
    refine aw_cons ?_
    refine ew_name 2 rfl (by nofun) ?_
    refine aw_cons ?_
    refine ew_sub ?_
    refine ew_name 3 rfl (by nofun) ?_
    refine ew_int ?_
    refine ⟨_, _, rfl, rfl, ?_⟩
    refine aw_nil ?_
    refine ⟨_, rfl, by show 2 ≤ 1000000; decide, ?_⟩
    refine aw_nil ?_
    refine ⟨_, rfl, by show 2 ≤ 1000000; decide, ?_⟩
    refine ⟨[(b, 1), (sl, p - 1)], srt2 (b, 1) (sl, p - 1), rfl, srt2_perm _ _, srt2_lt hb', ?_⟩
    refine ⟨_, rfl, ?_⟩
    refine aw_nil ?_
    refine ⟨_, rfl, by show 3 ≤ 1000000; decide, ?_⟩
    refine ⟨_, _, rfl, rfl, by show 2 < 1000000; decide, ?_⟩
    exact ⟨.dat _, (by intro ds e; cases e), rfl⟩
  · obtain ⟨x, hx, rfl⟩ := hJ
    refine ssw_freeze 5 rfl ?_
    refine ssw_one ?_
    refine sw_ret ?_
    refine ew_tup ?_
    refine aw_star ?_
    refine ew_name 5 rfl (by nofun) ?_
    refine ⟨_, rfl, nofun, ?_⟩
    refine aw_cons ?_
    refine ew_tup ?_
    refine aw_cons ?_
    refine ew_gc (d := .str "set") B.SET rfl ?_
    refine aw_cons ?_
    refine ew_name 2 rfl (by nofun) ?_
    refine aw_cons ?_
    refine ew_tup ?_
    refine aw_nil ?_
    refine ⟨_, rfl, by decide, ?_⟩
    refine aw_nil ?_
    refine ⟨_, rfl, by show 3 ≤ 1000000; decide, ?_⟩
    refine aw_nil ?_
    refine ⟨(fresh p a b sl).map itD, rfl, by show 4 ≤ 1000000; decide, ?_⟩
    exact ⟨_, rfl, h⟩
theorem sc_renewal : FnScope ["machine", "registers", "slot", "own", "parts"] ["machine", "registers", "slot"] (defScope (topS 31)) := ⟨rfl, rfl, rfl, by decide +kernel, rfl, by decide +kernel, by decide +kernel⟩
theorem ok_renewal {f : Addr} {fd : FuncData} (F : Fun K "renewal" "renewal" (topS 31) f fd) (B : Bs mg) (C_tupled : C8.Cal P w K mg base 9 "tupled" (spW K (s_tupled 8)) []) (C_sure_parts : C8.Cal P w K mg base 2 "sure_parts" (spW K s_sure_parts) []) (C_renewal_way : C8.Cal P w K mg base 1 "renewal_way" (spW K s_renewal_way) []) : FnOk P w K mg base CX0 10 f fd ["machine", "registers", "slot"] (spW K s_renewal) := by
  have sc := sc_renewal
  refine fn_w F sc (fun as P h => ?_) fun cdv A outer s H E hr as R h => ?_
  · obtain ⟨p, n, a, b, sl, rfl, h⟩ := h
    rfl
  obtain ⟨p, n, a, b, sl, rfl, ⟨hn, hrs, ha, hb'⟩, h⟩ := h
  show SsW _ _ [.dat (machD p n), .dat (intsD [a, b]), .dat (.int sl), .un, .un] _
  refine ssw_cons ?_
  refine sw_par 3 4 rfl sc.nd ?_
  refine ew_call C_tupled hr (by decide) ?_
  refine aw_cons ?_
  refine ew_name 0 rfl (by nofun) ?_
  refine aw_nil ?_
  refine ⟨_, rfl, List.nodup_nil, ⟨_, rfl, tp_mach p hn, trivial, ?_⟩⟩
  refine ew_call C_tupled hr (by decide) ?_
  refine aw_cons ?_
  refine ew_name 1 rfl (by nofun) ?_
  refine aw_nil ?_
  refine ⟨_, rfl, List.nodup_nil, ⟨_, rfl, tp_ints (by show 2 < 1000000; decide), trivial, ?_⟩⟩
  refine ⟨_, _, rfl, rfl, rfl, rfl, ?_⟩
  refine ssw_cons ?_
  refine sw_expr ?_
  refine ew_call C_sure_parts hr (by decide) ?_
  refine aw_cons ?_
  refine ew_name 3 rfl (by nofun) ?_
  refine aw_cons ?_
  refine ew_name 4 rfl (by nofun) ?_
  refine aw_cons ?_
  refine ew_name 2 rfl (by nofun) ?_
  refine aw_nil ?_
  refine ⟨_, rfl, List.nodup_nil, ⟨p, n, [a, b], sl, rfl, ⟨hrs, by simp [ha.symm, hb'.symm], Nat.le_refl 2⟩, trivial, ?_⟩⟩
  refine ssw_one ?_
  refine sw_ret ?_
  refine ew_call C_renewal_way hr (by decide) ?_
  refine aw_cons ?_
  refine ew_name 3 rfl (by nofun) ?_
  refine aw_cons ?_
  refine ew_name 4 rfl (by nofun) ?_
  refine aw_cons ?_
  refine ew_name 2 rfl (by nofun) ?_
  refine aw_nil ?_
  refine ⟨_, rfl, List.nodup_nil, ⟨p, n, a, b, sl, rfl, ⟨ha, hb'⟩, trivial, ?_⟩⟩
  exact ⟨_, rfl, h⟩
theorem any_false {α : Type} (xs : List α) : (xs.map fun _ => false).any id = false := by simp
theorem sc_sure_line_way : FnScope ["machine", "registers", "way", "item"] ["machine", "registers", "way"] (defScope (topS 32)) := ⟨rfl, rfl, rfl, by decide +kernel, rfl, by decide +kernel, by decide +kernel⟩
theorem ok_sure_line_way {f : Addr} {fd : FuncData} (F : Fun K "sure_line_way" "sure_line_way" (topS 32) f fd) (B : Bs mg) (C_sure_registers : C8.Cal P w K mg base 1 "sure_registers" (spW K s_sure_registers) []) (C_is_way : C8.Cal P w K mg base 6 "is_way" (spW K s_is_way) []) : FnOk P w K mg base CX0 7 f fd ["machine", "registers", "way"] (spW K s_sure_line_way) := by
  have sc := sc_sure_line_way
  refine fn_w F sc (fun as P h => ?_) fun cdv A outer s H E hr as R h => ?_
  · obtain ⟨p, n, rs, ws, rfl, h⟩ := h
    rfl
  obtain ⟨p, n, rs, ws, rfl, ⟨hrs, hl, hw, ok⟩, h⟩ := h
  show SsW _ _ [.dat (machD p n), .dat (.tup (rs.map .int)), .dat (.tup (ws.map itD)), .un] _
  refine ssw_cons ?_
  refine sw_expr ?_
  refine ew_call C_sure_registers hr (by decide) ?_
  refine aw_cons ?_
  refine ew_name 0 rfl (by nofun) ?_
  refine aw_cons ?_
  refine ew_name 1 rfl (by nofun) ?_
  refine aw_nil ?_
  refine ⟨_, rfl, List.nodup_nil, ⟨p, n, rs, rfl, hrs, trivial, ?_⟩⟩
  refine ssw_one ?_
  refine sw_if ?_
  refine tw_w ?_
  refine ww_or ?_
  refine tw_lt ?_
  refine ew_len B.len ?_
  refine ew_name 1 rfl (by nofun) ?_
  refine ⟨_, rfl, ?_⟩
  refine ew_gc (d := .int 2) B.FEWEST rfl ?_
  refine ⟨_, _, rfl, rfl, ?_⟩
  rw [List.length_map, decide_eq_false (by omega)]
  refine ⟨fun hb => (nomatch hb), fun hb => ?_⟩
  refine ww_or ?_
  refine tw_not ?_
  refine tw_val ?_
  refine ew_call C_is_way hr (by decide) ?_
  refine aw_cons ?_
  refine ew_name 0 rfl (by nofun) ?_
  refine aw_cons ?_
  refine ew_int ?_
  refine aw_cons ?_
  refine ew_name 2 rfl (by nofun) ?_
  refine aw_nil ?_
  refine ⟨_, rfl, List.nodup_nil, ⟨p, n, 0, ws, rfl, ⟨hw, ok⟩, trivial, ?_⟩⟩
  refine ⟨_, rfl, ?_⟩
  refine ⟨fun hb => (nomatch hb), fun hb => ?_⟩
  refine ww_one ?_
  refine tw_val ?_
  refine ew_any rfl B.any ?_
  refine ew_lcM (.one 3) [("item", 3)] itD (fun x => .bl false) rfl sc.nd (blkOk_by (N := ["machine", "registers", "way", "item"]) (sc := defScope (topS 32)) (by decide +kernel)) (by decide) (fun _ _ _ _ _ => (pg_name (i := 3) sc.nd rfl (.inl rfl))) ?_
  refine iw_tup ?_
  refine ew_name 2 rfl (by nofun) ?_
  refine ⟨_, rfl, ?_⟩
  refine ⟨ws, ⟨rfl, by omega, rfl, fun x hx => ⟨_, rfl, ?_⟩⟩, ?_⟩
  · intro s H C cl fp
    refine ew_notin ?_
    refine ew_ix ?_
    refine ew_name 3 rfl (by nofun) ?_
    refine ew_int ?_
    refine ⟨(match x with | .dr s => [.str "draw", .int s] | .st s l => [.str "set", .int s, sumD l]), 0, .str (match x with | .dr s => "draw" | .st s l => "set"), (by cases x <;> rfl), rfl, (by cases x <;> rfl), ?_⟩
    refine ew_tup ?_
    refine aw_cons ?_
    refine ew_gc (d := .str "set") B.SET rfl ?_
    refine aw_cons ?_
    refine ew_gc (d := .str "draw") B.DRAW rfl ?_
    refine aw_nil ?_
    refine ⟨_, rfl, by show 2 ≤ 1000000; decide, ?_⟩
    refine ⟨_, _, _, _, rfl, rfl, rfl, rfl, ?_⟩
    refine ⟨?_, rfl⟩
    cases x with
    | dr s => rw [show inV (V.str "draw") [.str "set", .str "draw"] = true by decide +kernel]; rfl
    | st s l => rw [show inV (V.str "set") [.str "set", .str "draw"] = true by decide +kernel]; rfl
  refine ⟨ws.map fun _ => false, by rw [List.map_map]; rfl, ?_⟩
  rw [any_false]
  refine ⟨_, rfl, ?_⟩
  refine ⟨fun hb => (nomatch hb), fun hb => ?_⟩
  refine ssw_nil ?_
  exact h
end
end V85

namespace V85
open PySem PySem.Spec PyProof.Rows L2 VX
def isDr : It → Bool
  | .dr _ => true
  | _ => false
def itHd : It → Str
  | .dr _ => "draw"
  | .st _ _ => "set"
def itDs : It → List D
  | .dr s => [.str "draw", .int s]
  | .st s l => [.str "set", .int s, sumD l]
theorem itD_eq (it : It) : itD it = .tup (itDs it) := by cases it <;> rfl
theorem itDs0 (it : It) : atI (itDs it) 0 = some (.str (itHd it)) := by cases it <;> rfl
theorem itHd_draw (it : It) : decide (V.str (itHd it) = V.str "draw") = isDr it := by
  cases it with
  | dr s => show decide (V.str "draw" = V.str "draw") = true; decide +kernel
  | st s l => show decide (V.str "set" = V.str "draw") = false; decide +kernel
theorem itSeq (it : It) (Γ : List Dsc) : seqOf Γ (.dat (itD it)) = some (itDs it) := by rw [itD_eq]; rfl
def drawsN (w : List It) : Nat := (w.filter isDr).length
def unitL (L k : Nat) : List Int := (List.range L).map fun place => if place = k then 1 else 0
def addRow (p : Int) (own row : List Int) (f : Int) : List Int := (own.zip row).map fun z => (z.1 + f * z.2) % p
def combL (p : Int) (rows : List (List Int)) : List Int → List (Int × Int) → List Int
  | own, [] => own
  | own, q :: l => combL p rows (addRow p own (rows[q.1.toNat]?.getD []) q.2) l
def heldStep (p : Int) (L : Nat) (z : List (List Int) × Nat) (it : It) : List (List Int) × Nat := match it with
  | .dr s => (z.1.set s.toNat (unitL L z.2), z.2 + 1)
  | .st s l => (z.1.set s.toNat (combL p z.1 (List.replicate L 0) l), z.2)
def heldI (p : Int) (n L : Nat) (w : List It) : List (List Int) × Nat := w.foldl (heldStep p L) ((List.range n).map (unitL L), n)
def heldL (p : Int) (n : Nat) (w : List It) : List (List Int) := (heldI p n (n + drawsN w) w).1
def okW (p : Int) (n : Nat) (w : List It) : Prop := (0 < p ∧ p ≤ 1000) ∧ (2 ≤ n ∧ n ≤ 100) ∧ w.length ≤ 100 ∧ ∀ it ∈ w, okIt p n it
def s_held_behind : Spc := fun as P => ∃ p n w, as = [.dat (machD p n), .dat (wayD w)] ∧ okW p n w ∧ P (.new ((heldL p n w).map intsD)) []
theorem ixN_of {n : Nat} {s : Int} (h0 : 0 ≤ s) (h1 : s < n) : ixN n s = some s.toNat := by
  unfold ixN
  split <;> first | rfl | omega | (split <;> first | rfl | omega)
theorem atI_rows {rows : List (List Int)} {s : Int} {row : List Int} (h0 : 0 ≤ s) (h : rows[s.toNat]? = some row) : atI (rows.map intsD) s = some (intsD row) := by
  have := atI_nat (xs := rows.map intsD) (j := s.toNat) (v := intsD row) (by rw [List.getElem?_map, h]; rfl)
  rw [Int.toNat_of_nonneg h0] at this
  exact this
theorem unit_map (L k : Nat) : intsD (unitL L k) = .tup ((List.range L).map fun place : Nat => .int (if decide (V.int ((place : Nat) : Int) = V.int ((k : Nat) : Int)) = true then 1 else 0)) := by
  unfold intsD unitL
  rw [List.map_map]
  congr 1
  refine List.map_congr_left fun place _ => ?_
  show D.int (if place = k then 1 else 0) = _
  congr 1
  by_cases h : place = k
  · subst h; rw [if_pos rfl, if_pos (decide_eq_true rfl)]
  · rw [if_neg h, if_neg]
    intro z
    have := V.int.inj (of_decide_eq_true z)
    omega
theorem heldI_len {p : Int} {n L : Nat} : ∀ (w : List It) (z : List (List Int) × Nat), (w.foldl (heldStep p L) z).1.length = z.1.length
  | [], _ => rfl
  | it :: w, z => by
    rw [List.foldl_cons, heldI_len (n := n) w]
    unfold heldStep
    cases it <;> simp
theorem fold_take {α β : Type} {f : β → α → β} {xs : List α} {i : Nat} {x : α} {b : β} (h : xs[i]? = some x) : (xs.take (i + 1)).foldl f b = f ((xs.take i).foldl f b) x := by
  rw [List.take_add_one, h, List.foldl_append]; rfl
theorem rep_zero (L : Nat) : (List.replicate ((L : Nat) : Int).toNat ([.int 0] : List VX.D)).flatten = (List.replicate L (0 : Int)).map D.int := by
  rw [Int.toNat_natCast, List.map_replicate]
  induction L with
  | zero => rfl
  | succ L ih => rw [List.replicate_succ, List.replicate_succ, List.flatten_cons, ih]; rfl
theorem combL_cons (p : Int) (rows : List (List Int)) (own : List Int) (q : Int × Int) (l : List (Int × Int)) : combL p rows own (q :: l) = combL p rows (addRow p own (rows[q.1.toNat]?.getD []) q.2) l := rfl
theorem combL_nil (p : Int) (rows : List (List Int)) (own : List Int) : combL p rows own [] = own := rfl
theorem addRow_len {p : Int} {own row : List Int} {f : Int} : (addRow p own row f).length ≤ own.length := by
  unfold addRow
  rw [List.length_map, List.length_zip]
  exact Nat.min_le_left _ _
section
variable {P : Program} {w : World} {K : PySem.W.Frag} {mg : Str → Option Value} {base : Heap}
abbrev N33 : List Str := ["machine", "way", "prime", "many", "item", "length", "slot", "held", "drawn", "own", "factor", "place", "near", "far"]
theorem sc_held_behind : FnScope N33 ["machine", "way"] (defScope (topS 33)) := ⟨rfl, rfl, rfl, by decide +kernel, rfl, by decide +kernel, by decide +kernel⟩
theorem ok_held_behind {f : Addr} {fd : FuncData} (F : Fun K "held_behind" "held_behind" (topS 33) f fd) (B : Bs mg) : FnOk P w K mg base CX0 1 f fd ["machine", "way"] (spW K s_held_behind) := by
  have sc := sc_held_behind
  refine fn_w F sc (fun as P h => ?_) fun cdv A outer s H E hr as R h => ?_
  · obtain ⟨p, n, ws, rfl, h⟩ := h
    rfl
  obtain ⟨p, n, ws, rfl, ⟨⟨hp0, hp1⟩, ⟨hn0, hn1⟩, hw, ok⟩, h⟩ := h
  have hdn : drawsN ws ≤ 100 := Nat.le_trans (List.length_filter_le _ _) hw
  show SsW _ _ [.dat (machD p n), .dat (.tup (ws.map itD)), .un, .un, .un, .un, .un, .un, .un, .un, .un, .un, .un, .un] _
  refine ssw_cons ?_
  refine sw_dis2 2 3 rfl sc.nd ?_
  refine ew_ix ?_
  refine ew_name 0 rfl (by nofun) ?_
  refine ew_int ?_
  refine ⟨_, _, _, rfl, rfl, rfl, ?_⟩
  refine ew_len B.len ?_
  refine ew_ix ?_
  refine ew_name 0 rfl (by nofun) ?_
  refine ew_int ?_
  refine ⟨_, _, _, rfl, rfl, rfl, ?_⟩
  refine ⟨_, rfl, ?_⟩
  refine ⟨_, _, rfl, rfl, rfl, rfl, ?_⟩
  rw [List.length_replicate]
  show SsW _ _ [.dat (machD p n), .dat (.tup (ws.map itD)), .dat (.int p), .dat (.int (n : Nat)), .un, .un, .un, .un, .un, .un, .un, .un, .un, .un] _
  refine ssw_cons ?_
  refine sw_set 5 sc.nd ?_
  refine ew_add ?_
  refine ew_name 3 rfl (by nofun) ?_
  refine ew_len B.len ?_
  refine ew_lcF (.one 4) [("item", 4)] itD itD isDr rfl sc.nd (blkOk_by (N := N33) (sc := defScope (topS 33)) (by decide +kernel)) (by decide) (fun _ _ _ _ _ => (pg_name (i := 4) sc.nd rfl (.inl rfl))) ?_
  refine iw_tup ?_
  refine ew_name 1 rfl (by nofun) ?_
  refine ⟨_, rfl, ?_⟩
  refine ⟨ws, ⟨rfl, by omega, rfl, fun x hx => ⟨_, rfl, ?_⟩⟩, ?_⟩
  · intro s H C cl fp
    refine tw_eq hr ?_
    refine ew_ix ?_
    refine ew_name 4 rfl (by nofun) ?_
    refine ew_int ?_
    refine ⟨_, _, _, itSeq x _, rfl, itDs0 x, ?_⟩
    refine ew_gc (d := .str "draw") B.DRAW rfl ?_
    refine .inl ⟨_, _, _, _, rfl, rfl, rfl, rfl, rfl, ?_⟩
    refine ⟨rfl, itHd_draw x, fun hb => ?_⟩
    intro s H C cl fp
    refine ew_name 4 rfl (by nofun) ?_
    exact ⟨rfl, rfl⟩
  refine ⟨_, rfl, ?_⟩
  refine ⟨_, _, rfl, rfl, ?_⟩
  refine ⟨_, rfl, rfl, ?_⟩
  rw [List.length_map]
  rw [show ((n : Nat) : Int) + (((ws.filter isDr).length : Nat) : Int) = (((n + drawsN ws : Nat)) : Int) by unfold drawsN; omega]
  generalize hL : n + drawsN ws = L
  have hLl : L ≤ 200 := by omega
  show SsW _ _ [.dat (machD p n), .dat (.tup (ws.map itD)), .dat (.int p), .dat (.int (n : Nat)), .un, .dat (.int (L : Nat)), .un, .un, .un, .un, .un, .un, .un, .un] _
  refine ssw_cons ?_
  refine sw_lcM 7 (.one 6) [("slot", 6)] (fun k : Nat => D.int ((k : Nat) : Int)) (fun k => intsD (unitL L k)) rfl sc.nd (blkOk_by (N := N33) (sc := defScope (topS 33)) (by decide +kernel)) (by decide) (fun _ _ _ _ _ => (pg_name (i := 6) sc.nd rfl (.inr rfl))) (sw_true rfl rfl rfl (by decide +kernel)) ?_
  refine iw_range1 B.range ?_
  refine ew_name 3 rfl (by nofun) ?_
  refine ⟨_, rfl, by omega, by omega, ?_⟩
  refine ⟨List.range n, ⟨by rw [Int.toNat_natCast]; exact rangeD_map n, by rw [List.length_range]; omega, rfl, fun x hx => ⟨_, rfl, ?_⟩⟩, ?_⟩
  · intro s H C cl fp
    refine ew_tuple B.tuple ?_
    refine ew_lcM (.one 11) [("place", 11)] (fun k : Nat => D.int ((k : Nat) : Int)) (fun k => .int (if decide (V.int ((k : Nat) : Int) = V.int ((x : Nat) : Int)) = true then 1 else 0)) rfl sc.nd (blkOk_by (by kernel_rfl)) (by decide) (fun _ _ _ _ _ => (pg_name (i := 11) sc.nd rfl (.inl rfl))) ?_
    refine iw_range1 B.range ?_
    refine ew_name 5 rfl (by nofun) ?_
    refine ⟨_, rfl, by omega, by omega, ?_⟩
    refine ⟨List.range L, ⟨by rw [Int.toNat_natCast]; exact rangeD_map L, by rw [List.length_range]; omega, rfl, fun y hy => ⟨_, rfl, ?_⟩⟩, ?_⟩
    · intro s H C cl fp
      refine ew_int1 B.int ?_
      refine ew_eq hr ?_
      refine ew_name 11 rfl (by nofun) ?_
      refine ew_name 6 rfl (by nofun) ?_
      refine .inl ⟨_, _, _, _, rfl, rfl, rfl, rfl, rfl, ?_⟩
      refine .inr ⟨_, rfl, ?_⟩
      exact ⟨rfl, rfl⟩
    refine ⟨_, rfl, ?_⟩
    exact ⟨congrArg some (unit_map L x).symm, rfl⟩
  refine ⟨rfl, ?_⟩
  refine ssw_cons ?_
  refine sw_set 8 sc.nd ?_
  refine ew_name 3 rfl (by nofun) ?_
  refine ⟨_, rfl, rfl, ?_⟩
  refine ssw_cons ?_
  refine sw_for rfl PassesOwn.never ?_
  refine iw_tup ?_
  refine ew_name 1 rfl (by nofun) ?_
  refine ⟨_, rfl, ?_⟩
  refine ⟨fun i Γ => ∃ x4 x6 x9 x10, (∀ ds, x4 ≠ Dsc.io ds) ∧ (∀ ds, x6 ≠ Dsc.io ds) ∧ (∀ ds, x9 ≠ Dsc.io ds) ∧ (∀ ds, x10 ≠ Dsc.io ds) ∧ Γ = [.dat (machD p n), .dat (.tup (ws.map itD)), .dat (.int p), .dat (.int (n : Nat)), x4, .dat (.int (L : Nat)), x6, .own ((heldI p n L (ws.take i)).1.map intsD), .dat (.int ((heldI p n L (ws.take i)).2 : Nat)), x9, x10, .un, .un, .un],
    ⟨.un, .un, .un, .un, (by intro ds e; cases e), (by intro ds e; cases e), (by intro ds e; cases e), (by intro ds e; cases e), ?_⟩, fun i d Γ2 hd hJ => ?_, fun Γ2 hJ => ?_⟩
  · show _ = [.dat (machD p n), .dat (.tup (ws.map itD)), .dat (.int p), .dat (.int (n : Nat)), Dsc.un, .dat (.int (L : Nat)), Dsc.un, .own (((List.range n).map (unitL L)).map intsD), .dat (.int (n : Nat)), Dsc.un, Dsc.un, .un, .un, .un]
    rw [List.map_map]
    rfl
  · obtain ⟨x4, x6, x9, x10, h4, h6, h9, h10, rfl⟩ := hJ
    rw [List.getElem?_map] at hd
    obtain ⟨it, ho, rfl⟩ := Option.map_eq_some_iff.mp hd
    have okit := ok it (List.mem_of_getElem? ho)
    have hstep : heldI p n L (ws.take (i + 1)) = heldStep p L (heldI p n L (ws.take i)) it := fold_take ho
    have hlen : (heldI p n L (ws.take i)).1.length = n := by
      unfold heldI
      rw [heldI_len (n := n), List.length_map, List.length_range]
    obtain ⟨rows, dn, hz⟩ : ∃ rows dn, heldI p n L (ws.take i) = (rows, dn) := ⟨_, _, rfl⟩
    rw [hz] at hlen hstep
    have hlen : rows.length = n := hlen
    rw [hz]
    refine gw_name 4 sc.nd rfl (canSet_of rfl h4) ?_
    show SsW _ _ [.dat (machD p n), .dat (.tup (ws.map itD)), .dat (.int p), .dat (.int (n : Nat)), .dat (itD it), .dat (.int (L : Nat)), x6, .own (rows.map intsD), .dat (.int (dn : Nat)), x9, x10, .un, .un, .un] _
    refine ssw_one ?_
    refine sw_if ?_
    refine tw_eq hr ?_
    refine ew_ix ?_
    refine ew_name 4 rfl (by nofun) ?_
    refine ew_int ?_
    refine ⟨_, _, _, itSeq it _, rfl, itDs0 it, ?_⟩
    refine ew_gc (d := .str "draw") B.DRAW rfl ?_
    refine .inl ⟨_, _, _, _, rfl, rfl, rfl, rfl, rfl, ?_⟩
    rw [itHd_draw]
    cases it with
    | dr s =>
      refine ⟨fun hb => ?_, fun hb => (nomatch hb)⟩
      refine ssw_cons ?_
      refine sw_asg ?_
      refine ew_tuple B.tuple ?_
      refine ew_lcM (.one 11) [("place", 11)] (fun k : Nat => D.int ((k : Nat) : Int)) (fun k => .int (if decide (V.int ((k : Nat) : Int) = V.int ((dn : Nat) : Int)) = true then 1 else 0)) rfl sc.nd (blkOk_by (N := N33) (sc := defScope (topS 33)) (by decide +kernel)) (by decide) (fun _ _ _ _ _ => (pg_name (i := 11) sc.nd rfl (.inl rfl))) ?_
      refine iw_range1 B.range ?_
      refine ew_name 5 rfl (by nofun) ?_
      refine ⟨_, rfl, by omega, by omega, ?_⟩
      refine ⟨List.range L, ⟨by rw [Int.toNat_natCast]; exact rangeD_map L, by rw [List.length_range]; omega, rfl, fun y hy => ⟨_, rfl, ?_⟩⟩, ?_⟩
      · intro s H C cl fp
        refine ew_int1 B.int ?_
        refine ew_eq hr ?_
        refine ew_name 11 rfl (by nofun) ?_
        refine ew_name 8 rfl (by nofun) ?_
        refine .inl ⟨_, _, _, _, rfl, rfl, rfl, rfl, rfl, ?_⟩
        refine .inr ⟨_, rfl, ?_⟩
        exact ⟨rfl, rfl⟩
      refine ⟨_, rfl, ?_⟩
      refine gw_sub rfl ?_
      refine ew_name 7 rfl (by nofun) ?_
      refine ⟨_, rfl, ?_⟩
      refine ew_ix ?_
      refine ew_name 4 rfl (by nofun) ?_
      refine ew_int ?_
      refine ⟨_, _, _, rfl, rfl, rfl, ?_⟩
      refine ⟨_, _, _, rfl, rfl, by rw [List.length_map, hlen]; exact ixN_of okit.1 okit.2, ?_⟩
      refine ssw_one ?_
      refine sw_aug 8 sc.nd rfl ?_
      refine ew_int ?_
      refine ⟨_, rfl, rfl, ?_⟩
      refine ⟨.dat (itD (.dr s)), x6, x9, x10, (by intro ds e; cases e), h6, h9, h10, ?_⟩
      rw [← unit_map, hstep]
      show _ = [.dat (machD p n), .dat (.tup (ws.map itD)), .dat (.int p), .dat (.int (n : Nat)), .dat (itD (.dr s)), .dat (.int (L : Nat)), x6, .own ((rows.set s.toNat (unitL L dn)).map intsD), .dat (.int ((dn + 1 : Nat) : Int)), x9, x10, .un, .un, .un]
      rw [List.map_set]
      rfl
    | st s l =>
      obtain ⟨ok1, ok2, ok3, ok4⟩ := okit
      refine ⟨fun hb => (nomatch hb), fun hb => ?_⟩
      refine ssw_cons ?_
      refine sw_set 9 sc.nd ?_
      refine ew_repL ?_
      refine ew_lst ?_
      refine aw_cons ?_
      refine ew_int ?_
      refine aw_nil ?_
      refine ⟨_, rfl, by decide, ?_⟩
      refine ew_name 5 rfl (by nofun) ?_
      refine ⟨_, _, rfl, rfl, by omega, by omega, by show 1 ≤ 1000; decide, ?_⟩
      refine ⟨_, rfl, canSet_of rfl h9, ?_⟩
      rw [rep_zero]
      refine ssw_cons ?_
      refine sw_for rfl PassesOwn.never ?_
      refine iw_tup ?_
      refine ew_ix ?_
      refine ew_name 4 rfl (by nofun) ?_
      refine ew_int ?_
      refine ⟨_, _, _, rfl, rfl, rfl, ?_⟩
      refine ⟨_, rfl, ?_⟩
      refine ⟨fun j Γ => ∃ y6 y10 ow, (∀ ds, y6 ≠ Dsc.io ds) ∧ (∀ ds, y10 ≠ Dsc.io ds) ∧ Γ = [.dat (machD p n), .dat (.tup (ws.map itD)), .dat (.int p), .dat (.int (n : Nat)), .dat (itD (.st s l)), .dat (.int (L : Nat)), y6, .own (rows.map intsD), .dat (.int (dn : Nat)), .own (ow.map .int), y10, .un, .un, .un] ∧
        ow.length ≤ L ∧ combL p rows ow (l.drop j) = combL p rows (List.replicate L 0) l, ⟨x6, x10, _, h6, h10, rfl, by rw [List.length_replicate]; exact Nat.le_refl _, rfl⟩, fun j d Γ3 hd2 hJ2 => ?_, fun Γ3 hJ2 => ?_⟩
      · obtain ⟨y6, y10, ow, hy6, hy10, rfl, how, hcomb⟩ := hJ2
        rw [List.getElem?_map] at hd2
        obtain ⟨q, hq, rfl⟩ := Option.map_eq_some_iff.mp hd2
        obtain ⟨⟨q1, q2⟩, q3, q4⟩ := ok4 q (List.mem_of_getElem? hq)
        have hrow : rows[q.1.toNat]? = some (rows[q.1.toNat]'(by omega)) := List.getElem?_eq_getElem (by omega)
        have hs : sml q.2 = true := decide_eq_true (by omega)
        rw [drop_get hq] at hcomb
        rw [combL_cons, hrow] at hcomb
        generalize rows[q.1.toNat]'(by omega) = row at hrow hcomb
        refine gw_tup rfl rfl ?_
        refine gsw_cons ?_
        refine gw_name 6 sc.nd rfl (canSet_of rfl hy6) ?_
        refine gsw_cons ?_
        refine gw_name 10 sc.nd rfl (canSet_of rfl hy10) ?_
        refine gsw_nil ?_
        refine ssw_freeze 9 rfl ?_
        show SsW _ _ [.dat (machD p n), .dat (.tup (ws.map itD)), .dat (.int p), .dat (.int (n : Nat)), .dat (itD (.st s l)), .dat (.int (L : Nat)), .dat (.int q.1), .own (rows.map intsD), .dat (.int (dn : Nat)), .dat (.lst (ow.map .int)), .dat (.int q.2), .un, .un, .un] _
        refine ssw_one ?_
        refine sw_lcM 9 (.two 12 13) [("near", 12), ("far", 13)] VX.pairD (fun z => .int ((z.1 + q.2 * z.2) % p)) rfl sc.nd (blkOk_by (N := N33) (sc := defScope (topS 33)) (by decide +kernel)) (by decide) (fun _ _ _ _ _ => pg_tup rfl (pgs_cons (pg_name (i := 12) sc.nd rfl (.inl rfl)) (pgs_cons (pg_name (i := 13) sc.nd rfl (.inl rfl)) pgs_nil))) (sw_true rfl rfl rfl (by decide +kernel)) ?_
        refine iw_zipM B.zip ?_
        refine ew_name 9 rfl (by nofun) ?_
        refine ew_ix ?_
        refine ew_name 7 rfl (by nofun) ?_
        refine ew_name 6 rfl (by nofun) ?_
        refine ⟨_, _, _, rfl, rfl, atI_rows q1 hrow, ?_⟩
        refine ⟨_, _, rfl, rfl, ?_⟩
        refine ⟨ow.zip row, ⟨zipD_ints _ _, by rw [List.length_zip]; omega, rfl, fun x hx => ⟨_, rfl, ?_⟩⟩, ?_⟩
        · intro s H C cl fp
          refine ew_mod ?_
          refine ew_add ?_
          refine ew_name 12 rfl (by nofun) ?_
          refine ew_mul ?_
          refine ew_name 10 rfl (by nofun) ?_
          refine ew_name 13 rfl (by nofun) ?_
          refine ⟨_, _, rfl, rfl, sml_mul2 hs, ?_⟩
          refine ⟨_, _, rfl, rfl, ?_⟩
          refine ew_name 2 rfl (by nofun) ?_
          refine ⟨_, _, rfl, rfl, hp0, ?_⟩
          exact ⟨rfl, rfl⟩
        refine ⟨rfl, ?_⟩
        refine ⟨.dat (.int q.1), .dat (.int q.2), addRow p ow row q.2, (by intro ds e; cases e), (by intro ds e; cases e), ?_, Nat.le_trans addRow_len how, hcomb⟩
        rw [show (addRow p ow row q.2).map D.int = (ow.zip row).map fun z => D.int ((z.1 + q.2 * z.2) % p) by unfold addRow; rw [List.map_map]; rfl]
        rfl
      · obtain ⟨y6, y10, ow, hy6, hy10, rfl, how, hcomb⟩ := hJ2
        rw [List.length_map, List.drop_length, combL_nil] at hcomb
        refine ssw_one ?_
        refine sw_asg ?_
        refine ew_tuple B.tuple ?_
        refine ew_name 9 rfl (by nofun) ?_
        refine ⟨_, rfl, ?_⟩
        refine gw_sub rfl ?_
        refine ew_name 7 rfl (by nofun) ?_
        refine ⟨_, rfl, ?_⟩
        refine ew_ix ?_
        refine ew_name 4 rfl (by nofun) ?_
        refine ew_int ?_
        refine ⟨_, _, _, rfl, rfl, rfl, ?_⟩
        refine ⟨_, _, _, rfl, rfl, by rw [List.length_map, hlen]; exact ixN_of ok1.1 ok1.2, ?_⟩
        refine ⟨.dat (itD (.st s l)), y6, .own (ow.map .int), y10, (by intro ds e; cases e), hy6, (by intro ds e; cases e), hy10, ?_⟩
        rw [hstep]
        show _ = [.dat (machD p n), .dat (.tup (ws.map itD)), .dat (.int p), .dat (.int (n : Nat)), .dat (itD (.st s l)), .dat (.int (L : Nat)), y6, .own ((rows.set s.toNat (combL p rows (List.replicate L 0) l)).map intsD), .dat (.int (dn : Nat)), .own (ow.map .int), y10, .un, .un, .un]
        rw [List.map_set, ← hcomb]
        rfl
  · obtain ⟨x4, x6, x9, x10, h4, h6, h9, h10, rfl⟩ := hJ
    rw [List.length_map, List.take_length]
    refine ssw_one ?_
    refine sw_ret ?_
    refine ew_name 7 rfl (by nofun) ?_
    unfold heldL at h
    rw [hL] at h
    exact ⟨_, rfl, h⟩
end
end V85

namespace V85
open PySem PySem.Spec PyProof.Rows L2 VX
/-- the rows of registers 0 and 1 behind a way -/
def row0 (p : Int) (n : Nat) (w : List It) : List Int := (heldL p n w)[0]?.getD []
def row1 (p : Int) (n : Nat) (w : List It) : List Int := (heldL p n w)[1]?.getD []
def totalL (p : Int) (r0 r1 : List Int) : List Int := (r0.zip r1).map fun z => (z.1 + z.2) % p
def keepsL (p : Int) (n : Nat) (w : List It) : Bool :=
  decide (totalL p (row0 p n w) (row1 p n w) = (List.range (totalL p (row0 p n w) (row1 p n w)).length).map fun k => if k < 2 then 1 else 0)
def freeRows (p : Int) (n : Nat) (w : List It) : List (List Int) := [(row0 p n w).drop n, (row1 p n w).drop n]
def freeO (p : Int) (n : Nat) (w : List It) : Option Nat := (basisL p (freeRows p n w)).map List.length
def s_keeps_sum : Spc := fun as P => ∃ p n w, as = [.dat (machD p n), .dat (intsD [0, 1]), .dat (wayD w)] ∧ okW p n w ∧ P (.dat (.bl (keepsL p n w))) []
def s_how_free : Spc := fun as P => ∃ p n w k, as = [.dat (machD p n), .dat (intsD [0, 1]), .dat (wayD w)] ∧ (okW p n w ∧ freeO p n w = some k) ∧ P (.dat (.int (k : Nat))) []
def s_renews : Spc := fun as P => ∃ p n w k, as = [.dat (machD p n), .dat (intsD [0, 1]), .dat (wayD w)] ∧ (okW p n w ∧ freeO p n w = some k) ∧ P (.dat (.bl (keepsL p n w && decide (k = 1)))) []
theorem heldL_two {p : Int} {n : Nat} {w : List It} (h : 2 ≤ n) : ∃ rest, heldL p n w = row0 p n w :: row1 p n w :: rest := by
  have hl : (heldL p n w).length = n := by
    unfold heldL heldI
    rw [heldI_len (n := n), List.length_map, List.length_range]
  unfold row0 row1
  match e : heldL p n w with
  | [] => rw [e] at hl; simp at hl; omega
  | [_] => rw [e] at hl; simp at hl; omega
  | a :: b :: rest => exact ⟨rest, rfl⟩
theorem enum_filter (a b : List Int) (rest : List (List Int)) : ((a :: b :: rest).zipIdx.filter fun z => decide (((z.2 : Nat) : Int) ∈ ([0, 1] : List Int))).map (fun z => intsD z.1) = [intsD a, intsD b] := by
  rw [List.zipIdx_cons, List.zipIdx_cons, List.filter_cons, List.filter_cons]
  rw [if_pos (by simp), if_pos (by simp)]
  have : (rest.zipIdx (0 + 1 + 1)).filter (fun z => decide (((z.2 : Nat) : Int) ∈ ([0, 1] : List Int))) = [] := by
    rw [List.filter_eq_nil_iff]
    intro z hz
    obtain ⟨x, i⟩ := z
    have := List.mem_zipIdx hz
    simp
    omega
  rw [this]
  rfl
theorem enum_rows (rows : List (List Int)) : enumD (rows.map intsD) = rows.zipIdx.map fun z => .tup [.int ((z.2 : Nat) : Int), intsD z.1] := by
  unfold enumD
  rw [List.zipIdx_map, List.map_map]
  rfl
theorem combL_len {p : Int} {rows : List (List Int)} {L : Nat} (hr : ∀ r ∈ rows, r.length = L) : ∀ (l : List (Int × Int)) (own : List Int), own.length = L → (∀ q ∈ l, q.1.toNat < rows.length) → (combL p rows own l).length = L
  | [], own, h, _ => h
  | q :: l, own, h, hq => by
    rw [combL_cons]
    refine combL_len hr l _ ?_ fun z hz => hq z (List.mem_cons_of_mem _ hz)
    have h1 := hq q List.mem_cons_self
    rw [List.getElem?_eq_getElem h1]
    unfold addRow
    rw [List.length_map, List.length_zip, h]
    show min L (rows[q.1.toNat]).length = L
    rw [hr _ (List.getElem_mem h1), Nat.min_self]
theorem heldI_rows {p : Int} {L : Nat} : ∀ (w : List It) (z : List (List Int) × Nat), (∀ r ∈ z.1, r.length = L) → (∀ it ∈ w, okIt p z.1.length it) → ∀ r ∈ (w.foldl (heldStep p L) z).1, r.length = L
  | [], z, h, _ => h
  | it :: w, z, h, ok => by
    rw [List.foldl_cons]
    have o := ok it List.mem_cons_self
    have hl : (heldStep p L z it).1.length = z.1.length := by unfold heldStep; cases it <;> simp
    refine heldI_rows w _ ?_ fun j hj => by rw [hl]; exact ok j (List.mem_cons_of_mem _ hj)
    intro r hr
    cases it with
    | dr s =>
      rcases List.mem_or_eq_of_mem_set hr with hr | rfl
      · exact h r hr
      · unfold unitL; rw [List.length_map, List.length_range]
    | st s l =>
      rcases List.mem_or_eq_of_mem_set hr with hr | rfl
      · exact h r hr
      · refine combL_len h l _ (by rw [List.length_replicate]) fun q hq => ?_
        have := (o.2.2.2 q hq).1
        omega
theorem heldL_rows {p : Int} {n : Nat} {w : List It} (ok : okW p n w) : ∀ r ∈ heldL p n w, r.length = n + drawsN w := by
  unfold heldL heldI
  refine heldI_rows w _ (fun r hr => ?_) fun it hit => ?_
  · obtain ⟨k, _, rfl⟩ := List.mem_map.mp hr
    unfold unitL; rw [List.length_map, List.length_range]
  · show okIt p ((List.range n).map (unitL (n + drawsN w))).length it
    rw [List.length_map, List.length_range]
    exact ok.2.2.2 it hit
theorem row_len {p : Int} {n : Nat} {w : List It} (ok : okW p n w) : (row0 p n w).length = n + drawsN w ∧ (row1 p n w).length = n + drawsN w := by
  obtain ⟨rest, hr⟩ := heldL_two (p := p) (w := w) ok.2.1.1
  have h := heldL_rows ok
  rw [hr] at h
  exact ⟨h _ List.mem_cons_self, h _ (List.mem_cons_of_mem _ List.mem_cons_self)⟩
theorem drawsN_le {p : Int} {n : Nat} {w : List It} (ok : okW p n w) : drawsN w ≤ 100 := Nat.le_trans (List.length_filter_le _ _) ok.2.2.1
theorem eqv_ints : ∀ xs ys : List Int, PyData.eqvAll (pys (xs.map .int)) (pys (ys.map .int)) = decide (xs = ys)
  | [], [] => rfl
  | [], _ :: _ => rfl
  | _ :: _, [] => rfl
  | x :: xs, y :: ys => by
    have ih := eqv_ints xs ys
    show PyData.eqvAll (py (.int x) :: pys (xs.map .int)) (py (.int y) :: pys (ys.map .int)) = _
    unfold PyData.eqvAll
    rw [ih]
    show ((x == y) && decide (xs = ys)) = decide (x :: xs = y :: ys)
    by_cases h1 : x = y
    · by_cases h2 : xs = ys <;> simp [h1, h2]
    · simp [h1]
theorem sh_lints (xs : List Int) : Sh 1 (.lst (xs.map .int)) := fun t ht => by
  obtain ⟨z, _, rfl⟩ := List.mem_map.mp ht
  trivial
theorem cutD_drop {xs : List D} {n : Nat} (h : n ≤ xs.length) : VX.cutD xs (some ((n : Nat) : Int)) none = xs.drop n := by
  unfold VX.cutD
  rw [HT.sIx_nat, HT.sIx_none, Nat.min_eq_left h]
  exact List.take_of_length_le (by rw [List.length_drop]; omega)
section
variable {P : Program} {w : World} {K : PySem.W.Frag} {mg : Str → Option Value} {base : Heap}
abbrev N34 : List Str := ["machine", "registers", "way", "own", "parts", "told", "rows", "total", "slot", "row", "column", "place"]
theorem sc_keeps_sum : FnScope N34 ["machine", "registers", "way"] (defScope (topS 34)) := ⟨rfl, rfl, rfl, by decide +kernel, rfl, by decide +kernel, by decide +kernel⟩
theorem ok_keeps_sum {f : Addr} {fd : FuncData} (F : Fun K "keeps_sum" "keeps_sum" (topS 34) f fd) (B : Bs mg) (C_tupled : C8.Cal P w K mg base 9 "tupled" (spW K (s_tupled 8)) []) (C_sure_line_way : C8.Cal P w K mg base 7 "sure_line_way" (spW K s_sure_line_way) []) (C_held_behind : C8.Cal P w K mg base 1 "held_behind" (spW K s_held_behind) []) : FnOk P w K mg base CX0 10 f fd ["machine", "registers", "way"] (spW K s_keeps_sum) := by
  have sc := sc_keeps_sum
  refine fn_w F sc (fun as P h => ?_) fun cdv A outer s H E hr as R h => ?_
  · obtain ⟨p, n, ws, rfl, h⟩ := h
    rfl
  obtain ⟨p, n, ws, rfl, okw, h⟩ := h
  obtain ⟨⟨hp0, hp1⟩, ⟨hn0, hn1⟩, hw, ok⟩ := id okw
  show SsW _ _ [.dat (machD p n), .dat (intsD [0, 1]), .dat (wayD ws), .un, .un, .un, .un, .un, .un, .un, .un, .un] _
  refine ssw_cons ?_
  refine sw_asg ?_
  refine ew_tup ?_
  refine aw_cons ?_
  refine ew_call C_tupled hr (by decide) ?_
  refine aw_cons ?_
  refine ew_name 0 rfl (by nofun) ?_
  refine aw_nil ?_
  refine ⟨_, rfl, List.nodup_nil, ⟨_, rfl, tp_mach p (by omega), trivial, ?_⟩⟩
  refine aw_cons ?_
  refine ew_call C_tupled hr (by decide) ?_
  refine aw_cons ?_
  refine ew_name 1 rfl (by nofun) ?_
  refine aw_nil ?_
  refine ⟨_, rfl, List.nodup_nil, ⟨_, rfl, tp_ints (by decide), trivial, ?_⟩⟩
  refine aw_cons ?_
  refine ew_call C_tupled hr (by decide) ?_
  refine aw_cons ?_
  refine ew_name 2 rfl (by nofun) ?_
  refine aw_nil ?_
  refine ⟨_, rfl, List.nodup_nil, ⟨_, rfl, tp_way (by omega) ok, trivial, ?_⟩⟩
  refine aw_nil ?_
  refine ⟨_, rfl, by show 3 ≤ 1000000; decide, ?_⟩
  refine gw_tup rfl rfl ?_
  refine gsw_cons ?_
  refine gw_name 3 sc.nd rfl rfl ?_
  refine gsw_cons ?_
  refine gw_name 4 sc.nd rfl rfl ?_
  refine gsw_cons ?_
  refine gw_name 5 sc.nd rfl rfl ?_
  refine gsw_nil ?_
  show SsW _ _ [.dat (machD p n), .dat (intsD [0, 1]), .dat (wayD ws), .dat (machD p n), .dat (intsD [0, 1]), .dat (wayD ws), .un, .un, .un, .un, .un, .un] _
  refine ssw_cons ?_
  refine sw_expr ?_
  refine ew_call C_sure_line_way hr (by decide) ?_
  refine aw_cons ?_
  refine ew_name 3 rfl (by nofun) ?_
  refine aw_cons ?_
  refine ew_name 4 rfl (by nofun) ?_
  refine aw_cons ?_
  refine ew_name 5 rfl (by nofun) ?_
  refine aw_nil ?_
  refine ⟨_, rfl, List.nodup_nil, ⟨p, n, [0, 1], ws, rfl, ⟨⟨by decide, fun r hr => by simp at hr; omega⟩, by decide, by omega, ok⟩, trivial, ?_⟩⟩
  refine ssw_cons ?_
  refine sw_lcF 6 (.two 8 9) [("slot", 8), ("row", 9)] (fun z : List Int × Nat => .tup [.int ((z.2 : Nat) : Int), intsD z.1]) (fun z => intsD z.1) (fun z => decide (((z.2 : Nat) : Int) ∈ ([0, 1] : List Int))) rfl sc.nd (blkOk_by (N := N34) (sc := defScope (topS 34)) (by decide +kernel)) (by decide) (fun _ _ _ _ _ => pg_tup rfl (pgs_cons (pg_name (i := 8) sc.nd rfl (.inl rfl)) (pgs_cons (pg_name (i := 9) sc.nd rfl (.inl rfl)) pgs_nil))) (sw_true rfl rfl rfl (by decide +kernel)) ?_
  refine iw_enumL B.enumerate ?_
  refine ew_call C_held_behind hr (by decide) ?_
  refine aw_cons ?_
  refine ew_name 3 rfl (by nofun) ?_
  refine aw_cons ?_
  refine ew_name 5 rfl (by nofun) ?_
  refine aw_nil ?_
  refine ⟨_, rfl, List.nodup_nil, ⟨p, n, ws, rfl, okw, trivial, ?_⟩⟩
  refine ⟨_, .inr rfl, ?_⟩
  obtain ⟨rest, hrest⟩ := heldL_two (p := p) (w := ws) hn0
  have hlen : (heldL p n ws).length = n := by
    unfold heldL heldI
    rw [heldI_len (n := n), List.length_map, List.length_range]
  refine ⟨(heldL p n ws).zipIdx, ⟨enum_rows _, by rw [List.length_zipIdx, hlen]; omega, rfl, fun x hx => ⟨_, rfl, ?_⟩⟩, ?_⟩
  · intro s H C cl fp
    refine tw_in ?_
    refine ew_name 8 rfl (by nofun) ?_
    refine ew_name 4 rfl (by nofun) ?_
    refine ⟨_, _, _, _, rfl, rfl, rfl, scVs_ints [0, 1], ?_⟩
    refine ⟨rfl, inV_ints _ _, fun hb => ?_⟩
    intro s H C cl fp
    refine ew_name 9 rfl (by nofun) ?_
    exact ⟨rfl, rfl⟩
  refine ⟨rfl, ?_⟩
  rw [hrest, enum_filter]
  refine ssw_freeze 6 rfl ?_
  show SsW _ _ [.dat (machD p n), .dat (intsD [0, 1]), .dat (wayD ws), .dat (machD p n), .dat (intsD [0, 1]), .dat (wayD ws), .dat (.lst [intsD (row0 p n ws), intsD (row1 p n ws)]), .un, .un, .un, .un, .un] _
  unfold keepsL at h
  obtain ⟨hr0, hr1⟩ := row_len okw
  have hdn := drawsN_le okw
  have htl : (totalL p (row0 p n ws) (row1 p n ws)).length ≤ 200 := by unfold totalL; rw [List.length_map, List.length_zip]; omega
  refine ssw_cons ?_
  refine sw_lcM 7 (.one 10) [("column", 10)] VX.pairD (fun z => .int ((z.1 + z.2) % p)) rfl sc.nd (blkOk_by (N := N34) (sc := defScope (topS 34)) (by decide +kernel)) (by decide) (fun _ _ _ _ _ => (pg_name (i := 10) sc.nd rfl (.inl rfl))) (sw_true rfl rfl rfl (by decide +kernel)) ?_
  refine iw_zipS B.zip ?_
  refine ew_name 6 rfl (by nofun) ?_
  refine ⟨_, _, rfl, ?_⟩
  refine ⟨(row0 p n ws).zip (row1 p n ws), ⟨zipD_ints _ _, ?_, rfl, fun x hx => ⟨_, rfl, ?_⟩⟩, ?_⟩
  · rw [List.length_zip]; omega
  · intro s H C cl fp
    refine ew_mod ?_
    refine ew_sumT rfl B.sum ?_
    refine ew_name 10 rfl (by nofun) ?_
    refine ⟨[x.1, x.2], rfl, ?_⟩
    refine ew_ix ?_
    refine ew_name 3 rfl (by nofun) ?_
    refine ew_int ?_
    refine ⟨_, _, _, rfl, rfl, rfl, ?_⟩
    refine ⟨_, _, rfl, rfl, hp0, ?_⟩
    exact ⟨by show some (D.int ((x.1 + (x.2 + 0)) % p)) = _; rw [Int.add_zero], rfl⟩
  refine ⟨rfl, ?_⟩
  rw [show ((row0 p n ws).zip (row1 p n ws)).map (fun z => D.int ((z.1 + z.2) % p)) = (totalL p (row0 p n ws) (row1 p n ws)).map D.int by unfold totalL; rw [List.map_map]; rfl]
  generalize totalL p (row0 p n ws) (row1 p n ws) = tot at h htl
  show SsW _ _ [.dat (machD p n), .dat (intsD [0, 1]), .dat (wayD ws), .dat (machD p n), .dat (intsD [0, 1]), .dat (wayD ws), .dat (.lst [intsD (row0 p n ws), intsD (row1 p n ws)]), .own (tot.map .int), .un, .un, .un, .un] _
  refine ssw_one ?_
  refine sw_ret ?_
  refine ew_eq hr ?_
  refine ew_name 7 rfl (by nofun) ?_
  refine ew_lcM (.one 11) [("place", 11)] (fun k : Nat => D.int ((k : Nat) : Int)) (fun k => .int (if k < 2 then 1 else 0)) rfl sc.nd (blkOk_by (N := N34) (sc := defScope (topS 34)) (by decide +kernel)) (by decide) (fun _ _ _ _ _ => (pg_name (i := 11) sc.nd rfl (.inl rfl))) ?_
  refine iw_range1 B.range ?_
  refine ew_len B.len ?_
  refine ew_name 7 rfl (by nofun) ?_
  refine ⟨_, rfl, ?_⟩
  rw [List.length_map]
  refine ⟨_, rfl, by omega, by omega, ?_⟩
  refine ⟨List.range tot.length, ⟨by rw [Int.toNat_natCast]; exact rangeD_map _, by rw [List.length_range]; omega, rfl, fun x hx => ⟨_, rfl, ?_⟩⟩, ?_⟩
  · intro s H C cl fp
    refine ew_int1 B.int ?_
    refine ew_in ?_
    refine ew_name 11 rfl (by nofun) ?_
    refine ew_name 4 rfl (by nofun) ?_
    refine ⟨_, _, _, _, rfl, rfl, rfl, scVs_ints [0, 1], ?_⟩
    refine .inr ⟨_, rfl, ?_⟩
    refine ⟨?_, rfl⟩
    rw [inV_ints]
    show some (D.int (if decide (((x : Nat) : Int) ∈ ([0, 1] : List Int)) = true then 1 else 0)) = some (D.int (if x < 2 then 1 else 0))
    congr 2
    by_cases hx2 : x < 2
    · rw [if_pos hx2, if_pos]
      simp; omega
    · rw [if_neg hx2, if_neg]
      simp; omega
  refine .inr ⟨_, _, rfl, rfl, shaped_of (sh_lints tot), ?_, ?_⟩
  · have := shaped_of (sh_lints ((List.range tot.length).map fun k => if k < 2 then 1 else 0))
    rw [List.map_map] at this
    exact this
  · have e := eqv_ints tot ((List.range tot.length).map fun k => if k < 2 then 1 else 0)
    rw [List.map_map] at e
    refine ⟨_, rfl, ?_⟩
    show R (.dat (.bl (PyData.eqvAll (pys (tot.map .int)) (pys ((List.range tot.length).map fun k => .int (if k < 2 then 1 else 0)))))) _
    rw [show (List.range tot.length).map (fun k => D.int (if k < 2 then 1 else 0)) = (List.range tot.length).map (D.int ∘ fun k => if k < 2 then 1 else 0) from rfl, e]
    exact h
theorem row_at {p : Int} {n : Nat} {w : List It} (h : 2 ≤ n) : (heldL p n w)[(0 : Int).toNat]? = some (row0 p n w) ∧ (heldL p n w)[(1 : Int).toNat]? = some (row1 p n w) := by
  obtain ⟨rest, hr⟩ := heldL_two (p := p) (w := w) h
  rw [hr]
  exact ⟨rfl, rfl⟩
abbrev N35 : List Str := ["machine", "registers", "way", "own", "parts", "told", "held", "slot"]
theorem sc_how_free : FnScope N35 ["machine", "registers", "way"] (defScope (topS 35)) := ⟨rfl, rfl, rfl, by decide +kernel, rfl, by decide +kernel, by decide +kernel⟩
theorem ok_how_free {f : Addr} {fd : FuncData} (F : Fun K "how_free" "how_free" (topS 35) f fd) (B : Bs mg) (C_tupled : C8.Cal P w K mg base 9 "tupled" (spW K (s_tupled 8)) []) (C_sure_line_way : C8.Cal P w K mg base 7 "sure_line_way" (spW K s_sure_line_way) []) (C_held_behind : C8.Cal P w K mg base 1 "held_behind" (spW K s_held_behind) []) (C_rank : C8.Cal P w K mg base 11 "rank" (spW K s_rank) []) : FnOk P w K mg base CX0 12 f fd ["machine", "registers", "way"] (spW K s_how_free) := by
  have sc := sc_how_free
  refine fn_w F sc (fun as P h => ?_) fun cdv A outer s H E hr as R h => ?_
  · obtain ⟨p, n, ws, k, rfl, h⟩ := h
    rfl
  obtain ⟨p, n, ws, k, rfl, ⟨okw, hfree⟩, h⟩ := h
  obtain ⟨⟨hp0, hp1⟩, ⟨hn0, hn1⟩, hw, ok⟩ := id okw
  show SsW _ _ [.dat (machD p n), .dat (intsD [0, 1]), .dat (wayD ws), .un, .un, .un, .un, .un] _
  refine ssw_cons ?_
  refine sw_asg ?_
  refine ew_tup ?_
  refine aw_cons ?_
  refine ew_call C_tupled hr (by decide) ?_
  refine aw_cons ?_
  refine ew_name 0 rfl (by nofun) ?_
  refine aw_nil ?_
  refine ⟨_, rfl, List.nodup_nil, ⟨_, rfl, tp_mach p (by omega), trivial, ?_⟩⟩
  refine aw_cons ?_
  refine ew_call C_tupled hr (by decide) ?_
  refine aw_cons ?_
  refine ew_name 1 rfl (by nofun) ?_
  refine aw_nil ?_
  refine ⟨_, rfl, List.nodup_nil, ⟨_, rfl, tp_ints (by decide), trivial, ?_⟩⟩
  refine aw_cons ?_
  refine ew_call C_tupled hr (by decide) ?_
  refine aw_cons ?_
  refine ew_name 2 rfl (by nofun) ?_
  refine aw_nil ?_
  refine ⟨_, rfl, List.nodup_nil, ⟨_, rfl, tp_way (by omega) ok, trivial, ?_⟩⟩
  refine aw_nil ?_
  refine ⟨_, rfl, by show 3 ≤ 1000000; decide, ?_⟩
  refine gw_tup rfl rfl ?_
  refine gsw_cons ?_
  refine gw_name 3 sc.nd rfl rfl ?_
  refine gsw_cons ?_
  refine gw_name 4 sc.nd rfl rfl ?_
  refine gsw_cons ?_
  refine gw_name 5 sc.nd rfl rfl ?_
  refine gsw_nil ?_
  show SsW _ _ [.dat (machD p n), .dat (intsD [0, 1]), .dat (wayD ws), .dat (machD p n), .dat (intsD [0, 1]), .dat (wayD ws), .un, .un] _
  refine ssw_cons ?_
  refine sw_expr ?_
  refine ew_call C_sure_line_way hr (by decide) ?_
  refine aw_cons ?_
  refine ew_name 3 rfl (by nofun) ?_
  refine aw_cons ?_
  refine ew_name 4 rfl (by nofun) ?_
  refine aw_cons ?_
  refine ew_name 5 rfl (by nofun) ?_
  refine aw_nil ?_
  refine ⟨_, rfl, List.nodup_nil, ⟨p, n, [0, 1], ws, rfl, ⟨⟨by decide, fun r hr => by simp at hr; omega⟩, by decide, by omega, ok⟩, trivial, ?_⟩⟩
  refine ssw_cons ?_
  refine sw_set 6 sc.nd ?_
  refine ew_call C_held_behind hr (by decide) ?_
  refine aw_cons ?_
  refine ew_name 3 rfl (by nofun) ?_
  refine aw_cons ?_
  refine ew_name 5 rfl (by nofun) ?_
  refine aw_nil ?_
  refine ⟨_, rfl, List.nodup_nil, ⟨p, n, ws, rfl, okw, trivial, ?_⟩⟩
  refine ⟨_, rfl, rfl, ?_⟩
  show SsW _ _ [.dat (machD p n), .dat (intsD [0, 1]), .dat (wayD ws), .dat (machD p n), .dat (intsD [0, 1]), .dat (wayD ws), .own ((heldL p n ws).map intsD), .un] _
  obtain ⟨hr0, hr1⟩ := row_len okw
  have hdn := drawsN_le okw
  obtain ⟨ra0, ra1⟩ := row_at (p := p) (w := ws) hn0
  obtain ⟨ff, hff, rfl⟩ := Option.map_eq_some_iff.mp hfree
  refine ssw_one ?_
  refine sw_ret ?_
  refine ew_call C_rank hr (by decide) ?_
  refine aw_cons ?_
  refine ew_ix ?_
  refine ew_name 3 rfl (by nofun) ?_
  refine ew_int ?_
  refine ⟨_, _, _, rfl, rfl, rfl, ?_⟩
  refine aw_cons ?_
  refine ew_tuple B.tuple ?_
  refine ew_lcM (.one 7) [("slot", 7)] D.int (fun x => intsD ((if x = 0 then row0 p n ws else row1 p n ws).drop n)) rfl sc.nd (blkOk_by (N := N35) (sc := defScope (topS 35)) (by decide +kernel)) (by decide) (fun _ _ _ _ _ => (pg_name (i := 7) sc.nd rfl (.inl rfl))) ?_
  refine iw_tup ?_
  refine ew_name 4 rfl (by nofun) ?_
  refine ⟨_, rfl, ?_⟩
  refine ⟨[0, 1], ⟨rfl, by decide, rfl, fun x hx => ⟨_, rfl, ?_⟩⟩, ?_⟩
  · intro s H C cl fp
    have hx' : x = 0 ∨ x = 1 := by simpa using hx
    have hrow : ∃ row, 0 ≤ x ∧ (heldL p n ws)[x.toNat]? = some row ∧ row = (if x = 0 then row0 p n ws else row1 p n ws) ∧ n ≤ row.length := by
      rcases hx' with rfl | rfl
      · exact ⟨_, by decide, ra0, rfl, by omega⟩
      · exact ⟨_, by decide, ra1, rfl, by omega⟩
    obtain ⟨row, hx0, hrw, hre, hrl⟩ := hrow
    refine ew_slT ?_
    refine ew_ix ?_
    refine ew_name 6 rfl (by nofun) ?_
    refine ew_name 7 rfl (by nofun) ?_
    refine ⟨_, _, _, rfl, rfl, atI_rows hx0 hrw, ?_⟩
    refine ow_some ?_
    refine ew_len B.len ?_
    refine ew_ix ?_
    refine ew_name 3 rfl (by nofun) ?_
    refine ew_int ?_
    refine ⟨_, _, _, rfl, rfl, rfl, ?_⟩
    refine ⟨_, rfl, ?_⟩
    refine ⟨_, rfl, ?_⟩
    refine ow_none ?_
    refine ⟨_, rfl, ?_⟩
    rw [List.length_replicate, cutD_drop (by rw [List.length_map]; exact hrl), ← List.map_drop]
    exact ⟨by show _ = some (intsD ((if x = 0 then row0 p n ws else row1 p n ws).drop n)); rw [← hre]; rfl, rfl⟩
  refine ⟨_, rfl, ?_⟩
  refine aw_nil ?_
  refine ⟨_, rfl, List.nodup_nil, ⟨p, freeRows p n ws, ff, rfl, ⟨hp0, hp1, by show 2 ≤ 50; decide, ?_, hff⟩, trivial, ?_⟩⟩
  · intro r hrm
    rcases List.mem_cons.mp hrm with rfl | hrm
    · rw [List.length_drop]; omega
    · rw [List.mem_singleton.mp hrm, List.length_drop]; omega
  exact ⟨_, rfl, h⟩
theorem sc_renews : FnScope ["machine", "registers", "way"] ["machine", "registers", "way"] (defScope (topS 36)) := ⟨rfl, rfl, rfl, by decide +kernel, rfl, by decide +kernel, by decide +kernel⟩
theorem ok_renews {f : Addr} {fd : FuncData} (F : Fun K "renews" "renews" (topS 36) f fd) (B : Bs mg) (C_keeps_sum : C8.Cal P w K mg base 10 "keeps_sum" (spW K s_keeps_sum) []) (C_how_free : C8.Cal P w K mg base 12 "how_free" (spW K s_how_free) []) : FnOk P w K mg base CX0 13 f fd ["machine", "registers", "way"] (spW K s_renews) := by
  have sc := sc_renews
  refine fn_w F sc (fun as P h => ?_) fun cdv A outer s H E hr as R h => ?_
  · obtain ⟨p, n, ws, k, rfl, h⟩ := h
    rfl
  obtain ⟨p, n, ws, k, rfl, ⟨okw, hfree⟩, h⟩ := h
  show SsW _ _ [.dat (machD p n), .dat (intsD [0, 1]), .dat (wayD ws)] _
  refine ssw_one ?_
  refine sw_ret ?_
  refine ew_and ?_
  refine ew_call C_keeps_sum hr (by decide) ?_
  refine aw_cons ?_
  refine ew_name 0 rfl (by nofun) ?_
  refine aw_cons ?_
  refine ew_name 1 rfl (by nofun) ?_
  refine aw_cons ?_
  refine ew_name 2 rfl (by nofun) ?_
  refine aw_nil ?_
  refine ⟨_, rfl, List.nodup_nil, ⟨p, n, ws, rfl, okw, trivial, ?_⟩⟩
  refine ⟨_, rfl, fun hb => ?_, fun hb => ?_⟩
  · rw [hb, Bool.true_and] at h
    refine ew_one ?_
    refine ew_eq hr ?_
    refine ew_call C_how_free hr (by decide) ?_
    refine aw_cons ?_
    refine ew_name 0 rfl (by nofun) ?_
    refine aw_cons ?_
    refine ew_name 1 rfl (by nofun) ?_
    refine aw_cons ?_
    refine ew_name 2 rfl (by nofun) ?_
    refine aw_nil ?_
    refine ⟨_, rfl, List.nodup_nil, ⟨p, n, ws, k, rfl, ⟨okw, hfree⟩, trivial, ?_⟩⟩
    refine ew_sub ?_
    refine ew_len B.len ?_
    refine ew_name 1 rfl (by nofun) ?_
    refine ⟨_, rfl, ?_⟩
    refine ew_int ?_
    refine ⟨_, _, rfl, rfl, ?_⟩
    refine .inl ⟨_, _, _, _, rfl, rfl, rfl, rfl, rfl, ?_⟩
    refine ⟨_, rfl, ?_⟩
    have e : decide (V.int ((k : Nat) : Int) = V.int ((((([0, 1] : List Int).map D.int).length : Nat) : Int) - 1)) = decide (k = 1) := by
      by_cases hk : k = 1
      · subst hk; rw [decide_eq_true rfl]; rfl
      · rw [decide_eq_false hk, decide_eq_false]
        intro z
        have := V.int.inj z
        have h2 : ((([0, 1] : List Int).map D.int).length : Nat) = 2 := rfl
        rw [h2] at this
        omega
    rw [e]
    exact h
  · rw [hb, Bool.false_and] at h
    exact ⟨_, rfl, h⟩
end
end V85

namespace V85
open PySem PySem.Spec PyProof.Rows L2 VX
/-- the drawing box -/
abbrev Tin := Int × Int × Int
def tinD (t : Tin) : List D := [.int t.1, .int t.2.1, .int t.2.2]
def okT (m : Int) (t : Tin) : Prop := 0 ≤ t.1 ∧ (0 ≤ t.2.1 ∧ t.2.1 < 2 ^ 62) ∧ 0 ≤ t.2.2 ∧ t.2.2 ≤ m
theorem map_erase : ∀ (xs : List Int) (i : Nat), (xs.map D.int).eraseIdx i = (xs.eraseIdx i).map D.int
  | [], _ => rfl
  | _ :: _, 0 => rfl
  | x :: xs, i + 1 => by
    rw [List.map_cons, List.eraseIdx_cons_succ, List.eraseIdx_cons_succ, List.map_cons, map_erase xs i]
theorem erase_perm : ∀ (xs : List Int) (i : Nat) (h : i < xs.length), (xs[i] :: xs.eraseIdx i).Perm xs
  | [], _, h => absurd h (Nat.not_lt_zero _)
  | x :: xs, 0, _ => List.Perm.refl _
  | x :: xs, i + 1, h => by
    rw [List.eraseIdx_cons_succ, List.getElem_cons_succ]
    exact (List.Perm.swap _ _ _).trans ((erase_perm xs i (by simpa using h)).cons x)
theorem bit_bd (b : Prop) [Decidable b] : 0 ≤ (if b then (1 : Int) else 0) ∧ (if b then (1 : Int) else 0) ≤ 1 := by split <;> decide
theorem okT.mono {m k : Int} {t : Tin} (h : okT m t) (hk : m ≤ k) : okT k t := ⟨h.1, h.2.1, h.2.2.1, Int.le_trans h.2.2.2 hk⟩
def s_law_plain : Spc := fun as P => as = [] ∧ P (.dat plainD) []
def s_law_box : Spc := fun as P => ∃ c : Int, as = [.dat (.lst [.int c]), .dat (.int 0)] ∧ ∀ t, okT 0 t → P (.new (tinD t)) []
def s_law_take : Spc := fun as P => ∃ t n m, as = [.io (tinD t), .dat (.int n)] ∧ (okT m t ∧ m < 100000 ∧ 0 < n ∧ n < 1000000) ∧ ∀ r t', 0 ≤ r → r < n → okT (m + 1) t' → P (.dat (.int r)) [tinD t']
def s_law_cells : Spc := fun as P => ∃ ns : List Int, as = [.dat (.scr (ns.map .int)), .dat (.int 1)] ∧ ns.length ≤ 63 ∧ ∀ c : Int, P (.new [.int c]) []
def s_law_of : Spc := fun as P => ∃ (t : Tin) (gs : List D) (m : Int), as = [.io (tinD t), .dat (.lst gs)] ∧ (okT m t ∧ m < 100000 ∧ 0 < gs.length ∧ gs.length < 1000) ∧ ∀ g t', g ∈ gs → okT (m + 1) t' → P (.dat g) [tinD t']
def s_law_pick : Spc := fun as P => ∃ (t : Tin) (gs : List Int) (c m : Int), as = [.io (tinD t), .dat (.lst (gs.map .int)), .dat (.int c)] ∧ (okT m t ∧ m < 50000 ∧ gs.length < 1000 ∧ 0 ≤ c ∧ c ≤ gs.length) ∧ ∀ (ns rest : List Int) t', (ns ++ rest).Perm gs → okT (m + c) t' → P (.new (ns.map .int)) [tinD t']
section
variable {P : Program} {w : World} {K : PySem.W.Frag} {mg : Str → Option Value} {base : Heap}
theorem sc_law_plain : FnScope [] [] (defScope (topS 44)) := ⟨rfl, rfl, rfl, by decide +kernel, rfl, by decide +kernel, by decide +kernel⟩
theorem ok_law_plain {f : Addr} {fd : FuncData} (F : Fun K "_law_plain" "_law_plain" (topS 44) f fd) (B : Bs mg) : FnOk P w K mg base CX0 1 f fd [] (spW K s_law_plain) := by
  have sc := sc_law_plain
  refine fn_w F sc (fun as P h => ?_) fun cdv A outer s H E hr as R h => ?_
  · obtain ⟨rfl, h⟩ := h
    rfl
  obtain ⟨rfl, h⟩ := h
  show SsW _ _ [] _
  refine ssw_one ?_
  refine sw_ret ?_
  refine ew_tup ?_
  refine aw_cons ?_
  refine ew_tup ?_
  refine aw_cons ?_
  refine ew_str ?_
  refine aw_cons ?_
  refine ew_int ?_
  refine aw_nil ?_
  refine ⟨_, rfl, by show 2 ≤ 1000000; decide, ?_⟩
  refine aw_cons ?_
  refine ew_tup ?_
  refine aw_cons ?_
  refine ew_str ?_
  refine aw_cons ?_
  refine ew_int ?_
  refine aw_nil ?_
  refine ⟨_, rfl, by show 2 ≤ 1000000; decide, ?_⟩
  refine aw_cons ?_
  refine ew_tup ?_
  refine aw_cons ?_
  refine ew_str ?_
  refine aw_cons ?_
  refine ew_int ?_
  refine aw_nil ?_
  refine ⟨_, rfl, by show 2 ≤ 1000000; decide, ?_⟩
  refine aw_nil ?_
  refine ⟨_, rfl, by show 3 ≤ 1000000; decide, ?_⟩
  exact ⟨_, rfl, h⟩
theorem sc_law_box : FnScope ["script", "k", "cell"] ["script", "k"] (defScope (topS 38)) := ⟨rfl, rfl, rfl, by decide +kernel, rfl, by decide +kernel, by decide +kernel⟩
theorem ok_law_box {f : Addr} {fd : FuncData} (F : Fun K "_law_box" "_law_box" (topS 38) f fd) (B : Bs mg) : FnOk P w K mg base CX0 1 f fd ["script", "k"] (spW K s_law_box) := by
  have sc := sc_law_box
  refine fn_w F sc (fun as P h => ?_) fun cdv A outer s H E hr as R h => ?_
  · obtain ⟨c, rfl, h⟩ := h
    rfl
  obtain ⟨c, rfl, h⟩ := h
  show SsW _ _ [.dat (.lst [.int c]), .dat (.int 0), .un] _
  refine ssw_cons ?_
  refine sw_set 2 sc.nd ?_
  refine ew_if ?_
  refine tw_lt ?_
  refine ew_name 1 rfl (by nofun) ?_
  refine ew_len B.len ?_
  refine ew_name 0 rfl (by nofun) ?_
  refine ⟨_, rfl, ?_⟩
  refine ⟨_, _, rfl, rfl, ?_⟩
  refine ⟨fun hb => ?_, fun hb => by simp at hb⟩
  refine ew_ix ?_
  refine ew_name 0 rfl (by nofun) ?_
  refine ew_name 1 rfl (by nofun) ?_
  refine ⟨_, _, _, rfl, rfl, rfl, ?_⟩
  refine ⟨_, rfl, rfl, ?_⟩
  show SsW _ _ [.dat (.lst [.int c]), .dat (.int 0), .dat (.int c)] _
  refine ssw_one ?_
  refine sw_ret ?_
  refine ew_lst ?_
  refine aw_cons ?_
  refine ew_mul ?_
  refine ew_abs B.abs ?_
  refine ew_name 2 rfl (by nofun) ?_
  refine ⟨_, rfl, ?_⟩
  refine ew_int1 B.int ?_
  refine ew_ge ?_
  refine ew_abs B.abs ?_
  refine ew_name 2 rfl (by nofun) ?_
  refine ⟨_, rfl, ?_⟩
  refine ew_pow ?_
  refine ew_int ?_
  refine ew_int ?_
  refine ⟨_, _, rfl, rfl, (by refine ⟨by decide, by decide, by decide⟩), ?_⟩
  refine ⟨_, _, rfl, rfl, ?_⟩
  refine .inr ⟨_, rfl, ?_⟩
  refine ⟨_, _, rfl, rfl, .inr ⟨Int.lt_of_lt_of_le (by decide) (bit_bd _).1, Int.lt_of_le_of_lt (bit_bd _).2 (by decide)⟩, ?_⟩
  refine aw_cons ?_
  refine ew_add ?_
  refine ew_add ?_
  refine ew_mod ?_
  refine ew_int1 B.int ?_
  refine ew_name 2 rfl (by nofun) ?_
  refine .inl ⟨_, rfl, ?_⟩
  refine ew_int ?_
  refine ⟨_, _, rfl, rfl, (by decide), ?_⟩
  refine ew_mul ?_
  refine ew_int ?_
  refine ew_name 1 rfl (by nofun) ?_
  refine ⟨_, _, rfl, rfl, .inl (by decide), ?_⟩
  refine ⟨_, _, rfl, rfl, ?_⟩
  refine ew_int ?_
  refine ⟨_, _, rfl, rfl, ?_⟩
  refine aw_cons ?_
  refine ew_int ?_
  refine aw_nil ?_
  refine ⟨_, rfl, by show 3 ≤ 1000000; decide, ?_⟩
  refine ⟨_, rfl, h (_, _, _) ⟨?_, ⟨?_, ?_⟩, ?_, ?_⟩⟩
  · refine Int.mul_nonneg (by show 0 ≤ (if c < 0 then -c else c); split <;> omega) (bit_bd _).1
  · have := Int.emod_nonneg c (show (2305843009213693951 : Int) ≠ 0 by decide)
    show 0 ≤ c % 2305843009213693951 + 39373 * 0 + 3155085
    omega
  · have := Int.emod_lt_of_pos c (show (0 : Int) < 2305843009213693951 by decide)
    show c % 2305843009213693951 + 39373 * 0 + 3155085 < 2 ^ 62
    omega
  · exact Int.le_refl 0
  · exact Int.le_refl 0
theorem sc_law_take : FnScope ["tin", "below_so", "drawn", "once_so", "wide_so", "twice_so"] ["tin", "below_so"] (defScope (topS 39)) := ⟨rfl, rfl, rfl, by decide +kernel, rfl, by decide +kernel, by decide +kernel⟩
theorem ok_law_take {f : Addr} {fd : FuncData} (F : Fun K "_law_take" "_law_take" (topS 39) f fd) (B : Bs mg) : FnOk P w K mg base CX0 1 f fd ["tin", "below_so"] (spW K s_law_take) := by
  have sc := sc_law_take
  refine fn_w F sc (fun as P h => ?_) fun cdv A outer s H E hr as R h => ?_
  · obtain ⟨t, n, m, rfl, h⟩ := h
    rfl
  obtain ⟨⟨t0, t1, t2⟩, n, m, rfl, ⟨⟨ht0, ⟨ht1, ht1'⟩, ht2, ht2'⟩, hm, hn, hn'⟩, h⟩ := h
  show SsW _ _ [.io [.int t0, .int t1, .int t2], .dat (.int n), .un, .un, .un, .un] _
  have ht0 : 0 ≤ t0 := ht0
  have ht1 : 0 ≤ t1 := ht1
  have ht1' : t1 < 2 ^ 62 := ht1'
  have ht2 : 0 ≤ t2 := ht2
  have ht2' : t2 ≤ m := ht2'
  refine ssw_cons ?_
  refine sw_if ?_
  refine tw_gt ?_
  refine ew_ix ?_
  refine ew_name 0 rfl (by nofun) ?_
  refine ew_int ?_
  refine ⟨_, _, _, rfl, rfl, rfl, ?_⟩
  refine ew_int ?_
  refine ⟨_, _, rfl, rfl, ?_⟩
  refine ⟨fun hb => ?_, fun hb => ?_⟩
  · -- drawn = int(tin[0]) % below_so
    refine ssw_cons ?_
    refine sw_set 2 sc.nd ?_
    refine ew_mod ?_
    refine ew_int1 B.int ?_
    refine ew_ix ?_
    refine ew_name 0 rfl (by nofun) ?_
    refine ew_int ?_
    refine ⟨_, _, _, rfl, rfl, rfl, ?_⟩
    refine .inl ⟨_, rfl, ?_⟩
    refine ew_name 1 rfl (by nofun) ?_
    refine ⟨_, _, rfl, rfl, hn, ?_⟩
    refine ⟨_, rfl, rfl, ?_⟩
    refine ssw_cons ?_
    refine sw_asg ?_
    refine ew_fdiv ?_
    refine ew_ix ?_
    refine ew_name 0 rfl (by nofun) ?_
    refine ew_int ?_
    refine ⟨_, _, _, rfl, rfl, rfl, ?_⟩
    refine ew_name 1 rfl (by nofun) ?_
    refine ⟨_, _, rfl, rfl, ⟨hn, by omega⟩, ?_⟩
    refine gw_sub rfl ?_
    refine ew_name 0 rfl (by nofun) ?_
    refine ⟨_, rfl, ?_⟩
    refine ew_int ?_
    refine ⟨_, _, _, rfl, rfl, rfl, ?_⟩
    refine ssw_one ?_
    refine sw_ret ?_
    refine ew_name 2 rfl (by nofun) ?_
    exact ⟨_, rfl, h (t0 % n) (t0 / n, t1, t2) (Int.emod_nonneg _ (by omega)) (Int.emod_lt_of_pos _ hn) ⟨Int.ediv_nonneg ht0 (Int.le_of_lt hn), ⟨ht1, ht1'⟩, ht2, by show t2 ≤ m + 1; omega⟩⟩
  refine ssw_nil ?_
  refine ssw_cons ?_
  refine sw_asg ?_
  refine ew_add ?_
  refine ew_ix ?_
  refine ew_name 0 rfl (by nofun) ?_
  refine ew_int ?_
  refine ⟨_, _, _, rfl, rfl, rfl, ?_⟩
  refine ew_int ?_
  refine ⟨_, _, rfl, rfl, ?_⟩
  refine gw_sub rfl ?_
  refine ew_name 0 rfl (by nofun) ?_
  refine ⟨_, rfl, ?_⟩
  refine ew_int ?_
  refine ⟨_, _, _, rfl, rfl, rfl, ?_⟩
  generalize hu : t2 + 1 = u
  show SsW _ _ [.io [.int t0, .int t1, .int u], .dat (.int n), .un, .un, .un, .un] _
  refine ssw_cons ?_
  refine sw_set 3 sc.nd ?_
  refine ew_mod ?_
  refine ew_int1 B.int ?_
  refine ew_mul ?_
  refine ew_add ?_
  refine ew_ix ?_
  refine ew_name 0 rfl (by nofun) ?_
  refine ew_int ?_
  refine ⟨_, _, _, rfl, rfl, rfl, ?_⟩
  refine ew_mul ?_
  refine ew_int ?_
  refine ew_ix ?_
  refine ew_name 0 rfl (by nofun) ?_
  refine ew_int ?_
  refine ⟨_, _, _, rfl, rfl, rfl, ?_⟩
  refine ⟨_, _, rfl, rfl, .inl (by decide), ?_⟩
  refine ⟨_, _, rfl, rfl, ?_⟩
  refine ew_add ?_
  refine ew_int ?_
  refine ew_ix ?_
  refine ew_name 0 rfl (by nofun) ?_
  refine ew_int ?_
  refine ⟨_, _, _, rfl, rfl, rfl, ?_⟩
  refine ⟨_, _, rfl, rfl, ?_⟩
  refine ⟨_, _, rfl, rfl, .inr ⟨by omega, by omega⟩, ?_⟩
  refine .inl ⟨_, rfl, ?_⟩
  refine ew_int ?_
  refine ⟨_, _, rfl, rfl, (by decide), ?_⟩
  generalize ho : ((t1 + 48271 * u) * (39373 + u)) % 2147483647 = once
  refine ⟨_, rfl, rfl, ?_⟩
  refine ssw_cons ?_
  refine sw_set 4 sc.nd ?_
  refine ew_add ?_
  refine ew_mod ?_
  refine ew_int1 B.int ?_
  refine ew_name 3 rfl (by nofun) ?_
  refine .inl ⟨_, rfl, ?_⟩
  refine ew_int ?_
  refine ⟨_, _, rfl, rfl, (by decide), ?_⟩
  refine ew_int ?_
  refine ⟨_, _, rfl, rfl, ?_⟩
  have hw1 := Int.emod_nonneg once (show (40009 : Int) ≠ 0 by decide)
  have hw2 := Int.emod_lt_of_pos once (show (0 : Int) < 40009 by decide)
  generalize once % 40009 = wide at hw1 hw2
  refine ⟨_, rfl, rfl, ?_⟩
  refine ssw_cons ?_
  refine sw_set 5 sc.nd ?_
  refine ew_mod ?_
  refine ew_int1 B.int ?_
  refine ew_mul ?_
  refine ew_add ?_
  refine ew_add ?_
  refine ew_name 3 rfl (by nofun) ?_
  refine ew_ix ?_
  refine ew_name 0 rfl (by nofun) ?_
  refine ew_int ?_
  refine ⟨_, _, _, rfl, rfl, rfl, ?_⟩
  refine ⟨_, _, rfl, rfl, ?_⟩
  refine ew_fdiv ?_
  refine ew_ix ?_
  refine ew_name 0 rfl (by nofun) ?_
  refine ew_int ?_
  refine ⟨_, _, _, rfl, rfl, rfl, ?_⟩
  refine ew_int ?_
  refine ⟨_, _, rfl, rfl, ⟨by decide, by decide⟩, ?_⟩
  refine ⟨_, _, rfl, rfl, ?_⟩
  refine ew_name 4 rfl (by nofun) ?_
  refine ⟨_, _, rfl, rfl, .inr ⟨by omega, by omega⟩, ?_⟩
  refine .inl ⟨_, rfl, ?_⟩
  refine ew_int ?_
  refine ⟨_, _, rfl, rfl, (by decide), ?_⟩
  generalize (once + u + t1 / 1000003) * (wide + 7) % 2147483629 = twice
  refine ⟨_, rfl, rfl, ?_⟩
  refine ssw_one ?_
  refine sw_ret ?_
  refine ew_mod ?_
  refine ew_int1 B.int ?_
  refine ew_fdiv ?_
  refine ew_mod ?_
  refine ew_int1 B.int ?_
  refine ew_add ?_
  refine ew_mul ?_
  refine ew_name 5 rfl (by nofun) ?_
  refine ew_int ?_
  refine ⟨_, _, rfl, rfl, .inr (by decide), ?_⟩
  refine ew_name 3 rfl (by nofun) ?_
  refine ⟨_, _, rfl, rfl, ?_⟩
  refine .inl ⟨_, rfl, ?_⟩
  refine ew_int ?_
  refine ⟨_, _, rfl, rfl, (by decide), ?_⟩
  refine ew_int ?_
  refine ⟨_, _, rfl, rfl, ⟨by decide, by decide⟩, ?_⟩
  refine .inl ⟨_, rfl, ?_⟩
  refine ew_name 1 rfl (by nofun) ?_
  refine ⟨_, _, rfl, rfl, hn, ?_⟩
  exact ⟨_, rfl, h _ (t0, t1, u) (Int.emod_nonneg _ (by omega)) (Int.emod_lt_of_pos _ hn) ⟨ht0, ⟨ht1, ht1'⟩, by show 0 ≤ u; omega, by show u ≤ m + 1; omega⟩⟩
theorem cut_ints (ns : List Int) (lo hi : Option Int) : ∃ ms : List Int, VX.cutD (ns.map .int) lo hi = ms.map .int ∧ ms.length ≤ ns.length := by
  unfold VX.cutD
  rw [← List.map_drop, ← List.map_take]
  exact ⟨_, rfl, by rw [List.length_take, List.length_drop]; omega⟩
theorem sc_law_cells : FnScope ["script", "most_so", "cells_so", "k", "cell", "at_so"] ["script", "most_so"] (defScope (topS 40)) := ⟨rfl, rfl, rfl, by decide +kernel, rfl, by decide +kernel, by decide +kernel⟩
theorem ok_law_cells {f : Addr} {fd : FuncData} (F : Fun K "_law_cells" "_law_cells" (topS 40) f fd) (B : Bs mg) : FnOk P w K mg base CX0 1 f fd ["script", "most_so"] (spW K s_law_cells) := by
  have sc := sc_law_cells
  refine fn_w F sc (fun as P h => ?_) fun cdv A outer s H E hr as R h => ?_
  · obtain ⟨ns, rfl, h⟩ := h
    rfl
  obtain ⟨ns, rfl, hl, h⟩ := h
  show SsW _ _ [.dat (.scr (ns.map .int)), .dat (.int 1), .un, .un, .un, .un] _
  have go : ∀ c : Int, SsW (bx P w K mg base ["script", "most_so", "cells_so", "k", "cell", "at_so"] "_law_cells" (topS 40) f cdv A outer s H E) ((defBody (topS 40)).drop 1) [.dat (.scr (ns.map .int)), .dat (.int 1), .own [.int c], .un, .un, .un] (endsW [.dat (.scr (ns.map .int)), .dat (.int 1)] R) := fun c => by
    refine ssw_cons ?_
    refine sw_for rfl PassesOwn.never ?_
    refine iw_enumL B.enumerate ?_
    refine ew_slL ?_
    refine ew_name 0 rfl (by nofun) ?_
    refine ow_some ?_
    refine ew_name 1 rfl (by nofun) ?_
    refine ⟨_, rfl, ?_⟩
    refine ow_some ?_
    refine ew_int ?_
    refine ⟨_, rfl, ?_⟩
    refine ⟨_, .inl rfl, ?_⟩
    refine ⟨_, .inr rfl, ?_⟩
    obtain ⟨ms, hms, hml⟩ := cut_ints ns (some 1) (some 63)
    rw [hms]
    refine ⟨fun i Γ => ∃ c x3 x4 x5, (∀ ds, x3 ≠ Dsc.io ds) ∧ (∀ ds, x4 ≠ Dsc.io ds) ∧ (∀ ds, x5 ≠ Dsc.io ds) ∧ Γ = [.dat (.scr (ns.map .int)), .dat (.int 1), .own [.int c], x3, x4, x5], ⟨c, .un, .un, .un, (by intro ds e; cases e), (by intro ds e; cases e), (by intro ds e; cases e), rfl⟩, fun i d Γ2 hd hJ => ?_, fun Γ2 hJ => ?_⟩
    · obtain ⟨c, x3, x4, x5, h3, h4, h5, rfl⟩ := hJ
      have hi : i < ms.length := by
        have := (List.getElem?_eq_some_iff.mp hd).1
        rw [enumD_len, List.length_map] at this
        exact this
      have e0 : ms[i]? = some ms[i] := List.getElem?_eq_getElem hi
      rw [enumD_get (show (ms.map D.int)[i]? = some (.int ms[i]) by rw [List.getElem?_map, e0]; rfl)] at hd
      cases hd
      refine gw_tup rfl rfl ?_
      refine gsw_cons ?_
      refine gw_name 3 sc.nd rfl (canSet_of rfl h3) ?_
      refine gsw_cons ?_
      refine gw_name 4 sc.nd rfl (canSet_of rfl h4) ?_
      refine gsw_nil ?_
      refine ssw_cons ?_
      refine sw_set 5 sc.nd ?_
      refine ew_mod ?_
      refine ew_int1 B.int ?_
      refine ew_name 3 rfl (by nofun) ?_
      refine .inl ⟨_, rfl, ?_⟩
      refine ew_name 1 rfl (by nofun) ?_
      refine ⟨_, _, rfl, rfl, (by decide), ?_⟩
      rw [Int.emod_one]
      refine ⟨_, rfl, canSet_of rfl h5, ?_⟩
      show SsW _ _ [.dat (.scr (ns.map .int)), .dat (.int 1), .own [.int c], .dat (.int ((i : Nat) : Int)), .dat (.int ms[i]), .dat (.int 0)] _
      refine ssw_one ?_
      refine sw_asg ?_
      refine ew_add ?_
      refine ew_ix ?_
      refine ew_name 2 rfl (by nofun) ?_
      refine ew_name 5 rfl (by nofun) ?_
      refine ⟨_, _, _, rfl, rfl, rfl, ?_⟩
      refine ew_mul ?_
      refine ew_name 4 rfl (by nofun) ?_
      refine ew_add ?_
      refine ew_name 3 rfl (by nofun) ?_
      refine ew_int ?_
      refine ⟨_, _, rfl, rfl, ?_⟩
      refine ⟨_, _, rfl, rfl, .inr ⟨by omega, by omega⟩, ?_⟩
      refine ⟨_, _, rfl, rfl, ?_⟩
      refine gw_sub rfl ?_
      refine ew_name 2 rfl (by nofun) ?_
      refine ⟨_, rfl, ?_⟩
      refine ew_name 5 rfl (by nofun) ?_
      refine ⟨_, _, _, rfl, rfl, rfl, ?_⟩
      exact ⟨_, .dat (.int ((i : Nat) : Int)), .dat (.int ms[i]), .dat (.int 0), (by intro ds e; cases e), (by intro ds e; cases e), (by intro ds e; cases e), rfl⟩
    · obtain ⟨c, x3, x4, x5, h3, h4, h5, rfl⟩ := hJ
      refine ssw_one ?_
      refine sw_ret ?_
      refine ew_name 2 rfl (by nofun) ?_
      exact ⟨_, rfl, h c⟩
  refine ssw_cons ?_
  refine sw_set 2 sc.nd ?_
  refine ew_orL ?_
  refine ew_list B.list ?_
  refine ew_slL ?_
  refine ew_name 0 rfl (by nofun) ?_
  refine ow_none ?_
  refine ow_some ?_
  refine ew_name 1 rfl (by nofun) ?_
  refine ⟨_, rfl, ?_⟩
  refine ⟨_, .inl rfl, ?_⟩
  refine ⟨_, rfl, ?_⟩
  refine ⟨_, rfl, fun hne => ?_, fun hnil => ?_⟩
  · cases ns with
    | nil => exact absurd rfl hne
    | cons c ns => exact ⟨_, rfl, rfl, go c⟩
  · refine ew_one ?_
    refine ew_lst ?_
    refine aw_cons ?_
    refine ew_int ?_
    refine aw_nil ?_
    refine ⟨_, rfl, by decide, ?_⟩
    exact ⟨_, rfl, rfl, go 0⟩
theorem sc_law_of : FnScope ["tin", "goods_so"] ["tin", "goods_so"] (defScope (topS 41)) := ⟨rfl, rfl, rfl, by decide +kernel, rfl, by decide +kernel, by decide +kernel⟩
theorem ok_law_of {f : Addr} {fd : FuncData} (F : Fun K "_law_of" "_law_of" (topS 41) f fd) (B : Bs mg) (C_law_take : C8.Cal P w K mg base 1 "_law_take" (spW K s_law_take) []) : FnOk P w K mg base CX0 2 f fd ["tin", "goods_so"] (spW K s_law_of) := by
  have sc := sc_law_of
  refine fn_w F sc (fun as P h => ?_) fun cdv A outer s H E hr as R h => ?_
  · obtain ⟨t, gs, m, rfl, h⟩ := h
    rfl
  obtain ⟨t, gs, m, rfl, ⟨ht, hm, hg, hg'⟩, h⟩ := h
  show SsW _ _ [.io (tinD t), .dat (.lst gs)] _
  refine ssw_one ?_
  refine sw_ret ?_
  refine ew_ix ?_
  refine ew_name 1 rfl (by nofun) ?_
  refine ew_call C_law_take hr (by decide) ?_
  refine aw_cons ?_
  refine ew_name 0 rfl (by nofun) ?_
  refine aw_cons ?_
  refine ew_len B.len ?_
  refine ew_name 1 rfl (by nofun) ?_
  refine ⟨_, rfl, ?_⟩
  refine aw_nil ?_
  refine ⟨_, rfl, (by show ([0] : List Nat).Nodup; decide), ⟨t, _, m, rfl, ⟨ht, hm, by omega, by omega⟩, fun r t' h0 h1 ht' => ⟨trivial, ?_⟩⟩⟩
  have hr' : r.toNat < gs.length := by omega
  have ha : atI gs r = some gs[r.toNat] := by
    have := atI_nat (List.getElem?_eq_getElem hr')
    rw [Int.toNat_of_nonneg h0] at this
    exact this
  refine ⟨_, _, _, rfl, rfl, ha, ?_⟩
  exact ⟨_, rfl, h _ t' (List.getElem_mem hr') ht'⟩
theorem sc_law_pick : FnScope ["tin", "goods_so", "count_so", "pool_so", "found", "lap"] ["tin", "goods_so", "count_so"] (defScope (topS 42)) := ⟨rfl, rfl, rfl, by decide +kernel, rfl, by decide +kernel, by decide +kernel⟩
theorem ok_law_pick {f : Addr} {fd : FuncData} (F : Fun K "_law_pick" "_law_pick" (topS 42) f fd) (B : Bs mg) (C_law_take : C8.Cal P w K mg base 1 "_law_take" (spW K s_law_take) []) : FnOk P w K mg base CX0 2 f fd ["tin", "goods_so", "count_so"] (spW K s_law_pick) := by
  have sc := sc_law_pick
  refine fn_w F sc (fun as P h => ?_) fun cdv A outer s H E hr as R h => ?_
  · obtain ⟨t, gs, c, m, rfl, h⟩ := h
    rfl
  obtain ⟨t, gs, c, m, rfl, ⟨ht, hm, hg, hc0, hc1⟩, h⟩ := h
  show SsW _ _ [.io (tinD t), .dat (.lst (gs.map .int)), .dat (.int c), .un, .un, .un] _
  refine ssw_cons ?_
  refine sw_par 3 4 rfl sc.nd ?_
  refine ew_list B.list ?_
  refine ew_name 1 rfl (by nofun) ?_
  refine ⟨_, rfl, ?_⟩
  refine ew_lst ?_
  refine aw_nil ?_
  refine ⟨_, rfl, by decide, ?_⟩
  refine ⟨_, _, rfl, rfl, rfl, rfl, ?_⟩
  refine ssw_cons ?_
  refine sw_for rfl PassesOwn.never ?_
  refine iw_range1 B.range ?_
  refine ew_min2 rfl B.min ?_
  refine ew_int1 B.int ?_
  refine ew_name 2 rfl (by nofun) ?_
  refine .inl ⟨_, rfl, ?_⟩
  refine ew_len B.len ?_
  refine ew_name 3 rfl (by nofun) ?_
  refine ⟨_, rfl, ?_⟩
  refine ⟨_, _, rfl, rfl, ?_⟩
  rw [List.length_map, if_neg (by omega)]
  refine ⟨_, rfl, by omega, by omega, ?_⟩
  refine ⟨fun i Γ => ∃ (t' : Tin) (ns rest : List Int) (x5 : Dsc), (∀ ds, x5 ≠ Dsc.io ds) ∧ Γ = [.io (tinD t'), .dat (.lst (gs.map .int)), .dat (.int c), .own (rest.map .int), .own (ns.map .int), x5] ∧ okT (m + i) t' ∧ (ns ++ rest).Perm gs ∧ ns.length = i, ⟨t, [], gs, .un, (by intro ds e; cases e), rfl, ht.mono (by omega), List.Perm.refl _, rfl⟩, fun i d Γ2 hd hJ => ?_, fun Γ2 hJ => ?_⟩
  · obtain ⟨t', ns, rest, x5, h5, rfl, ht', hp, hni⟩ := hJ
    have hi : i < c.toNat := by
      have := (List.getElem?_eq_some_iff.mp hd).1
      rw [rangeD_len] at this
      exact this
    have hle := hp.length_eq
    rw [List.length_append] at hle
    refine gw_name 5 sc.nd rfl (canSet_of rfl h5) ?_
    refine ssw_one ?_
    refine sw_expr ?_
    refine ew_append ?_
    refine ew_name 4 rfl (by nofun) ?_
    refine ⟨_, rfl, ?_⟩
    refine ew_popAt ?_
    refine ew_name 3 rfl (by nofun) ?_
    refine ⟨_, rfl, ?_⟩
    refine ew_call C_law_take hr (by decide) ?_
    refine aw_cons ?_
    refine ew_name 0 rfl (by nofun) ?_
    refine aw_cons ?_
    refine ew_len B.len ?_
    refine ew_name 3 rfl (by nofun) ?_
    refine ⟨_, rfl, ?_⟩
    refine aw_nil ?_
    rw [List.length_map]
    refine ⟨_, rfl, (by show ([0] : List Nat).Nodup; decide), ⟨t', _, m + i, rfl, ⟨ht', by omega, by omega, by omega⟩, fun r t'' h0 h1 ht'' => ⟨trivial, ?_⟩⟩⟩
    have hr' : r.toNat < rest.length := by omega
    have hsq : seqIndex? r rest.length = some r.toNat := (ixN_seq (ixN_of h0 h1)).1
    refine ⟨_, _, .int rest[r.toNat], _, rfl, rfl, by omega, by omega, by rw [List.length_map]; exact hsq, by rw [List.getElem?_map, List.getElem?_eq_getElem hr']; rfl, ?_⟩
    refine ⟨_, _, rfl, rfl, by rw [List.length_map]; omega, ?_⟩
    refine ⟨t'', ns ++ [rest[r.toNat]], rest.eraseIdx r.toNat, .dat d, (by intro ds e; cases e), ?_, ht''.mono (by omega), ?_, by rw [List.length_append, hni]; rfl⟩
    · rw [List.map_append, ← map_erase]
      rfl
    · refine List.Perm.trans ?_ hp
      rw [List.append_assoc]
      refine List.Perm.append_left ns ?_
      exact erase_perm rest _ hr'
  · obtain ⟨t', ns, rest, x5, h5, rfl, ht', hp, hni⟩ := hJ
    rw [rangeD_len] at hni ht'
    refine ssw_one ?_
    refine sw_ret ?_
    refine ew_name 4 rfl (by nofun) ?_
    exact ⟨_, rfl, h ns rest t' hp (ht'.mono (by omega))⟩
end
end V85

namespace V85
open PySem PySem.Spec PyProof.Rows L2 VX
def Ld : Nat → D → Prop
  | 0, d => match d with
    | .tup _ => False
    | .lst _ => False
    | .scr _ => False
    | _ => True
  | m + 1, d => match d with
    | .tup ts => ts.length < 1000000 ∧ ∀ t ∈ ts, Ld m t
    | .lst ts => ts.length < 1000000 ∧ ∀ t ∈ ts, Ld m t
    | .scr _ => False
    | _ => True
def s_law_same (m : Nat) : Spc := fun as P => ∃ d, as = [.dat d, .dat d] ∧ Ld m d ∧ P (.dat (.bl true)) []
theorem zip_self : ∀ ts : List D, zipD ts ts = ts.map fun x => .tup [x, x]
  | [] => rfl
  | t :: ts => by
    have := zip_self ts
    unfold zipD at this ⊢
    rw [List.zipWith_cons_cons, this]
    rfl
section
variable {P : Program} {w : World} {K : PySem.W.Frag} {mg : Str → Option Value} {base : Heap}
theorem sc_law_same : FnScope ["got", "due", "mine", "its"] ["got", "due"] (defScope (topS 43)) := ⟨rfl, rfl, rfl, by decide +kernel, rfl, by decide +kernel, by decide +kernel⟩
theorem ok_law_same {f : Addr} {fd : FuncData} (F : Fun K "_law_same" "_law_same" (topS 43) f fd) (B : Bs mg) (hm : mg "_law_same" = some (.ref f)) (kp : PySem.W.keepIn K (.ref f) = true) (b : Binds K fd ["got", "due"] []) : ∀ m : Nat, FnOk P w K mg base CX0 (m + 1) f fd ["got", "due"] (spW K (s_law_same m)) := by
  intro m
  induction m with
  | zero =>
    have sc := sc_law_same
    refine fn_w F sc (fun as P h => ?_) fun cdv A outer s H E hr as R h => ?_
    · obtain ⟨d, rfl, h⟩ := h
      rfl
    obtain ⟨d, rfl, ht, h⟩ := h
    cases d with
    | scr ts => exact False.elim ht
    | tup ts => exact False.elim ht
    | lst ts => exact False.elim ht
    | non =>
      show SsW _ _ [.dat (.non), .dat (.non), .un, .un] _
      refine ssw_cons ?_
      refine sw_if ?_
      refine tw_val ?_
      refine ew_isi2 (S := "list") (T := "tuple") B.isinstance B.list rfl B.tuple rfl ?_
      refine ew_name 1 rfl (by nofun) ?_
      refine ⟨_, _, rfl, rfl, ?_⟩
      refine ⟨_, rfl, ?_⟩
      refine ⟨fun hb => (nomatch hb), fun hb => ?_⟩
      refine ssw_nil ?_
      refine ssw_cons ?_
      refine sw_if ?_
      refine tw_w ?_
      refine ww_or ?_
      refine tw_isN ?_
      refine ew_name 1 rfl (by nofun) ?_
      refine ew_non ?_
      refine ⟨_, rfl, rfl, ?_⟩
      refine ⟨fun hb => ?_, fun hb => (nomatch hb)⟩
      refine ⟨fun hb => ?_, fun hb => (nomatch hb)⟩
      refine ssw_one ?_
      refine sw_ret ?_
      refine ew_and ?_
      refine ew_eq hr ?_
      refine ew_name 0 rfl (by nofun) ?_
      refine ew_name 1 rfl (by nofun) ?_
      refine .inl ⟨_, _, _, _, rfl, rfl, rfl, rfl, rfl, ?_⟩
      rw [decide_eq_true rfl]
      refine ⟨_, rfl, fun hb => ?_, fun hb => (nomatch hb)⟩
      refine ew_and ?_
      refine ew_eq hr ?_
      refine ew_isi (T := "bool") B.isinstance B.bool rfl ?_
      refine ew_name 0 rfl (by nofun) ?_
      refine ⟨_, rfl, ?_⟩
      refine ew_isi (T := "bool") B.isinstance B.bool rfl ?_
      refine ew_name 1 rfl (by nofun) ?_
      refine ⟨_, rfl, ?_⟩
      refine .inl ⟨_, _, _, _, rfl, rfl, rfl, rfl, rfl, ?_⟩
      rw [decide_eq_true rfl]
      refine ⟨_, rfl, fun hb => ?_, fun hb => (nomatch hb)⟩
      refine ew_one ?_
      refine ew_eq hr ?_
      refine ew_isN ?_
      refine ew_name 0 rfl (by nofun) ?_
      refine ew_non ?_
      refine ⟨_, rfl, rfl, ?_⟩
      refine ew_isN ?_
      refine ew_name 1 rfl (by nofun) ?_
      refine ew_non ?_
      refine ⟨_, rfl, rfl, ?_⟩
      refine .inl ⟨_, _, _, _, rfl, rfl, rfl, rfl, rfl, ?_⟩
      rw [decide_eq_true rfl]
      exact ⟨_, rfl, h⟩
    | bl q =>
      show SsW _ _ [.dat (.bl q), .dat (.bl q), .un, .un] _
      refine ssw_cons ?_
      refine sw_if ?_
      refine tw_val ?_
      refine ew_isi2 (S := "list") (T := "tuple") B.isinstance B.list rfl B.tuple rfl ?_
      refine ew_name 1 rfl (by nofun) ?_
      refine ⟨_, _, rfl, rfl, ?_⟩
      refine ⟨_, rfl, ?_⟩
      refine ⟨fun hb => (nomatch hb), fun hb => ?_⟩
      refine ssw_nil ?_
      refine ssw_cons ?_
      refine sw_if ?_
      refine tw_w ?_
      refine ww_or ?_
      refine tw_isN ?_
      refine ew_name 1 rfl (by nofun) ?_
      refine ew_non ?_
      refine ⟨_, rfl, rfl, ?_⟩
      refine ⟨fun hb => (nomatch hb), fun hb => ?_⟩
      refine ww_one ?_
      refine tw_val ?_
      refine ew_isi2 (S := "bool") (T := "str") B.isinstance B.bool rfl B.str rfl ?_
      refine ew_name 1 rfl (by nofun) ?_
      refine ⟨_, _, rfl, rfl, ?_⟩
      refine ⟨_, rfl, ?_⟩
      refine ⟨fun hb => ?_, fun hb => (nomatch hb)⟩
      refine ssw_one ?_
      refine sw_ret ?_
      refine ew_and ?_
      refine ew_eq hr ?_
      refine ew_name 0 rfl (by nofun) ?_
      refine ew_name 1 rfl (by nofun) ?_
      refine .inl ⟨_, _, _, _, rfl, rfl, rfl, rfl, rfl, ?_⟩
      rw [decide_eq_true rfl]
      refine ⟨_, rfl, fun hb => ?_, fun hb => (nomatch hb)⟩
      refine ew_and ?_
      refine ew_eq hr ?_
      refine ew_isi (T := "bool") B.isinstance B.bool rfl ?_
      refine ew_name 0 rfl (by nofun) ?_
      refine ⟨_, rfl, ?_⟩
      refine ew_isi (T := "bool") B.isinstance B.bool rfl ?_
      refine ew_name 1 rfl (by nofun) ?_
      refine ⟨_, rfl, ?_⟩
      refine .inl ⟨_, _, _, _, rfl, rfl, rfl, rfl, rfl, ?_⟩
      rw [decide_eq_true rfl]
      refine ⟨_, rfl, fun hb => ?_, fun hb => (nomatch hb)⟩
      refine ew_one ?_
      refine ew_eq hr ?_
      refine ew_isN ?_
      refine ew_name 0 rfl (by nofun) ?_
      refine ew_non ?_
      refine ⟨_, rfl, rfl, ?_⟩
      refine ew_isN ?_
      refine ew_name 1 rfl (by nofun) ?_
      refine ew_non ?_
      refine ⟨_, rfl, rfl, ?_⟩
      refine .inl ⟨_, _, _, _, rfl, rfl, rfl, rfl, rfl, ?_⟩
      rw [decide_eq_true rfl]
      exact ⟨_, rfl, h⟩
    | int q =>
      show SsW _ _ [.dat (.int q), .dat (.int q), .un, .un] _
      refine ssw_cons ?_
      refine sw_if ?_
      refine tw_val ?_
      refine ew_isi2 (S := "list") (T := "tuple") B.isinstance B.list rfl B.tuple rfl ?_
      refine ew_name 1 rfl (by nofun) ?_
      refine ⟨_, _, rfl, rfl, ?_⟩
      refine ⟨_, rfl, ?_⟩
      refine ⟨fun hb => (nomatch hb), fun hb => ?_⟩
      refine ssw_nil ?_
      refine ssw_cons ?_
      refine sw_if ?_
      refine tw_w ?_
      refine ww_or ?_
      refine tw_isN ?_
      refine ew_name 1 rfl (by nofun) ?_
      refine ew_non ?_
      refine ⟨_, rfl, rfl, ?_⟩
      refine ⟨fun hb => (nomatch hb), fun hb => ?_⟩
      refine ww_one ?_
      refine tw_val ?_
      refine ew_isi2 (S := "bool") (T := "str") B.isinstance B.bool rfl B.str rfl ?_
      refine ew_name 1 rfl (by nofun) ?_
      refine ⟨_, _, rfl, rfl, ?_⟩
      refine ⟨_, rfl, ?_⟩
      refine ⟨fun hb => (nomatch hb), fun hb => ?_⟩
      refine ssw_nil ?_
      refine ssw_one ?_
      refine sw_ret ?_
      refine ew_and ?_
      refine ew_isi (T := "int") B.isinstance B.int rfl ?_
      refine ew_name 0 rfl (by nofun) ?_
      refine ⟨_, rfl, ?_⟩
      refine ⟨_, rfl, fun hb => ?_, fun hb => (nomatch hb)⟩
      refine ew_and ?_
      refine ew_not ?_
      refine ew_isi (T := "bool") B.isinstance B.bool rfl ?_
      refine ew_name 0 rfl (by nofun) ?_
      refine ⟨_, rfl, ?_⟩
      refine ⟨_, rfl, ?_⟩
      refine ⟨_, rfl, fun hb => ?_, fun hb => (nomatch hb)⟩
      refine ew_one ?_
      refine ew_eq hr ?_
      refine ew_name 0 rfl (by nofun) ?_
      refine ew_name 1 rfl (by nofun) ?_
      refine .inl ⟨_, _, _, _, rfl, rfl, rfl, rfl, rfl, ?_⟩
      rw [decide_eq_true rfl]
      exact ⟨_, rfl, h⟩
    | str q =>
      show SsW _ _ [.dat (.str q), .dat (.str q), .un, .un] _
      refine ssw_cons ?_
      refine sw_if ?_
      refine tw_val ?_
      refine ew_isi2 (S := "list") (T := "tuple") B.isinstance B.list rfl B.tuple rfl ?_
      refine ew_name 1 rfl (by nofun) ?_
      refine ⟨_, _, rfl, rfl, ?_⟩
      refine ⟨_, rfl, ?_⟩
      refine ⟨fun hb => (nomatch hb), fun hb => ?_⟩
      refine ssw_nil ?_
      refine ssw_cons ?_
      refine sw_if ?_
      refine tw_w ?_
      refine ww_or ?_
      refine tw_isN ?_
      refine ew_name 1 rfl (by nofun) ?_
      refine ew_non ?_
      refine ⟨_, rfl, rfl, ?_⟩
      refine ⟨fun hb => (nomatch hb), fun hb => ?_⟩
      refine ww_one ?_
      refine tw_val ?_
      refine ew_isi2 (S := "bool") (T := "str") B.isinstance B.bool rfl B.str rfl ?_
      refine ew_name 1 rfl (by nofun) ?_
      refine ⟨_, _, rfl, rfl, ?_⟩
      refine ⟨_, rfl, ?_⟩
      refine ⟨fun hb => ?_, fun hb => (nomatch hb)⟩
      refine ssw_one ?_
      refine sw_ret ?_
      refine ew_and ?_
      refine ew_eq hr ?_
      refine ew_name 0 rfl (by nofun) ?_
      refine ew_name 1 rfl (by nofun) ?_
      refine .inl ⟨_, _, _, _, rfl, rfl, rfl, rfl, rfl, ?_⟩
      rw [decide_eq_true rfl]
      refine ⟨_, rfl, fun hb => ?_, fun hb => (nomatch hb)⟩
      refine ew_and ?_
      refine ew_eq hr ?_
      refine ew_isi (T := "bool") B.isinstance B.bool rfl ?_
      refine ew_name 0 rfl (by nofun) ?_
      refine ⟨_, rfl, ?_⟩
      refine ew_isi (T := "bool") B.isinstance B.bool rfl ?_
      refine ew_name 1 rfl (by nofun) ?_
      refine ⟨_, rfl, ?_⟩
      refine .inl ⟨_, _, _, _, rfl, rfl, rfl, rfl, rfl, ?_⟩
      rw [decide_eq_true rfl]
      refine ⟨_, rfl, fun hb => ?_, fun hb => (nomatch hb)⟩
      refine ew_one ?_
      refine ew_eq hr ?_
      refine ew_isN ?_
      refine ew_name 0 rfl (by nofun) ?_
      refine ew_non ?_
      refine ⟨_, rfl, rfl, ?_⟩
      refine ew_isN ?_
      refine ew_name 1 rfl (by nofun) ?_
      refine ew_non ?_
      refine ⟨_, rfl, rfl, ?_⟩
      refine .inl ⟨_, _, _, _, rfl, rfl, rfl, rfl, rfl, ?_⟩
      rw [decide_eq_true rfl]
      exact ⟨_, rfl, h⟩
  | succ m ih =>
    have C_law_same := cal_w ih hm kp b
    have sc := sc_law_same
    refine fn_w F sc (fun as P h => ?_) fun cdv A outer s H E hr as R h => ?_
    · obtain ⟨d, rfl, h⟩ := h
      rfl
    obtain ⟨d, rfl, ht, h⟩ := h
    cases d with
    | scr ts => exact False.elim ht
    | non =>
      show SsW _ _ [.dat (.non), .dat (.non), .un, .un] _
      refine ssw_cons ?_
      refine sw_if ?_
      refine tw_val ?_
      refine ew_isi2 (S := "list") (T := "tuple") B.isinstance B.list rfl B.tuple rfl ?_
      refine ew_name 1 rfl (by nofun) ?_
      refine ⟨_, _, rfl, rfl, ?_⟩
      refine ⟨_, rfl, ?_⟩
      refine ⟨fun hb => (nomatch hb), fun hb => ?_⟩
      refine ssw_nil ?_
      refine ssw_cons ?_
      refine sw_if ?_
      refine tw_w ?_
      refine ww_or ?_
      refine tw_isN ?_
      refine ew_name 1 rfl (by nofun) ?_
      refine ew_non ?_
      refine ⟨_, rfl, rfl, ?_⟩
      refine ⟨fun hb => ?_, fun hb => (nomatch hb)⟩
      refine ⟨fun hb => ?_, fun hb => (nomatch hb)⟩
      refine ssw_one ?_
      refine sw_ret ?_
      refine ew_and ?_
      refine ew_eq hr ?_
      refine ew_name 0 rfl (by nofun) ?_
      refine ew_name 1 rfl (by nofun) ?_
      refine .inl ⟨_, _, _, _, rfl, rfl, rfl, rfl, rfl, ?_⟩
      rw [decide_eq_true rfl]
      refine ⟨_, rfl, fun hb => ?_, fun hb => (nomatch hb)⟩
      refine ew_and ?_
      refine ew_eq hr ?_
      refine ew_isi (T := "bool") B.isinstance B.bool rfl ?_
      refine ew_name 0 rfl (by nofun) ?_
      refine ⟨_, rfl, ?_⟩
      refine ew_isi (T := "bool") B.isinstance B.bool rfl ?_
      refine ew_name 1 rfl (by nofun) ?_
      refine ⟨_, rfl, ?_⟩
      refine .inl ⟨_, _, _, _, rfl, rfl, rfl, rfl, rfl, ?_⟩
      rw [decide_eq_true rfl]
      refine ⟨_, rfl, fun hb => ?_, fun hb => (nomatch hb)⟩
      refine ew_one ?_
      refine ew_eq hr ?_
      refine ew_isN ?_
      refine ew_name 0 rfl (by nofun) ?_
      refine ew_non ?_
      refine ⟨_, rfl, rfl, ?_⟩
      refine ew_isN ?_
      refine ew_name 1 rfl (by nofun) ?_
      refine ew_non ?_
      refine ⟨_, rfl, rfl, ?_⟩
      refine .inl ⟨_, _, _, _, rfl, rfl, rfl, rfl, rfl, ?_⟩
      rw [decide_eq_true rfl]
      exact ⟨_, rfl, h⟩
    | bl q =>
      show SsW _ _ [.dat (.bl q), .dat (.bl q), .un, .un] _
      refine ssw_cons ?_
      refine sw_if ?_
      refine tw_val ?_
      refine ew_isi2 (S := "list") (T := "tuple") B.isinstance B.list rfl B.tuple rfl ?_
      refine ew_name 1 rfl (by nofun) ?_
      refine ⟨_, _, rfl, rfl, ?_⟩
      refine ⟨_, rfl, ?_⟩
      refine ⟨fun hb => (nomatch hb), fun hb => ?_⟩
      refine ssw_nil ?_
      refine ssw_cons ?_
      refine sw_if ?_
      refine tw_w ?_
      refine ww_or ?_
      refine tw_isN ?_
      refine ew_name 1 rfl (by nofun) ?_
      refine ew_non ?_
      refine ⟨_, rfl, rfl, ?_⟩
      refine ⟨fun hb => (nomatch hb), fun hb => ?_⟩
      refine ww_one ?_
      refine tw_val ?_
      refine ew_isi2 (S := "bool") (T := "str") B.isinstance B.bool rfl B.str rfl ?_
      refine ew_name 1 rfl (by nofun) ?_
      refine ⟨_, _, rfl, rfl, ?_⟩
      refine ⟨_, rfl, ?_⟩
      refine ⟨fun hb => ?_, fun hb => (nomatch hb)⟩
      refine ssw_one ?_
      refine sw_ret ?_
      refine ew_and ?_
      refine ew_eq hr ?_
      refine ew_name 0 rfl (by nofun) ?_
      refine ew_name 1 rfl (by nofun) ?_
      refine .inl ⟨_, _, _, _, rfl, rfl, rfl, rfl, rfl, ?_⟩
      rw [decide_eq_true rfl]
      refine ⟨_, rfl, fun hb => ?_, fun hb => (nomatch hb)⟩
      refine ew_and ?_
      refine ew_eq hr ?_
      refine ew_isi (T := "bool") B.isinstance B.bool rfl ?_
      refine ew_name 0 rfl (by nofun) ?_
      refine ⟨_, rfl, ?_⟩
      refine ew_isi (T := "bool") B.isinstance B.bool rfl ?_
      refine ew_name 1 rfl (by nofun) ?_
      refine ⟨_, rfl, ?_⟩
      refine .inl ⟨_, _, _, _, rfl, rfl, rfl, rfl, rfl, ?_⟩
      rw [decide_eq_true rfl]
      refine ⟨_, rfl, fun hb => ?_, fun hb => (nomatch hb)⟩
      refine ew_one ?_
      refine ew_eq hr ?_
      refine ew_isN ?_
      refine ew_name 0 rfl (by nofun) ?_
      refine ew_non ?_
      refine ⟨_, rfl, rfl, ?_⟩
      refine ew_isN ?_
      refine ew_name 1 rfl (by nofun) ?_
      refine ew_non ?_
      refine ⟨_, rfl, rfl, ?_⟩
      refine .inl ⟨_, _, _, _, rfl, rfl, rfl, rfl, rfl, ?_⟩
      rw [decide_eq_true rfl]
      exact ⟨_, rfl, h⟩
    | int q =>
      show SsW _ _ [.dat (.int q), .dat (.int q), .un, .un] _
      refine ssw_cons ?_
      refine sw_if ?_
      refine tw_val ?_
      refine ew_isi2 (S := "list") (T := "tuple") B.isinstance B.list rfl B.tuple rfl ?_
      refine ew_name 1 rfl (by nofun) ?_
      refine ⟨_, _, rfl, rfl, ?_⟩
      refine ⟨_, rfl, ?_⟩
      refine ⟨fun hb => (nomatch hb), fun hb => ?_⟩
      refine ssw_nil ?_
      refine ssw_cons ?_
      refine sw_if ?_
      refine tw_w ?_
      refine ww_or ?_
      refine tw_isN ?_
      refine ew_name 1 rfl (by nofun) ?_
      refine ew_non ?_
      refine ⟨_, rfl, rfl, ?_⟩
      refine ⟨fun hb => (nomatch hb), fun hb => ?_⟩
      refine ww_one ?_
      refine tw_val ?_
      refine ew_isi2 (S := "bool") (T := "str") B.isinstance B.bool rfl B.str rfl ?_
      refine ew_name 1 rfl (by nofun) ?_
      refine ⟨_, _, rfl, rfl, ?_⟩
      refine ⟨_, rfl, ?_⟩
      refine ⟨fun hb => (nomatch hb), fun hb => ?_⟩
      refine ssw_nil ?_
      refine ssw_one ?_
      refine sw_ret ?_
      refine ew_and ?_
      refine ew_isi (T := "int") B.isinstance B.int rfl ?_
      refine ew_name 0 rfl (by nofun) ?_
      refine ⟨_, rfl, ?_⟩
      refine ⟨_, rfl, fun hb => ?_, fun hb => (nomatch hb)⟩
      refine ew_and ?_
      refine ew_not ?_
      refine ew_isi (T := "bool") B.isinstance B.bool rfl ?_
      refine ew_name 0 rfl (by nofun) ?_
      refine ⟨_, rfl, ?_⟩
      refine ⟨_, rfl, ?_⟩
      refine ⟨_, rfl, fun hb => ?_, fun hb => (nomatch hb)⟩
      refine ew_one ?_
      refine ew_eq hr ?_
      refine ew_name 0 rfl (by nofun) ?_
      refine ew_name 1 rfl (by nofun) ?_
      refine .inl ⟨_, _, _, _, rfl, rfl, rfl, rfl, rfl, ?_⟩
      rw [decide_eq_true rfl]
      exact ⟨_, rfl, h⟩
    | str q =>
      show SsW _ _ [.dat (.str q), .dat (.str q), .un, .un] _
      refine ssw_cons ?_
      refine sw_if ?_
      refine tw_val ?_
      refine ew_isi2 (S := "list") (T := "tuple") B.isinstance B.list rfl B.tuple rfl ?_
      refine ew_name 1 rfl (by nofun) ?_
      refine ⟨_, _, rfl, rfl, ?_⟩
      refine ⟨_, rfl, ?_⟩
      refine ⟨fun hb => (nomatch hb), fun hb => ?_⟩
      refine ssw_nil ?_
      refine ssw_cons ?_
      refine sw_if ?_
      refine tw_w ?_
      refine ww_or ?_
      refine tw_isN ?_
      refine ew_name 1 rfl (by nofun) ?_
      refine ew_non ?_
      refine ⟨_, rfl, rfl, ?_⟩
      refine ⟨fun hb => (nomatch hb), fun hb => ?_⟩
      refine ww_one ?_
      refine tw_val ?_
      refine ew_isi2 (S := "bool") (T := "str") B.isinstance B.bool rfl B.str rfl ?_
      refine ew_name 1 rfl (by nofun) ?_
      refine ⟨_, _, rfl, rfl, ?_⟩
      refine ⟨_, rfl, ?_⟩
      refine ⟨fun hb => ?_, fun hb => (nomatch hb)⟩
      refine ssw_one ?_
      refine sw_ret ?_
      refine ew_and ?_
      refine ew_eq hr ?_
      refine ew_name 0 rfl (by nofun) ?_
      refine ew_name 1 rfl (by nofun) ?_
      refine .inl ⟨_, _, _, _, rfl, rfl, rfl, rfl, rfl, ?_⟩
      rw [decide_eq_true rfl]
      refine ⟨_, rfl, fun hb => ?_, fun hb => (nomatch hb)⟩
      refine ew_and ?_
      refine ew_eq hr ?_
      refine ew_isi (T := "bool") B.isinstance B.bool rfl ?_
      refine ew_name 0 rfl (by nofun) ?_
      refine ⟨_, rfl, ?_⟩
      refine ew_isi (T := "bool") B.isinstance B.bool rfl ?_
      refine ew_name 1 rfl (by nofun) ?_
      refine ⟨_, rfl, ?_⟩
      refine .inl ⟨_, _, _, _, rfl, rfl, rfl, rfl, rfl, ?_⟩
      rw [decide_eq_true rfl]
      refine ⟨_, rfl, fun hb => ?_, fun hb => (nomatch hb)⟩
      refine ew_one ?_
      refine ew_eq hr ?_
      refine ew_isN ?_
      refine ew_name 0 rfl (by nofun) ?_
      refine ew_non ?_
      refine ⟨_, rfl, rfl, ?_⟩
      refine ew_isN ?_
      refine ew_name 1 rfl (by nofun) ?_
      refine ew_non ?_
      refine ⟨_, rfl, rfl, ?_⟩
      refine .inl ⟨_, _, _, _, rfl, rfl, rfl, rfl, rfl, ?_⟩
      rw [decide_eq_true rfl]
      exact ⟨_, rfl, h⟩
    | tup ts =>
      obtain ⟨hl, ht⟩ : ts.length < 1000000 ∧ ∀ t ∈ ts, Ld m t := ht
      show SsW _ _ [.dat (.tup ts), .dat (.tup ts), .un, .un] _
      refine ssw_cons ?_
      refine sw_if ?_
      refine tw_val ?_
      refine ew_isi2 (S := "list") (T := "tuple") B.isinstance B.list rfl B.tuple rfl ?_
      refine ew_name 1 rfl (by nofun) ?_
      refine ⟨_, _, rfl, rfl, ?_⟩
      refine ⟨_, rfl, ?_⟩
      refine ⟨fun hb => ?_, fun hb => (nomatch hb)⟩
      refine ssw_cons ?_
      refine sw_if ?_
      refine tw_w ?_
      refine ww_or ?_
      refine tw_ne ?_
      refine ew_isi (T := "list") B.isinstance B.list rfl ?_
      refine ew_name 0 rfl (by nofun) ?_
      refine ⟨_, rfl, ?_⟩
      refine ew_isi (T := "list") B.isinstance B.list rfl ?_
      refine ew_name 1 rfl (by nofun) ?_
      refine ⟨_, rfl, ?_⟩
      refine ⟨_, _, _, _, rfl, rfl, rfl, rfl, rfl, ?_⟩
      rw [decide_eq_true rfl]
      refine ⟨fun hb => (nomatch hb), fun hb => ?_⟩
      refine ww_one ?_
      refine tw_ne ?_
      refine ew_isi (T := "tuple") B.isinstance B.tuple rfl ?_
      refine ew_name 0 rfl (by nofun) ?_
      refine ⟨_, rfl, ?_⟩
      refine ew_isi (T := "tuple") B.isinstance B.tuple rfl ?_
      refine ew_name 1 rfl (by nofun) ?_
      refine ⟨_, rfl, ?_⟩
      refine ⟨_, _, _, _, rfl, rfl, rfl, rfl, rfl, ?_⟩
      rw [decide_eq_true rfl]
      refine ⟨fun hb => (nomatch hb), fun hb => ?_⟩
      refine ssw_nil ?_
      refine ssw_one ?_
      refine sw_ret ?_
      refine ew_and ?_
      refine ew_eq hr ?_
      refine ew_len B.len ?_
      refine ew_name 0 rfl (by nofun) ?_
      refine ⟨_, rfl, ?_⟩
      refine ew_len B.len ?_
      refine ew_name 1 rfl (by nofun) ?_
      refine ⟨_, rfl, ?_⟩
      refine .inl ⟨_, _, _, _, rfl, rfl, rfl, rfl, rfl, ?_⟩
      rw [decide_eq_true rfl]
      refine ⟨_, rfl, fun hb => ?_, fun hb => (nomatch hb)⟩
      refine ew_one ?_
      refine ew_all rfl B.all ?_
      refine ew_lcM (.two 2 3) [("mine", 2), ("its", 3)] (fun x : D => .tup [x, x]) (fun x => .bl true) rfl sc.nd (blkOk_by (N := ["got", "due", "mine", "its"]) (sc := defScope (topS 43)) (by decide +kernel)) (by decide) (fun _ _ _ _ _ => pg_tup rfl (pgs_cons (pg_name (i := 2) sc.nd rfl (.inl rfl)) (pgs_cons (pg_name (i := 3) sc.nd rfl (.inl rfl)) pgs_nil))) ?_
      refine iw_zipT B.zip ?_
      refine ew_name 0 rfl (by nofun) ?_
      refine ew_name 1 rfl (by nofun) ?_
      refine ⟨_, _, rfl, rfl, ?_⟩
      refine ⟨ts, ⟨zip_self ts, hl, rfl, fun x hx => ⟨_, rfl, ?_⟩⟩, ?_⟩
      · intro s H C cl fp
        refine ew_call C_law_same hr (Nat.le_refl _) ?_
        refine aw_cons ?_
        refine ew_name 2 rfl (by nofun) ?_
        refine aw_cons ?_
        refine ew_name 3 rfl (by nofun) ?_
        refine aw_nil ?_
        refine ⟨_, rfl, List.nodup_nil, ⟨x, rfl, ht x hx, trivial, ?_⟩⟩
        exact ⟨rfl, rfl⟩
      refine ⟨ts.map fun _ => true, by rw [List.map_map]; rfl, ?_⟩
      rw [all_true]
      exact ⟨_, rfl, h⟩
    | lst ts =>
      obtain ⟨hl, ht⟩ : ts.length < 1000000 ∧ ∀ t ∈ ts, Ld m t := ht
      show SsW _ _ [.dat (.lst ts), .dat (.lst ts), .un, .un] _
      refine ssw_cons ?_
      refine sw_if ?_
      refine tw_val ?_
      refine ew_isi2 (S := "list") (T := "tuple") B.isinstance B.list rfl B.tuple rfl ?_
      refine ew_name 1 rfl (by nofun) ?_
      refine ⟨_, _, rfl, rfl, ?_⟩
      refine ⟨_, rfl, ?_⟩
      refine ⟨fun hb => ?_, fun hb => (nomatch hb)⟩
      refine ssw_cons ?_
      refine sw_if ?_
      refine tw_w ?_
      refine ww_or ?_
      refine tw_ne ?_
      refine ew_isi (T := "list") B.isinstance B.list rfl ?_
      refine ew_name 0 rfl (by nofun) ?_
      refine ⟨_, rfl, ?_⟩
      refine ew_isi (T := "list") B.isinstance B.list rfl ?_
      refine ew_name 1 rfl (by nofun) ?_
      refine ⟨_, rfl, ?_⟩
      refine ⟨_, _, _, _, rfl, rfl, rfl, rfl, rfl, ?_⟩
      rw [decide_eq_true rfl]
      refine ⟨fun hb => (nomatch hb), fun hb => ?_⟩
      refine ww_one ?_
      refine tw_ne ?_
      refine ew_isi (T := "tuple") B.isinstance B.tuple rfl ?_
      refine ew_name 0 rfl (by nofun) ?_
      refine ⟨_, rfl, ?_⟩
      refine ew_isi (T := "tuple") B.isinstance B.tuple rfl ?_
      refine ew_name 1 rfl (by nofun) ?_
      refine ⟨_, rfl, ?_⟩
      refine ⟨_, _, _, _, rfl, rfl, rfl, rfl, rfl, ?_⟩
      rw [decide_eq_true rfl]
      refine ⟨fun hb => (nomatch hb), fun hb => ?_⟩
      refine ssw_nil ?_
      refine ssw_one ?_
      refine sw_ret ?_
      refine ew_and ?_
      refine ew_eq hr ?_
      refine ew_len B.len ?_
      refine ew_name 0 rfl (by nofun) ?_
      refine ⟨_, rfl, ?_⟩
      refine ew_len B.len ?_
      refine ew_name 1 rfl (by nofun) ?_
      refine ⟨_, rfl, ?_⟩
      refine .inl ⟨_, _, _, _, rfl, rfl, rfl, rfl, rfl, ?_⟩
      rw [decide_eq_true rfl]
      refine ⟨_, rfl, fun hb => ?_, fun hb => (nomatch hb)⟩
      refine ew_one ?_
      refine ew_all rfl B.all ?_
      refine ew_lcM (.two 2 3) [("mine", 2), ("its", 3)] (fun x : D => .tup [x, x]) (fun x => .bl true) rfl sc.nd (blkOk_by (N := ["got", "due", "mine", "its"]) (sc := defScope (topS 43)) (by decide +kernel)) (by decide) (fun _ _ _ _ _ => pg_tup rfl (pgs_cons (pg_name (i := 2) sc.nd rfl (.inl rfl)) (pgs_cons (pg_name (i := 3) sc.nd rfl (.inl rfl)) pgs_nil))) ?_
      refine iw_zipL B.zip ?_
      refine ew_name 0 rfl (by nofun) ?_
      refine ew_name 1 rfl (by nofun) ?_
      refine ⟨_, _, rfl, rfl, ?_⟩
      refine ⟨ts, ⟨zip_self ts, hl, rfl, fun x hx => ⟨_, rfl, ?_⟩⟩, ?_⟩
      · intro s H C cl fp
        refine ew_call C_law_same hr (Nat.le_refl _) ?_
        refine aw_cons ?_
        refine ew_name 2 rfl (by nofun) ?_
        refine aw_cons ?_
        refine ew_name 3 rfl (by nofun) ?_
        refine aw_nil ?_
        refine ⟨_, rfl, List.nodup_nil, ⟨x, rfl, ht x hx, trivial, ?_⟩⟩
        exact ⟨rfl, rfl⟩
      refine ⟨ts.map fun _ => true, by rw [List.map_map]; rfl, ?_⟩
      rw [all_true]
      exact ⟨_, rfl, h⟩
end
end V85

namespace V85
open PySem PySem.Spec PyProof.Rows L2 VX
def extL (p : Int) (own : List Int) : List (List Int) := (List.range p.toNat).map fun k => own ++ [((k : Nat) : Int)]
def tuplesL (p : Int) : Nat → List (List Int)
  | 0 => [[]]
  | n + 1 => (tuplesL p n).flatMap (extL p)
def s_law_tuples : Spc := fun as P => ∃ (p : Int) (n : Nat), as = [.dat (.int p), .dat (.int (n : Nat))] ∧ (0 ≤ p ∧ p ≤ 5 ∧ n ≤ 5) ∧ P (.dat (.lst ((tuplesL p n).map intsD))) []
def s_law_fresh : Spc := fun as P => ∃ p a b s, as = [.dat (.int p), .dat (intsD [a, b]), .dat (.int s)] ∧ (a ≠ s ∧ b ≠ s) ∧ P (.dat (wayD (fresh p a b s))) []
theorem ext_len {p : Int} (hp : p ≤ 5) : ∀ xs : List (List Int), (xs.flatMap (extL p)).length ≤ 5 * xs.length
  | [] => Nat.le_refl _
  | x :: xs => by
    have := ext_len hp xs
    rw [List.flatMap_cons, List.length_append, List.length_cons]
    have h2 : (extL p x).length ≤ 5 := by unfold extL; rw [List.length_map, List.length_range]; omega
    omega
theorem tuples_len {p : Int} (hp : p ≤ 5) : ∀ n, (tuplesL p n).length ≤ 5 ^ n
  | 0 => Nat.le_refl _
  | n + 1 => by
    have h1 := ext_len hp (tuplesL p n)
    have h2 := tuples_len hp n
    show ((tuplesL p n).flatMap (extL p)).length ≤ 5 ^ (n + 1)
    rw [Nat.pow_succ]
    omega
theorem tuples_each {p : Int} : ∀ (n : Nat), ∀ t ∈ tuplesL p n, t.length = n ∧ ∀ z ∈ t, 0 ≤ z ∧ z < p
  | 0, t, h => by
    rw [List.mem_singleton.mp h]
    exact ⟨rfl, nofun⟩
  | n + 1, t, h => by
    obtain ⟨own, ho, ht⟩ := List.mem_flatMap.mp h
    obtain ⟨h1, h2⟩ := tuples_each n own ho
    obtain ⟨k, hk, rfl⟩ := List.mem_map.mp ht
    have := List.mem_range.mp hk
    refine ⟨by rw [List.length_append, h1]; rfl, fun z hz => ?_⟩
    rcases List.mem_append.mp hz with hz | hz
    · exact h2 z hz
    · rw [List.mem_singleton.mp hz]; omega
theorem pow5 {n : Nat} (h : n ≤ 5) : 5 ^ n ≤ 3125 := Nat.le_trans (Nat.pow_le_pow_right (by decide) h) (by decide)
section
variable {P : Program} {w : World} {K : PySem.W.Frag} {mg : Str → Option Value} {base : Heap}
theorem sc_law_tuples : FnScope ["p", "count_so", "found", "lap", "longer_so", "own", "n"] ["p", "count_so"] (defScope (topS 45)) := ⟨rfl, rfl, rfl, by decide +kernel, rfl, by decide +kernel, by decide +kernel⟩
theorem ok_law_tuples {f : Addr} {fd : FuncData} (F : Fun K "_law_tuples" "_law_tuples" (topS 45) f fd) (B : Bs mg) : FnOk P w K mg base CX0 1 f fd ["p", "count_so"] (spW K s_law_tuples) := by
  have sc := sc_law_tuples
  refine fn_w F sc (fun as P h => ?_) fun cdv A outer s H E hr as R h => ?_
  · obtain ⟨p, n, rfl, h⟩ := h
    rfl
  obtain ⟨p, n, rfl, ⟨hp0, hp1, hn⟩, h⟩ := h
  show SsW _ _ [.dat (.int p), .dat (.int (n : Nat)), .un, .un, .un, .un, .un] _
  refine ssw_cons ?_
  refine sw_set 2 sc.nd ?_
  refine ew_lst ?_
  refine aw_cons ?_
  refine ew_tup ?_
  refine aw_nil ?_
  refine ⟨_, rfl, by decide, ?_⟩
  refine aw_nil ?_
  refine ⟨_, rfl, by show 1 ≤ 1000000; decide, ?_⟩
  refine ⟨_, rfl, rfl, ?_⟩
  refine ssw_cons ?_
  refine sw_for rfl PassesOwn.never ?_
  refine iw_range1 B.range ?_
  refine ew_name 1 rfl (by nofun) ?_
  refine ⟨_, rfl, by omega, by omega, ?_⟩
  refine ⟨fun i Γ => ∃ s2 x3 x4 x5, (s2 = Dsc.own ((tuplesL p i).map intsD) ∨ s2 = .dat (.lst ((tuplesL p i).map intsD))) ∧ (∀ ds, x3 ≠ Dsc.io ds) ∧ (∀ ds, x4 ≠ Dsc.io ds) ∧ (∀ ds, x5 ≠ Dsc.io ds) ∧ Γ = [.dat (.int p), .dat (.int (n : Nat)), s2, x3, x4, x5, .un], ⟨_, .un, .un, .un, .inl rfl, (by intro ds e; cases e), (by intro ds e; cases e), (by intro ds e; cases e), rfl⟩, fun i d Γ2 hd hJ => ?_, fun Γ2 hJ => ?_⟩
  · obtain ⟨s2, x3, x4, x5, hs2, h3, h4, h5, rfl⟩ := hJ
    have hi : i < n := by
      have := (List.getElem?_eq_some_iff.mp hd).1
      rw [rangeD_len] at this
      omega
    rw [rangeD_get (by omega)] at hd
    cases hd
    have hlen : (tuplesL p i).length ≤ 3125 := Nat.le_trans (tuples_len hp1 i) (pow5 (by omega))
    refine gw_name 3 sc.nd rfl (canSet_of rfl h3) ?_
    have fr : ∀ {X : Cx} {rest : List Stmt} {D : PEnds}, SsW X rest [.dat (.int p), .dat (.int (n : Nat)), .dat (.lst ((tuplesL p i).map intsD)), .dat (.int (0 + ((i : Nat) : Int))), x4, x5, .un] D → SsW X rest [.dat (.int p), .dat (.int (n : Nat)), s2, .dat (.int (0 + ((i : Nat) : Int))), x4, x5, .un] D := fun hh => by
      rcases hs2 with rfl | rfl
      · exact ssw_freeze 2 rfl hh
      · exact hh
    refine fr ?_
    generalize (0 + ((i : Nat) : Int)) = lap
    refine ssw_cons ?_
    refine sw_set 4 sc.nd ?_
    refine ew_lst ?_
    refine aw_nil ?_
    refine ⟨_, rfl, by decide, ?_⟩
    refine ⟨_, rfl, canSet_of rfl h4, ?_⟩
    refine ssw_cons ?_
    refine sw_for rfl PassesOwn.never ?_
    refine iw_lst ?_
    refine ew_name 2 rfl (by nofun) ?_
    refine ⟨_, .inr rfl, ?_⟩
    refine ⟨fun j Γ => ∃ y5, (∀ ds, y5 ≠ Dsc.io ds) ∧ Γ = [.dat (.int p), .dat (.int (n : Nat)), .dat (.lst ((tuplesL p i).map intsD)), .dat (.int lap), .own ((((tuplesL p i).take j).flatMap (extL p)).map intsD), y5, .un], ⟨x5, h5, rfl⟩, fun j d Γ3 hd2 hJ2 => ?_, fun Γ3 hJ2 => ?_⟩
    · obtain ⟨y5, hy5, rfl⟩ := hJ2
      rw [List.getElem?_map] at hd2
      obtain ⟨own, ho, rfl⟩ := Option.map_eq_some_iff.mp hd2
      have hl2 := ext_len hp1 ((tuplesL p i).take j)
      rw [List.length_take] at hl2
      refine gw_name 5 sc.nd rfl (canSet_of rfl hy5) ?_
      refine ssw_one ?_
      refine sw_set 4 sc.nd ?_
      refine ew_catL ?_
      refine ew_name 4 rfl (by nofun) ?_
      refine ew_lcM (.one 6) [("n", 6)] (fun k : Nat => D.int ((k : Nat) : Int)) (fun k => intsD (own ++ [((k : Nat) : Int)])) rfl sc.nd (blkOk_by (N := ["p", "count_so", "found", "lap", "longer_so", "own", "n"]) (sc := defScope (topS 45)) (by decide +kernel)) (by decide) (fun _ _ _ _ _ => (pg_name (i := 6) sc.nd rfl (.inl rfl))) ?_
      refine iw_range1 B.range ?_
      refine ew_name 0 rfl (by nofun) ?_
      refine ⟨_, rfl, by omega, by omega, ?_⟩
      have hol : own.length = i := (tuples_each i own (List.mem_of_getElem? ho)).1
      refine ⟨List.range p.toNat, ⟨rangeD_map _, by rw [List.length_range]; omega, rfl, fun x hx => ⟨_, rfl, ?_⟩⟩, ?_⟩
      · intro s H C cl fp
        refine ew_catT ?_
        refine ew_name 5 rfl (by nofun) ?_
        refine ew_tup ?_
        refine aw_cons ?_
        refine ew_name 6 rfl (by nofun) ?_
        refine aw_nil ?_
        refine ⟨_, rfl, by show 1 ≤ 1000000; decide, ?_⟩
        refine ⟨_, _, rfl, rfl, by rw [List.length_map]; show own.length + 1 ≤ 1000000; omega, ?_⟩
        exact ⟨by show some _ = some (VX.D.tup ((own ++ [((x : Nat) : Int)]).map D.int)); rw [List.map_append]; rfl, rfl⟩
      refine ⟨_, _, rfl, rfl, by rw [List.length_map, List.length_map, List.length_range]; omega, ?_⟩
      refine ⟨_, rfl, rfl, ?_⟩
      refine ⟨.dat (intsD own), (by intro ds e; cases e), ?_⟩
      have e : (((tuplesL p i).take (j + 1)).flatMap (extL p)).map intsD = (((tuplesL p i).take j).flatMap (extL p)).map intsD ++ (List.range p.toNat).map fun k : Nat => intsD (own ++ [((k : Nat) : Int)]) := by
        rw [List.take_add_one, ho, List.flatMap_append, List.map_append]
        congr 1
        show (([own] : List (List Int)).flatMap (extL p)).map intsD = _
        rw [List.flatMap_cons, List.flatMap_nil, List.append_nil]
        unfold extL
        rw [List.map_map]
        rfl
      rw [e]
      rfl
    · obtain ⟨y5, hy5, rfl⟩ := hJ2
      rw [List.length_map, List.take_length]
      refine ssw_freeze 4 rfl ?_
      refine ssw_one ?_
      refine sw_set 2 sc.nd ?_
      refine ew_name 4 rfl (by nofun) ?_
      refine ⟨_, rfl, rfl, ?_⟩
      exact ⟨.dat (.lst ((tuplesL p (i + 1)).map intsD)), .dat (.int lap), .dat (.lst ((tuplesL p (i + 1)).map intsD)), y5, .inr rfl, (by intro ds e; cases e), (by intro ds e; cases e), hy5, rfl⟩
  · obtain ⟨s2, x3, x4, x5, hs2, h3, h4, h5, rfl⟩ := hJ
    rw [rangeD_len, Int.toNat_natCast] at hs2
    have fr : ∀ {X : Cx} {rest : List Stmt} {D : PEnds}, SsW X rest [.dat (.int p), .dat (.int (n : Nat)), .dat (.lst ((tuplesL p n).map intsD)), x3, x4, x5, .un] D → SsW X rest [.dat (.int p), .dat (.int (n : Nat)), s2, x3, x4, x5, .un] D := fun hh => by
      rcases hs2 with rfl | rfl
      · exact ssw_freeze 2 rfl hh
      · exact hh
    refine fr ?_
    refine ssw_one ?_
    refine sw_ret ?_
    refine ew_name 2 rfl (by nofun) ?_
    exact ⟨_, rfl, h⟩
theorem sc_law_fresh : FnScope ["p", "parts_so", "spare_so", "found", "low", "its"] ["p", "parts_so", "spare_so"] (defScope (topS 46)) := ⟨rfl, rfl, rfl, by decide +kernel, rfl, by decide +kernel, by decide +kernel⟩
theorem ok_law_fresh {f : Addr} {fd : FuncData} (F : Fun K "_law_fresh" "_law_fresh" (topS 46) f fd) (B : Bs mg) : FnOk P w K mg base CX0 1 f fd ["p", "parts_so", "spare_so"] (spW K s_law_fresh) := by
  have sc := sc_law_fresh
  refine fn_w F sc (fun as P h => ?_) fun cdv A outer s H E hr as R h => ?_
  · obtain ⟨p, a, b, sl, rfl, h⟩ := h
    rfl
  obtain ⟨p, a, b, sl, rfl, ⟨ha, hb'⟩, h⟩ := h
  show SsW _ _ [.dat (.int p), .dat (.tup [.int a, .int b]), .dat (.int sl), .un, .un, .un] _
  refine ssw_cons ?_
  refine sw_par 3 4 rfl sc.nd ?_
  refine ew_tup ?_
  refine aw_nil ?_
  refine ⟨_, rfl, by decide, ?_⟩
  refine ew_ix ?_
  refine ew_name 1 rfl (by nofun) ?_
  refine ew_int ?_
  refine ⟨_, _, _, rfl, rfl, rfl, ?_⟩
  refine ⟨_, _, rfl, rfl, rfl, rfl, ?_⟩
  refine ssw_cons ?_
  refine sw_for rfl PassesOwn.never ?_
  refine iw_tup ?_
  refine ew_slT ?_
  refine ew_name 1 rfl (by nofun) ?_
  refine ow_some ?_
  refine ew_int ?_
  refine ⟨_, rfl, ?_⟩
  refine ow_none ?_
  refine ⟨_, rfl, ?_⟩
  refine ⟨_, rfl, ?_⟩
  show ∃ J : Nat → List Dsc → Prop, J 0 _ ∧ (∀ i d Γ2, ([.int b] : List VX.D)[i]? = some d → J i Γ2 → _) ∧ ∀ Γ2, J ([.int b] : List VX.D).length Γ2 → _
  refine ⟨fun i Γ => ∃ x, (∀ ds, x ≠ Dsc.io ds) ∧ Γ = [.dat (.int p), .dat (.tup [.int a, .int b]), .dat (.int sl), .dat (.tup (if i = 0 then [] else ((fresh p a b sl).take 3).map itD)), .dat (.int a), x], ⟨.un, (by intro ds e; cases e), rfl⟩, fun i d Γ2 hd hJ => ?_, fun Γ2 hJ => ?_⟩
  · obtain ⟨x, hx, rfl⟩ := hJ
    have hi : i = 0 := by
      have := (List.getElem?_eq_some_iff.mp hd).1
      have h1 : ([.int b] : List VX.D).length = 1 := rfl
      omega
    subst hi
    cases hd
    refine gw_name 5 sc.nd rfl (canSet_of rfl hx) ?_
    show SsW _ _ [.dat (.int p), .dat (.tup [.int a, .int b]), .dat (.int sl), .dat (.tup []), .dat (.int a), .dat (.int b)] _
    refine ssw_cons ?_
    refine sw_set 3 sc.nd ?_
    refine ew_catT ?_
    refine ew_name 3 rfl (by nofun) ?_
    refine ew_tup ?_
    refine aw_cons ?_
    refine ew_tup ?_
    refine aw_cons ?_
    refine ew_str ?_
    refine aw_cons ?_
    refine ew_name 2 rfl (by nofun) ?_
    refine aw_nil ?_
    refine ⟨_, rfl, by show 2 ≤ 1000000; decide, ?_⟩
    refine aw_cons ?_
    refine ew_tup ?_
    refine aw_cons ?_
    refine ew_str ?_
    refine aw_cons ?_
    refine ew_name 4 rfl (by nofun) ?_
    refine aw_cons ?_
    refine ew_tuple B.tuple ?_
    refine ew_sortedP B.sorted ?_
    refine ew_lst ?_
    refine aw_cons ?_
    refine ew_tup ?_
    refine aw_cons ?_
    refine ew_name 4 rfl (by nofun) ?_
    refine aw_cons ?_
    refine ew_int ?_
    refine aw_nil ?_
    refine ⟨_, rfl, by show 2 ≤ 1000000; decide, ?_⟩
    refine aw_cons ?_
    refine ew_tup ?_
    refine aw_cons ?_
    refine ew_name 2 rfl (by nofun) ?_
    refine aw_cons ?_
    refine ew_int ?_
    refine aw_nil ?_
    refine ⟨_, rfl, by show 2 ≤ 1000000; decide, ?_⟩
    refine aw_nil ?_
    refine ⟨_, rfl, by show 2 ≤ 1000000; decide, ?_⟩
    refine ⟨[(a, 1), (sl, 1)], srt2 (a, 1) (sl, 1), rfl, srt2_perm _ _, srt2_lt ha, ?_⟩
    refine ⟨_, rfl, ?_⟩
    refine aw_nil ?_
    refine ⟨_, rfl, by show 3 ≤ 1000000; decide, ?_⟩
    refine aw_nil ?_
    refine ⟨_, rfl, by show 2 ≤ 1000000; decide, ?_⟩
    refine ⟨_, _, rfl, rfl, by show 0 + 2 ≤ 1000000; decide, ?_⟩
    refine ⟨_, rfl, rfl, ?_⟩
    refine ssw_one ?_
    refine sw_set 3 sc.nd ?_
    refine ew_catT ?_
    refine ew_name 3 rfl (by nofun) ?_
    refine ew_tup ?_
    refine aw_cons ?_
    refine ew_tup ?_
    refine aw_cons ?_
    refine ew_str ?_
    refine aw_cons ?_
    refine ew_name 5 rfl (by nofun) ?_
    refine aw_cons ?_
    refine ew_tuple B.tuple ?_
    refine ew_sortedP B.sorted ?_
    refine ew_lst ?_
    refine aw_cons ?_
    refine ew_tup ?_
    refine aw_cons ?_
    refine ew_name 5 rfl (by nofun) ?_
    refine aw_cons ?_
    refine ew_int ?_
    refine aw_nil ?_
    refine ⟨_, rfl, by show 2 ≤ 1000000; decide, ?_⟩
    refine aw_cons ?_
    refine ew_tup ?_
    refine aw_cons ?_
    refine ew_name 2 rfl (by nofun) ?_
    refine aw_cons ?_
    refine ew_sub ?_
    refine ew_name 0 rfl (by nofun) ?_
    refine ew_int ?_
    refine ⟨_, _, rfl, rfl, ?_⟩
    refine aw_nil ?_
    refine ⟨_, rfl, by show 2 ≤ 1000000; decide, ?_⟩
    refine aw_nil ?_
    refine ⟨_, rfl, by show 2 ≤ 1000000; decide, ?_⟩
    refine ⟨[(b, 1), (sl, p - 1)], srt2 (b, 1) (sl, p - 1), rfl, srt2_perm _ _, srt2_lt hb', ?_⟩
    refine ⟨_, rfl, ?_⟩
    refine aw_nil ?_
    refine ⟨_, rfl, by show 3 ≤ 1000000; decide, ?_⟩
    refine aw_nil ?_
    refine ⟨_, rfl, by show 1 ≤ 1000000; decide, ?_⟩
    refine ⟨_, _, rfl, rfl, by show 2 + 1 ≤ 1000000; decide, ?_⟩
    refine ⟨_, rfl, rfl, ?_⟩
    exact ⟨.dat (.int b), (by intro ds e; cases e), rfl⟩
  · obtain ⟨x, hx, rfl⟩ := hJ
    refine ssw_one ?_
    refine sw_ret ?_
    refine ew_catT ?_
    refine ew_name 3 rfl (by nofun) ?_
    refine ew_tup ?_
    refine aw_cons ?_
    refine ew_tup ?_
    refine aw_cons ?_
    refine ew_str ?_
    refine aw_cons ?_
    refine ew_name 2 rfl (by nofun) ?_
    refine aw_cons ?_
    refine ew_tup ?_
    refine aw_nil ?_
    refine ⟨_, rfl, by decide, ?_⟩
    refine aw_nil ?_
    refine ⟨_, rfl, by show 3 ≤ 1000000; decide, ?_⟩
    refine aw_nil ?_
    refine ⟨_, rfl, by show 1 ≤ 1000000; decide, ?_⟩
    refine ⟨_, _, rfl, rfl, by show 3 + 1 ≤ 1000000; decide, ?_⟩
    exact ⟨_, rfl, h⟩
end
end V85

namespace V85
open PySem PySem.Spec PyProof.Rows L2 VX
/-- a run of a way: the registers, the draws that are left -/
def runStep (p : Int) (z : List Int × List Int) (it : It) : List Int × List Int := match it with
  | .dr s => (z.1.set s.toNat (z.2.headD 0), z.2.tail)
  | .st s l => (z.1.set s.toNat ((l.map fun q => q.2 * (z.1[q.1.toNat]?.getD 0)).sum % p), z.2)
def runL (p : Int) (w : List It) (held dr : List Int) : List Int := (w.foldl (runStep p) (held, dr)).1
def endOf (p : Int) (w : List It) (held dr : List Int) : Int × Int := ((runL p w held dr)[0]?.getD 0, (runL p w held dr)[1]?.getD 0)
def endsL (p : Int) (w : List It) (held : List Int) : List (Int × Int) := (tuplesL p (drawsN w)).map (endOf p w held)
def s_law_ends : Spc := fun as P => ∃ p n w held, as = [.dat (.int p), .dat (wayD w), .dat (intsD held), .dat (intsD [0, 1])] ∧ (okW p n w ∧ p ≤ 5 ∧ held.length = n ∧ drawsN w ≤ 5) ∧ P (.new ((endsL p w held).map VX.pairD)) []
theorem run_len {p : Int} : ∀ (w : List It) (z : List Int × List Int), (w.foldl (runStep p) z).1.length = z.1.length
  | [], _ => rfl
  | it :: w, z => by
    rw [List.foldl_cons, run_len w]
    unfold runStep
    cases it <;> simp
theorem run_left {p : Int} : ∀ (w : List It) (z : List Int × List Int), (w.foldl (runStep p) z).2.length = z.2.length - drawsN w
  | [], _ => rfl
  | it :: w, z => by
    rw [List.foldl_cons, run_left w]
    cases it with
    | dr s =>
      show z.2.tail.length - drawsN w = z.2.length - drawsN (.dr s :: w)
      have : drawsN (.dr s :: w) = drawsN w + 1 := rfl
      rw [this, List.length_tail]
      omega
    | st s l => rfl
theorem drawsN_split (w : List It) (i : Nat) : drawsN w = drawsN (w.take i) + drawsN (w.drop i) := by
  unfold drawsN
  rw [← List.length_append, ← List.filter_append, List.take_append_drop]
section
variable {P : Program} {w : World} {K : PySem.W.Frag} {mg : Str → Option Value} {base : Heap}
abbrev N48 : List Str := ["p", "bits", "held_so", "crew", "found", "own", "drawn_so", "now_so", "left_so", "its", "k"]
theorem sc_law_ends : FnScope N48 ["p", "bits", "held_so", "crew"] (defScope (topS 48)) := ⟨rfl, rfl, rfl, by decide +kernel, rfl, by decide +kernel, by decide +kernel⟩
theorem ok_law_ends {f : Addr} {fd : FuncData} (F : Fun K "_law_ends" "_law_ends" (topS 48) f fd) (B : Bs mg) (C_law_tuples : C8.Cal P w K mg base 1 "_law_tuples" (spW K s_law_tuples) []) : FnOk P w K mg base CX0 2 f fd ["p", "bits", "held_so", "crew"] (spW K s_law_ends) := by
  have sc := sc_law_ends
  refine fn_w F sc (fun as P h => ?_) fun cdv A outer s H E hr as R h => ?_
  · obtain ⟨p, n, ws, held, rfl, h⟩ := h
    rfl
  obtain ⟨p, n, ws, held, rfl, ⟨okw, hp5, hhl, hdw⟩, h⟩ := h
  obtain ⟨⟨hp0, hp1⟩, ⟨hn0, hn1⟩, hw, ok⟩ := id okw
  show SsW _ _ [.dat (.int p), .dat (.tup (ws.map itD)), .dat (.tup (held.map .int)), .dat (.tup [.int 0, .int 1]), .un, .un, .un, .un, .un, .un, .un] _
  refine ssw_cons ?_
  refine sw_set 4 sc.nd ?_
  refine ew_lst ?_
  refine aw_nil ?_
  refine ⟨_, rfl, by decide, ?_⟩
  refine ⟨_, rfl, rfl, ?_⟩
  refine ssw_cons ?_
  refine sw_for rfl PassesOwn.never ?_
  refine iw_lst ?_
  refine ew_call C_law_tuples hr (by decide) ?_
  refine aw_cons ?_
  refine ew_name 0 rfl (by nofun) ?_
  refine aw_cons ?_
  refine ew_len B.len ?_
  refine ew_lcF (.one 5) [("own", 5)] itD itD isDr rfl sc.nd (blkOk_by (N := N48) (sc := defScope (topS 48)) (by decide +kernel)) (by decide) (fun _ _ _ _ _ => (pg_name (i := 5) sc.nd rfl (.inl rfl))) ?_
  refine iw_tup ?_
  refine ew_name 1 rfl (by nofun) ?_
  refine ⟨_, rfl, ?_⟩
  refine ⟨ws, ⟨rfl, by omega, rfl, fun x hx => ⟨_, rfl, ?_⟩⟩, ?_⟩
  · intro s H C cl fp
    refine tw_eq hr ?_
    refine ew_ix ?_
    refine ew_name 5 rfl (by nofun) ?_
    refine ew_int ?_
    refine ⟨_, _, _, itSeq x _, rfl, itDs0 x, ?_⟩
    refine ew_str ?_
    refine .inl ⟨_, _, _, _, rfl, rfl, rfl, rfl, rfl, ?_⟩
    refine ⟨rfl, itHd_draw x, fun hb => ?_⟩
    intro s H C cl fp
    refine ew_name 5 rfl (by nofun) ?_
    exact ⟨rfl, rfl⟩
  refine ⟨_, rfl, ?_⟩
  refine aw_nil ?_
  rw [List.length_map]
  refine ⟨_, rfl, List.nodup_nil, ⟨p, drawsN ws, rfl, ⟨Int.le_of_lt hp0, hp5, hdw⟩, trivial, ?_⟩⟩
  refine ⟨_, .inr rfl, ?_⟩
  have htl : (tuplesL p (drawsN ws)).length ≤ 3125 := Nat.le_trans (tuples_len hp5 _) (pow5 hdw)
  refine ⟨fun i Γ => ∃ x5 x6 x7 x8, (∀ ds, x5 ≠ Dsc.io ds) ∧ (∀ ds, x6 ≠ Dsc.io ds) ∧ (∀ ds, x7 ≠ Dsc.io ds) ∧ (∀ ds, x8 ≠ Dsc.io ds) ∧ Γ = [.dat (.int p), .dat (.tup (ws.map itD)), .dat (.tup (held.map .int)), .dat (.tup [.int 0, .int 1]), .own ((((tuplesL p (drawsN ws)).take i).map (endOf p ws held)).map VX.pairD), x5, x6, x7, x8, .un, .un],
    ⟨.un, .un, .un, .un, (by intro ds e; cases e), (by intro ds e; cases e), (by intro ds e; cases e), (by intro ds e; cases e), rfl⟩, fun i d Γ2 hd hJ => ?_, fun Γ2 hJ => ?_⟩
  · obtain ⟨x5, x6, x7, x8, h5, h6, h7, h8, rfl⟩ := hJ
    rw [List.getElem?_map] at hd
    obtain ⟨dr, ho, rfl⟩ := Option.map_eq_some_iff.mp hd
    have hdr := (tuples_each _ dr (List.mem_of_getElem? ho)).1
    have hi : i < (tuplesL p (drawsN ws)).length := (List.getElem?_eq_some_iff.mp ho).1
    have efound : (((tuplesL p (drawsN ws)).take (i + 1)).map (endOf p ws held)).map VX.pairD = (((tuplesL p (drawsN ws)).take i).map (endOf p ws held)).map VX.pairD ++ [VX.pairD (endOf p ws held dr)] := by
      rw [List.take_add_one, ho, List.map_append, List.map_append]; rfl
    have hfl : ((((tuplesL p (drawsN ws)).take i).map (endOf p ws held)).map VX.pairD).length < 1000000 := by
      rw [List.length_map, List.length_map, List.length_take]; omega
    generalize ((((tuplesL p (drawsN ws)).take i).map (endOf p ws held)).map VX.pairD) = found at efound hfl
    refine gw_name 6 sc.nd rfl (canSet_of rfl h6) ?_
    refine ssw_cons ?_
    refine sw_dis2 7 8 rfl sc.nd ?_
    refine ew_list B.list ?_
    refine ew_name 2 rfl (by nofun) ?_
    refine ⟨_, rfl, ?_⟩
    refine ew_list B.list ?_
    refine ew_name 6 rfl (by nofun) ?_
    refine ⟨_, rfl, ?_⟩
    refine ⟨_, _, rfl, rfl, canSet_of rfl h7, canSet_of rfl h8, ?_⟩
    refine ssw_cons ?_
    refine sw_for rfl PassesOwn.never ?_
    refine iw_tup ?_
    refine ew_name 1 rfl (by nofun) ?_
    refine ⟨_, rfl, ?_⟩
    refine ⟨fun j Γ => ∃ y5, (∀ ds, y5 ≠ Dsc.io ds) ∧ Γ = [.dat (.int p), .dat (.tup (ws.map itD)), .dat (.tup (held.map .int)), .dat (.tup [.int 0, .int 1]), .own found, y5, .dat (intsD dr), .own (((ws.take j).foldl (runStep p) (held, dr)).1.map .int), .own (((ws.take j).foldl (runStep p) (held, dr)).2.map .int), .un, .un], ⟨x5, h5, rfl⟩, fun j d Γ3 hd2 hJ2 => ?_, fun Γ3 hJ2 => ?_⟩
    · obtain ⟨y5, hy5, rfl⟩ := hJ2
      rw [List.getElem?_map] at hd2
      obtain ⟨it, hit, rfl⟩ := Option.map_eq_some_iff.mp hd2
      have okit := ok it (List.mem_of_getElem? hit)
      have hstep : (ws.take (j + 1)).foldl (runStep p) (held, dr) = runStep p ((ws.take j).foldl (runStep p) (held, dr)) it := fold_take hit
      have hnl := run_len (p := p) (ws.take j) (held, dr)
      have hll := run_left (p := p) (ws.take j) (held, dr)
      have hsp := drawsN_split ws j
      rw [drop_get hit] at hsp
      obtain ⟨now, left, hz⟩ : ∃ now left, (ws.take j).foldl (runStep p) (held, dr) = (now, left) := ⟨_, _, rfl⟩
      rw [hz] at hstep hnl hll ⊢
      have hnn : now.length = n := by rw [← hhl]; exact hnl
      have hll : left.length = dr.length - drawsN (ws.take j) := hll
      refine gw_name 5 sc.nd rfl (canSet_of rfl hy5) ?_
      show SsW _ _ [.dat (.int p), .dat (.tup (ws.map itD)), .dat (.tup (held.map .int)), .dat (.tup [.int 0, .int 1]), .own found, .dat (itD it), .dat (intsD dr), .own (now.map .int), .own (left.map .int), .un, .un] _
      refine ssw_one ?_
      refine sw_if ?_
      refine tw_eq hr ?_
      refine ew_ix ?_
      refine ew_name 5 rfl (by nofun) ?_
      refine ew_int ?_
      refine ⟨_, _, _, itSeq it _, rfl, itDs0 it, ?_⟩
      refine ew_str ?_
      refine .inl ⟨_, _, _, _, rfl, rfl, rfl, rfl, rfl, ?_⟩
      rw [itHd_draw]
      cases it with
      | dr s =>
        refine ⟨fun hb => ?_, fun hb => (nomatch hb)⟩
        have hpos : 0 < left.length := by
          have e1 : drawsN (.dr s :: ws.drop (j + 1)) = drawsN (ws.drop (j + 1)) + 1 := rfl
          omega
        obtain ⟨x, lt, rfl⟩ : ∃ x lt, left = x :: lt := by
          cases left with
          | nil => exact absurd hpos (Nat.lt_irrefl _)
          | cons x lt => exact ⟨x, lt, rfl⟩
        refine ssw_one ?_
        refine sw_asg ?_
        refine ew_popAt ?_
        refine ew_name 8 rfl (by nofun) ?_
        refine ⟨_, rfl, ?_⟩
        refine ew_int ?_
        refine ⟨_, 0, .int x, _, rfl, rfl, by decide, by decide, (ixN_seq (ixN_of (n := ((x :: lt).map D.int).length) (s := 0) (by decide) (by rw [List.length_map, List.length_cons]; omega))).1, rfl, ?_⟩
        refine gw_sub rfl ?_
        refine ew_name 7 rfl (by nofun) ?_
        refine ⟨_, rfl, ?_⟩
        refine ew_ix ?_
        refine ew_name 5 rfl (by nofun) ?_
        refine ew_int ?_
        refine ⟨_, _, _, rfl, rfl, rfl, ?_⟩
        refine ⟨_, _, _, rfl, rfl, by rw [List.length_map, hnn]; exact ixN_of okit.1 okit.2, ?_⟩
        refine ⟨.dat (itD (.dr s)), (by intro ds e; cases e), ?_⟩
        rw [hstep]
        show _ = ([.dat (.int p), .dat (.tup (ws.map itD)), .dat (.tup (held.map .int)), .dat (.tup [.int 0, .int 1]), .own found, .dat (itD (.dr s)), .dat (intsD dr), .own ((now.set s.toNat x).map .int), .own (lt.map .int), .un, .un] : List Dsc)
        rw [List.map_set]
        rfl
      | st s l =>
        obtain ⟨ok1, ok2, ok3, ok4⟩ := okit
        refine ⟨fun hb => (nomatch hb), fun hb => ?_⟩
        refine ssw_one ?_
        refine sw_asg ?_
        refine ew_mod ?_
        refine ew_int1 B.int ?_
        refine ew_sum rfl B.sum ?_
        refine ew_lcM (.one 9) [("its", 9)] VX.pairD (fun q => .int (q.2 * (now[q.1.toNat]?.getD 0))) rfl sc.nd (blkOk_by (N := N48) (sc := defScope (topS 48)) (by decide +kernel)) (by decide) (fun _ _ _ _ _ => (pg_name (i := 9) sc.nd rfl (.inl rfl))) ?_
        refine iw_tup ?_
        refine ew_ix ?_
        refine ew_name 5 rfl (by nofun) ?_
        refine ew_int ?_
        refine ⟨_, _, _, rfl, rfl, rfl, ?_⟩
        refine ⟨_, rfl, ?_⟩
        refine ⟨l, ⟨rfl, by omega, rfl, fun q hq => ⟨_, rfl, ?_⟩⟩, ?_⟩
        · intro s H C cl fp
          obtain ⟨⟨q1, q2⟩, q3, q4⟩ := ok4 q hq
          have hrow : now[q.1.toNat]? = some (now[q.1.toNat]'(by omega)) := List.getElem?_eq_getElem (by omega)
          have hat : atI (now.map D.int) q.1 = some (.int (now[q.1.toNat]'(by omega))) := by
            have := atI_ints hrow
            rw [Int.toNat_of_nonneg q1] at this
            exact this
          refine ew_mul ?_
          refine ew_ix ?_
          refine ew_name 9 rfl (by nofun) ?_
          refine ew_int ?_
          refine ⟨_, _, _, rfl, rfl, rfl, ?_⟩
          refine ew_ix ?_
          refine ew_name 7 rfl (by nofun) ?_
          refine ew_ix ?_
          refine ew_name 9 rfl (by nofun) ?_
          refine ew_int ?_
          refine ⟨_, _, _, rfl, rfl, rfl, ?_⟩
          refine ⟨_, _, _, rfl, rfl, hat, ?_⟩
          refine ⟨_, _, rfl, rfl, .inl ⟨by omega, by omega⟩, ?_⟩
          exact ⟨by show some _ = some (D.int (q.2 * (now[q.1.toNat]?.getD 0))); rw [hrow]; rfl, rfl⟩
        refine ⟨l.map fun q => q.2 * (now[q.1.toNat]?.getD 0), by rw [List.map_map]; rfl, ?_⟩
        refine .inl ⟨_, rfl, ?_⟩
        refine ew_name 0 rfl (by nofun) ?_
        refine ⟨_, _, rfl, rfl, hp0, ?_⟩
        refine gw_sub rfl ?_
        refine ew_name 7 rfl (by nofun) ?_
        refine ⟨_, rfl, ?_⟩
        refine ew_ix ?_
        refine ew_name 5 rfl (by nofun) ?_
        refine ew_int ?_
        refine ⟨_, _, _, rfl, rfl, rfl, ?_⟩
        refine ⟨_, _, _, rfl, rfl, by rw [List.length_map, hnn]; exact ixN_of ok1.1 ok1.2, ?_⟩
        refine ⟨.dat (itD (.st s l)), (by intro ds e; cases e), ?_⟩
        rw [hstep]
        show _ = ([.dat (.int p), .dat (.tup (ws.map itD)), .dat (.tup (held.map .int)), .dat (.tup [.int 0, .int 1]), .own found, .dat (itD (.st s l)), .dat (intsD dr), .own ((now.set s.toNat ((l.map fun q => q.2 * (now[q.1.toNat]?.getD 0)).sum % p)).map .int), .own (left.map .int), .un, .un] : List Dsc)
        rw [List.map_set]
        rfl
    · obtain ⟨y5, hy5, rfl⟩ := hJ2
      rw [List.length_map, List.take_length]
      have hnl := run_len (p := p) ws (held, dr)
      have hnl : (runL p ws held dr).length = n := by rw [← hhl]; exact hnl
      have eend : VX.pairD (endOf p ws held dr) = .tup (([0, 1] : List Int).map fun k => .int ((runL p ws held dr)[k.toNat]?.getD 0)) := rfl
      show SsW _ _ [.dat (.int p), .dat (.tup (ws.map itD)), .dat (.tup (held.map .int)), .dat (.tup [.int 0, .int 1]), .own found, y5, .dat (intsD dr), .own ((runL p ws held dr).map .int), .own ((ws.foldl (runStep p) (held, dr)).2.map .int), .un, .un] _
      refine ssw_one ?_
      refine sw_expr ?_
      refine ew_append ?_
      refine ew_name 4 rfl (by nofun) ?_
      refine ⟨_, rfl, ?_⟩
      refine ew_tuple B.tuple ?_
      refine ew_lcM (.one 10) [("k", 10)] D.int (fun k => .int ((runL p ws held dr)[k.toNat]?.getD 0)) rfl sc.nd (blkOk_by (N := N48) (sc := defScope (topS 48)) (by decide +kernel)) (by decide) (fun _ _ _ _ _ => (pg_name (i := 10) sc.nd rfl (.inl rfl))) ?_
      refine iw_tup ?_
      refine ew_name 3 rfl (by nofun) ?_
      refine ⟨_, rfl, ?_⟩
      refine ⟨[0, 1], ⟨rfl, by decide, rfl, fun x hx => ⟨_, rfl, ?_⟩⟩, ?_⟩
      · intro s H C cl fp
        have hx' : x = 0 ∨ x = 1 := by simpa using hx
        have hx0 : 0 ≤ x := by omega
        have hrow : (runL p ws held dr)[x.toNat]? = some ((runL p ws held dr)[x.toNat]'(by omega)) := List.getElem?_eq_getElem (by omega)
        have hat : atI ((runL p ws held dr).map D.int) x = some (.int ((runL p ws held dr)[x.toNat]'(by omega))) := by
          have := atI_ints hrow
          rw [Int.toNat_of_nonneg hx0] at this
          exact this
        refine ew_ix ?_
        refine ew_name 7 rfl (by nofun) ?_
        refine ew_name 10 rfl (by nofun) ?_
        refine ⟨_, _, _, rfl, rfl, hat, ?_⟩
        exact ⟨by show some _ = some (D.int ((runL p ws held dr)[x.toNat]?.getD 0)); rw [hrow]; rfl, rfl⟩
      refine ⟨_, rfl, ?_⟩
      refine ⟨_, _, rfl, rfl, hfl, ?_⟩
      refine ⟨y5, .dat (intsD dr), .own ((runL p ws held dr).map .int), .own ((ws.foldl (runStep p) (held, dr)).2.map .int), hy5, (by intro ds e; cases e), (by intro ds e; cases e), (by intro ds e; cases e), ?_⟩
      rw [efound, eend]
      rfl
  · obtain ⟨x5, x6, x7, x8, h5, h6, h7, h8, rfl⟩ := hJ
    rw [List.length_map, List.take_length]
    refine ssw_one ?_
    refine sw_ret ?_
    refine ew_name 4 rfl (by nofun) ?_
    exact ⟨_, rfl, h⟩
end
end V85

namespace V85
open PySem PySem.Spec PyProof.Rows L2 VX
def s_law_any_bits : Spc := fun as P => ∃ (t : Tin) (p : Int) (n : Nat) (m : Int), as = [.io (tinD t), .dat (.int p), .dat (.int (n : Nat))] ∧ (okT m t ∧ m < 1000 ∧ (2 ≤ p ∧ p ≤ 5) ∧ 2 ≤ n ∧ n ≤ 5) ∧ ∀ (w : List It) t', w.length ≤ 4 → drawsN w ≤ 2 → (∀ it ∈ w, okIt p n it) → okT (m + 200) t' → P (.dat (wayD w)) [tinD t']
theorem sorted_lt {ns : List Int} (h : ns.Pairwise (· ≤ ·)) (nd : ns.Nodup) : ns.Pairwise (· < ·) :=
  (List.Pairwise.and h nd).imp fun {a b} ⟨h1, h2⟩ => Int.lt_iff_le_and_ne.mpr ⟨h1, h2⟩
theorem drawsN_snoc (w : List It) (it : It) : drawsN (w ++ [it]) = drawsN w + drawsN [it] := by
  unfold drawsN
  rw [List.filter_append, List.length_append]
section
variable {P : Program} {w : World} {K : PySem.W.Frag} {mg : Str → Option Value} {base : Heap}
abbrev N49 : List Str := ["tin", "p", "count_so", "found", "left_so", "lap", "picks_so", "k"]
theorem sc_law_any_bits : FnScope N49 ["tin", "p", "count_so"] (defScope (topS 49)) := ⟨rfl, rfl, rfl, by decide +kernel, rfl, by decide +kernel, by decide +kernel⟩
theorem ok_law_any_bits {f : Addr} {fd : FuncData} (F : Fun K "_law_any_bits" "_law_any_bits" (topS 49) f fd) (B : Bs mg) (C_law_take : C8.Cal P w K mg base 1 "_law_take" (spW K s_law_take) []) (C_law_pick : C8.Cal P w K mg base 2 "_law_pick" (spW K s_law_pick) []) : FnOk P w K mg base CX0 3 f fd ["tin", "p", "count_so"] (spW K s_law_any_bits) := by
  have sc := sc_law_any_bits
  refine fn_w F sc (fun as P h => ?_) fun cdv A outer s H E hr as R h => ?_
  · obtain ⟨t, p, n, m, rfl, h⟩ := h
    rfl
  obtain ⟨t, p, n, m, rfl, ⟨ht, hm, ⟨hp0, hp1⟩, hn0, hn1⟩, h⟩ := h
  show SsW _ _ [.io (tinD t), .dat (.int p), .dat (.int (n : Nat)), .un, .un, .un, .un, .un] _
  refine ssw_cons ?_
  refine sw_par 3 4 rfl sc.nd ?_
  refine ew_lst ?_
  refine aw_nil ?_
  refine ⟨_, rfl, by decide, ?_⟩
  refine ew_int ?_
  refine ⟨_, _, rfl, rfl, rfl, rfl, ?_⟩
  refine ssw_cons ?_
  refine sw_for rfl PassesOwn.never ?_
  refine iw_range1 B.range ?_
  refine ew_add ?_
  refine ew_int ?_
  refine ew_call C_law_take hr (by decide) ?_
  refine aw_cons ?_
  refine ew_name 0 rfl (by nofun) ?_
  refine aw_cons ?_
  refine ew_int ?_
  refine aw_nil ?_
  refine ⟨_, rfl, (by show ([0] : List Nat).Nodup; decide), ⟨t, 4, m, rfl, ⟨ht, by omega, by decide, by decide⟩, fun r0 t0 hr0 hr1 ht0 => ⟨trivial, ?_⟩⟩⟩
  refine ⟨_, _, rfl, rfl, ?_⟩
  refine ⟨_, rfl, by omega, by omega, ?_⟩
  refine ⟨fun i Γ => ∃ (t' : Tin) (ws : List It) (lf : Int) (x5 x6 : Dsc), (∀ ds, x5 ≠ Dsc.io ds) ∧ (∀ ds, x6 ≠ Dsc.io ds) ∧ Γ = [.io (tinD t'), .dat (.int p), .dat (.int (n : Nat)), .own (ws.map itD), .dat (.int lf), x5, x6, .un] ∧ ws.length = i ∧ (0 ≤ lf ∧ (drawsN ws : Int) + lf = 2) ∧ (∀ it ∈ ws, okIt p n it) ∧ okT (m + 1 + 20 * i) t',
    ⟨t0, [], 2, .un, .un, (by intro ds e; cases e), (by intro ds e; cases e), rfl, rfl, ⟨by decide, by decide⟩, nofun, ht0.mono (by omega)⟩, fun i d Γ2 hd hJ => ?_, fun Γ2 hJ => ?_⟩
  · obtain ⟨t', ws, lf, x5, x6, h5, h6, rfl, hwl, ⟨hlf, hlf2⟩, hok, ht'⟩ := hJ
    have hi : i < 4 := by
      have := (List.getElem?_eq_some_iff.mp hd).1
      rw [rangeD_len] at this
      omega
    refine gw_name 5 sc.nd rfl (canSet_of rfl h5) ?_
    refine ssw_one ?_
    refine sw_if ?_
    refine TW.mono (P := fun k Γ1 => ∃ t'' : Tin, okT (m + 1 + 20 * i + 1) t'' ∧ Γ1 = [.io (tinD t''), .dat (.int p), .dat (.int (n : Nat)), .own (ws.map itD), .dat (.int lf), .dat d, x6, .un] ∧ (k = true → 0 < lf)) ?_ fun k Γ1 ⟨t'', ht'', eΓ, hk⟩ => ⟨fun hb => ?_, fun hb => ?_⟩
    · refine tw_w ?_
      refine ww_and ?_
      refine tw_gt ?_
      refine ew_name 4 rfl (by nofun) ?_
      refine ew_int ?_
      refine ⟨_, _, rfl, rfl, ?_⟩
      refine ⟨fun hb => ?_, fun hb => ⟨t', ht'.mono (by omega), rfl, fun z => by cases z⟩⟩
      refine ww_one ?_
      refine tw_eq hr ?_
      refine ew_call C_law_take hr (by decide) ?_
      refine aw_cons ?_
      refine ew_name 0 rfl (by nofun) ?_
      refine aw_cons ?_
      refine ew_int ?_
      refine aw_nil ?_
      refine ⟨_, rfl, (by show ([0] : List Nat).Nodup; decide), ⟨t', 2, m + 1 + 20 * i, rfl, ⟨ht', by omega, by decide, by decide⟩, fun r1 t1 hr0' hr1' ht1 => ⟨trivial, ?_⟩⟩⟩
      refine ew_int ?_
      refine .inl ⟨_, _, _, _, rfl, rfl, rfl, rfl, rfl, ?_⟩
      exact ⟨t1, ht1, rfl, fun _ => of_decide_eq_true hb⟩
    · subst eΓ
      have hlp := hk hb
      refine ssw_one ?_
      refine sw_par 3 4 rfl sc.nd ?_
      refine ew_catL ?_
      refine ew_name 3 rfl (by nofun) ?_
      refine ew_lst ?_
      refine aw_cons ?_
      refine ew_tup ?_
      refine aw_cons ?_
      refine ew_str ?_
      refine aw_cons ?_
      refine ew_call C_law_take hr (by decide) ?_
      refine aw_cons ?_
      refine ew_name 0 rfl (by nofun) ?_
      refine aw_cons ?_
      refine ew_name 2 rfl (by nofun) ?_
      refine aw_nil ?_
      refine ⟨_, rfl, (by show ([0] : List Nat).Nodup; decide), ⟨t'', _, m + 1 + 20 * i + 1, rfl, ⟨ht'', by omega, by omega, by omega⟩, fun r1 t1 hr0' hr1' ht1 => ⟨trivial, ?_⟩⟩⟩
      refine aw_nil ?_
      refine ⟨_, rfl, by show 2 ≤ 1000000; decide, ?_⟩
      refine aw_nil ?_
      refine ⟨_, rfl, by show 1 ≤ 1000000; decide, ?_⟩
      refine ⟨_, _, rfl, rfl, by rw [List.length_map, hwl]; show i + 1 ≤ 1000000; omega, ?_⟩
      refine ew_sub ?_
      refine ew_name 4 rfl (by nofun) ?_
      refine ew_int ?_
      refine ⟨_, _, rfl, rfl, ?_⟩
      refine ⟨_, _, rfl, rfl, rfl, rfl, ?_⟩
      refine ⟨t1, ws ++ [.dr r1], lf - 1, .dat d, x6, (by intro ds e; cases e), h6, ?_, by rw [List.length_append, hwl]; rfl, ⟨by omega, ?_⟩, fun it hit => ?_, ht1.mono (by omega)⟩
      · rw [List.map_append]; rfl
      · rw [drawsN_snoc]
        have : drawsN [.dr r1] = 1 := rfl
        omega
      · rcases List.mem_append.mp hit with hit | hit
        · exact hok it hit
        · rw [List.mem_singleton.mp hit]; exact ⟨hr0', hr1'⟩
    · subst eΓ
      refine ssw_cons ?_
      refine sw_set 6 sc.nd ?_
      refine ew_sortedI B.sorted ?_
      refine ew_call C_law_pick hr (by decide) ?_
      refine aw_cons ?_
      refine ew_name 0 rfl (by nofun) ?_
      refine aw_cons ?_
      refine ew_frz ?_
      refine ew_listRg rfl B.list B.range ?_
      refine ew_name 2 rfl (by nofun) ?_
      refine ⟨_, rfl, by omega, by omega, ?_⟩
      refine ⟨_, rfl, ?_⟩
      refine aw_cons ?_
      refine ew_add ?_
      refine ew_int ?_
      refine ew_call C_law_take hr (by decide) ?_
      refine aw_cons ?_
      refine ew_name 0 rfl (by nofun) ?_
      refine aw_cons ?_
      refine ew_int ?_
      refine aw_nil ?_
      refine ⟨_, rfl, (by show ([0] : List Nat).Nodup; decide), ⟨t'', 2, m + 1 + 20 * i + 1, rfl, ⟨ht'', by omega, by decide, by decide⟩, fun r1 t1 hr0' hr1' ht1 => ⟨trivial, ?_⟩⟩⟩
      refine ⟨_, _, rfl, rfl, ?_⟩
      refine aw_nil ?_
      have hgs : rangeD 0 ((n : Nat) : Int).toNat = ((List.range n).map fun k : Nat => (k : Int)).map D.int := by rw [Int.toNat_natCast, rangeD_map, List.map_map]; rfl
      refine ⟨_, rfl, (by show ([0] : List Nat).Nodup; decide), ⟨t1, (List.range n).map fun k : Nat => (k : Int), 1 + r1, m + 1 + 20 * i + 1 + 1, by rw [hgs], ⟨ht1, by omega, by rw [List.length_map, List.length_range]; omega, by omega, by rw [List.length_map, List.length_range]; omega⟩, fun ns rest t2 hperm ht2 => ⟨trivial, ?_⟩⟩⟩
      refine ⟨ns, rfl, fun ns' hp' hs' => ?_⟩
      refine ⟨_, rfl, canSet_of rfl h6, ?_⟩
      have hnd : ((List.range n).map fun k : Nat => (k : Int)).Nodup := List.Pairwise.map _ (fun a b (hab : a ≠ b) => by omega) List.nodup_range
      have hnd2 : ns.Nodup := (List.nodup_append.mp (hperm.nodup_iff.mpr hnd)).1
      have hlt : ns'.Pairwise (· < ·) := sorted_lt hs' (hp'.nodup_iff.mpr hnd2)
      have hmem : ∀ z ∈ ns', 0 ≤ z ∧ z < n := fun z hz => by
        have h1 := hperm.mem_iff.mp (List.mem_append_left rest (hp'.mem_iff.mp hz))
        obtain ⟨k, hk, rfl⟩ := List.mem_map.mp h1
        have := List.mem_range.mp hk
        omega
      have hnl : ns'.length ≤ n := by
        rw [hp'.length_eq]
        have := hperm.length_eq
        rw [List.length_append, List.length_map, List.length_range] at this
        omega
      refine ssw_freeze 6 rfl ?_
      show SsW _ _ [.io (tinD t2), .dat (.int p), .dat (.int (n : Nat)), .own (ws.map itD), .dat (.int lf), .dat d, .dat (.lst (ns'.map .int)), .un] _
      refine ssw_one ?_
      refine sw_expr ?_
      refine ew_append ?_
      refine ew_name 3 rfl (by nofun) ?_
      refine ⟨_, rfl, ?_⟩
      refine ew_tup ?_
      refine aw_cons ?_
      refine ew_str ?_
      refine aw_cons ?_
      refine ew_call C_law_take hr (by decide) ?_
      refine aw_cons ?_
      refine ew_name 0 rfl (by nofun) ?_
      refine aw_cons ?_
      refine ew_name 2 rfl (by nofun) ?_
      refine aw_nil ?_
      refine ⟨_, rfl, (by show ([0] : List Nat).Nodup; decide), ⟨t2, _, m + 1 + 20 * i + 1 + 1 + (1 + r1), rfl, ⟨ht2, by omega, by omega, by omega⟩, fun s3 t3 hs0 hs1 ht3 => ⟨trivial, ?_⟩⟩⟩
      refine aw_cons ?_
      refine ew_tuple B.tuple ?_
      refine ew_lc (.one 7) [("k", 7)] rfl sc.nd (blkOk_by (N := N49) (sc := defScope (topS 49)) (by decide +kernel)) (by decide) (fun _ _ _ _ _ => (pg_name (i := 7) sc.nd rfl (.inl rfl))) ?_
      refine iw_lst ?_
      refine ew_name 6 rfl (by nofun) ?_
      refine ⟨_, .inr rfl, ?_⟩
      refine ⟨by rw [List.length_map]; omega, fun j acc Γ => ∃ (t4 : Tin) (l : List (Int × Int)), Γ = [.io (tinD t4), .dat (.int p), .dat (.int (n : Nat)), .own (ws.map itD), .dat (.int lf), .dat d, .dat (.lst (ns'.map .int)), .un] ∧ acc = l.map VX.pairD ∧ l.map (·.1) = ns'.take j ∧ (∀ q ∈ l, 0 < q.2 ∧ q.2 < p) ∧ okT (m + 1 + 20 * i + 6 + j) t4,
        ⟨t3, [], rfl, rfl, rfl, nofun, ht3.mono (by omega)⟩, fun j dj acc Γ4 hdj hJ4 hacc => ?_, fun acc Γ4 hJ4 => ?_⟩
      · obtain ⟨t4, l, rfl, rfl, hl1, hl2, ht4⟩ := hJ4
        rw [List.getElem?_map] at hdj
        obtain ⟨z, hz, rfl⟩ := Option.map_eq_some_iff.mp hdj
        have hj : j < ns'.length := (List.getElem?_eq_some_iff.mp hz).1
        refine ⟨by intro v hv; rw [List.mem_singleton.mp (show v ∈ [7] from hv)]; rfl, _, rfl, ?_⟩
        intro s1 H1 C1 cl1 fp1
        refine ⟨fun _ => ?_, fun hb => (nomatch hb)⟩
        intro s2 H2 C2 cl2 fp2
        refine ew_tup ?_
        refine aw_cons ?_
        refine ew_name 7 rfl (by nofun) ?_
        refine aw_cons ?_
        refine ew_add ?_
        refine ew_int ?_
        refine ew_call C_law_take hr (by decide) ?_
        refine aw_cons ?_
        refine ew_name 0 rfl (by nofun) ?_
        refine aw_cons ?_
        refine ew_sub ?_
        refine ew_name 1 rfl (by nofun) ?_
        refine ew_int ?_
        refine ⟨_, _, rfl, rfl, ?_⟩
        refine aw_nil ?_
        refine ⟨_, rfl, (by show ([0] : List Nat).Nodup; decide), ⟨t4, p - 1, m + 1 + 20 * i + 6 + j, rfl, ⟨ht4, by omega, by omega, by omega⟩, fun r5 t5 hr50 hr51 ht5 => ⟨trivial, ?_⟩⟩⟩
        refine ⟨_, _, rfl, rfl, ?_⟩
        refine aw_nil ?_
        refine ⟨_, rfl, by show 2 ≤ 1000000; decide, ?_⟩
        refine ⟨_, rfl, t5, l ++ [(z, 1 + r5)], rfl, by rw [List.map_append]; rfl, by rw [List.map_append, hl1, List.take_add_one, hz]; rfl, fun q hq => ?_, ht5.mono (by omega)⟩
        rcases List.mem_append.mp hq with hq | hq
        · exact hl2 q hq
        · rw [List.mem_singleton.mp hq]; show 0 < 1 + r5 ∧ 1 + r5 < p; omega
      · obtain ⟨t4, l, rfl, rfl, hl1, hl2, ht4⟩ := hJ4
        rw [List.length_map, List.take_length] at hl1
        rw [List.length_map] at ht4
        have hll : l.length = ns'.length := by rw [← hl1, List.length_map]
        refine ⟨_, rfl, ?_⟩
        refine aw_nil ?_
        refine ⟨_, rfl, by show 3 ≤ 1000000; decide, ?_⟩
        refine ⟨_, _, rfl, rfl, by rw [List.length_map, hwl]; omega, ?_⟩
        refine ⟨t4, ws ++ [.st s3 l], lf, .dat d, .dat (.lst (ns'.map .int)), (by intro ds e; cases e), (by intro ds e; cases e), ?_, by rw [List.length_append, hwl]; rfl, ⟨hlf, ?_⟩, fun it hit => ?_, ht4.mono (by omega)⟩
        · rw [List.map_append]; rfl
        · rw [drawsN_snoc]
          have : drawsN [.st s3 l] = 0 := rfl
          omega
        · rcases List.mem_append.mp hit with hit | hit
          · exact hok it hit
          · rw [List.mem_singleton.mp hit]
            refine ⟨⟨hs0, hs1⟩, by omega, by rw [hl1]; exact hlt, fun q hq => ⟨hmem q.1 ?_, hl2 q hq⟩⟩
            rw [← hl1]
            exact List.mem_map.mpr ⟨q, hq, rfl⟩
  · obtain ⟨t', ws, lf, x5, x6, h5, h6, rfl, hwl, ⟨hlf, hlf2⟩, hok, ht'⟩ := hJ
    rw [rangeD_len] at hwl ht'
    refine ssw_one ?_
    refine sw_ret ?_
    refine ew_tuple B.tuple ?_
    refine ew_name 3 rfl (by nofun) ?_
    refine ⟨_, rfl, ?_⟩
    exact ⟨_, rfl, h ws t' (by omega) (by omega) hok (ht'.mono (by omega))⟩
end
end V85

namespace V85
open PySem PySem.Spec PyProof.Rows L2 VX
def LdB : Nat → D → Bool
  | 0, d => match d with
    | .tup _ => false
    | .lst _ => false
    | .scr _ => false
    | _ => true
  | m + 1, d => match d with
    | .tup ts => decide (ts.length < 1000000) && ts.all (LdB m)
    | .lst ts => decide (ts.length < 1000000) && ts.all (LdB m)
    | .scr _ => false
    | _ => true
theorem ld_of : ∀ {m : Nat} {d : D}, LdB m d = true → Ld m d := by
  intro m
  induction m with
  | zero => intro d h; cases d <;> first | trivial | cases h
  | succ m ih =>
    intro d h
    cases d with
    | tup ts =>
      have h : (decide (ts.length < 1000000) && ts.all (LdB m)) = true := h
      obtain ⟨h1, h2⟩ := Bool.and_eq_true_iff.mp h
      exact ⟨of_decide_eq_true h1, fun t ht => ih (List.all_eq_true.mp h2 t ht)⟩
    | lst ts =>
      have h : (decide (ts.length < 1000000) && ts.all (LdB m)) = true := h
      obtain ⟨h1, h2⟩ := Bool.and_eq_true_iff.mp h
      exact ⟨of_decide_eq_true h1, fun t ht => ih (List.all_eq_true.mp h2 t ht)⟩
    | scr ts => cases h
    | _ => trivial
def wPre : List It := [.dr 2, .st 0 [(0, 1), (2, 1)]]
def wWay : List It := [.dr 2, .st 0 [(0, 1), (2, 1)], .st 1 [(1, 1), (2, 1)], .st 2 []]
def wSwap : List It := [.st 2 [(0, 1)], .st 0 [(1, 1)], .st 1 [(2, 1)]]
def okItB (p : Int) (n : Nat) : It → Bool
  | .dr s => decide (0 ≤ s ∧ s < n)
  | .st s l => decide ((0 ≤ s ∧ s < n) ∧ l.length ≤ 1000 ∧ (l.map (·.1)).Pairwise (· < ·) ∧ ∀ q ∈ l, (0 ≤ q.1 ∧ q.1 < n) ∧ 0 < q.2 ∧ q.2 < p)
theorem okIt_of {p : Int} {n : Nat} {it : It} (h : okItB p n it = true) : okIt p n it := by
  cases it with
  | dr s =>
    have h' : decide (0 ≤ s ∧ s < n) = true := h
    have h2 := of_decide_eq_true h'
    exact h2
  | st s l =>
    have h' : decide ((0 ≤ s ∧ s < n) ∧ l.length ≤ 1000 ∧ (l.map (·.1)).Pairwise (· < ·) ∧ ∀ q ∈ l, (0 ≤ q.1 ∧ q.1 < n) ∧ 0 < q.2 ∧ q.2 < p) = true := h
    have h2 := of_decide_eq_true h'
    exact h2
theorem okW_of {p : Int} {n : Nat} {w : List It} (h1 : 0 < p ∧ p ≤ 1000) (h2 : 2 ≤ n ∧ n ≤ 100) (h3 : w.length ≤ 100) (h4 : w.all (okItB p n) = true) : okW p n w :=
  ⟨h1, h2, h3, fun it hit => okIt_of (List.all_eq_true.mp h4 it hit)⟩
theorem ok_wPre : okW 2 3 wPre := okW_of (by decide) (by decide) (by decide) (by decide +kernel)
theorem ok_wWay : okW 2 3 wWay := okW_of (by decide) (by decide) (by decide) (by decide +kernel)
theorem ok_wSwap : okW 2 3 wSwap := okW_of (by decide) (by decide) (by decide) (by decide +kernel)
theorem val_pre : keepsL 2 3 wPre = false := by decide +kernel
theorem val_swap : keepsL 2 3 wSwap = true := by decide +kernel
theorem val_ren0 : (keepsL 2 3 wSwap && decide (0 = 1)) = false := by decide +kernel
theorem val_ren1 : (keepsL 2 3 wWay && decide (1 = 1)) = true := by decide +kernel
def s_law_by_hand_right : Spc := fun as P => as = [] ∧ P (.dat (.bl true)) []
section
variable {P : Program} {w : World} {K : PySem.W.Frag} {mg : Str → Option Value} {base : Heap}
theorem sc_law_by_hand_right : FnScope ["trio", "way_so", "swap_so", "got", "due"] [] (defScope (topS 47)) := ⟨rfl, rfl, rfl, by decide +kernel, rfl, by decide +kernel, by decide +kernel⟩
theorem ok_law_by_hand_right {f : Addr} {fd : FuncData} (F : Fun K "_law_by_hand_right" "_law_by_hand_right" (topS 47) f fd) (B : Bs mg) (C_law_plain : C8.Cal P w K mg base 1 "_law_plain" (spW K s_law_plain) []) (C_renewal : C8.Cal P w K mg base 10 "renewal" (spW K s_renewal) []) (C_keeps_sum : C8.Cal P w K mg base 10 "keeps_sum" (spW K s_keeps_sum) [])
    (C_renews : C8.Cal P w K mg base 13 "renews" (spW K s_renews) []) (C_how_free : C8.Cal P w K mg base 12 "how_free" (spW K s_how_free) []) (C_law_same : C8.Cal P w K mg base 9 "_law_same" (spW K (s_law_same 8)) []) : FnOk P w K mg base CX0 14 f fd [] (spW K s_law_by_hand_right) := by
  have sc := sc_law_by_hand_right
  refine fn_w F sc (fun as P h => ?_) fun cdv A outer s H E hr as R h => ?_
  · obtain ⟨rfl, h⟩ := h
    rfl
  obtain ⟨rfl, h⟩ := h
  show SsW _ _ [.un, .un, .un, .un, .un] _
  refine ssw_cons ?_
  refine sw_set 0 sc.nd ?_
  refine ew_tup ?_
  refine aw_cons ?_
  refine ew_int ?_
  refine aw_cons ?_
  refine ew_repT ?_
  refine ew_tup ?_
  refine aw_cons ?_
  refine ew_non ?_
  refine aw_nil ?_
  refine ⟨_, rfl, (Nat.le_of_ble_eq_true rfl), ?_⟩
  refine ew_int ?_
  refine ⟨_, _, rfl, rfl, (by nofun), (by decide), (by decide), (by show 1 ≤ 1000; decide), ?_⟩
  refine aw_cons ?_
  refine ew_call0 C_law_plain hr (by decide) ?_
  refine ⟨rfl, trivial, ?_⟩
  refine aw_nil ?_
  refine ⟨_, rfl, (Nat.le_of_ble_eq_true rfl), ?_⟩
  refine ⟨_, rfl, rfl, ?_⟩
  refine ssw_cons ?_
  refine sw_set 1 sc.nd ?_
  refine ew_tup ?_
  refine aw_cons ?_
  refine ew_tup ?_
  refine aw_cons ?_
  refine ew_str ?_
  refine aw_cons ?_
  refine ew_int ?_
  refine aw_nil ?_
  refine ⟨_, rfl, (Nat.le_of_ble_eq_true rfl), ?_⟩
  refine aw_cons ?_
  refine ew_tup ?_
  refine aw_cons ?_
  refine ew_str ?_
  refine aw_cons ?_
  refine ew_int ?_
  refine aw_cons ?_
  refine ew_tup ?_
  refine aw_cons ?_
  refine ew_tup ?_
  refine aw_cons ?_
  refine ew_int ?_
  refine aw_cons ?_
  refine ew_int ?_
  refine aw_nil ?_
  refine ⟨_, rfl, (Nat.le_of_ble_eq_true rfl), ?_⟩
  refine aw_cons ?_
  refine ew_tup ?_
  refine aw_cons ?_
  refine ew_int ?_
  refine aw_cons ?_
  refine ew_int ?_
  refine aw_nil ?_
  refine ⟨_, rfl, (Nat.le_of_ble_eq_true rfl), ?_⟩
  refine aw_nil ?_
  refine ⟨_, rfl, (Nat.le_of_ble_eq_true rfl), ?_⟩
  refine aw_nil ?_
  refine ⟨_, rfl, (Nat.le_of_ble_eq_true rfl), ?_⟩
  refine aw_cons ?_
  refine ew_tup ?_
  refine aw_cons ?_
  refine ew_str ?_
  refine aw_cons ?_
  refine ew_int ?_
  refine aw_cons ?_
  refine ew_tup ?_
  refine aw_cons ?_
  refine ew_tup ?_
  refine aw_cons ?_
  refine ew_int ?_
  refine aw_cons ?_
  refine ew_int ?_
  refine aw_nil ?_
  refine ⟨_, rfl, (Nat.le_of_ble_eq_true rfl), ?_⟩
  refine aw_cons ?_
  refine ew_tup ?_
  refine aw_cons ?_
  refine ew_int ?_
  refine aw_cons ?_
  refine ew_int ?_
  refine aw_nil ?_
  refine ⟨_, rfl, (Nat.le_of_ble_eq_true rfl), ?_⟩
  refine aw_nil ?_
  refine ⟨_, rfl, (Nat.le_of_ble_eq_true rfl), ?_⟩
  refine aw_nil ?_
  refine ⟨_, rfl, (Nat.le_of_ble_eq_true rfl), ?_⟩
  refine aw_cons ?_
  refine ew_tup ?_
  refine aw_cons ?_
  refine ew_str ?_
  refine aw_cons ?_
  refine ew_int ?_
  refine aw_cons ?_
  refine ew_tup ?_
  refine aw_nil ?_
  refine ⟨_, rfl, (Nat.le_of_ble_eq_true rfl), ?_⟩
  refine aw_nil ?_
  refine ⟨_, rfl, (Nat.le_of_ble_eq_true rfl), ?_⟩
  refine aw_nil ?_
  refine ⟨_, rfl, (Nat.le_of_ble_eq_true rfl), ?_⟩
  refine ⟨_, rfl, rfl, ?_⟩
  refine ssw_cons ?_
  refine sw_set 2 sc.nd ?_
  refine ew_tup ?_
  refine aw_cons ?_
  refine ew_tup ?_
  refine aw_cons ?_
  refine ew_str ?_
  refine aw_cons ?_
  refine ew_int ?_
  refine aw_cons ?_
  refine ew_tup ?_
  refine aw_cons ?_
  refine ew_tup ?_
  refine aw_cons ?_
  refine ew_int ?_
  refine aw_cons ?_
  refine ew_int ?_
  refine aw_nil ?_
  refine ⟨_, rfl, (Nat.le_of_ble_eq_true rfl), ?_⟩
  refine aw_nil ?_
  refine ⟨_, rfl, (Nat.le_of_ble_eq_true rfl), ?_⟩
  refine aw_nil ?_
  refine ⟨_, rfl, (Nat.le_of_ble_eq_true rfl), ?_⟩
  refine aw_cons ?_
  refine ew_tup ?_
  refine aw_cons ?_
  refine ew_str ?_
  refine aw_cons ?_
  refine ew_int ?_
  refine aw_cons ?_
  refine ew_tup ?_
  refine aw_cons ?_
  refine ew_tup ?_
  refine aw_cons ?_
  refine ew_int ?_
  refine aw_cons ?_
  refine ew_int ?_
  refine aw_nil ?_
  refine ⟨_, rfl, (Nat.le_of_ble_eq_true rfl), ?_⟩
  refine aw_nil ?_
  refine ⟨_, rfl, (Nat.le_of_ble_eq_true rfl), ?_⟩
  refine aw_nil ?_
  refine ⟨_, rfl, (Nat.le_of_ble_eq_true rfl), ?_⟩
  refine aw_cons ?_
  refine ew_tup ?_
  refine aw_cons ?_
  refine ew_str ?_
  refine aw_cons ?_
  refine ew_int ?_
  refine aw_cons ?_
  refine ew_tup ?_
  refine aw_cons ?_
  refine ew_tup ?_
  refine aw_cons ?_
  refine ew_int ?_
  refine aw_cons ?_
  refine ew_int ?_
  refine aw_nil ?_
  refine ⟨_, rfl, (Nat.le_of_ble_eq_true rfl), ?_⟩
  refine aw_nil ?_
  refine ⟨_, rfl, (Nat.le_of_ble_eq_true rfl), ?_⟩
  refine aw_nil ?_
  refine ⟨_, rfl, (Nat.le_of_ble_eq_true rfl), ?_⟩
  refine aw_nil ?_
  refine ⟨_, rfl, (Nat.le_of_ble_eq_true rfl), ?_⟩
  refine ⟨_, rfl, rfl, ?_⟩
  refine ssw_cons ?_
  refine sw_set 3 sc.nd ?_
  refine ew_lst ?_
  refine aw_cons ?_
  refine ew_call C_renewal hr (by decide) ?_
  refine aw_cons ?_
  refine ew_name 0 rfl (by nofun) ?_
  refine aw_cons ?_
  refine ew_tup ?_
  refine aw_cons ?_
  refine ew_int ?_
  refine aw_cons ?_
  refine ew_int ?_
  refine aw_nil ?_
  refine ⟨_, rfl, (Nat.le_of_ble_eq_true rfl), ?_⟩
  refine aw_cons ?_
  refine ew_int ?_
  refine aw_nil ?_
  refine ⟨_, rfl, List.nodup_nil, ⟨2, 3, 0, 1, 2, rfl, ⟨by decide, ⟨by decide, by decide⟩, by decide, by decide⟩, trivial, ?_⟩⟩
  refine aw_cons ?_
  refine ew_call C_keeps_sum hr (by decide) ?_
  refine aw_cons ?_
  refine ew_name 0 rfl (by nofun) ?_
  refine aw_cons ?_
  refine ew_tup ?_
  refine aw_cons ?_
  refine ew_int ?_
  refine aw_cons ?_
  refine ew_int ?_
  refine aw_nil ?_
  refine ⟨_, rfl, (Nat.le_of_ble_eq_true rfl), ?_⟩
  refine aw_cons ?_
  refine ew_slT ?_
  refine ew_name 1 rfl (by nofun) ?_
  refine ow_none ?_
  refine ow_some ?_
  refine ew_int ?_
  refine ⟨_, rfl, ?_⟩
  refine ⟨_, rfl, ?_⟩
  refine aw_nil ?_
  refine ⟨_, rfl, List.nodup_nil, ⟨2, 3, wPre, rfl, ok_wPre, trivial, ?_⟩⟩
  rw [val_pre]
  refine aw_cons ?_
  refine ew_call C_renews hr (by decide) ?_
  refine aw_cons ?_
  refine ew_name 0 rfl (by nofun) ?_
  refine aw_cons ?_
  refine ew_tup ?_
  refine aw_cons ?_
  refine ew_int ?_
  refine aw_cons ?_
  refine ew_int ?_
  refine aw_nil ?_
  refine ⟨_, rfl, (Nat.le_of_ble_eq_true rfl), ?_⟩
  refine aw_cons ?_
  refine ew_name 2 rfl (by nofun) ?_
  refine aw_nil ?_
  refine ⟨_, rfl, List.nodup_nil, ⟨2, 3, wSwap, 0, rfl, ⟨ok_wSwap, by decide +kernel⟩, trivial, ?_⟩⟩
  rw [val_ren0]
  refine aw_cons ?_
  refine ew_call C_how_free hr (by decide) ?_
  refine aw_cons ?_
  refine ew_name 0 rfl (by nofun) ?_
  refine aw_cons ?_
  refine ew_tup ?_
  refine aw_cons ?_
  refine ew_int ?_
  refine aw_cons ?_
  refine ew_int ?_
  refine aw_nil ?_
  refine ⟨_, rfl, (Nat.le_of_ble_eq_true rfl), ?_⟩
  refine aw_cons ?_
  refine ew_name 1 rfl (by nofun) ?_
  refine aw_nil ?_
  refine ⟨_, rfl, List.nodup_nil, ⟨2, 3, wWay, 1, rfl, ⟨ok_wWay, by decide +kernel⟩, trivial, ?_⟩⟩
  refine aw_nil ?_
  refine ⟨_, rfl, (Nat.le_of_ble_eq_true rfl), ?_⟩
  refine ⟨_, rfl, rfl, ?_⟩
  refine ssw_cons ?_
  refine sw_set 4 sc.nd ?_
  refine ew_lst ?_
  refine aw_cons ?_
  refine ew_name 1 rfl (by nofun) ?_
  refine aw_cons ?_
  refine ew_bl ?_
  refine aw_cons ?_
  refine ew_bl ?_
  refine aw_cons ?_
  refine ew_int ?_
  refine aw_nil ?_
  refine ⟨_, rfl, (Nat.le_of_ble_eq_true rfl), ?_⟩
  refine ⟨_, rfl, rfl, ?_⟩
  refine ssw_cons ?_
  refine sw_set 3 sc.nd ?_
  refine ew_catL ?_
  refine ew_name 3 rfl (by nofun) ?_
  refine ew_lst ?_
  refine aw_cons ?_
  refine ew_call C_renews hr (by decide) ?_
  refine aw_cons ?_
  refine ew_name 0 rfl (by nofun) ?_
  refine aw_cons ?_
  refine ew_tup ?_
  refine aw_cons ?_
  refine ew_int ?_
  refine aw_cons ?_
  refine ew_int ?_
  refine aw_nil ?_
  refine ⟨_, rfl, (Nat.le_of_ble_eq_true rfl), ?_⟩
  refine aw_cons ?_
  refine ew_name 1 rfl (by nofun) ?_
  refine aw_nil ?_
  refine ⟨_, rfl, List.nodup_nil, ⟨2, 3, wWay, 1, rfl, ⟨ok_wWay, by decide +kernel⟩, trivial, ?_⟩⟩
  rw [val_ren1]
  refine aw_cons ?_
  refine ew_call C_keeps_sum hr (by decide) ?_
  refine aw_cons ?_
  refine ew_name 0 rfl (by nofun) ?_
  refine aw_cons ?_
  refine ew_tup ?_
  refine aw_cons ?_
  refine ew_int ?_
  refine aw_cons ?_
  refine ew_int ?_
  refine aw_nil ?_
  refine ⟨_, rfl, (Nat.le_of_ble_eq_true rfl), ?_⟩
  refine aw_cons ?_
  refine ew_name 2 rfl (by nofun) ?_
  refine aw_nil ?_
  refine ⟨_, rfl, List.nodup_nil, ⟨2, 3, wSwap, rfl, ok_wSwap, trivial, ?_⟩⟩
  rw [val_swap]
  refine aw_cons ?_
  refine ew_ix ?_
  refine ew_call C_renewal hr (by decide) ?_
  refine aw_cons ?_
  refine ew_tup ?_
  refine aw_cons ?_
  refine ew_int ?_
  refine aw_cons ?_
  refine ew_repT ?_
  refine ew_tup ?_
  refine aw_cons ?_
  refine ew_non ?_
  refine aw_nil ?_
  refine ⟨_, rfl, (Nat.le_of_ble_eq_true rfl), ?_⟩
  refine ew_int ?_
  refine ⟨_, _, rfl, rfl, (by nofun), (by decide), (by decide), (by show 1 ≤ 1000; decide), ?_⟩
  refine aw_cons ?_
  refine ew_call0 C_law_plain hr (by decide) ?_
  refine ⟨rfl, trivial, ?_⟩
  refine aw_nil ?_
  refine ⟨_, rfl, (Nat.le_of_ble_eq_true rfl), ?_⟩
  refine aw_cons ?_
  refine ew_tup ?_
  refine aw_cons ?_
  refine ew_int ?_
  refine aw_cons ?_
  refine ew_int ?_
  refine aw_nil ?_
  refine ⟨_, rfl, (Nat.le_of_ble_eq_true rfl), ?_⟩
  refine aw_cons ?_
  refine ew_int ?_
  refine aw_nil ?_
  refine ⟨_, rfl, List.nodup_nil, ⟨3, 3, 0, 2, 1, rfl, ⟨by decide, ⟨by decide, by decide⟩, by decide, by decide⟩, trivial, ?_⟩⟩
  refine ew_int ?_
  refine ⟨_, _, _, rfl, rfl, rfl, ?_⟩
  refine aw_nil ?_
  refine ⟨_, rfl, (Nat.le_of_ble_eq_true rfl), ?_⟩
  refine ⟨_, _, rfl, rfl, (Nat.le_of_ble_eq_true rfl), ?_⟩
  refine ⟨_, rfl, rfl, ?_⟩
  refine ssw_freeze 3 rfl ?_
  refine ssw_one ?_
  refine sw_ret ?_
  refine ew_call C_law_same hr (by decide) ?_
  refine aw_cons ?_
  refine ew_name 3 rfl (by nofun) ?_
  refine aw_cons ?_
  refine ew_frz ?_
  refine ew_catL ?_
  refine ew_name 4 rfl (by nofun) ?_
  refine ew_lst ?_
  refine aw_cons ?_
  refine ew_bl ?_
  refine aw_cons ?_
  refine ew_bl ?_
  refine aw_cons ?_
  refine ew_tup ?_
  refine aw_cons ?_
  refine ew_str ?_
  refine aw_cons ?_
  refine ew_int ?_
  refine aw_cons ?_
  refine ew_tup ?_
  refine aw_cons ?_
  refine ew_tup ?_
  refine aw_cons ?_
  refine ew_int ?_
  refine aw_cons ?_
  refine ew_int ?_
  refine aw_nil ?_
  refine ⟨_, rfl, (Nat.le_of_ble_eq_true rfl), ?_⟩
  refine aw_cons ?_
  refine ew_tup ?_
  refine aw_cons ?_
  refine ew_int ?_
  refine aw_cons ?_
  refine ew_int ?_
  refine aw_nil ?_
  refine ⟨_, rfl, (Nat.le_of_ble_eq_true rfl), ?_⟩
  refine aw_nil ?_
  refine ⟨_, rfl, (Nat.le_of_ble_eq_true rfl), ?_⟩
  refine aw_nil ?_
  refine ⟨_, rfl, (Nat.le_of_ble_eq_true rfl), ?_⟩
  refine aw_nil ?_
  refine ⟨_, rfl, (Nat.le_of_ble_eq_true rfl), ?_⟩
  refine ⟨_, _, rfl, rfl, (Nat.le_of_ble_eq_true rfl), ?_⟩
  refine ⟨_, rfl, ?_⟩
  refine aw_nil ?_
  refine ⟨_, rfl, List.nodup_nil, ⟨_, rfl, ld_of (by decide +kernel), trivial, ?_⟩⟩
  exact ⟨_, rfl, h⟩

end
end V85

namespace V85
open PySem PySem.Spec PyProof.Rows L2 VX
def pairsAll (p : Int) : List (Int × Int) := (tuplesL p 2).map fun t => (t[0]?.getD 0, t[1]?.getD 0)
def kindsL (p : Int) (ends : List (Int × Int)) : List (Int × Int) := (pairsAll p).filter fun q => decide (q ∈ ends)
def sumH (p : Int) (held : List Int) : Int := (held[0]?.getD 0 + held[1]?.getD 0) % p
def kbF (p sm : Int) (kinds : List (Int × Int)) : Bool := decide ((kinds.filter fun q => !decide ((q.1 + q.2) % p = sm)).map (fun _ => (1 : Int)) = [])
def ebF (ends kinds : List (Int × Int)) : Bool := decide (((ddN (kinds.map fun q => (((ends.filter fun z => decide (z = q)).length : Nat) : Int)) : Nat) : Int) = 1)
def abF (p sm : Int) (kinds : List (Int × Int)) : Bool := decide (((pairsAll p).filter fun q => decide ((q.1 + q.2) % p = sm)) = kinds)
def kbH (p : Int) (w : List It) (held : List Int) : Bool := kbF p (sumH p held) (kindsL p (endsL p w held))
def ebH (p : Int) (w : List It) (held : List Int) : Bool := ebF (endsL p w held) (kindsL p (endsL p w held))
def abH (p : Int) (w : List It) (held : List Int) : Bool := abF p (sumH p held) (kindsL p (endsL p w held))
def szH (p : Int) (w : List It) (held : List Int) : Int := ((kindsL p (endsL p w held)).length : Nat)
def sizeK (p : Int) (k : Nat) : Int := match k with
  | 0 => 1
  | 1 => p
  | _ => p * p
/-- the plain law -/
structure PlainW (p : Int) (n : Nat) (w : List It) : Prop where
  rng : ∀ held ∈ tuplesL p n, ∀ q ∈ endsL p w held, (0 ≤ q.1 ∧ q.1 < p) ∧ (0 ≤ q.2 ∧ q.2 < p)
  fin : ∃ k, k ≤ 2 ∧ freeO p n w = some k ∧ (tuplesL p n).all (kbH p w) = keepsL p n w ∧ (tuplesL p n).all (abH p w) = (keepsL p n w && decide (k = 1)) ∧ (tuplesL p n).all (ebH p w) = true ∧ ∀ held ∈ tuplesL p n, szH p w held = sizeK p k
def PlainT : Prop := ∀ (p : Int) (n : Nat) (w : List It), (p = 2 ∨ p = 3) → (n = 2 ∨ n = 3) → okW p n w → drawsN w ≤ 2 → PlainW p n w
theorem dec_int (a b : Int) : decide (V.int a = V.int b) = decide (a = b) := by
  by_cases h : a = b
  · rw [h, decide_eq_true rfl, decide_eq_true rfl]
  · rw [decide_eq_false h, decide_eq_false fun z => h (V.int.inj z)]
theorem sh_pair (q : Int × Int) : Sh 1 (VX.pairD q) := sh_lints [q.1, q.2]
theorem sh_pairs (xs : List (Int × Int)) : Sh 2 (.lst (xs.map VX.pairD)) := fun t ht => by
  obtain ⟨q, _, rfl⟩ := List.mem_map.mp ht
  exact sh_pair q
theorem eqv_pair (a b : Int × Int) : PyData.eqv (py (VX.pairD a)) (py (VX.pairD b)) = decide (a = b) := by
  have e := eqv_ints [a.1, a.2] [b.1, b.2]
  refine Eq.trans (show _ = PyData.eqvAll (pys ([a.1, a.2].map .int)) (pys ([b.1, b.2].map .int)) from rfl) (e.trans ?_)
  obtain ⟨a1, a2⟩ := a
  obtain ⟨b1, b2⟩ := b
  by_cases h1 : a1 = b1
  · by_cases h2 : a2 = b2 <;> simp [h1, h2]
  · simp [h1]
theorem eqv_pairs : ∀ xs ys : List (Int × Int), PyData.eqvAll (pys (xs.map VX.pairD)) (pys (ys.map VX.pairD)) = decide (xs = ys)
  | [], [] => rfl
  | [], _ :: _ => rfl
  | _ :: _, [] => rfl
  | x :: xs, y :: ys => by
    have ih := eqv_pairs xs ys
    have h0 := eqv_pair x y
    show PyData.eqvAll (py (VX.pairD x) :: pys (xs.map VX.pairD)) (py (VX.pairD y) :: pys (ys.map VX.pairD)) = _
    unfold PyData.eqvAll
    rw [ih, h0]
    by_cases h1 : x = y
    · by_cases h2 : xs = ys <;> simp [h1, h2]
    · simp [h1]
theorem rep_any (L : Nat) (z : Int) : (List.replicate ((L : Nat) : Int).toNat ([.int z] : List VX.D)).flatten = (List.replicate L z).map D.int := by
  rw [Int.toNat_natCast, List.map_replicate]
  induction L with
  | zero => rfl
  | succ L ih => rw [List.replicate_succ, List.replicate_succ, List.flatten_cons, ih]; rfl
theorem sizeK_at {p : Int} {k : Nat} (h : k ≤ 2) : atI ([.int 1, .int p, .int (p * p)] : List VX.D) ((k : Nat) : Int) = some (.int (sizeK p k)) := by
  match k, h with
  | 0, _ => rfl
  | 1, _ => rfl
  | 2, _ => rfl
theorem tuples2 {p : Int} (h : p = 2 ∨ p = 3) : (tuplesL p 2).map intsD = (pairsAll p).map VX.pairD := by
  rcases h with rfl | rfl <;> rfl
theorem pairsAll_len {p : Int} (h : p = 2 ∨ p = 3) : (pairsAll p).length ≤ 9 := by
  rcases h with rfl | rfl <;> decide +kernel
instance lexDec (a b : Int × Int) : Decidable (VX.lexLt a b) := by unfold VX.lexLt; exact inferInstance
theorem pairsAll_sorted {p : Int} (h : p = 2 ∨ p = 3) : (pairsAll p).Pairwise lexLt := by
  rcases h with rfl | rfl <;> decide +kernel
theorem pairsAll_mem {p : Int} (h : p = 2 ∨ p = 3) {q : Int × Int} (h1 : (0 ≤ q.1 ∧ q.1 < p) ∧ (0 ≤ q.2 ∧ q.2 < p)) : q ∈ pairsAll p := by
  obtain ⟨a, b⟩ := q
  obtain ⟨⟨a0, a1⟩, b0, b1⟩ := h1
  rcases h with rfl | rfl
  · have ha : a = 0 ∨ a = 1 := by simp only at a0 a1; omega
    have hb : b = 0 ∨ b = 1 := by simp only at b0 b1; omega
    rcases ha with rfl | rfl <;> rcases hb with rfl | rfl <;> decide +kernel
  · have ha : a = 0 ∨ a = 1 ∨ a = 2 := by simp only at a0 a1; omega
    have hb : b = 0 ∨ b = 1 ∨ b = 2 := by simp only at b0 b1; omega
    rcases ha with rfl | rfl | rfl <;> rcases hb with rfl | rfl | rfl <;> decide +kernel
theorem kindsL_mem {p : Int} (h : p = 2 ∨ p = 3) {ends : List (Int × Int)} (rng : ∀ q ∈ ends, (0 ≤ q.1 ∧ q.1 < p) ∧ (0 ≤ q.2 ∧ q.2 < p)) : ∀ q, q ∈ kindsL p ends ↔ q ∈ ends := fun q => by
  unfold kindsL
  rw [List.mem_filter]
  exact ⟨fun z => of_decide_eq_true z.2, fun z => ⟨pairsAll_mem h (rng q z), decide_eq_true z⟩⟩
theorem tuples_small {p : Int} (h : p = 2 ∨ p = 3) {d : Nat} (hd : d ≤ 2) : (tuplesL p d).length ≤ 9 := by
  have : d = 0 ∨ d = 1 ∨ d = 2 := by omega
  rcases h with rfl | rfl <;> rcases this with rfl | rfl | rfl <;> decide +kernel
theorem tuples_len27 {p : Int} {n : Nat} (h : p = 2 ∨ p = 3) (hn : n = 2 ∨ n = 3) : (tuplesL p n).length ≤ 27 := by
  rcases h with rfl | rfl <;> rcases hn with rfl | rfl <;> decide +kernel
def s_law : Spc := fun as P => ∃ ns : List Int, as = [.dat (.scr (ns.map .int))] ∧ ns.length ≤ 63 ∧ P (.dat (.bl true)) []
section
variable {P : Program} {w : World} {K : PySem.W.Frag} {mg : Str → Option Value} {base : Heap}
abbrev N50 : List Str := ["script", "tin", "p", "count_so", "gear", "crew", "bits", "k", "keeps_so", "sizes_so", "even_so", "all_so", "held_so", "ends_so", "kinds_so", "sum_so", "free_so", "own", "its"]
theorem sc_law : FnScope N50 ["script"] (defScope (topS 50)) := ⟨rfl, rfl, rfl, by decide +kernel, rfl, by decide +kernel, by decide +kernel⟩
theorem law_rest {f : Addr} (B : Bs mg) (C_how_free : C8.Cal P w K mg base 12 "how_free" (spW K s_how_free) []) (C_keeps_sum : C8.Cal P w K mg base 10 "keeps_sum" (spW K s_keeps_sum) []) (C_renews : C8.Cal P w K mg base 13 "renews" (spW K s_renews) [])
    (C_law_same : C8.Cal P w K mg base 9 "_law_same" (spW K (s_law_same 8)) []) (C_law_tuples : C8.Cal P w K mg base 1 "_law_tuples" (spW K s_law_tuples) []) (C_law_ends : C8.Cal P w K mg base 2 "_law_ends" (spW K s_law_ends) [])
    {cdv : Value} {A : Around} {outer : List Env} {s : Shared} {H : Hp} {E : XK} (hr : Room 14 (bx P w K mg base N50 "law" (topS 50) f cdv A outer s H E).A) {sd : D} {t : Tin} {p : Int} {n : Nat} {ws : List It} {x7 : Dsc} {R : Dv → List (List D) → Prop} {dd : List Ag} (hdd : dd = [.dat sd])
    (hp : p = 2 ∨ p = 3) (hn : n = 2 ∨ n = 3) (okw : okW p n ws) (hd2 : drawsN ws ≤ 2) (pl : PlainW p n ws) (h : R (.dat (.bl true)) []) :
    SsW (bx P w K mg base N50 "law" (topS 50) f cdv A outer s H E) ((defBody (topS 50)).drop 5) [.dat sd, .own (tinD t), .dat (.int p), .dat (.int (n : Nat)), .dat (machD p n), .dat (intsD [0, 1]), .dat (wayD ws), x7, .un, .un, .un, .un, .un, .un, .un, .un, .un, .un, .un] (endsW dd R) := by
  subst hdd
  have sc := sc_law
  have hp0 : 0 < p := by omega
  refine ssw_cons ?_
  refine sw_dis4 8 9 10 11 rfl sc.nd ?_
  refine ew_bl ?_
  refine ew_lst ?_
  refine aw_nil ?_
  refine ⟨_, rfl, by decide, ?_⟩
  refine ew_bl ?_
  refine ew_bl ?_
  refine ⟨_, _, _, _, rfl, rfl, rfl, rfl, rfl, rfl, rfl, rfl, ?_⟩
  refine ssw_cons ?_
  refine sw_for rfl PassesOwn.never ?_
  refine iw_lst ?_
  refine ew_call C_law_tuples hr (by decide) ?_
  refine aw_cons ?_
  refine ew_name 2 rfl (by nofun) ?_
  refine aw_cons ?_
  refine ew_name 3 rfl (by nofun) ?_
  refine aw_nil ?_
  refine ⟨_, rfl, List.nodup_nil, ⟨p, n, rfl, ⟨by omega, by omega, by omega⟩, trivial, ?_⟩⟩
  refine ⟨_, .inr rfl, ?_⟩
  refine ⟨fun i Γ => ∃ x12 x13 x14 x15, (∀ ds, x12 ≠ Dsc.io ds) ∧ (∀ ds, x13 ≠ Dsc.io ds) ∧ (∀ ds, x14 ≠ Dsc.io ds) ∧ (∀ ds, x15 ≠ Dsc.io ds) ∧ Γ = [.dat sd, .own (tinD t), .dat (.int p), .dat (.int (n : Nat)), .dat (machD p n), .dat (intsD [0, 1]), .dat (wayD ws), x7, .dat (.bl (((tuplesL p n).take i).all (kbH p ws))), .own ((((tuplesL p n).take i).map (szH p ws)).map .int), .dat (.bl (((tuplesL p n).take i).all (ebH p ws))), .dat (.bl (((tuplesL p n).take i).all (abH p ws))), x12, x13, x14, x15, .un, .un, .un], ⟨.un, .un, .un, .un, (by intro ds e; cases e), (by intro ds e; cases e), (by intro ds e; cases e), (by intro ds e; cases e), rfl⟩, fun i d Γ2 hd hJ => ?_, fun Γ2 hJ => ?_⟩
  ·
    obtain ⟨x12, x13, x14, x15, h12, h13, h14, h15, rfl⟩ := hJ
    rw [List.getElem?_map] at hd
    obtain ⟨held, ho, rfl⟩ := Option.map_eq_some_iff.mp hd
    have hmem := List.mem_of_getElem? ho
    have hhl := (tuples_each n held hmem).1
    have e1 : ∀ f : List Int → Bool, ((tuplesL p n).take (i + 1)).all f = (((tuplesL p n).take i).all f && f held) := fun f => by
      rw [List.take_add_one, ho, List.all_append]
      show (_ && ([held].all f)) = _
      rw [List.all_cons, List.all_nil, Bool.and_true]
    have e2 : (((tuplesL p n).take (i + 1)).map (szH p ws)).map D.int = (((tuplesL p n).take i).map (szH p ws)).map D.int ++ [.int (szH p ws held)] := by
      rw [List.take_add_one, ho, List.map_append, List.map_append]; rfl
    have hszl : ((((tuplesL p n).take i).map (szH p ws)).map D.int).length < 1000000 := by
      have := tuples_len (p := p) (by omega) n
      have := pow5 (n := n) (by omega)
      rw [List.length_map, List.length_map, List.length_take]; omega
    have rng := pl.rng held hmem
    have hel : (endsL p ws held).length < 64 := by
      unfold endsL
      rw [List.length_map]
      have := tuples_small hp (d := drawsN ws) hd2
      omega
    have ekb : kbH p ws held = kbF p (sumH p held) (kindsL p (endsL p ws held)) := rfl
    have eeb : ebH p ws held = ebF (endsL p ws held) (kindsL p (endsL p ws held)) := rfl
    have eab : abH p ws held = abF p (sumH p held) (kindsL p (endsL p ws held)) := rfl
    have esz : szH p ws held = ((kindsL p (endsL p ws held)).length : Nat) := rfl
    have hkl : (kindsL p (endsL p ws held)).length ≤ 9 := Nat.le_trans (List.length_filter_le _ _) (pairsAll_len hp)
    have hkm : ∀ q, q ∈ kindsL p (endsL p ws held) ↔ q ∈ endsL p ws held := kindsL_mem hp rng
    have hks : (kindsL p (endsL p ws held)).Pairwise lexLt := (pairsAll_sorted hp).filter _
    have hs0 : ∃ a b rest, held = a :: b :: rest := by
      match held, hhl with
      | [], h => simp at h; omega
      | [_], h => simp at h; omega
      | a :: b :: rest, _ => exact ⟨a, b, rest, rfl⟩
    refine gw_name 12 sc.nd rfl (canSet_of rfl h12) ?_
    refine ssw_cons ?_
    refine sw_set 13 sc.nd ?_
    refine ew_call C_law_ends hr (by decide) ?_
    refine aw_cons ?_
    refine ew_name 2 rfl (by nofun) ?_
    refine aw_cons ?_
    refine ew_name 6 rfl (by nofun) ?_
    refine aw_cons ?_
    refine ew_name 12 rfl (by nofun) ?_
    refine aw_cons ?_
    refine ew_name 5 rfl (by nofun) ?_
    refine aw_nil ?_
    refine ⟨_, rfl, List.nodup_nil, ⟨p, n, ws, held, rfl, ⟨okw, by omega, hhl, by omega⟩, trivial, ?_⟩⟩
    refine ⟨_, rfl, canSet_of rfl h13, ?_⟩
    refine ssw_cons ?_
    refine sw_set 14 sc.nd ?_
    refine ew_sortedSet rfl hr.units B.sorted B.set ?_
    refine ew_name 13 rfl (by nofun) ?_
    refine ⟨endsL p ws held, kindsL p (endsL p ws held), rfl, hel, fun q hq => by have := rng q hq; omega, hkm, hks, ?_⟩
    refine ⟨_, rfl, canSet_of rfl h14, ?_⟩
    obtain ⟨a, b, rst, rfl⟩ := hs0
    refine ssw_cons ?_
    refine sw_set 15 sc.nd ?_
    refine ew_mod ?_
    refine ew_int1 B.int ?_
    refine ew_add ?_
    refine ew_ix ?_
    refine ew_name 12 rfl (by nofun) ?_
    refine ew_int ?_
    refine ⟨_, 0, .int a, rfl, rfl, atI_ints (ns := a :: b :: rst) (i := 0) rfl, ?_⟩
    refine ew_ix ?_
    refine ew_name 12 rfl (by nofun) ?_
    refine ew_int ?_
    refine ⟨_, 1, .int b, rfl, rfl, atI_ints (ns := a :: b :: rst) (i := 1) rfl, ?_⟩
    refine ⟨_, _, rfl, rfl, ?_⟩
    refine .inl ⟨_, rfl, ?_⟩
    refine ew_name 2 rfl (by nofun) ?_
    refine ⟨_, _, rfl, rfl, hp0, ?_⟩
    refine ⟨_, rfl, canSet_of rfl h15, ?_⟩
    refine ssw_freeze 13 rfl ?_
    refine ssw_freeze 14 rfl ?_
    have esm : sumH p (a :: b :: rst) = (a + b) % p := rfl
    rw [esm] at ekb eab
    generalize endsL p ws (a :: b :: rst) = ends at rng hel ekb eeb eab esz hkl hkm hks
    generalize kindsL p ends = kinds at ekb eeb eab esz hkl hkm hks
    generalize (a + b) % p = sm at ekb eab
    generalize hheld : a :: b :: rst = held at *
    generalize (((tuplesL p n).take i).map (szH p ws)).map D.int = szs at e2 hszl
    generalize hKP : ((tuplesL p n).take i).all (kbH p ws) = KP
    generalize hEV : ((tuplesL p n).take i).all (ebH p ws) = EV
    generalize hAL : ((tuplesL p n).take i).all (abH p ws) = AL
    show SsW _ _ [.dat sd, .own (tinD t), .dat (.int p), .dat (.int (n : Nat)), .dat (machD p n), .dat (intsD [0, 1]), .dat (wayD ws), x7, .dat (.bl KP), .own (szs), .dat (.bl EV), .dat (.bl AL), .dat (intsD held), .dat (.lst (ends.map VX.pairD)), .dat (.lst (kinds.map VX.pairD)), .dat (.int sm), .un, .un, .un] _
    refine ssw_cons ?_
    refine sw_set 8 sc.nd ?_
    refine EW.mono (P := fun x Γ1 => x = .dat (.bl (KP && kbF p sm kinds)) ∧ Γ1 = [.dat sd, .own (tinD t), .dat (.int p), .dat (.int (n : Nat)), .dat (machD p n), .dat (intsD [0, 1]), .dat (wayD ws), x7, .dat (.bl KP), .own (szs), .dat (.bl EV), .dat (.bl AL), .dat (intsD held), .dat (.lst (ends.map VX.pairD)), .dat (.lst (kinds.map VX.pairD)), .dat (.int sm), .un, .un, .un]) ?_ fun x Γ1 ⟨ex, eΓ⟩ => ?_
    · refine ew_and ?_
      refine ew_name 8 rfl (by nofun) ?_
      refine ⟨_, rfl, fun hb => ?_, fun hb => ⟨by rw [hb]; rfl, rfl⟩⟩
      refine ew_one ?_
      refine ew_eq hr ?_
      refine ew_lcF (.one 17) [("own", 17)] VX.pairD (fun _ => .int 1) (fun q => !decide ((q.1 + q.2) % p = sm)) rfl sc.nd (blkOk_by (N := N50) (sc := defScope (topS 50)) (by decide +kernel)) (by decide) (fun _ _ _ _ _ => (pg_name (i := 17) sc.nd rfl (.inl rfl))) ?_
      refine iw_lst ?_
      refine ew_name 14 rfl (by nofun) ?_
      refine ⟨_, .inr rfl, ?_⟩
      refine ⟨kinds, ⟨rfl, by omega, rfl, fun q hx => ⟨_, rfl, ?_⟩⟩, ?_⟩
      · intro s H C cl fp
        refine tw_ne ?_
        refine ew_mod ?_
        refine ew_int1 B.int ?_
        refine ew_sumT rfl B.sum ?_
        refine ew_name 17 rfl (by nofun) ?_
        refine ⟨[q.1, q.2], rfl, ?_⟩
        refine .inl ⟨_, rfl, ?_⟩
        refine ew_name 2 rfl (by nofun) ?_
        refine ⟨_, _, rfl, rfl, hp0, ?_⟩
        refine ew_name 15 rfl (by nofun) ?_
        refine ⟨_, _, _, _, rfl, rfl, rfl, rfl, rfl, ?_⟩
        refine ⟨rfl, ?_, fun hb => ?_⟩
        · rw [dec_int, show ([q.1, q.2] : List Int).sum = q.1 + q.2 by simp]
        · intro s H C cl fp
          refine ew_int ?_
          exact ⟨rfl, rfl⟩
      refine ew_lst ?_
      refine aw_nil ?_
      refine ⟨_, rfl, by decide, ?_⟩
      refine .inr ⟨_, _, rfl, rfl, ?_, rfl, ?_⟩
      · have := shaped_of (sh_lints ((kinds.filter fun q => !decide ((q.1 + q.2) % p = sm)).map fun _ => (1 : Int)))
        rw [List.map_map] at this
        exact this
      · have e := eqv_ints ((kinds.filter fun q => !decide ((q.1 + q.2) % p = sm)).map fun _ => (1 : Int)) []
        rw [List.map_map] at e
        refine ⟨?_, rfl⟩
        rw [hb, Bool.true_and]
        exact congrArg (fun b => Dv.dat (D.bl b)) e
    subst ex eΓ
    refine ⟨_, rfl, rfl, ?_⟩
    show SsW _ _ [.dat sd, .own (tinD t), .dat (.int p), .dat (.int (n : Nat)), .dat (machD p n), .dat (intsD [0, 1]), .dat (wayD ws), x7, .dat (.bl (KP && kbF p sm kinds)), .own (szs), .dat (.bl EV), .dat (.bl AL), .dat (intsD held), .dat (.lst (ends.map VX.pairD)), .dat (.lst (kinds.map VX.pairD)), .dat (.int sm), .un, .un, .un] _
    refine ssw_cons ?_
    refine sw_set 10 sc.nd ?_
    refine EW.mono (P := fun x Γ1 => x = .dat (.bl (EV && ebF ends kinds)) ∧ Γ1 = [.dat sd, .own (tinD t), .dat (.int p), .dat (.int (n : Nat)), .dat (machD p n), .dat (intsD [0, 1]), .dat (wayD ws), x7, .dat (.bl (KP && kbF p sm kinds)), .own (szs), .dat (.bl EV), .dat (.bl AL), .dat (intsD held), .dat (.lst (ends.map VX.pairD)), .dat (.lst (kinds.map VX.pairD)), .dat (.int sm), .un, .un, .un]) ?_ fun x Γ1 ⟨ex, eΓ⟩ => ?_
    · refine ew_and ?_
      refine ew_name 10 rfl (by nofun) ?_
      refine ⟨_, rfl, fun hb => ?_, fun hb => ⟨by rw [hb]; rfl, rfl⟩⟩
      refine ew_one ?_
      refine ew_eq hr ?_
      refine ew_lenSet rfl B.len B.set ?_
      refine ew_lcM (.one 17) [("own", 17)] VX.pairD (fun q => .int ((ends.filter fun z => decide (z = q)).length : Nat)) rfl sc.nd (blkOk_by (N := N50) (sc := defScope (topS 50)) (by decide +kernel)) (by decide) (fun _ _ _ _ _ => (pg_name (i := 17) sc.nd rfl (.inr rfl))) ?_
      refine iw_lst ?_
      refine ew_name 14 rfl (by nofun) ?_
      refine ⟨_, .inr rfl, ?_⟩
      refine ⟨kinds, ⟨rfl, by omega, rfl, fun q hx => ⟨_, rfl, ?_⟩⟩, ?_⟩
      · intro s H C cl fp
        refine ew_len B.len ?_
        refine ew_lcF (.one 18) [("its", 18)] VX.pairD (fun _ => .int 1) (fun z => decide (z = q)) rfl sc.nd (blkOk_by (by kernel_rfl)) (by decide) (fun _ _ _ _ _ => (pg_name (i := 18) sc.nd rfl (.inl rfl))) ?_
        refine iw_lst ?_
        refine ew_name 13 rfl (by nofun) ?_
        refine ⟨_, .inr rfl, ?_⟩
        refine ⟨ends, ⟨rfl, by omega, rfl, fun z hz => ⟨_, rfl, ?_⟩⟩, ?_⟩
        · intro s H C cl fp
          refine tw_eq hr ?_
          refine ew_name 18 rfl (by nofun) ?_
          refine ew_name 17 rfl (by nofun) ?_
          refine .inr ⟨_, _, rfl, rfl, shaped_of (sh_pair z), shaped_of (sh_pair q), ?_⟩
          refine ⟨rfl, eqv_pair z q, fun hb => ?_⟩
          intro s H C cl fp
          refine ew_int ?_
          exact ⟨rfl, rfl⟩
        refine ⟨_, rfl, ?_⟩
        exact ⟨by rw [List.length_map]; rfl, rfl⟩
      refine ⟨kinds.map fun q => (((ends.filter fun z => decide (z = q)).length : Nat) : Int), by rw [List.map_map]; rfl, by rw [List.length_map]; omega, ?_⟩
      refine ew_int ?_
      refine .inl ⟨_, _, _, _, rfl, rfl, rfl, rfl, rfl, ?_⟩
      refine ⟨?_, rfl⟩
      rw [hb, Bool.true_and, dec_int]
      rfl
    subst ex eΓ
    refine ⟨_, rfl, rfl, ?_⟩
    show SsW _ _ [.dat sd, .own (tinD t), .dat (.int p), .dat (.int (n : Nat)), .dat (machD p n), .dat (intsD [0, 1]), .dat (wayD ws), x7, .dat (.bl (KP && kbF p sm kinds)), .own (szs), .dat (.bl (EV && ebF ends kinds)), .dat (.bl AL), .dat (intsD held), .dat (.lst (ends.map VX.pairD)), .dat (.lst (kinds.map VX.pairD)), .dat (.int sm), .un, .un, .un] _
    refine ssw_cons ?_
    refine sw_set 11 sc.nd ?_
    refine EW.mono (P := fun x Γ1 => x = .dat (.bl (AL && abF p sm kinds)) ∧ Γ1 = [.dat sd, .own (tinD t), .dat (.int p), .dat (.int (n : Nat)), .dat (machD p n), .dat (intsD [0, 1]), .dat (wayD ws), x7, .dat (.bl (KP && kbF p sm kinds)), .own (szs), .dat (.bl (EV && ebF ends kinds)), .dat (.bl AL), .dat (intsD held), .dat (.lst (ends.map VX.pairD)), .dat (.lst (kinds.map VX.pairD)), .dat (.int sm), .un, .un, .un]) ?_ fun x Γ1 ⟨ex, eΓ⟩ => ?_
    · refine ew_and ?_
      refine ew_name 11 rfl (by nofun) ?_
      refine ⟨_, rfl, fun hb => ?_, fun hb => ⟨by rw [hb]; rfl, rfl⟩⟩
      refine ew_one ?_
      refine ew_eq hr ?_
      refine ew_lcF (.one 17) [("own", 17)] VX.pairD VX.pairD (fun q => decide ((q.1 + q.2) % p = sm)) rfl sc.nd (blkOk_by (N := N50) (sc := defScope (topS 50)) (by decide +kernel)) (by decide) (fun _ _ _ _ _ => (pg_name (i := 17) sc.nd rfl (.inl rfl))) ?_
      refine iw_lst ?_
      refine ew_call C_law_tuples hr (by decide) ?_
      refine aw_cons ?_
      refine ew_name 2 rfl (by nofun) ?_
      refine aw_cons ?_
      refine ew_int ?_
      refine aw_nil ?_
      refine ⟨_, rfl, List.nodup_nil, ⟨p, 2, rfl, ⟨by omega, by omega, by decide⟩, trivial, ?_⟩⟩
      refine ⟨_, .inr rfl, ?_⟩
      refine ⟨pairsAll p, ⟨tuples2 hp, by have := pairsAll_len hp; omega, rfl, fun q hx => ⟨_, rfl, ?_⟩⟩, ?_⟩
      · intro s H C cl fp
        refine tw_eq hr ?_
        refine ew_mod ?_
        refine ew_int1 B.int ?_
        refine ew_sumT rfl B.sum ?_
        refine ew_name 17 rfl (by nofun) ?_
        refine ⟨[q.1, q.2], rfl, ?_⟩
        refine .inl ⟨_, rfl, ?_⟩
        refine ew_name 2 rfl (by nofun) ?_
        refine ⟨_, _, rfl, rfl, hp0, ?_⟩
        refine ew_name 15 rfl (by nofun) ?_
        refine .inl ⟨_, _, _, _, rfl, rfl, rfl, rfl, rfl, ?_⟩
        refine ⟨rfl, ?_, fun hb => ?_⟩
        · rw [dec_int, show ([q.1, q.2] : List Int).sum = q.1 + q.2 by simp]
        · intro s H C cl fp
          refine ew_name 17 rfl (by nofun) ?_
          exact ⟨rfl, rfl⟩
      refine ew_name 14 rfl (by nofun) ?_
      refine .inr ⟨_, _, rfl, rfl, shaped_of (sh_pairs _), shaped_of (sh_pairs kinds), ?_⟩
      refine ⟨?_, rfl⟩
      rw [hb, Bool.true_and]
      exact congrArg (fun b => Dv.dat (D.bl b)) (eqv_pairs _ kinds)
    subst ex eΓ
    refine ⟨_, rfl, rfl, ?_⟩
    show SsW _ _ [.dat sd, .own (tinD t), .dat (.int p), .dat (.int (n : Nat)), .dat (machD p n), .dat (intsD [0, 1]), .dat (wayD ws), x7, .dat (.bl (KP && kbF p sm kinds)), .own (szs), .dat (.bl (EV && ebF ends kinds)), .dat (.bl (AL && abF p sm kinds)), .dat (intsD held), .dat (.lst (ends.map VX.pairD)), .dat (.lst (kinds.map VX.pairD)), .dat (.int sm), .un, .un, .un] _
    refine ssw_one ?_
    refine sw_expr ?_
    refine ew_append ?_
    refine ew_name 9 rfl (by nofun) ?_
    refine ⟨_, rfl, ?_⟩
    refine ew_len B.len ?_
    refine ew_name 14 rfl (by nofun) ?_
    refine ⟨_, rfl, ?_⟩
    refine ⟨_, _, rfl, rfl, hszl, ?_⟩
    refine ⟨.dat (intsD held), .dat (.lst (ends.map VX.pairD)), .dat (.lst (kinds.map VX.pairD)), .dat (.int sm), (by intro ds e; cases e), (by intro ds e; cases e), (by intro ds e; cases e), (by intro ds e; cases e), ?_⟩
    rw [List.length_map, ← esz, e1, e1, e1, hKP, hEV, hAL, ekb, eeb, eab, e2]
    rfl
  ·
    obtain ⟨x12, x13, x14, x15, h12, h13, h14, h15, rfl⟩ := hJ
    rw [List.length_map, List.take_length]
    obtain ⟨k, hk2, hfree, hkeep, hall, hev, hsz⟩ := pl.fin
    rw [hkeep, hall, hev]
    have hszs : (tuplesL p n).map (szH p ws) = List.replicate (tuplesL p n).length (sizeK p k) := List.eq_replicate_iff.mpr ⟨by rw [List.length_map], fun z hz => by
      obtain ⟨held, hh, rfl⟩ := List.mem_map.mp hz
      exact hsz held hh⟩
    rw [hszs]
    have htn : (tuplesL p n).length ≤ 3125 := Nat.le_trans (tuples_len (by omega) n) (pow5 (by omega))
    have htn9 : (tuplesL p n).length ≤ 1000 := Nat.le_trans (tuples_len27 hp hn) (by decide)
    generalize (tuplesL p n).length = cnt at htn htn9
    refine ssw_cons ?_
    refine sw_set 16 sc.nd ?_
    refine ew_call C_how_free hr (by decide) ?_
    refine aw_cons ?_
    refine ew_name 4 rfl (by nofun) ?_
    refine aw_cons ?_
    refine ew_name 5 rfl (by nofun) ?_
    refine aw_cons ?_
    refine ew_name 6 rfl (by nofun) ?_
    refine aw_nil ?_
    refine ⟨_, rfl, List.nodup_nil, ⟨p, n, ws, k, rfl, ⟨okw, hfree⟩, trivial, ?_⟩⟩
    refine ⟨_, rfl, rfl, ?_⟩
    refine ssw_cons ?_
    refine sw_if ?_
    refine tw_not ?_
    refine tw_val ?_
    refine ew_call C_law_same hr (by decide) ?_
    refine aw_cons ?_
    refine ew_frz ?_
    refine ew_lst ?_
    refine aw_cons ?_
    refine ew_call C_keeps_sum hr (by decide) ?_
    refine aw_cons ?_
    refine ew_name 4 rfl (by nofun) ?_
    refine aw_cons ?_
    refine ew_name 5 rfl (by nofun) ?_
    refine aw_cons ?_
    refine ew_name 6 rfl (by nofun) ?_
    refine aw_nil ?_
    refine ⟨_, rfl, List.nodup_nil, ⟨p, n, ws, rfl, okw, trivial, ?_⟩⟩
    refine aw_cons ?_
    refine ew_call C_renews hr (by decide) ?_
    refine aw_cons ?_
    refine ew_name 4 rfl (by nofun) ?_
    refine aw_cons ?_
    refine ew_name 5 rfl (by nofun) ?_
    refine aw_cons ?_
    refine ew_name 6 rfl (by nofun) ?_
    refine aw_nil ?_
    refine ⟨_, rfl, List.nodup_nil, ⟨p, n, ws, k, rfl, ⟨okw, hfree⟩, trivial, ?_⟩⟩
    refine aw_cons ?_
    refine ew_in ?_
    refine ew_name 16 rfl (by nofun) ?_
    refine ew_tup ?_
    refine aw_cons ?_
    refine ew_int ?_
    refine aw_cons ?_
    refine ew_int ?_
    refine aw_cons ?_
    refine ew_int ?_
    refine aw_nil ?_
    refine ⟨_, rfl, (Nat.le_of_ble_eq_true rfl), ?_⟩
    refine ⟨_, _, _, _, rfl, rfl, rfl, scVs_ints [0, 1, 2], ?_⟩
    rw [inV_ints, decide_eq_true (show ((k : Nat) : Int) ∈ ([0, 1, 2] : List Int) by simp; omega)]
    refine aw_nil ?_
    refine ⟨_, rfl, (Nat.le_of_ble_eq_true rfl), ?_⟩
    refine ⟨_, rfl, ?_⟩
    refine aw_cons ?_
    refine ew_frz ?_
    refine ew_lst ?_
    refine aw_cons ?_
    refine ew_name 8 rfl (by nofun) ?_
    refine aw_cons ?_
    refine ew_name 11 rfl (by nofun) ?_
    refine aw_cons ?_
    refine ew_bl ?_
    refine aw_nil ?_
    refine ⟨_, rfl, (Nat.le_of_ble_eq_true rfl), ?_⟩
    refine ⟨_, rfl, ?_⟩
    refine aw_nil ?_
    refine ⟨_, rfl, List.nodup_nil, ⟨_, rfl, ld_of rfl, trivial, ?_⟩⟩
    refine ⟨_, rfl, ?_⟩
    refine ⟨fun hb => (nomatch hb), fun hb => ?_⟩
    refine ssw_nil ?_
    refine ssw_one ?_
    refine sw_ret ?_
    refine ew_and ?_
    refine ew_name 10 rfl (by nofun) ?_
    refine ⟨_, rfl, fun hb => ?_, fun hb => (nomatch hb)⟩
    refine ew_one ?_
    refine ew_eq hr ?_
    refine ew_name 9 rfl (by nofun) ?_
    refine ew_repL ?_
    refine ew_lst ?_
    refine aw_cons ?_
    refine ew_ix ?_
    refine ew_lst ?_
    refine aw_cons ?_
    refine ew_int ?_
    refine aw_cons ?_
    refine ew_name 2 rfl (by nofun) ?_
    refine aw_cons ?_
    refine ew_mul ?_
    refine ew_name 2 rfl (by nofun) ?_
    refine ew_name 2 rfl (by nofun) ?_
    refine ⟨_, _, rfl, rfl, .inl ⟨by omega, by omega⟩, ?_⟩
    refine aw_nil ?_
    refine ⟨_, rfl, (Nat.le_of_ble_eq_true rfl), ?_⟩
    refine ew_name 16 rfl (by nofun) ?_
    refine ⟨_, _, .int (sizeK p k), rfl, rfl, sizeK_at hk2, ?_⟩
    refine aw_nil ?_
    refine ⟨_, rfl, (Nat.le_of_ble_eq_true rfl), ?_⟩
    refine ew_len B.len ?_
    refine ew_name 9 rfl (by nofun) ?_
    refine ⟨_, rfl, ?_⟩
    rw [List.length_map, List.length_replicate]
    refine ⟨_, _, rfl, rfl, by omega, by omega, by show 1 ≤ 1000; decide, ?_⟩
    rw [rep_any]
    refine .inr ⟨_, _, rfl, rfl, shaped_of (sh_lints _), shaped_of (sh_lints _), ?_⟩
    refine ⟨_, rfl, ?_⟩
    have e := eqv_ints (List.replicate cnt (sizeK p k)) (List.replicate cnt (sizeK p k))
    rw [decide_eq_true rfl] at e
    show R (.dat (.bl (PyData.eqvAll (pys ((List.replicate cnt (sizeK p k)).map .int)) (pys ((List.replicate cnt (sizeK p k)).map .int))))) _
    rw [e]
    exact h
end
end V85

namespace V85
open PySem PySem.Spec PyProof.Rows L2 VX
theorem cut_take {xs : List D} (m : Nat) : VX.cutD xs none (some ((m : Nat) : Int)) = xs.take m := by
  unfold VX.cutD
  rw [HT.sIx_nat, HT.sIx_none, List.drop_zero, Nat.sub_zero, ← List.take_eq_take_min]
theorem cut_drop {xs : List D} (m : Nat) : VX.cutD xs (some ((m : Nat) : Int)) none = xs.drop m := by
  unfold VX.cutD
  rw [HT.sIx_nat, HT.sIx_none]
  by_cases h : m ≤ xs.length
  · rw [Nat.min_eq_left h]
    exact List.take_of_length_le (by rw [List.length_drop]; omega)
  · rw [Nat.min_eq_right (by omega), List.drop_of_length_le (Nat.le_refl _), List.drop_of_length_le (by omega), List.take_nil]
theorem rep_non (m : Nat) : (List.replicate ((m : Nat) : Int).toNat ([.non] : List VX.D)).flatten = List.replicate m .non := by
  rw [Int.toNat_natCast]
  induction m with
  | zero => rfl
  | succ m ih => rw [List.replicate_succ, List.replicate_succ, List.flatten_cons, ih]; rfl
def cutW (p : Int) (k : Nat) : List It := (fresh p 0 1 2).take k ++ (fresh p 0 1 2).drop (k + 1)
theorem cutW_ok {p : Int} (hp : p = 2 ∨ p = 3) {k : Nat} (hk : k < 8) : okW p 3 (cutW p k) ∧ drawsN (cutW p k) ≤ 2 := by
  have h2 : ∀ k, k < 8 → (cutW 2 k).length ≤ 100 ∧ (cutW 2 k).all (okItB 2 3) = true ∧ drawsN (cutW 2 k) ≤ 2 := by decide +kernel
  have h3 : ∀ k, k < 8 → (cutW 3 k).length ≤ 100 ∧ (cutW 3 k).all (okItB 3 3) = true ∧ drawsN (cutW 3 k) ≤ 2 := by decide +kernel
  rcases hp with rfl | rfl
  · obtain ⟨a, b, c⟩ := h2 k hk
    exact ⟨okW_of (by decide) (by decide) a b, c⟩
  · obtain ⟨a, b, c⟩ := h3 k hk
    exact ⟨okW_of (by decide) (by decide) a b, c⟩
section
variable {P : Program} {w : World} {K : PySem.W.Frag} {mg : Str → Option Value} {base : Heap}
theorem ok_law (PT : PlainT) {f : Addr} {fd : FuncData} (F : Fun K "law" "law" (topS 50) f fd) (B : Bs mg) (C_law_by_hand_right : C8.Cal P w K mg base 14 "_law_by_hand_right" (spW K s_law_by_hand_right) []) (C_law_box : C8.Cal P w K mg base 1 "_law_box" (spW K s_law_box) []) (C_law_cells : C8.Cal P w K mg base 1 "_law_cells" (spW K s_law_cells) [])
    (C_law_of : C8.Cal P w K mg base 2 "_law_of" (spW K s_law_of) []) (C_law_plain : C8.Cal P w K mg base 1 "_law_plain" (spW K s_law_plain) []) (C_law_take : C8.Cal P w K mg base 1 "_law_take" (spW K s_law_take) []) (C_law_fresh : C8.Cal P w K mg base 1 "_law_fresh" (spW K s_law_fresh) []) (C_law_any_bits : C8.Cal P w K mg base 3 "_law_any_bits" (spW K s_law_any_bits) [])
    (C_how_free : C8.Cal P w K mg base 12 "how_free" (spW K s_how_free) []) (C_keeps_sum : C8.Cal P w K mg base 10 "keeps_sum" (spW K s_keeps_sum) []) (C_renews : C8.Cal P w K mg base 13 "renews" (spW K s_renews) [])
    (C_law_same : C8.Cal P w K mg base 9 "_law_same" (spW K (s_law_same 8)) []) (C_law_tuples : C8.Cal P w K mg base 1 "_law_tuples" (spW K s_law_tuples) []) (C_law_ends : C8.Cal P w K mg base 2 "_law_ends" (spW K s_law_ends) []) : FnOk P w K mg base CX0 15 f fd ["script"] (spW K s_law) := by
  have sc := sc_law
  refine fn_w F sc (fun as P h => ?_) fun cdv A outer s H E hr as R h => ?_
  · obtain ⟨ns, rfl, h⟩ := h
    rfl
  obtain ⟨ns, rfl, hns, h⟩ := h
  show SsW _ _ [.dat (.scr (ns.map .int)), .un, .un, .un, .un, .un, .un, .un, .un, .un, .un, .un, .un, .un, .un, .un, .un, .un, .un] _
  refine ssw_cons ?_
  refine sw_if ?_
  refine tw_not ?_
  refine tw_val ?_
  refine ew_call0 C_law_by_hand_right hr (by decide) ?_
  refine ⟨rfl, trivial, ?_⟩
  refine ⟨_, rfl, ?_⟩
  refine ⟨fun hb => (nomatch hb), fun hb => ?_⟩
  refine ssw_nil ?_
  refine ssw_cons ?_
  refine sw_set 1 sc.nd ?_
  refine ew_call C_law_box hr (by decide) ?_
  refine aw_cons ?_
  refine ew_frz ?_
  refine ew_call C_law_cells hr (by decide) ?_
  refine aw_cons ?_
  refine ew_name 0 rfl (by nofun) ?_
  refine aw_cons ?_
  refine ew_int ?_
  refine aw_nil ?_
  refine ⟨_, rfl, List.nodup_nil, ⟨ns, rfl, hns, fun c => ⟨trivial, ?_⟩⟩⟩
  refine ⟨_, rfl, ?_⟩
  refine aw_cons ?_
  refine ew_int ?_
  refine aw_nil ?_
  refine ⟨_, rfl, List.nodup_nil, ⟨c, rfl, fun t ht => ⟨trivial, ?_⟩⟩⟩
  refine ⟨_, rfl, rfl, ?_⟩
  have hsd : ∃ sd, sd = D.scr (ns.map .int) := ⟨_, rfl⟩
  obtain ⟨sd, hsd⟩ := hsd
  show SsW _ _ [.dat (.scr (ns.map .int)), .own (tinD t), .un, .un, .un, .un, .un, .un, .un, .un, .un, .un, .un, .un, .un, .un, .un, .un, .un] _
  rw [← hsd]
  refine ssw_cons ?_
  refine sw_asg ?_
  refine ew_call C_law_of hr (by decide) ?_
  refine aw_cons ?_
  refine ew_name 1 rfl (by nofun) ?_
  refine aw_cons ?_
  refine ew_frz ?_
  refine ew_lst ?_
  refine aw_cons ?_
  refine ew_tup ?_
  refine aw_cons ?_
  refine ew_int ?_
  refine aw_cons ?_
  refine ew_int ?_
  refine aw_nil ?_
  refine ⟨_, rfl, (Nat.le_of_ble_eq_true rfl), ?_⟩
  refine aw_cons ?_
  refine ew_tup ?_
  refine aw_cons ?_
  refine ew_int ?_
  refine aw_cons ?_
  refine ew_int ?_
  refine aw_nil ?_
  refine ⟨_, rfl, (Nat.le_of_ble_eq_true rfl), ?_⟩
  refine aw_cons ?_
  refine ew_tup ?_
  refine aw_cons ?_
  refine ew_int ?_
  refine aw_cons ?_
  refine ew_int ?_
  refine aw_nil ?_
  refine ⟨_, rfl, (Nat.le_of_ble_eq_true rfl), ?_⟩
  refine aw_cons ?_
  refine ew_tup ?_
  refine aw_cons ?_
  refine ew_int ?_
  refine aw_cons ?_
  refine ew_int ?_
  refine aw_nil ?_
  refine ⟨_, rfl, (Nat.le_of_ble_eq_true rfl), ?_⟩
  refine aw_nil ?_
  refine ⟨_, rfl, (Nat.le_of_ble_eq_true rfl), ?_⟩
  refine ⟨_, rfl, ?_⟩
  refine aw_nil ?_
  refine ⟨_, rfl, (by show ([1] : List Nat).Nodup; decide), ⟨t, _, 0, rfl, ⟨ht, by decide, Nat.le_of_ble_eq_true rfl, Nat.le_of_ble_eq_true rfl⟩, fun g t1 hg ht1 => ⟨trivial, ?_⟩⟩⟩
  obtain ⟨p, n, rfl, hp, hn⟩ : ∃ (p : Int) (n : Nat), g = .tup [.int p, .int (n : Nat)] ∧ (p = 2 ∨ p = 3) ∧ (n = 2 ∨ n = 3) := by
    rcases List.mem_cons.mp hg with rfl | hg
    · exact ⟨2, 3, rfl, .inl rfl, .inr rfl⟩
    · rcases List.mem_cons.mp hg with rfl | hg
      · exact ⟨2, 3, rfl, .inl rfl, .inr rfl⟩
      · rcases List.mem_cons.mp hg with rfl | hg
        · exact ⟨3, 2, rfl, .inr rfl, .inl rfl⟩
        · rw [List.mem_singleton.mp hg]
          exact ⟨3, 3, rfl, .inr rfl, .inr rfl⟩
  refine gw_tup rfl rfl ?_
  refine gsw_cons ?_
  refine gw_name 2 sc.nd rfl rfl ?_
  refine gsw_cons ?_
  refine gw_name 3 sc.nd rfl rfl ?_
  refine gsw_nil ?_
  show SsW _ _ [.dat sd, .own (tinD t1), .dat (.int p), .dat (.int (n : Nat)), .un, .un, .un, .un, .un, .un, .un, .un, .un, .un, .un, .un, .un, .un, .un] _
  refine ssw_cons ?_
  refine sw_par 4 5 rfl sc.nd ?_
  refine ew_tup ?_
  refine aw_cons ?_
  refine ew_name 2 rfl (by nofun) ?_
  refine aw_cons ?_
  refine ew_repT ?_
  refine ew_tup ?_
  refine aw_cons ?_
  refine ew_non ?_
  refine aw_nil ?_
  refine ⟨_, rfl, (Nat.le_of_ble_eq_true rfl), ?_⟩
  refine ew_name 3 rfl (by nofun) ?_
  refine ⟨_, _, rfl, rfl, (by nofun), (by omega), (by omega), (by show 1 ≤ 1000; decide), ?_⟩
  rw [rep_non]
  refine aw_cons ?_
  refine ew_call0 C_law_plain hr (by decide) ?_
  refine ⟨rfl, trivial, ?_⟩
  refine aw_nil ?_
  refine ⟨_, rfl, (Nat.le_of_ble_eq_true rfl), ?_⟩
  refine ew_tup ?_
  refine aw_cons ?_
  refine ew_int ?_
  refine aw_cons ?_
  refine ew_int ?_
  refine aw_nil ?_
  refine ⟨_, rfl, (Nat.le_of_ble_eq_true rfl), ?_⟩
  refine ⟨_, _, rfl, rfl, rfl, rfl, ?_⟩
  show SsW _ _ [.dat sd, .own (tinD t1), .dat (.int p), .dat (.int (n : Nat)), .dat (machD p n), .dat (intsD [0, 1]), .un, .un, .un, .un, .un, .un, .un, .un, .un, .un, .un, .un, .un] _
  refine ssw_cons ?_
  refine sw_if ?_
  refine TW.mono (P := fun k Γ1 => ∃ t2 : Tin, okT 2 t2 ∧ Γ1 = [.dat sd, .own (tinD t2), .dat (.int p), .dat (.int (n : Nat)), .dat (machD p n), .dat (intsD [0, 1]), .un, .un, .un, .un, .un, .un, .un, .un, .un, .un, .un, .un, .un] ∧ (k = true → n = 3)) ?_ fun k Γ1 ⟨t2, ht2, eΓ, hk⟩ => ⟨fun hb => ?_, fun hb => ?_⟩
  · refine tw_w ?_
    refine ww_and ?_
    refine tw_eq hr ?_
    refine ew_name 3 rfl (by nofun) ?_
    refine ew_int ?_
    refine .inl ⟨_, _, _, _, rfl, rfl, rfl, rfl, rfl, ?_⟩
    rw [dec_int]
    refine ⟨fun hb => ?_, fun hb => ⟨t1, ht1.mono (by decide), rfl, fun z => by cases z⟩⟩
    refine ww_one ?_
    refine tw_eq hr ?_
    refine ew_call C_law_take hr (by decide) ?_
    refine aw_cons ?_
    refine ew_name 1 rfl (by nofun) ?_
    refine aw_cons ?_
    refine ew_int ?_
    refine aw_nil ?_
    refine ⟨_, rfl, (by show ([1] : List Nat).Nodup; decide), ⟨t1, 2, 1, rfl, ⟨ht1, by decide, by decide, by decide⟩, fun r1 t2 _ _ ht2 => ⟨trivial, ?_⟩⟩⟩
    refine ew_int ?_
    refine .inl ⟨_, _, _, _, rfl, rfl, rfl, rfl, rfl, ?_⟩
    have := of_decide_eq_true hb
    exact ⟨t2, ht2, rfl, fun _ => by omega⟩
  · subst eΓ
    have hn3 : n = 3 := hk hb
    subst hn3
    refine ssw_cons ?_
    refine sw_set 6 sc.nd ?_
    refine ew_call C_law_fresh hr (by decide) ?_
    refine aw_cons ?_
    refine ew_name 2 rfl (by nofun) ?_
    refine aw_cons ?_
    refine ew_name 5 rfl (by nofun) ?_
    refine aw_cons ?_
    refine ew_int ?_
    refine aw_nil ?_
    refine ⟨_, rfl, List.nodup_nil, ⟨p, 0, 1, 2, rfl, ⟨by decide, by decide⟩, trivial, ?_⟩⟩
    refine ⟨_, rfl, rfl, ?_⟩
    refine ssw_cons ?_
    refine sw_set 7 sc.nd ?_
    refine ew_call C_law_take hr (by decide) ?_
    refine aw_cons ?_
    refine ew_name 1 rfl (by nofun) ?_
    refine aw_cons ?_
    refine ew_int ?_
    refine aw_nil ?_
    refine ⟨_, rfl, (by show ([1] : List Nat).Nodup; decide), ⟨t2, 8, 2, rfl, ⟨ht2, by decide, by decide, by decide⟩, fun r2 t3 hr20 hr21 ht3 => ⟨trivial, ?_⟩⟩⟩
    refine ⟨_, rfl, rfl, ?_⟩
    obtain ⟨kk, rfl⟩ : ∃ kk : Nat, r2 = (kk : Int) := ⟨r2.toNat, (Int.toNat_of_nonneg hr20).symm⟩
    refine ssw_one ?_
    refine sw_set 6 sc.nd ?_
    refine ew_catT ?_
    refine ew_slT ?_
    refine ew_name 6 rfl (by nofun) ?_
    refine ow_none ?_
    refine ow_some ?_
    refine ew_name 7 rfl (by nofun) ?_
    refine ⟨_, rfl, ?_⟩
    refine ⟨_, rfl, ?_⟩
    refine ew_slT ?_
    refine ew_name 6 rfl (by nofun) ?_
    refine ow_some ?_
    refine ew_add ?_
    refine ew_name 7 rfl (by nofun) ?_
    refine ew_int ?_
    refine ⟨_, _, rfl, rfl, ?_⟩
    refine ⟨_, rfl, ?_⟩
    refine ow_none ?_
    refine ⟨_, rfl, ?_⟩
    rw [cut_take, show ((kk : Int) + 1) = ((kk + 1 : Nat) : Int) by omega, cut_drop, ← List.map_take, ← List.map_drop]
    refine ⟨_, _, rfl, rfl, ?_, ?_⟩
    · rw [List.length_map, List.length_map, List.length_take, List.length_drop]
      show min kk 4 + (4 - (kk + 1)) ≤ 1000000
      omega
    rw [← List.map_append]
    refine ⟨_, rfl, rfl, ?_⟩
    obtain ⟨q1, q2⟩ := cutW_ok hp (k := kk) (by omega)
    exact law_rest B C_how_free C_keeps_sum C_renews C_law_same C_law_tuples C_law_ends hr (ws := cutW p kk) (by rw [hsd]) hp hn q1 q2 (PT p 3 _ hp hn q1 q2) h
  · subst eΓ
    refine ssw_one ?_
    refine sw_set 6 sc.nd ?_
    refine ew_call C_law_any_bits hr (by decide) ?_
    refine aw_cons ?_
    refine ew_name 1 rfl (by nofun) ?_
    refine aw_cons ?_
    refine ew_name 2 rfl (by nofun) ?_
    refine aw_cons ?_
    refine ew_name 3 rfl (by nofun) ?_
    refine aw_nil ?_
    refine ⟨_, rfl, (by show ([1] : List Nat).Nodup; decide), ⟨t2, p, n, 2, rfl, ⟨ht2, by decide, by omega, by omega, by omega⟩, fun ws t3 hwl hwd hwo ht3 => ⟨trivial, ?_⟩⟩⟩
    refine ⟨_, rfl, rfl, ?_⟩
    have q1 : okW p n ws := ⟨by omega, by omega, by omega, hwo⟩
    exact law_rest B C_how_free C_keeps_sum C_renews C_law_same C_law_tuples C_law_ends hr (ws := ws) (by rw [hsd]) hp hn q1 hwd (PT p n _ hp hn q1 hwd) h
end
end V85

namespace V85
open PySem PySem.Spec PyProof.Rows L2 VX
/-! ### the plain law -/
def dot : List Int → List Int → Int
  | a :: as, b :: bs => a * b + dot as bs
  | _, _ => 0
def Cg (p a b : Int) : Prop := ∃ t, a = b + p * t
theorem Cg.emod {p a b : Int} (h : Cg p a b) : a % p = b % p := by
  obtain ⟨t, rfl⟩ := h
  exact Int.add_mul_emod_self_left b p t
theorem Cg.mod (p a : Int) : Cg p (a % p) a := ⟨-(a / p), by rw [Int.emod_def]; grind⟩
theorem Cg.refl (p a : Int) : Cg p a a := ⟨0, by grind⟩
theorem Cg.trans {p a b c : Int} (h : Cg p a b) (k : Cg p b c) : Cg p a c := by
  obtain ⟨t, rfl⟩ := h
  obtain ⟨u, rfl⟩ := k
  exact ⟨t + u, by grind⟩
theorem Cg.symm {p a b : Int} (h : Cg p a b) : Cg p b a := by
  obtain ⟨t, rfl⟩ := h
  exact ⟨-t, by grind⟩
theorem Cg.add {p a b c d : Int} (h : Cg p a b) (k : Cg p c d) : Cg p (a + c) (b + d) := by
  obtain ⟨t, rfl⟩ := h
  obtain ⟨u, rfl⟩ := k
  exact ⟨t + u, by grind⟩
theorem Cg.mul {p a b : Int} (h : Cg p a b) (c : Int) : Cg p (c * a) (c * b) := by
  obtain ⟨t, rfl⟩ := h
  exact ⟨c * t, by grind⟩
theorem dot_append : ∀ (a1 b1 a2 b2 : List Int), a1.length = b1.length → dot (a1 ++ a2) (b1 ++ b2) = dot a1 b1 + dot a2 b2
  | [], [], _, _, _ => by simp [dot]
  | a :: as, b :: bs, a2, b2, h => by
    have ih := dot_append as bs a2 b2 (by simpa using h)
    show a * b + dot (as ++ a2) (bs ++ b2) = (a * b + dot as bs) + dot a2 b2
    rw [ih]; omega
  | [], _ :: _, _, _, h => by simp at h
  | _ :: _, [], _, _, h => by simp at h
theorem dot_unit (k : Nat) : ∀ (x : List Int) (s : Nat), dot ((List.range' s x.length).map fun j => if j = k then 1 else 0) x = if s ≤ k then x[k - s]?.getD 0 else 0
  | [], s => by simp [dot]
  | a :: x, s => by
    have ih := dot_unit k x (s + 1)
    rw [List.length_cons, List.range'_succ, List.map_cons]
    show (if s = k then 1 else 0) * a + dot _ x = _
    rw [ih]
    by_cases h1 : s = k
    · subst h1
      rw [if_pos rfl, if_neg (by omega), if_pos (Nat.le_refl _), Nat.sub_self]
      simp
    · rw [if_neg h1]
      by_cases h2 : s ≤ k
      · rw [if_pos (by omega), if_pos h2, show k - s = (k - (s + 1)) + 1 by omega, List.getElem?_cons_succ]
        omega
      · rw [if_neg (by omega), if_neg h2]; omega
theorem dot_zero : ∀ x : List Int, dot (List.replicate x.length 0) x = 0
  | [] => rfl
  | a :: x => by
    have ih := dot_zero x
    rw [List.length_cons, List.replicate_succ]
    show 0 * a + dot _ x = 0
    rw [ih]; omega
theorem dot_addRow (p f : Int) : ∀ own row x : List Int, own.length = x.length → row.length = x.length → Cg p (dot (addRow p own row f) x) (dot own x + f * dot row x)
  | [], [], [], _, _ => ⟨0, by simp [addRow, dot]⟩
  | o :: own, r :: row, a :: x, h1, h2 => by
    obtain ⟨t, ht⟩ := dot_addRow p f own row x (by simpa using h1) (by simpa using h2)
    refine ⟨t - ((o + f * r) / p) * a, ?_⟩
    show ((o + f * r) % p) * a + dot (addRow p own row f) x = (o * a + dot own x) + f * (r * a + dot row x) + p * (t - ((o + f * r) / p) * a)
    rw [ht, Int.emod_def]
    grind
  | [], [], _ :: _, h, _ => by simp at h
  | [], _ :: _, [], _, h => by simp at h
  | [], _ :: _, _ :: _, h, _ => by simp at h
  | _ :: _, _, [], h, _ => by simp at h
  | _ :: _, [], _ :: _, _, h => by simp at h
theorem dot_combL {p : Int} {rows : List (List Int)} {x : List Int} (hr : ∀ r ∈ rows, r.length = x.length) : ∀ (l : List (Int × Int)) (own : List Int), own.length = x.length → (∀ q ∈ l, q.1.toNat < rows.length) →
    Cg p (dot (combL p rows own l) x) (dot own x + (l.map fun q => q.2 * dot (rows[q.1.toNat]?.getD []) x).sum)
  | [], own, _, _ => ⟨0, by simp [combL]⟩
  | q :: l, own, h, hq => by
    rw [combL_cons, List.map_cons, List.sum_cons]
    have h1 := hq q List.mem_cons_self
    have e : rows[q.1.toNat]? = some rows[q.1.toNat] := List.getElem?_eq_getElem h1
    have hl : (rows[q.1.toNat]?.getD []).length = x.length := by rw [e]; exact hr _ (List.getElem_mem h1)
    have hl2 : (addRow p own (rows[q.1.toNat]?.getD []) q.2).length = x.length := by
      unfold addRow
      rw [List.length_map, List.length_zip, hl, h, Nat.min_self]
    have ih := dot_combL (p := p) hr l (addRow p own (rows[q.1.toNat]?.getD []) q.2) hl2 fun z hz => hq z (List.mem_cons_of_mem _ hz)
    have h3 := dot_addRow p q.2 own (rows[q.1.toNat]?.getD []) x h hl
    refine ih.trans ?_
    obtain ⟨t, ht⟩ := h3
    exact ⟨t, by rw [ht]; omega⟩
def getI (l : List Int) (k : Nat) : Int := l[k]?.getD 0
def getR (rows : List (List Int)) (k : Nat) : List Int := rows[k]?.getD []
theorem sum_cg {p : Int} {α : Type} {f g : α → Int} : ∀ l : List α, (∀ q ∈ l, Cg p (f q) (g q)) → Cg p (l.map f).sum (l.map g).sum
  | [], _ => Cg.refl _ _
  | q :: l, h => by
    rw [List.map_cons, List.map_cons, List.sum_cons, List.sum_cons]
    exact (h q List.mem_cons_self).add (sum_cg l fun z hz => h z (List.mem_cons_of_mem _ hz))
theorem dot_unitL {L k : Nat} {x : List Int} (h : x.length = L) : dot (unitL L k) x = getI x k := by
  unfold unitL
  rw [← h, List.range_eq_range']
  have := dot_unit k x 0
  rw [if_pos (Nat.zero_le _), Nat.sub_zero] at this
  exact this
theorem getI_set {l : List Int} {s k : Nat} {z : Int} (h : s < l.length) : getI (l.set s z) k = if s = k then z else getI l k := by
  unfold getI
  by_cases e : s = k
  · subst e; rw [if_pos rfl, List.getElem?_set_self h]; rfl
  · rw [if_neg e, List.getElem?_set_ne e]
theorem getR_set {l : List (List Int)} {s k : Nat} {z : List Int} (h : s < l.length) : getR (l.set s z) k = if s = k then z else getR l k := by
  unfold getR
  by_cases e : s = k
  · subst e; rw [if_pos rfl, List.getElem?_set_self h]; rfl
  · rw [if_neg e, List.getElem?_set_ne e]
theorem run_inv {p : Int} {n L : Nat} {x : List Int} (hx : x.length = L) (hxr : ∀ z ∈ x, 0 ≤ z ∧ z < p) : ∀ (w : List It) (rows : List (List Int)) (dn : Nat) (now left : List Int), rows.length = n → now.length = n → (∀ r ∈ rows, r.length = L) → (∀ it ∈ w, okIt p n it) →
    (∀ k, k < n → getI now k = dot (getR rows k) x % p) → left = x.drop dn → dn + drawsN w ≤ L →
    ∀ k, k < n → getI (w.foldl (runStep p) (now, left)).1 k = dot (getR (w.foldl (heldStep p L) (rows, dn)).1 k) x % p
  | [], rows, dn, now, left, _, _, _, _, h, _, _ => h
  | it :: w, rows, dn, now, left, h1, h2, h3, ok, h4, h5, h6 => by
    rw [List.foldl_cons, List.foldl_cons]
    have o := ok it List.mem_cons_self
    cases it with
    | dr s =>
      obtain ⟨o1, o2⟩ : 0 ≤ s ∧ s < n := o
      have e0 : drawsN (.dr s :: w) = drawsN w + 1 := rfl
      have hdn : dn < x.length := by omega
      have hl : left = x[dn] :: x.drop (dn + 1) := by rw [h5]; exact List.drop_eq_getElem_cons hdn
      have hg : getI x dn = x[dn] := by unfold getI; rw [List.getElem?_eq_getElem hdn]; rfl
      refine run_inv hx hxr w (rows.set s.toNat (unitL L dn)) (dn + 1) (now.set s.toNat (left.headD 0)) left.tail (by rw [List.length_set]; exact h1) (by rw [List.length_set]; exact h2) (fun r hr => ?_) (fun j hj => ok j (List.mem_cons_of_mem _ hj)) (fun k hk => ?_) (by rw [hl]; rfl) (by omega)
      · rcases List.mem_or_eq_of_mem_set hr with hr | rfl
        · exact h3 r hr
        · unfold unitL; rw [List.length_map, List.length_range]
      · rw [getI_set (by omega), getR_set (by omega)]
        by_cases e : s.toNat = k
        · rw [if_pos e, if_pos e, dot_unitL hx, hg, hl]
          have := hxr _ (List.getElem_mem hdn)
          exact (Int.emod_eq_of_lt this.1 this.2).symm
        · rw [if_neg e, if_neg e]
          exact h4 k hk
    | st s l =>
      obtain ⟨⟨o1, o2⟩, o3, o4, o5⟩ := o
      have e0 : drawsN (.st s l :: w) = drawsN w := rfl
      have hq : ∀ q ∈ l, q.1.toNat < rows.length := fun q hq => by have := (o5 q hq).1; omega
      refine run_inv hx hxr w (rows.set s.toNat (combL p rows (List.replicate L 0) l)) dn (now.set s.toNat ((l.map fun q => q.2 * (now[q.1.toNat]?.getD 0)).sum % p)) left (by rw [List.length_set]; exact h1) (by rw [List.length_set]; exact h2) (fun r hr => ?_) (fun j hj => ok j (List.mem_cons_of_mem _ hj)) (fun k hk => ?_) h5 (by omega)
      · rcases List.mem_or_eq_of_mem_set hr with hr | rfl
        · exact h3 r hr
        · exact combL_len h3 l _ (by rw [List.length_replicate]) hq
      · rw [getI_set (by omega), getR_set (by omega)]
        by_cases e : s.toNat = k
        · rw [if_pos e, if_pos e]
          refine Cg.emod ?_
          have c1 := dot_combL (p := p) (x := x) (fun r hr => by rw [h3 r hr, hx]) l (List.replicate L 0) (by rw [List.length_replicate, hx]) hq
          have z0 : dot (List.replicate L 0) x = 0 := by rw [← hx]; exact dot_zero x
          rw [z0, Int.zero_add] at c1
          refine Cg.trans ?_ c1.symm
          refine sum_cg l fun q hq' => ?_
          refine Cg.mul ?_ q.2
          have := h4 q.1.toNat (by have := (o5 q hq').1; omega)
          show Cg p (getI now q.1.toNat) (dot (getR rows q.1.toNat) x)
          rw [this]
          exact Cg.mod _ _
        · rw [if_neg e, if_neg e]
          exact h4 k hk
/-! ### ends: an affine image of the draws -/
def affP (p : Int) (m0 m1 : List Int) (c0 c1 : Int) (dr : List Int) : Int × Int := ((c0 + dot m0 dr) % p, (c1 + dot m1 dr) % p)
def endsA (p : Int) (d : Nat) (m0 m1 : List Int) (c0 c1 : Int) : List (Int × Int) := (tuplesL p d).map (affP p m0 m1 c0 c1)
theorem ends_aff {p : Int} {n : Nat} {w : List It} (ok : okW p n w) {held : List Int} (hh : held ∈ tuplesL p n) :
    endsL p w held = endsA p (drawsN w) ((row0 p n w).drop n) ((row1 p n w).drop n) (dot ((row0 p n w).take n) held % p) (dot ((row1 p n w).take n) held % p) := by
  obtain ⟨hl, hr⟩ := tuples_each n held hh
  obtain ⟨hr0, hr1⟩ := row_len ok
  unfold endsL endsA
  refine List.map_congr_left fun dr hdr => ?_
  obtain ⟨dl, drr⟩ := tuples_each _ dr hdr
  have hx : (held ++ dr).length = n + drawsN w := by rw [List.length_append, hl, dl]
  have hxr : ∀ z ∈ held ++ dr, 0 ≤ z ∧ z < p := fun z hz => (List.mem_append.mp hz).elim (hr z) (drr z)
  have key := run_inv hx hxr w ((List.range n).map (unitL (n + drawsN w))) n held dr (by rw [List.length_map, List.length_range]) hl (fun r hr' => by
      obtain ⟨k, _, rfl⟩ := List.mem_map.mp hr'
      unfold unitL; rw [List.length_map, List.length_range]) ok.2.2.2 (fun k hk => by
      have e : getR ((List.range n).map (unitL (n + drawsN w))) k = unitL (n + drawsN w) k := by
        unfold getR; rw [List.getElem?_map, List.getElem?_range hk]; rfl
      rw [e, dot_unitL hx]
      have e2 : getI (held ++ dr) k = getI held k := by unfold getI; rw [List.getElem?_append_left (by omega)]
      rw [e2]
      have hk' : k < held.length := by omega
      have e3 : getI held k = held[k] := by unfold getI; rw [List.getElem?_eq_getElem hk']; rfl
      rw [e3]
      have := hr _ (List.getElem_mem hk')
      exact (Int.emod_eq_of_lt this.1 this.2).symm) (by rw [← hl, List.drop_left]) (Nat.le_refl _)
  have k0 := key 0 (by have := ok.2.1.1; omega)
  have k1 := key 1 (by have := ok.2.1.1; omega)
  have sp : ∀ r : List Int, r.length = n + drawsN w → dot r (held ++ dr) % p = (dot (r.take n) held % p + dot (r.drop n) dr) % p := fun r hrl => by
    have e : dot r (held ++ dr) = dot (r.take n) held + dot (r.drop n) dr := by
      have := dot_append (r.take n) held (r.drop n) dr (by rw [List.length_take, hl]; omega)
      rw [List.take_append_drop] at this
      exact this
    rw [e]
    exact ((Cg.mod p _).add (Cg.refl p _)).emod.symm
  show (getI (runL p w held dr) 0, getI (runL p w held dr) 1) = _
  refine Prod.ext ?_ ?_
  · show getI (runL p w held dr) 0 = (dot ((row0 p n w).take n) held % p + dot ((row0 p n w).drop n) dr) % p
    rw [← sp _ hr0]; exact k0
  · show getI (runL p w held dr) 1 = (dot ((row1 p n w).take n) held % p + dot ((row1 p n w).drop n) dr) % p
    rw [← sp _ hr1]; exact k1
end V85

namespace V85
open PySem PySem.Spec PyProof.Rows L2 VX
/-! ### the finite facts -/
def zc (p : Int) (m0 m1 : List Int) : Bool := decide (totalL p m0 m1 = List.replicate m0.length 0)
def finC (p : Int) (d k : Nat) (m0 m1 : List Int) (c0 c1 : Int) : Bool :=
  let ends := endsA p d m0 m1 c0 c1
  let kinds := kindsL p ends
  ebF ends kinds && (decide (((kinds.length : Nat) : Int) = sizeK p k) && (List.range p.toNat).all fun s => (kbF p s kinds == (decide ((c0 + c1) % p = s) && zc p m0 m1)) && (abF p s kinds == (kbF p s kinds && decide (k = 1))))
def finOk (p : Int) (d : Nat) (m0 m1 : List Int) : Bool := match (basisL p [m0, m1]).map List.length with
  | none => false
  | some k => decide (k ≤ 2) && (List.range p.toNat).all fun c0 => (List.range p.toNat).all fun c1 => finC p d k m0 m1 c0 c1
def finAll (p : Int) (d : Nat) : Bool := (tuplesL p d).all fun m0 => (tuplesL p d).all fun m1 => finOk p d m0 m1
theorem fin20 : finAll 2 0 = true := by decide +kernel
theorem fin21 : finAll 2 1 = true := by decide +kernel
theorem fin22 : finAll 2 2 = true := by decide +kernel
theorem fin30 : finAll 3 0 = true := by decide +kernel
theorem fin31 : finAll 3 1 = true := by decide +kernel
theorem fin32 : finAll 3 2 = true := by decide +kernel
def onesL (n : Nat) : List Int := (List.range n).map fun k => if k < 2 then 1 else 0
def fin2 (p : Int) (n : Nat) : Bool := (tuplesL p n).all fun u => (tuplesL p n).all (fun held => decide (dot u held % p = sumH p held)) == decide (u = onesL n)
theorem fin2_22 : fin2 2 2 = true := by decide +kernel
theorem fin2_23 : fin2 2 3 = true := by decide +kernel
theorem fin2_32 : fin2 3 2 = true := by decide +kernel
theorem fin2_33 : fin2 3 3 = true := by decide +kernel
end V85

namespace V85
open PySem PySem.Spec PyProof.Rows L2 VX
theorem mem_tuples {p : Int} : ∀ (d : Nat) (m : List Int), m.length = d → (∀ z ∈ m, 0 ≤ z ∧ z < p) → m ∈ tuplesL p d
  | 0, m, h, _ => by
    rw [List.length_eq_zero_iff.mp h]
    exact List.mem_singleton.mpr rfl
  | d + 1, m, h, hr => by
    have hne : m ≠ [] := fun e => by rw [e] at h; cases h
    have e := List.dropLast_concat_getLast hne
    have h1 : m.dropLast.length = d := by rw [List.length_dropLast, h]; rfl
    have h2 := mem_tuples d m.dropLast h1 fun z hz => hr z (List.dropLast_subset m hz)
    have h3 := hr _ (List.getLast_mem hne)
    refine List.mem_flatMap.mpr ⟨m.dropLast, h2, ?_⟩
    refine List.mem_map.mpr ⟨(m.getLast hne).toNat, List.mem_range.mpr (by omega), ?_⟩
    rw [Int.toNat_of_nonneg h3.1]
    exact e
theorem combL_range {p : Int} (hp : 0 < p) {rows : List (List Int)} : ∀ (l : List (Int × Int)) (own : List Int), (∀ z ∈ own, 0 ≤ z ∧ z < p) → ∀ z ∈ combL p rows own l, 0 ≤ z ∧ z < p
  | [], own, h => h
  | q :: l, own, h => by
    rw [combL_cons]
    refine combL_range hp l _ fun z hz => ?_
    obtain ⟨y, _, rfl⟩ := List.mem_map.mp hz
    exact ⟨Int.emod_nonneg _ (by omega), Int.emod_lt_of_pos _ hp⟩
theorem unitL_range {p : Int} (hp : 2 ≤ p) {L k : Nat} : ∀ z ∈ unitL L k, 0 ≤ z ∧ z < p := fun z hz => by
  obtain ⟨j, _, rfl⟩ := List.mem_map.mp hz
  split <;> omega
theorem heldI_range {p : Int} (hp : 2 ≤ p) {L : Nat} : ∀ (w : List It) (z : List (List Int) × Nat), (∀ r ∈ z.1, ∀ x ∈ r, 0 ≤ x ∧ x < p) → ∀ r ∈ (w.foldl (heldStep p L) z).1, ∀ x ∈ r, 0 ≤ x ∧ x < p
  | [], z, h => h
  | it :: w, z, h => by
    rw [List.foldl_cons]
    refine heldI_range hp w _ fun r hr => ?_
    cases it with
    | dr s =>
      rcases List.mem_or_eq_of_mem_set hr with hr | rfl
      · exact h r hr
      · exact unitL_range hp
    | st s l =>
      rcases List.mem_or_eq_of_mem_set hr with hr | rfl
      · exact h r hr
      · exact combL_range (by omega) l _ fun z hz => by rw [List.eq_of_mem_replicate hz]; omega
theorem rows_range {p : Int} {n : Nat} {w : List It} (ok : okW p n w) (hp : 2 ≤ p) : (∀ z ∈ row0 p n w, 0 ≤ z ∧ z < p) ∧ ∀ z ∈ row1 p n w, 0 ≤ z ∧ z < p := by
  obtain ⟨rest, hr⟩ := heldL_two (p := p) (w := w) ok.2.1.1
  have h : ∀ r ∈ heldL p n w, ∀ x ∈ r, 0 ≤ x ∧ x < p := by
    unfold heldL heldI
    refine heldI_range hp w _ fun r hr => ?_
    obtain ⟨k, _, rfl⟩ := List.mem_map.mp hr
    exact unitL_range hp
  rw [hr] at h
  exact ⟨h _ List.mem_cons_self, h _ (List.mem_cons_of_mem _ List.mem_cons_self)⟩
theorem dot_total (p : Int) : ∀ a b x : List Int, a.length = x.length → b.length = x.length → Cg p (dot (totalL p a b) x) (dot a x + dot b x)
  | [], [], [], _, _ => ⟨0, by simp [totalL, dot]⟩
  | a :: as, b :: bs, x :: xs, h1, h2 => by
    obtain ⟨t, ht⟩ := dot_total p as bs xs (by simpa using h1) (by simpa using h2)
    refine ⟨t - ((a + b) / p) * x, ?_⟩
    show ((a + b) % p) * x + dot (totalL p as bs) xs = (a * x + dot as xs) + (b * x + dot bs xs) + p * (t - ((a + b) / p) * x)
    rw [ht, Int.emod_def]
    grind
  | [], [], _ :: _, h, _ => by simp at h
  | [], _ :: _, [], _, h => by simp at h
  | [], _ :: _, _ :: _, h, _ => by simp at h
  | _ :: _, _, [], h, _ => by simp at h
  | _ :: _, [], _ :: _, _, h => by simp at h
theorem total_split {p : Int} {n : Nat} (a b : List Int) (h : a.length = b.length) : totalL p a b = totalL p (a.take n) (b.take n) ++ totalL p (a.drop n) (b.drop n) := by
  unfold totalL
  rw [← List.map_append, ← List.zip_append (by rw [List.length_take, List.length_take, h]), List.take_append_drop, List.take_append_drop]
theorem keeps_eq {p : Int} {n : Nat} {w : List It} (ok : okW p n w) : keepsL p n w = (decide (totalL p ((row0 p n w).take n) ((row1 p n w).take n) = onesL n) && zc p ((row0 p n w).drop n) ((row1 p n w).drop n)) := by
  obtain ⟨h0, h1⟩ := row_len ok
  have hn := ok.2.1.1
  unfold keepsL zc
  have hlen : (totalL p (row0 p n w) (row1 p n w)).length = n + drawsN w := by unfold totalL; rw [List.length_map, List.length_zip]; omega
  rw [hlen]
  have e1 : (List.range (n + drawsN w)).map (fun k => if k < 2 then (1 : Int) else 0) = onesL n ++ List.replicate ((row0 p n w).drop n).length 0 := by
    rw [List.range_add, List.map_append, List.map_map, List.length_drop, h0]
    unfold onesL
    congr 1
    rw [show n + drawsN w - n = drawsN w by omega]
    refine List.eq_replicate_iff.mpr ⟨by rw [List.length_map, List.length_range], fun z hz => ?_⟩
    obtain ⟨j, _, rfl⟩ := List.mem_map.mp hz
    show (if n + j < 2 then (1 : Int) else 0) = 0
    rw [if_neg (by omega)]
  rw [e1, total_split (n := n) _ _ (by omega)]
  have hl : (totalL p ((row0 p n w).take n) ((row1 p n w).take n)).length = (onesL n).length := by
    unfold totalL onesL
    rw [List.length_map, List.length_zip, List.length_take, List.length_take, List.length_map, List.length_range]; omega
  rw [← Bool.decide_and]
  congr 1
  exact propext ⟨fun h => List.append_inj h hl, fun ⟨a, b⟩ => by rw [a, b]⟩
theorem all_and {α : Type} (f g : α → Bool) (Z : Bool) : ∀ xs : List α, xs ≠ [] → (∀ x ∈ xs, g x = (f x && Z)) → xs.all g = (xs.all f && Z)
  | [], h, _ => absurd rfl h
  | [x], _, h => by
    rw [List.all_cons, List.all_cons, List.all_nil, List.all_nil, h x List.mem_cons_self, Bool.and_true, Bool.and_true]
  | x :: y :: xs, _, h => by
    have ih := all_and f g Z (y :: xs) (by nofun) fun z hz => h z (List.mem_cons_of_mem _ hz)
    rw [List.all_cons, List.all_cons (l := y :: xs) (a := x), ih, h x List.mem_cons_self]
    cases f x <;> cases Z <;> simp
theorem tuples_ne {p : Int} (hp : 0 < p) : ∀ n, tuplesL p n ≠ []
  | 0 => by nofun
  | n + 1 => fun e => by
    have h := tuples_ne hp n
    obtain ⟨t, ht⟩ := List.exists_mem_of_ne_nil _ h
    have : t ++ [0] ∈ tuplesL p (n + 1) := List.mem_flatMap.mpr ⟨t, ht, List.mem_map.mpr ⟨0, List.mem_range.mpr (by omega), rfl⟩⟩
    rw [e] at this
    cases this
theorem plain : PlainT := by
  intro p n w hp hn ok hd
  have hp2 : 2 ≤ p := by omega
  have hp0 : 0 < p := by omega
  have hend : ∀ held ∈ tuplesL p n, endsL p w held = _ := fun held hh => ends_aff ok hh
  obtain ⟨hr0, hr1⟩ := row_len ok
  obtain ⟨rg0, rg1⟩ := rows_range ok hp2
  have hm0 : (row0 p n w).drop n ∈ tuplesL p (drawsN w) := mem_tuples _ _ (by rw [List.length_drop]; omega) fun z hz => rg0 z (List.mem_of_mem_drop hz)
  have hm1 : (row1 p n w).drop n ∈ tuplesL p (drawsN w) := mem_tuples _ _ (by rw [List.length_drop]; omega) fun z hz => rg1 z (List.mem_of_mem_drop hz)
  have hfin : finAll p (drawsN w) = true := by
    have : drawsN w = 0 ∨ drawsN w = 1 ∨ drawsN w = 2 := by omega
    rcases hp with rfl | rfl <;> rcases this with e | e | e <;> rw [e]
    · exact fin20
    · exact fin21
    · exact fin22
    · exact fin30
    · exact fin31
    · exact fin32
  have hok := List.all_eq_true.mp (List.all_eq_true.mp hfin _ hm0) _ hm1
  have hf2 : fin2 p n = true := by
    rcases hp with rfl | rfl <;> rcases hn with rfl | rfl
    · exact fin2_22
    · exact fin2_23
    · exact fin2_32
    · exact fin2_33
  have hu : totalL p ((row0 p n w).take n) ((row1 p n w).take n) ∈ tuplesL p n := mem_tuples _ _ (by unfold totalL; rw [List.length_map, List.length_zip, List.length_take, List.length_take]; omega) fun z hz => by
    obtain ⟨y, _, rfl⟩ := List.mem_map.mp hz
    exact ⟨Int.emod_nonneg _ (by omega), Int.emod_lt_of_pos _ hp0⟩
  have hf2u := List.all_eq_true.mp hf2 _ hu
  have hf2u : (tuplesL p n).all (fun held => decide (dot (totalL p ((row0 p n w).take n) ((row1 p n w).take n)) held % p = sumH p held)) = decide (totalL p ((row0 p n w).take n) ((row1 p n w).take n) = onesL n) := by simpa using hf2u
  unfold finOk at hok
  split at hok
  · cases hok
  · rename_i k hk
    obtain ⟨hk2, hok⟩ := Bool.and_eq_true_iff.mp hok
    have hk2 := of_decide_eq_true hk2
    have hmod : ∀ a : Int, 0 ≤ a % p ∧ a % p < p := fun a => ⟨Int.emod_nonneg _ (by omega), Int.emod_lt_of_pos _ hp0⟩
    have each : ∀ held ∈ tuplesL p n, ebH p w held = true ∧ szH p w held = sizeK p k ∧ kbH p w held = (decide (dot (totalL p ((row0 p n w).take n) ((row1 p n w).take n)) held % p = sumH p held) && zc p ((row0 p n w).drop n) ((row1 p n w).drop n)) ∧ abH p w held = (kbH p w held && decide (k = 1)) := fun held hh => by
      have hhl := (tuples_each n held hh).1
      have e := hend held hh
      have c0 := hmod (dot ((row0 p n w).take n) held)
      have c1 := hmod (dot ((row1 p n w).take n) held)
      have cc := List.all_eq_true.mp (List.all_eq_true.mp hok _ (List.mem_range.mpr (show (dot ((row0 p n w).take n) held % p).toNat < p.toNat by omega))) _ (List.mem_range.mpr (show (dot ((row1 p n w).take n) held % p).toNat < p.toNat by omega))
      rw [Int.toNat_of_nonneg c0.1, Int.toNat_of_nonneg c1.1] at cc
      unfold finC at cc
      rw [← e] at cc
      obtain ⟨q1, cc⟩ := Bool.and_eq_true_iff.mp cc
      obtain ⟨q2, cc⟩ := Bool.and_eq_true_iff.mp cc
      have hs : 0 ≤ sumH p held ∧ sumH p held < p := hmod _
      have q3 := List.all_eq_true.mp cc _ (List.mem_range.mpr (show (sumH p held).toNat < p.toNat by omega))
      rw [Int.toNat_of_nonneg hs.1] at q3
      obtain ⟨q3, q4⟩ := Bool.and_eq_true_iff.mp q3
      have q3 := eq_of_beq q3
      have q4 := eq_of_beq q4
      refine ⟨q1, of_decide_eq_true q2, ?_, q4⟩
      refine Eq.trans q3 ?_
      have ct : (dot ((row0 p n w).take n) held % p + dot ((row1 p n w).take n) held % p) % p = dot (totalL p ((row0 p n w).take n) ((row1 p n w).take n)) held % p := by
        refine Eq.trans ((Cg.mod p _).add (Cg.mod p _)).emod ?_
        exact (dot_total p _ _ held (by rw [List.length_take]; omega) (by rw [List.length_take]; omega)).emod.symm
      rw [ct]
    have hne := tuples_ne hp0 n
    have hkeep : (tuplesL p n).all (kbH p w) = keepsL p n w := by
      rw [all_and _ _ _ _ hne fun held hh => (each held hh).2.2.1, hf2u, keeps_eq ok]
    refine ⟨fun held hh q hq => ?_, k, hk2, hk, hkeep, ?_, List.all_eq_true.mpr fun held hh => (each held hh).1, fun held hh => (each held hh).2.1⟩
    · rw [hend held hh] at hq
      obtain ⟨dr, _, rfl⟩ := List.mem_map.mp hq
      exact ⟨hmod _, hmod _⟩
    · rw [all_and _ _ _ _ hne fun held hh => (each held hh).2.2.2, hkeep]
end V85

namespace V85
open PySem PySem.Spec PyProof.Rows L2 VX
theorem all_mk {l : PySem.W.OpenLaw} {w : World} {K : PySem.W.Frag} {h : Heap} {mg : Str → Option Value} {fa : Addr} (X : K.In h) (G : h.Ns mainGlobals mg) (hfa : mg "law" = some (.ref fa))
    {f4 : Addr} {od4 an4 : Option Addr} {sl4 : Array (Option Value)} {oc4 kV4 dc4 pm4 cd4 ct4 : Value} (a4 : PySem.W.nsIn K mainGlobals "is_number" = some (some (.ref f4))) (l4 : K.lookup f4 = some ⟨oc4, od4, .func (PySem.W.fnOf "is_number" "is_number" (defArgs (topS 4)) (defBody (topS 4)) (defScope (topS 4)) .none kV4 dc4 pm4 an4 cd4 ct4), sl4⟩) (c4 : PySem.W.codeIn K cd4 "is_number" = true) (k4 : PySem.W.keepIn K (.ref f4) = true)
    {f5 : Addr} {od5 an5 : Option Addr} {sl5 : Array (Option Value)} {oc5 kV5 dc5 pm5 cd5 ct5 : Value} (a5 : PySem.W.nsIn K mainGlobals "tupled" = some (some (.ref f5))) (l5 : K.lookup f5 = some ⟨oc5, od5, .func (PySem.W.fnOf "tupled" "tupled" (defArgs (topS 5)) (defBody (topS 5)) (defScope (topS 5)) .none kV5 dc5 pm5 an5 cd5 ct5), sl5⟩) (c5 : PySem.W.codeIn K cd5 "tupled" = true) (k5 : PySem.W.keepIn K (.ref f5) = true)
    {f6 : Addr} {od6 an6 : Option Addr} {sl6 : Array (Option Value)} {oc6 kV6 dc6 pm6 cd6 ct6 : Value} (a6 : PySem.W.nsIn K mainGlobals "rises" = some (some (.ref f6))) (l6 : K.lookup f6 = some ⟨oc6, od6, .func (PySem.W.fnOf "rises" "rises" (defArgs (topS 6)) (defBody (topS 6)) (defScope (topS 6)) .none kV6 dc6 pm6 an6 cd6 ct6), sl6⟩) (c6 : PySem.W.codeIn K cd6 "rises" = true) (k6 : PySem.W.keepIn K (.ref f6) = true)
    {f10 : Addr} {od10 an10 : Option Addr} {sl10 : Array (Option Value)} {oc10 kV10 dc10 pm10 cd10 ct10 : Value} (a10 : PySem.W.nsIn K mainGlobals "is_tuple_of" = some (some (.ref f10))) (l10 : K.lookup f10 = some ⟨oc10, od10, .func (PySem.W.fnOf "is_tuple_of" "is_tuple_of" (defArgs (topS 10)) (defBody (topS 10)) (defScope (topS 10)) .none kV10 dc10 pm10 an10 cd10 ct10), sl10⟩) (c10 : PySem.W.codeIn K cd10 "is_tuple_of" = true) (k10 : PySem.W.keepIn K (.ref f10) = true)
    {f11 : Addr} {od11 an11 : Option Addr} {sl11 : Array (Option Value)} {oc11 kV11 dc11 pm11 cd11 ct11 : Value} (a11 : PySem.W.nsIn K mainGlobals "is_place" = some (some (.ref f11))) (l11 : K.lookup f11 = some ⟨oc11, od11, .func (PySem.W.fnOf "is_place" "is_place" (defArgs (topS 11)) (defBody (topS 11)) (defScope (topS 11)) .none kV11 dc11 pm11 an11 cd11 ct11), sl11⟩) (c11 : PySem.W.codeIn K cd11 "is_place" = true) (k11 : PySem.W.keepIn K (.ref f11) = true)
    {f12 : Addr} {od12 an12 : Option Addr} {sl12 : Array (Option Value)} {oc12 kV12 dc12 pm12 cd12 ct12 : Value} (a12 : PySem.W.nsIn K mainGlobals "is_set_below" = some (some (.ref f12))) (l12 : K.lookup f12 = some ⟨oc12, od12, .func (PySem.W.fnOf "is_set_below" "is_set_below" (defArgs (topS 12)) (defBody (topS 12)) (defScope (topS 12)) .none kV12 dc12 pm12 an12 cd12 ct12), sl12⟩) (c12 : PySem.W.codeIn K cd12 "is_set_below" = true) (k12 : PySem.W.keepIn K (.ref f12) = true)
    {f13 : Addr} {od13 an13 : Option Addr} {sl13 : Array (Option Value)} {oc13 kV13 dc13 pm13 cd13 ct13 : Value} (a13 : PySem.W.nsIn K mainGlobals "is_sum" = some (some (.ref f13))) (l13 : K.lookup f13 = some ⟨oc13, od13, .func (PySem.W.fnOf "is_sum" "is_sum" (defArgs (topS 13)) (defBody (topS 13)) (defScope (topS 13)) .none kV13 dc13 pm13 an13 cd13 ct13), sl13⟩) (c13 : PySem.W.codeIn K cd13 "is_sum" = true) (k13 : PySem.W.keepIn K (.ref f13) = true)
    {f14 : Addr} {od14 an14 : Option Addr} {sl14 : Array (Option Value)} {oc14 kV14 dc14 pm14 cd14 ct14 : Value} (a14 : PySem.W.nsIn K mainGlobals "is_item" = some (some (.ref f14))) (l14 : K.lookup f14 = some ⟨oc14, od14, .func (PySem.W.fnOf "is_item" "is_item" (defArgs (topS 14)) (defBody (topS 14)) (defScope (topS 14)) .none kV14 dc14 pm14 an14 cd14 ct14), sl14⟩) (c14 : PySem.W.codeIn K cd14 "is_item" = true) (k14 : PySem.W.keepIn K (.ref f14) = true)
    {f15 : Addr} {od15 an15 : Option Addr} {sl15 : Array (Option Value)} {oc15 kV15 dc15 pm15 cd15 ct15 : Value} (a15 : PySem.W.nsIn K mainGlobals "is_way" = some (some (.ref f15))) (l15 : K.lookup f15 = some ⟨oc15, od15, .func (PySem.W.fnOf "is_way" "is_way" (defArgs (topS 15)) (defBody (topS 15)) (defScope (topS 15)) .none kV15 dc15 pm15 an15 cd15 ct15), sl15⟩) (c15 : PySem.W.codeIn K cd15 "is_way" = true) (k15 : PySem.W.keepIn K (.ref f15) = true)
    {f17 : Addr} {od17 an17 : Option Addr} {sl17 : Array (Option Value)} {oc17 kV17 dc17 pm17 cd17 ct17 : Value} (a17 : PySem.W.nsIn K mainGlobals "inverse" = some (some (.ref f17))) (l17 : K.lookup f17 = some ⟨oc17, od17, .func (PySem.W.fnOf "inverse" "inverse" (defArgs (topS 17)) (defBody (topS 17)) (defScope (topS 17)) .none kV17 dc17 pm17 an17 cd17 ct17), sl17⟩) (c17 : PySem.W.codeIn K cd17 "inverse" = true) (k17 : PySem.W.keepIn K (.ref f17) = true)
    {f18 : Addr} {od18 an18 : Option Addr} {sl18 : Array (Option Value)} {oc18 kV18 dc18 pm18 cd18 ct18 : Value} (a18 : PySem.W.nsIn K mainGlobals "times" = some (some (.ref f18))) (l18 : K.lookup f18 = some ⟨oc18, od18, .func (PySem.W.fnOf "times" "times" (defArgs (topS 18)) (defBody (topS 18)) (defScope (topS 18)) .none kV18 dc18 pm18 an18 cd18 ct18), sl18⟩) (c18 : PySem.W.codeIn K cd18 "times" = true) (k18 : PySem.W.keepIn K (.ref f18) = true)
    {f19 : Addr} {od19 an19 : Option Addr} {sl19 : Array (Option Value)} {oc19 kV19 dc19 pm19 cd19 ct19 : Value} (a19 : PySem.W.nsIn K mainGlobals "less" = some (some (.ref f19))) (l19 : K.lookup f19 = some ⟨oc19, od19, .func (PySem.W.fnOf "less" "less" (defArgs (topS 19)) (defBody (topS 19)) (defScope (topS 19)) .none kV19 dc19 pm19 an19 cd19 ct19), sl19⟩) (c19 : PySem.W.codeIn K cd19 "less" = true) (k19 : PySem.W.keepIn K (.ref f19) = true)
    {f20 : Addr} {od20 an20 : Option Addr} {sl20 : Array (Option Value)} {oc20 kV20 dc20 pm20 cd20 ct20 : Value} (a20 : PySem.W.nsIn K mainGlobals "lead_of" = some (some (.ref f20))) (l20 : K.lookup f20 = some ⟨oc20, od20, .func (PySem.W.fnOf "lead_of" "lead_of" (defArgs (topS 20)) (defBody (topS 20)) (defScope (topS 20)) .none kV20 dc20 pm20 an20 cd20 ct20), sl20⟩) (c20 : PySem.W.codeIn K cd20 "lead_of" = true) (k20 : PySem.W.keepIn K (.ref f20) = true)
    {f21 : Addr} {od21 an21 : Option Addr} {sl21 : Array (Option Value)} {oc21 kV21 dc21 pm21 cd21 ct21 : Value} (a21 : PySem.W.nsIn K mainGlobals "reduced" = some (some (.ref f21))) (l21 : K.lookup f21 = some ⟨oc21, od21, .func (PySem.W.fnOf "reduced" "reduced" (defArgs (topS 21)) (defBody (topS 21)) (defScope (topS 21)) .none kV21 dc21 pm21 an21 cd21 ct21), sl21⟩) (c21 : PySem.W.codeIn K cd21 "reduced" = true) (k21 : PySem.W.keepIn K (.ref f21) = true)
    {f22 : Addr} {od22 an22 : Option Addr} {sl22 : Array (Option Value)} {oc22 kV22 dc22 pm22 cd22 ct22 : Value} (a22 : PySem.W.nsIn K mainGlobals "basis" = some (some (.ref f22))) (l22 : K.lookup f22 = some ⟨oc22, od22, .func (PySem.W.fnOf "basis" "basis" (defArgs (topS 22)) (defBody (topS 22)) (defScope (topS 22)) .none kV22 dc22 pm22 an22 cd22 ct22), sl22⟩) (c22 : PySem.W.codeIn K cd22 "basis" = true) (k22 : PySem.W.keepIn K (.ref f22) = true)
    {f23 : Addr} {od23 an23 : Option Addr} {sl23 : Array (Option Value)} {oc23 kV23 dc23 pm23 cd23 ct23 : Value} (a23 : PySem.W.nsIn K mainGlobals "rank" = some (some (.ref f23))) (l23 : K.lookup f23 = some ⟨oc23, od23, .func (PySem.W.fnOf "rank" "rank" (defArgs (topS 23)) (defBody (topS 23)) (defScope (topS 23)) .none kV23 dc23 pm23 an23 cd23 ct23), sl23⟩) (c23 : PySem.W.codeIn K cd23 "rank" = true) (k23 : PySem.W.keepIn K (.ref f23) = true)
    {f28 : Addr} {od28 an28 : Option Addr} {sl28 : Array (Option Value)} {oc28 kV28 dc28 pm28 cd28 ct28 : Value} (a28 : PySem.W.nsIn K mainGlobals "sure_registers" = some (some (.ref f28))) (l28 : K.lookup f28 = some ⟨oc28, od28, .func (PySem.W.fnOf "sure_registers" "sure_registers" (defArgs (topS 28)) (defBody (topS 28)) (defScope (topS 28)) .none kV28 dc28 pm28 an28 cd28 ct28), sl28⟩) (c28 : PySem.W.codeIn K cd28 "sure_registers" = true) (k28 : PySem.W.keepIn K (.ref f28) = true)
    {f29 : Addr} {od29 an29 : Option Addr} {sl29 : Array (Option Value)} {oc29 kV29 dc29 pm29 cd29 ct29 : Value} (a29 : PySem.W.nsIn K mainGlobals "sure_parts" = some (some (.ref f29))) (l29 : K.lookup f29 = some ⟨oc29, od29, .func (PySem.W.fnOf "sure_parts" "sure_parts" (defArgs (topS 29)) (defBody (topS 29)) (defScope (topS 29)) .none kV29 dc29 pm29 an29 cd29 ct29), sl29⟩) (c29 : PySem.W.codeIn K cd29 "sure_parts" = true) (k29 : PySem.W.keepIn K (.ref f29) = true)
    {f30 : Addr} {od30 an30 : Option Addr} {sl30 : Array (Option Value)} {oc30 kV30 dc30 pm30 cd30 ct30 : Value} (a30 : PySem.W.nsIn K mainGlobals "renewal_way" = some (some (.ref f30))) (l30 : K.lookup f30 = some ⟨oc30, od30, .func (PySem.W.fnOf "renewal_way" "renewal_way" (defArgs (topS 30)) (defBody (topS 30)) (defScope (topS 30)) .none kV30 dc30 pm30 an30 cd30 ct30), sl30⟩) (c30 : PySem.W.codeIn K cd30 "renewal_way" = true) (k30 : PySem.W.keepIn K (.ref f30) = true)
    {f31 : Addr} {od31 an31 : Option Addr} {sl31 : Array (Option Value)} {oc31 kV31 dc31 pm31 cd31 ct31 : Value} (a31 : PySem.W.nsIn K mainGlobals "renewal" = some (some (.ref f31))) (l31 : K.lookup f31 = some ⟨oc31, od31, .func (PySem.W.fnOf "renewal" "renewal" (defArgs (topS 31)) (defBody (topS 31)) (defScope (topS 31)) .none kV31 dc31 pm31 an31 cd31 ct31), sl31⟩) (c31 : PySem.W.codeIn K cd31 "renewal" = true) (k31 : PySem.W.keepIn K (.ref f31) = true)
    {f32 : Addr} {od32 an32 : Option Addr} {sl32 : Array (Option Value)} {oc32 kV32 dc32 pm32 cd32 ct32 : Value} (a32 : PySem.W.nsIn K mainGlobals "sure_line_way" = some (some (.ref f32))) (l32 : K.lookup f32 = some ⟨oc32, od32, .func (PySem.W.fnOf "sure_line_way" "sure_line_way" (defArgs (topS 32)) (defBody (topS 32)) (defScope (topS 32)) .none kV32 dc32 pm32 an32 cd32 ct32), sl32⟩) (c32 : PySem.W.codeIn K cd32 "sure_line_way" = true) (k32 : PySem.W.keepIn K (.ref f32) = true)
    {f33 : Addr} {od33 an33 : Option Addr} {sl33 : Array (Option Value)} {oc33 kV33 dc33 pm33 cd33 ct33 : Value} (a33 : PySem.W.nsIn K mainGlobals "held_behind" = some (some (.ref f33))) (l33 : K.lookup f33 = some ⟨oc33, od33, .func (PySem.W.fnOf "held_behind" "held_behind" (defArgs (topS 33)) (defBody (topS 33)) (defScope (topS 33)) .none kV33 dc33 pm33 an33 cd33 ct33), sl33⟩) (c33 : PySem.W.codeIn K cd33 "held_behind" = true) (k33 : PySem.W.keepIn K (.ref f33) = true)
    {f34 : Addr} {od34 an34 : Option Addr} {sl34 : Array (Option Value)} {oc34 kV34 dc34 pm34 cd34 ct34 : Value} (a34 : PySem.W.nsIn K mainGlobals "keeps_sum" = some (some (.ref f34))) (l34 : K.lookup f34 = some ⟨oc34, od34, .func (PySem.W.fnOf "keeps_sum" "keeps_sum" (defArgs (topS 34)) (defBody (topS 34)) (defScope (topS 34)) .none kV34 dc34 pm34 an34 cd34 ct34), sl34⟩) (c34 : PySem.W.codeIn K cd34 "keeps_sum" = true) (k34 : PySem.W.keepIn K (.ref f34) = true)
    {f35 : Addr} {od35 an35 : Option Addr} {sl35 : Array (Option Value)} {oc35 kV35 dc35 pm35 cd35 ct35 : Value} (a35 : PySem.W.nsIn K mainGlobals "how_free" = some (some (.ref f35))) (l35 : K.lookup f35 = some ⟨oc35, od35, .func (PySem.W.fnOf "how_free" "how_free" (defArgs (topS 35)) (defBody (topS 35)) (defScope (topS 35)) .none kV35 dc35 pm35 an35 cd35 ct35), sl35⟩) (c35 : PySem.W.codeIn K cd35 "how_free" = true) (k35 : PySem.W.keepIn K (.ref f35) = true)
    {f36 : Addr} {od36 an36 : Option Addr} {sl36 : Array (Option Value)} {oc36 kV36 dc36 pm36 cd36 ct36 : Value} (a36 : PySem.W.nsIn K mainGlobals "renews" = some (some (.ref f36))) (l36 : K.lookup f36 = some ⟨oc36, od36, .func (PySem.W.fnOf "renews" "renews" (defArgs (topS 36)) (defBody (topS 36)) (defScope (topS 36)) .none kV36 dc36 pm36 an36 cd36 ct36), sl36⟩) (c36 : PySem.W.codeIn K cd36 "renews" = true) (k36 : PySem.W.keepIn K (.ref f36) = true)
    {f38 : Addr} {od38 an38 : Option Addr} {sl38 : Array (Option Value)} {oc38 kV38 dc38 pm38 cd38 ct38 : Value} (a38 : PySem.W.nsIn K mainGlobals "_law_box" = some (some (.ref f38))) (l38 : K.lookup f38 = some ⟨oc38, od38, .func (PySem.W.fnOf "_law_box" "_law_box" (defArgs (topS 38)) (defBody (topS 38)) (defScope (topS 38)) .none kV38 dc38 pm38 an38 cd38 ct38), sl38⟩) (c38 : PySem.W.codeIn K cd38 "_law_box" = true) (k38 : PySem.W.keepIn K (.ref f38) = true)
    {f39 : Addr} {od39 an39 : Option Addr} {sl39 : Array (Option Value)} {oc39 kV39 dc39 pm39 cd39 ct39 : Value} (a39 : PySem.W.nsIn K mainGlobals "_law_take" = some (some (.ref f39))) (l39 : K.lookup f39 = some ⟨oc39, od39, .func (PySem.W.fnOf "_law_take" "_law_take" (defArgs (topS 39)) (defBody (topS 39)) (defScope (topS 39)) .none kV39 dc39 pm39 an39 cd39 ct39), sl39⟩) (c39 : PySem.W.codeIn K cd39 "_law_take" = true) (k39 : PySem.W.keepIn K (.ref f39) = true)
    {f40 : Addr} {od40 an40 : Option Addr} {sl40 : Array (Option Value)} {oc40 kV40 dc40 pm40 cd40 ct40 : Value} (a40 : PySem.W.nsIn K mainGlobals "_law_cells" = some (some (.ref f40))) (l40 : K.lookup f40 = some ⟨oc40, od40, .func (PySem.W.fnOf "_law_cells" "_law_cells" (defArgs (topS 40)) (defBody (topS 40)) (defScope (topS 40)) .none kV40 dc40 pm40 an40 cd40 ct40), sl40⟩) (c40 : PySem.W.codeIn K cd40 "_law_cells" = true) (k40 : PySem.W.keepIn K (.ref f40) = true)
    {f41 : Addr} {od41 an41 : Option Addr} {sl41 : Array (Option Value)} {oc41 kV41 dc41 pm41 cd41 ct41 : Value} (a41 : PySem.W.nsIn K mainGlobals "_law_of" = some (some (.ref f41))) (l41 : K.lookup f41 = some ⟨oc41, od41, .func (PySem.W.fnOf "_law_of" "_law_of" (defArgs (topS 41)) (defBody (topS 41)) (defScope (topS 41)) .none kV41 dc41 pm41 an41 cd41 ct41), sl41⟩) (c41 : PySem.W.codeIn K cd41 "_law_of" = true) (k41 : PySem.W.keepIn K (.ref f41) = true)
    {f42 : Addr} {od42 an42 : Option Addr} {sl42 : Array (Option Value)} {oc42 kV42 dc42 pm42 cd42 ct42 : Value} (a42 : PySem.W.nsIn K mainGlobals "_law_pick" = some (some (.ref f42))) (l42 : K.lookup f42 = some ⟨oc42, od42, .func (PySem.W.fnOf "_law_pick" "_law_pick" (defArgs (topS 42)) (defBody (topS 42)) (defScope (topS 42)) .none kV42 dc42 pm42 an42 cd42 ct42), sl42⟩) (c42 : PySem.W.codeIn K cd42 "_law_pick" = true) (k42 : PySem.W.keepIn K (.ref f42) = true)
    {f43 : Addr} {od43 an43 : Option Addr} {sl43 : Array (Option Value)} {oc43 kV43 dc43 pm43 cd43 ct43 : Value} (a43 : PySem.W.nsIn K mainGlobals "_law_same" = some (some (.ref f43))) (l43 : K.lookup f43 = some ⟨oc43, od43, .func (PySem.W.fnOf "_law_same" "_law_same" (defArgs (topS 43)) (defBody (topS 43)) (defScope (topS 43)) .none kV43 dc43 pm43 an43 cd43 ct43), sl43⟩) (c43 : PySem.W.codeIn K cd43 "_law_same" = true) (k43 : PySem.W.keepIn K (.ref f43) = true)
    {f44 : Addr} {od44 an44 : Option Addr} {sl44 : Array (Option Value)} {oc44 kV44 dc44 pm44 cd44 ct44 : Value} (a44 : PySem.W.nsIn K mainGlobals "_law_plain" = some (some (.ref f44))) (l44 : K.lookup f44 = some ⟨oc44, od44, .func (PySem.W.fnOf "_law_plain" "_law_plain" (defArgs (topS 44)) (defBody (topS 44)) (defScope (topS 44)) .none kV44 dc44 pm44 an44 cd44 ct44), sl44⟩) (c44 : PySem.W.codeIn K cd44 "_law_plain" = true) (k44 : PySem.W.keepIn K (.ref f44) = true)
    {f45 : Addr} {od45 an45 : Option Addr} {sl45 : Array (Option Value)} {oc45 kV45 dc45 pm45 cd45 ct45 : Value} (a45 : PySem.W.nsIn K mainGlobals "_law_tuples" = some (some (.ref f45))) (l45 : K.lookup f45 = some ⟨oc45, od45, .func (PySem.W.fnOf "_law_tuples" "_law_tuples" (defArgs (topS 45)) (defBody (topS 45)) (defScope (topS 45)) .none kV45 dc45 pm45 an45 cd45 ct45), sl45⟩) (c45 : PySem.W.codeIn K cd45 "_law_tuples" = true) (k45 : PySem.W.keepIn K (.ref f45) = true)
    {f46 : Addr} {od46 an46 : Option Addr} {sl46 : Array (Option Value)} {oc46 kV46 dc46 pm46 cd46 ct46 : Value} (a46 : PySem.W.nsIn K mainGlobals "_law_fresh" = some (some (.ref f46))) (l46 : K.lookup f46 = some ⟨oc46, od46, .func (PySem.W.fnOf "_law_fresh" "_law_fresh" (defArgs (topS 46)) (defBody (topS 46)) (defScope (topS 46)) .none kV46 dc46 pm46 an46 cd46 ct46), sl46⟩) (c46 : PySem.W.codeIn K cd46 "_law_fresh" = true) (k46 : PySem.W.keepIn K (.ref f46) = true)
    {f47 : Addr} {od47 an47 : Option Addr} {sl47 : Array (Option Value)} {oc47 kV47 dc47 pm47 cd47 ct47 : Value} (a47 : PySem.W.nsIn K mainGlobals "_law_by_hand_right" = some (some (.ref f47))) (l47 : K.lookup f47 = some ⟨oc47, od47, .func (PySem.W.fnOf "_law_by_hand_right" "_law_by_hand_right" (defArgs (topS 47)) (defBody (topS 47)) (defScope (topS 47)) .none kV47 dc47 pm47 an47 cd47 ct47), sl47⟩) (c47 : PySem.W.codeIn K cd47 "_law_by_hand_right" = true) (k47 : PySem.W.keepIn K (.ref f47) = true)
    {f48 : Addr} {od48 an48 : Option Addr} {sl48 : Array (Option Value)} {oc48 kV48 dc48 pm48 cd48 ct48 : Value} (a48 : PySem.W.nsIn K mainGlobals "_law_ends" = some (some (.ref f48))) (l48 : K.lookup f48 = some ⟨oc48, od48, .func (PySem.W.fnOf "_law_ends" "_law_ends" (defArgs (topS 48)) (defBody (topS 48)) (defScope (topS 48)) .none kV48 dc48 pm48 an48 cd48 ct48), sl48⟩) (c48 : PySem.W.codeIn K cd48 "_law_ends" = true) (k48 : PySem.W.keepIn K (.ref f48) = true)
    {f49 : Addr} {od49 an49 : Option Addr} {sl49 : Array (Option Value)} {oc49 kV49 dc49 pm49 cd49 ct49 : Value} (a49 : PySem.W.nsIn K mainGlobals "_law_any_bits" = some (some (.ref f49))) (l49 : K.lookup f49 = some ⟨oc49, od49, .func (PySem.W.fnOf "_law_any_bits" "_law_any_bits" (defArgs (topS 49)) (defBody (topS 49)) (defScope (topS 49)) .none kV49 dc49 pm49 an49 cd49 ct49), sl49⟩) (c49 : PySem.W.codeIn K cd49 "_law_any_bits" = true) (k49 : PySem.W.keepIn K (.ref f49) = true)
    {f50 : Addr} {od50 an50 : Option Addr} {sl50 : Array (Option Value)} {oc50 kV50 dc50 pm50 cd50 ct50 : Value} (a50 : PySem.W.nsIn K mainGlobals "law" = some (some (.ref f50))) (l50 : K.lookup f50 = some ⟨oc50, od50, .func (PySem.W.fnOf "law" "law" (defArgs (topS 50)) (defBody (topS 50)) (defScope (topS 50)) .none kV50 dc50 pm50 an50 cd50 ct50), sl50⟩) (c50 : PySem.W.codeIn K cd50 "law" = true) (k50 : PySem.W.keepIn K (.ref f50) = true)
    (z_len : PySem.W.nsIn K mainGlobals "len" = some none)
    (z_isinstance : PySem.W.nsIn K mainGlobals "isinstance" = some none)
    (z_int : PySem.W.nsIn K mainGlobals "int" = some none)
    (z_bool : PySem.W.nsIn K mainGlobals "bool" = some none)
    (z_tuple : PySem.W.nsIn K mainGlobals "tuple" = some none)
    (z_list : PySem.W.nsIn K mainGlobals "list" = some none)
    (z_str : PySem.W.nsIn K mainGlobals "str" = some none)
    (z_all : PySem.W.nsIn K mainGlobals "all" = some none)
    (z_any : PySem.W.nsIn K mainGlobals "any" = some none)
    (z_range : PySem.W.nsIn K mainGlobals "range" = some none)
    (z_zip : PySem.W.nsIn K mainGlobals "zip" = some none)
    (z_enumerate : PySem.W.nsIn K mainGlobals "enumerate" = some none)
    (z_sorted : PySem.W.nsIn K mainGlobals "sorted" = some none)
    (z_sum : PySem.W.nsIn K mainGlobals "sum" = some none)
    (z_abs : PySem.W.nsIn K mainGlobals "abs" = some none)
    (z_min : PySem.W.nsIn K mainGlobals "min" = some none)
    (z_set : PySem.W.nsIn K mainGlobals "set" = some none)
    {tk0 : Tok} (g_LEAST_WAYS : PySem.W.nsIn K mainGlobals "LEAST_WAYS" = some (some (.int 2 tk0)))
    {tk1 : Tok} (g_MOST_WAYS : PySem.W.nsIn K mainGlobals "MOST_WAYS" = some (some (.int 4 tk1)))
    {tk2 : Tok} (g_DRAW : PySem.W.nsIn K mainGlobals "DRAW" = some (some (.str "draw" tk2)))
    {tk3 : Tok} (g_SET : PySem.W.nsIn K mainGlobals "SET" = some (some (.str "set" tk3)))
    {tk4 : Tok} (g_FEWEST : PySem.W.nsIn K mainGlobals "FEWEST" = some (some (.int 2 tk4))) :
    ∃ fd : FuncData, (∀ (s : Shared) (v : Value), BindsTo s fd ⟨[v], []⟩ [("script", v)]) ∧ ∀ base : Heap, K.In base → base.Ns mainGlobals mg → FnOk l.prog w K mg base CX0 15 fa fd ["script"] (spW K s_law) := by
  have e := hfa.symm.trans (PySem.W.mg_of X G a50)
  cases e
  have B : Bs mg := { len := PySem.W.mg_none_of X G z_len, isinstance := PySem.W.mg_none_of X G z_isinstance, int := PySem.W.mg_none_of X G z_int, bool := PySem.W.mg_none_of X G z_bool, tuple := PySem.W.mg_none_of X G z_tuple, list := PySem.W.mg_none_of X G z_list, str := PySem.W.mg_none_of X G z_str, all := PySem.W.mg_none_of X G z_all, any := PySem.W.mg_none_of X G z_any, range := PySem.W.mg_none_of X G z_range, zip := PySem.W.mg_none_of X G z_zip, enumerate := PySem.W.mg_none_of X G z_enumerate, sorted := PySem.W.mg_none_of X G z_sorted, sum := PySem.W.mg_none_of X G z_sum, abs := PySem.W.mg_none_of X G z_abs, min := PySem.W.mg_none_of X G z_min, set := PySem.W.mg_none_of X G z_set, LEAST_WAYS := ⟨_, PySem.W.mg_of X G g_LEAST_WAYS, ⟨_, rfl⟩⟩, MOST_WAYS := ⟨_, PySem.W.mg_of X G g_MOST_WAYS, ⟨_, rfl⟩⟩, DRAW := ⟨_, PySem.W.mg_of X G g_DRAW, ⟨_, rfl⟩⟩, SET := ⟨_, PySem.W.mg_of X G g_SET, ⟨_, rfl⟩⟩, FEWEST := ⟨_, PySem.W.mg_of X G g_FEWEST, ⟨_, rfl⟩⟩ }
  have F4 := fun_mk (st := topS 4) l4 c4 k4
  have b4 := F4.binds (ps := ["thing"]) fun _ _ _ _ _ _ us hl => match us, hl with | [_], _ => rfl
  have F5 := fun_mk (st := topS 5) l5 c5 k5
  have b5 := F5.binds (ps := ["value"]) fun _ _ _ _ _ _ us hl => match us, hl with | [_], _ => rfl
  have F6 := fun_mk (st := topS 6) l6 c6 k6
  have b6 := F6.binds (ps := ["row"]) fun _ _ _ _ _ _ us hl => match us, hl with | [_], _ => rfl
  have F10 := fun_mk (st := topS 10) l10 c10 k10
  have b10 := F10.binds (ps := ["thing", "many"]) fun _ _ _ _ _ _ us hl => match us, hl with | [_, _], _ => rfl
  have F11 := fun_mk (st := topS 11) l11 c11 k11
  have b11 := F11.binds (ps := ["thing", "many"]) fun _ _ _ _ _ _ us hl => match us, hl with | [_, _], _ => rfl
  have F12 := fun_mk (st := topS 12) l12 c12 k12
  have b12 := F12.binds (ps := ["thing", "many"]) fun _ _ _ _ _ _ us hl => match us, hl with | [_, _], _ => rfl
  have F13 := fun_mk (st := topS 13) l13 c13 k13
  have b13 := F13.binds (ps := ["machine", "thing"]) fun _ _ _ _ _ _ us hl => match us, hl with | [_, _], _ => rfl
  have F14 := fun_mk (st := topS 14) l14 c14 k14
  have b14 := F14.binds (ps := ["machine", "many", "thing"]) fun _ _ _ _ _ _ us hl => match us, hl with | [_, _, _], _ => rfl
  have F15 := fun_mk (st := topS 15) l15 c15 k15
  have b15 := F15.binds (ps := ["machine", "many", "thing"]) fun _ _ _ _ _ _ us hl => match us, hl with | [_, _, _], _ => rfl
  have F17 := fun_mk (st := topS 17) l17 c17 k17
  have b17 := F17.binds (ps := ["prime", "residue"]) fun _ _ _ _ _ _ us hl => match us, hl with | [_, _], _ => rfl
  have F18 := fun_mk (st := topS 18) l18 c18 k18
  have b18 := F18.binds (ps := ["prime", "row", "factor"]) fun _ _ _ _ _ _ us hl => match us, hl with | [_, _, _], _ => rfl
  have F19 := fun_mk (st := topS 19) l19 c19 k19
  have b19 := F19.binds (ps := ["prime", "row", "other", "factor"]) fun _ _ _ _ _ _ us hl => match us, hl with | [_, _, _, _], _ => rfl
  have F20 := fun_mk (st := topS 20) l20 c20 k20
  have b20 := F20.binds (ps := ["row"]) fun _ _ _ _ _ _ us hl => match us, hl with | [_], _ => rfl
  have F21 := fun_mk (st := topS 21) l21 c21 k21
  have b21 := F21.binds (ps := ["prime", "row", "found"]) fun _ _ _ _ _ _ us hl => match us, hl with | [_, _, _], _ => rfl
  have F22 := fun_mk (st := topS 22) l22 c22 k22
  have b22 := F22.binds (ps := ["prime", "rows"]) fun _ _ _ _ _ _ us hl => match us, hl with | [_, _], _ => rfl
  have F23 := fun_mk (st := topS 23) l23 c23 k23
  have b23 := F23.binds (ps := ["prime", "rows"]) fun _ _ _ _ _ _ us hl => match us, hl with | [_, _], _ => rfl
  have F28 := fun_mk (st := topS 28) l28 c28 k28
  have b28 := F28.binds (ps := ["machine", "registers"]) fun _ _ _ _ _ _ us hl => match us, hl with | [_, _], _ => rfl
  have F29 := fun_mk (st := topS 29) l29 c29 k29
  have b29 := F29.binds (ps := ["machine", "registers", "slot"]) fun _ _ _ _ _ _ us hl => match us, hl with | [_, _, _], _ => rfl
  have F30 := fun_mk (st := topS 30) l30 c30 k30
  have b30 := F30.binds (ps := ["machine", "registers", "slot"]) fun _ _ _ _ _ _ us hl => match us, hl with | [_, _, _], _ => rfl
  have F31 := fun_mk (st := topS 31) l31 c31 k31
  have b31 := F31.binds (ps := ["machine", "registers", "slot"]) fun _ _ _ _ _ _ us hl => match us, hl with | [_, _, _], _ => rfl
  have F32 := fun_mk (st := topS 32) l32 c32 k32
  have b32 := F32.binds (ps := ["machine", "registers", "way"]) fun _ _ _ _ _ _ us hl => match us, hl with | [_, _, _], _ => rfl
  have F33 := fun_mk (st := topS 33) l33 c33 k33
  have b33 := F33.binds (ps := ["machine", "way"]) fun _ _ _ _ _ _ us hl => match us, hl with | [_, _], _ => rfl
  have F34 := fun_mk (st := topS 34) l34 c34 k34
  have b34 := F34.binds (ps := ["machine", "registers", "way"]) fun _ _ _ _ _ _ us hl => match us, hl with | [_, _, _], _ => rfl
  have F35 := fun_mk (st := topS 35) l35 c35 k35
  have b35 := F35.binds (ps := ["machine", "registers", "way"]) fun _ _ _ _ _ _ us hl => match us, hl with | [_, _, _], _ => rfl
  have F36 := fun_mk (st := topS 36) l36 c36 k36
  have b36 := F36.binds (ps := ["machine", "registers", "way"]) fun _ _ _ _ _ _ us hl => match us, hl with | [_, _, _], _ => rfl
  have F38 := fun_mk (st := topS 38) l38 c38 k38
  have b38 := F38.binds (ps := ["script", "k"]) fun _ _ _ _ _ _ us hl => match us, hl with | [_, _], _ => rfl
  have F39 := fun_mk (st := topS 39) l39 c39 k39
  have b39 := F39.binds (ps := ["tin", "below_so"]) fun _ _ _ _ _ _ us hl => match us, hl with | [_, _], _ => rfl
  have F40 := fun_mk (st := topS 40) l40 c40 k40
  have b40 := F40.binds (ps := ["script", "most_so"]) fun _ _ _ _ _ _ us hl => match us, hl with | [_, _], _ => rfl
  have F41 := fun_mk (st := topS 41) l41 c41 k41
  have b41 := F41.binds (ps := ["tin", "goods_so"]) fun _ _ _ _ _ _ us hl => match us, hl with | [_, _], _ => rfl
  have F42 := fun_mk (st := topS 42) l42 c42 k42
  have b42 := F42.binds (ps := ["tin", "goods_so", "count_so"]) fun _ _ _ _ _ _ us hl => match us, hl with | [_, _, _], _ => rfl
  have F43 := fun_mk (st := topS 43) l43 c43 k43
  have b43 := F43.binds (ps := ["got", "due"]) fun _ _ _ _ _ _ us hl => match us, hl with | [_, _], _ => rfl
  have F44 := fun_mk (st := topS 44) l44 c44 k44
  have b44 := F44.binds (ps := []) fun _ _ _ _ _ _ us hl => match us, hl with | [], _ => rfl
  have F45 := fun_mk (st := topS 45) l45 c45 k45
  have b45 := F45.binds (ps := ["p", "count_so"]) fun _ _ _ _ _ _ us hl => match us, hl with | [_, _], _ => rfl
  have F46 := fun_mk (st := topS 46) l46 c46 k46
  have b46 := F46.binds (ps := ["p", "parts_so", "spare_so"]) fun _ _ _ _ _ _ us hl => match us, hl with | [_, _, _], _ => rfl
  have F47 := fun_mk (st := topS 47) l47 c47 k47
  have b47 := F47.binds (ps := []) fun _ _ _ _ _ _ us hl => match us, hl with | [], _ => rfl
  have F48 := fun_mk (st := topS 48) l48 c48 k48
  have b48 := F48.binds (ps := ["p", "bits", "held_so", "crew"]) fun _ _ _ _ _ _ us hl => match us, hl with | [_, _, _, _], _ => rfl
  have F49 := fun_mk (st := topS 49) l49 c49 k49
  have b49 := F49.binds (ps := ["tin", "p", "count_so"]) fun _ _ _ _ _ _ us hl => match us, hl with | [_, _, _], _ => rfl
  have F50 := fun_mk (st := topS 50) l50 c50 k50
  refine ⟨PySem.W.fnOf "law" "law" (defArgs (topS 50)) (defBody (topS 50)) (defScope (topS 50)) .none kV50 dc50 pm50 an50 cd50 ct50, fun s v => .of_eq rfl, fun base _ _ => ?_⟩
  have C_is_number : C8.Cal l.prog w K mg base 1 "is_number" (spW K s_is_number) [] := cal_w (ok_is_number F4 B 0) (PySem.W.mg_of X G a4) k4 b4
  have C_tupled : C8.Cal l.prog w K mg base 9 "tupled" (spW K (s_tupled 8)) [] := cal_w (ok_tupled F5 B (PySem.W.mg_of X G a5) k5 b5 8) (PySem.W.mg_of X G a5) k5 b5
  have C_rises : C8.Cal l.prog w K mg base 1 "rises" (spW K s_rises) [] := cal_w (ok_rises F6 B) (PySem.W.mg_of X G a6) k6 b6
  have C_is_tuple_of : C8.Cal l.prog w K mg base 1 "is_tuple_of" (spW K s_is_tuple_of) [] := cal_w (ok_is_tuple_of F10 B) (PySem.W.mg_of X G a10) k10 b10
  have C_is_place : C8.Cal l.prog w K mg base 2 "is_place" (spW K s_is_place) [] := cal_w (ok_is_place F11 B C_is_number) (PySem.W.mg_of X G a11) k11 b11
  have C_is_set_below : C8.Cal l.prog w K mg base 3 "is_set_below" (spW K s_is_set_below) [] := cal_w (ok_is_set_below F12 B C_is_place C_rises) (PySem.W.mg_of X G a12) k12 b12
  have C_is_sum : C8.Cal l.prog w K mg base 4 "is_sum" (spW K s_is_sum) [] := cal_w (ok_is_sum F13 B C_is_tuple_of C_is_place C_is_set_below) (PySem.W.mg_of X G a13) k13 b13
  have C_is_item : C8.Cal l.prog w K mg base 5 "is_item" (spW K s_is_item) [] := cal_w (ok_is_item F14 B C_is_place C_is_sum) (PySem.W.mg_of X G a14) k14 b14
  have C_is_way : C8.Cal l.prog w K mg base 6 "is_way" (spW K s_is_way) [] := cal_w (ok_is_way F15 B C_is_item) (PySem.W.mg_of X G a15) k15 b15
  have C_inverse : C8.Cal l.prog w K mg base 1 "inverse" (spW K s_inverse) [] := cal_w (ok_inverse F17 B) (PySem.W.mg_of X G a17) k17 b17
  have C_times : C8.Cal l.prog w K mg base 1 "times" (spW K s_times) [] := cal_w (ok_times F18 B) (PySem.W.mg_of X G a18) k18 b18
  have C_less : C8.Cal l.prog w K mg base 1 "less" (spW K s_less) [] := cal_w (ok_less F19 B) (PySem.W.mg_of X G a19) k19 b19
  have C_lead_of : C8.Cal l.prog w K mg base 1 "lead_of" (spW K s_lead_of) [] := cal_w (ok_lead_of F20 B) (PySem.W.mg_of X G a20) k20 b20
  have C_reduced : C8.Cal l.prog w K mg base 2 "reduced" (spW K s_reduced) [] := cal_w (ok_reduced F21 B C_less C_lead_of) (PySem.W.mg_of X G a21) k21 b21
  have C_basis : C8.Cal l.prog w K mg base 10 "basis" (spW K s_basis) [] := cal_w (ok_basis F22 B C_tupled C_reduced C_lead_of C_times C_inverse C_less) (PySem.W.mg_of X G a22) k22 b22
  have C_rank : C8.Cal l.prog w K mg base 11 "rank" (spW K s_rank) [] := cal_w (ok_rank F23 B C_basis) (PySem.W.mg_of X G a23) k23 b23
  have C_sure_registers : C8.Cal l.prog w K mg base 1 "sure_registers" (spW K s_sure_registers) [] := cal_w (ok_sure_registers F28 B) (PySem.W.mg_of X G a28) k28 b28
  have C_sure_parts : C8.Cal l.prog w K mg base 2 "sure_parts" (spW K s_sure_parts) [] := cal_w (ok_sure_parts F29 B C_sure_registers) (PySem.W.mg_of X G a29) k29 b29
  have C_renewal_way : C8.Cal l.prog w K mg base 1 "renewal_way" (spW K s_renewal_way) [] := cal_w (ok_renewal_way F30 B) (PySem.W.mg_of X G a30) k30 b30
  have C_renewal : C8.Cal l.prog w K mg base 10 "renewal" (spW K s_renewal) [] := cal_w (ok_renewal F31 B C_tupled C_sure_parts C_renewal_way) (PySem.W.mg_of X G a31) k31 b31
  have C_sure_line_way : C8.Cal l.prog w K mg base 7 "sure_line_way" (spW K s_sure_line_way) [] := cal_w (ok_sure_line_way F32 B C_sure_registers C_is_way) (PySem.W.mg_of X G a32) k32 b32
  have C_held_behind : C8.Cal l.prog w K mg base 1 "held_behind" (spW K s_held_behind) [] := cal_w (ok_held_behind F33 B) (PySem.W.mg_of X G a33) k33 b33
  have C_keeps_sum : C8.Cal l.prog w K mg base 10 "keeps_sum" (spW K s_keeps_sum) [] := cal_w (ok_keeps_sum F34 B C_tupled C_sure_line_way C_held_behind) (PySem.W.mg_of X G a34) k34 b34
  have C_how_free : C8.Cal l.prog w K mg base 12 "how_free" (spW K s_how_free) [] := cal_w (ok_how_free F35 B C_tupled C_sure_line_way C_held_behind C_rank) (PySem.W.mg_of X G a35) k35 b35
  have C_renews : C8.Cal l.prog w K mg base 13 "renews" (spW K s_renews) [] := cal_w (ok_renews F36 B C_keeps_sum C_how_free) (PySem.W.mg_of X G a36) k36 b36
  have C_law_box : C8.Cal l.prog w K mg base 1 "_law_box" (spW K s_law_box) [] := cal_w (ok_law_box F38 B) (PySem.W.mg_of X G a38) k38 b38
  have C_law_take : C8.Cal l.prog w K mg base 1 "_law_take" (spW K s_law_take) [] := cal_w (ok_law_take F39 B) (PySem.W.mg_of X G a39) k39 b39
  have C_law_cells : C8.Cal l.prog w K mg base 1 "_law_cells" (spW K s_law_cells) [] := cal_w (ok_law_cells F40 B) (PySem.W.mg_of X G a40) k40 b40
  have C_law_of : C8.Cal l.prog w K mg base 2 "_law_of" (spW K s_law_of) [] := cal_w (ok_law_of F41 B C_law_take) (PySem.W.mg_of X G a41) k41 b41
  have C_law_pick : C8.Cal l.prog w K mg base 2 "_law_pick" (spW K s_law_pick) [] := cal_w (ok_law_pick F42 B C_law_take) (PySem.W.mg_of X G a42) k42 b42
  have C_law_same : C8.Cal l.prog w K mg base 9 "_law_same" (spW K (s_law_same 8)) [] := cal_w (ok_law_same F43 B (PySem.W.mg_of X G a43) k43 b43 8) (PySem.W.mg_of X G a43) k43 b43
  have C_law_plain : C8.Cal l.prog w K mg base 1 "_law_plain" (spW K s_law_plain) [] := cal_w (ok_law_plain F44 B) (PySem.W.mg_of X G a44) k44 b44
  have C_law_tuples : C8.Cal l.prog w K mg base 1 "_law_tuples" (spW K s_law_tuples) [] := cal_w (ok_law_tuples F45 B) (PySem.W.mg_of X G a45) k45 b45
  have C_law_fresh : C8.Cal l.prog w K mg base 1 "_law_fresh" (spW K s_law_fresh) [] := cal_w (ok_law_fresh F46 B) (PySem.W.mg_of X G a46) k46 b46
  have C_law_by_hand_right : C8.Cal l.prog w K mg base 14 "_law_by_hand_right" (spW K s_law_by_hand_right) [] := cal_w (ok_law_by_hand_right F47 B C_law_plain C_renewal C_keeps_sum C_renews C_how_free C_law_same) (PySem.W.mg_of X G a47) k47 b47
  have C_law_ends : C8.Cal l.prog w K mg base 2 "_law_ends" (spW K s_law_ends) [] := cal_w (ok_law_ends F48 B C_law_tuples) (PySem.W.mg_of X G a48) k48 b48
  have C_law_any_bits : C8.Cal l.prog w K mg base 3 "_law_any_bits" (spW K s_law_any_bits) [] := cal_w (ok_law_any_bits F49 B C_law_take C_law_pick) (PySem.W.mg_of X G a49) k49 b49
  exact ok_law plain F50 B C_law_by_hand_right C_law_box C_law_cells C_law_of C_law_plain C_law_take C_law_fresh C_law_any_bits C_how_free C_keeps_sum C_renews C_law_same C_law_tuples C_law_ends
theorem law_sp {K : PySem.W.Frag} {H : Hp} {a : Addr} {ns : List Int} {Q : VK} (hl : ns.length ≤ 63) (hS : SqL K H a (ns.map V.int)) (q : ∀ H', Q (.bl true) H') (E : XK) : spW K s_law [.ref a] H Q E := by
  refine ⟨H, [.dat (.scr (ns.map .int))], fun r _ => r = .dat (.bl true), Ex.refl _, .dat (.scr hS Reps.ints) .nil, List.nodup_nil, ⟨ns, rfl, hl, rfl⟩, fun r outs v F' H' hr f fh n kk g rt os => ?_⟩
  subst hr
  have e : v = .bl true := Rep.bl_eq rt
  subst e
  exact q H'
end V85

open PySem PySem.W PyProof.Rows
set_option maxHeartbeats 0 in
set_option maxRecDepth 100000 in
theorem PySem.Challenge.cw_anydlooks_k85_whole_renewals_by_counting_holds : PySem.Challenge.rw_anydlooks_k85_whole_renewals_by_counting.Holds := by
  w_on; o_law; k_head; (case hw => w_witness2)
  k_fill
  refine L2.walk_of (l := PySem.Challenge.rw_anydlooks_k85_whole_renewals_by_counting) (n := 63) (k := 15) (x := "script") (CX := fun _ => C8.CX0) (sp := fun w => VX.spW _ V85.s_law) rfl (by decide) rfl ⟨rfl, by decide, by decide⟩ (fun w h Y => PySem.W.kIn_of Y) ?F (fun _ _ a ns hl _ hS => V85.law_sp hl hS (fun _ => rfl) _) (fun _ _ _ _ _ h => h)
  case F =>
    intro w mg fa h KX G hmg
    refine' V85.all_mk KX G hmg ?a4 ?l4 ?c4 ?k4 ?a5 ?l5 ?c5 ?k5 ?a6 ?l6 ?c6 ?k6 ?a10 ?l10 ?c10 ?k10 ?a11 ?l11 ?c11 ?k11 ?a12 ?l12 ?c12 ?k12 ?a13 ?l13 ?c13 ?k13 ?a14 ?l14 ?c14 ?k14 ?a15 ?l15 ?c15 ?k15 ?a17 ?l17 ?c17 ?k17 ?a18 ?l18 ?c18 ?k18 ?a19 ?l19 ?c19 ?k19 ?a20 ?l20 ?c20 ?k20 ?a21 ?l21 ?c21 ?k21 ?a22 ?l22 ?c22 ?k22 ?a23 ?l23 ?c23 ?k23 ?a28 ?l28 ?c28 ?k28 ?a29 ?l29 ?c29 ?k29 ?a30 ?l30 ?c30 ?k30 ?a31 ?l31 ?c31 ?k31 ?a32 ?l32 ?c32 ?k32 ?a33 ?l33 ?c33 ?k33 ?a34 ?l34 ?c34 ?k34 ?a35 ?l35 ?c35 ?k35 ?a36 ?l36 ?c36 ?k36 ?a38 ?l38 ?c38 ?k38 ?a39 ?l39 ?c39 ?k39 ?a40 ?l40 ?c40 ?k40 ?a41 ?l41 ?c41 ?k41 ?a42 ?l42 ?c42 ?k42 ?a43 ?l43 ?c43 ?k43 ?a44 ?l44 ?c44 ?k44 ?a45 ?l45 ?c45 ?k45 ?a46 ?l46 ?c46 ?k46 ?a47 ?l47 ?c47 ?k47 ?a48 ?l48 ?c48 ?k48 ?a49 ?l49 ?c49 ?k49 ?a50 ?l50 ?c50 ?k50 ?z_len ?z_isinstance ?z_int ?z_bool ?z_tuple ?z_list ?z_str ?z_all ?z_any ?z_range ?z_zip ?z_enumerate ?z_sorted ?z_sum ?z_abs ?z_min ?z_set ?g_LEAST_WAYS ?g_MOST_WAYS ?g_DRAW ?g_SET ?g_FEWEST
    (case a4 => k_is); (case l4 => k_is); (case c4 => k_is); (case k4 => k_is); (case a5 => k_is); (case l5 => k_is); (case c5 => k_is); (case k5 => k_is); (case a6 => k_is); (case l6 => k_is); (case c6 => k_is); (case k6 => k_is); (case a10 => k_is); (case l10 => k_is); (case c10 => k_is); (case k10 => k_is); (case a11 => k_is); (case l11 => k_is); (case c11 => k_is); (case k11 => k_is); (case a12 => k_is); (case l12 => k_is); (case c12 => k_is); (case k12 => k_is); (case a13 => k_is); (case l13 => k_is); (case c13 => k_is); (case k13 => k_is); (case a14 => k_is); (case l14 => k_is); (case c14 => k_is); (case k14 => k_is); (case a15 => k_is); (case l15 => k_is); (case c15 => k_is); (case k15 => k_is); (case a17 => k_is); (case l17 => k_is); (case c17 => k_is); (case k17 => k_is); (case a18 => k_is); (case l18 => k_is); (case c18 => k_is); (case k18 => k_is); (case a19 => k_is); (case l19 => k_is); (case c19 => k_is); (case k19 => k_is); (case a20 => k_is); (case l20 => k_is); (case c20 => k_is); (case k20 => k_is); (case a21 => k_is); (case l21 => k_is); (case c21 => k_is); (case k21 => k_is); (case a22 => k_is); (case l22 => k_is); (case c22 => k_is); (case k22 => k_is); (case a23 => k_is); (case l23 => k_is); (case c23 => k_is); (case k23 => k_is); (case a28 => k_is); (case l28 => k_is); (case c28 => k_is); (case k28 => k_is); (case a29 => k_is); (case l29 => k_is); (case c29 => k_is); (case k29 => k_is); (case a30 => k_is); (case l30 => k_is); (case c30 => k_is); (case k30 => k_is); (case a31 => k_is); (case l31 => k_is); (case c31 => k_is); (case k31 => k_is); (case a32 => k_is); (case l32 => k_is); (case c32 => k_is); (case k32 => k_is); (case a33 => k_is); (case l33 => k_is); (case c33 => k_is); (case k33 => k_is); (case a34 => k_is); (case l34 => k_is); (case c34 => k_is); (case k34 => k_is); (case a35 => k_is); (case l35 => k_is); (case c35 => k_is); (case k35 => k_is); (case a36 => k_is); (case l36 => k_is); (case c36 => k_is); (case k36 => k_is); (case a38 => k_is); (case l38 => k_is); (case c38 => k_is); (case k38 => k_is); (case a39 => k_is); (case l39 => k_is); (case c39 => k_is); (case k39 => k_is); (case a40 => k_is); (case l40 => k_is); (case c40 => k_is); (case k40 => k_is); (case a41 => k_is); (case l41 => k_is); (case c41 => k_is); (case k41 => k_is); (case a42 => k_is); (case l42 => k_is); (case c42 => k_is); (case k42 => k_is); (case a43 => k_is); (case l43 => k_is); (case c43 => k_is); (case k43 => k_is); (case a44 => k_is); (case l44 => k_is); (case c44 => k_is); (case k44 => k_is); (case a45 => k_is); (case l45 => k_is); (case c45 => k_is); (case k45 => k_is); (case a46 => k_is); (case l46 => k_is); (case c46 => k_is); (case k46 => k_is); (case a47 => k_is); (case l47 => k_is); (case c47 => k_is); (case k47 => k_is); (case a48 => k_is); (case l48 => k_is); (case c48 => k_is); (case k48 => k_is); (case a49 => k_is); (case l49 => k_is); (case c49 => k_is); (case k49 => k_is); (case a50 => k_is); (case l50 => k_is); (case c50 => k_is); (case k50 => k_is); (case z_len => k_is); (case z_isinstance => k_is); (case z_int => k_is); (case z_bool => k_is); (case z_tuple => k_is); (case z_list => k_is); (case z_str => k_is); (case z_all => k_is); (case z_any => k_is); (case z_range => k_is); (case z_zip => k_is); (case z_enumerate => k_is); (case z_sorted => k_is); (case z_sum => k_is); (case z_abs => k_is); (case z_min => k_is); (case z_set => k_is); (case g_LEAST_WAYS => k_is); (case g_MOST_WAYS => k_is); (case g_DRAW => k_is); (case g_SET => k_is); (case g_FEWEST => k_is)
